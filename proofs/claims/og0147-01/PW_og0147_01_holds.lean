import PyProof.Rows.All
import Wide.All
import OpenK.AllK
import Wide.FinOn
import Lean
import PySem.Challenge.RW_og0147_01
open PySem PySem.W PyProof.Rows
set_option Elab.async false
set_option maxRecDepth 100000
set_option maxHeartbeats 3000000
set_option compiler.extract_closed false
namespace Mine
open_top hd for PySem.Challenge.rw_og0147_01
/-- a held call: the walk stops here, a contract goes on -/
structure Held (p : Prop) : Prop where
  out : p
theorem hold {α : Type} {M : Model} {A : Around} {t : Sem α} {Q : α → Shared → Prop} {E : Value → Shared → Prop} {s : Shared}
    (h : Held (wpAny M A t Q E s)) : wpAny M A t Q E s := h.out
/-- the ifs at which a walk is met half way -/
inductive HIf : Expr → Prop where
  | draw {p a b c d e f} : HIf (.Compare (.Call (.Name (PySem.Str.ofString "_law_draw") p) a b c) d e f)
  | box {p vs q} : HIf (.BoolOp .And (.Name (PySem.Str.ofString "cells") p :: vs) q)
theorem hold_if {M : Model} {A : Around} {c : Expr} {b o : List Stmt} {p : Pos} {env : Env} {Q : Flow → Shared → Prop} {E : Value → Shared → Prop} {s : Shared} (_ : HIf c)
    (h : Held (wpAny M A (exec (.If c b o p) env) Q E s)) : wpAny M A (exec (.If c b o p) env) Q E s := h.out
/-- the ledger bears a Decimal (top, places) at v -/
def DecIn (ρ : Params) (news : List (Addr × Obj)) (v : Value) (top pl : Int) : Prop :=
  ∃ (x d : Addr) (k1 k2 t1 t2 : Tok), v = .ref x ∧ (x, instObj 143 d) ∈ news ∧
    (d, dictOf [⟨PyData.keyHash ρ (Str.ofString "top"), .str (Str.ofString "top") k1, .int top t1⟩, ⟨PyData.keyHash ρ (Str.ofString "places"), .str (Str.ofString "places") k2, .int pl t2⟩] 2) ∈ news
/-- top / 10^pl in tenths -/
def Ten (top pl X : Int) : Prop := (pl = 0 ∧ X = 10 * top) ∨ (pl = 1 ∧ X = top)
theorem Ten.le {t p X : Int} (h : Ten t p X) : 0 ≤ p ∧ p ≤ 1 := by rcases h with ⟨rfl, _⟩ | ⟨rfl, _⟩ <;> omega
/-- a Decimal of P places or fewer, its value in tenths X -/
def DecV (ρ : Params) (P : Int) (news : List (Addr × Obj)) (v : Value) (X : Int) : Prop := ∃ t p, DecIn ρ news v t p ∧ Ten t p X ∧ p ≤ P
/-- an int or a Decimal -/
def NumV (ρ : Params) (news : List (Addr × Obj)) (v : Value) (X : Int) : Prop := (∃ i t, v = .int i t ∧ X = 10 * i) ∨ DecV ρ 1 news v X
noncomputable abbrev tupOf (its : Array Value) (n : Nat) : Obj := { cls := .type "tuple", data := .seq its n }
def PtIn (ρ : Params) (P : Int) (news : List (Addr × Obj)) (v : Value) (p : Int × Int) : Prop :=
  ∃ (t : Addr) (n : Nat) (a b : Value), v = .ref t ∧ (t, tupOf #[a, b] n) ∈ news ∧ DecV ρ P news a p.1 ∧ DecV ρ P news b p.2
/-- two lists, item by item -/
inductive All2 {α β : Type} (R : α → β → Prop) : List α → List β → Prop where
  | nil : All2 R [] []
  | cons {a b as bs} : R a b → All2 R as bs → All2 R (a :: as) (b :: bs)
def RingIn (ρ : Params) (P : Int) (news : List (Addr × Obj)) (v : Value) (r : List (Int × Int)) : Prop :=
  ∃ (l : Addr) (n : Nat) (vs : List Value), v = .ref l ∧ (l, listOf vs.toArray n) ∈ news ∧ All2 (PtIn ρ P news) vs r
def PolysIn (ρ : Params) (P : Int) (news : List (Addr × Obj)) (v : Value) (r : List (List (Int × Int))) : Prop :=
  ∃ (l : Addr) (n : Nat) (vs : List Value), v = .ref l ∧ (l, listOf vs.toArray n) ∈ news ∧ All2 (RingIn ρ P news) vs r
/-- what is no iterator of a loop -/
def good (o : Obj) : Prop := o.cls = .ref 143 ∨ o.cls = .type "tuple" ∨ o.cls = .type "list" ∨ o.cls = .type "dict"
def Sub (news news' : List (Addr × Obj)) : Prop := ∀ q ∈ news, q ∈ news'
def Lub (news news' : List (Addr × Obj)) : Prop := ∀ q ∈ news, good q.2 → q ∈ news'
theorem Sub.lub {a b : List (Addr × Obj)} (h : Sub a b) : Lub a b := fun q hq _ => h q hq
theorem Sub.refl {news : List (Addr × Obj)} : Sub news news := fun _ h => h
theorem Sub.trans {a b c : List (Addr × Obj)} (h : Sub a b) (h' : Sub b c) : Sub a c := fun q hq => h' q (h q hq)
theorem Sub.cons {a : List (Addr × Obj)} {q : Addr × Obj} : Sub a (q :: a) := fun _ h => List.mem_cons_of_mem _ h
theorem Sub.cons' {a b : List (Addr × Obj)} {q : Addr × Obj} (h : Sub a b) : Sub a (q :: b) := fun _ h' => List.mem_cons_of_mem _ (h _ h')
/-- what a loop's end may drop: its own iterator alone -/
def Kept (news nx nx' : List (Addr × Obj)) : Prop := ∀ q ∈ nx, good q.2 ∨ q ∈ news → q ∈ nx'
theorem Kept.lub {news a b : List (Addr × Obj)} (h : Kept news a b) : Lub a b := fun q hq g => h q hq (.inl g)
theorem Kept.sub {news a b : List (Addr × Obj)} (h : Kept news a b) (hs : Sub news a) : Sub news b := fun q hq => h q (hs q hq) (.inr hq)
theorem Sub.cons3 {a : List (Addr × Obj)} {x y z : Addr × Obj} : Sub a (x :: y :: z :: a) := fun _ h => List.mem_cons_of_mem _ (List.mem_cons_of_mem _ (List.mem_cons_of_mem _ h))
/-- the ledger grows: what is new lies above all that was -/
structure Gro (news news' : List (Addr × Obj)) : Prop where
  sub : Sub news news'
  new : ∀ q ∈ news', q ∈ news ∨ ∀ p ∈ news, @LT.lt Nat _ p.1 q.1
theorem Gro.refl {news : List (Addr × Obj)} : Gro news news := ⟨Sub.refl, fun _ h => .inl h⟩
theorem Gro.trans {a b c : List (Addr × Obj)} (h : Gro a b) (h' : Gro b c) : Gro a c :=
  ⟨h.sub.trans h'.sub, fun q hq => (h'.new q hq).elim (fun h1 => h.new q h1) fun h1 => .inr fun p hp => h1 p (h.sub p hp)⟩
theorem Gro.one {news : List (Addr × Obj)} {d : Addr} {o : Obj} (h : ∀ p ∈ news, p.1 < d) : Gro news ((d, o) :: news) := by
  refine ⟨Sub.cons, fun q hq => ?_⟩
  rcases List.mem_cons.mp hq with rfl | hq
  · exact .inr h
  · exact .inl hq
theorem Gro.two {news : List (Addr × Obj)} {d x : Addr} {o o' : Obj} (h : ∀ p ∈ news, p.1 < d) (h2 : @LT.lt Nat _ d x) : Gro news ((x, o) :: (d, o') :: news) := by
  refine (Gro.one h).trans (Gro.one fun p hp => ?_)
  rcases List.mem_cons.mp hp with rfl | hp
  · exact h2
  · exact Nat.lt_trans (h p hp) h2
theorem Lub.refl {news : List (Addr × Obj)} : Lub news news := fun _ h _ => h
theorem Lub.trans {a b c : List (Addr × Obj)} (h : Lub a b) (h' : Lub b c) : Lub a c := fun q hq g => h' q (h q hq g) g
section
variable {ρ : Params} {P P' : Int} {news news' : List (Addr × Obj)} {v : Value}
theorem good_list {its : Array Value} {n : Nat} : good (listOf its n) := .inr (.inr (.inl rfl))
theorem good_tup {its : Array Value} {n : Nat} : good (tupOf its n) := .inr (.inl rfl)
theorem DecIn.lub {t p : Int} (h : DecIn ρ news v t p) (hs : Lub news news') : DecIn ρ news' v t p := by
  obtain ⟨x, d, k1, k2, t1, t2, e, h1, h2⟩ := h
  exact ⟨x, d, k1, k2, t1, t2, e, hs _ h1 (.inl rfl), hs _ h2 (.inr (.inr (.inr rfl)))⟩
theorem DecV.lub {X : Int} (h : DecV ρ P news v X) (hs : Lub news news') : DecV ρ P news' v X := by
  obtain ⟨t, p, h1, h2⟩ := h
  exact ⟨t, p, h1.lub hs, h2⟩
theorem DecV.le {X : Int} (h : DecV ρ P news v X) (hp : P ≤ P') : DecV ρ P' news v X := by
  obtain ⟨t, p, h1, h2, h3⟩ := h
  exact ⟨t, p, h1, h2, by omega⟩
/-- fr: a part of the ledger, its entries from the part `old` or above all of `base` -/
structure Part (base old fr news : List (Addr × Obj)) : Prop where
  sub : Sub fr news
  from_ : ∀ q ∈ fr, q ∈ old ∨ ∀ p ∈ base, @LT.lt Nat _ p.1 q.1
theorem part_two {news : List (Addr × Obj)} {d x : Addr} {o o' : Obj} (h : ∀ p ∈ news, p.1 < d) (h2 : @LT.lt Nat _ d x) : Part news [] [(x, o), (d, o')] ((x, o) :: (d, o') :: news) := by
  refine ⟨?_, ?_⟩
  · intro q hq
    simp only [List.mem_cons, List.not_mem_nil, or_false] at hq ⊢
    rcases hq with hq | hq <;> simp only [hq, true_or, or_true]
  · intro q hq
    right
    simp only [List.mem_cons, List.not_mem_nil, or_false] at hq
    rcases hq with rfl | rfl
    · exact fun p hp => Nat.lt_trans (h p hp) h2
    · exact h
theorem NumV.lub {X : Int} (h : NumV ρ news v X) (hs : Lub news news') : NumV ρ news' v X := h.imp id fun h => h.lub hs
theorem PtIn.lub {p : Int × Int} (h : PtIn ρ P news v p) (hs : Lub news news') : PtIn ρ P news' v p := by
  obtain ⟨t, n, a, b, e, h1, h2, h3⟩ := h
  exact ⟨t, n, a, b, e, hs _ h1 good_tup, h2.lub hs, h3.lub hs⟩
theorem PtIn.le {p : Int × Int} (h : PtIn ρ P news v p) (hp : P ≤ P') : PtIn ρ P' news v p := by
  obtain ⟨t, n, a, b, e, h1, h2, h3⟩ := h
  exact ⟨t, n, a, b, e, h1, h2.le hp, h3.le hp⟩
theorem All2.imp {α β : Type} {R R' : α → β → Prop} (hi : ∀ a b, R a b → R' a b) {as : List α} {bs : List β} (h : All2 R as bs) : All2 R' as bs := by
  induction h with
  | nil => exact .nil
  | cons h _ ih => exact .cons (hi _ _ h) ih
theorem All2.length {α β : Type} {R : α → β → Prop} {as : List α} {bs : List β} (h : All2 R as bs) : as.length = bs.length := by
  induction h with
  | nil => rfl
  | cons _ _ ih => simp [ih]
theorem All2.get {α β : Type} {R : α → β → Prop} {as : List α} {bs : List β} (h : All2 R as bs) : ∀ (i : Nat) (a : α), as[i]? = some a → ∃ b, bs[i]? = some b ∧ R a b := by
  induction h with
  | nil => intro i a h; simp at h
  | cons hr _ ih =>
    intro i a h
    cases i with
    | zero => simp at h; subst h; exact ⟨_, rfl, hr⟩
    | succ i => simpa using ih i a (by simpa using h)
theorem All2.of_get {α β : Type} {R : α → β → Prop} : ∀ {as : List α} {bs : List β}, as.length = bs.length → (∀ (i : Nat) a b, as[i]? = some a → bs[i]? = some b → R a b) → All2 R as bs
  | [], [], _, _ => .nil
  | [], _ :: _, h, _ => by simp at h
  | _ :: _, [], h, _ => by simp at h
  | a :: as, b :: bs, h, hr => .cons (hr 0 a b rfl rfl) (All2.of_get (by simpa using h) fun i a' b' ha hb => hr (i + 1) a' b' (by simpa using ha) (by simpa using hb))
theorem All2.append {α β : Type} {R : α → β → Prop} {as as' : List α} {bs bs' : List β} (h : All2 R as bs) (h' : All2 R as' bs') : All2 R (as ++ as') (bs ++ bs') := by
  induction h with
  | nil => exact h'
  | cons hr _ ih => exact .cons hr ih
theorem All2.reverse {α β : Type} {R : α → β → Prop} {as : List α} {bs : List β} (h : All2 R as bs) : All2 R as.reverse bs.reverse := by
  induction h with
  | nil => exact .nil
  | cons hr _ ih => rw [List.reverse_cons, List.reverse_cons]; exact ih.append (.cons hr .nil)
theorem All2.take {α β : Type} {R : α → β → Prop} {as : List α} {bs : List β} (h : All2 R as bs) (n : Nat) : All2 R (as.take n) (bs.take n) := by
  induction h generalizing n with
  | nil => simp; exact .nil
  | cons hr _ ih => cases n with
    | zero => exact .nil
    | succ n => exact .cons hr (ih n)
theorem All2.drop {α β : Type} {R : α → β → Prop} {as : List α} {bs : List β} (h : All2 R as bs) (n : Nat) : All2 R (as.drop n) (bs.drop n) := by
  induction h generalizing n with
  | nil => simp; exact .nil
  | cons hr ht ih => cases n with
    | zero => exact .cons hr ht
    | succ n => exact ih n
theorem RingIn.lub {r : List (Int × Int)} (h : RingIn ρ P news v r) (hs : Lub news news') : RingIn ρ P news' v r := by
  obtain ⟨l, n, vs, e, h1, h2⟩ := h
  exact ⟨l, n, vs, e, hs _ h1 good_list, h2.imp fun _ _ h => h.lub hs⟩
theorem RingIn.le {r : List (Int × Int)} (h : RingIn ρ P news v r) (hp : P ≤ P') : RingIn ρ P' news v r := by
  obtain ⟨l, n, vs, e, h1, h2⟩ := h
  exact ⟨l, n, vs, e, h1, h2.imp fun _ _ h => h.le hp⟩
theorem PolysIn.lub {r : List (List (Int × Int))} (h : PolysIn ρ P news v r) (hs : Lub news news') : PolysIn ρ P news' v r := by
  obtain ⟨l, n, vs, e, h1, h2⟩ := h
  exact ⟨l, n, vs, e, hs _ h1 good_list, h2.imp fun _ _ h => h.lub hs⟩
theorem PolysIn.le {r : List (List (Int × Int))} (h : PolysIn ρ P news v r) (hp : P ≤ P') : PolysIn ρ P' news v r := by
  obtain ⟨l, n, vs, e, h1, h2⟩ := h
  exact ⟨l, n, vs, e, h1, h2.imp fun _ _ h => h.le hp⟩
theorem DecV.mono {X : Int} (h : DecV ρ P news v X) (hs : Sub news news') : DecV ρ P news' v X := h.lub hs.lub
theorem NumV.mono {X : Int} (h : NumV ρ news v X) (hs : Sub news news') : NumV ρ news' v X := h.lub hs.lub
theorem PtIn.mono {p : Int × Int} (h : PtIn ρ P news v p) (hs : Sub news news') : PtIn ρ P news' v p := h.lub hs.lub
theorem RingIn.mono {r : List (Int × Int)} (h : RingIn ρ P news v r) (hs : Sub news news') : RingIn ρ P news' v r := h.lub hs.lub
theorem PolysIn.mono {r : List (List (Int × Int))} (h : PolysIn ρ P news v r) (hs : Sub news news') : PolysIn ρ P news' v r := h.lub hs.lub
end
theorem pow10 {prog : Program} {w : World} {A : Around} {n : Int} {t u : Tok} {Q : Value → Shared → Prop} {E : Value → Shared → Prop} {s : Shared} (h0 : 0 ≤ n) (h1 : n ≤ 1)
    (h : ∀ k : Int, k = 10 ^ n.toNat → 1 ≤ k → k ≤ 10 → Q (.int k s.toks) { s with toks := s.toks + 1 }) : wpAny (model prog w) A (binaryOp .Pow (.int 10 t) (.int n u)) Q E s := by
  have hn : n = 0 ∨ n = 1 := by omega
  refine pow_int_small h0 (by omega) (by decide) (h _ rfl ?_ ?_) <;> rcases hn with rfl | rfl <;> decide
theorem dpl {dp a b c : Nat} (h : dp + a < recursionLimit) (e : c + b ≤ a) : dp + c + b < recursionLimit := by
  rw [Nat.add_assoc]; exact Nat.lt_of_le_of_lt (Nat.add_le_add_left e dp) h
theorem mx_l {p q : Int} (h : 0 ≤ p ∧ p ≤ 1) (h' : 0 ≤ q ∧ q ≤ 1) : 0 ≤ (if q > p then q else p) - p ∧ (if q > p then q else p) - p ≤ 1 := by split <;> omega
theorem mx_r {p q : Int} (h : 0 ≤ p ∧ p ≤ 1) (h' : 0 ≤ q ∧ q ≤ 1) : 0 ≤ (if q > p then q else p) - q ∧ (if q > p then q else p) - q ≤ 1 := by split <;> omega
theorem pl_d {p P : Int} (h : 0 ≤ p ∧ p ≤ 1) (h1 : p ≤ P) (h2 : P ≤ 1) : 0 ≤ P - p ∧ P - p ≤ 1 := by omega
/-- two numbers at one scale -/
theorem ten_scale {t1 p1 X1 t2 p2 X2 P k1 k2 : Int} (h1 : Ten t1 p1 X1) (h2 : Ten t2 p2 X2) (hP : P = if p2 > p1 then p2 else p1) (hk1 : k1 = 10 ^ (P - p1).toNat) (hk2 : k2 = 10 ^ (P - p2).toNat) :
    (P = 0 ∧ X1 = 10 * (t1 * k1) ∧ X2 = 10 * (t2 * k2)) ∨ (P = 1 ∧ X1 = t1 * k1 ∧ X2 = t2 * k2) := by
  subst hk1 hk2
  rcases h1 with ⟨rfl, rfl⟩ | ⟨rfl, rfl⟩ <;> rcases h2 with ⟨rfl, rfl⟩ | ⟨rfl, rfl⟩ <;> simp at hP <;> subst hP <;> simp <;> omega
theorem ten_at {t p X P k : Int} (h : Ten t p X) (hp : p ≤ P) (hP : P ≤ 1) (hk : k = 10 ^ (P - p).toNat) : Ten (t * k) P X := by
  subst hk
  rcases h with ⟨rfl, rfl⟩ | ⟨rfl, rfl⟩
  · have : P = 0 ∨ P = 1 := by omega
    rcases this with rfl | rfl
    · left; simp
    · right; simp; omega
  · have : P = 1 := by omega
    subst this
    right; simp
theorem ten_sum {p X1 X2 i1 i2 : Int} (h : (p = 0 ∧ X1 = 10 * i1 ∧ X2 = 10 * i2) ∨ (p = 1 ∧ X1 = i1 ∧ X2 = i2)) : Ten (i1 + i2) p (X1 + X2) := by
  rcases h with ⟨h1, h2, h3⟩ | ⟨h1, h2, h3⟩
  · exact .inl ⟨h1, by omega⟩
  · exact .inr ⟨h1, by omega⟩
theorem ten_init {top pl k X : Int} (h : Ten top pl X) (h1 : k ≤ pl) (h2 : min pl 0 ≤ k)
    (h3 : ∀ (j : Int), k < j → j ≤ pl → (if 0 < j then if ((accDown (fun _ x => x.fdiv 10) pl top j).fmod 10 == 0) = true then true else false else false) = true) :
    Ten (accDown (fun _ x => x.fdiv 10) pl top k) k X := by
  rcases h with ⟨rfl, rfl⟩ | ⟨rfl, rfl⟩
  · have : k = 0 := by omega
    subst this
    rw [accDown_start]; exact .inl ⟨rfl, rfl⟩
  · have : k = 0 ∨ k = 1 := by omega
    rcases this with rfl | rfl
    · have e := h3 1 (by omega) (by omega)
      rw [accDown_start] at e
      have e' : (X.fmod 10 == 0) = true := by
        by_cases hq : (X.fmod 10 == 0) = true
        · exact hq
        · simp [hq] at e
      have e2 := accDown_succ (g := fun _ x => x.fdiv 10) (k₀ := 1) (k := 1) (x₀ := X) (by omega)
      rw [accDown_start] at e2
      have e3 : accDown (fun _ x => x.fdiv 10) (1 : Int) X 0 = X.fdiv 10 := e2
      rw [e3]
      refine .inl ⟨rfl, ?_⟩
      have e4 : X.fmod 10 = 0 := by simpa using e'
      rw [Int.fmod_eq_emod_of_nonneg _ (by omega)] at e4
      rw [Int.fdiv_eq_ediv_of_nonneg _ (by omega)]
      omega
    · rw [accDown_start]; exact .inr ⟨rfl, rfl⟩
theorem ne_cls {h₀ h : Heap} {L a b : Addr} {o o' : Obj} {nx : List (Addr × Obj)} (N : News h₀ L h nx) (h1 : (a, o) ∈ nx) (h2 : (b, o') ∈ nx) (hne : o.cls ≠ o'.cls) : a ≠ b := by
  intro e
  subst e
  have e1 := (N _ h1).1
  have e2 := (N _ h2).1
  have e3 : o = o' := Option.some.inj (e1.symm.trans e2)
  exact hne (e3 ▸ rfl)
theorem ne_good {h₀ h : Heap} {L a b : Addr} {o o' : Obj} {nx : List (Addr × Obj)} (N : News h₀ L h nx) (h1 : (a, o) ∈ nx) (h2 : (b, o') ∈ nx) (hb : ¬ good o) (hg : good o') : a ≠ b := by
  intro e
  subst e
  have e1 := (N _ h1).1
  have e2 := (N _ h2).1
  have e3 : o = o' := Option.some.inj (e1.symm.trans e2)
  exact hb (e3 ▸ hg)
/-- the ledger with D's entry anew -/
noncomputable def anew (D : Addr) (o : Obj) (nx : List (Addr × Obj)) : List (Addr × Obj) := (D, o) :: nx.filter (fun p => p.1 != D)
theorem anew_here {D : Addr} {o : Obj} {nx : List (Addr × Obj)} : (D, o) ∈ anew D o nx := List.mem_cons_self
theorem anew_else {D : Addr} {o : Obj} {nx : List (Addr × Obj)} {q : Addr × Obj} (h : q ∈ nx) (hne : q.1 ≠ D) : q ∈ anew D o nx := List.mem_cons_of_mem _ (List.mem_filter.mpr ⟨h, by simpa using hne⟩)
theorem anew_split {h₀ h : Heap} {L D : Addr} {o : Obj} {nx : List (Addr × Obj)} (N : News h₀ L h nx) (hm : (D, o) ∈ nx) : News h₀ L h (anew D o nx) := fun p hp => by
  rcases List.mem_cons.mp hp with rfl | hp
  · exact N _ hm
  · exact N _ (List.mem_filter.mp hp).1
theorem anew_ne {D : Addr} {nx : List (Addr × Obj)} : ∀ q ∈ nx.filter (fun p => p.1 != D), q.1 ≠ D := fun q hq => by simpa using (List.mem_filter.mp hq).2
theorem append_M {prog : Program} {w : World} {A : Around} {E Q : Value → Shared → Prop} {s : Shared} {h₀ : Heap} {L D : Addr} {m : Str → Option Value} {nx : List (Addr × Obj)} {vs : List Value} {n : Nat} {x : Value}
    (F : Fr h₀ L s.heap m) (N : News h₀ L s.heap nx) (hm : (D, listOf vs.toArray n) ∈ nx) (hsz : vs.length ≤ sizeLine)
    (h : ∀ h', Fr h₀ L h' m → News h₀ L h' (anew D (listOf (vs ++ [x]).toArray (n + 1)) nx) → Q .none { s with heap := h' }) :
    wpAny (model prog w) A (call (.builtin "list.append") [.ref D, x]) Q E s := by
  refine append_K F (anew_split N hm) (Upd.head anew_ne) (fun h' F' N' => h h' F' ?_) (by simpa using hsz)
  have e : vs.toArray.push x = (vs ++ [x]).toArray := by simp
  rw [e] at N'
  exact N'
theorem fr_know {h₀ h : Heap} {L : Addr} {m : Str → Option Value} (F : Fr h₀ L h m) (x : Str) {v : Value} (hv : m x = some v) : Fr h₀ L h (fun y => if y = x then some v else m y) := by
  have e : (fun y => if y = x then some v else m y) = m := by
    funext y
    by_cases h : y = x
    · subst h; rw [if_pos rfl, hv]
    · rw [if_neg h]
  rw [e]; exact F
theorem max3 {prog : Program} {w : World} {A : Around} {E Q : Value → Shared → Prop} {s : Shared} {h₀ : Heap} {L : Addr} {m : Str → Option Value} {news : List (Addr × Obj)} {a b c : Int} {t u x : Tok}
    (hh : A.handled = none) (F : Fr h₀ L s.heap m) (N : News h₀ L s.heap news)
    (h : ∀ M tM h' tk, a ≤ M → b ≤ M → c ≤ M → (M = a ∨ M = b ∨ M = c) → Fr h₀ L h' m → News h₀ L h' news → Q (.int M tM) { s with heap := h', toks := tk }) :
    wpAny (model prog w) A (call (.builtin "max") [.int a t, .int b u, .int c x]) Q E s := by
  refine max_three_ints hh fun h' tk hk => ?_
  have F' := F.grownK hk
  have N' := N.grown hk
  by_cases hba : b > a
  · rw [if_pos hba]
    by_cases hc1 : c > b
    · rw [if_pos hc1]; exact h _ _ _ _ (Int.le_of_lt (Int.lt_trans hba hc1)) (Int.le_of_lt hc1) (Int.le_refl _) (.inr (.inr rfl)) F' N'
    · rw [if_neg hc1]; exact h _ _ _ _ (Int.le_of_lt hba) (Int.le_refl _) (Int.not_lt.mp hc1) (.inr (.inl rfl)) F' N'
  · rw [if_neg hba]
    by_cases hc2 : c > a
    · rw [if_pos hc2]; exact h _ _ _ _ (Int.le_of_lt hc2) (Int.le_trans (Int.not_lt.mp hba) (Int.le_of_lt hc2)) (Int.le_refl _) (.inr (.inr rfl)) F' N'
    · rw [if_neg hc2]; exact h _ _ _ _ (Int.le_refl _) (Int.not_lt.mp hba) (Int.not_lt.mp hc2) (.inl rfl) F' N'
/-- a turn's end under loopT -/
def TurnEnd (h₀ : Heap) (L : Addr) (own : List (Addr × Obj)) (J : (Str → Option Value) → List (Addr × Obj) → Prop) (s₁ : Shared) (f : Flow) (s₂ : Shared) : Prop :=
  f = .next ∧ ∃ h' tk m' nx, s₂ = { s₁ with heap := h', toks := tk } ∧ Fr h₀ L h' m' ∧ News h₀ L h' nx ∧ (∀ p ∈ own, p ∈ nx) ∧ J m' nx
theorem range_len (n : Nat) : Builtin.Range.rangeSize 0 (n : Int) 1 = (n : Int) := by rw [rangeSize_one]; split <;> omega
theorem range_small (n : Nat) (hn : n ≤ 1000000) : Builtin.Range.small 0 (n : Int) 1 = true := small_one (by omega) (by omega) (by omega) (by omega)
section
variable {prog : Program} {w : World} {A : Around} {E : Value → Shared → Prop} {s : Shared} {env : Env} {h₀ : Heap} {target : Expr} {body : List Stmt} {Q : Flow → Shared → Prop}
theorem loopT {I : Addr} {fp : List Addr} {n : Nat} {P : Nat → Value → Prop} {St : Nat → Heap → Prop} {m : Str → Option Value} {news : List (Addr × Obj)}
    (J : Nat → (Str → Option Value) → List (Addr × Obj) → Prop) (W : Walks prog w A I fp [I] n P St) (hLf : env.locals ∉ fp) (hI : h₀.get? I = none) (hIn : ∀ p ∈ news, p.1 ≠ I)
    (hst : St 0 s.heap) (F : Fr h₀ env.locals s.heap m) (N : News h₀ env.locals s.heap news)
    (hgo : ∀ i (s' : Shared) v (Q' : Unit → Shared → Prop), St i s'.heap → Q' () s' → wpAny (model prog w) A (letOwnedTupleGo target (.ref I) v) Q' E s')
    (hSt : ∀ i h, St i h → ∃ o, h.get? I = some o ∧ ¬ good o)
    (hJ : ∀ i m nx nx', J i m nx → Kept news nx nx' → J i m nx') (h0 : J 0 m news)
    (turn : ∀ i v m₁ nx own (s₁ : Shared), i < n → P i v → J i m₁ nx → (∀ p ∈ own, p ∈ nx) → (∀ p ∈ own, p.1 ∈ fp ∧ (p.1 = I → ¬ good p.2)) → Fr h₀ env.locals s₁.heap m₁ → News h₀ env.locals s₁.heap nx →
      wpAny (model prog w) A (assign target env v) (fun _ s₃ => wpAny (model prog w) A (execs body env) (TurnEnd h₀ env.locals own (J (i + 1)) s₁) E s₃) E s₁)
    (done : ∀ h' tk m' nx, Fr h₀ env.locals h' m' → News h₀ env.locals h' nx → J n m' nx → Q .next { s with heap := h', toks := tk }) :
    LoopAtT prog w A h₀ env target body Q E (.ref I) s := by
  refine ⟨I, fp, [I], n, P, St, m, news, J, rfl, W, hLf, ?_, ?_, hst, F, N, hgo, h0, ?_, ?_⟩
  · intro b hb; rw [List.mem_singleton.mp hb]; exact hI
  · intro p hp hw; exact hIn p hp (List.mem_singleton.mp hw)
  · intro i v m₁ news₁ s₁ own hi hP hJ1 hoff hfp hown hmem hst1 F1 N1
    obtain ⟨oI, hoI, hng⟩ := hSt _ _ hst1
    have hIo : (I, oI) ∈ own := hmem I (W.sub I (List.mem_singleton.mpr rfl)) hI oI hoI
    have hJ2 : J i m₁ (own ++ news₁) := hJ _ _ _ _ hJ1 fun q hq _ => List.mem_append_right _ hq
    refine wpAny_mono (turn i v m₁ (own ++ news₁) own s₁ hi hP hJ2 (fun p hp => List.mem_append_left _ hp)
      (fun p hp => ⟨hfp p hp, fun e g => hng ((Option.some.inj ((hown p hp).symm.trans (e ▸ hoI)) : p.2 = oI) ▸ g)⟩) F1 N1) (fun _ s₃ h₃ => wpAny_mono h₃ (fun f s₄ h₄ => ?_) fun _ _ e => e) fun _ _ e => e
    obtain ⟨rfl, h', tk, m', nx, rfl, F', N', ho, hj⟩ := h₄
    refine ⟨rfl, h', tk, m', nx.filter (fun p => p.1 != I), rfl, F', ?_, ?_, ?_⟩
    · intro p hp
      rcases List.mem_append.mp hp with hp | hp
      · exact N' p (ho p hp)
      · exact N' p (List.mem_filter.mp hp).1
    · intro p hp hw
      have := (List.mem_filter.mp hp).2
      rw [List.mem_singleton.mp hw] at this
      simp at this
    · refine hJ _ _ _ _ hj fun q hq hg => List.mem_filter.mpr ⟨hq, ?_⟩
      have hne : q.1 ≠ I := by
        intro e
        have hg : good q.2 := by
          rcases hg with hg | hg
          · exact hg
          · exact absurd e (hIn q hg)
        have h1 := (N' q hq).1
        have h2 := (N' _ (ho _ hIo)).1
        rw [e] at h1
        have h3 : q.2 = oI := Option.some.inj (h1.symm.trans h2)
        exact hng (h3 ▸ hg)
      simpa using hne
  · intro h' tk m' news' F' N' _ hj
    exact done h' tk m' news' F' N' hj
theorem goList {I l : Addr} {i : Nat} {v : Value} {R : Unit → Shared → Prop} {s' : Shared} (hi : s'.heap.IsListIter I l i) (h : R () s') : wpAny (model prog w) A (letOwnedTupleGo target (.ref I) v) R E s' := by
  have hp : wpAny (model prog w) A (pure () : Sem Unit) R E s' := wpAny_pure h
  have ht : ∀ es x p, wpAny (model prog w) A (letOwnedTupleGo (.Tuple es x p) (.ref I) v) R E s' := by
    intro es x p
    cases v with
    | ref T => exact wpAny_letOwnedTupleGo_listiter hi h
    | _ => exact hp
  have hl : ∀ es p, wpAny (model prog w) A (letOwnedTupleGo (.List es p) (.ref I) v) R E s' := by
    intro es p
    have e : letOwnedTupleGo (.List es p) (.ref I) v = letOwnedTupleGo (.Tuple es 0 p) (.ref I) v := rfl
    rw [e]; exact ht es 0 p
  cases target with
  | Tuple es x p => exact ht es x p
  | List es p => exact hl es p
  | _ => exact hp
/-- a comprehension's turn's end -/
def MadeEnd (h₀ : Heap) (L : Addr) (m : Str → Option Value) (s : Shared) (three : List (Addr × Obj)) (off : Addr → Prop) (J : Value → List (Addr × Obj) → Prop) (y : Value) (s₂ : Shared) : Prop :=
  ∃ h' tk' all nz', s₂ = { s with heap := h', toks := tk' } ∧ Fr h₀ L h' m ∧ News h₀ L h' all ∧ (∀ p ∈ three ++ nz', p ∈ all) ∧ (∀ p ∈ nz', off p.1) ∧ J y nz'
open LCg LCp in
/-- a comprehension over pairs, by what holds of the items made so far -/
theorem comp_ind {L : Addr} {m : Str → Option Value} {elt : Expr} {x x₂ : Str} {scope : Scope} {cl : List (Str × Addr)} {S : List (Addr × Obj) → Prop} {P : Nat → Value → Prop} {Fin : List Value → List (Addr × Obj) → Prop}
    (J : Nat → List Value → List (Addr × Obj) → Prop) (n : Nat)
    (turn : ∀ i ys nz v, i < n → P i v → J i ys nz → ∃ (t : Addr) (ot : Obj) (v₁ v₂ : Value) (nt : Nat), v = .ref t ∧ (t, ot) ∈ nz ∧ ot.cls = .type "tuple" ∧ ot.data = .seq #[v₁, v₂] nt ∧
      ∀ I oI C oC D m₂ h tk (E' : Value → Shared → Prop), NsObj oC m₂ → m₂ x = some v₁ → m₂ x₂ = some v₂ → Fr h₀ L h m → News h₀ L h ((I, oI) :: (C, oC) :: (D, lst ys) :: nz) → (∀ p ∈ nz, p.1 ≠ I ∧ p.1 ≠ C ∧ p.1 ≠ D) →
      wpAny (model prog w) A (eval elt (compEnvC scope cl C env)) (MadeEnd h₀ L m s [(I, oI), (C, oC), (D, lst ys)] (fun a => a ≠ I ∧ a ≠ C ∧ a ≠ D) fun y nz' => S nz' ∧ J (i + 1) (ys ++ [y]) nz') E' { s with heap := h, toks := tk })
    (fin : ∀ ys nz, J n ys nz → Fin ys nz) : ∀ k i ys nz, i + k = n → J i ys nz → CompRestP prog w A h₀ L m env elt x x₂ scope cl s S P Fin k i ys nz := by
  intro k
  induction k with
  | zero => intro i ys nz hk hj; exact CompRestP.zero (fin _ _ (by rw [← hk]; exact hj))
  | succ k ih =>
    intro i ys nz hk hj
    refine CompRestP.succ fun v hv => ?_
    obtain ⟨t, ot, v₁, v₂, nt, e1, e2, e3, e4, go⟩ := turn i ys nz v (by omega) hv hj
    refine ⟨t, ot, v₁, v₂, nt, e1, e2, e3, e4, ?_⟩
    intro I oI C oC D m₂ h tk E' hC hx hy F N off _
    refine wpAny_mono (go I oI C oC D m₂ h tk E' hC hx hy F N (fun p hp => off.mem p hp)) (fun y s₂ hy => ?_) fun _ _ e => e
    obtain ⟨h', tk', all, nz', rfl, F', N', sub, off', hS, hj'⟩ := hy
    exact CompEnd.intro F' N' nz' sub (Off3.of off') hS (ih (i + 1) (ys ++ [y]) nz' (by omega) hj')
theorem off1_mem {D : Addr} : ∀ {l : List (Addr × Obj)}, LCg.Off1 D l → ∀ p ∈ l, p.1 ≠ D
  | [], _, _, h => nomatch h
  | _ :: _, h, p, hp => by
    rcases List.mem_cons.mp hp with rfl | hp
    · exact h.1
    · exact off1_mem h.2 p hp
theorem allLt_mem {d : Addr} : ∀ {l : List (Addr × Obj)}, AllLt d l → ∀ p ∈ l, p.1 < d
  | [], _, _, h => nomatch h
  | _ :: _, h, p, hp => by
    rcases List.mem_cons.mp hp with rfl | hp
    · exact h.1
    · exact allLt_mem h.2 p hp
open LCg in
/-- a comprehension over one name, by what holds of the items made so far -/
theorem comp_ind1 {L : Addr} {m : Str → Option Value} {elt : Expr} {x : Str} {scope : Scope} {cl : List (Str × Addr)} {S : List (Addr × Obj) → Prop} {P : Nat → Value → Prop} {Fin : List Value → List (Addr × Obj) → Prop}
    (J : Nat → List Value → List (Addr × Obj) → Prop) (n : Nat)
    (turn : ∀ i ys nz v, i < n → P i v → J i ys nz →
      ∀ I oI C oC D m₂ h tk (E' : Value → Shared → Prop), NsObj oC m₂ → m₂ x = some v → Fr h₀ L h m → News h₀ L h ((I, oI) :: (C, oC) :: (D, lst ys) :: nz) → (∀ p ∈ nz, p.1 ≠ I ∧ p.1 ≠ C ∧ p.1 ≠ D) →
      wpAny (model prog w) A (eval elt (compEnvC scope cl C env)) (MadeEnd h₀ L m s [(I, oI), (C, oC), (D, lst ys)] (fun a => a ≠ I ∧ a ≠ C ∧ a ≠ D) fun y nz' => S nz' ∧ J (i + 1) (ys ++ [y]) nz') E' { s with heap := h, toks := tk })
    (fin : ∀ ys nz, J n ys nz → Fin ys nz) : ∀ k i ys nz, i + k = n → J i ys nz → CompRest prog w A h₀ L m env elt x scope cl s S P Fin k i ys nz := by
  intro k
  induction k with
  | zero => intro i ys nz hk hj; exact CompRest.zero (fin _ _ (by rw [← hk]; exact hj))
  | succ k ih =>
    intro i ys nz hk hj
    refine CompRest.succ fun v I oI C oC D m₂ h tk E' hv hC hx F N off _ => ?_
    refine wpAny_mono (turn i ys nz v (by omega) hv hj I oI C oC D m₂ h tk E' hC hx F N (fun p hp => off.mem p hp)) (fun y s₂ hy => ?_) fun _ _ e => e
    obtain ⟨h', tk', all, nz', rfl, F', N', sub, off', hS, hj'⟩ := hy
    exact CompEnd.intro F' N' nz' sub (Off3.of off') hS (ih (i + 1) (ys ++ [y]) nz' (by omega) hj')
theorem not_good_iter {o : Obj} (h : o.cls = .type "list_iterator") : ¬ good o := by
  unfold good
  rw [h]
  rintro (e | e | e | e) <;> simp at e
theorem iterT {l : Addr} {n : Nat} {vs : List Value} {m : Str → Option Value} {news : List (Addr × Obj)}
    (J : Nat → (Str → Option Value) → List (Addr × Obj) → Prop) (hh : A.handled = none)
    (F : Fr h₀ env.locals s.heap m) (N : News h₀ env.locals s.heap news) (hl : (l, listOf vs.toArray n) ∈ news)
    (hJ : ∀ i m nx nx', J i m nx → Kept news nx nx' → J i m nx') (h0 : J 0 m news)
    (turn : ∀ i v m₁ nx own (s₁ : Shared), vs[i]? = some v → J i m₁ nx → (∀ p ∈ own, p ∈ nx) → (∀ p ∈ own, p.1 = l ∨ ¬ good p.2) → Fr h₀ env.locals s₁.heap m₁ → News h₀ env.locals s₁.heap nx →
      wpAny (model prog w) A (assign target env v) (fun _ s₃ => wpAny (model prog w) A (execs body env) (TurnEnd h₀ env.locals own (J (i + 1)) s₁) E s₃) E s₁)
    (done : ∀ h' tk m' nx, Fr h₀ env.locals h' m' → News h₀ env.locals h' nx → J vs.length m' nx → Q .next { s with heap := h', toks := tk }) :
    wpAny (model prog w) A (pyIter (.ref l)) (fun it s₂ => LoopAtT prog w A h₀ env target body Q E it s₂) E s := by
  have hls : s.heap.IsList l vs.toArray := News.isList N hl
  have hlt : l < s.heap.objs.size := Heap.lt_size (N _ hl).1
  have hne : l ≠ s.heap.objs.size := Nat.ne_of_lt hlt
  refine wpAny_pyIter_list hls ?_
  have W := Walks.list (prog := prog) (w := w) hh s.heap.objs.size l hne vs.toArray
  have hsz : vs.toArray.size = vs.length := by simp
  rw [hsz] at W
  refine loopT J W ?_ (next_is_new F) ?_ ⟨⟨_, Heap.get?_push_size _ rfl, rfl, rfl⟩, hls.at fun o e => Heap.get?_push_of_some _ e⟩ (F.push _) (fun p hp => ⟨Heap.get?_push_of_some _ (N p hp).1, (N p hp).2⟩)
    (fun i s' v Q' hs hq => goList hs.1 hq) (fun i h hs => ?_) hJ h0 ?_ ?_
  · intro hm
    rcases List.mem_cons.mp hm with e | hm
    · exact absurd F.ns.lt (e ▸ Nat.lt_irrefl _)
    · exact absurd (List.mem_singleton.mp hm).symm (N _ hl).2.1
  · intro p hp e
    exact absurd (Heap.lt_size (N p hp).1) (e ▸ Nat.lt_irrefl _)
  · obtain ⟨o, ho, hc, _⟩ := hs.1
    exact ⟨o, ho, not_good_iter hc⟩
  · intro i v m₁ nx own s₁ _ hP hj ho ho2 F1 N1
    refine turn i v m₁ nx own s₁ (by simpa using hP) hj ho (fun p hp => ?_) F1 N1
    obtain ⟨h1, h2⟩ := ho2 p hp
    rcases List.mem_cons.mp h1 with e | h1
    · exact .inr (h2 e)
    · exact .inl (List.mem_singleton.mp h1)
  · intro h' tk m' nx F' N' hj
    exact done h' tk m' nx F' N' hj
theorem not_good_range {o : Obj} (h : o.cls = .type "range_iterator") : ¬ good o := by
  unfold good
  rw [h]
  rintro (e | e | e | e) <;> simp at e
theorem iterR {r : Addr} {n : Nat} {t u v : Tok} {x : Str} {px : Pos} {m : Str → Option Value} {news : List (Addr × Obj)}
    (J : Nat → (Str → Option Value) → List (Addr × Obj) → Prop) (hh : A.handled = none) (hr : IsRange s.heap r 0 (n : Int) 1 t u v) (hn : n ≤ 1000000)
    (F : Fr h₀ env.locals s.heap m) (N : News h₀ env.locals s.heap news)
    (hJ : ∀ i m nx nx', J i m nx → Kept news nx nx' → J i m nx') (h0 : J 0 m news)
    (turn : ∀ (i : Nat) t m₁ nx own (s₁ : Shared), i < n → J i m₁ nx → (∀ p ∈ own, p ∈ nx) → (∀ p ∈ own, ¬ good p.2) → Fr h₀ env.locals s₁.heap m₁ → News h₀ env.locals s₁.heap nx →
      wpAny (model prog w) A (assign (.Name x px) env (.int (i : Int) t)) (fun _ s₃ => wpAny (model prog w) A (execs body env) (TurnEnd h₀ env.locals own (J (i + 1)) s₁) E s₃) E s₁)
    (done : ∀ h' tk m' nx, Fr h₀ env.locals h' m' → News h₀ env.locals h' nx → J n m' nx → Q .next { s with heap := h', toks := tk }) :
    wpAny (model prog w) A (pyIter (.ref r)) (fun it s₂ => LoopAtT prog w A h₀ env (.Name x px) body Q E it s₂) E s := by
  have hsz : Builtin.Range.rangeSize 0 (n : Int) 1 = (n : Int) := range_len n
  refine wpAny_pyIter_range hr (range_small n hn) ?_
  have W := Walks.range (prog := prog) (w := w) (A := A) hh s.heap.objs.size 0 1 n
  refine loopT J W ?_ (next_is_new F) ?_ (by show IsRangeIter _ _ _ _ _; rw [hsz]; simpa using Heap.get?_push_size _ rfl) (F.push _) (fun p hp => ⟨Heap.get?_push_of_some _ (N p hp).1, (N p hp).2⟩)
    (fun i s' v Q' hs hq => wpAny_pure hq) (fun i h hs => ⟨_, hs, not_good_range rfl⟩) hJ h0 ?_ ?_
  · intro hm
    exact absurd F.ns.lt ((List.mem_singleton.mp hm) ▸ Nat.lt_irrefl _)
  · intro p hp e
    exact absurd (Heap.lt_size (N p hp).1) (e ▸ Nat.lt_irrefl _)
  · intro i v m₁ nx own s₁ hi hP hj ho ho2 F1 N1
    obtain ⟨t', rfl⟩ := hP
    have e : (0 + (i : Int) * 1) = (i : Int) := by omega
    rw [e]
    exact turn i t' m₁ nx own s₁ hi hj ho (fun p hp => (ho2 p hp).2 (List.mem_singleton.mp (ho2 p hp).1)) F1 N1
  · intro h' tk m' nx F' N' hj
    exact done h' tk m' nx F' N' hj
theorem len_M {l : Addr} {L : Addr} {nx : List (Addr × Obj)} {vs : List Value} {n k : Nat} {R : Value → Shared → Prop} (N : News h₀ L s.heap nx) (hm : (l, listOf vs.toArray n) ∈ nx) (hk : vs.length = k) (hb : k ≤ 1000000)
    (h : R (.int (k : Nat) (s.toks + 1)) { s with toks := s.toks + 1 + 1 }) : wpAny (model prog w) A (call (.builtin "len") [.ref l]) R E s := by
  have e : vs.toArray.size = k := by simp [hk]
  refine Calls.call_len_list (News.isList N hm) (by rw [e]; omega) ?_
  rw [e]
  exact h
theorem item_M {l : Addr} {L : Addr} {nx : List (Addr × Obj)} {vs : List Value} {n : Nat} {value slice : PySem.Expr} {k : Int} {u : Tok} {v : Value} {R : Value → Shared → Prop} (N : News h₀ L s.heap nx) (hm : (l, listOf vs.toArray n) ∈ nx)
    (hb : -1000000 ≤ k ∧ k ≤ 1000000) (hx : (0 ≤ k ∧ vs[k.toNat]? = some v) ∨ (k < 0 ∧ -(vs.length : Int) ≤ k ∧ vs[(k + vs.length).toNat]? = some v)) (h : R v s)
    (hs : subscripted slice false (.ref l) (.int k u) = operate [.ref l, .int k u] (getItem (.ref l) (.int k u))) :
    wpAny (model prog w) A (subscriptTail value slice (.ref l) (.int k u)) R E s := by
  have hl := News.isList N hm
  refine tail_any hl.typeIs slot_list_getitem.lookup ?_ hs
  rcases hx with ⟨h0, hx⟩ | ⟨h0, h1, hx⟩
  · exact wpAny_getItem_list hl h0 (by omega) (by simpa using hx) h
  · exact wpAny_getItem_list_neg hl h0 (by simpa using h1) (by omega) (by simpa using hx) h
end
local macro_rules | `(tactic| k_all) => `(tactic| assumption)
local macro_rules | `(tactic| k_mem) => `(tactic| first | with_reducible assumption | with_reducible exact List.mem_cons_self | (with_reducible refine List.mem_cons_of_mem _ ?_; k_mem))
local macro_rules | `(tactic| is_list) => `(tactic| exact News.isList (by assumption) (by k_mem))
local macro_rules | `(tactic| k_room) => `(tactic| ktr_room)
local macro_rules | `(tactic| walk_at $k:str) => if ["binaryOp Pow int int", "call ref", "exec Assign cons ListComp", "eval ListComp", "exec For Tuple Name cons nil", "exec For Name Name cons nil", "exec For Name Call cons nil", "exec For Tuple Tuple cons nil", "exec For", "pyIter ref", "call builtin:len", "subscriptTail Name BinOp ref int", "subscriptTail Name Name ref int", "call builtin:list.append"].contains k.getString then `(tactic| (k_here; with_reducible refine hold ?_)) else Lean.Macro.throwUnsupported
local macro_rules | `(tactic| walk_at "exec If") => `(tactic| (k_here; with_reducible refine hold_if (by constructor) ?_))
theorem decF_spec {w : World} {loose : List Str} {mean : ExcName → Option Value} {mg mb : Str → Option Value}
  {dp un : Nat} {gd : Option (List Code)} {cn : Str} {cs : Scope} {L a : Addr} {ccd : Value} {cl : List (Str × Addr)} {outer : List Env}
  {A₀ : Around} {base h₀ : Heap} {m : Str → Option Value} {s : Shared} {Q E : Value → Shared → Prop}
  {t1 t2 : Tok} {top pl Xv : Int} {news : List (Addr × Obj)}
  (B : Below A₀ base outer h₀) (F : Fr h₀ L s.heap m) (X : (Mine.hd.heap_39 w.params).In h₀)
  (N : News h₀ L s.heap news) (T : Top Mine.hd.view_39 loose mean mg mb h₀) (hk : cs.kind = .function) (hd : dp + 5 < recursionLimit)
  (hx : Ten top pl Xv)
  (ret : ∀ r fr news' h' tk', Fr h₀ L h' m → News h₀ L h' news' → Gro news news' → Part news [] fr news' → DecV w.params pl fr r Xv → Q r { s with heap := h', toks := tk' }) :
  wpAny (model PySem.Challenge.rw_og0147_01.row.prog w) (ktrTop dp un gd cn cs L a ccd cl outer) (call (.ref 143) [.int top t1, .int pl t2]) Q E s := by
  revert X; k_fill; intro X
  (k_dflt (refine' call_cls ?k1 ?k2 ?k3 ?k4 ?k5 ?k6 ?_; (case k1 => k_asm); (case k2 => k_asm); (case k3 => k_asm); (case k4 => k_is); (case k5 => k_is); (case k6 => k_is); k_whole; intro x' d' h' F' N' l1 l2; (try k_lt l1); (try k_lt2 l2); (try k_sweep); ktr_enter))
  k_steps
  rename_i k0 k1 k2 k3 _ _ _ _ _ _ kF kN _ _
  exact ret _ _ _ _ _ kF kN (Gro.two l1 l2) (part_two l1 l2) ⟨_, _, ⟨_, _, _, _, _, _, rfl, List.mem_cons_self, List.mem_cons_of_mem _ List.mem_cons_self⟩, ten_init hx (by assumption) (by assumption) (by assumption), by assumption⟩
theorem dec_spec {w : World} {loose : List Str} {mean : ExcName → Option Value} {mg mb : Str → Option Value}
  {dp un : Nat} {gd : Option (List Code)} {cn : Str} {cs : Scope} {L a : Addr} {ccd : Value} {cl : List (Str × Addr)} {outer : List Env}
  {A₀ : Around} {base h₀ : Heap} {m : Str → Option Value} {s : Shared} {Q E : Value → Shared → Prop}
  {t1 t2 : Tok} {top pl Xv : Int} {news : List (Addr × Obj)}
  (B : Below A₀ base outer h₀) (F : Fr h₀ L s.heap m) (X : (Mine.hd.heap_39 w.params).In h₀)
  (N : News h₀ L s.heap news) (T : Top Mine.hd.view_39 loose mean mg mb h₀) (hk : cs.kind = .function) (hd : dp + 5 < recursionLimit)
  (hx : Ten top pl Xv)
  (ret : ∀ r news' h' tk', Fr h₀ L h' m → News h₀ L h' news' → Gro news news' → DecV w.params pl news' r Xv → Q r { s with heap := h', toks := tk' }) :
  wpAny (model PySem.Challenge.rw_og0147_01.row.prog w) (ktrTop dp un gd cn cs L a ccd cl outer) (call (.ref 143) [.int top t1, .int pl t2]) Q E s := by
  exact decF_spec B F X N T hk hd hx fun r fr news' h' tk' F' N' hg hp hv => ret r news' h' tk' F' N' hg (hv.mono hp.sub)
theorem decofF_spec {w : World} {loose : List Str} {mean : ExcName → Option Value} {mg mb : Str → Option Value}
  {dp un : Nat} {gd : Option (List Code)} {cn : Str} {cs : Scope} {L a : Addr} {ccd : Value} {cl : List (Str × Addr)} {outer : List Env}
  {A₀ : Around} {base h₀ : Heap} {m : Str → Option Value} {s : Shared} {Q E : Value → Shared → Prop}
  {v : Value} {Xv : Int} {news old : List (Addr × Obj)}
  (B : Below A₀ base outer h₀) (F : Fr h₀ L s.heap m) (X : (Mine.hd.heap_39 w.params).In h₀)
  (N : News h₀ L s.heap news) (T : Top Mine.hd.view_39 loose mean mg mb h₀) (hk : cs.kind = .function) (hd : dp + 10 < recursionLimit)
  (hv : NumV w.params old v Xv) (hold : Sub old news)
  (ret : ∀ r fr news' h' tk', Fr h₀ L h' m → News h₀ L h' news' → Gro news news' → Part news old fr news' → DecV w.params 1 fr r Xv → Q r { s with heap := h', toks := tk' }) :
  wpAny (model PySem.Challenge.rw_og0147_01.row.prog w) (ktrTop dp un gd cn cs L a ccd cl outer) (call (.ref 154) [v]) Q E s := by
  rcases hv with ⟨i, t, rfl, rfl⟩ | ⟨tp, pl, ⟨x, dx, k1, k2, t1, t2, rfl, hx, hdx⟩, hT, hle⟩
  · refine wpAny_call ?_
    revert X; k_fill; intro X
    k_dflt (refine' code_def ?k1 ?k2 ?k3 ?k4 ?k5 ?kA ?kF ?kK ?k6 ?k7 ?k8 ?k9 ?kB ?_ ?c2 ?c3 ?c4 ?c5; (case kA => exact rfl); (case kF => exact rfl); (case kK => assumption); (case k1 => k_asm); (case k2 => k_asm); (case k3 => k_asm); (case k4 => k_asm); (case k5 => k_asm); (case k6 => k_is); (case k7 => k_is); (case k8 => ktr_room); (case k9 => exact BindsTo.of_eq rfl); (case c5 => decide); (case kB => exact locs rfl); (case c2 => exact rfl); (case c3 => exact rfl); (case c4 => exact rfl); k_whole; intro g' L' h' FG' F' N' B' X' T'; (try dsimp only); (try k_fold))
    k_steps
    refine' Held.mk (decF_spec ?cB ?cF ?cX ?cN ?cT ?ck ?cd ?x0 ?_)
    (case cB => k_asm)
    (case cF => k_asm)
    (case cX => k_asm)
    (case cN => k_asm)
    (case cT => k_asm)
    (case ck => first | exact rfl | assumption)
    (case cd => (dsimp only [ktrTop, Around.deeper]; exact dpl hd (Nat.le_of_ble_eq_true rfl)))
    (case x0 => exact .inl ⟨rfl, rfl⟩)
    intro r fr news' h' tk' F' N' hs hp hr
    k_steps
    exact ret _ fr _ _ _ (by assumption) (by assumption) hs ⟨hp.sub, fun q hq => .inr ((hp.from_ q hq).elim (fun h => nomatch h) id)⟩ (hr.le (by decide))
  · have hx' := hold _ hx
    have hdx' := hold _ hdx
    refine wpAny_call ?_
    revert X; k_fill; intro X
    k_dflt (refine' code_def ?k1 ?k2 ?k3 ?k4 ?k5 ?kA ?kF ?kK ?k6 ?k7 ?k8 ?k9 ?kB ?_ ?c2 ?c3 ?c4 ?c5; (case kA => exact rfl); (case kF => exact rfl); (case kK => assumption); (case k1 => k_asm); (case k2 => k_asm); (case k3 => k_asm); (case k4 => k_asm); (case k5 => k_asm); (case k6 => k_is); (case k7 => k_is); (case k8 => ktr_room); (case k9 => exact BindsTo.of_eq rfl); (case c5 => decide); (case kB => exact locs rfl); (case c2 => exact rfl); (case c3 => exact rfl); (case c4 => exact rfl); k_whole; intro g' L' h' FG' F' N' B' X' T'; (try dsimp only); (try k_fold))
    k_steps
    exact ret _ old _ _ _ (by assumption) (by assumption) Gro.refl ⟨hold, fun q hq => .inl hq⟩ ⟨_, _, ⟨x, dx, _, _, _, _, rfl, hx, hdx⟩, hT, hle⟩
theorem decof_spec {w : World} {loose : List Str} {mean : ExcName → Option Value} {mg mb : Str → Option Value}
  {dp un : Nat} {gd : Option (List Code)} {cn : Str} {cs : Scope} {L a : Addr} {ccd : Value} {cl : List (Str × Addr)} {outer : List Env}
  {A₀ : Around} {base h₀ : Heap} {m : Str → Option Value} {s : Shared} {Q E : Value → Shared → Prop}
  {v : Value} {Xv : Int} {news : List (Addr × Obj)}
  (B : Below A₀ base outer h₀) (F : Fr h₀ L s.heap m) (X : (Mine.hd.heap_39 w.params).In h₀)
  (N : News h₀ L s.heap news) (T : Top Mine.hd.view_39 loose mean mg mb h₀) (hk : cs.kind = .function) (hd : dp + 10 < recursionLimit)
  (hv : NumV w.params news v Xv)
  (ret : ∀ r news' h' tk', Fr h₀ L h' m → News h₀ L h' news' → Gro news news' → DecV w.params 1 news' r Xv → Q r { s with heap := h', toks := tk' }) :
  wpAny (model PySem.Challenge.rw_og0147_01.row.prog w) (ktrTop dp un gd cn cs L a ccd cl outer) (call (.ref 154) [v]) Q E s := by
  exact decofF_spec B F X N T hk hd hv Sub.refl fun r fr news' h' tk' F' N' hg hp hv => ret r news' h' tk' F' N' hg (hv.mono hp.sub)
theorem scale_spec {w : World} {loose : List Str} {mean : ExcName → Option Value} {mg mb : Str → Option Value}
  {dp un : Nat} {gd : Option (List Code)} {cn : Str} {cs : Scope} {L a : Addr} {ccd : Value} {cl : List (Str × Addr)} {outer : List Env}
  {A₀ : Around} {base h₀ : Heap} {m : Str → Option Value} {s : Shared} {Q E : Value → Shared → Prop}
  {v1 v2 : Value} {X1 X2 : Int} {news : List (Addr × Obj)}
  (B : Below A₀ base outer h₀) (F : Fr h₀ L s.heap m) (X : (Mine.hd.heap_39 w.params).In h₀)
  (N : News h₀ L s.heap news) (T : Top Mine.hd.view_39 loose mean mg mb h₀) (hk : cs.kind = .function) (hd : dp + 15 < recursionLimit)
  (hv1 : NumV w.params news v1 X1) (hv2 : NumV w.params news v2 X2)
  (ret : ∀ r news' h' tk', Fr h₀ L h' m → News h₀ L h' news' → Gro news news' → (∃ q n i1 i2 p t1 t2 t3, r = .ref q ∧ (q, tupOf #[.int i1 t1, .int i2 t2, .int p t3] n) ∈ news' ∧ ((p = 0 ∧ X1 = 10 * i1 ∧ X2 = 10 * i2) ∨ (p = 1 ∧ X1 = i1 ∧ X2 = i2))) → Q r { s with heap := h', toks := tk' }) :
  wpAny (model PySem.Challenge.rw_og0147_01.row.prog w) (ktrTop dp un gd cn cs L a ccd cl outer) (call (.ref 161) [v1, v2]) Q E s := by
  refine wpAny_call ?_
  revert X; k_fill; intro X
  k_dflt (refine' code_def ?k1 ?k2 ?k3 ?k4 ?k5 ?kA ?kF ?kK ?k6 ?k7 ?k8 ?k9 ?kB ?_ ?c2 ?c3 ?c4 ?c5; (case kA => exact rfl); (case kF => exact rfl); (case kK => assumption); (case k1 => k_asm); (case k2 => k_asm); (case k3 => k_asm); (case k4 => k_asm); (case k5 => k_asm); (case k6 => k_is); (case k7 => k_is); (case k8 => ktr_room); (case k9 => exact BindsTo.of_eq rfl); (case c5 => decide); (case kB => exact locs rfl); (case c2 => exact rfl); (case c3 => exact rfl); (case c4 => exact rfl); k_whole; intro g' L' h' FG' F' N' B' X' T'; (try dsimp only); (try k_fold))
  k_steps
  refine' Held.mk (decof_spec ?cB ?cF ?cX ?cN ?cT ?ck ?cd ?x0 ?_)
  (case cB => k_asm)
  (case cF => k_asm)
  (case cX => k_asm)
  (case cN => k_asm)
  (case cT => k_asm)
  (case ck => first | exact rfl | assumption)
  (case cd => (dsimp only [ktrTop, Around.deeper]; exact dpl hd (Nat.le_of_ble_eq_true rfl)))
  (case x0 => exact hv1)
  intro r1 news1 h1 tk1 F1 N1 hs1 hr1
  k_steps
  refine' Held.mk (decof_spec ?cB ?cF ?cX ?cN ?cT ?ck ?cd ?x0 ?_)
  (case cB => k_asm)
  (case cF => k_asm)
  (case cX => k_asm)
  (case cN => k_asm)
  (case cT => k_asm)
  (case ck => first | exact rfl | assumption)
  (case cd => (dsimp only [ktrTop, Around.deeper]; exact dpl hd (Nat.le_of_ble_eq_true rfl)))
  (case x0 => exact hv2.mono hs1.sub)
  intro r2 news2 h2 tk2 F2 N2 hs2 hr2
  obtain ⟨tp1, pl1, ⟨x1, dx1, k11, k12, t11, t12, rfl, hx1, hdx1⟩, hT1, hle1⟩ := hr1.mono hs2.sub
  obtain ⟨tp2, pl2, ⟨x2, dx2, k21, k22, t21, t22, rfl, hx2, hdx2⟩, hT2, hle2⟩ := hr2
  have hp1 := hT1.le
  have hp2 := hT2.le
  k_steps
  refine Held.mk (pow10 (mx_l hp1 hp2).1 (mx_l hp1 hp2).2 fun k hk hk1 hk2 => ?_)
  k_steps
  refine Held.mk (pow10 (mx_r hp1 hp2).1 (mx_r hp1 hp2).2 fun k hk hk1 hk2 => ?_)
  k_steps
  exact ret _ _ _ _ (by assumption) (by assumption) ((hs1.trans hs2).trans (Gro.one (by assumption))) ⟨_, _, _, _, _, _, _, _, rfl, List.mem_cons_self, ten_scale hT1 hT2 rfl (by assumption) (by assumption)⟩
theorem places2_spec {w : World} {loose : List Str} {mean : ExcName → Option Value} {mg mb : Str → Option Value}
  {dp un : Nat} {gd : Option (List Code)} {cn : Str} {cs : Scope} {L a : Addr} {ccd : Value} {cl : List (Str × Addr)} {outer : List Env}
  {A₀ : Around} {base h₀ : Heap} {m : Str → Option Value} {s : Shared} {Q E : Value → Shared → Prop}
  {l : Addr} {n : Nat} {vs : List Value} {r : List (Int × Int)} {K : Int} {tK : Tok} {news : List (Addr × Obj)}
  (B : Below A₀ base outer h₀) (F : Fr h₀ L s.heap m) (X : (Mine.hd.heap_39 w.params).In h₀)
  (N : News h₀ L s.heap news) (T : Top Mine.hd.view_39 loose mean mg mb h₀) (hk : cs.kind = .function) (hd : dp + 10 < recursionLimit)
  (hl : (l, listOf vs.toArray n) ∈ news) (hvs : All2 (PtIn w.params 1 news) vs r) (hK : 0 ≤ K) (hK1 : K ≤ 1)
  (ret : ∀ M tM news' h' tk', Fr h₀ L h' m → News h₀ L h' news' → Sub news news' → 0 ≤ M → M ≤ 1 → K ≤ M → All2 (PtIn w.params M news) vs r → Q (.int M tM) { s with heap := h', toks := tk' }) :
  wpAny (model PySem.Challenge.rw_og0147_01.row.prog w) (ktrTop dp un gd cn cs L a ccd cl outer) (call (.ref 176) [.ref l, .int K tK]) Q E s := by
  refine wpAny_call ?_
  revert X; k_fill; intro X
  (k_dflt (refine' code_def ?k1 ?k2 ?k3 ?k4 ?k5 ?kA ?kF ?kK ?k6 ?k7 ?k8 ?k9 ?kB ?_ ?c2 ?c3 ?c4 ?c5; (case kA => exact rfl); (case kF => exact rfl); (case kK => assumption); (case k1 => k_asm); (case k2 => k_asm); (case k3 => k_asm); (case k4 => k_asm); (case k5 => k_asm); (case k6 => k_is); (case k7 => k_is); (case k8 => ktr_room); (case k9 => exact binds_K (by k_in) rfl (by k_is) rfl rfl rfl); (case c5 => decide); (case kB => exact locs rfl); (case c2 => exact rfl); (case c3 => exact rfl); (case c4 => exact rfl); k_whole; intro g' L' h' FG' F' N' B' X' T'; (try dsimp only); (try k_fold)))
  k_steps
  refine Held.mk (For_invTF (by assumption) ?_ (by intro _; rfl))
  walk1
  refine iterT (fun i m₁ nx => Sub news nx ∧ ∃ M t, m₁ (Str.ofString "most") = some (.int M t) ∧ 0 ≤ M ∧ M ≤ 1 ∧ K ≤ M ∧ ∀ (j : Nat) p v, j < i → r[j]? = some p → vs[j]? = some v → PtIn w.params M news v p) rfl (by assumption) (by assumption) (by assumption) ?_ ?_ ?_ ?_
  · intro i m₁ nx nx' hj hl
    exact ⟨hl.sub hj.1, hj.2⟩
  · exact ⟨Sub.refl, _, _, rfl, by omega, by omega, Int.le_refl _, fun j p v hj => absurd hj (Nat.not_lt_zero _)⟩
  · rintro i v m₁ nx own s₁ hv ⟨hsub, M, tM, hm, hM0, hM1, hKM, hpts⟩ hown hown2 F1 N1
    obtain ⟨p, hp, t, n', a, b, rfl, ht, ha, hb⟩ := hvs.get i v hv
    obtain ⟨tp1, pl1, ⟨x1, dx1, k11, k12, t11, t12, rfl, hx1, hdx1⟩, hT1, hle1⟩ := ha
    obtain ⟨tp2, pl2, ⟨x2, dx2, k21, k22, t21, t22, rfl, hx2, hdx2⟩, hT2, hle2⟩ := hb
    have ht' := hsub _ ht
    have hx1' := hsub _ hx1
    have hx2' := hsub _ hx2
    have hdx1' := hsub _ hdx1
    have hdx2' := hsub _ hdx2
    have F1 := fr_know F1 _ hm
    k_steps
    refine max3 rfl (by assumption) (by assumption) ?_
    intro M' tM' h2 tk2 ha1 hb1 hc1 ho1 F2 N2
    k_steps
    have hl1 := hT1.le
    have hl2 := hT2.le
    refine ⟨rfl, _, _, _, nx, rfl, by assumption, by assumption, hown, hsub, M', _, rfl, by omega, by omega, by omega, ?_⟩
    intro j p' v' hj hp' hv'
    by_cases hji : j = i
    · subst hji
      rw [hp] at hp'
      rw [hv] at hv'
      cases hp'
      cases hv'
      exact ⟨t, n', _, _, rfl, ht, ⟨_, _, ⟨_, _, _, _, _, _, rfl, hx1, hdx1⟩, hT1, by omega⟩, ⟨_, _, ⟨_, _, _, _, _, _, rfl, hx2, hdx2⟩, hT2, by omega⟩⟩
    · exact (hpts j p' v' (by omega) hp' hv').le (by omega)
  · rintro h' tk m' nx F' N' ⟨hsub, M, tM, hm, hM0, hM1, hKM, hpts⟩
    have F' := fr_know F' _ hm
    k_steps
    refine ret M tM _ _ _ (by assumption) (by assumption) ?_ hM0 hM1 hKM (All2.of_get hvs.length fun i a b ha hb => hpts i b a ?_ hb ha)
    · exact hsub
    · exact (List.getElem?_eq_some_iff.mp ha).1
theorem places1_spec {w : World} {loose : List Str} {mean : ExcName → Option Value} {mg mb : Str → Option Value}
  {dp un : Nat} {gd : Option (List Code)} {cn : Str} {cs : Scope} {L a : Addr} {ccd : Value} {cl : List (Str × Addr)} {outer : List Env}
  {A₀ : Around} {base h₀ : Heap} {m : Str → Option Value} {s : Shared} {Q E : Value → Shared → Prop}
  {l : Addr} {n : Nat} {vs : List Value} {r : List (Int × Int)} {news : List (Addr × Obj)}
  (B : Below A₀ base outer h₀) (F : Fr h₀ L s.heap m) (X : (Mine.hd.heap_39 w.params).In h₀)
  (N : News h₀ L s.heap news) (T : Top Mine.hd.view_39 loose mean mg mb h₀) (hk : cs.kind = .function) (hd : dp + 10 < recursionLimit)
  (hl : (l, listOf vs.toArray n) ∈ news) (hvs : All2 (PtIn w.params 1 news) vs r)
  (ret : ∀ M tM news' h' tk', Fr h₀ L h' m → News h₀ L h' news' → Sub news news' → 0 ≤ M → M ≤ 1 → 0 ≤ M → All2 (PtIn w.params M news) vs r → Q (.int M tM) { s with heap := h', toks := tk' }) :
  wpAny (model PySem.Challenge.rw_og0147_01.row.prog w) (ktrTop dp un gd cn cs L a ccd cl outer) (call (.ref 176) [.ref l]) Q E s := by
  refine wpAny_call ?_
  revert X; k_fill; intro X
  (k_dflt (refine' code_def ?k1 ?k2 ?k3 ?k4 ?k5 ?kA ?kF ?kK ?k6 ?k7 ?k8 ?k9 ?kB ?_ ?c2 ?c3 ?c4 ?c5; (case kA => exact rfl); (case kF => exact rfl); (case kK => assumption); (case k1 => k_asm); (case k2 => k_asm); (case k3 => k_asm); (case k4 => k_asm); (case k5 => k_asm); (case k6 => k_is); (case k7 => k_is); (case k8 => ktr_room); (case k9 => exact binds_K (by k_in) rfl (by k_is) rfl rfl rfl); (case c5 => decide); (case kB => exact locs rfl); (case c2 => exact rfl); (case c3 => exact rfl); (case c4 => exact rfl); k_whole; intro g' L' h' FG' F' N' B' X' T'; (try dsimp only); (try k_fold)))
  k_steps
  refine Held.mk (For_invTF (by assumption) ?_ (by intro _; rfl))
  walk1
  refine iterT (fun i m₁ nx => Sub news nx ∧ ∃ M t, m₁ (Str.ofString "most") = some (.int M t) ∧ 0 ≤ M ∧ M ≤ 1 ∧ 0 ≤ M ∧ ∀ (j : Nat) p v, j < i → r[j]? = some p → vs[j]? = some v → PtIn w.params M news v p) rfl (by assumption) (by assumption) (by assumption) ?_ ?_ ?_ ?_
  · intro i m₁ nx nx' hj hl
    exact ⟨hl.sub hj.1, hj.2⟩
  · exact ⟨Sub.refl, _, _, rfl, by omega, by omega, Int.le_refl _, fun j p v hj => absurd hj (Nat.not_lt_zero _)⟩
  · rintro i v m₁ nx own s₁ hv ⟨hsub, M, tM, hm, hM0, hM1, hKM, hpts⟩ hown hown2 F1 N1
    obtain ⟨p, hp, t, n', a, b, rfl, ht, ha, hb⟩ := hvs.get i v hv
    obtain ⟨tp1, pl1, ⟨x1, dx1, k11, k12, t11, t12, rfl, hx1, hdx1⟩, hT1, hle1⟩ := ha
    obtain ⟨tp2, pl2, ⟨x2, dx2, k21, k22, t21, t22, rfl, hx2, hdx2⟩, hT2, hle2⟩ := hb
    have ht' := hsub _ ht
    have hx1' := hsub _ hx1
    have hx2' := hsub _ hx2
    have hdx1' := hsub _ hdx1
    have hdx2' := hsub _ hdx2
    have F1 := fr_know F1 _ hm
    k_steps
    refine max3 rfl (by assumption) (by assumption) ?_
    intro M' tM' h2 tk2 ha1 hb1 hc1 ho1 F2 N2
    k_steps
    have hl1 := hT1.le
    have hl2 := hT2.le
    refine ⟨rfl, _, _, _, nx, rfl, by assumption, by assumption, hown, hsub, M', _, rfl, by omega, by omega, by omega, ?_⟩
    intro j p' v' hj hp' hv'
    by_cases hji : j = i
    · subst hji
      rw [hp] at hp'
      rw [hv] at hv'
      cases hp'
      cases hv'
      exact ⟨t, n', _, _, rfl, ht, ⟨_, _, ⟨_, _, _, _, _, _, rfl, hx1, hdx1⟩, hT1, by omega⟩, ⟨_, _, ⟨_, _, _, _, _, _, rfl, hx2, hdx2⟩, hT2, by omega⟩⟩
    · exact (hpts j p' v' (by omega) hp' hv').le (by omega)
  · rintro h' tk m' nx F' N' ⟨hsub, M, tM, hm, hM0, hM1, hKM, hpts⟩
    have F' := fr_know F' _ hm
    k_steps
    refine ret M tM _ _ _ (by assumption) (by assumption) ?_ hM0 hM1 hKM (All2.of_get hvs.length fun i a b ha hb => hpts i b a ?_ hb ha)
    · exact hsub
    · exact (List.getElem?_eq_some_iff.mp ha).1
theorem pair_spec {w : World} {loose : List Str} {mean : ExcName → Option Value} {mg mb : Str → Option Value}
  {dp un : Nat} {gd : Option (List Code)} {cn : Str} {cs : Scope} {L a : Addr} {ccd : Value} {cl : List (Str × Addr)} {outer : List Env}
  {A₀ : Around} {base h₀ : Heap} {m : Str → Option Value} {s : Shared} {Q E : Value → Shared → Prop}
  {v1 v2 : Value} {X1 X2 : Int} {news : List (Addr × Obj)}
  (B : Below A₀ base outer h₀) (F : Fr h₀ L s.heap m) (X : (Mine.hd.heap_39 w.params).In h₀)
  (N : News h₀ L s.heap news) (T : Top Mine.hd.view_39 loose mean mg mb h₀) (hk : cs.kind = .function) (hd : dp + 15 < recursionLimit)
  (hv1 : NumV w.params news v1 X1) (hv2 : NumV w.params news v2 X2)
  (ret : ∀ r news' h' tk', Fr h₀ L h' m → News h₀ L h' news' → Gro news news' → PtIn w.params 1 news' r (X1, X2) → Q r { s with heap := h', toks := tk' }) :
  wpAny (model PySem.Challenge.rw_og0147_01.row.prog w) (ktrTop dp un gd cn cs L a ccd cl outer) (call (.ref 168) [v1, v2]) Q E s := by
  refine wpAny_call ?_
  revert X; k_fill; intro X
  k_dflt (refine' code_def ?k1 ?k2 ?k3 ?k4 ?k5 ?kA ?kF ?kK ?k6 ?k7 ?k8 ?k9 ?kB ?_ ?c2 ?c3 ?c4 ?c5; (case kA => exact rfl); (case kF => exact rfl); (case kK => assumption); (case k1 => k_asm); (case k2 => k_asm); (case k3 => k_asm); (case k4 => k_asm); (case k5 => k_asm); (case k6 => k_is); (case k7 => k_is); (case k8 => ktr_room); (case k9 => exact BindsTo.of_eq rfl); (case c5 => decide); (case kB => exact locs rfl); (case c2 => exact rfl); (case c3 => exact rfl); (case c4 => exact rfl); k_whole; intro g' L' h' FG' F' N' B' X' T'; (try dsimp only); (try k_fold))
  k_steps
  refine' Held.mk (decof_spec ?cB ?cF ?cX ?cN ?cT ?ck ?cd ?x0 ?_)
  (case cB => k_asm)
  (case cF => k_asm)
  (case cX => k_asm)
  (case cN => k_asm)
  (case cT => k_asm)
  (case ck => first | exact rfl | assumption)
  (case cd => (dsimp only [ktrTop, Around.deeper]; exact dpl hd (Nat.le_of_ble_eq_true rfl)))
  (case x0 => exact hv1)
  intro r1 news1 h1 tk1 F1 N1 hs1 hr1
  k_steps
  refine' Held.mk (decof_spec ?cB ?cF ?cX ?cN ?cT ?ck ?cd ?x0 ?_)
  (case cB => k_asm)
  (case cF => k_asm)
  (case cX => k_asm)
  (case cN => k_asm)
  (case cT => k_asm)
  (case ck => first | exact rfl | assumption)
  (case cd => (dsimp only [ktrTop, Around.deeper]; exact dpl hd (Nat.le_of_ble_eq_true rfl)))
  (case x0 => exact hv2.mono hs1.sub)
  intro r2 news2 h2 tk2 F2 N2 hs2 hr2
  k_steps
  exact ret _ _ _ _ (by assumption) (by assumption) ((hs1.trans hs2).trans (Gro.one (by assumption))) ⟨_, _, _, _, rfl, List.mem_cons_self, (hr1.mono hs2.sub).mono Sub.cons, hr2.mono Sub.cons⟩
theorem atp_spec {w : World} {loose : List Str} {mean : ExcName → Option Value} {mg mb : Str → Option Value}
  {dp un : Nat} {gd : Option (List Code)} {cn : Str} {cs : Scope} {L a : Addr} {ccd : Value} {cl : List (Str × Addr)} {outer : List Env}
  {A₀ : Around} {base h₀ : Heap} {m : Str → Option Value} {s : Shared} {Q E : Value → Shared → Prop}
  {v : Value} {Xv P : Int} {tP : Tok} {news : List (Addr × Obj)}
  (B : Below A₀ base outer h₀) (F : Fr h₀ L s.heap m) (X : (Mine.hd.heap_39 w.params).In h₀)
  (N : News h₀ L s.heap news) (T : Top Mine.hd.view_39 loose mean mg mb h₀) (hk : cs.kind = .function) (hd : dp + 5 < recursionLimit)
  (hv : DecV w.params P news v Xv) (hP : P ≤ 1)
  (ret : ∀ i ti h' tk', Fr h₀ L h' m → News h₀ L h' news → Ten i P Xv → Q (.int i ti) { s with heap := h', toks := tk' }) :
  wpAny (model PySem.Challenge.rw_og0147_01.row.prog w) (ktrTop dp un gd cn cs L a ccd cl outer) (call (.ref 183) [v, .int P tP]) Q E s := by
  obtain ⟨tp1, pl1, ⟨x1, dx1, k11, k12, t11, t12, rfl, hx1, hdx1⟩, hT1, hle1⟩ := hv
  have hp1 := hT1.le
  refine wpAny_call ?_
  revert X; k_fill; intro X
  k_dflt (refine' code_def ?k1 ?k2 ?k3 ?k4 ?k5 ?kA ?kF ?kK ?k6 ?k7 ?k8 ?k9 ?kB ?_ ?c2 ?c3 ?c4 ?c5; (case kA => exact rfl); (case kF => exact rfl); (case kK => assumption); (case k1 => k_asm); (case k2 => k_asm); (case k3 => k_asm); (case k4 => k_asm); (case k5 => k_asm); (case k6 => k_is); (case k7 => k_is); (case k8 => ktr_room); (case k9 => exact BindsTo.of_eq rfl); (case c5 => decide); (case kB => exact locs rfl); (case c2 => exact rfl); (case c3 => exact rfl); (case c4 => exact rfl); k_whole; intro g' L' h' FG' F' N' B' X' T'; (try dsimp only); (try k_fold))
  k_steps
  refine Held.mk (pow10 (pl_d hp1 hle1 hP).1 (pl_d hp1 hle1 hP).2 fun k hk hk1 hk2 => ?_)
  k_steps
  exact ret _ _ _ _ (by assumption) (by assumption) (ten_at hT1 hle1 hP (by assumption))
theorem plus_spec {w : World} {loose : List Str} {mean : ExcName → Option Value} {mg mb : Str → Option Value}
  {dp un : Nat} {gd : Option (List Code)} {cn : Str} {cs : Scope} {L a : Addr} {ccd : Value} {cl : List (Str × Addr)} {outer : List Env}
  {A₀ : Around} {base h₀ : Heap} {m : Str → Option Value} {s : Shared} {Q E : Value → Shared → Prop}
  {v1 v2 : Value} {X1 X2 : Int} {news : List (Addr × Obj)}
  (B : Below A₀ base outer h₀) (F : Fr h₀ L s.heap m) (X : (Mine.hd.heap_39 w.params).In h₀)
  (N : News h₀ L s.heap news) (T : Top Mine.hd.view_39 loose mean mg mb h₀) (hk : cs.kind = .function) (hd : dp + 20 < recursionLimit)
  (hv1 : NumV w.params news v1 X1) (hv2 : NumV w.params news v2 X2)
  (ret : ∀ r fr news' h' tk', Fr h₀ L h' m → News h₀ L h' news' → Gro news news' → Part news [] fr news' → DecV w.params 1 fr r (X1 + X2) → Q r { s with heap := h', toks := tk' }) :
  wpAny (model PySem.Challenge.rw_og0147_01.row.prog w) (ktrTop dp un gd cn cs L a ccd cl outer) (call (.ref 70) [v1, v2]) Q E s := by
  refine wpAny_call ?_
  revert X; k_fill; intro X
  k_dflt (refine' code_def ?k1 ?k2 ?k3 ?k4 ?k5 ?kA ?kF ?kK ?k6 ?k7 ?k8 ?k9 ?kB ?_ ?c2 ?c3 ?c4 ?c5; (case kA => exact rfl); (case kF => exact rfl); (case kK => assumption); (case k1 => k_asm); (case k2 => k_asm); (case k3 => k_asm); (case k4 => k_asm); (case k5 => k_asm); (case k6 => k_is); (case k7 => k_is); (case k8 => ktr_room); (case k9 => exact BindsTo.of_eq rfl); (case c5 => decide); (case kB => exact locs rfl); (case c2 => exact rfl); (case c3 => exact rfl); (case c4 => exact rfl); k_whole; intro g' L' h' FG' F' N' B' X' T'; (try dsimp only); (try k_fold))
  k_steps
  refine' Held.mk (scale_spec ?cB ?cF ?cX ?cN ?cT ?ck ?cd ?x0 ?x1 ?_)
  (case cB => k_asm)
  (case cF => k_asm)
  (case cX => k_asm)
  (case cN => k_asm)
  (case cT => k_asm)
  (case ck => first | exact rfl | assumption)
  (case cd => (dsimp only [ktrTop, Around.deeper]; exact dpl hd (Nat.le_of_ble_eq_true rfl)))
  (case x0 => exact hv1)
  (case x1 => exact hv2)
  rintro r1 news1 h1 tk1 F1 N1 hs1 ⟨q, n, i1, i2, p, t1, t2, t3, rfl, hq, hp⟩
  k_steps
  refine' Held.mk (decF_spec ?cB ?cF ?cX ?cN ?cT ?ck ?cd ?x0 ?_)
  (case cB => k_asm)
  (case cF => k_asm)
  (case cX => k_asm)
  (case cN => k_asm)
  (case cT => k_asm)
  (case ck => first | exact rfl | assumption)
  (case cd => (dsimp only [ktrTop, Around.deeper]; exact dpl hd (Nat.le_of_ble_eq_true rfl)))
  (case x0 => exact ten_sum hp)
  intro r2 fr2 news2 h2 tk2 F2 N2 hs2 hp2 hr2
  k_steps
  exact ret _ fr2 _ _ _ (by assumption) (by assumption) (hs1.trans hs2) ⟨hp2.sub, fun q hq => .inr ((hp2.from_ q hq).elim (fun h => nomatch h) fun h p hp => h p (hs1.sub p hp))⟩ (hr2.le (by omega))
def Sm (i : Int) : Prop := -100000 ≤ i ∧ i ≤ 100000
/-- what an edge counts -/
noncomputable def crossZ (a b c d x y : Int) : Int :=
  if b ≤ y ∧ y < d then (if 0 < ((c - a) * (y - b) - (x - a) * (d - b)) * 1 then 1 else 0)
  else if d ≤ y ∧ y < b then (if 0 < ((c - a) * (y - b) - (x - a) * (d - b)) * -1 then -1 else 0) else 0
theorem cross_spec {w : World} {loose : List Str} {mean : ExcName → Option Value} {mg mb : Str → Option Value}
  {dp un : Nat} {gd : Option (List Code)} {cn : Str} {cs : Scope} {L a : Addr} {ccd : Value} {cl : List (Str × Addr)} {outer : List Env}
  {A₀ : Around} {base h₀ : Heap} {m : Str → Option Value} {s : Shared} {Q E : Value → Shared → Prop}
  {q : Addr} {n : Nat} {ea eb ec ed x y : Int} {ta tb tc td tx ty : Tok} {news : List (Addr × Obj)}
  (B : Below A₀ base outer h₀) (F : Fr h₀ L s.heap m) (X : (Mine.hd.heap_39 w.params).In h₀)
  (N : News h₀ L s.heap news) (T : Top Mine.hd.view_39 loose mean mg mb h₀) (hk : cs.kind = .function) (hd : dp + 5 < recursionLimit)
  (hq : (q, tupOf #[.int ea ta, .int eb tb, .int ec tc, .int ed td] n) ∈ news) (ha : Sm ea) (hb : Sm eb) (hc : Sm ec) (hd' : Sm ed) (hx : Sm x) (hy : Sm y)
  (ret : ∀ ti h' tk', Fr h₀ L h' m → News h₀ L h' news → Q (.int (crossZ ea eb ec ed x y) ti) { s with heap := h', toks := tk' }) :
  wpAny (model PySem.Challenge.rw_og0147_01.row.prog w) (ktrTop dp un gd cn cs L a ccd cl outer) (call (.ref 195) [.ref q, .int x tx, .int y ty]) Q E s := by
  obtain ⟨ha1, ha2⟩ := ha
  obtain ⟨hb1, hb2⟩ := hb
  obtain ⟨hc1, hc2⟩ := hc
  obtain ⟨hd1, hd2⟩ := hd'
  obtain ⟨hx1, hx2⟩ := hx
  obtain ⟨hy1, hy2⟩ := hy
  have ret' : ∀ z, crossZ ea eb ec ed x y = z → ∀ ti h' tk', Fr h₀ L h' m → News h₀ L h' news → Q (.int z ti) { s with heap := h', toks := tk' } := by rintro z rfl; exact ret
  refine wpAny_call ?_
  revert X; k_fill; intro X
  k_dflt (refine' code_def ?k1 ?k2 ?k3 ?k4 ?k5 ?kA ?kF ?kK ?k6 ?k7 ?k8 ?k9 ?kB ?_ ?c2 ?c3 ?c4 ?c5; (case kA => exact rfl); (case kF => exact rfl); (case kK => assumption); (case k1 => k_asm); (case k2 => k_asm); (case k3 => k_asm); (case k4 => k_asm); (case k5 => k_asm); (case k6 => k_is); (case k7 => k_is); (case k8 => ktr_room); (case k9 => exact BindsTo.of_eq rfl); (case c5 => decide); (case kB => exact locs rfl); (case c2 => exact rfl); (case c3 => exact rfl); (case c4 => exact rfl); k_whole; intro g' L' h' FG' F' N' B' X' T'; (try dsimp only); (try k_fold))
  k_steps
  all_goals
    refine ret' _ ?_ _ _ _ (by assumption) (by assumption)
    unfold crossZ
    repeat' split
    all_goals omega
abbrev Edge := Int × Int × Int × Int
def EdgeIn (news : List (Addr × Obj)) (v : Value) (e : Edge) : Prop :=
  ∃ (q : Addr) (n : Nat) (ta tb tc td : Tok), v = .ref q ∧ (q, tupOf #[.int e.1 ta, .int e.2.1 tb, .int e.2.2.1 tc, .int e.2.2.2 td] n) ∈ news
def EdgesIn (news : List (Addr × Obj)) (v : Value) (es : List Edge) : Prop :=
  ∃ (l : Addr) (n : Nat) (vs : List Value), v = .ref l ∧ (l, listOf vs.toArray n) ∈ news ∧ All2 (EdgeIn news) vs es
def SmE (e : Edge) : Prop := Sm e.1 ∧ Sm e.2.1 ∧ Sm e.2.2.1 ∧ Sm e.2.2.2
/-- how often the edges wind -/
noncomputable def windZ (x y : Int) (es : List Edge) : Int := (es.map fun e => crossZ e.1 e.2.1 e.2.2.1 e.2.2.2 x y).sum
theorem windZ_take {x y : Int} {es : List Edge} {i : Nat} {e : Edge} (h : es[i]? = some e) : windZ x y (es.take (i + 1)) = windZ x y (es.take i) + crossZ e.1 e.2.1 e.2.2.1 e.2.2.2 x y := by
  unfold windZ
  rw [List.take_add_one, h, List.map_append, List.sum_append]
  simp
theorem EdgeIn.lub {news news' : List (Addr × Obj)} {v : Value} {e : Edge} (h : EdgeIn news v e) (hs : Lub news news') : EdgeIn news' v e := by
  obtain ⟨q, n, ta, tb, tc, td, e, h⟩ := h
  exact ⟨q, n, ta, tb, tc, td, e, hs _ h good_tup⟩
theorem EdgesIn.lub {news news' : List (Addr × Obj)} {v : Value} {es : List Edge} (h : EdgesIn news v es) (hs : Lub news news') : EdgesIn news' v es := by
  obtain ⟨l, n, vs, e, h1, h2⟩ := h
  exact ⟨l, n, vs, e, hs _ h1 good_list, h2.imp fun _ _ h => h.lub hs⟩
theorem wnum_spec {w : World} {loose : List Str} {mean : ExcName → Option Value} {mg mb : Str → Option Value}
  {dp un : Nat} {gd : Option (List Code)} {cn : Str} {cs : Scope} {L a : Addr} {ccd : Value} {cl : List (Str × Addr)} {outer : List Env}
  {A₀ : Around} {base h₀ : Heap} {m : Str → Option Value} {s : Shared} {Q E : Value → Shared → Prop}
  {v : Value} {es : List Edge} {x y : Int} {tx ty : Tok} {news : List (Addr × Obj)}
  (B : Below A₀ base outer h₀) (F : Fr h₀ L s.heap m) (X : (Mine.hd.heap_39 w.params).In h₀)
  (N : News h₀ L s.heap news) (T : Top Mine.hd.view_39 loose mean mg mb h₀) (hk : cs.kind = .function) (hd : dp + 10 < recursionLimit)
  (hv : EdgesIn news v es) (hes : ∀ e ∈ es, SmE e) (hx : Sm x) (hy : Sm y)
  (ret : ∀ ti news' h' tk', Fr h₀ L h' m → News h₀ L h' news' → Sub news news' → Q (.int (windZ x y es) ti) { s with heap := h', toks := tk' }) :
  wpAny (model PySem.Challenge.rw_og0147_01.row.prog w) (ktrTop dp un gd cn cs L a ccd cl outer) (call (.ref 202) [v, .int x tx, .int y ty]) Q E s := by
  obtain ⟨l, n, vs, rfl, hl, hvs⟩ := hv
  refine wpAny_call ?_
  revert X; k_fill; intro X
  k_dflt (refine' code_def ?k1 ?k2 ?k3 ?k4 ?k5 ?kA ?kF ?kK ?k6 ?k7 ?k8 ?k9 ?kB ?_ ?c2 ?c3 ?c4 ?c5; (case kA => exact rfl); (case kF => exact rfl); (case kK => assumption); (case k1 => k_asm); (case k2 => k_asm); (case k3 => k_asm); (case k4 => k_asm); (case k5 => k_asm); (case k6 => k_is); (case k7 => k_is); (case k8 => ktr_room); (case k9 => exact BindsTo.of_eq rfl); (case c5 => decide); (case kB => exact locs rfl); (case c2 => exact rfl); (case c3 => exact rfl); (case c4 => exact rfl); k_whole; intro g' L' h' FG' F' N' B' X' T'; (try dsimp only); (try k_fold))
  k_steps
  refine Held.mk (For_invTF (by assumption) ?_ (by intro _; rfl))
  walk1
  refine iterT (fun i m₁ nx => Sub news nx ∧ (∃ t, m₁ (Str.ofString "total") = some (.int (windZ x y (es.take i)) t)) ∧ m₁ (Str.ofString "x") = some (.int x tx) ∧ m₁ (Str.ofString "y") = some (.int y ty)) rfl (by assumption) (by assumption) (by assumption) ?_ ?_ ?_ ?_
  · intro i m₁ nx nx' hj hl
    exact ⟨hl.sub hj.1, hj.2⟩
  · exact ⟨Sub.refl, ⟨_, rfl⟩, rfl, rfl⟩
  · rintro i v m₁ nx own s₁ hv ⟨hsub, ⟨tm, hm⟩, hmx, hmy⟩ hown hown2 F1 N1
    obtain ⟨e, he, q, n', ta, tb, tc, td, rfl, hq⟩ := hvs.get i v hv
    have hq' := hsub _ hq
    have hse := hes e (List.mem_of_getElem? he)
    have F1 := fr_know (fr_know (fr_know F1 (Str.ofString "total") hm) (Str.ofString "x") hmx) (Str.ofString "y") hmy
    k_steps
    refine' Held.mk (cross_spec ?cB ?cF ?cX ?cN ?cT ?ck ?cd ?x0 ?x1 ?x2 ?x3 ?x4 ?x5 ?x6 ?_)
    (case cB => k_asm)
    (case cF => k_asm)
    (case cX => k_asm)
    (case cN => k_asm)
    (case cT => k_asm)
    (case ck => first | exact rfl | assumption)
    (case cd => (dsimp only [ktrTop, Around.deeper]; exact dpl hd (Nat.le_of_ble_eq_true rfl)))
    (case x0 => exact hq')
    (case x1 => exact hse.1)
    (case x2 => exact hse.2.1)
    (case x3 => exact hse.2.2.1)
    (case x4 => exact hse.2.2.2)
    (case x5 => exact hx)
    (case x6 => exact hy)
    intro t2 h2 tk2 F2 N2
    k_steps
    refine ⟨rfl, _, _, _, nx, rfl, by assumption, by assumption, hown, hsub, ⟨_, Eq.trans rfl (congrArg (fun z => some (Value.int z _)) (windZ_take he).symm)⟩, rfl, rfl⟩
  · rintro h' tk m' nx F' N' ⟨hsub, ⟨tm, hm⟩, hmx, hmy⟩
    rw [hvs.length, List.take_length] at hm
    have F' := fr_know F' _ hm
    k_steps
    exact ret _ _ _ _ (by assumption) (by assumption) hsub
/-- a number in tenths at P places -/
noncomputable def sc (P X : Int) : Int := if P = 0 then X / 10 else X
theorem sc_ten {t P X : Int} (h : Ten t P X) : t = sc P X := by
  unfold sc
  rcases h with ⟨rfl, rfl⟩ | ⟨rfl, rfl⟩
  · simp
  · simp
noncomputable def sc2 (P : Int) (p : Int × Int) : Int × Int := (sc P p.1, sc P p.2)
def IPt (news : List (Addr × Obj)) (v : Value) (p : Int × Int) : Prop :=
  ∃ (q : Addr) (n : Nat) (ta tb : Tok), v = .ref q ∧ (q, tupOf #[.int p.1 ta, .int p.2 tb] n) ∈ news
/-- the edge that ends at corner k -/
noncomputable def prevAt (r : List (Int × Int)) (k : Nat) : Int × Int := if k = 0 then r.getD (r.length - 1) (0, 0) else r.getD (k - 1) (0, 0)
noncomputable def edgeAt (r : List (Int × Int)) (k : Nat) : Option Edge :=
  if (prevAt r k).2 ≠ (r.getD k (0, 0)).2 then some ((prevAt r k).1, (prevAt r k).2, (r.getD k (0, 0)).1, (r.getD k (0, 0)).2) else none
theorem All2.getB {α β : Type} {R : α → β → Prop} {as : List α} {bs : List β} (h : All2 R as bs) {i : Nat} (hi : i < bs.length) (d : β) : ∃ a, as[i]? = some a ∧ R a (bs.getD i d) := by
  have hi' : i < as.length := by rw [h.length]; exact hi
  obtain ⟨b, hb, hr⟩ := h.get i as[i] (by simp [hi'])
  refine ⟨as[i], by simp [hi'], ?_⟩
  rw [List.getD_eq_getElem?_getD, hb]
  exact hr
theorem pv0 {n m : Nat} (h : n = m) (h1 : 0 < m) : (((0 : Nat) : Int) - 1 + (n : Int)).toNat = m - 1 ∧ ((0 : Nat) : Int) - 1 < 0 ∧ -(n : Int) ≤ ((0 : Nat) : Int) - 1 := by omega
theorem pv1 {k m : Nat} (h : k ≠ 0) (h1 : k < m) : ((k : Int) - 1).toNat = k - 1 ∧ 0 ≤ (k : Int) - 1 ∧ k - 1 < m := by omega
theorem prev_item {R : Value → Int × Int → Prop} {ys : List Value} {r : List (Int × Int)} (h : All2 R ys r) {k : Nat} (hk : k < r.length) :
    ∃ v, ((0 ≤ (k : Int) - 1 ∧ ys[((k : Int) - 1).toNat]? = some v) ∨ ((k : Int) - 1 < 0 ∧ -(ys.length : Int) ≤ (k : Int) - 1 ∧ ys[((k : Int) - 1 + ys.length).toNat]? = some v)) ∧ R v (prevAt r k) := by
  have hl := h.length
  unfold prevAt
  by_cases hz : k = 0
  · subst hz
    have e := pv0 hl hk
    obtain ⟨v, hv, hr⟩ := h.getB (i := r.length - 1) (Nat.sub_lt hk Nat.one_pos) (0, 0)
    refine ⟨v, .inr ⟨e.2.1, e.2.2, ?_⟩, by simpa using hr⟩
    rw [e.1]
    exact hv
  · have e := pv1 hz hk
    obtain ⟨v, hv, hr⟩ := h.getB (i := k - 1) e.2.2 (0, 0)
    refine ⟨v, .inl ⟨e.2.1, ?_⟩, by simpa [hz] using hr⟩
    rw [e.1]
    exact hv
noncomputable def edgesTo (r : List (Int × Int)) (k : Nat) : List Edge := (List.range k).filterMap (edgeAt r)
noncomputable def edgesOf (r : List (Int × Int)) : List Edge := edgesTo r r.length
noncomputable def edgesAll (rs : List (List (Int × Int))) : List Edge := (rs.map edgesOf).flatten
theorem IPt.mono {news news' : List (Addr × Obj)} {v : Value} {p : Int × Int} (h : IPt news v p) (hs : Sub news news') : IPt news' v p := by
  obtain ⟨q, n, ta, tb, e, h⟩ := h
  exact ⟨q, n, ta, tb, e, hs _ h⟩
theorem take_one {α β : Type} {l : List α} {i : Nat} {a : α} (f : α → β) (h : l[i]? = some a) : (l.take (i + 1)).map f = (l.take i).map f ++ [f a] := by
  rw [List.take_add_one, h]; simp
theorem edgesTo_len (r : List (Int × Int)) (k : Nat) : (edgesTo r k).length ≤ k := by
  unfold edgesTo
  exact Nat.le_trans (List.length_filterMap_le _ _) (by simp)
theorem edgesTo_succ (r : List (Int × Int)) (k : Nat) : edgesTo r (k + 1) = edgesTo r k ++ (edgeAt r k).toList := by
  unfold edgesTo
  rw [List.range_succ, List.filterMap_append]
  cases h : edgeAt r k <;> simp [h]
theorem edgesAll_len {rs : List (List (Int × Int))} (h : ∀ r ∈ rs, r.length ≤ 100) : (edgesAll rs).length ≤ 100 * rs.length := by
  induction rs with
  | nil => simp [edgesAll]
  | cons r rs ih =>
    have h1 := ih fun r hr => h r (List.mem_cons_of_mem _ hr)
    have h2 := Nat.le_trans (edgesTo_len r r.length) (h r List.mem_cons_self)
    unfold edgesAll edgesOf at *
    simp only [List.map_cons, List.flatten_cons, List.length_append, List.length_cons] at *
    omega
theorem wedges_spec {w : World} {loose : List Str} {mean : ExcName → Option Value} {mg mb : Str → Option Value}
  {dp un : Nat} {gd : Option (List Code)} {cn : Str} {cs : Scope} {L a : Addr} {ccd : Value} {cl : List (Str × Addr)} {outer : List Env}
  {A₀ : Around} {base h₀ : Heap} {m : Str → Option Value} {s : Shared} {Q E : Value → Shared → Prop}
  {v : Value} {polys : List (List (Int × Int))} {P : Int} {tP : Tok} {news : List (Addr × Obj)}
  (B : Below A₀ base outer h₀) (F : Fr h₀ L s.heap m) (X : (Mine.hd.heap_39 w.params).In h₀)
  (N : News h₀ L s.heap news) (T : Top Mine.hd.view_39 loose mean mg mb h₀) (hk : cs.kind = .function) (hd : dp + 20 < recursionLimit)
  (hv : PolysIn w.params P news v polys) (hP0 : 0 ≤ P) (hP : P ≤ 1) (hlen : ∀ r ∈ polys, r.length ≤ 100) (hlens : polys.length ≤ 100)
  (ret : ∀ r news' h' tk', Fr h₀ L h' m → News h₀ L h' news' → Sub news news' → EdgesIn news' r (edgesAll (polys.map (List.map (sc2 P)))) → Q r { s with heap := h', toks := tk' }) :
  wpAny (model PySem.Challenge.rw_og0147_01.row.prog w) (ktrTop dp un gd cn cs L a ccd cl outer) (call (.ref 188) [v, .int P tP]) Q E s := by
  obtain ⟨l, n, vs, rfl, hl, hvs⟩ := hv
  refine wpAny_call ?_
  revert X; k_fill; intro X
  (k_dflt (refine' code_defC ?k1 ?k2 ?k3 ?k4 ?k5 ?kA ?kF ?kK ?k6 ?k7 ?k8 ?k9 ?kB ?kD ?_ ?c2 ?c3 ?c4; (case kA => exact rfl); (case kF => exact rfl); (case kK => assumption); (case k1 => k_asm); (case k2 => k_asm); (case k3 => k_asm); (case k4 => k_asm); (case k5 => k_asm); (case k6 => k_is); (case k7 => k_is); (case k8 => ktr_room); (case k9 => exact BindsTo.of_eq rfl); (case kB => exact rfl); (case kD => decide +kernel); (case c2 => exact rfl); (case c3 => exact rfl); (case c4 => exact rfl); k_whole; intro g' L' h' tk' cells' FG' F' N' Y' B' X' T' l1; (try k_lt l1); k_cells Y'; (try simp only [List.cons_append, List.nil_append] at N'); (try dsimp only); (try k_fold)))
  k_steps
  rename_i oP dP D hD1 lD hD2 FD ND
  refine Held.mk (For_invTF FD ?_ (by intro _; rfl))
  walk1
  refine iterT (fun i m₁ nx => Sub ((L' + 1, oP) :: news) nx ∧ m₁ (Str.ofString "found") = some (.ref D) ∧ ∃ fs k, (D, listOf fs.toArray k) ∈ nx ∧ All2 (EdgeIn nx) fs (edgesAll ((polys.take i).map (List.map (sc2 P))))) rfl FD ND (by k_mem) ?_ ?_ ?_ ?_
  · rintro i m₁ nx nx' ⟨h1, h2, fs, k, h3, h4⟩ hl
    exact ⟨fun q hq => hl q (h1 q hq) (.inr (List.mem_cons_of_mem _ hq)), h2, fs, k, hl _ h3 (.inl good_list), h4.imp fun _ _ h => h.lub hl.lub⟩
  · exact ⟨Sub.cons, rfl, [], 0, List.mem_cons_self, .nil⟩
  · rintro i v m₁ nx own s₁ hv ⟨hsub, hm, fs, kf, hD, hfs⟩ hown hown2 F1 N1
    obtain ⟨pts, hpts, lr, nr, rs, rfl, hlr, hrs⟩ := hvs.get i v hv
    have hbD : ∀ q ∈ (L' + 1, oP) :: news, q.1 ≠ D := by
      intro q hq
      rcases List.mem_cons.mp hq with rfl | hq
      · exact Nat.ne_of_lt lD.1
      · exact Nat.ne_of_lt (allLt_mem lD.2 q hq)
    have hownD1 : ∀ p ∈ own, p.1 ≠ D := by
      intro p hp
      rcases hown2 p hp with e | hg
      · rw [e]; exact hbD _ (List.mem_cons_of_mem _ hl)
      · exact ne_good N1 (hown p hp) hD hg good_list
    have hlr' := hsub _ (List.mem_cons_of_mem _ hlr)
    have hcell := hsub _ List.mem_cons_self
    have F1 := fr_know F1 _ hm
    k_steps
    refine Held.mk (LCp.Assign_ListComp_P (F₀ := by k_asm) (by rfl) (by with_unfolding_all rfl) (by with_unfolding_all rfl) (by decide) (by rfl) (by decide) (by rfl) (by rfl) (by decide) (by rfl) (by rfl) ?_)
    walk1
    refine LCp.SrcLP.ledger rfl (by k_asm) (by k_asm) hlr' (by have := hlen _ (List.mem_of_getElem? hpts); rw [← hrs.length] at this; exact Nat.le_trans (by simpa using this) (by decide)) ?_
    intro g2
    refine comp_ind (fun i ys nz => Sub nx nz ∧ All2 (IPt nz) ys ((pts.take i).map (sc2 P))) rs.toArray.size ?_ ?_ _ 0 [] nx (Nat.zero_add _) ⟨Sub.refl, .nil⟩
    · rintro i2 ys nz v2 hi2 hv2 ⟨hsub2, hys⟩
      obtain ⟨p2, hp2, t2, n2, a2, b2, rfl, ht2, ha2, hb2⟩ := hrs.get i2 v2 (by simpa using hv2)
      refine ⟨t2, _, _, _, _, rfl, hsub2 _ (hsub _ (List.mem_cons_of_mem _ ht2)), rfl, rfl, ?_⟩
      intro I2 oI2 C2 oC2 D2 m2 h2 tk2 E2 hC2 hx2 hy2 F2 N2 off2
      have hcell2 := hsub2 _ hcell
      have ha3 := (((ha2.mono Sub.cons).mono hsub).mono hsub2)
      have hb3 := (((hb2.mono Sub.cons).mono hsub).mono hsub2)
      k_steps
      refine' Held.mk (atp_spec ?cB ?cF ?cX ?cN ?cT ?ck ?cd ?x0 ?x1 ?_)
      (case cB => k_asm)
      (case cF => k_asm)
      (case cX => k_asm)
      (case cN => k_asm)
      (case cT => k_asm)
      (case ck => first | exact rfl | assumption)
      (case cd => (dsimp only [ktrTop, Around.deeper]; exact dpl hd (Nat.le_of_ble_eq_true rfl)))
      (case x0 => exact ha3.mono Sub.cons3)
      (case x1 => exact hP)
      intro i3 t3 h3 tk3 F3 N3 hT3
      k_steps
      refine' Held.mk (atp_spec ?cB ?cF ?cX ?cN ?cT ?ck ?cd ?x0 ?x1 ?_)
      (case cB => k_asm)
      (case cF => k_asm)
      (case cX => k_asm)
      (case cN => k_asm)
      (case cT => k_asm)
      (case ck => first | exact rfl | assumption)
      (case cd => (dsimp only [ktrTop, Around.deeper]; exact dpl hd (Nat.le_of_ble_eq_true rfl)))
      (case x0 => exact hb3.mono Sub.cons3)
      (case x1 => exact hP)
      intro i4 t4 h4 tk4 F4 N4 hT4
      k_steps
      try k_unfold
      rename_i Dq _ FQ NQ lq
      refine ⟨_, _, _, (Dq, tupOf #[.int i3 t3, .int i4 t4] 0) :: nz, rfl, FQ, NQ, ?_, ?_, .inr ⟨_, List.mem_cons_of_mem _ (hsub2 _ hlr'), rfl, _, rfl⟩, hsub2.trans Sub.cons, ?_⟩
      · intro p hp
        simp only [List.cons_append, List.nil_append, List.mem_cons] at hp ⊢
        rcases hp with hp | hp | hp | hp | hp <;> simp only [hp, true_or, or_true]
      · intro p hp
        rcases List.mem_cons.mp hp with rfl | hp
        · exact ⟨Nat.ne_of_gt lq.1, Nat.ne_of_gt lq.2.1, Nat.ne_of_gt lq.2.2.1⟩
        · exact off2 p hp
      · rw [take_one _ hp2]
        refine (hys.imp fun _ _ h => h.mono Sub.cons).append (.cons ⟨Dq, 0, t3, t4, rfl, ?_⟩ .nil)
        have e3 := sc_ten hT3
        have e4 := sc_ten hT4
        subst e3 e4
        exact List.mem_cons_self
    · rintro ys nz ⟨hsub2, hys⟩
      intro Dr hr tkr FR NR offr
      rw [show rs.toArray.size = pts.length by simp [hrs.length], List.take_length] at hys
      have hyl : ys.length = pts.length := by simp [hys.length]
      have hpl : pts.length ≤ 100 := hlen _ (List.mem_of_getElem? hpts)
      have hnD : ∀ q n its, (q, tupOf its n) ∈ nz → q ≠ D := fun q n its h => ne_cls NR (List.mem_cons_of_mem _ h) (List.mem_cons_of_mem _ (hsub2 _ hD)) (by simp)
      have hDrD : Dr ≠ D := Ne.symm (off1_mem offr _ (hsub2 _ hD))
      have hil : i < polys.length := (List.getElem?_eq_some_iff.mp hpts).1
      have hel : (edgesAll ((polys.take i).map (List.map (sc2 P)))).length ≤ 10000 := by
        refine Nat.le_trans (edgesAll_len fun r hr => ?_) (by simp; omega)
        obtain ⟨r', hr', rfl⟩ := List.mem_map.mp hr
        simpa using hlen r' (List.mem_of_mem_take hr')
      dsimp only
      k_steps
      refine Held.mk (For_invTF FR ?_ (by intro _; rfl))
      k_steps
      refine Held.mk (len_M (k := pts.length) (by assumption) List.mem_cons_self hyl (Nat.le_trans hpl (by decide)) ?_)
      k_steps
      rename_i hR
      refine Held.mk (iterR (fun kk m₂ nw => (∀ q ∈ (Dr, LCg.lst ys) :: nz, q.1 ≠ D → q ∈ nw) ∧ m₂ (Str.ofString "found") = some (.ref D) ∧ m₂ (Str.ofString "row") = some (.ref Dr) ∧
        ∃ fs2 k2, (D, listOf fs2.toArray k2) ∈ nw ∧ All2 (EdgeIn nw) fs2 (edgesAll ((polys.take i).map (List.map (sc2 P))) ++ edgesTo (pts.map (sc2 P)) kk)) rfl (by assumption) (by omega) (by assumption) (by assumption) ?_ ?_ ?_ ?_)
      · rintro kk m₂ nw nw' ⟨h1, h2, h3, fs2, k2, h4, h5⟩ hl
        exact ⟨fun q hq hn => hl q (h1 q hq hn) (.inr hq), h2, h3, fs2, k2, hl _ h4 (.inl good_list), h5.imp fun _ _ h => h.lub hl.lub⟩
      · refine ⟨fun q hq _ => hq, rfl, rfl, fs, kf, List.mem_cons_of_mem _ (hsub2 _ hD), ?_⟩
        rw [show edgesTo (pts.map (sc2 P)) 0 = [] from rfl, List.append_nil]
        exact hfs.imp fun _ _ h => h.lub (hsub2.trans Sub.cons).lub
      · rintro kk t5 m₂ nw own2 s₂ hkk ⟨hs2, hmf, hmr, fs2, k2, hD2, hfs2⟩ hown3 hown4 F3 N3
        have F3 := fr_know (fr_know F3 (Str.ofString "found") hmf) (Str.ofString "row") hmr
        have hkk2 : kk < (pts.map (sc2 P)).length := by simpa using hkk
        have hysw : All2 (IPt nw) ys (pts.map (sc2 P)) := by
          refine hys.imp fun v p h => ?_
          obtain ⟨q, n, ta, tb, e, h⟩ := h
          exact ⟨q, n, ta, tb, e, hs2 _ (List.mem_cons_of_mem _ h) (hnD _ _ _ h)⟩
        have hDr : (Dr, LCg.lst ys) ∈ nw := hs2 _ List.mem_cons_self hDrD
        obtain ⟨v1, hv1, q1, n1, ta1, tb1, rfl, hq1⟩ := prev_item hysw hkk2
        obtain ⟨v2, hv2, q2, n2, ta2, tb2, rfl, hq2⟩ := hysw.getB hkk2 (0, 0)
        k_steps
        refine Held.mk (item_M (by assumption) hDr (by omega) hv1 ?_ (by with_unfolding_all rfl))
        k_steps
        refine Held.mk (item_M (by assumption) hDr (by omega) (.inl ⟨by omega, by simpa using hv2⟩) ?_ (by with_unfolding_all rfl))
        have hfl : fs2.length ≤ 11000 := by
          have e1 := hfs2.length
          have e2 := edgesTo_len (pts.map (sc2 P)) kk
          rw [List.length_append] at e1
          omega
        have hownD : ∀ p ∈ own2, p.1 ≠ D := by
          intro p hp
          exact ne_good N3 (hown3 p hp) hD2 (hown4 p hp) good_list
        k_steps
        · rename_i hcond Dt _ FT NT lT
          refine Held.mk (append_M FT NT (List.mem_cons_of_mem _ hD2) (Nat.le_trans hfl (by decide)) ?_)
          intro h7 F7 N7
          k_steps
          refine ⟨rfl, _, _, _, _, rfl, by assumption, by assumption, fun p hp => anew_else (List.mem_cons_of_mem _ (hown3 p hp)) (hownD p hp), fun q hq hn => anew_else (List.mem_cons_of_mem _ (hs2 q hq hn)) hn, rfl, rfl, _, _, anew_here, ?_⟩
          rw [edgesTo_succ, ← List.append_assoc]
          have eA : edgeAt (pts.map (sc2 P)) kk = some ((prevAt (pts.map (sc2 P)) kk).1, (prevAt (pts.map (sc2 P)) kk).2, ((pts.map (sc2 P)).getD kk (0, 0)).1, ((pts.map (sc2 P)).getD kk (0, 0)).2) := if_pos (by assumption)
          rw [eA]
          refine (hfs2.imp fun v e h => ?_).append (.cons ⟨Dt, 0, ta1, tb1, ta2, tb2, rfl, ?_⟩ .nil)
          · obtain ⟨q, n, ta, tb, tc, td, e, h⟩ := h
            exact ⟨q, n, ta, tb, tc, td, e, anew_else (List.mem_cons_of_mem _ h) (ne_cls NT (List.mem_cons_of_mem _ h) (List.mem_cons_of_mem _ hD2) (by simp))⟩
          · exact anew_else List.mem_cons_self (ne_cls NT List.mem_cons_self (List.mem_cons_of_mem _ hD2) (by simp))
        · refine ⟨rfl, _, _, _, nw, rfl, by assumption, by assumption, hown3, hs2, rfl, rfl, fs2, k2, hD2, ?_⟩
          rw [edgesTo_succ]
          have eA : edgeAt (pts.map (sc2 P)) kk = none := if_neg (fun h => h (by assumption))
          rw [eA]
          simpa using hfs2
      · rintro h6 tk6 m₂ nw F3 N3 ⟨hs2, hmf, hmr, fs2, k2, hD2, hfs2⟩
        k_steps
        refine ⟨rfl, _, _, _, nw, rfl, by assumption, by assumption, ?_, ?_, hmf, fs2, k2, hD2, ?_⟩
        · exact fun p hp => hs2 p (List.mem_cons_of_mem _ (hsub2 _ (hown p hp))) (hownD1 p hp)
        · intro q hq
          exact hs2 q (List.mem_cons_of_mem _ (hsub2 _ (hsub q hq))) (hbD q hq)
        · rw [take_one _ hpts]
          unfold edgesAll at hfs2 ⊢
          rw [List.map_append, List.flatten_append]
          have e : edgesOf (pts.map (sc2 P)) = edgesTo (pts.map (sc2 P)) pts.length := by unfold edgesOf; rw [List.length_map]
          simpa [e] using hfs2
  · rintro h' tk m' nx F' N' ⟨hsub, hm, fs, kf, hD, hfs⟩
    have F' := fr_know F' _ hm
    k_steps
    refine ret _ _ _ _ (by assumption) (by assumption) (fun q hq => hsub q (List.mem_cons_of_mem _ hq)) ⟨_, _, _, rfl, hD, ?_⟩
    rw [hvs.length, List.take_length] at hfs
    exact hfs
/-! the plain law: what winding reckons, with no program in sight -/
abbrev Pt := Int × Int
noncomputable def seg (x y : Int) (p q : Pt) : Int := crossZ p.1 p.2 q.1 q.2 x y
noncomputable def path (x y : Int) : Pt → List Pt → Int
  | _, [] => 0
  | p, q :: t => seg x y p q + path x y q t
/-- how often a ring goes round (x, y) -/
noncomputable def ringZ (x y : Int) (r : List Pt) : Int := path x y (r.getD (r.length - 1) (0, 0)) r
noncomputable def windT (x y : Int) (rs : List (List Pt)) : Int := (rs.map (ringZ x y)).sum
theorem seg_flat {x y : Int} {p q : Pt} (h : p.2 = q.2) : seg x y p q = 0 := by
  unfold seg crossZ
  rw [h]
  repeat' split
  all_goals omega
theorem windZ_append (x y : Int) (a b : List Edge) : windZ x y (a ++ b) = windZ x y a + windZ x y b := by
  unfold windZ
  rw [List.map_append, List.sum_append]
theorem windZ_one {x y : Int} {r : List Pt} {k : Nat} : windZ x y (edgeAt r k).toList = seg x y (prevAt r k) (r.getD k (0, 0)) := by
  unfold edgeAt
  by_cases h : (prevAt r k).2 = (r.getD k (0, 0)).2
  · rw [if_neg (fun n => n h), seg_flat h]
    rfl
  · rw [if_pos h]
    simp [windZ, seg]
theorem windZ_to (x y : Int) (r : List Pt) (k : Nat) : windZ x y (edgesTo r k) = ((List.range k).map fun j => seg x y (prevAt r j) (r.getD j (0, 0))).sum := by
  induction k with
  | zero => rfl
  | succ k ih => rw [edgesTo_succ, windZ_append, ih, windZ_one, List.range_succ, List.map_append, List.sum_append]; simp
theorem path_range (x y : Int) : ∀ (r : List Pt) (p : Pt), ((List.range r.length).map fun j => seg x y (if j = 0 then p else r.getD (j - 1) (0, 0)) (r.getD j (0, 0))).sum = path x y p r
  | [], _ => rfl
  | q :: t, p => by
    rw [List.length_cons, List.range_succ_eq_map, List.map_cons, List.sum_cons, List.map_map]
    show seg x y p q + _ = seg x y p q + path x y q t
    rw [← path_range x y t q]
    congr 2
    refine List.map_congr_left fun j _ => ?_
    show seg x y (if j + 1 = 0 then p else (q :: t).getD (j + 1 - 1) (0, 0)) ((q :: t).getD (j + 1) (0, 0)) = _
    rw [if_neg (Nat.succ_ne_zero j), Nat.add_sub_cancel]
    cases j with
    | zero => rfl
    | succ j => rw [if_neg (Nat.succ_ne_zero j)]; rfl
theorem windZ_ring (x y : Int) (r : List Pt) : windZ x y (edgesOf r) = ringZ x y r := by
  unfold edgesOf ringZ
  rw [windZ_to, ← path_range]
  rfl
theorem windZ_all (x y : Int) (rs : List (List Pt)) : windZ x y (edgesAll rs) = windT x y rs := by
  unfold edgesAll windT
  induction rs with
  | nil => rfl
  | cons r rs ih => rw [List.map_cons, List.flatten_cons, windZ_append, ih, windZ_ring, List.map_cons, List.sum_cons]
/-! scale -/
theorem mul_tens (u v : Int) : (10 * u) * (10 * v) = 100 * (u * v) := by
  rw [Int.mul_assoc, Int.mul_left_comm u 10 v, ← Int.mul_assoc, show (10 : Int) * 10 = 100 from rfl]
theorem le_tens (a b : Int) : (10 * a ≤ 10 * b) = (a ≤ b) := propext ⟨fun h => by omega, fun h => by omega⟩
theorem lt_tens (a b : Int) : (10 * a < 10 * b) = (a < b) := propext ⟨fun h => by omega, fun h => by omega⟩
theorem pos_up (a : Int) : (0 < 100 * a * 1) = (0 < a * 1) := propext ⟨fun h => by omega, fun h => by omega⟩
theorem pos_down (a : Int) : (0 < 100 * a * -1) = (0 < a * -1) := propext ⟨fun h => by omega, fun h => by omega⟩
theorem seg_ten (x y : Int) (p q : Pt) : seg (10 * x) (10 * y) (10 * p.1, 10 * p.2) (10 * q.1, 10 * q.2) = seg x y p q := by
  unfold seg crossZ
  simp only [← Int.mul_sub, mul_tens, le_tens, lt_tens, pos_up, pos_down]
theorem path_ten (x y : Int) : ∀ (r : List Pt) (p : Pt), path (10 * x) (10 * y) (10 * p.1, 10 * p.2) (r.map fun q => (10 * q.1, 10 * q.2)) = path x y p r
  | [], _ => rfl
  | q :: t, p => by
    show seg _ _ _ _ + path _ _ _ _ = seg x y p q + path x y q t
    rw [seg_ten, path_ten x y t q]
theorem getD_map {r : List Pt} {f : Pt → Pt} (h : f (0, 0) = (0, 0)) (k : Nat) : (r.map f).getD k (0, 0) = f (r.getD k (0, 0)) := by
  rw [List.getD_eq_getElem?_getD, List.getD_eq_getElem?_getD, List.getElem?_map]
  cases r[k]? with
  | none => exact h.symm
  | some a => rfl
theorem ring_ten (x y : Int) (r : List Pt) : ringZ (10 * x) (10 * y) (r.map fun q => (10 * q.1, 10 * q.2)) = ringZ x y r := by
  unfold ringZ
  rw [getD_map (by rfl), List.length_map]
  exact path_ten x y r _
/-- every number of the ring has P places -/
def Tens (P : Int) (r : List Pt) : Prop := ∀ p ∈ r, Ten (sc P p.1) P p.1 ∧ Ten (sc P p.2) P p.2
theorem wind_scale {P X Y : Int} {rs : List (List Pt)} (hX : Ten (sc P X) P X) (hY : Ten (sc P Y) P Y) (hr : ∀ r ∈ rs, Tens P r) :
    windZ (sc P X) (sc P Y) (edgesAll (rs.map (List.map (sc2 P)))) = windT X Y rs := by
  rw [windZ_all]
  unfold windT
  rw [List.map_map]
  congr 1
  refine List.map_congr_left fun r h => ?_
  show ringZ _ _ (r.map (sc2 P)) = ringZ X Y r
  have hr := hr r h
  rcases hX with ⟨rfl, e1⟩ | ⟨rfl, e1⟩
  · rcases hY with ⟨-, e2⟩ | ⟨h0, -⟩
    · have e3 : r = (r.map (sc2 0)).map fun q => (10 * q.1, 10 * q.2) := by
        rw [List.map_map]
        conv => lhs; rw [← List.map_id r]
        refine List.map_congr_left fun p hp => ?_
        obtain ⟨h1, h2⟩ := hr p hp
        rcases h1 with ⟨-, h1⟩ | ⟨h0, -⟩
        · rcases h2 with ⟨-, h2⟩ | ⟨h0, -⟩
          · exact Prod.ext h1 h2
          · omega
        · omega
      conv => rhs; rw [e3, e1, e2]
      rw [ring_ten]
    · omega
  · have e : r.map (sc2 1) = r := by
      conv => rhs; rw [← List.map_id r]
      exact List.map_congr_left fun p _ => rfl
    rw [e]
    rfl
/-! the other way round -/
theorem side_rev (a b c d x y : Int) : (a - c) * (y - d) - (x - c) * (b - d) = -((c - a) * (y - b) - (x - a) * (d - b)) := by
  simp only [Int.sub_mul, Int.mul_sub]
  generalize c * y = c1; generalize a * y = c2; generalize c * b = c3; generalize a * b = c4; generalize x * d = c5; generalize x * b = c6; generalize a * d = c7; generalize c * d = c8
  omega
theorem seg_rev (x y : Int) (p q : Pt) : seg x y q p = - seg x y p q := by
  unfold seg crossZ
  rw [side_rev p.1 p.2 q.1 q.2 x y]
  generalize (q.1 - p.1) * (y - p.2) - (x - p.1) * (q.2 - p.2) = A
  repeat' split
  all_goals omega
noncomputable def lastD (l : List Pt) : Pt := l.getD (l.length - 1) (0, 0)
noncomputable def opn (x y : Int) : List Pt → Int
  | [] => 0
  | a :: t => path x y a t
theorem lastD_snoc (l : List Pt) (q : Pt) : lastD (l ++ [q]) = q := by
  unfold lastD
  rw [List.length_append, List.length_singleton, Nat.add_sub_cancel, List.getD_eq_getElem?_getD]
  simp
theorem lastD_cons (a b : Pt) (t : List Pt) : lastD (a :: b :: t) = lastD (b :: t) := rfl
theorem path_app (x y : Int) : ∀ (s t : List Pt) (p : Pt), path x y p (s ++ t) = path x y p s + path x y (lastD (p :: s)) t
  | [], t, p => by show path x y p t = 0 + path x y p t; omega
  | q :: s, t, p => by
    show seg x y p q + path x y q (s ++ t) = seg x y p q + path x y q s + path x y (lastD (p :: q :: s)) t
    rw [path_app x y s t q, lastD_cons]
    omega
theorem opn_rev (x y : Int) : ∀ (l : List Pt), opn x y l.reverse = - opn x y l
  | [] => rfl
  | [a] => rfl
  | a :: b :: t => by
    have ih := opn_rev x y (b :: t)
    rw [List.reverse_cons]
    cases h : (b :: t).reverse with
    | nil => simp at h
    | cons c u =>
      rw [h] at ih
      show path x y c (u ++ [a]) = -(seg x y a b + path x y b t)
      rw [path_app]
      have e : lastD (c :: u) = b := by rw [← h, List.reverse_cons]; exact lastD_snoc _ _
      rw [e]
      have e2 : path x y c u = - path x y b t := ih
      rw [e2]
      show _ + (seg x y b a + 0) = _
      rw [seg_rev x y a b]
      omega
theorem ring_cons (x y : Int) (a : Pt) (t : List Pt) : ringZ x y (a :: t) = seg x y (lastD (a :: t)) a + opn x y (a :: t) := rfl
theorem ring_rev (x y : Int) (l : List Pt) : ringZ x y l.reverse = - ringZ x y l := by
  cases l with
  | nil => rfl
  | cons a t =>
    rw [ring_cons]
    have ho := opn_rev x y (a :: t)
    cases h : (a :: t).reverse with
    | nil => simp at h
    | cons c u =>
      rw [h] at ho
      rw [ring_cons, ho]
      have e1 : lastD (c :: u) = a := by rw [← h, List.reverse_cons]; exact lastD_snoc _ _
      have e2 : lastD (a :: t) = c := by
        have : a :: t = (c :: u).reverse := by rw [← h, List.reverse_reverse]
        rw [this, List.reverse_cons]; exact lastD_snoc _ _
      rw [e1, e2, seg_rev]
      omega
/-! another beginning -/
theorem lastD_app (s : List Pt) (a : Pt) (t : List Pt) : lastD (s ++ a :: t) = lastD (a :: t) := by
  unfold lastD
  rw [List.getD_eq_getElem?_getD, List.getD_eq_getElem?_getD, List.length_append, List.getElem?_append_right (by simp)]
  congr 2
  simp
theorem ring_rot (x y : Int) (s t : List Pt) : ringZ x y (t ++ s) = ringZ x y (s ++ t) := by
  cases s with
  | nil => rw [List.append_nil]; rfl
  | cons a s =>
    cases t with
    | nil => rw [List.append_nil]; rfl
    | cons b t =>
      show seg x y (lastD (b :: t ++ a :: s)) b + path x y b (t ++ a :: s) = seg x y (lastD (a :: s ++ b :: t)) a + path x y a (s ++ b :: t)
      rw [lastD_app, lastD_app, path_app, path_app]
      show _ + (_ + (seg x y (lastD (b :: t)) a + path x y a s)) = _ + (_ + (seg x y (lastD (a :: s)) b + path x y b t))
      omega
/-! moved -/
theorem seg_move (x y a b : Int) (p q : Pt) : seg (x + a) (y + b) (p.1 + a, p.2 + b) (q.1 + a, q.2 + b) = seg x y p q := by
  unfold seg crossZ
  simp only [Int.add_le_add_iff_right, Int.add_lt_add_iff_right, Int.add_sub_add_right]
theorem path_move (x y a b : Int) : ∀ (r : List Pt) (p : Pt), path (x + a) (y + b) (p.1 + a, p.2 + b) (r.map fun q => (q.1 + a, q.2 + b)) = path x y p r
  | [], _ => rfl
  | q :: t, p => by
    show seg _ _ _ _ + path _ _ _ _ = seg x y p q + path x y q t
    rw [seg_move, path_move x y a b t q]
theorem ring_move (x y a b : Int) (r : List Pt) : ringZ (x + a) (y + b) (r.map fun q => (q.1 + a, q.2 + b)) = ringZ x y r := by
  cases r with
  | nil => rfl
  | cons c t =>
    unfold ringZ
    rw [List.length_map, ← path_move x y a b (c :: t)]
    congr 1
    rw [List.getD_eq_getElem?_getD, List.getD_eq_getElem?_getD, List.getElem?_map]
    have : (c :: t).length - 1 < (c :: t).length := by simp
    rw [List.getElem?_eq_getElem this]
    rfl
/-! beyond all corners -/
def In60 (p : Pt) : Prop := -60 ≤ p.1 ∧ p.1 ≤ 60 ∧ -60 ≤ p.2 ∧ p.2 ≤ 60
theorem lastD_mem {a : Pt} {t : List Pt} : lastD (a :: t) ∈ a :: t := by
  unfold lastD
  have h : (a :: t).length - 1 < (a :: t).length := by simp
  rw [List.getD_eq_getElem?_getD, List.getElem?_eq_getElem h]
  exact List.getElem_mem h
theorem path_zero {x y : Int} (hz : ∀ p q, In60 p → In60 q → seg x y p q = 0) : ∀ (r : List Pt) (p : Pt), In60 p → (∀ q ∈ r, In60 q) → path x y p r = 0
  | [], _, _, _ => rfl
  | q :: t, p, hp, hr => by
    show seg x y p q + path x y q t = 0
    rw [hz p q hp (hr q List.mem_cons_self), path_zero hz t q (hr q List.mem_cons_self) fun p hp => hr p (List.mem_cons_of_mem _ hp)]
    rfl
theorem ring_zero {x y : Int} (hz : ∀ p q, In60 p → In60 q → seg x y p q = 0) (r : List Pt) (hr : ∀ q ∈ r, In60 q) : ringZ x y r = 0 := by
  cases r with
  | nil => rfl
  | cons a t => exact path_zero hz _ _ (hr _ lastD_mem) hr
theorem seg_above {x y : Int} (h : 60 < y ∨ y < -60) (p q : Pt) (hp : In60 p) (hq : In60 q) : seg x y p q = 0 := by
  obtain ⟨_, _, _, _⟩ := hp
  obtain ⟨_, _, _, _⟩ := hq
  unfold seg crossZ
  rw [if_neg (by omega), if_neg (by omega)]
theorem side_up (a b c d x y : Int) : (c - a) * (y - b) - (x - a) * (d - b) = (c - x) * (y - b) - (x - a) * (d - y) := by
  simp only [Int.sub_mul, Int.mul_sub]
  generalize c * y = c1; generalize a * y = c2; generalize c * b = c3; generalize a * b = c4; generalize x * d = c5; generalize x * b = c6; generalize a * d = c7; generalize x * y = c8
  omega
theorem sgA {u v : Int} (h : 0 ≤ u) (h' : 0 ≤ v) : ¬ 0 < (-u - v) * 1 := by omega
theorem sgB {u v : Int} (h : 0 ≤ u) (h' : 0 ≤ v) : ¬ 0 < (u - -v) * -1 := by omega
theorem sgC {u v : Int} (h : 0 ≤ u) (h' : 0 < v) : 0 < (u - -v) * 1 := by omega
theorem sgD {u v : Int} (h : 0 < u) (h' : 0 ≤ v) : 0 < (-u - v) * -1 := by omega
theorem neg_l (a b c : Int) : (a - b) * c = -((b - a) * c) := by rw [← Int.neg_mul, Int.neg_sub]
theorem neg_r (a b c : Int) : c * (a - b) = -(c * (b - a)) := by rw [← Int.mul_neg, Int.neg_sub]
theorem neg_b (a b c d : Int) : (a - b) * (c - d) = (b - a) * (d - c) := by rw [neg_l, neg_r, Int.neg_neg]
theorem nn {a b : Int} (h : a ≤ b) : 0 ≤ b - a := Int.sub_nonneg_of_le h
theorem ps {a b : Int} (h : a < b) : 0 < b - a := Int.sub_pos_of_lt h
theorem seg_right {x y : Int} (h : 60 < x) (p q : Pt) (hp : In60 p) (hq : In60 q) : seg x y p q = 0 := by
  have h1 : p.1 ≤ x := Int.le_of_lt (Int.lt_of_le_of_lt hp.2.1 h)
  have h2 : q.1 ≤ x := Int.le_of_lt (Int.lt_of_le_of_lt hq.2.1 h)
  unfold seg crossZ
  rw [side_up p.1 p.2 q.1 q.2 x y]
  by_cases hu : p.2 ≤ y ∧ y < q.2
  · rw [if_pos hu, neg_l q.1 x, if_neg (sgA (Int.mul_nonneg (nn h2) (nn hu.1)) (Int.mul_nonneg (nn h1) (nn (Int.le_of_lt hu.2))))]
  · rw [if_neg hu]
    by_cases hd : q.2 ≤ y ∧ y < p.2
    · rw [if_pos hd, neg_b q.1 x, neg_r q.2 y, if_neg (sgB (Int.mul_nonneg (nn h2) (nn (Int.le_of_lt hd.2))) (Int.mul_nonneg (nn h1) (nn hd.1)))]
    · rw [if_neg hd]
noncomputable def under (y b : Int) : Int := if b ≤ y then 1 else 0
theorem under_eq {y b d : Int} (hu : ¬ (b ≤ y ∧ y < d)) (hd : ¬ (d ≤ y ∧ y < b)) : 0 = under y b - under y d := by
  unfold under
  split <;> split <;> omega
theorem seg_left {x y : Int} (h : x < -60) (p q : Pt) (hp : In60 p) (hq : In60 q) : seg x y p q = under y p.2 - under y q.2 := by
  have h1 : x < p.1 := Int.lt_of_lt_of_le h hp.1
  have h2 : x < q.1 := Int.lt_of_lt_of_le h hq.1
  unfold seg crossZ
  rw [side_up p.1 p.2 q.1 q.2 x y]
  by_cases hu : p.2 ≤ y ∧ y < q.2
  · rw [if_pos hu, neg_l x p.1, if_pos (sgC (Int.mul_nonneg (nn (Int.le_of_lt h2)) (nn hu.1)) (Int.mul_pos (ps h1) (ps hu.2)))]
    unfold under
    rw [if_pos hu.1, if_neg (Int.not_le.mpr hu.2)]; rfl
  · rw [if_neg hu]
    by_cases hd : q.2 ≤ y ∧ y < p.2
    · rw [if_pos hd, neg_r y p.2, neg_b x p.1, if_pos (sgD (Int.mul_pos (ps h2) (ps hd.2)) (Int.mul_nonneg (nn (Int.le_of_lt h1)) (nn hd.1)))]
      unfold under
      rw [if_neg (Int.not_le.mpr hd.2), if_pos hd.1]; rfl
    · rw [if_neg hd]
      exact under_eq hu hd
theorem path_left {x y : Int} (h : x < -60) : ∀ (r : List Pt) (p : Pt), In60 p → (∀ q ∈ r, In60 q) → path x y p r = under y p.2 - under y (lastD (p :: r)).2
  | [], p, _, _ => by show (0 : Int) = under y p.2 - under y p.2; omega
  | q :: t, p, hp, hr => by
    show seg x y p q + path x y q t = _
    rw [seg_left h p q hp (hr q List.mem_cons_self), path_left h t q (hr q List.mem_cons_self) fun p hp => hr p (List.mem_cons_of_mem _ hp), lastD_cons]
    omega
theorem ring_left {x y : Int} (h : x < -60) (r : List Pt) (hr : ∀ q ∈ r, In60 q) : ringZ x y r = 0 := by
  cases r with
  | nil => rfl
  | cons a t =>
    rw [ring_cons, seg_left h _ _ (hr _ lastD_mem) (hr a List.mem_cons_self)]
    show _ + path x y a t = 0
    rw [path_left h t a (hr a List.mem_cons_self) fun p hp => hr p (List.mem_cons_of_mem _ hp)]
    omega
theorem ring_far {x y : Int} (h : 60 < x ∨ x < -60 ∨ 60 < y ∨ y < -60) (r : List Pt) (hr : ∀ q ∈ r, In60 q) : ringZ x y r = 0 := by
  rcases h with h | h | h | h
  · exact ring_zero (fun p q hp hq => seg_right h p q hp hq) r hr
  · exact ring_left h r hr
  · exact ring_zero (fun p q hp hq => seg_above (.inl h) p q hp hq) r hr
  · exact ring_zero (fun p q hp hq => seg_above (.inr h) p q hp hq) r hr
noncomputable abbrev poolOf (c : Addr) (g st pl : Int) (t1 t2 t3 : Tok) (n : Nat) : Obj := listOf #[.ref c, .int g t1, .int st t2, .int pl t3] n
theorem mod_lo (a : Int) {n : Int} (h : 1 ≤ n) : 0 ≤ a.fmod n := fmod_lo a (by omega)
theorem mod_hi (a : Int) {n : Int} (h : 1 ≤ n) : a.fmod n < n := fmod_hi a (by omega)
theorem div_lo {a n : Int} (ha : 0 ≤ a) (h : 1 ≤ n) : 0 ≤ a.fdiv n := by
  rw [Int.fdiv_eq_ediv_of_nonneg _ (by omega)]
  exact Int.ediv_nonneg ha (by omega)
/-- no list whose second item is an int: not the pool -/
def noPool (o : Obj) : Prop := ∀ its n i t, o = listOf its n → its[1]? ≠ some (.int i t)
def Pub (news news' : List (Addr × Obj)) : Prop := ∀ q ∈ news, noPool q.2 → q ∈ news'
theorem noPool_cls {o : Obj} (h : o.cls ≠ .type "list") : noPool o := by
  intro its n i t e
  exact absurd (by rw [e]) h
theorem noPool_refs {vs : List Value} {n : Nat} {β : Type} {R : Value → β → Prop} {r : List β} (hv : All2 R vs r) (hR : ∀ v p, R v p → ∃ a, v = .ref a) : noPool (listOf vs.toArray n) := by
  intro its n' i t e hi
  have e1 : vs.toArray = its := by
    have := congrArg Obj.data e
    simp at this
    exact this.1
  subst e1
  have hi' : vs[1]? = some (.int i t) := by simpa using hi
  obtain ⟨b, _, hb⟩ := hv.get 1 _ hi'
  obtain ⟨a, ha⟩ := hR _ _ hb
  cases ha
section
variable {ρ : Params} {P' : Int} {news news' : List (Addr × Obj)} {v : Value}
theorem DecV.pub {X : Int} (h : DecV ρ P' news v X) (hs : Pub news news') : DecV ρ P' news' v X := by
  obtain ⟨t, p, ⟨x, d, k1, k2, t1, t2, e, h1, h2⟩, h3⟩ := h
  exact ⟨t, p, ⟨x, d, k1, k2, t1, t2, e, hs _ h1 (noPool_cls (by simp)), hs _ h2 (noPool_cls (by simp))⟩, h3⟩
theorem NumV.pub {X : Int} (h : NumV ρ news v X) (hs : Pub news news') : NumV ρ news' v X := h.imp id fun h => h.pub hs
theorem PtIn.pub {p : Int × Int} (h : PtIn ρ P' news v p) (hs : Pub news news') : PtIn ρ P' news' v p := by
  obtain ⟨t, n, a, b, e, h1, h2, h3⟩ := h
  exact ⟨t, n, a, b, e, hs _ h1 (noPool_cls (by simp)), h2.pub hs, h3.pub hs⟩
theorem PtIn.isRef {p : Int × Int} (h : PtIn ρ P' news v p) : ∃ a, v = .ref a := by
  obtain ⟨t, n, a, b, e, _⟩ := h
  exact ⟨t, e⟩
theorem RingIn.pub {r : List (Int × Int)} (h : RingIn ρ P' news v r) (hs : Pub news news') : RingIn ρ P' news' v r := by
  obtain ⟨l, n, vs, e, h1, h2⟩ := h
  exact ⟨l, n, vs, e, hs _ h1 (noPool_refs h2 fun _ _ h => h.isRef), h2.imp fun _ _ h => h.pub hs⟩
end
/-- behind a call that only makes: the pool first, all else behind it -/
theorem pool_split {h₀ h : Heap} {L P c : Addr} {g st pl : Int} {t1 t2 t3 : Tok} {n : Nat} {rest news' : List (Addr × Obj)} (N : News h₀ L h news') (hs : Gro ((P, poolOf c g st pl t1 t2 t3 n) :: rest) news') (hr : ∀ q ∈ rest, q.1 ≠ P) :
    ∃ rest', News h₀ L h ((P, poolOf c g st pl t1 t2 t3 n) :: rest') ∧ (∀ q ∈ rest', q.1 ≠ P) ∧ Gro rest rest' ∧ Pub news' rest' ∧ (∀ q ∈ news', q.1 ≠ P → q ∈ rest') := by
  refine ⟨news'.filter (fun p => p.1 != P), anew_split N (hs.sub _ List.mem_cons_self), anew_ne, ⟨?_, ?_⟩, ?_, fun q hq hn => List.mem_filter.mpr ⟨hq, by simpa using hn⟩⟩
  · intro q hq
    exact List.mem_filter.mpr ⟨hs.sub _ (List.mem_cons_of_mem _ hq), by simpa using hr q hq⟩
  · intro q hq
    have hne := anew_ne q hq
    rcases hs.new q (List.mem_filter.mp hq).1 with h1 | h1
    · rcases List.mem_cons.mp h1 with rfl | h1
      · exact absurd rfl hne
      · exact .inl h1
    · exact .inr fun p hp => h1 p (List.mem_cons_of_mem _ hp)
  · intro q hq hn
    refine List.mem_filter.mpr ⟨hq, ?_⟩
    have : q.1 ≠ P := by
      intro e
      have e1 := (N q hq).1
      have e2 := (N _ (hs.sub _ List.mem_cons_self)).1
      rw [e] at e1
      have e3 := Option.some.inj (e1.symm.trans e2)
      exact hn _ _ g t1 e3 rfl
    simpa using this
theorem nm1 {pl : Int} (h : 0 ≤ pl) (h2 : pl < 990) : 0 ≤ pl + 1 ∧ pl + 1 < 1000 := by omega
theorem nm2 {d : Int} (h0 : 0 ≤ d) (h1 : d < 121) : -60 ≤ d - 60 ∧ d - 60 ≤ 60 := by omega
theorem nm3 {d : Int} (h0 : 0 ≤ d) (h1 : d < 121) (hz : (d - 60).fmod 10 = 0) : -60 ≤ 10 * (d - 60).fdiv 10 ∧ 10 * (d - 60).fdiv 10 ≤ 60 := by
  rw [Int.fmod_eq_emod_of_nonneg _ (by decide)] at hz
  rw [Int.fdiv_eq_ediv_of_nonneg _ (by decide)]
  omega
theorem nm4 (pl : Int) : pl ≤ pl + 1 ∧ pl + 1 ≤ pl + 2 := by omega
theorem nm5 (pl : Int) : pl ≤ pl + 1 + 1 ∧ pl + 1 + 1 ≤ pl + 2 := by omega
theorem draw_spec {w : World} {loose : List Str} {mean : ExcName → Option Value} {mg mb : Str → Option Value}
  {dp un : Nat} {gd : Option (List Code)} {cn : Str} {cs : Scope} {L a : Addr} {ccd : Value} {cl : List (Str × Addr)} {outer : List Env}
  {A₀ : Around} {base h₀ : Heap} {m : Str → Option Value} {s : Shared} {Q E : Value → Shared → Prop}
  {P c : Addr} {n nc : Nat} {t1 t2 t3 : Tok} {vs : List Value} {cells : List Int} {g st pl : Int} {rest : List (Addr × Obj)} {most : Int} {tm : Tok}
  (B : Below A₀ base outer h₀) (F : Fr h₀ L s.heap m) (X : (Mine.hd.heap_39 w.params).In h₀)
  (N : News h₀ L s.heap ((P, poolOf c g st pl t1 t2 t3 n) :: rest)) (T : Top Mine.hd.view_39 loose mean mg mb h₀) (hk : cs.kind = .function) (hd : dp + 5 < recursionLimit)
  (hr : ∀ q ∈ rest, q.1 ≠ P) (hc : (c, listOf vs.toArray nc) ∈ rest) (hi : IntsAre vs cells) (hcl : cells.length ≤ 40) (hg : 0 ≤ g) (hst : 0 ≤ st) (hst2 : st < 2147483647) (hpl : 0 ≤ pl) (hpl2 : pl < 1000) (hm1 : 1 ≤ most) (hm2 : most ≤ 1000)
  (ret : ∀ d t h' tk' g' st' t1' t2' t3', Fr h₀ L h' m → News h₀ L h' ((P, poolOf c g' st' (pl + 1) t1' t2' t3' n) :: rest) → 0 ≤ d → d < most → 0 ≤ g' → 0 ≤ st' → st' < 2147483647 → Q (.int d t) { s with heap := h', toks := tk' }) :
  wpAny (model PySem.Challenge.rw_og0147_01.row.prog w) (ktrTop dp un gd cn cs L a ccd cl outer) (call (.ref 221) [.ref P, .int most tm]) Q E s := by
  refine wpAny_call ?_
  revert X; k_fill; intro X
  k_dflt (refine' code_def ?k1 ?k2 ?k3 ?k4 ?k5 ?kA ?kF ?kK ?k6 ?k7 ?k8 ?k9 ?kB ?_ ?c2 ?c3 ?c4 ?c5; (case kA => exact rfl); (case kF => exact rfl); (case kK => assumption); (case k1 => k_asm); (case k2 => k_asm); (case k3 => k_asm); (case k4 => k_asm); (case k5 => k_asm); (case k6 => k_is); (case k7 => k_is); (case k8 => ktr_room); (case k9 => exact BindsTo.of_eq rfl); (case c5 => decide); (case kB => exact locs rfl); (case c2 => exact rfl); (case c3 => exact rfl); (case c4 => exact rfl); k_whole; intro g' L' h' FG' F' N' B' X' T'; (try dsimp only); (try k_fold))
  k_steps
  · exact ret _ _ _ _ _ _ _ _ _ (by assumption) (by assumption) (mod_lo _ hm1) (mod_hi _ hm1) (div_lo hg hm1) hst hst2
  · refine Held.mk (len_M (k := vs.toArray.size) (by assumption) (List.mem_cons_of_mem _ hc) (List.size_toArray ..).symm (by rw [List.size_toArray, hi.length]; exact Nat.le_trans hcl (by decide)) ?_)
    k_steps
    · exact ret _ _ _ _ _ _ _ _ _ (by assumption) (by assumption) (mod_lo _ hm1) (mod_hi _ hm1) hg (mod_lo _ (by decide)) (mod_hi _ (by decide))
    · exact ret _ _ _ _ _ _ _ _ _ (by assumption) (by assumption) (mod_lo _ hm1) (mod_hi _ hm1) hg (mod_lo _ (by decide)) (mod_hi _ (by decide))
theorem num_spec {w : World} {loose : List Str} {mean : ExcName → Option Value} {mg mb : Str → Option Value}
  {dp un : Nat} {gd : Option (List Code)} {cn : Str} {cs : Scope} {L a : Addr} {ccd : Value} {cl : List (Str × Addr)} {outer : List Env}
  {A₀ : Around} {base h₀ : Heap} {m : Str → Option Value} {s : Shared} {Q E : Value → Shared → Prop}
  {P c : Addr} {n nc : Nat} {t1 t2 t3 : Tok} {vs : List Value} {cells : List Int} {g st pl : Int} {rest : List (Addr × Obj)}
  (B : Below A₀ base outer h₀) (F : Fr h₀ L s.heap m) (X : (Mine.hd.heap_39 w.params).In h₀)
  (N : News h₀ L s.heap ((P, poolOf c g st pl t1 t2 t3 n) :: rest)) (T : Top Mine.hd.view_39 loose mean mg mb h₀) (hk : cs.kind = .function) (hd : dp + 10 < recursionLimit)
  (hr : ∀ q ∈ rest, q.1 ≠ P) (hc : (c, listOf vs.toArray nc) ∈ rest) (hi : IntsAre vs cells) (hcl : cells.length ≤ 40) (hg : 0 ≤ g) (hst : 0 ≤ st) (hst2 : st < 2147483647) (hpl : 0 ≤ pl) (hpl2 : pl < 990)
  (ret : ∀ r Xv fr rest' h' tk' g' st' pl' t1' t2' t3', Fr h₀ L h' m → News h₀ L h' ((P, poolOf c g' st' pl' t1' t2' t3' n) :: rest') → (∀ q ∈ rest', q.1 ≠ P) → Gro rest rest' → Part rest [] fr rest' → NumV w.params fr r Xv → -60 ≤ Xv → Xv ≤ 60 → 0 ≤ g' → 0 ≤ st' → st' < 2147483647 → pl ≤ pl' → pl' ≤ pl + 2 → Q r { s with heap := h', toks := tk' }) :
  wpAny (model PySem.Challenge.rw_og0147_01.row.prog w) (ktrTop dp un gd cn cs L a ccd cl outer) (call (.ref 228) [.ref P]) Q E s := by
  refine wpAny_call ?_
  revert X; k_fill; intro X
  k_dflt (refine' code_def ?k1 ?k2 ?k3 ?k4 ?k5 ?kA ?kF ?kK ?k6 ?k7 ?k8 ?k9 ?kB ?_ ?c2 ?c3 ?c4 ?c5; (case kA => exact rfl); (case kF => exact rfl); (case kK => assumption); (case k1 => k_asm); (case k2 => k_asm); (case k3 => k_asm); (case k4 => k_asm); (case k5 => k_asm); (case k6 => k_is); (case k7 => k_is); (case k8 => ktr_room); (case k9 => exact BindsTo.of_eq rfl); (case c5 => decide); (case kB => exact locs rfl); (case c2 => exact rfl); (case c3 => exact rfl); (case c4 => exact rfl); k_whole; intro g' L' h' FG' F' N' B' X' T'; (try dsimp only); (try k_fold))
  k_steps
  refine' Held.mk (draw_spec ?cB ?cF ?cX ?cN ?cT ?ck ?cd ?x0 ?x1 ?x2 ?x3 ?x4 ?x5 ?x6 ?x7 ?x8 ?x9 ?x10 ?_)
  (case cB => k_asm)
  (case cF => k_asm)
  (case cX => k_asm)
  (case cN => k_asm)
  (case cT => k_asm)
  (case ck => first | exact rfl | assumption)
  (case cd => (dsimp only [ktrTop, Around.deeper]; exact dpl hd (Nat.le_of_ble_eq_true rfl)))
  (case x0 => exact hr)
  (case x1 => exact hc)
  (case x2 => exact hi)
  (case x3 => exact hcl)
  (case x4 => assumption)
  (case x5 => assumption)
  (case x6 => assumption)
  (case x7 => exact hpl)
  (case x8 => exact Int.lt_trans hpl2 (by decide))
  (case x9 => decide)
  (case x10 => decide)
  intro d1 td1 h1 tk1 g1 st1 u1 u2 u3 F1 N1 hd1 hd2 hg1 hst1 hst12
  k_steps
  · rename_i hz
    refine' Held.mk (draw_spec ?cB ?cF ?cX ?cN ?cT ?ck ?cd ?x0 ?x1 ?x2 ?x3 ?x4 ?x5 ?x6 ?x7 ?x8 ?x9 ?x10 ?_)
    (case cB => k_asm)
    (case cF => k_asm)
    (case cX => k_asm)
    (case cN => k_asm)
    (case cT => k_asm)
    (case ck => first | exact rfl | assumption)
    (case cd => (dsimp only [ktrTop, Around.deeper]; exact dpl hd (Nat.le_of_ble_eq_true rfl)))
    (case x0 => exact hr)
    (case x1 => exact hc)
    (case x2 => exact hi)
    (case x3 => exact hcl)
    (case x4 => assumption)
    (case x5 => assumption)
    (case x6 => assumption)
    (case x7 => exact (nm1 hpl hpl2).1)
    (case x8 => exact (nm1 hpl hpl2).2)
    (case x9 => decide)
    (case x10 => decide)
    intro d2 td2 h2 tk2 g2 st2 w1 w2 w3 F2 N2 hd21 hd22 hg2 hst2' hst22
    k_steps
    · have hb := nm3 hd1 hd2 hz
      exact ret _ (10 * ((d1 - 60).fdiv 10)) [] rest _ _ _ _ _ _ _ _ (by assumption) (by assumption) hr Gro.refl ⟨fun _ h => (nomatch h), fun _ h => (nomatch h)⟩ (.inl ⟨_, _, rfl, rfl⟩) hb.1 hb.2 hg2 hst2' hst22 (nm5 pl).1 (nm5 pl).2
    · refine' Held.mk (decF_spec ?cB ?cF ?cX ?cN ?cT ?ck ?cd ?x0 ?_)
      (case cB => k_asm)
      (case cF => k_asm)
      (case cX => k_asm)
      (case cN => k_asm)
      (case cT => k_asm)
      (case ck => first | exact rfl | assumption)
      (case cd => (dsimp only [ktrTop, Around.deeper]; exact dpl hd (Nat.le_of_ble_eq_true rfl)))
      (case x0 => exact .inr ⟨rfl, rfl⟩)
      intro r2 fr2 news2 h2 tk2 F2 N2 hs2 hpt hr2
      k_steps
      rename_i FF NN _ _
      obtain ⟨rest', N3, hr3, hs3, hp3, hq3⟩ := pool_split NN hs2 hr
      have hfr : Sub fr2 rest' := fun q hq => by
        have hlt := (hpt.from_ q hq).elim (fun h => nomatch h) id
        exact hq3 q (hpt.sub q hq) (Nat.ne_of_gt (hlt _ List.mem_cons_self))
      exact ret r2 _ fr2 rest' _ _ _ _ _ _ _ _ FF N3 hr3 hs3 ⟨hfr, fun q hq => .inr fun p hp => (hpt.from_ q hq).elim (fun h => nomatch h) fun h => h p (List.mem_cons_of_mem _ hp)⟩ (.inr (hr2.le (Int.le_refl _))) (nm2 hd1 hd2).1 (nm2 hd1 hd2).2 (by assumption) (by assumption) (by assumption) (nm5 pl).1 (nm5 pl).2
  · refine' Held.mk (decF_spec ?cB ?cF ?cX ?cN ?cT ?ck ?cd ?x0 ?_)
    (case cB => k_asm)
    (case cF => k_asm)
    (case cX => k_asm)
    (case cN => k_asm)
    (case cT => k_asm)
    (case ck => first | exact rfl | assumption)
    (case cd => (dsimp only [ktrTop, Around.deeper]; exact dpl hd (Nat.le_of_ble_eq_true rfl)))
    (case x0 => exact .inr ⟨rfl, rfl⟩)
    intro r2 fr2 news2 h2 tk2 F2 N2 hs2 hpt hr2
    k_steps
    rename_i FF NN _ _
    obtain ⟨rest', N3, hr3, hs3, hp3, hq3⟩ := pool_split NN hs2 hr
    have hfr : Sub fr2 rest' := fun q hq => by
      have hlt := (hpt.from_ q hq).elim (fun h => nomatch h) id
      exact hq3 q (hpt.sub q hq) (Nat.ne_of_gt (hlt _ List.mem_cons_self))
    exact ret r2 _ fr2 rest' _ _ _ _ _ _ _ _ FF N3 hr3 hs3 ⟨hfr, fun q hq => .inr fun p hp => (hpt.from_ q hq).elim (fun h => nomatch h) fun h => h p (List.mem_cons_of_mem _ hp)⟩ (.inr (hr2.le (Int.le_refl _))) (nm2 hd1 hd2).1 (nm2 hd1 hd2).2 (by assumption) (by assumption) (by assumption) (nm4 pl).1 (nm4 pl).2
/-- behind the box's if -/
def MidB (h₀ : Heap) (L : Addr) (s : Shared) (D : Addr) (nx : List (Addr × Obj)) (f : Flow) (s' : Shared) : Prop :=
  f = .next ∧ ∃ h' tk' m1 nx' g t, s' = { s with heap := h', toks := tk' } ∧ Fr h₀ L h' m1 ∧ News h₀ L h' nx' ∧ Sub nx nx' ∧ m1 (Str.ofString "cells") = some (.ref D) ∧ m1 (Str.ofString "great") = some (.int g t) ∧ 0 ≤ g
theorem mid_box {h₀ : Heap} {L : Addr} {D : Addr} {nx : List (Addr × Obj)} {M : Model} {A : Around} {st : Stmt} {env : Env} {E : Value → Shared → Prop} {s : Shared} {Q : Flow → Shared → Prop} (_ : News h₀ L s.heap nx) (_ : ∃ o, (D, o) ∈ nx)
    (h : wpAny M A (exec st env) (MidB h₀ L s D nx) E s) (k : ∀ f s', MidB h₀ L s D nx f s' → Q f s') : wpAny M A (exec st env) Q E s := wpAny_mono h k fun _ _ e => e
theorem box_spec {w : World} {loose : List Str} {mean : ExcName → Option Value} {mg mb : Str → Option Value}
  {dp un : Nat} {gd : Option (List Code)} {cn : Str} {cs : Scope} {L a : Addr} {ccd : Value} {cl : List (Str × Addr)} {outer : List Env}
  {A₀ : Around} {base h₀ : Heap} {m : Str → Option Value} {s : Shared} {Q E : Value → Shared → Prop}
  {ls : Addr} {vs : List Value} {ns : List Int} {news : List (Addr × Obj)}
  (B : Below A₀ base outer h₀) (F : Fr h₀ L s.heap m) (X : (Mine.hd.heap_39 w.params).In h₀)
  (N : News h₀ L s.heap news) (T : Top Mine.hd.view_39 loose mean mg mb h₀) (hk : cs.kind = .function) (hd : dp + 20 < recursionLimit)
  (hL : h₀.IsList ls vs.toArray) (hI : IntsAre vs ns) (hlen : ns.length ≤ 63) (hlay : (PyData.list (ns.map PyData.int)).layable0 = true)
  (ret : ∀ P c g st t1 t2 t3 n nc vs' cells rest h' tk', Fr h₀ L h' m → News h₀ L h' ((P, poolOf c g st 0 t1 t2 t3 n) :: rest) → (∀ q ∈ rest, q.1 ≠ P) → Sub news rest → (c, listOf vs'.toArray nc) ∈ rest → IntsAre vs' cells → cells.length ≤ 40 → 0 ≤ g → 0 ≤ st → st < 2147483647 → Q (.ref P) { s with heap := h', toks := tk' }) :
  wpAny (model PySem.Challenge.rw_og0147_01.row.prog w) (ktrTop dp un gd cn cs L a ccd cl outer) (call (.ref 214) [.ref ls]) Q E s := by
  refine wpAny_call ?_
  revert X; k_fill; intro X
  k_dflt (refine' code_def ?k1 ?k2 ?k3 ?k4 ?k5 ?kA ?kF ?kK ?k6 ?k7 ?k8 ?k9 ?kB ?_ ?c2 ?c3 ?c4 ?c5; (case kA => exact rfl); (case kF => exact rfl); (case kK => assumption); (case k1 => k_asm); (case k2 => k_asm); (case k3 => k_asm); (case k4 => k_asm); (case k5 => k_asm); (case k6 => k_is); (case k7 => k_is); (case k8 => ktr_room); (case k9 => exact BindsTo.of_eq rfl); (case c5 => decide); (case kB => exact locs rfl); (case c2 => exact rfl); (case c3 => exact rfl); (case c4 => exact rfl); k_whole; intro g' L' h' FG' F' N' B' X' T'; (try dsimp only); (try k_fold))
  have hL' : g'.IsList ls vs.toArray := hL.at fun o e => FG'.keep ls o e
  k_steps
  refine Held.mk (LCg.Assign_ListComp_U (F₀ := by k_asm) (by rfl) (by with_unfolding_all rfl) (by with_unfolding_all rfl) (by decide) (by rfl) (by decide) (by rfl) (by rfl) (by rfl) ?_)
  k_steps
  rename_i Da ws _ FA NA la iA hCA hLA
  refine LCg.CompSrc.ledger rfl FA NA List.mem_cons_self (by rw [List.size_toArray, iA.length]; exact Nat.le_trans (Nat.le_trans hLA hlen) (by decide)) ?_
  intro g2
  refine comp_ind1 (fun i ys nz => nz = (Da, listOf ws.toArray 0) :: news ∧ IntsAre ys (((ns.take 40)).take i)) ws.toArray.size ?_ ?_ _ 0 [] _ (Nat.zero_add _) ⟨rfl, .nil⟩
  · rintro i2 ys nz v2 hi2 hv2 ⟨rfl, hys⟩
    intro I2 oI2 C2 oC2 D2 m2 h2 tk2 E2 hC2 hx2 F2 N2 off2
    have hi3 : i2 < (ns.take 40).length := by rw [List.size_toArray, iA.length] at hi2; exact hi2
    obtain ⟨ca, ha⟩ : ∃ ca, (ns.take 40)[i2]? = some ca := ⟨_, List.getElem?_eq_getElem hi3⟩
    obtain ⟨tv, hv3⟩ := iA.get i2 ca ha
    have hv4 : ws[i2]? = some v2 := by simpa using hv2
    rw [hv3] at hv4
    cases hv4
    k_steps
    rename (News _ _ _ _) => NF
    rename (Fr _ _ _ _) => FF
    refine ⟨_, _, _, (Da, listOf ws.toArray 0) :: news, rfl, FF, NF, fun p hp => hp, off2, .inr ⟨_, List.mem_cons_self, rfl, _, rfl⟩, rfl, ?_⟩
    rw [List.take_add_one, ha]
    exact hys.append (.cons _ _ .nil)
  · rintro ys nz ⟨rfl, hys⟩
    rw [List.size_toArray, iA.length, List.take_length] at hys
    intro Dr hr' tkr FR NR offr
    have hy40 : (ns.take 40).length ≤ 40 := by simp; omega
    dsimp only
    k_steps
    rename (News _ _ _ _) => NF
    refine Held.mk (mid_box NF (D := Dr) ⟨_, List.mem_cons_self⟩ ?_ ?_)
    · refine wpAny_If ?_
      k_steps
      · refine Held.mk (pow_int_small (by decide) (by decide) (by decide) ?_)
        k_steps
        · refine Held.mk (pow_int_small (by decide) (by decide) (by decide) ?_)
          k_steps
          rename (News _ _ _ _) => NF
          rename (Fr _ _ _ _) => FF
          exact ⟨rfl, _, _, _, _, _, _, rfl, FF, NF, fun _ h => h, rfl, rfl, mod_lo _ (by decide)⟩
        · rename (News _ _ _ _) => NF
          rename (Fr _ _ _ _) => FF
          exact ⟨rfl, _, _, _, _, _, _, rfl, FF, NF, fun _ h => h, rfl, rfl, by decide⟩
      · rename (News _ _ _ _) => NF
        rename (Fr _ _ _ _) => FF
        exact ⟨rfl, _, _, _, _, _, _, rfl, FF, NF, fun _ h => h, rfl, rfl, by decide⟩
    · rintro f s' ⟨rfl, h5, tk5, m5, nx5, g5, t5, rfl, F5, N5, hs5, hc5, hg5, hg50⟩
      have F5 := fr_know (fr_know F5 (Str.ofString "cells") hc5) (Str.ofString "great") hg5
      dsimp only
      k_steps
      rename (News _ _ _ _) => NF
      rename (Fr _ _ _ _) => FF
      refine Held.mk (For_invTF FF ?_ (by intro _; rfl))
      walk1
      refine iterT (fun i m₁ nx => Sub nx5 nx ∧ m₁ (Str.ofString "cells") = some (.ref Dr) ∧ (∃ g t, m₁ (Str.ofString "great") = some (.int g t) ∧ 0 ≤ g) ∧ ∃ st t, m₁ (Str.ofString "state") = some (.int st t) ∧ 0 ≤ st ∧ st < 2147483647) rfl FF NF (hs5 _ List.mem_cons_self) ?_ ?_ ?_ ?_
      · exact fun i m₁ nx nx' hj hk => ⟨hk.sub hj.1, hj.2⟩
      · exact ⟨Sub.refl, rfl, ⟨_, _, rfl, hg50⟩, _, _, rfl, by decide, by decide⟩
      · rintro i v m₁ nx own s₁ hv ⟨hsub, hmc, ⟨g1, tg, hmg, hg1⟩, st1, ts, hms, hst1, hst2⟩ hown hown2 F3 N3
        have hi5 : i < (ns.take 40).length := by rw [← hys.length]; exact (List.getElem?_eq_some_iff.mp hv).1
        obtain ⟨tv, hv3⟩ := hys.get i _ (List.getElem?_eq_getElem hi5)
        rw [hv3] at hv
        cases hv
        have F3 := fr_know (fr_know (fr_know F3 (Str.ofString "cells") hmc) (Str.ofString "great") hmg) (Str.ofString "state") hms
        k_steps
        exact ⟨rfl, _, _, _, nx, rfl, by assumption, by assumption, hown, hsub, rfl, ⟨_, _, rfl, hg1⟩, _, _, rfl, mod_lo _ (by decide), mod_hi _ (by decide)⟩
      · rintro h' tk m' nx F' N' ⟨hsub, hmc, ⟨g1, tg, hmg, hg1⟩, st1, ts, hms, hst1, hst2⟩
        have F' := fr_know (fr_know (fr_know F' (Str.ofString "cells") hmc) (Str.ofString "great") hmg) (Str.ofString "state") hms
        k_steps
        rename_i lP kF kN _ _
        exact ret _ Dr g1 st1 _ _ _ _ _ ys (ns.take 40) nx _ _ kF kN (fun q hq => Nat.ne_of_lt (lP q hq)) (fun q hq => hsub _ (hs5 _ (List.mem_cons_of_mem _ (List.mem_cons_of_mem _ hq)))) (hsub _ (hs5 _ List.mem_cons_self)) hys hy40 hg1 hst1 hst2
local macro_rules | `(tactic| walk_at $k:str) => if ["call type:range", "subscriptTail Name Slice ref ref", "subscriptTail Name Call ref int", "binaryOp Add ref ref"].contains k.getString then `(tactic| (k_here; with_reducible refine hold ?_)) else Lean.Macro.throwUnsupported
def Sq (r : List (Int × Int)) : Prop := ∀ p ∈ r, -60 ≤ p.1 ∧ p.1 ≤ 60 ∧ -60 ≤ p.2 ∧ p.2 ≤ 60
theorem part_dec {rest fr5 rest5 fr6 news6 rest6 : List (Addr × Obj)} {P : Addr} {o : Obj} (hp5 : Part rest [] fr5 rest5) (hgr5 : Gro rest rest5) (hp6 : Part ((P, o) :: rest5) fr5 fr6 news6)
    (hq6 : ∀ q ∈ news6, q.1 ≠ P → q ∈ rest6) (hgr6 : Gro rest5 rest6) : Part rest [] fr6 rest6 := by
  refine ⟨fun q hq => ?_, fun q hq => .inr ?_⟩
  · rcases hp6.from_ q hq with h | h
    · exact hgr6.sub _ (hp5.sub _ h)
    · exact hq6 q (hp6.sub q hq) (Nat.ne_of_gt (h _ List.mem_cons_self))
  · rcases hp6.from_ q hq with h | h
    · exact (hp5.from_ q h).elim (fun h => nomatch h) id
    · exact fun p hp => h p (List.mem_cons_of_mem _ (hgr5.sub _ hp))
/-- the ledger without the comprehension's own three -/
noncomputable def off3 (I C D : Addr) (l : List (Addr × Obj)) : List (Addr × Obj) := l.filter (fun q => q.1 != I && q.1 != C && q.1 != D)
theorem mem_off3 {I C D : Addr} {l : List (Addr × Obj)} {q : Addr × Obj} : q ∈ off3 I C D l ↔ q ∈ l ∧ q.1 ≠ I ∧ q.1 ≠ C ∧ q.1 ≠ D := by
  unfold off3
  rw [List.mem_filter]
  simp [and_assoc]
theorem rgR {d : Int} (h0 : 0 ≤ d) (h1 : d < 4) : Builtin.Range.small 0 (3 + d) 1 = true ∧ Builtin.Range.rangeSize 0 (3 + d) 1 = ((3 + d).toNat : Int) ∧ (3 + d).toNat ≤ 10 := by
  have e : 3 + d = ((3 + d).toNat : Int) := by omega
  have hn : (3 + d).toNat ≤ 10 := by omega
  exact ⟨(congrArg (fun z => Builtin.Range.small 0 z 1) e).trans (range_small _ (Nat.le_trans hn (by decide))), (congrArg (fun z => Builtin.Range.rangeSize 0 z 1) e).trans (range_len _), hn⟩
theorem rgS {d pl q : Int} {i : Nat} (h0 : 0 ≤ d) (h1 : d < 4) (hi : i < (3 + d).toNat) (hp : 0 ≤ pl) (hp2 : pl < 900) (h2 : pl ≤ q) (h3 : q ≤ pl + 1 + 4 * (i : Int)) : 0 ≤ q ∧ q < 930 := by omega
theorem plT {a b k j : Int} (h : 0 ≤ a ∧ a < k) (h1 : a ≤ b) (h2 : b ≤ a + j) : 0 ≤ b ∧ b < k + j := by omega
theorem rgE {pl a b c : Int} {i : Nat} (h : a ≤ pl + 1 + 4 * (i : Int)) (h1 : b ≤ a + 2) (h2 : c ≤ b + 2) : c ≤ pl + 1 + 4 * ((i + 1 : Nat) : Int) := by omega
theorem rgI (pl : Int) : pl ≤ pl + 1 ∧ pl + 1 ≤ pl + 1 + 4 * ((0 : Nat) : Int) := by omega
theorem rgF {d pl q : Int} {n : Nat} (h0 : 0 ≤ d) (h1 : d < 4) (h : n = (3 + d).toNat) (hq : q ≤ pl + 1 + 4 * ((3 + d).toNat : Int)) : 3 ≤ n ∧ n ≤ 6 ∧ q ≤ pl + 25 := by omega
theorem ring_spec {w : World} {loose : List Str} {mean : ExcName → Option Value} {mg mb : Str → Option Value}
  {dp un : Nat} {gd : Option (List Code)} {cn : Str} {cs : Scope} {L a : Addr} {ccd : Value} {cl : List (Str × Addr)} {outer : List Env}
  {A₀ : Around} {base h₀ : Heap} {m : Str → Option Value} {s : Shared} {Q E : Value → Shared → Prop}
  {P c : Addr} {n nc : Nat} {t1 t2 t3 : Tok} {vs : List Value} {cells : List Int} {g st pl : Int} {rest : List (Addr × Obj)}
  (B : Below A₀ base outer h₀) (F : Fr h₀ L s.heap m) (X : (Mine.hd.heap_39 w.params).In h₀)
  (N : News h₀ L s.heap ((P, poolOf c g st pl t1 t2 t3 n) :: rest)) (T : Top Mine.hd.view_39 loose mean mg mb h₀) (hk : cs.kind = .function) (hd : dp + 20 < recursionLimit)
  (hr : ∀ q ∈ rest, q.1 ≠ P) (hc : (c, listOf vs.toArray nc) ∈ rest) (hi : IntsAre vs cells) (hcl : cells.length ≤ 40) (hg : 0 ≤ g) (hst : 0 ≤ st) (hst2 : st < 2147483647) (hpl : 0 ≤ pl) (hpl2 : pl < 900)
  (ret : ∀ r pts rest' h' tk' g' st' pl' t1' t2' t3', Fr h₀ L h' m → News h₀ L h' ((P, poolOf c g' st' pl' t1' t2' t3' n) :: rest') → (∀ q ∈ rest', q.1 ≠ P) → Sub rest rest' → RingIn w.params 1 rest' r pts → 3 ≤ pts.length → pts.length ≤ 6 → Sq pts → 0 ≤ g' → 0 ≤ st' → st' < 2147483647 → pl ≤ pl' → pl' ≤ pl + 25 → Q r { s with heap := h', toks := tk' }) :
  wpAny (model PySem.Challenge.rw_og0147_01.row.prog w) (ktrTop dp un gd cn cs L a ccd cl outer) (call (.ref 233) [.ref P]) Q E s := by
  refine wpAny_call ?_
  revert X; k_fill; intro X
  (k_dflt (refine' code_defC ?k1 ?k2 ?k3 ?k4 ?k5 ?kA ?kF ?kK ?k6 ?k7 ?k8 ?k9 ?kB ?kD ?_ ?c2 ?c3 ?c4; (case kA => exact rfl); (case kF => exact rfl); (case kK => assumption); (case k1 => k_asm); (case k2 => k_asm); (case k3 => k_asm); (case k4 => k_asm); (case k5 => k_asm); (case k6 => k_is); (case k7 => k_is); (case k8 => ktr_room); (case k9 => exact BindsTo.of_eq rfl); (case kB => exact rfl); (case kD => decide +kernel); (case c2 => exact rfl); (case c3 => exact rfl); (case c4 => exact rfl); k_whole; intro g' L' h' tk' cells' FG' F' N' Y' B' X' T' l1; (try k_lt l1); k_cells Y'; (try simp only [List.cons_append, List.nil_append] at N'); (try dsimp only); (try k_fold)))
  rename_i oP dP
  have N1 : News g' L' h' ((P, poolOf c g st pl t1 t2 t3 n) :: (L' + 1, oP) :: rest) := fun p hp => N' p (by
    simp only [List.mem_cons] at hp ⊢
    rcases hp with hp | hp | hp <;> simp only [hp, true_or, or_true])
  clear N'
  have hr1 : ∀ q ∈ (L' + 1, oP) :: rest, q.1 ≠ P := by
    intro q hq
    rcases List.mem_cons.mp hq with rfl | hq
    · exact Nat.ne_of_gt (Nat.lt_succ_of_lt l1.1)
    · exact hr q hq
  have hc1 : (c, listOf vs.toArray nc) ∈ (L' + 1, oP) :: rest := List.mem_cons_of_mem _ hc
  have hg0 : Gro rest ((L' + 1, oP) :: rest) := Gro.one fun p hp => Nat.lt_succ_of_lt (allLt_mem l1.2 p hp)
  have hpl0 := hpl
  k_steps
  refine Held.mk (LCg.ListComp_U (F₀ := by k_asm) (by with_unfolding_all rfl) (by decide) (by rfl) (by decide) (by rfl) ?_)
  k_steps
  refine' Held.mk (draw_spec ?cB ?cF ?cX ?cN ?cT ?ck ?cd ?x0 ?x1 ?x2 ?x3 ?x4 ?x5 ?x6 ?x7 ?x8 ?x9 ?x10 ?_)
  (case cB => k_asm)
  (case cF => k_asm)
  (case cX => k_asm)
  (case cN => k_asm)
  (case cT => k_asm)
  (case ck => first | exact rfl | assumption)
  (case cd => (dsimp only [ktrTop, Around.deeper]; exact dpl hd (Nat.le_of_ble_eq_true rfl)))
  (case x0 => exact hr1)
  (case x1 => exact hc1)
  (case x2 => exact hi)
  (case x3 => exact hcl)
  (case x4 => assumption)
  (case x5 => assumption)
  (case x6 => assumption)
  (case x7 => exact hpl)
  (case x8 => exact Int.lt_trans hpl2 (by decide))
  (case x9 => decide)
  (case x10 => decide)
  intro d1 td1 h1 tk1 g1 st1 u1 u2 u3 F1 N1 hd1 hd2 hg1 hst1 hst12
  k_steps
  refine Held.mk (range1_rows (by k_asm) (by k_asm) ?_)
  intro h2 tk2 tr ur vr hR F2 N2 _
  refine LCg.CompSrc.range (by rfl) F2 N2 hR (rgR hd1 hd2).1 (n := (3 + d1).toNat) (rgR hd1 hd2).2.1 (Nat.le_trans (rgR hd1 hd2).2.2 (by decide)) ?_
  intro g2
  refine comp_ind1 (fun i ys nz => ∃ g st pl' t1 t2 t3 rz pts, nz = (P, poolOf c g st pl' t1 t2 t3 n) :: rz ∧ (∀ q ∈ rz, q.1 ≠ P) ∧ Gro ((L' + 1, oP) :: rest) rz ∧ 0 ≤ g ∧ 0 ≤ st ∧ st < 2147483647 ∧ pl ≤ pl' ∧ pl' ≤ pl + 1 + 4 * (i : Int) ∧
    All2 (PtIn w.params 1 rz) ys pts ∧ pts.length = i ∧ Sq pts) (3 + d1).toNat ?_ ?_ _ 0 [] _ (Nat.zero_add _) ⟨g1, st1, pl + 1, _, _, _, _, [], rfl, hr1, Gro.refl, hg1, hst1, hst12, (rgI pl).1, (rgI pl).2, .nil, rfl, fun p hp => nomatch hp⟩
  · rintro i2 ys nz v2 hi2 ⟨tv, rfl⟩ ⟨g2, st2, pl2, w1, w2, w3, rz, pts, rfl, hr2, hgr2, hg2, hst2', hst22, hpl21, hpl22, hys, hpl, hsq⟩
    intro I2 oI2 C2 oC2 D2 m2 h2 tk2 E2 hC2 hx2 F2 N2 off2
    have hp2b := rgS hd1 hd2 hi2 hpl0 hpl2 hpl21 hpl22
    have hoffP := off2 _ List.mem_cons_self
    have hoffR : ∀ q ∈ rz, q.1 ≠ I2 ∧ q.1 ≠ C2 ∧ q.1 ≠ D2 := fun q hq => off2 q (List.mem_cons_of_mem _ hq)
    have hr3 : ∀ q ∈ (I2, oI2) :: (C2, oC2) :: (D2, LCg.lst ys) :: rz, q.1 ≠ P := by
      intro q hq
      simp only [List.mem_cons] at hq
      rcases hq with rfl | rfl | rfl | hq
      · exact Ne.symm hoffP.1
      · exact Ne.symm hoffP.2.1
      · exact Ne.symm hoffP.2.2
      · exact hr2 q hq
    have N3 : News g' L' h2 ((P, poolOf c g2 st2 pl2 w1 w2 w3 n) :: (I2, oI2) :: (C2, oC2) :: (D2, LCg.lst ys) :: rz) := fun p hp => N2 p (by
      simp only [List.mem_cons] at hp ⊢
      rcases hp with hp | hp | hp | hp | hp <;> simp only [hp, true_or, or_true])
    clear N2
    have hc3 : (c, listOf vs.toArray nc) ∈ (I2, oI2) :: (C2, oC2) :: (D2, LCg.lst ys) :: rz := Sub.cons3 _ (hgr2.sub _ hc1)
    have hcell3 : (L' + 1, oP) ∈ rz := hgr2.sub _ List.mem_cons_self
    k_steps
    refine' Held.mk (num_spec ?cB ?cF ?cX ?cN ?cT ?ck ?cd ?x0 ?x1 ?x2 ?x3 ?x4 ?x5 ?x6 ?x7 ?x8 ?_)
    (case cB => k_asm)
    (case cF => k_asm)
    (case cX => k_asm)
    (case cN => k_asm)
    (case cT => k_asm)
    (case ck => first | exact rfl | assumption)
    (case cd => (dsimp only [ktrTop, Around.deeper]; exact dpl hd (Nat.le_of_ble_eq_true rfl)))
    (case x0 => exact hr3)
    (case x1 => exact hc3)
    (case x2 => exact hi)
    (case x3 => exact hcl)
    (case x4 => assumption)
    (case x5 => assumption)
    (case x6 => assumption)
    (case x7 => exact (hp2b).1)
    (case x8 => exact Int.lt_trans (hp2b).2 (by decide))
    rintro r5 X5 fr5 rest5 h5 tk5 g5 st5 pl5 a1 a2 a3 F5 N5 hr5 hgr5 hp5 hv5 hX51 hX52 hg5 hst5 hst52 hp51 hp52
    k_steps
    refine' Held.mk (decofF_spec ?cB ?cF ?cX ?cN ?cT ?ck ?cd ?x0 ?x1 ?_)
    (case cB => k_asm)
    (case cF => k_asm)
    (case cX => k_asm)
    (case cN => k_asm)
    (case cT => k_asm)
    (case ck => first | exact rfl | assumption)
    (case cd => (dsimp only [ktrTop, Around.deeper]; exact dpl hd (Nat.le_of_ble_eq_true rfl)))
    (case x0 => exact hv5)
    (case x1 => exact hp5.sub.trans Sub.cons)
    intro r6 fr6 news6 h6 tk6 F6 N6 hs6 hp6 hd6
    obtain ⟨rest6, N6', hr6', hgr6, -, hq6⟩ := pool_split N6 hs6 hr5
    have hpt6 := part_dec hp5 hgr5 hp6 hq6 hgr6
    clear N6
    have hgr36 := hgr5.trans hgr6
    have hcell6 : (L' + 1, oP) ∈ rest6 := hgr36.sub _ (Sub.cons3 _ hcell3)
    have hc6 := hgr36.sub _ hc3
    k_steps
    refine' Held.mk (num_spec ?cB ?cF ?cX ?cN ?cT ?ck ?cd ?x0 ?x1 ?x2 ?x3 ?x4 ?x5 ?x6 ?x7 ?x8 ?_)
    (case cB => k_asm)
    (case cF => k_asm)
    (case cX => k_asm)
    (case cN => k_asm)
    (case cT => k_asm)
    (case ck => first | exact rfl | assumption)
    (case cd => (dsimp only [ktrTop, Around.deeper]; exact dpl hd (Nat.le_of_ble_eq_true rfl)))
    (case x0 => exact hr6')
    (case x1 => exact hc6)
    (case x2 => exact hi)
    (case x3 => exact hcl)
    (case x4 => assumption)
    (case x5 => assumption)
    (case x6 => assumption)
    (case x7 => exact (plT hp2b hp51 hp52).1)
    (case x8 => exact Int.lt_trans (plT hp2b hp51 hp52).2 (by decide))
    rintro r7 X7 fr7 rest7 h7 tk7 g7 st7 pl7 b1 b2 b3 F7 N7 hr7 hgr7 hp7 hv7 hX71 hX72 hg7 hst7 hst72 hp71 hp72
    k_steps
    refine' Held.mk (decofF_spec ?cB ?cF ?cX ?cN ?cT ?ck ?cd ?x0 ?x1 ?_)
    (case cB => k_asm)
    (case cF => k_asm)
    (case cX => k_asm)
    (case cN => k_asm)
    (case cT => k_asm)
    (case ck => first | exact rfl | assumption)
    (case cd => (dsimp only [ktrTop, Around.deeper]; exact dpl hd (Nat.le_of_ble_eq_true rfl)))
    (case x0 => exact hv7)
    (case x1 => exact hp7.sub.trans Sub.cons)
    intro r8 fr8 news8 h8 tk8 F8 N8 hs8 hp8 hd8
    obtain ⟨rest8, N8', hr8', hgr8, -, hq8⟩ := pool_split N8 hs8 hr7
    have hpt8 := part_dec hp7 hgr7 hp8 hq8 hgr8
    clear N8
    have hgr68 := hgr7.trans hgr8
    have hgr38 := hgr36.trans hgr68
    k_steps
    try k_unfold
    rename_i Dt _ FT NT lT
    have hI8 := hgr38.sub _ List.mem_cons_self
    have hC8 := hgr38.sub _ (List.mem_cons_of_mem _ List.mem_cons_self)
    have hD8 := hgr38.sub _ (List.mem_cons_of_mem _ (List.mem_cons_of_mem _ List.mem_cons_self))
    have hlt8 := allLt_mem lT.2
    have hs6' : Sub fr6 (off3 I2 C2 D2 rest8) := fun q hq => by
      have h1 := (hpt6.from_ q hq).elim (fun h => nomatch h) id
      exact mem_off3.mpr ⟨hgr68.sub _ (hpt6.sub q hq), Nat.ne_of_gt (h1 _ List.mem_cons_self), Nat.ne_of_gt (h1 _ (List.mem_cons_of_mem _ List.mem_cons_self)), Nat.ne_of_gt (h1 _ (List.mem_cons_of_mem _ (List.mem_cons_of_mem _ List.mem_cons_self)))⟩
    have hs8' : Sub fr8 (off3 I2 C2 D2 rest8) := fun q hq => by
      have h1 := (hpt8.from_ q hq).elim (fun h => nomatch h) id
      exact mem_off3.mpr ⟨hpt8.sub q hq, Nat.ne_of_gt (h1 _ (hgr36.sub _ List.mem_cons_self)), Nat.ne_of_gt (h1 _ (hgr36.sub _ (List.mem_cons_of_mem _ List.mem_cons_self))), Nat.ne_of_gt (h1 _ (hgr36.sub _ (List.mem_cons_of_mem _ (List.mem_cons_of_mem _ List.mem_cons_self))))⟩
    have hsz : Sub rz (off3 I2 C2 D2 rest8) := fun q hq => mem_off3.mpr ⟨hgr38.sub _ (Sub.cons3 _ hq), hoffR q hq⟩
    refine ⟨_, _, _, (P, poolOf c g7 st7 pl7 b1 b2 b3 n) :: (Dt, tupOf #[r6, r8] 0) :: off3 I2 C2 D2 rest8, rfl, FT, NT, ?_, ?_, trivial, g7, st7, pl7, b1, b2, b3, _, pts ++ [(X5, X7)], rfl, ?_, ?_, hg7, hst7, hst72, Int.le_trans hpl21 (Int.le_trans hp51 hp71), rgE hpl22 hp52 hp72, ?_, by simp [hpl], ?_⟩
    · intro p hp
      simp only [List.cons_append, List.nil_append, List.mem_cons] at hp ⊢
      rcases hp with rfl | rfl | rfl | rfl | rfl | hp
      · exact .inr (.inr hI8)
      · exact .inr (.inr hC8)
      · exact .inr (.inr hD8)
      · exact .inr (.inl rfl)
      · exact .inl rfl
      · exact .inr (.inr (mem_off3.mp hp).1)
    · intro p hp
      simp only [List.mem_cons] at hp
      rcases hp with rfl | rfl | hp
      · exact hoffP
      · exact ⟨Nat.ne_of_gt (hlt8 _ hI8), Nat.ne_of_gt (hlt8 _ hC8), Nat.ne_of_gt (hlt8 _ hD8)⟩
      · exact (mem_off3.mp hp).2
    · intro q hq
      rcases List.mem_cons.mp hq with rfl | hq
      · exact Nat.ne_of_gt lT.1
      · exact hr8' q (mem_off3.mp hq).1
    · refine ⟨(hgr2.sub.trans hsz).trans Sub.cons, ?_⟩
      intro q hq
      rcases List.mem_cons.mp hq with rfl | hq
      · exact .inr fun p hp => hlt8 _ (mem_off3.mp (hsz _ (hgr2.sub _ hp))).1
      · obtain ⟨h1, h2⟩ := mem_off3.mp hq
        rcases hgr38.new q h1 with h3 | h3
        · simp only [List.mem_cons] at h3
          rcases h3 with rfl | rfl | rfl | h3
          · exact absurd rfl h2.1
          · exact absurd rfl h2.2.1
          · exact absurd rfl h2.2.2
          · exact hgr2.new q h3
        · exact .inr fun p hp => h3 p (Sub.cons3 _ (hgr2.sub _ hp))
    · exact (hys.imp fun _ _ h => (h.mono hsz).mono Sub.cons).append (.cons ⟨Dt, 0, r6, r8, rfl, List.mem_cons_self, hd6.mono (hs6'.trans Sub.cons), hd8.mono (hs8'.trans Sub.cons)⟩ .nil)
    · intro p hp
      rcases List.mem_append.mp hp with hp | hp
      · exact hsq p hp
      · rw [List.mem_singleton.mp hp]
        exact ⟨hX51, hX52, hX71, hX72⟩
  · rintro ys nz ⟨g2, st2, pl2, w1, w2, w3, rz, pts, rfl, hr2, hgr2, hg2, hst2', hst22, hpl21, hpl22, hys, hpl, hsq⟩
    intro Dr hr' tkr FR NR offr
    dsimp only
    k_steps
    rename_i kF kN _ _
    have offD := off1_mem offr
    have hb := rgF hd1 hd2 hpl hpl22
    refine ret _ pts ((Dr, LCg.lst ys) :: rz) _ _ g2 st2 pl2 w1 w2 w3 (by assumption) (fun p hp => kN p (by
      simp only [List.mem_cons] at hp ⊢
      rcases hp with hp | hp | hp <;> simp only [hp, true_or, or_true])) ?_ ?_ ⟨Dr, _, ys, rfl, List.mem_cons_self, hys.imp fun _ _ h => h.mono Sub.cons⟩ hb.1 hb.2.1 hsq hg2 hst2' hst22 hpl21 hb.2.2
    · intro q hq
      rcases List.mem_cons.mp hq with rfl | hq
      · exact Ne.symm (offD _ List.mem_cons_self)
      · exact hr2 q hq
    · exact (hg0.sub.trans hgr2.sub).trans Sub.cons
def Small (r : List (Int × Int)) : Prop := ∀ p ∈ r, (-1000 ≤ p.1 ∧ p.1 ≤ 1000) ∧ -1000 ≤ p.2 ∧ p.2 ≤ 1000
theorem ten_sc {t p P X : Int} (h : Ten t p X) (hp : p ≤ P) (hP : P = 0 ∨ P = 1) : Ten (sc P X) P X := by
  unfold sc
  rcases hP with rfl | rfl
  · rcases h with ⟨rfl, rfl⟩ | ⟨rfl, rfl⟩
    · exact .inl ⟨rfl, by simp⟩
    · omega
  · exact .inr ⟨rfl, by simp⟩
theorem sc_small {P X : Int} (h1 : -1000 ≤ X) (h2 : X ≤ 1000) : -1000 ≤ sc P X ∧ sc P X ≤ 1000 := by
  unfold sc
  split <;> omega
theorem DecV.ten {ρ : Params} {P X : Int} {news : List (Addr × Obj)} {v : Value} (h : DecV ρ P news v X) (hP : P = 0 ∨ P = 1) : Ten (sc P X) P X := by
  obtain ⟨t, p, _, h1, h2⟩ := h
  exact ten_sc h1 h2 hP
theorem all2_mem {α β : Type} {R : α → β → Prop} {as : List α} {bs : List β} (h : All2 R as bs) : ∀ b ∈ bs, ∃ a, R a b := by
  induction h with
  | nil => exact fun _ h => nomatch h
  | cons hr _ ih =>
    intro b hb
    rcases List.mem_cons.mp hb with rfl | hb
    · exact ⟨_, hr⟩
    · exact ih b hb
theorem RingIn.tens {ρ : Params} {P : Int} {news : List (Addr × Obj)} {v : Value} {r : List (Int × Int)} (h : RingIn ρ P news v r) (hP : P = 0 ∨ P = 1) : Tens P r := by
  obtain ⟨l, n, vs, _, _, h⟩ := h
  intro p hp
  obtain ⟨v, t, n, a, b, _, _, h1, h2⟩ := all2_mem h p hp
  exact ⟨h1.ten hP, h2.ten hP⟩
theorem edge_small {P : Int} {r : List (Int × Int)} (h : Small r) : ∀ e ∈ edgesOf (r.map (sc2 P)), SmE e := by
  have hs : ∀ q : Int × Int, q ∈ r.map (sc2 P) → (-1000 ≤ q.1 ∧ q.1 ≤ 1000) ∧ -1000 ≤ q.2 ∧ q.2 ≤ 1000 := by
    intro q hq
    obtain ⟨p, hp, rfl⟩ := List.mem_map.mp hq
    obtain ⟨⟨h1, h2⟩, h3, h4⟩ := h p hp
    exact ⟨sc_small h1 h2, sc_small h3 h4⟩
  have hg : ∀ k, (-1000 ≤ ((r.map (sc2 P)).getD k (0, 0)).1 ∧ ((r.map (sc2 P)).getD k (0, 0)).1 ≤ 1000) ∧ -1000 ≤ ((r.map (sc2 P)).getD k (0, 0)).2 ∧ ((r.map (sc2 P)).getD k (0, 0)).2 ≤ 1000 := by
    intro k
    rw [List.getD_eq_getElem?_getD]
    cases hk : (r.map (sc2 P))[k]? with
    | none => exact ⟨⟨by decide, by decide⟩, by decide, by decide⟩
    | some q => exact hs q (List.mem_of_getElem? hk)
  intro e he
  unfold edgesOf edgesTo at he
  obtain ⟨k, _, hk⟩ := List.mem_filterMap.mp he
  unfold edgeAt at hk
  split at hk
  · cases hk
    have h1 : (-1000 ≤ (prevAt (r.map (sc2 P)) k).1 ∧ (prevAt (r.map (sc2 P)) k).1 ≤ 1000) ∧ -1000 ≤ (prevAt (r.map (sc2 P)) k).2 ∧ (prevAt (r.map (sc2 P)) k).2 ≤ 1000 := by
      unfold prevAt
      split
      · exact hg _
      · exact hg _
    have h2 := hg k
    refine ⟨⟨?_, ?_⟩, ⟨?_, ?_⟩, ⟨?_, ?_⟩, ⟨?_, ?_⟩⟩ <;> dsimp only <;> omega
  · cases hk
theorem small_all {P : Int} {polys : List (List (Int × Int))} (h : ∀ r ∈ polys, Small r) : ∀ e ∈ edgesAll (polys.map (List.map (sc2 P))), SmE e := by
  intro e he
  unfold edgesAll at he
  obtain ⟨es, hes, he⟩ := List.mem_flatten.mp he
  obtain ⟨r', hr', rfl⟩ := List.mem_map.mp hes
  obtain ⟨r, hr, rfl⟩ := List.mem_map.mp hr'
  exact edge_small (h r hr) e he
theorem wind_spec {w : World} {loose : List Str} {mean : ExcName → Option Value} {mg mb : Str → Option Value}
  {dp un : Nat} {gd : Option (List Code)} {cn : Str} {cs : Scope} {L a : Addr} {ccd : Value} {cl : List (Str × Addr)} {outer : List Env}
  {A₀ : Around} {base h₀ : Heap} {m : Str → Option Value} {s : Shared} {Q E : Value → Shared → Prop}
  {v v1 v2 : Value} {polys : List (List (Int × Int))} {xv yv : Int} {news : List (Addr × Obj)}
  (B : Below A₀ base outer h₀) (F : Fr h₀ L s.heap m) (X : (Mine.hd.heap_39 w.params).In h₀)
  (N : News h₀ L s.heap news) (T : Top Mine.hd.view_39 loose mean mg mb h₀) (hk : cs.kind = .function) (hd : dp + 40 < recursionLimit)
  (hv : PolysIn w.params 1 news v polys) (hv1 : NumV w.params news v1 xv) (hv2 : NumV w.params news v2 yv) (hlen : ∀ r ∈ polys, r.length ≤ 100) (hlens : polys.length ≤ 100) (hsm : ∀ r ∈ polys, Small r) (hsx : -1000 ≤ xv ∧ xv ≤ 1000) (hsy : -1000 ≤ yv ∧ yv ≤ 1000)
  (ret : ∀ ti news' h' tk', Fr h₀ L h' m → News h₀ L h' news' → Sub news news' → Q (.int (windT xv yv polys) ti) { s with heap := h', toks := tk' }) :
  wpAny (model PySem.Challenge.rw_og0147_01.row.prog w) (ktrTop dp un gd cn cs L a ccd cl outer) (call (.ref 209) [v, v1, v2]) Q E s := by
  obtain ⟨l, n, vs, rfl, hl, hvs⟩ := hv
  refine wpAny_call ?_
  revert X; k_fill; intro X
  k_dflt (refine' code_def ?k1 ?k2 ?k3 ?k4 ?k5 ?kA ?kF ?kK ?k6 ?k7 ?k8 ?k9 ?kB ?_ ?c2 ?c3 ?c4 ?c5; (case kA => exact rfl); (case kF => exact rfl); (case kK => assumption); (case k1 => k_asm); (case k2 => k_asm); (case k3 => k_asm); (case k4 => k_asm); (case k5 => k_asm); (case k6 => k_is); (case k7 => k_is); (case k8 => ktr_room); (case k9 => exact BindsTo.of_eq rfl); (case c5 => decide); (case kB => exact locs rfl); (case c2 => exact rfl); (case c3 => exact rfl); (case c4 => exact rfl); k_whole; intro g' L' h' FG' F' N' B' X' T'; (try dsimp only); (try k_fold))
  k_steps
  refine' Held.mk (pair_spec ?cB ?cF ?cX ?cN ?cT ?ck ?cd ?x0 ?x1 ?_)
  (case cB => k_asm)
  (case cF => k_asm)
  (case cX => k_asm)
  (case cN => k_asm)
  (case cT => k_asm)
  (case ck => first | exact rfl | assumption)
  (case cd => (dsimp only [ktrTop, Around.deeper]; exact dpl hd (Nat.le_of_ble_eq_true rfl)))
  (case x0 => exact hv1)
  (case x1 => exact hv2)
  intro r1 news1 h1 tk1 F1 N1 hs1 hr1
  k_steps
  rename_i lS _ _ _ lS1
  refine' Held.mk (places1_spec ?cB ?cF ?cX ?cN ?cT ?ck ?cd ?x0 ?x1 ?_)
  (case cB => k_asm)
  (case cF => k_asm)
  (case cX => k_asm)
  (case cN => k_asm)
  (case cT => k_asm)
  (case ck => first | exact rfl | assumption)
  (case cd => (dsimp only [ktrTop, Around.deeper]; exact dpl hd (Nat.le_of_ble_eq_true rfl)))
  (case x0 => exact (List.mem_cons_self : (lS, listOf [r1].toArray 0) ∈ _))
  (case x1 => exact .cons (hr1.mono Sub.cons) .nil)
  intro M0 tM0 news2 h2 tk2 F2 N2 hs2 hM00 hM01 _ hsp
  have hspot : PtIn w.params M0 ((lS, listOf [r1].toArray 0) :: news1) r1 (xv, yv) := by
    cases hsp with
    | cons h _ => exact h
  have hspot2 := hspot.mono hs2
  have hsub2 : Sub news news2 := (hs1.sub.trans Sub.cons).trans hs2
  have hl2 := hsub2 _ hl
  have hvs2 := hvs.imp fun _ _ h => h.mono hsub2
  k_steps
  refine Held.mk (For_invTF (by assumption) ?_ (by intro _; rfl))
  walk1
  refine iterT (fun i m₁ nx => Sub news2 nx ∧ m₁ (Str.ofString "spot") = some r1 ∧ m₁ (Str.ofString "polygons") = some (.ref l) ∧ ∃ M t, m₁ (Str.ofString "places") = some (.int M t) ∧ 0 ≤ M ∧ M ≤ 1 ∧ M0 ≤ M ∧ ∀ (j : Nat) p v, j < i → polys[j]? = some p → vs[j]? = some v → RingIn w.params M nx v p) rfl (by assumption) (by assumption) hl2 ?_ ?_ ?_ ?_
  · rintro i m₁ nx nx' ⟨h1, h2, h3, M, t, h4, h5, h6, h7, h8⟩ hk
    exact ⟨hk.sub h1, h2, h3, M, t, h4, h5, h6, h7, fun j p v a b c => (h8 j p v a b c).lub hk.lub⟩
  · exact ⟨Sub.refl, rfl, rfl, _, _, rfl, hM00, hM01, Int.le_refl _, fun j p v hj => absurd hj (Nat.not_lt_zero _)⟩
  · rintro i v m₁ nx own s₁ hv ⟨hsub, hms, hmp, M, tM, hm, hMa, hMb, hMc, hall⟩ hown hown2 F3 N3
    obtain ⟨p, hp, lr, nr, rs, rfl, hlr, hrs⟩ := hvs2.get i v hv
    have F3 := fr_know (fr_know (fr_know F3 (Str.ofString "spot") hms) (Str.ofString "polygons") hmp) (Str.ofString "places") hm
    k_steps
    refine' Held.mk (places2_spec ?cB ?cF ?cX ?cN ?cT ?ck ?cd ?x0 ?x1 ?x2 ?x3 ?_)
    (case cB => k_asm)
    (case cF => k_asm)
    (case cX => k_asm)
    (case cN => k_asm)
    (case cT => k_asm)
    (case ck => first | exact rfl | assumption)
    (case cd => (dsimp only [ktrTop, Around.deeper]; exact dpl hd (Nat.le_of_ble_eq_true rfl)))
    (case x0 => exact hsub _ hlr)
    (case x1 => exact hrs.imp fun _ _ h => h.mono hsub)
    (case x2 => exact hMa)
    (case x3 => exact hMb)
    intro M4 tM4 news4 h4 tk4 F4 N4 hs4 hM40 hM41 hM4 hrs4
    k_steps
    refine ⟨rfl, _, _, _, news4, rfl, by assumption, by assumption, fun p hp => hs4 _ (hown p hp), hsub.trans hs4, rfl, rfl, M4, tM4, rfl, hM40, hM41, by omega, ?_⟩
    intro j p' v' hj hp' hv'
    by_cases hji : j = i
    · subst hji
      rw [hp] at hp'
      rw [hv] at hv'
      cases hp'
      cases hv'
      exact ⟨lr, nr, rs, rfl, hs4 _ (hsub _ hlr), hrs4.imp fun _ _ h => h.mono hs4⟩
    · exact ((hall j p' v' (by omega) hp' hv').le (by omega)).mono hs4
  · rintro h' tk m' nx F' N' ⟨hsub, hms, hmp, M, tM, hm, hMa, hMb, hMc, hall⟩
    have F' := fr_know (fr_know (fr_know F' (Str.ofString "spot") hms) (Str.ofString "polygons") hmp) (Str.ofString "places") hm
    have hM01 : M = 0 ∨ M = 1 := by omega
    have hallr : All2 (RingIn w.params M nx) vs polys := All2.of_get hvs.length fun i a b ha hb => hall i b a (List.getElem?_eq_some_iff.mp ha).1 hb ha
    have hpo : PolysIn w.params M nx (.ref l) polys := ⟨l, n, vs, rfl, hsub _ hl2, hallr⟩
    obtain ⟨tS, nS, aS, bS, rfl, htS, haS, hbS⟩ := (hspot2.le hMc).mono hsub
    k_steps
    refine' Held.mk (wedges_spec ?cB ?cF ?cX ?cN ?cT ?ck ?cd ?x0 ?x1 ?x2 ?x3 ?x4 ?_)
    (case cB => k_asm)
    (case cF => k_asm)
    (case cX => k_asm)
    (case cN => k_asm)
    (case cT => k_asm)
    (case ck => first | exact rfl | assumption)
    (case cd => (dsimp only [ktrTop, Around.deeper]; exact dpl hd (Nat.le_of_ble_eq_true rfl)))
    (case x0 => exact hpo)
    (case x1 => exact hMa)
    (case x2 => exact hMb)
    (case x3 => exact hlen)
    (case x4 => exact hlens)
    intro r5 news5 h5 tk5 F5 N5 hs5 hes
    have htS5 := hs5 _ htS
    k_steps
    refine' Held.mk (atp_spec ?cB ?cF ?cX ?cN ?cT ?ck ?cd ?x0 ?x1 ?_)
    (case cB => k_asm)
    (case cF => k_asm)
    (case cX => k_asm)
    (case cN => k_asm)
    (case cT => k_asm)
    (case ck => first | exact rfl | assumption)
    (case cd => (dsimp only [ktrTop, Around.deeper]; exact dpl hd (Nat.le_of_ble_eq_true rfl)))
    (case x0 => exact haS.mono hs5)
    (case x1 => exact hMb)
    intro i6 t6 h6 tk6 F6 N6 hT6
    k_steps
    refine' Held.mk (atp_spec ?cB ?cF ?cX ?cN ?cT ?ck ?cd ?x0 ?x1 ?_)
    (case cB => k_asm)
    (case cF => k_asm)
    (case cX => k_asm)
    (case cN => k_asm)
    (case cT => k_asm)
    (case ck => first | exact rfl | assumption)
    (case cd => (dsimp only [ktrTop, Around.deeper]; exact dpl hd (Nat.le_of_ble_eq_true rfl)))
    (case x0 => exact hbS.mono hs5)
    (case x1 => exact hMb)
    intro i7 t7 h7 tk7 F7 N7 hT7
    have e6 := sc_ten hT6
    have e7 := sc_ten hT7
    subst e6 e7
    have hX := sc_small (P := M) hsx.1 hsx.2
    have hY := sc_small (P := M) hsy.1 hsy.2
    k_steps
    refine' Held.mk (wnum_spec ?cB ?cF ?cX ?cN ?cT ?ck ?cd ?x0 ?x1 ?x2 ?x3 ?_)
    (case cB => k_asm)
    (case cF => k_asm)
    (case cX => k_asm)
    (case cN => k_asm)
    (case cT => k_asm)
    (case ck => first | exact rfl | assumption)
    (case cd => (dsimp only [ktrTop, Around.deeper]; exact dpl hd (Nat.le_of_ble_eq_true rfl)))
    (case x0 => exact hes)
    (case x1 => exact small_all hsm)
    (case x2 => exact ⟨by omega, by omega⟩)
    (case x3 => exact ⟨by omega, by omega⟩)
    intro t8 news8 h8 tk8 F8 N8 hs8
    rw [wind_scale hT6 hT7 (fun r hr => by obtain ⟨v, hv⟩ := all2_mem hallr r hr; exact hv.tens hM01)]
    k_steps
    exact ret _ _ _ _ (by assumption) (by assumption) (((hsub2.trans hsub).trans hs5).trans hs8)
theorem lenb {n : Nat} (h : 3 ≤ n) (h' : n ≤ 6) : 1 ≤ (n : Int) ∧ (n : Int) ≤ 1000 := by omega
theorem lenc {d : Int} {n : Nat} (h0 : 0 ≤ d) (h1 : d < n) (h : n ≤ 6) : -1000000 ≤ d ∧ d ≤ 1000000 := by omega
theorem tnl {d : Int} {n : Nat} (h0 : 0 ≤ d) (h1 : d < n) : d.toNat < n := by omega
theorem rotl {α : Type} {l : List α} {k : Nat} (h : k ≤ l.length) : (l.drop k ++ l.take k).length = l.length := by
  rw [List.length_append, List.length_drop, List.length_take]; omega
theorem bd2 {a b : Int} {x : Int} (h1 : a ≤ x) (h2 : x ≤ b) (h3 : -1000 ≤ a) (h4 : b ≤ 1000) : -1000 ≤ x ∧ x ≤ 1000 := ⟨Int.le_trans h3 h1, Int.le_trans h2 h4⟩
theorem bdc {a b : Int} {x : Int} (h : a ≤ x ∧ x ≤ b) (h3 : -1000 ≤ a) (h4 : b ≤ 1000) : -1000 ≤ x ∧ x ≤ 1000 := ⟨Int.le_trans h3 h.1, Int.le_trans h.2 h4⟩
theorem bds {x d : Int} (h : -60 ≤ x ∧ x ≤ 60) (h1 : -60 ≤ d) (h2 : d ≤ 60) : -1000 ≤ x + d ∧ x + d ≤ 1000 := ⟨by omega, by omega⟩
theorem bdm {x : Int} (h : -100 ≤ x ∧ x ≤ 100) : -1000 ≤ 10 * x ∧ 10 * x ≤ 1000 := ⟨by omega, by omega⟩
theorem plS {a b k j : Int} (h : 0 ≤ a ∧ a ≤ k) (h1 : a ≤ b) (h2 : b ≤ a + j) : 0 ≤ b ∧ b ≤ k + j := ⟨by omega, by omega⟩
theorem plL {a k j : Int} (h : 0 ≤ a ∧ a ≤ k) (h1 : k < j) : a < j := by omega
theorem plE {a k j : Int} (h : 0 ≤ a ∧ a ≤ k) (h1 : k ≤ j) : a ≤ j := by omega
theorem plU {a k : Int} (h : 0 ≤ a ∧ a ≤ k) : 0 ≤ a + 1 ∧ a + 1 ≤ k + 1 := ⟨by omega, by omega⟩
theorem news_tail {h₀ h : Heap} {L : Addr} {q : Addr × Obj} {nx : List (Addr × Obj)} (N : News h₀ L h (q :: nx)) : News h₀ L h nx := fun p hp => N p (List.mem_cons_of_mem _ hp)
theorem wind_rev (x y : Int) (r : List Pt) : windT x y [r.reverse] = 0 - windT x y [r] := by
  show ringZ x y r.reverse + 0 = 0 - (ringZ x y r + 0)
  rw [ring_rev]; omega
theorem wind_rot (x y : Int) (r : List Pt) (k : Nat) : windT x y [r.drop k ++ r.take k] = windT x y [r] := by
  show ringZ x y (r.drop k ++ r.take k) + 0 = ringZ x y r + 0
  rw [ring_rot, List.take_append_drop]
theorem wind_two (x y : Int) (r s : List Pt) : windT x y [r, s] = windT x y [r] + windT x y [s] := by
  show ringZ x y r + (ringZ x y s + 0) = ringZ x y r + 0 + (ringZ x y s + 0)
  omega
theorem wind_both (x y : Int) (r : List Pt) : windT x y [r, r.reverse] = 0 := by
  rw [wind_two, wind_rev]; omega
theorem wind_none (x y : Int) : windT x y [] = 0 := rfl
theorem wind_move (x y a b : Int) (r : List Pt) : windT (x + a) (y + b) [r.map fun q => (q.1 + a, q.2 + b)] = windT x y [r] := by
  show ringZ _ _ _ + 0 = ringZ x y r + 0
  rw [ring_move]
theorem wind_far {x y : Int} (h : 60 < x ∨ x < -60 ∨ 60 < y ∨ y < -60) {r s : List Pt} (hr : Sq r) (hs : Sq s) : windT x y [r, s] = 0 := by
  show ringZ x y r + (ringZ x y s + 0) = 0
  rw [ring_far h r hr, ring_far h s hs]; rfl
theorem pool_splitS {h₀ h : Heap} {L P c : Addr} {g st pl : Int} {t1 t2 t3 : Tok} {n : Nat} {rest news' : List (Addr × Obj)} (N : News h₀ L h news') (hs : Sub ((P, poolOf c g st pl t1 t2 t3 n) :: rest) news') (hr : ∀ q ∈ rest, q.1 ≠ P) :
    ∃ rest', News h₀ L h ((P, poolOf c g st pl t1 t2 t3 n) :: rest') ∧ (∀ q ∈ rest', q.1 ≠ P) ∧ Sub rest rest' ∧ Pub news' rest' := by
  refine ⟨news'.filter (fun p => p.1 != P), anew_split N (hs _ List.mem_cons_self), anew_ne, ?_, ?_⟩
  · intro q hq
    exact List.mem_filter.mpr ⟨hs _ (List.mem_cons_of_mem _ hq), by simpa using hr q hq⟩
  · intro q hq hn
    refine List.mem_filter.mpr ⟨hq, ?_⟩
    have : q.1 ≠ P := by
      intro e
      have e1 := (N q hq).1
      have e2 := (N _ (hs _ List.mem_cons_self)).1
      rw [e] at e1
      have e3 := Option.some.inj (e1.symm.trans e2)
      exact hn _ _ g t1 e3 rfl
    simpa using this
/-- what the law holds in hand -/
structure LF (ρ : Params) (P c : Addr) (nc : Nat) (vs : List Value) (cA : Addr) (oA : Obj) (cB : Addr) (oB : Obj) (v1 : Value) (r1 : List Pt) (v2 : Value) (r2 : List Pt) (vx : Value) (xv : Int) (vy : Value) (yv : Int) (rest : List (Addr × Obj)) : Prop where
  hr : ∀ q ∈ rest, q.1 ≠ P
  hc : (c, listOf vs.toArray nc) ∈ rest
  hA : (cA, oA) ∈ rest
  hB : (cB, oB) ∈ rest
  one : RingIn ρ 1 rest v1 r1
  other : RingIn ρ 1 rest v2 r2
  x : DecV ρ 1 rest vx xv
  y : DecV ρ 1 rest vy yv
theorem LF.mono {ρ : Params} {P c : Addr} {nc : Nat} {vs : List Value} {cA : Addr} {oA : Obj} {cB : Addr} {oB : Obj} {v1 : Value} {r1 : List Pt} {v2 : Value} {r2 : List Pt} {vx : Value} {xv : Int} {vy : Value} {yv : Int} {rest rest' : List (Addr × Obj)}
    (h : LF ρ P c nc vs cA oA cB oB v1 r1 v2 r2 vx xv vy yv rest) (hs : Sub rest rest') (hr : ∀ q ∈ rest', q.1 ≠ P) : LF ρ P c nc vs cA oA cB oB v1 r1 v2 r2 vx xv vy yv rest' :=
  ⟨hr, hs _ h.hc, hs _ h.hA, hs _ h.hB, h.one.mono hs, h.other.mono hs, h.x.mono hs, h.y.mono hs⟩
theorem fr_mid {h₀ h : Heap} {L : Addr} {m m1 : Str → Option Value} {vx vy : Value} (F : Fr h₀ L h m1) (hx : m1 (Str.ofString "x") = some vx) (hy : m1 (Str.ofString "y") = some vy)
    (he : ∀ z, z ≠ Str.ofString "x" → z ≠ Str.ofString "y" → m1 z = m z) : Fr h₀ L h (fun z => if z = Str.ofString "x" then some vx else if z = Str.ofString "y" then some vy else m z) := by
  have e : (fun z => if z = Str.ofString "x" then some vx else if z = Str.ofString "y" then some vy else m z) = m1 := by
    funext z
    by_cases h1 : z = Str.ofString "x"
    · rw [if_pos h1, h1, hx]
    · rw [if_neg h1]
      by_cases h2 : z = Str.ofString "y"
      · rw [if_pos h2, h2, hy]
      · rw [if_neg h2, he z h1 h2]
  rw [e]; exact F
/-- behind the law's first if -/
def MidP (ρ : Params) (h₀ : Heap) (L : Addr) (m : Str → Option Value) (s : Shared) (P c : Addr) (n nc : Nat) (vs : List Value) (cA : Addr) (oA : Obj) (cB : Addr) (oB : Obj) (v1 : Value) (r1 : List Pt) (v2 : Value) (r2 : List Pt) (f : Flow) (s' : Shared) : Prop :=
  f = .next ∧ ∃ h' tk' vx xv vy yv g st pl t1 t2 t3 rest, s' = { s with heap := h', toks := tk' } ∧ Fr h₀ L h' (fun z => if z = Str.ofString "x" then some vx else if z = Str.ofString "y" then some vy else m z) ∧
    News h₀ L h' ((P, poolOf c g st pl t1 t2 t3 n) :: rest) ∧ LF ρ P c nc vs cA oA cB oB v1 r1 v2 r2 vx xv vy yv rest ∧ (-60 ≤ xv ∧ xv ≤ 60) ∧ (-60 ≤ yv ∧ yv ≤ 60) ∧ 0 ≤ g ∧ 0 ≤ st ∧ st < 2147483647 ∧ 0 ≤ pl ∧ pl ≤ 200
theorem mid_if {ρ : Params} {h₀ : Heap} {L : Addr} {m : Str → Option Value} {P c : Addr} {n nc : Nat} {vs : List Value} {cA : Addr} {oA : Obj} {cB : Addr} {oB : Obj} {v1 : Value} {r1 : List Pt} {v2 : Value} {r2 : List Pt} {vx : Value} {xv : Int} {vy : Value} {yv : Int} {rest : List (Addr × Obj)} {g st' pl : Int} {t1 t2 t3 : Tok}
    {M : Model} {A : Around} {st : Stmt} {env : Env} {E : Value → Shared → Prop} {s : Shared} {Q : Flow → Shared → Prop} (hFr : Fr h₀ L s.heap m) (hNe : News h₀ L s.heap ((P, poolOf c g st' pl t1 t2 t3 n) :: rest)) (hLf : LF ρ P c nc vs cA oA cB oB v1 r1 v2 r2 vx xv vy yv rest)
    (h : wpAny M A (exec st env) (MidP ρ h₀ L m s P c n nc vs cA oA cB oB v1 r1 v2 r2) E s) (k : ∀ f s', MidP ρ h₀ L m s P c n nc vs cA oA cB oB v1 r1 v2 r2 f s' → Q f s') : wpAny M A (exec st env) Q E s := wpAny_mono h k fun _ _ e => e
theorem Sub.cons2 {a : List (Addr × Obj)} {x y : Addr × Obj} : Sub a (x :: y :: a) := fun _ h => List.mem_cons_of_mem _ (List.mem_cons_of_mem _ h)
theorem one_list {α : Type} {p : α → Prop} {r : α} (h : p r) : ∀ q ∈ [r], p q := fun q hq => by rw [List.mem_singleton.mp hq]; exact h
theorem two_list {α : Type} {p : α → Prop} {r s : α} (h : p r) (h' : p s) : ∀ q ∈ [r, s], p q := fun q hq => by
  rcases List.mem_cons.mp hq with rfl | hq
  · exact h
  · rw [List.mem_singleton.mp hq]; exact h'
theorem Sq.small {r : List Pt} (h : Sq r) : Small r := fun p hp => by
  obtain ⟨h1, h2, h3, h4⟩ := h p hp
  exact ⟨⟨by omega, by omega⟩, by omega, by omega⟩
theorem Sq.sub {r r' : List Pt} (h : Sq r) (hs : ∀ p ∈ r', p ∈ r) : Sq r' := fun p hp => h p (hs p hp)
theorem Sub.cons5 {a : List (Addr × Obj)} {x y z u v : Addr × Obj} : Sub a (x :: y :: z :: u :: v :: a) := fun _ h => List.mem_cons_of_mem _ (List.mem_cons_of_mem _ (Sub.cons3 _ h))
theorem pick_from {vs : List Value} {i : Int} (h0 : 0 ≤ i) (h1 : i.toNat ≤ vs.length) : (slicePick vs.toArray (some i) none none).toList = vs.drop i.toNat := by
  have h := slicePick_from vs.toArray i.toNat (by simpa using h1)
  rw [Int.toNat_of_nonneg h0] at h
  rw [h]
theorem pick_upto {vs : List Value} {i : Int} (h0 : 0 ≤ i) (h1 : i.toNat ≤ vs.length) : (slicePick vs.toArray none (some i) none).toList = vs.take i.toNat := by
  have h := slicePick_upto vs.toArray i.toNat (by simpa using h1)
  rw [Int.toNat_of_nonneg h0] at h
  rw [h]
/-- what is no cell is kept -/
def Cub (news news' : List (Addr × Obj)) : Prop := ∀ q ∈ news, (∀ v, q.2.data ≠ .cell v) → q ∈ news'
theorem DecV.cub {ρ : Params} {P X : Int} {news news' : List (Addr × Obj)} {v : Value} (h : DecV ρ P news v X) (hs : Cub news news') : DecV ρ P news' v X := by
  obtain ⟨t, p, ⟨x, d, k1, k2, t1, t2, e, h1, h2⟩, h3⟩ := h
  exact ⟨t, p, ⟨x, d, k1, k2, t1, t2, e, hs _ h1 (fun v e => by cases e), hs _ h2 (fun v e => by cases e)⟩, h3⟩
theorem PtIn.cub {ρ : Params} {P : Int} {p : Int × Int} {news news' : List (Addr × Obj)} {v : Value} (h : PtIn ρ P news v p) (hs : Cub news news') : PtIn ρ P news' v p := by
  obtain ⟨t, n, a, b, e, h1, h2, h3⟩ := h
  exact ⟨t, n, a, b, e, hs _ h1 (fun v e => by cases e), h2.cub hs, h3.cub hs⟩
theorem RingIn.cub {ρ : Params} {P : Int} {r : List (Int × Int)} {news news' : List (Addr × Obj)} {v : Value} (h : RingIn ρ P news v r) (hs : Cub news news') : RingIn ρ P news' v r := by
  obtain ⟨l, n, vs, e, h1, h2⟩ := h
  exact ⟨l, n, vs, e, hs _ h1 (fun v e => by cases e), h2.imp fun _ _ h => h.cub hs⟩
theorem cells_front {h₀ h : Heap} {L P cA cB : Addr} {o oA oB : Obj} {vA vB : Option Value} {rest : List (Addr × Obj)} (N : News h₀ L h ((P, o) :: rest)) (hA : (cA, oA) ∈ rest) (hB : (cB, oB) ∈ rest) (dA : oA.data = .cell vA) (dB : oB.data = .cell vB) (hr : ∀ q ∈ rest, q.1 ≠ P) (hab : cA ≠ cB) :
    ∃ rest', News h₀ L h ((cA, oA) :: (cB, oB) :: (P, o) :: rest') ∧ (∀ q ∈ (cB, oB) :: (P, o) :: rest', q.1 ≠ cA) ∧ (∀ q ∈ (P, o) :: rest', q.1 ≠ cB) ∧ (∀ q ∈ rest', q.1 ≠ P) ∧ Cub rest rest' := by
  refine ⟨rest.filter (fun q => q.1 != cA && q.1 != cB), ?_, ?_, ?_, ?_, ?_⟩
  · intro p hp
    simp only [List.mem_cons] at hp
    rcases hp with rfl | rfl | rfl | hp
    · exact N _ (List.mem_cons_of_mem _ hA)
    · exact N _ (List.mem_cons_of_mem _ hB)
    · exact N _ List.mem_cons_self
    · exact N _ (List.mem_cons_of_mem _ (List.mem_filter.mp hp).1)
  · intro q hq
    simp only [List.mem_cons] at hq
    rcases hq with rfl | rfl | hq
    · exact Ne.symm hab
    · exact Ne.symm (hr _ hA)
    · have := (List.mem_filter.mp hq).2
      simp at this
      exact this.1
  · intro q hq
    simp only [List.mem_cons] at hq
    rcases hq with rfl | hq
    · exact Ne.symm (hr _ hB)
    · have := (List.mem_filter.mp hq).2
      simp at this
      exact this.2
  · exact fun q hq => hr q (List.mem_filter.mp hq).1
  · intro q hq hn
    have h1 : q.1 ≠ cA := by
      intro e
      have e1 := (N q (List.mem_cons_of_mem _ hq)).1
      have e2 := (N _ (List.mem_cons_of_mem _ hA)).1
      rw [e] at e1
      have e3 := Option.some.inj (e1.symm.trans e2)
      exact hn vA (e3 ▸ dA)
    have h2 : q.1 ≠ cB := by
      intro e
      have e1 := (N q (List.mem_cons_of_mem _ hq)).1
      have e2 := (N _ (List.mem_cons_of_mem _ hB)).1
      rw [e] at e1
      have e3 := Option.some.inj (e1.symm.trans e2)
      exact hn vB (e3 ▸ dB)
    exact List.mem_filter.mpr ⟨hq, by simp [h1, h2]⟩
theorem small_mv {r : List Pt} {a b : Int} (h : Sq r) (ha : -60 ≤ a ∧ a ≤ 60) (hb : -60 ≤ b ∧ b ≤ 60) : Small (r.map fun q => (q.1 + a, q.2 + b)) := by
  intro p hp
  obtain ⟨q, hq, rfl⟩ := List.mem_map.mp hp
  obtain ⟨h1, h2, h3, h4⟩ := h q hq
  exact ⟨⟨by dsimp only; omega, by dsimp only; omega⟩, by dsimp only; omega, by dsimp only; omega⟩
theorem not_good_titer {o : Obj} (h : o.cls = .type "tuple_iterator") : ¬ good o := by
  unfold good
  rw [h]
  rintro (e | e | e | e) <;> simp at e
section
variable {prog : Program} {w : World} {A : Around} {E : Value → Shared → Prop} {s : Shared} {env : Env} {h₀ : Heap} {target : Expr} {body : List Stmt} {Q : Flow → Shared → Prop}
theorem iterU {l : Addr} {n : Nat} {vs : List Value} {m : Str → Option Value} {news : List (Addr × Obj)}
    (J : Nat → (Str → Option Value) → List (Addr × Obj) → Prop) (hh : A.handled = none)
    (F : Fr h₀ env.locals s.heap m) (N : News h₀ env.locals s.heap news) (hl : (l, tupOf vs.toArray n) ∈ news)
    (hJ : ∀ i m nx nx', J i m nx → Kept news nx nx' → J i m nx') (h0 : J 0 m news)
    (turn : ∀ i v m₁ nx own (s₁ : Shared), vs[i]? = some v → J i m₁ nx → (∀ p ∈ own, p ∈ nx) → Fr h₀ env.locals s₁.heap m₁ → News h₀ env.locals s₁.heap nx →
      wpAny (model prog w) A (assign target env v) (fun _ s₃ => wpAny (model prog w) A (execs body env) (TurnEnd h₀ env.locals own (J (i + 1)) s₁) E s₃) E s₁)
    (done : ∀ h' tk m' nx, Fr h₀ env.locals h' m' → News h₀ env.locals h' nx → J vs.length m' nx → Q .next { s with heap := h', toks := tk }) :
    wpAny (model prog w) A (pyIter (.ref l)) (fun it s₂ => LoopAtT prog w A h₀ env target body Q E it s₂) E s := by
  have hls : s.heap.IsTuple l vs.toArray := News.isTup N hl
  have hlt : l < s.heap.objs.size := Heap.lt_size (N _ hl).1
  refine wpAny_pyIter_tuple hls ?_
  have W := Walks.tuple (prog := prog) (w := w) hh s.heap.objs.size l (Nat.ne_of_lt hlt) vs.toArray
  rw [show vs.toArray.size = vs.length by simp] at W
  refine loopT J W ?_ (next_is_new F) ?_ ⟨⟨_, Heap.get?_push_size _ rfl, rfl, rfl⟩, hls.at fun o e => Heap.get?_push_of_some _ e⟩ (F.push _) (fun p hp => ⟨Heap.get?_push_of_some _ (N p hp).1, (N p hp).2⟩)
    (fun i s' v Q' hs hq => letGo_tupleiter hs.1 hq) (fun i h hs => ?_) hJ h0 ?_ ?_
  · intro hm
    rcases List.mem_cons.mp hm with e | hm
    · exact absurd F.ns.lt (e ▸ Nat.lt_irrefl _)
    · exact absurd (List.mem_singleton.mp hm).symm (N _ hl).2.1
  · intro p hp e
    exact absurd (Heap.lt_size (N p hp).1) (e ▸ Nat.lt_irrefl _)
  · obtain ⟨o, ho, hc, _⟩ := hs.1
    exact ⟨o, ho, not_good_titer hc⟩
  · intro i v m₁ nx own s₁ _ hP hj ho _ F1 N1
    exact turn i v m₁ nx own s₁ (by simpa using hP) hj ho F1 N1
  · intro h' tk m' nx F' N' hj
    exact done h' tk m' nx F' N' hj
theorem iterU2 {l : Addr} {n : Nat} {vs : List Value} {m : Str → Option Value} {news : List (Addr × Obj)}
    (K : (Str → Option Value) → Prop) (hh : A.handled = none)
    (F : Fr h₀ env.locals s.heap m) (N : News h₀ env.locals s.heap news) (hl : (l, tupOf vs.toArray n) ∈ news) (h0 : K m)
    (turn : ∀ (i : Nat) v m₁ nx own (s₁ : Shared), vs[i]? = some v → Sub news nx → K m₁ → (∀ p ∈ own, p ∈ nx) → Fr h₀ env.locals s₁.heap m₁ → News h₀ env.locals s₁.heap nx →
      wpAny (model prog w) A (assign target env v) (fun _ s₃ => wpAny (model prog w) A (execs body env) (TurnEnd h₀ env.locals own (fun m' nx' => Sub news nx' ∧ K m') s₁) E s₃) E s₁)
    (done : ∀ h' tk m' nx, Fr h₀ env.locals h' m' → News h₀ env.locals h' nx → K m' → Q .next { s with heap := h', toks := tk }) :
    wpAny (model prog w) A (pyIter (.ref l)) (fun it s₂ => LoopAtT prog w A h₀ env target body Q E it s₂) E s :=
  iterU (fun _ m₁ nx => Sub news nx ∧ K m₁) hh F N hl (fun _ _ _ _ hj hk => ⟨hk.sub hj.1, hj.2⟩) ⟨Sub.refl, h0⟩
    (fun i v m₁ nx own s₁ hv hj ho F1 N1 => turn i v m₁ nx own s₁ hv hj.1 hj.2 ho F1 N1) (fun h' tk m' nx F' N' hj => done h' tk m' nx F' N' hj.2)
end
set_option maxHeartbeats 3000000 in
theorem main : PySem.Challenge.rw_og0147_01.Holds := Mine.hd (by
  w_strict (
    k_go0
    all_goals (try k_fold)
    rename World => w0
    rename Below _ _ _ _ => K0
    rename Fr _ _ _ _ => F0
    rename News _ _ _ _ => N0
    rename IntsAre _ _ => hI
    rename Heap.IsList _ _ _ => hLs
    rename (PyData.list (List.map PyData.int _)).layable0 = true => hlay
    rename Frag.In _ _ => X
    rename ¬ _ < _ => h63
    k_steps
    refine' Held.mk (box_spec ?cB ?cF ?cX ?cN ?cT ?ck ?cd ?x0 ?x1 ?x2 ?x3 ?_)
    (case cB => k_asm)
    (case cF => k_asm)
    (case cX => k_asm)
    (case cN => k_asm)
    (case cT => k_asm)
    (case ck => first | exact rfl | assumption)
    (case cd => decide)
    (case x0 => exact hLs)
    (case x1 => exact hI)
    (case x2 => omega)
    (case x3 => exact hlay)
    intro P c g st t1 t2 t3 n nc vs' cells rest h1 tk1 F1 N1 hr1 hs1 hc1 hi hcl hg hst hst2
    have hA1 := hs1 _ List.mem_cons_self
    have hB1 := hs1 _ (List.mem_cons_of_mem _ List.mem_cons_self)
    k_steps
    refine' Held.mk (ring_spec ?cB ?cF ?cX ?cN ?cT ?ck ?cd ?x0 ?x1 ?x2 ?x3 ?x4 ?x5 ?x6 ?x7 ?x8 ?_)
    (case cB => k_asm)
    (case cF => k_asm)
    (case cX => k_asm)
    (case cN => k_asm)
    (case cT => k_asm)
    (case ck => first | exact rfl | assumption)
    (case cd => decide)
    (case x0 => exact hr1)
    (case x1 => exact hc1)
    (case x2 => exact hi)
    (case x3 => exact hcl)
    (case x4 => assumption)
    (case x5 => assumption)
    (case x6 => assumption)
    (case x7 => exact ((⟨Int.le_refl 0, Int.le_refl 0⟩ : (0:Int) ≤ 0 ∧ (0:Int) ≤ 0)).1)
    (case x8 => exact plL ((⟨Int.le_refl 0, Int.le_refl 0⟩ : (0:Int) ≤ 0 ∧ (0:Int) ≤ 0)) (by decide))
    intro r2 p2 rest2 h2 tk2 g2 st2 pl2 a2 b2 c2 F2 N2 hr2 hs2 hring2 hn32 hn62 hsq2 hg2 hst2 hstt2 hpl2 hpll2
    obtain ⟨l2, n2, vs2, rfl, hl2, hvs2⟩ := id hring2
    replace hpll2 := plS ((⟨Int.le_refl 0, Int.le_refl 0⟩ : (0:Int) ≤ 0 ∧ (0:Int) ≤ 0)) hpl2 hpll2
    clear hpl2
    have hc2 := hs2 _ hc1
    k_steps
    refine' Held.mk (ring_spec ?cB ?cF ?cX ?cN ?cT ?ck ?cd ?x0 ?x1 ?x2 ?x3 ?x4 ?x5 ?x6 ?x7 ?x8 ?_)
    (case cB => k_asm)
    (case cF => k_asm)
    (case cX => k_asm)
    (case cN => k_asm)
    (case cT => k_asm)
    (case ck => first | exact rfl | assumption)
    (case cd => decide)
    (case x0 => exact hr2)
    (case x1 => exact hc2)
    (case x2 => exact hi)
    (case x3 => exact hcl)
    (case x4 => assumption)
    (case x5 => assumption)
    (case x6 => assumption)
    (case x7 => exact (hpll2).1)
    (case x8 => exact plL (hpll2) (by decide))
    intro r3 p3 rest3 h3 tk3 g3 st3 pl3 a3 b3 c3 F3 N3 hr3 hs3 hring3 hn33 hn63 hsq3 hg3 hst3 hstt3 hpl3 hpll3
    obtain ⟨l3, n3, vs3, rfl, hl3, hvs3⟩ := id hring3
    replace hpll3 := plS (hpll2) hpl3 hpll3
    clear hpl3
    have hc3 := hs3 _ hc2
    k_steps
    rename News _ _ _ _ => NT3
    have NB3 := news_tail NT3
    clear NT3
    refine' Held.mk (num_spec ?cB ?cF ?cX ?cN ?cT ?ck ?cd ?x0 ?x1 ?x2 ?x3 ?x4 ?x5 ?x6 ?x7 ?x8 ?_)
    (case cB => k_asm)
    (case cF => k_asm)
    (case cX => k_asm)
    (case cN => k_asm)
    (case cT => k_asm)
    (case ck => first | exact rfl | assumption)
    (case cd => decide)
    (case x0 => exact hr3)
    (case x1 => exact hc3)
    (case x2 => exact hi)
    (case x3 => exact hcl)
    (case x4 => assumption)
    (case x5 => assumption)
    (case x6 => assumption)
    (case x7 => exact (hpll3).1)
    (case x8 => exact plL (hpll3) (by decide))
    intro r4 X4 fr4 rest4 h4 tk4 g4 st4 pl4 a4 b4 c4 F4 N4 hr4 hgr4 hpt4 hv4 hX4 hXX4 hg4 hst4 hstt4 hpl4 hpll4
    replace hpll4 := plS (hpll3) hpl4 hpll4
    clear hpl4
    have hc4 := hgr4.sub _ hc3
    k_steps
    refine' Held.mk (decof_spec ?cB ?cF ?cX ?cN ?cT ?ck ?cd ?x0 ?_)
    (case cB => k_asm)
    (case cF => k_asm)
    (case cX => k_asm)
    (case cN => k_asm)
    (case cT => k_asm)
    (case ck => first | exact rfl | assumption)
    (case cd => decide)
    (case x0 => exact (hv4.mono hpt4.sub).mono Sub.cons)
    intro r5 news5 h5 tk5 F5 M5 hs5 hd5
    obtain ⟨rest5, N5, hr5, hgr5, hp5, -⟩ := pool_split M5 hs5 hr4
    clear M5
    have hD5 := hd5.pub hp5
    have hc5 := hgr5.sub _ hc4
    k_steps
    refine' Held.mk (num_spec ?cB ?cF ?cX ?cN ?cT ?ck ?cd ?x0 ?x1 ?x2 ?x3 ?x4 ?x5 ?x6 ?x7 ?x8 ?_)
    (case cB => k_asm)
    (case cF => k_asm)
    (case cX => k_asm)
    (case cN => k_asm)
    (case cT => k_asm)
    (case ck => first | exact rfl | assumption)
    (case cd => decide)
    (case x0 => exact hr5)
    (case x1 => exact hc5)
    (case x2 => exact hi)
    (case x3 => exact hcl)
    (case x4 => assumption)
    (case x5 => assumption)
    (case x6 => assumption)
    (case x7 => exact (hpll4).1)
    (case x8 => exact plL (hpll4) (by decide))
    intro r6 X6 fr6 rest6 h6 tk6 g6 st6 pl6 a6 b6 c6 F6 N6 hr6 hgr6 hpt6 hv6 hX6 hXX6 hg6 hst6 hstt6 hpl6 hpll6
    replace hpll6 := plS (hpll4) hpl6 hpll6
    clear hpl6
    have hc6 := hgr6.sub _ hc5
    k_steps
    refine' Held.mk (decof_spec ?cB ?cF ?cX ?cN ?cT ?ck ?cd ?x0 ?_)
    (case cB => k_asm)
    (case cF => k_asm)
    (case cX => k_asm)
    (case cN => k_asm)
    (case cT => k_asm)
    (case ck => first | exact rfl | assumption)
    (case cd => decide)
    (case x0 => exact (hv6.mono hpt6.sub).mono Sub.cons)
    intro r7 news7 h7 tk7 F7 M7 hs7 hd7
    obtain ⟨rest7, N7, hr7, hgr7, hp7, -⟩ := pool_split M7 hs7 hr6
    clear M7
    have hD7 := hd7.pub hp7
    have hc7 := hgr7.sub _ hc6
    have hs57 : Sub rest5 rest7 := hgr6.sub.trans hgr7.sub
    have hs37 : Sub rest3 rest7 := (hgr4.sub.trans hgr5.sub).trans hs57
    have hLF := LF.mk hr7 hc7 (hs37 _ (hs3 _ (hs2 _ hA1))) (hs37 _ (hs3 _ (hs2 _ hB1))) ((hring2.mono hs3).mono hs37) (hring3.mono hs37) (hD5.mono hs57) hD7
    k_steps
    rename News _ _ _ _ => NT7
    have NB7 := news_tail NT7
    clear NT7
    have hl27 := hs37 _ (hs3 _ hl2)
    have hvl : vs2.length = p2.length := hvs2.length
    have hs27 : Sub rest2 rest7 := hs3.trans hs37
    rename Fr _ _ _ _ => FM
    refine Held.mk (mid_if FM NB7 hLF ?_ ?_)
    · refine wpAny_If ?_
      k_steps
      refine' Held.mk (draw_spec ?cB ?cF ?cX ?cN ?cT ?ck ?cd ?x0 ?x1 ?x2 ?x3 ?x4 ?x5 ?x6 ?x7 ?x8 ?x9 ?x10 ?_)
      (case cB => k_asm)
      (case cF => k_asm)
      (case cX => k_asm)
      (case cN => k_asm)
      (case cT => k_asm)
      (case ck => first | exact rfl | assumption)
      (case cd => decide)
      (case x0 => exact hr7)
      (case x1 => exact hc7)
      (case x2 => exact hi)
      (case x3 => exact hcl)
      (case x4 => assumption)
      (case x5 => assumption)
      (case x6 => assumption)
      (case x7 => exact (hpll6).1)
      (case x8 => exact plL (hpll6) (by decide))
      (case x9 => decide)
      (case x10 => decide)
      intro d8 td8 h8 tk8 g8 st8 a8 b8 c8 F8 N8 hd8 hdd8 hg8 hst8 hstt8
      k_steps
      · refine Held.mk (len_M (by k_asm) (by k_mem) hvl (Nat.le_trans hn62 (by decide)) ?_)
        k_steps
        refine' Held.mk (draw_spec ?cB ?cF ?cX ?cN ?cT ?ck ?cd ?x0 ?x1 ?x2 ?x3 ?x4 ?x5 ?x6 ?x7 ?x8 ?x9 ?x10 ?_)
        (case cB => k_asm)
        (case cF => k_asm)
        (case cX => k_asm)
        (case cN => k_asm)
        (case cT => k_asm)
        (case ck => first | exact rfl | assumption)
        (case cd => decide)
        (case x0 => exact hr7)
        (case x1 => exact hc7)
        (case x2 => exact hi)
        (case x3 => exact hcl)
        (case x4 => assumption)
        (case x5 => assumption)
        (case x6 => assumption)
        (case x7 => exact (plU hpll6).1)
        (case x8 => exact plL (plU hpll6) (by decide))
        (case x9 => exact (lenb hn32 hn62).1)
        (case x10 => exact (lenb hn32 hn62).2)
        intro d9 td9 h9 tk9 g9 st9 a9 b9 c9 F9 N9 hd9 hdd9 hg9 hst9 hstt9
        obtain ⟨v9, hv9, t9, n9, ax9, ay9, rfl, ht9, hx9, hy9⟩ := hvs2.getB (i := d9.toNat) (tnl hd9 hdd9) (0, 0)
        have ht97 := hs27 _ ht9
        have hin9 : p2.getD d9.toNat (0, 0) ∈ p2 := by
          have hlt : d9.toNat < p2.length := tnl hd9 hdd9
          rw [List.getD_eq_getElem?_getD, List.getElem?_eq_getElem hlt]
          exact List.getElem_mem hlt
        have hsq9 := hsq2 _ hin9
        k_steps
        refine Held.mk (item_M N9 (List.mem_cons_of_mem _ hl27) (lenc hd9 hdd9 hn62) (.inl ⟨hd9, hv9⟩) ?_ (by with_unfolding_all rfl))
        k_steps
        rename Fr _ _ _ _ => FE
        rename News _ _ _ _ => NE
        exact ⟨rfl, _, _, ax9, _, ay9, _, _, _, _, _, _, _, rest7, rfl, fr_mid FE rfl rfl (fun z h1 h2 => (if_neg h2).trans (if_neg h1)), NE, ⟨hr7, hc7, hLF.hA, hLF.hB, hLF.one, hLF.other, hx9.mono hs27, hy9.mono hs27⟩, ⟨hsq9.1, hsq9.2.1⟩, hsq9.2.2, hg9, hst9, hstt9, (plU (plU hpll6)).1, plE (plU (plU hpll6)) (by decide)⟩
      · rename Fr _ _ _ _ => FE
        rename News _ _ _ _ => NE
        exact ⟨rfl, _, _, r5, _, r7, _, _, _, _, _, _, _, rest7, rfl, fr_mid FE rfl rfl (fun z _ _ => rfl), NE, hLF, ⟨hX4, hXX4⟩, ⟨hX6, hXX6⟩, hg8, hst8, hstt8, (plU hpll6).1, plE (plU hpll6) (by decide)⟩
    · clear hLF
      rintro f s' ⟨rfl, h', tk', vx, xv, vy, yv, g, st, pl, t1, t2, t3, rest, rfl, FM, NM, hLF, hxv, hyv, hg, hst, hstt, hpl, hpll⟩
      replace hpll := And.intro hpl hpll
      clear hpl
      dsimp only
      k_steps
      refine' Held.mk (wind_spec ?cB ?cF ?cX ?cN ?cT ?ck ?cd ?x0 ?x1 ?x2 ?x3 ?x4 ?x5 ?x6 ?x7 ?_)
      (case cB => k_asm)
      (case cF => k_asm)
      (case cX => k_asm)
      (case cN => k_asm)
      (case cT => k_asm)
      (case ck => first | exact rfl | assumption)
      (case cd => decide)
      (case x0 => exact ⟨_, _, [_], rfl, List.mem_cons_self, .cons (hLF.one.mono Sub.cons2) .nil⟩)
      (case x1 => exact .inr (hLF.x.mono Sub.cons2))
      (case x2 => exact .inr (hLF.y.mono Sub.cons2))
      (case x3 => exact one_list (Nat.le_trans hn62 (by decide)))
      (case x4 => exact Nat.le_of_ble_eq_true rfl)
      (case x5 => exact one_list hsq2.small)
      (case x6 => exact bdc hxv (by decide) (by decide))
      (case x7 => exact bdc hyv (by decide) (by decide))
      intro tw1 newsw1 hw1 tkw1 Fw1 Nw1 hsw1
      obtain ⟨rw1, Nv1, hrw1, hssw1, -⟩ := pool_splitS Nw1 (fun q hq => hsw1 q (List.mem_cons_of_mem _ hq)) hLF.hr
      replace hLF := hLF.mono hssw1 hrw1
      clear Nw1
      k_steps
      refine' Held.mk (wind_spec ?cB ?cF ?cX ?cN ?cT ?ck ?cd ?x0 ?x1 ?x2 ?x3 ?x4 ?x5 ?x6 ?x7 ?_)
      (case cB => k_asm)
      (case cF => k_asm)
      (case cX => k_asm)
      (case cN => k_asm)
      (case cT => k_asm)
      (case ck => first | exact rfl | assumption)
      (case cd => decide)
      (case x0 => exact ⟨_, _, [_], rfl, List.mem_cons_self, .cons (hLF.other.mono Sub.cons2) .nil⟩)
      (case x1 => exact .inr (hLF.x.mono Sub.cons2))
      (case x2 => exact .inr (hLF.y.mono Sub.cons2))
      (case x3 => exact one_list (Nat.le_trans hn63 (by decide)))
      (case x4 => exact Nat.le_of_ble_eq_true rfl)
      (case x5 => exact one_list hsq3.small)
      (case x6 => exact bdc hxv (by decide) (by decide))
      (case x7 => exact bdc hyv (by decide) (by decide))
      intro tw2 newsw2 hw2 tkw2 Fw2 Nw2 hsw2
      obtain ⟨rw2, Nv2, hrw2, hssw2, -⟩ := pool_splitS Nw2 (fun q hq => hsw2 q (List.mem_cons_of_mem _ hq)) hLF.hr
      replace hLF := hLF.mono hssw2 hrw2
      clear Nw2
      k_steps
      rename News _ _ _ _ => NT
      have NB := news_tail NT
      clear NT
      obtain ⟨_, nO3, vsO3, eO3, hlO3, hvO3⟩ := id hLF.one
      cases eO3
      rename News _ _ _ _ => NB
      refine Held.mk (krv_lit (its := vsO3.toArray) (zs := vsO3.reverse) (by k_asm) NB (News.isList NB (List.mem_cons_of_mem _ hlO3)) (IsPart.int _ _) (by simp) ?_ (by with_unfolding_all rfl) (by intro _; with_unfolding_all rfl) (by rw [List.size_toArray, hvO3.length]; exact Nat.le_trans hn62 (by decide)))
      intro DO3 hO3 FO3 NO3 lO3
      clear NB
      k_steps
      refine' Held.mk (wind_spec ?cB ?cF ?cX ?cN ?cT ?ck ?cd ?x0 ?x1 ?x2 ?x3 ?x4 ?x5 ?x6 ?x7 ?_)
      (case cB => k_asm)
      (case cF => k_asm)
      (case cX => k_asm)
      (case cN => k_asm)
      (case cT => k_asm)
      (case ck => first | exact rfl | assumption)
      (case cd => decide)
      (case x0 => exact ⟨_, _, [_], rfl, List.mem_cons_self, .cons ⟨DO3, 0, vsO3.reverse, rfl, List.mem_cons_of_mem _ List.mem_cons_self, (hvO3.imp fun _ _ h => h.mono Sub.cons3).reverse⟩ .nil⟩)
      (case x1 => exact .inr (hLF.x.mono Sub.cons3))
      (case x2 => exact .inr (hLF.y.mono Sub.cons3))
      (case x3 => exact one_list (Nat.le_trans (Nat.le_of_eq (List.length_reverse ..)) (Nat.le_trans hn62 (by decide))))
      (case x4 => exact Nat.le_of_ble_eq_true rfl)
      (case x5 => exact one_list (hsq2.sub fun _ h => List.mem_reverse.mp h).small)
      (case x6 => exact bdc hxv (by decide) (by decide))
      (case x7 => exact bdc hyv (by decide) (by decide))
      intro tw3 newsw3 hw3 tkw3 Fw3 Nw3 hsw3
      rw [wind_rev]
      obtain ⟨rw3, Nv3, hrw3, hssw3, -⟩ := pool_splitS Nw3 (fun q hq => hsw3 q (List.mem_cons_of_mem _ (List.mem_cons_of_mem _ hq))) hLF.hr
      replace hLF := hLF.mono hssw3 hrw3
      clear Nw3
      k_steps
      obtain ⟨_, nO4, vsO4, eO4, hlO4, hvO4⟩ := id hLF.other
      cases eO4
      rename News _ _ _ _ => NB
      refine Held.mk (krv_lit (its := vsO4.toArray) (zs := vsO4.reverse) (by k_asm) NB (News.isList NB (List.mem_cons_of_mem _ hlO4)) (IsPart.int _ _) (by simp) ?_ (by with_unfolding_all rfl) (by intro _; with_unfolding_all rfl) (by rw [List.size_toArray, hvO4.length]; exact Nat.le_trans hn63 (by decide)))
      intro DO4 hO4 FO4 NO4 lO4
      clear NB
      k_steps
      refine' Held.mk (wind_spec ?cB ?cF ?cX ?cN ?cT ?ck ?cd ?x0 ?x1 ?x2 ?x3 ?x4 ?x5 ?x6 ?x7 ?_)
      (case cB => k_asm)
      (case cF => k_asm)
      (case cX => k_asm)
      (case cN => k_asm)
      (case cT => k_asm)
      (case ck => first | exact rfl | assumption)
      (case cd => decide)
      (case x0 => exact ⟨_, _, [_], rfl, List.mem_cons_self, .cons ⟨DO4, 0, vsO4.reverse, rfl, List.mem_cons_of_mem _ List.mem_cons_self, (hvO4.imp fun _ _ h => h.mono Sub.cons3).reverse⟩ .nil⟩)
      (case x1 => exact .inr (hLF.x.mono Sub.cons3))
      (case x2 => exact .inr (hLF.y.mono Sub.cons3))
      (case x3 => exact one_list (Nat.le_trans (Nat.le_of_eq (List.length_reverse ..)) (Nat.le_trans hn63 (by decide))))
      (case x4 => exact Nat.le_of_ble_eq_true rfl)
      (case x5 => exact one_list (hsq3.sub fun _ h => List.mem_reverse.mp h).small)
      (case x6 => exact bdc hxv (by decide) (by decide))
      (case x7 => exact bdc hyv (by decide) (by decide))
      intro tw4 newsw4 hw4 tkw4 Fw4 Nw4 hsw4
      rw [wind_rev]
      obtain ⟨rw4, Nv4, hrw4, hssw4, -⟩ := pool_splitS Nw4 (fun q hq => hsw4 q (List.mem_cons_of_mem _ (List.mem_cons_of_mem _ hq))) hLF.hr
      replace hLF := hLF.mono hssw4 hrw4
      clear Nw4
      obtain ⟨_, nO5, vsO5, eO5, hlO5, hvO5⟩ := id hLF.one
      cases eO5
      have hvl5 : vsO5.length = p2.length := hvO5.length
      k_steps
      refine Held.mk (len_M (by k_asm) (by k_mem) hvl5 (Nat.le_trans hn62 (by decide)) ?_)
      k_steps
      refine' Held.mk (draw_spec ?cB ?cF ?cX ?cN ?cT ?ck ?cd ?x0 ?x1 ?x2 ?x3 ?x4 ?x5 ?x6 ?x7 ?x8 ?x9 ?x10 ?_)
      (case cB => k_asm)
      (case cF => k_asm)
      (case cX => k_asm)
      (case cN => k_asm)
      (case cT => k_asm)
      (case ck => first | exact rfl | assumption)
      (case cd => decide)
      (case x0 => exact hLF.hr)
      (case x1 => exact hLF.hc)
      (case x2 => exact hi)
      (case x3 => exact hcl)
      (case x4 => assumption)
      (case x5 => assumption)
      (case x6 => assumption)
      (case x7 => exact (hpll).1)
      (case x8 => exact plL (hpll) (by decide))
      (case x9 => exact (lenb hn32 hn62).1)
      (case x10 => exact (lenb hn32 hn62).2)
      intro dS tdS hS tkS gS stS aS bS cS FS NS hdS hddS hgS hstS hsttS
      have hdl2 : dS.toNat ≤ p2.length := Nat.le_of_lt (tnl hdS hddS)
      have hdl : dS.toNat ≤ vsO5.length := hvl5.symm ▸ hdl2
      have hszO : vsO5.length ≤ sizeLine := by rw [hvl5]; exact Nat.le_trans hn62 (by decide)
      k_steps
      rename News _ _ _ _ => NB
      refine Held.mk (kmk_slice_lit (its := vsO5.toArray) (zs := vsO5.drop dS.toNat) (by k_asm) NB (News.isList NB (List.mem_cons_of_mem _ hlO5)) (IsPart.int _ _) IsPart.none (pick_from hdS hdl) ?_ (by with_unfolding_all rfl) (by intro _; with_unfolding_all rfl) (by rw [List.size_toArray]; exact hszO))
      intro Da ha Fa Na la
      clear NB
      k_steps
      rename News _ _ _ _ => NB
      refine Held.mk (kmk_slice_lit (its := vsO5.toArray) (zs := vsO5.take dS.toNat) (by k_asm) NB (News.isList NB (List.mem_cons_of_mem _ (List.mem_cons_of_mem _ hlO5))) IsPart.none (IsPart.int _ _) (pick_upto hdS hdl) ?_ (by with_unfolding_all rfl) (by intro _; with_unfolding_all rfl) (by rw [List.size_toArray]; exact hszO))
      intro Db hb Fb Nb lb
      clear NB
      k_steps
      rename News _ _ _ _ => NB
      refine Held.mk (kmk_add_lit (its := (vsO5.drop dS.toNat).toArray) (its2 := (vsO5.take dS.toNat).toArray) (zs := vsO5.drop dS.toNat ++ vsO5.take dS.toNat) (by k_asm) NB (News.isList NB (List.mem_cons_of_mem _ List.mem_cons_self)) (News.isList NB List.mem_cons_self) rfl ?_ (by rw [← List.length_append]; exact Nat.le_trans (Nat.le_of_eq (rotl hdl)) hszO))
      intro Dc hc' Fc Nc lc
      clear NB
      have hrot : ∀ q ∈ p2.drop dS.toNat ++ p2.take dS.toNat, q ∈ p2 := fun q hq => (List.mem_append.mp hq).elim List.mem_of_mem_drop List.mem_of_mem_take
      have hrotl : (p2.drop dS.toNat ++ p2.take dS.toNat).length ≤ 100 := Nat.le_trans (Nat.le_of_eq (rotl hdl2)) (Nat.le_trans hn62 (by decide))
      k_steps
      refine' Held.mk (wind_spec ?cB ?cF ?cX ?cN ?cT ?ck ?cd ?x0 ?x1 ?x2 ?x3 ?x4 ?x5 ?x6 ?x7 ?_)
      (case cB => k_asm)
      (case cF => k_asm)
      (case cX => k_asm)
      (case cN => k_asm)
      (case cT => k_asm)
      (case ck => first | exact rfl | assumption)
      (case cd => decide)
      (case x0 => exact ⟨_, _, [_], rfl, List.mem_cons_self, .cons ⟨Dc, 0, _, rfl, List.mem_cons_of_mem _ List.mem_cons_self, ((hvO5.imp fun _ _ h => h.mono Sub.cons5).drop _).append ((hvO5.imp fun _ _ h => h.mono Sub.cons5).take _)⟩ .nil⟩)
      (case x1 => exact .inr (hLF.x.mono Sub.cons5))
      (case x2 => exact .inr (hLF.y.mono Sub.cons5))
      (case x3 => exact one_list hrotl)
      (case x4 => exact Nat.le_of_ble_eq_true rfl)
      (case x5 => exact one_list (hsq2.sub hrot).small)
      (case x6 => exact bdc hxv (by decide) (by decide))
      (case x7 => exact bdc hyv (by decide) (by decide))
      intro tw5 newsw5 hw5 tkw5 Fw5 Nw5 hsw5
      rw [wind_rot]
      obtain ⟨rw5, Nv5, hrw5, hssw5, -⟩ := pool_splitS Nw5 (fun q hq => hsw5 q (List.mem_cons_of_mem _ (List.mem_cons_of_mem _ (List.mem_cons_of_mem _ (List.mem_cons_of_mem _ hq))))) hLF.hr
      replace hLF := hLF.mono hssw5 hrw5
      clear Nw5
      k_steps
      refine' Held.mk (wind_spec ?cB ?cF ?cX ?cN ?cT ?ck ?cd ?x0 ?x1 ?x2 ?x3 ?x4 ?x5 ?x6 ?x7 ?_)
      (case cB => k_asm)
      (case cF => k_asm)
      (case cX => k_asm)
      (case cN => k_asm)
      (case cT => k_asm)
      (case ck => first | exact rfl | assumption)
      (case cd => decide)
      (case x0 => exact ⟨_, _, [_, _], rfl, List.mem_cons_self, .cons (hLF.one.mono Sub.cons2) (.cons (hLF.other.mono Sub.cons2) .nil)⟩)
      (case x1 => exact .inr (hLF.x.mono Sub.cons2))
      (case x2 => exact .inr (hLF.y.mono Sub.cons2))
      (case x3 => exact two_list (Nat.le_trans hn62 (by decide)) (Nat.le_trans hn63 (by decide)))
      (case x4 => exact Nat.le_of_ble_eq_true rfl)
      (case x5 => exact two_list hsq2.small hsq3.small)
      (case x6 => exact bdc hxv (by decide) (by decide))
      (case x7 => exact bdc hyv (by decide) (by decide))
      intro tw6 newsw6 hw6 tkw6 Fw6 Nw6 hsw6
      rw [wind_two]
      obtain ⟨rw6, Nv6, hrw6, hssw6, -⟩ := pool_splitS Nw6 (fun q hq => hsw6 q (List.mem_cons_of_mem _ hq)) hLF.hr
      replace hLF := hLF.mono hssw6 hrw6
      clear Nw6
      k_steps
      obtain ⟨_, nO7, vsO7, eO7, hlO7, hvO7⟩ := id hLF.one
      cases eO7
      rename News _ _ _ _ => NB
      refine Held.mk (krv_lit (its := vsO7.toArray) (zs := vsO7.reverse) (by k_asm) NB (News.isList NB (List.mem_cons_of_mem _ hlO7)) (IsPart.int _ _) (by simp) ?_ (by with_unfolding_all rfl) (by intro _; with_unfolding_all rfl) (by rw [List.size_toArray, hvO7.length]; exact Nat.le_trans hn62 (by decide)))
      intro DO7 hO7 FO7 NO7 lO7
      clear NB
      k_steps
      refine' Held.mk (wind_spec ?cB ?cF ?cX ?cN ?cT ?ck ?cd ?x0 ?x1 ?x2 ?x3 ?x4 ?x5 ?x6 ?x7 ?_)
      (case cB => k_asm)
      (case cF => k_asm)
      (case cX => k_asm)
      (case cN => k_asm)
      (case cT => k_asm)
      (case ck => first | exact rfl | assumption)
      (case cd => decide)
      (case x0 => exact ⟨_, _, [_, _], rfl, List.mem_cons_self, .cons (hLF.one.mono Sub.cons3) (.cons ⟨DO7, 0, vsO7.reverse, rfl, List.mem_cons_of_mem _ List.mem_cons_self, (hvO7.imp fun _ _ h => h.mono Sub.cons3).reverse⟩ .nil)⟩)
      (case x1 => exact .inr (hLF.x.mono Sub.cons3))
      (case x2 => exact .inr (hLF.y.mono Sub.cons3))
      (case x3 => exact two_list (Nat.le_trans hn62 (by decide)) (Nat.le_trans (Nat.le_of_eq (List.length_reverse ..)) (Nat.le_trans hn62 (by decide))))
      (case x4 => exact Nat.le_of_ble_eq_true rfl)
      (case x5 => exact two_list hsq2.small (hsq2.sub fun _ h => List.mem_reverse.mp h).small)
      (case x6 => exact bdc hxv (by decide) (by decide))
      (case x7 => exact bdc hyv (by decide) (by decide))
      intro tw7 newsw7 hw7 tkw7 Fw7 Nw7 hsw7
      rw [wind_both]
      obtain ⟨rw7, Nv7, hrw7, hssw7, -⟩ := pool_splitS Nw7 (fun q hq => hsw7 q (List.mem_cons_of_mem _ (List.mem_cons_of_mem _ hq))) hLF.hr
      replace hLF := hLF.mono hssw7 hrw7
      clear Nw7
      k_steps
      refine' Held.mk (wind_spec ?cB ?cF ?cX ?cN ?cT ?ck ?cd ?x0 ?x1 ?x2 ?x3 ?x4 ?x5 ?x6 ?x7 ?_)
      (case cB => k_asm)
      (case cF => k_asm)
      (case cX => k_asm)
      (case cN => k_asm)
      (case cT => k_asm)
      (case ck => first | exact rfl | assumption)
      (case cd => decide)
      (case x0 => exact ⟨_, _, [], rfl, List.mem_cons_self, .nil⟩)
      (case x1 => exact .inr (hLF.x.mono Sub.cons2))
      (case x2 => exact .inr (hLF.y.mono Sub.cons2))
      (case x3 => exact (fun _ h => nomatch h))
      (case x4 => exact Nat.le_of_ble_eq_true rfl)
      (case x5 => exact (fun _ h => nomatch h))
      (case x6 => exact bdc hxv (by decide) (by decide))
      (case x7 => exact bdc hyv (by decide) (by decide))
      intro tw8 newsw8 hw8 tkw8 Fw8 Nw8 hsw8
      rw [wind_none]
      obtain ⟨rw8, Nv8, hrw8, hssw8, -⟩ := pool_splitS Nw8 (fun q hq => hsw8 q (List.mem_cons_of_mem _ hq)) hLF.hr
      replace hLF := hLF.mono hssw8 hrw8
      clear Nw8
      k_steps
      refine' Held.mk (num_spec ?cB ?cF ?cX ?cN ?cT ?ck ?cd ?x0 ?x1 ?x2 ?x3 ?x4 ?x5 ?x6 ?x7 ?x8 ?_)
      (case cB => k_asm)
      (case cF => k_asm)
      (case cX => k_asm)
      (case cN => k_asm)
      (case cT => k_asm)
      (case ck => first | exact rfl | assumption)
      (case cd => decide)
      (case x0 => exact hLF.hr)
      (case x1 => exact hLF.hc)
      (case x2 => exact hi)
      (case x3 => exact hcl)
      (case x4 => assumption)
      (case x5 => assumption)
      (case x6 => assumption)
      (case x7 => exact (plU hpll).1)
      (case x8 => exact plL (plU hpll) (by decide))
      intro r20 X20 fr20 rest20 h20 tk20 g20 st20 pl20 a20 b20 c20 F20 N20 hr20 hgr20 hpt20 hv20 hX20 hXX20 hg20 hst20 hstt20 hpl20 hpll20
      replace hpll20 := plS (plU hpll) hpl20 hpll20
      clear hpl20
      replace hLF := hLF.mono hgr20.sub hr20
      k_steps
      refine' Held.mk (decof_spec ?cB ?cF ?cX ?cN ?cT ?ck ?cd ?x0 ?_)
      (case cB => k_asm)
      (case cF => k_asm)
      (case cX => k_asm)
      (case cN => k_asm)
      (case cT => k_asm)
      (case ck => first | exact rfl | assumption)
      (case cd => decide)
      (case x0 => exact (hv20.mono hpt20.sub).mono Sub.cons)
      intro r21 news21 h21 tk21 F21 M21 hs21 hd21
      obtain ⟨rest21, N21, hr21, hgr21, hp21, -⟩ := pool_split M21 hs21 hr20
      clear M21
      have hD21 := hd21.pub hp21
      replace hLF := hLF.mono hgr21.sub hr21
      k_steps
      refine' Held.mk (num_spec ?cB ?cF ?cX ?cN ?cT ?ck ?cd ?x0 ?x1 ?x2 ?x3 ?x4 ?x5 ?x6 ?x7 ?x8 ?_)
      (case cB => k_asm)
      (case cF => k_asm)
      (case cX => k_asm)
      (case cN => k_asm)
      (case cT => k_asm)
      (case ck => first | exact rfl | assumption)
      (case cd => decide)
      (case x0 => exact hLF.hr)
      (case x1 => exact hLF.hc)
      (case x2 => exact hi)
      (case x3 => exact hcl)
      (case x4 => assumption)
      (case x5 => assumption)
      (case x6 => assumption)
      (case x7 => exact (hpll20).1)
      (case x8 => exact plL (hpll20) (by decide))
      intro r22 X22 fr22 rest22 h22 tk22 g22 st22 pl22 a22 b22 c22 F22 N22 hr22 hgr22 hpt22 hv22 hX22 hXX22 hg22 hst22 hstt22 hpl22 hpll22
      replace hpll22 := plS (hpll20) hpl22 hpll22
      clear hpl22
      replace hLF := hLF.mono hgr22.sub hr22
      replace hD21 := hD21.mono hgr22.sub
      k_steps
      refine' Held.mk (decof_spec ?cB ?cF ?cX ?cN ?cT ?ck ?cd ?x0 ?_)
      (case cB => k_asm)
      (case cF => k_asm)
      (case cX => k_asm)
      (case cN => k_asm)
      (case cT => k_asm)
      (case ck => first | exact rfl | assumption)
      (case cd => decide)
      (case x0 => exact (hv22.mono hpt22.sub).mono Sub.cons)
      intro r23 news23 h23 tk23 F23 M23 hs23 hd23
      obtain ⟨rest23, N23, hr23, hgr23, hp23, -⟩ := pool_split M23 hs23 hr22
      clear M23
      have hD23 := hd23.pub hp23
      replace hLF := hLF.mono hgr23.sub hr23
      replace hD21 := hD21.mono hgr23.sub
      obtain ⟨rest24, N24, hA24, hB24, hr24, hcub⟩ := cells_front N23 hLF.hA hLF.hB (by assumption) (by assumption) hLF.hr (Nat.succ_ne_self _)
      clear N23
      have hone24 := hLF.one.cub hcub
      have hother24 := hLF.other.cub hcub
      have hx24 := hLF.x.cub hcub
      have hy24 := hLF.y.cub hcub
      have hac24 := hD21.cub hcub
      have hup24 := hD23.cub hcub
      have hPA := hA24 _ (List.mem_cons_of_mem _ List.mem_cons_self)
      have hPB := hB24 _ List.mem_cons_self
      dsimp only at hPA hPB
      have hrA : ∀ q ∈ rest24, q.1 ≠ _ := fun q hq => hA24 q (List.mem_cons_of_mem _ (List.mem_cons_of_mem _ hq))
      have hrB : ∀ q ∈ rest24, q.1 ≠ _ := fun q hq => hB24 q (List.mem_cons_of_mem _ hq)
      k_steps
      rename_i oX dX _ oU _ NT dU
      have NB := news_tail NT
      clear NT
      obtain ⟨_, nM, vsM, eM, hlM, hvM⟩ := id hone24
      cases eM
      obtain ⟨tpx, plx, ⟨axx, dxx, kx1, kx2, tx1, tx2, rfl, hix, hdx⟩, hTx, hlex⟩ := id hx24
      obtain ⟨tpy, ply, ⟨axy, dxy, ky1, ky2, ty1, ty2, rfl, hiy, hdy⟩, hTy, hley⟩ := id hy24
      refine Held.mk (LCp.Assign_ListComp_P (F₀ := by k_asm) (by rfl) (by with_unfolding_all rfl) (by with_unfolding_all rfl) (by decide) (by rfl) (by decide) (by rfl) (by rfl) (by decide) (by rfl) (by rfl) ?_)
      walk1
      refine LCp.SrcLP.ledger rfl (by k_asm) NB (Sub.cons3 _ hlM) (by rw [List.size_toArray, hvM.length]; exact Nat.le_trans hn62 (by decide)) ?_
      intro gM
      refine comp_ind (fun i ys nz => Sub _ nz ∧ All2 (PtIn w0.params 1 nz) ys ((p2.take i).map fun q => (q.1 + X20, q.2 + X22))) vsM.toArray.size ?_ ?_ _ 0 [] _ (Nat.zero_add _) ⟨Sub.refl, .nil⟩
      · rintro i2 ys nz v2 hi2 hv2 ⟨hsub2, hys⟩
        have hsR : Sub rest24 nz := Sub.cons3.trans hsub2
        obtain ⟨pp, hpp, tM, nM2, aM, bM, rfl, htM, haM, hbM⟩ := hvM.get i2 v2 (by simpa using hv2)
        refine ⟨tM, _, _, _, _, rfl, hsR _ htM, rfl, rfl, ?_⟩
        intro I2 oI2 C2 oC2 D2 m2 h2 tk2 E2 hC2 hx2 hy2 F2 N2 off2
        have hcU := hsub2 _ List.mem_cons_self
        have hcX := hsub2 _ (List.mem_cons_of_mem _ List.mem_cons_self)
        replace haM := haM.mono hsR
        replace hbM := hbM.mono hsR
        have hac2 := hac24.mono hsR
        have hup2 := hup24.mono hsR
        obtain ⟨tp1, pl1, ⟨x1, dx1, k11, k12, t11, t12, rfl, hx1, hdx1⟩, hT1, hle1⟩ := id haM
        obtain ⟨tp2, pl2', ⟨x2, dx2, k21, k22, t21, t22, rfl, hx2', hdx2⟩, hT2, hle2⟩ := id hbM
        k_steps
        refine' Held.mk (plus_spec ?cB ?cF ?cX ?cN ?cT ?ck ?cd ?x0 ?x1 ?_)
        (case cB => k_asm)
        (case cF => k_asm)
        (case cX => k_asm)
        (case cN => k_asm)
        (case cT => k_asm)
        (case ck => first | exact rfl | assumption)
        (case cd => decide)
        (case x0 => exact .inr (haM.mono Sub.cons3))
        (case x1 => exact .inr (hac2.mono Sub.cons3))
        intro r31 fr31 news31 h31 tk31 F31 N31 hg31 hp31 hd31
        have hx31 := hg31.sub _ (Sub.cons3 _ hx2')
        have hdx31 := hg31.sub _ (Sub.cons3 _ hdx2)
        have hcU31 := hg31.sub _ (Sub.cons3 _ hcU)
        have hcX31 := hg31.sub _ (Sub.cons3 _ hcX)
        have hI31 := hg31.sub _ List.mem_cons_self
        have hC31 := hg31.sub _ (List.mem_cons_of_mem _ List.mem_cons_self)
        have hD31 := hg31.sub _ (List.mem_cons_of_mem _ (List.mem_cons_of_mem _ List.mem_cons_self))
        k_steps
        refine' Held.mk (plus_spec ?cB ?cF ?cX ?cN ?cT ?ck ?cd ?x0 ?x1 ?_)
        (case cB => k_asm)
        (case cF => k_asm)
        (case cX => k_asm)
        (case cN => k_asm)
        (case cT => k_asm)
        (case ck => first | exact rfl | assumption)
        (case cd => decide)
        (case x0 => exact .inr ((hbM.mono Sub.cons3).mono hg31.sub))
        (case x1 => exact .inr ((hup2.mono Sub.cons3).mono hg31.sub))
        intro r32 fr32 news32 h32 tk32 F32 N32 hg32 hp32 hd32
        k_steps
        try k_unfold
        rename_i Dt _ FT NT lT
        have hlt := lT
        have hI32 := hg32.sub _ hI31
        have hC32 := hg32.sub _ hC31
        have hD32 := hg32.sub _ hD31
        have hs31 : Sub fr31 (off3 I2 C2 D2 news32) := fun q hq => by
          have h1 := (hp31.from_ q hq).elim (fun h => nomatch h) id
          exact mem_off3.mpr ⟨hg32.sub _ (hp31.sub q hq), Nat.ne_of_gt (h1 _ List.mem_cons_self), Nat.ne_of_gt (h1 _ (List.mem_cons_of_mem _ List.mem_cons_self)), Nat.ne_of_gt (h1 _ (List.mem_cons_of_mem _ (List.mem_cons_of_mem _ List.mem_cons_self)))⟩
        have hs32 : Sub fr32 (off3 I2 C2 D2 news32) := fun q hq => by
          have h1 := (hp32.from_ q hq).elim (fun h => nomatch h) id
          exact mem_off3.mpr ⟨hp32.sub q hq, Nat.ne_of_gt (h1 _ hI31), Nat.ne_of_gt (h1 _ hC31), Nat.ne_of_gt (h1 _ hD31)⟩
        have hsz : Sub nz (off3 I2 C2 D2 news32) := fun q hq => mem_off3.mpr ⟨hg32.sub _ (hg31.sub _ (Sub.cons3 _ hq)), off2 q hq⟩
        refine ⟨_, _, _, (Dt, tupOf #[r31, r32] 0) :: off3 I2 C2 D2 news32, rfl, FT, NT, ?_, ?_, .inr ⟨_, List.mem_cons_of_mem _ (hsz _ (hsR _ hlM)), rfl, _, rfl⟩, (hsub2.trans hsz).trans Sub.cons, ?_⟩
        · intro p hp
          simp only [List.cons_append, List.nil_append, List.mem_cons] at hp ⊢
          rcases hp with rfl | rfl | rfl | rfl | hp
          · exact .inr hI32
          · exact .inr hC32
          · exact .inr hD32
          · exact .inl rfl
          · exact .inr (mem_off3.mp hp).1
        · intro p hp
          rcases List.mem_cons.mp hp with rfl | hp
          · exact ⟨Nat.ne_of_gt (hlt _ hI32), Nat.ne_of_gt (hlt _ hC32), Nat.ne_of_gt (hlt _ hD32)⟩
          · exact (mem_off3.mp hp).2
        · rw [take_one _ hpp]
          exact (hys.imp fun _ _ h => (h.mono hsz).mono Sub.cons).append (.cons ⟨Dt, 0, r31, r32, rfl, List.mem_cons_self, hd31.mono (hs31.trans Sub.cons), hd32.mono (hs32.trans Sub.cons)⟩ .nil)
      · rintro ys nz ⟨hsub2, hys⟩
        rw [show vsM.toArray.size = p2.length by simp [hvM.length], List.take_length] at hys
        intro Dr hr' tkr FR NR offr
        dsimp only
        have hsR : Sub rest24 nz := Sub.cons3.trans hsub2
        have hcU := hsub2 _ List.mem_cons_self
        have hcX := hsub2 _ (List.mem_cons_of_mem _ List.mem_cons_self)
        have hix2 := hsR _ hix
        have hdx2 := hsR _ hdx
        have hiy2 := hsR _ hiy
        have hdy2 := hsR _ hdy
        k_steps
        refine' Held.mk (plus_spec ?cB ?cF ?cX ?cN ?cT ?ck ?cd ?x0 ?x1 ?_)
        (case cB => k_asm)
        (case cF => k_asm)
        (case cX => k_asm)
        (case cN => k_asm)
        (case cT => k_asm)
        (case ck => first | exact rfl | assumption)
        (case cd => decide)
        (case x0 => exact .inr ((hx24.mono hsR).mono Sub.cons2))
        (case x1 => exact .inr ((hac24.mono hsR).mono Sub.cons2))
        intro r41 fr41 news41 h41 tk41 F41 N41 hg41 hp41 hd41
        have hiy41 := hg41.sub _ (Sub.cons2 _ hiy2)
        have hdy41 := hg41.sub _ (Sub.cons2 _ hdy2)
        have hcU41 := hg41.sub _ (Sub.cons2 _ hcU)
        have hcX41 := hg41.sub _ (Sub.cons2 _ hcX)
        have hs41 := Sub.trans Sub.cons2 hg41.sub
        k_steps
        refine' Held.mk (plus_spec ?cB ?cF ?cX ?cN ?cT ?ck ?cd ?x0 ?x1 ?_)
        (case cB => k_asm)
        (case cF => k_asm)
        (case cX => k_asm)
        (case cN => k_asm)
        (case cT => k_asm)
        (case ck => first | exact rfl | assumption)
        (case cd => decide)
        (case x0 => exact .inr ((hy24.mono hsR).mono hs41))
        (case x1 => exact .inr ((hup24.mono hsR).mono hs41))
        intro r42 fr42 news42 h42 tk42 F42 N42 hg42 hp42 hd42
        k_steps
        refine' Held.mk (wind_spec ?cB ?cF ?cX ?cN ?cT ?ck ?cd ?x0 ?x1 ?x2 ?x3 ?x4 ?x5 ?x6 ?x7 ?_)
        (case cB => k_asm)
        (case cF => k_asm)
        (case cX => k_asm)
        (case cN => k_asm)
        (case cT => k_asm)
        (case ck => first | exact rfl | assumption)
        (case cd => decide)
        (case x0 => exact ⟨_, _, [_], rfl, hg42.sub _ (hg41.sub _ List.mem_cons_self), .cons ⟨Dr, _, ys, rfl, hg42.sub _ (hg41.sub _ (List.mem_cons_of_mem _ List.mem_cons_self)), hys.imp fun _ _ h => (h.mono hs41).mono hg42.sub⟩ .nil⟩)
        (case x1 => exact .inr ((hd41.mono hp41.sub).mono hg42.sub))
        (case x2 => exact .inr (hd42.mono hp42.sub))
        (case x3 => exact one_list (by rw [List.length_map]; exact Nat.le_trans hn62 (by decide)))
        (case x4 => exact Nat.le_of_ble_eq_true rfl)
        (case x5 => exact one_list (small_mv hsq2 ⟨hX20, hXX20⟩ ⟨hX22, hXX22⟩))
        (case x6 => exact bds hxv hX20 hXX20)
        (case x7 => exact bds hyv hX22 hXX22)
        intro t43 news43 h43 tk43 F43 N43 hs43
        rw [wind_move]
        have hsT : Sub rest24 news43 := ((hsR.trans hs41).trans hg42.sub).trans hs43
        have hone43 := hone24.mono hsT
        have hother43 := hother24.mono hsT
        k_steps
        rename Fr _ _ _ _ => FL
        refine Held.mk (For_invTF FL ?_ (by intro _; rfl))
        k_steps
        rename Fr _ _ _ _ => FL
        rename News _ _ _ _ => NL
        refine Held.mk (iterU2 (fun m₁ => m₁ (Str.ofString "one") = some (.ref l2) ∧ m₁ (Str.ofString "other") = some (.ref l3)) rfl FL NL List.mem_cons_self ⟨rfl, rfl⟩ ?_ ?_)
        · rintro i v m₁ nx own s₁ hv hsub ⟨hmo, hmt⟩ hown F3 N3
          have hT : ∃ t n far tf high th, v = .ref t ∧ (t, tupOf #[.int far tf, .int high th] n) ∈ nx ∧ (60 < 10 * far ∨ 10 * far < -60 ∨ 60 < 10 * high ∨ 10 * high < -60) ∧ (-100 ≤ far ∧ far ≤ 100) ∧ -100 ≤ high ∧ high ≤ 100 := by
            rcases i with _ | _ | _ | _ | _ | i
            · cases hv; exact ⟨_, _, _, _, _, _, rfl, hsub _ (by k_mem), by decide, by decide, by decide⟩
            · cases hv; exact ⟨_, _, _, _, _, _, rfl, hsub _ (by k_mem), by decide, by decide, by decide⟩
            · cases hv; exact ⟨_, _, _, _, _, _, rfl, hsub _ (by k_mem), by decide, by decide, by decide⟩
            · cases hv; exact ⟨_, _, _, _, _, _, rfl, hsub _ (by k_mem), by decide, by decide, by decide⟩
            · cases hv; exact ⟨_, _, _, _, _, _, rfl, hsub _ (by k_mem), by decide, by decide, by decide⟩
            · cases hv
          have hsub43 : Sub news43 nx := fun q hq => hsub q (List.mem_cons_of_mem _ (List.mem_cons_of_mem _ (List.mem_cons_of_mem _ (List.mem_cons_of_mem _ (List.mem_cons_of_mem _ (List.mem_cons_of_mem _ hq))))))
          obtain ⟨tF, nF, far, tf, high, th, rfl, htF, hcond, hbf, hbh⟩ := hT
          have F3 := fr_know (fr_know F3 (Str.ofString "one") hmo) (Str.ofString "other") hmt
          k_steps
          refine' Held.mk (wind_spec ?cB ?cF ?cX ?cN ?cT ?ck ?cd ?x0 ?x1 ?x2 ?x3 ?x4 ?x5 ?x6 ?x7 ?_)
          (case cB => k_asm)
          (case cF => k_asm)
          (case cX => k_asm)
          (case cN => k_asm)
          (case cT => k_asm)
          (case ck => first | exact rfl | assumption)
          (case cd => decide)
          (case x0 => exact ⟨_, _, [_, _], rfl, List.mem_cons_self, .cons ((hone43.mono hsub43).mono Sub.cons) (.cons ((hother43.mono hsub43).mono Sub.cons) .nil)⟩)
          (case x1 => exact .inl ⟨far, _, rfl, rfl⟩)
          (case x2 => exact .inl ⟨high, _, rfl, rfl⟩)
          (case x3 => exact two_list (Nat.le_trans hn62 (by decide)) (Nat.le_trans hn63 (by decide)))
          (case x4 => exact Nat.le_of_ble_eq_true rfl)
          (case x5 => exact two_list hsq2.small hsq3.small)
          (case x6 => exact bdm hbf)
          (case x7 => exact bdm hbh)
          intro t44 news44 h44 tk44 F44 N44 hs44
          rw [wind_far hcond hsq2 hsq3]
          k_steps
          exact ⟨rfl, _, _, _, news44, rfl, by assumption, by assumption, fun p hp => hs44 _ (List.mem_cons_of_mem _ (hown p hp)), (hsub.trans Sub.cons).trans hs44, rfl, rfl⟩
        · rintro h' tk m' nx F' N' ⟨hmo, hmt⟩
          k_steps
    ))
end Mine
theorem PySem.Challenge.cw_og0147_01_holds : PySem.Challenge.rw_og0147_01.Holds := by
  exact Mine.main
