import PyProof.Rows.All
import Wide.All
import OpenK.AllK
import Wide.FinOn
import HandS.ForMost
import HandS.ForExc
import HandS.TupAny
import HandS.IsInst
import HandS.CallSlots
import HandS.Zip
import HandS.Style
import HandS.More
import PySem.Challenge.RW_betweenmaps_k03_declarations_judged
set_option Elab.async false
set_option linter.all false
set_option maxRecDepth 100000
set_option maxHeartbeats 4000000
/-! Bm: values as trees over the hand layer; a small store for what changes. -/
namespace Bm
open PySem L2

/-- a value as a tree -/
inductive T where
  | non | bl (b : Bool) | int (i : Int) | str (s : Str) | ty (n : String) | glo (a : Addr) | cls (c : Str) | scr (ns : List Int)
  | lst (xs : List T) | tup (xs : List T) | ins (c : Str) (ns : List Str) (ts : List T)
/-- a value: a tree, or a thing of the store -/
inductive D where
  | t (t : T) | m (k : Nat)
/-- a thing of the store -/
inductive MO where
  | lst (ts : List T) | ins (c : Str) (ns : List Str) (ds : List D) | frz (t : T) | dead
/-- an exception: its class, its attributes -/
structure Xn where
  c : Str
  ns : List Str
  ts : List T

/-- all that was known stays -/
def Ex (H H' : Hp) : Prop := ∀ a o, H a = some o → H' a = some o
theorem Ex.refl (H : Hp) : Ex H H := fun _ _ h => h
theorem Ex.trans {A B C : Hp} (a : Ex A B) (b : Ex B C) : Ex A C := fun x o h => b x o (a x o h)
theorem Ex.new {H : Hp} {p : Addr} {o : HO} (h : H p = none) : Ex H (upd H p o) := fun a u e => by
  rw [upd_ne (ne_of_none e h)]; exact e
theorem Ex.free {H H' : Hp} (e : Ex H H') {a : Addr} (h : H' a = none) : H a = none := by
  cases q : H a with
  | none => rfl
  | some o => rw [e a o q] at h; cases h
theorem Ex.upd2 {I H : Hp} {p : Addr} {o : HO} (e : Ex I H) : Ex (upd I p o) (upd H p o) := fun a u h => by
  unfold upd at h ⊢
  split
  · rename_i q; rw [if_pos q] at h; exact h
  · rename_i q; rw [if_neg q] at h; exact e a u h
theorem sqL_ex {K : PySem.W.Frag} {H H' : Hp} {a : Addr} {xs : List V} (e : Ex H H') (h : SqL K H a xs) : SqL K H' a xs := by
  rcases h with (h | ⟨o, h⟩) | h
  · exact .inl (.inl (e _ _ h))
  · exact .inl (.inr ⟨o, e _ _ h⟩)
  · exact .inr h
theorem sqT_ex {K : PySem.W.Frag} {H H' : Hp} {a : Addr} {xs : List V} (e : Ex H H') (h : SqT K H a xs) : SqT K H' a xs := by
  rcases h with (h | ⟨o, h⟩) | h
  · exact .inl (.inl (e _ _ h))
  · exact .inl (.inr ⟨o, e _ _ h⟩)
  · exact .inr h

/-- a tuple: made, or of the module -/
def SqU (K : PySem.W.Frag) (H : Hp) (a : Addr) (xs : List V) : Prop :=
  H a = some (.tup xs) ∨ ∃ (o : Obj) (its : Array Value) (n : Nat), K.lookup a = some o ∧ o.cls = .type "tuple" ∧ o.data = .seq its n ∧ its.size ≤ sizeLine ∧ Vals xs its.toList
theorem SqU.t {K : PySem.W.Frag} {H : Hp} {a : Addr} {xs : List V} (h : SqU K H a xs) : SqT K H a xs := h.imp .inl id
theorem SqU.ex {K : PySem.W.Frag} {H H' : Hp} {a : Addr} {xs : List V} (e : Ex H H') (h : SqU K H a xs) : SqU K H' a xs := h.imp (e _ _) id
/-- the class that a name of the module names -/
def cmOf (mg : Str → Option Value) (c : Str) : Addr := match mg c with
  | some (.ref a) => a
  | _ => 0

mutual
/-- the value v is the tree, over what never changes -/
def RepT (K : PySem.W.Frag) (cm : Str → Addr) (I : Hp) : T → V → Prop
  | .non, v => v = .non
  | .bl b, v => v = .bl b
  | .int i, v => v = .int i
  | .str s, v => v = .str s
  | .ty n, v => v = .ty n
  | .glo a, v => v = .ref a
  | .cls c, v => v = .ref (cm c)
  | .scr ns, v => ∃ a, v = .ref a ∧ SqL K I a (ns.map V.int)
  | .lst ts, v => ∃ a xs, v = .ref a ∧ I a = some (.lst xs) ∧ RepTL K cm I ts xs
  | .tup ts, v => ∃ a xs, v = .ref a ∧ SqU K I a xs ∧ RepTL K cm I ts xs
  | .ins c ns ts, v => ∃ a dx xs, v = .ref a ∧ I a = some (.ins (cm c) dx (ns.zip xs)) ∧ ns.length = xs.length ∧ RepTL K cm I ts xs
def RepTL (K : PySem.W.Frag) (cm : Str → Addr) (I : Hp) : List T → List V → Prop
  | [], xs => xs = []
  | t :: ts, xs => ∃ x r, xs = x :: r ∧ RepT K cm I t x ∧ RepTL K cm I ts r
end

section
variable {K : PySem.W.Frag} {cm : Str → Addr} {I I' : Hp}
mutual
theorem RepT.mono (e : Ex I I') : ∀ (t : T) (v : V), RepT K cm I t v → RepT K cm I' t v
  | .non, v, h => h
  | .bl _, v, h => h
  | .int _, v, h => h
  | .str _, v, h => h
  | .ty _, v, h => h
  | .glo _, v, h => h
  | .cls _, v, h => h
  | .scr ns, v, h => by
    unfold RepT at h ⊢
    obtain ⟨a, h1, h2⟩ := h
    exact ⟨a, h1, sqL_ex e h2⟩
  | .lst ts, v, h => by
    unfold RepT at h ⊢
    obtain ⟨a, xs, h1, h2, h3⟩ := h
    exact ⟨a, xs, h1, e _ _ h2, RepTL.mono e ts xs h3⟩
  | .tup ts, v, h => by
    unfold RepT at h ⊢
    obtain ⟨a, xs, h1, h2, h3⟩ := h
    exact ⟨a, xs, h1, h2.ex e, RepTL.mono e ts xs h3⟩
  | .ins c ns ts, v, h => by
    unfold RepT at h ⊢
    obtain ⟨a, dx, xs, h1, h2, h3, h4⟩ := h
    exact ⟨a, dx, xs, h1, e _ _ h2, h3, RepTL.mono e ts xs h4⟩
theorem RepTL.mono (e : Ex I I') : ∀ (ts : List T) (xs : List V), RepTL K cm I ts xs → RepTL K cm I' ts xs
  | [], xs, h => h
  | t :: ts, xs, h => by
    unfold RepTL at h ⊢
    obtain ⟨x, r, h1, h2, h3⟩ := h
    exact ⟨x, r, h1, RepT.mono e t x h2, RepTL.mono e ts r h3⟩
end
theorem RepTL.nil : RepTL K cm I [] [] := by unfold RepTL; rfl
theorem RepTL.cons {t : T} {ts : List T} {x : V} {xs : List V} (h : RepT K cm I t x) (r : RepTL K cm I ts xs) : RepTL K cm I (t :: ts) (x :: xs) := by
  unfold RepTL; exact ⟨x, xs, rfl, h, r⟩
theorem RepTL.length : ∀ {ts : List T} {xs : List V}, RepTL K cm I ts xs → ts.length = xs.length
  | [], xs, h => by unfold RepTL at h; subst h; rfl
  | t :: ts, xs, h => by
    unfold RepTL at h
    obtain ⟨x, r, rfl, _, h3⟩ := h
    simp [RepTL.length h3]
theorem RepTL.append : ∀ {ts us : List T} {xs ys : List V}, RepTL K cm I ts xs → RepTL K cm I us ys → RepTL K cm I (ts ++ us) (xs ++ ys)
  | [], us, xs, ys, h, g => by unfold RepTL at h; subst h; exact g
  | t :: ts, us, xs, ys, h, g => by
    unfold RepTL at h
    obtain ⟨x, r, rfl, h2, h3⟩ := h
    exact RepTL.cons h2 (RepTL.append h3 g)
theorem RepTL.get : ∀ {ts : List T} {xs : List V} {i : Nat} {t : T}, RepTL K cm I ts xs → ts[i]? = some t → ∃ x, xs[i]? = some x ∧ RepT K cm I t x
  | [], xs, i, t, h, e => by simp at e
  | u :: ts, xs, 0, t, h, e => by
    unfold RepTL at h
    obtain ⟨x, r, rfl, h2, h3⟩ := h
    simp at e; subst e
    exact ⟨x, rfl, h2⟩
  | u :: ts, xs, i + 1, t, h, e => by
    unfold RepTL at h
    obtain ⟨x, r, rfl, h2, h3⟩ := h
    obtain ⟨y, h4, h5⟩ := RepTL.get (i := i) h3 (by simpa using e)
    exact ⟨y, by simpa using h4, h5⟩
theorem RepTL.getV : ∀ {ts : List T} {xs : List V} {i : Nat} {x : V}, RepTL K cm I ts xs → xs[i]? = some x → ∃ t, ts[i]? = some t ∧ RepT K cm I t x := by
  intro ts xs i x h e
  have hl := h.length
  have hi : i < ts.length := by
    have := (List.getElem?_eq_some_iff.mp e).1; omega
  obtain ⟨y, h1, h2⟩ := h.get (List.getElem?_eq_getElem hi)
  rw [e] at h1; cases h1
  exact ⟨_, List.getElem?_eq_getElem hi, h2⟩
theorem RepTL.set : ∀ {ts : List T} {xs : List V} {i : Nat} {t : T} {x : V}, RepTL K cm I ts xs → RepT K cm I t x → RepTL K cm I (ts.set i t) (xs.set i x)
  | [], xs, i, t, x, h, g => by unfold RepTL at h; subst h; exact RepTL.nil
  | u :: ts, xs, 0, t, x, h, g => by
    unfold RepTL at h
    obtain ⟨y, r, rfl, h2, h3⟩ := h
    exact RepTL.cons g h3
  | u :: ts, xs, i + 1, t, x, h, g => by
    unfold RepTL at h
    obtain ⟨y, r, rfl, h2, h3⟩ := h
    exact RepTL.cons h2 (RepTL.set h3 g)
theorem RepTL.take : ∀ {ts : List T} {xs : List V} (n : Nat), RepTL K cm I ts xs → RepTL K cm I (ts.take n) (xs.take n)
  | ts, xs, 0, h => by simp; exact RepTL.nil
  | [], xs, n + 1, h => by unfold RepTL at h; subst h; exact RepTL.nil
  | t :: ts, xs, n + 1, h => by
    unfold RepTL at h
    obtain ⟨y, r, rfl, h2, h3⟩ := h
    exact RepTL.cons h2 (RepTL.take n h3)
theorem RepTL.drop : ∀ {ts : List T} {xs : List V} (n : Nat), RepTL K cm I ts xs → RepTL K cm I (ts.drop n) (xs.drop n)
  | ts, xs, 0, h => by simpa using h
  | [], xs, n + 1, h => by unfold RepTL at h; subst h; exact RepTL.nil
  | t :: ts, xs, n + 1, h => by
    unfold RepTL at h
    obtain ⟨y, r, rfl, h2, h3⟩ := h
    exact RepTL.drop n h3
theorem RepTL.ints : ∀ (ns : List Int), RepTL K cm I (ns.map T.int) (ns.map V.int)
  | [] => RepTL.nil
  | n :: ns => RepTL.cons (by unfold RepT; rfl) (RepTL.ints ns)

/-- a value at n things of the store, which stand where μ says -/
def RepD (K : PySem.W.Frag) (cm : Str → Addr) (μ : Nat → Addr) (I : Hp) (n : Nat) : D → V → Prop
  | .t t, v => RepT K cm I t v
  | .m k, v => k < n ∧ v = .ref (μ k)
def RepDL (K : PySem.W.Frag) (cm : Str → Addr) (μ : Nat → Addr) (I : Hp) (n : Nat) : List D → List V → Prop
  | [], xs => xs = []
  | d :: ds, xs => ∃ x r, xs = x :: r ∧ RepD K cm μ I n d x ∧ RepDL K cm μ I n ds r
/-- more is known, more stands -/
structure Gr (μ : Nat → Addr) (I : Hp) (n : Nat) (μ' : Nat → Addr) (I' : Hp) (n' : Nat) : Prop where
  ag : ∀ k, k < n → μ' k = μ k
  le : n ≤ n'
  ex : Ex I I'
variable {μ μ' μ'' : Nat → Addr} {n n' n'' : Nat} {I'' : Hp}
theorem Gr.refl : Gr μ I n μ I n := ⟨fun _ _ => rfl, Nat.le_refl _, Ex.refl _⟩
theorem Gr.trans (a : Gr μ I n μ' I' n') (b : Gr μ' I' n' μ'' I'' n'') : Gr μ I n μ'' I'' n'' :=
  ⟨fun k h => (b.ag k (Nat.lt_of_lt_of_le h a.le)).trans (a.ag k h), Nat.le_trans a.le b.le, a.ex.trans b.ex⟩
theorem RepD.mono (g : Gr μ I n μ' I' n') : ∀ {d : D} {v : V}, RepD K cm μ I n d v → RepD K cm μ' I' n' d v
  | .t t, v, h => RepT.mono g.ex t v h
  | .m k, v, h => ⟨Nat.lt_of_lt_of_le h.1 g.le, by rw [g.ag k h.1]; exact h.2⟩
theorem RepDL.mono (g : Gr μ I n μ' I' n') : ∀ {ds : List D} {xs : List V}, RepDL K cm μ I n ds xs → RepDL K cm μ' I' n' ds xs
  | [], xs, h => h
  | d :: ds, xs, h => by
    unfold RepDL at h ⊢
    obtain ⟨x, r, h1, h2, h3⟩ := h
    exact ⟨x, r, h1, h2.mono g, h3.mono g⟩
theorem RepDL.length : ∀ {ds : List D} {xs : List V}, RepDL K cm μ I n ds xs → ds.length = xs.length
  | [], xs, h => by unfold RepDL at h; subst h; rfl
  | t :: ts, xs, h => by
    unfold RepDL at h
    obtain ⟨x, r, rfl, _, h3⟩ := h
    simp [RepDL.length h3]
theorem RepDL.nil : RepDL K cm μ I n [] [] := by unfold RepDL; rfl
theorem RepDL.cons {d : D} {ds : List D} {x : V} {xs : List V} (h : RepD K cm μ I n d x) (r : RepDL K cm μ I n ds xs) : RepDL K cm μ I n (d :: ds) (x :: xs) := by
  unfold RepDL; exact ⟨x, xs, rfl, h, r⟩

/-- a thing of the store, as it stands at a -/
def MRep (K : PySem.W.Frag) (cm : Str → Addr) (μ : Nat → Addr) (I : Hp) (n : Nat) (H : Hp) (a : Addr) : MO → Prop
  | .lst ts => I a = none ∧ ∃ xs, H a = some (.lst xs) ∧ RepTL K cm I ts xs
  | .ins c ns ds => I a = none ∧ ∃ dx xs, H a = some (.ins (cm c) dx (ns.zip xs)) ∧ ns.length = xs.length ∧ RepDL K cm μ I n ds xs
  | .frz t => RepT K cm I t (.ref a)
  | .dead => I a = none
structure Sim (K : PySem.W.Frag) (cm : Str → Addr) (μ : Nat → Addr) (I : Hp) (M : List MO) (H : Hp) : Prop where
  sub : Ex I H
  inj : ∀ i j, i < M.length → j < M.length → μ i = μ j → i = j
  tr : ∀ k, k < M.length → ∃ o, H (μ k) = some o
  obj : ∀ k o, M[k]? = some o → MRep K cm μ I M.length H (μ k) o
/-- from one state to a later one -/
structure Step (K : PySem.W.Frag) (cm : Str → Addr) (μ : Nat → Addr) (I : Hp) (M : List MO) (H : Hp) (μ' : Nat → Addr) (I' : Hp) (M' : List MO) (H' : Hp) : Prop where
  gr : Gr μ I M.length μ' I' M'.length
  sim : Sim K cm μ' I' M' H'
  fr : ∀ a o, H a = some o → (∀ k, k < M.length → a ≠ μ k) → H' a = some o
  nf : ∀ a o, H a = some o → I a = none → (∀ k, k < M.length → a ≠ μ k) → I' a = none
  fresh : ∀ k, M.length ≤ k → k < M'.length → H (μ' k) = none
variable {M M' M'' : List MO} {H H' H'' : Hp}
theorem Step.refl (s : Sim K cm μ I M H) : Step K cm μ I M H μ I M H :=
  ⟨Gr.refl, s, fun _ _ h _ => h, fun _ _ _ h _ => h, fun k h1 h2 => absurd (Nat.lt_of_lt_of_le h2 h1) (Nat.lt_irrefl _)⟩
theorem Step.trans (a : Step K cm μ I M H μ' I' M' H') (b : Step K cm μ' I' M' H' μ'' I'' M'' H'') : Step K cm μ I M H μ'' I'' M'' H'' := by
  have out : ∀ c o, H c = some o → (∀ k, k < M.length → c ≠ μ k) → ∀ k, k < M'.length → c ≠ μ' k := fun c o h1 h2 k hk => by
    by_cases q : k < M.length
    · rw [a.gr.ag k q]; exact h2 k q
    · intro e
      have := a.fresh k (Nat.le_of_not_lt q) hk
      rw [← e, h1] at this; cases this
  refine ⟨a.gr.trans b.gr, b.sim, fun c o h1 h2 => b.fr c o (a.fr c o h1 h2) (out c o h1 h2), fun c o h1 h2 h3 => b.nf c o (a.fr c o h1 h3) (a.nf c o h1 h2 h3) (out c o h1 h3), fun k h1 h2 => ?_⟩
  by_cases q : k < M'.length
  · rw [b.gr.ag k q]; exact a.fresh k h1 q
  · have q1 := b.fresh k (Nat.le_of_not_lt q) h2
    cases e : H (μ'' k) with
    | none => rfl
    | some o =>
      by_cases w : ∀ j, j < M.length → μ'' k ≠ μ j
      · rw [a.fr _ o e w] at q1; cases q1
      · obtain ⟨j, hj⟩ := Classical.not_forall.mp w
        obtain ⟨hj1, hj2⟩ := Classical.not_imp.mp hj
        have hj2 := Classical.not_not.mp hj2
        obtain ⟨o', ho⟩ := a.sim.tr j (Nat.lt_of_lt_of_le hj1 a.gr.le)
        rw [a.gr.ag j hj1, ← hj2, q1] at ho; cases ho
end

/-! ### results -/
inductive Res (α : Type) where
  | ok (a : α) (M : List MO) | exc (x : Xn) (M : List MO) | fail
def Res.bind {α β : Type} (r : Res α) (f : α → List MO → Res β) : Res β := match r with
  | .ok a M => f a M
  | .exc x M => .exc x M
  | .fail => .fail
abbrev Sl := List (Option D)
abbrev Fn (α : Type) := Sl → List MO → Res α
abbrev FE := Fn D

section
variable (K : PySem.W.Frag) (cm : Str → Addr)
/-- an exception as it lies -/
def RepX (I : Hp) (H : Hp) (x : Xn) (e : Value) (d : Option Addr) : Prop := e = .ref (cm x.c) ∧ ∃ dx xs, d = some dx ∧ H dx = some (.xd (x.ns.zip xs)) ∧ x.ns.length = xs.length ∧ RepTL K cm I x.ts xs
abbrev Rl (α β : Type) := (Nat → Addr) → Hp → Nat → α → β → Prop
def Post {α β : Type} (R : Rl α β) (μ : Nat → Addr) (I : Hp) (M : List MO) (H : Hp) (W : XK) (r : Res α) (Q : β → Hp → Prop) : Prop := match r with
  | .ok a M' => ∀ μ' I' H' b, Step K cm μ I M H μ' I' M' H' → R μ' I' M'.length a b → Q b H'
  | .exc x M' => ∀ μ' I' H' e d, Step K cm μ I M H μ' I' M' H' → RepX K cm I' H' x e d → W e d H'
  | .fail => False
def RD : Rl D V := fun μ I n d v => RepD K cm μ I n d v
def RL : Rl (List D) (List V) := fun μ I n d v => RepDL K cm μ I n d v
def RB : Rl Bool Bool := fun _ _ _ a b => a = b
def RO : Rl (Option Int) (Option Int) := fun _ _ _ a b => a = b
def RepS (μ : Nat → Addr) (I : Hp) (n : Nat) (sl : List (Option D)) (σ : List (Option V)) : Prop := σ.length = sl.length ∧ ∀ (i : Nat) (d : D), sl[i]? = some (some d) → ∃ v : V, σ[i]? = some (some v) ∧ RepD K cm μ I n d v
/-- wishes about exceptions by the slots -/
abbrev WX := Value → Option Addr → L2.St → Hp → Prop
/-- the reading of a function of the slots and the store -/
def rd {α β : Type} (W : WX) (R : Rl α β) (F : Fn α) : L2.St → Hp → (β → Hp → Prop) → Prop := fun σ H Q =>
  ∃ μ I sl M, Sim K cm μ I M H ∧ RepS K cm μ I M.length sl σ ∧ Post K cm R μ I M H (fun e d H' => W e d σ H') (F sl M) Q
end
section
variable {K : PySem.W.Frag} {cm : Str → Addr} {μ μ' : Nat → Addr} {I I' : Hp} {M M' : List MO} {H H' : Hp} {n n' : Nat}
theorem RepS.mono (g : Gr μ I n μ' I' n') {sl : Sl} {σ : L2.St} (h : RepS K cm μ I n sl σ) : RepS K cm μ' I' n' sl σ :=
  ⟨h.1, fun i d e => let ⟨v, h1, h2⟩ := h.2 i d e; ⟨v, h1, h2.mono g⟩⟩
theorem RepS.set {sl : Sl} {σ : L2.St} (h : RepS K cm μ I n sl σ) (i : Nat) {d : D} {v : V} (r : RepD K cm μ I n d v) : RepS K cm μ I n (sl.set i (some d)) (σ.set i (some v)) := by
  refine ⟨by simp [h.1], fun j e q => ?_⟩
  by_cases hj : i = j
  · subst hj
    by_cases hi : i < sl.length
    · rw [List.getElem?_set_self hi] at q
      cases q
      exact ⟨v, List.getElem?_set_self (by rw [h.1]; exact hi), r⟩
    · rw [List.getElem?_eq_none (by simp; omega)] at q; cases q
  · rw [List.getElem?_set_ne hj] at q
    rw [List.getElem?_set_ne hj]
    exact h.2 j e q
variable {α β γ δ : Type} {R : Rl α β} {R' : Rl γ δ} {W : XK} {Q : β → Hp → Prop}
theorem Post.step {r : Res α} (s : Step K cm μ I M H μ' I' M' H') (p : Post K cm R μ I M H W r Q) : Post K cm R μ' I' M' H' W r Q := by
  cases r with
  | ok a M1 => exact fun μ1 I1 H1 b st h => p μ1 I1 H1 b (s.trans st) h
  | exc x M1 => exact fun μ1 I1 H1 e d st h => p μ1 I1 H1 e d (s.trans st) h
  | fail => exact p
theorem Post.here {a : α} {b : β} (s : Sim K cm μ I M H) (p : Post K cm R μ I M H W (.ok a M) Q) (h : R μ I M.length a b) : Q b H := p μ I H b (Step.refl s) h
theorem Post.imp {r : Res α} {Q' : β → Hp → Prop} (p : Post K cm R μ I M H W r Q) (h : ∀ b H', Q b H' → Q' b H') : Post K cm R μ I M H W r Q' := by
  cases r with
  | ok a M1 => exact fun μ1 I1 H1 b st q => h _ _ (p μ1 I1 H1 b st q)
  | exc x M1 => exact p
  | fail => exact p
/-- a part is done, the rest is to come; C: what is carried over -/
theorem Post.bind {r : Res α} {f : α → List MO → Res γ} {Q' : δ → Hp → Prop} (p : Post K cm R' μ I M H W (r.bind f) Q') :
    Post K cm R μ I M H W r (fun b H1 => ∃ μ1 I1 M1 a, Step K cm μ I M H μ1 I1 M1 H1 ∧ R μ1 I1 M1.length a b ∧ Post K cm R' μ1 I1 M1 H1 W (f a M1) Q') := by
  cases r with
  | ok a M1 => exact fun μ1 I1 H1 b st h => ⟨μ1, I1, M1, a, st, h, p.step st⟩
  | exc x M1 => exact p
  | fail => exact p
end
end Bm

namespace Bm
open PySem L2

/-! ### pure steps: only new things -/
section
variable (K : PySem.W.Frag) (cm : Str → Addr)
structure StepT (I H I' H' : Hp) : Prop where
  ii : Ex I I'
  sub : Ex I' H'
  hh : Ex H H'
  nf : ∀ a o, H a = some o → I a = none → I' a = none
def Alloc (I H : Hp) (c : T) (Q : VK) : Prop := ∀ I' H' v, StepT I H I' H' → RepT K cm I' c v → Q v H'
def AllocF (I H : Hp) (ts : List T) (Q : VK) : Prop := ∀ I' H' p xs, StepT I H I' H' → H p = none → I' p = none → H' p = some (.lst xs) → RepTL K cm I' ts xs → Q (.ref p) H'
end
theorem StepT.refl {I H : Hp} (s : Ex I H) : StepT I H I H := ⟨Ex.refl _, s, Ex.refl _, fun _ _ _ h => h⟩
theorem StepT.trans {I H I' H' I'' H'' : Hp} (a : StepT I H I' H') (b : StepT I' H' I'' H'') : StepT I H I'' H'' :=
  ⟨a.ii.trans b.ii, b.sub, a.hh.trans b.hh, fun c o h1 h2 => b.nf c o (a.hh c o h1) (a.nf c o h1 h2)⟩
theorem StepT.new {I H : Hp} {p : Addr} {o : HO} (s : Ex I H) (h : H p = none) : StepT I H (upd I p o) (upd H p o) :=
  ⟨Ex.new (s.free h), s.upd2, Ex.new h, fun a u e n => by rw [upd_ne (ne_of_none e h)]; exact n⟩
theorem StepT.new' {I H : Hp} {p : Addr} {o : HO} (s : Ex I H) (h : H p = none) : StepT I H I (upd H p o) :=
  ⟨Ex.refl _, s.trans (Ex.new h), Ex.new h, fun _ _ _ n => n⟩

section
variable {K : PySem.W.Frag} {cm : Str → Addr} {I H I' H' : Hp} {Q : VK} {c : T} {v : V} {ts : List T} {xs : List V} {p : Addr}
theorem Alloc.val (h : Alloc K cm I H c Q) (s : Ex I H) (r : RepT K cm I c v) : Q v H := h I H v (StepT.refl s) r
theorem Alloc.lst (h : Alloc K cm I H (.lst ts) Q) (s : Ex I H) (r : RepTL K cm I ts xs) (n : H p = none) : Q (.ref p) (upd H p (.lst xs)) :=
  h _ _ _ (StepT.new s n) (by unfold RepT; exact ⟨p, xs, rfl, upd_same, RepTL.mono (Ex.new (s.free n)) _ _ r⟩)
theorem Alloc.tup (h : Alloc K cm I H (.tup ts) Q) (s : Ex I H) (r : RepTL K cm I ts xs) (n : H p = none) : Q (.ref p) (upd H p (.tup xs)) :=
  h _ _ _ (StepT.new s n) (by unfold RepT; exact ⟨p, xs, rfl, .inl upd_same, RepTL.mono (Ex.new (s.free n)) _ _ r⟩)
theorem AllocF.lst (h : AllocF K cm I H ts Q) (s : Ex I H) (r : RepTL K cm I ts xs) (n : H p = none) : Q (.ref p) (upd H p (.lst xs)) :=
  h _ _ _ _ (StepT.new' s n) n (s.free n) upd_same r
variable {μ : Nat → Addr} {M : List MO}
theorem StepT.step (t : StepT I H I' H') (s : Sim K cm μ I M H) : Step K cm μ I M H μ I' M H' := by
  refine ⟨⟨fun _ _ => rfl, Nat.le_refl _, t.ii⟩, ⟨t.sub, s.inj, fun k h => ?_, fun k o e => ?_⟩, fun a o h _ => t.hh a o h, fun a o h n _ => t.nf a o h n, fun k h1 h2 => absurd (Nat.lt_of_lt_of_le h2 h1) (Nat.lt_irrefl _)⟩
  · obtain ⟨o, e⟩ := s.tr k h
    exact ⟨o, t.hh _ _ e⟩
  · have q := s.obj k o e
    have hk : k < M.length := (List.getElem?_eq_some_iff.mp e).1
    cases o with
    | lst us =>
      obtain ⟨q1, ys, q2, q3⟩ := q
      exact ⟨t.nf _ _ q2 q1, ys, t.hh _ _ q2, RepTL.mono t.ii _ _ q3⟩
    | ins cl ns ds =>
      obtain ⟨q1, dx, ys, q2, q3, q4⟩ := q
      exact ⟨t.nf _ _ q2 q1, dx, ys, t.hh _ _ q2, q3, q4.mono ⟨fun _ _ => rfl, Nat.le_refl _, t.ii⟩⟩
    | frz u => exact RepT.mono t.ii _ _ q
    | dead =>
      obtain ⟨u, e2⟩ := s.tr k hk
      exact t.nf _ _ e2 q
theorem Post.alloc {W : XK} (p : Post K cm (RD K cm) μ I M H W (.ok (.t c) M) Q) (s : Sim K cm μ I M H) : Alloc K cm I H c Q :=
  fun I' H' v st r => p μ I' H' v (st.step s) r
/-- a new thing of the store -/
theorem Post.mnew {W : XK} {ts : List T} (p : Post K cm (RD K cm) μ I M H W (.ok (.m M.length) (M ++ [.lst ts])) Q) (s : Sim K cm μ I M H) : AllocF K cm I H ts Q :=
  fun I' H' a xs st n1 n2 h r => by
    have st1 := st.step (μ := μ) s
    have hle : ∀ k, k < M.length → (fun k => if k = M.length then a else μ k) k = μ k := fun k hk => if_neg (Nat.ne_of_lt hk)
    have ne : ∀ k, k < M.length → μ k ≠ a := fun k hk e => by
      obtain ⟨o, q⟩ := s.tr k hk
      rw [e, n1] at q; cases q
    have gr : Gr μ I M.length (fun k => if k = M.length then a else μ k) I' (M ++ [MO.lst ts]).length := ⟨hle, by simp, st.ii⟩
    have gr' : Gr μ I' M.length (fun k => if k = M.length then a else μ k) I' (M ++ [MO.lst ts]).length := ⟨hle, by simp, Ex.refl _⟩
    refine p _ I' H' (.ref a) ⟨gr, ⟨st.sub, fun i j hi hj e => ?_, fun k hk => ?_, fun k o e => ?_⟩, fun b o h1 _ => st.hh b o h1, fun b o h1 h2 _ => st.nf b o h1 h2, fun k h1 h2 => ?_⟩ ⟨by simp, by simp⟩
    · simp only [List.length_append, List.length_cons, List.length_nil] at hi hj
      have e' : (if i = M.length then a else μ i) = (if j = M.length then a else μ j) := e
      by_cases hi' : i = M.length
      · by_cases hj' : j = M.length
        · omega
        · rw [if_pos hi', if_neg hj'] at e'
          exact absurd e'.symm (ne j (by omega))
      · by_cases hj' : j = M.length
        · rw [if_neg hi', if_pos hj'] at e'
          exact absurd e' (ne i (by omega))
        · rw [if_neg hi', if_neg hj'] at e'
          exact s.inj i j (by omega) (by omega) e'
    · simp only [List.length_append, List.length_cons, List.length_nil] at hk
      by_cases hk' : k = M.length
      · exact ⟨_, by show H' (if k = M.length then a else μ k) = _; rw [if_pos hk']; exact h⟩
      · obtain ⟨o, q⟩ := s.tr k (by omega)
        exact ⟨o, by show H' (if k = M.length then a else μ k) = _; rw [if_neg hk']; exact st.hh _ _ q⟩
    · by_cases hk' : k < M.length
      · rw [List.getElem?_append_left hk'] at e
        have q := st1.sim.obj k o e
        have hμ : (if k = M.length then a else μ k) = μ k := hle k hk'
        rw [hμ]
        cases o with
        | lst us => exact q
        | ins cl ns ds =>
          obtain ⟨q1, dx, ys, q2, q3, q4⟩ := q
          exact ⟨q1, dx, ys, q2, q3, q4.mono gr'⟩
        | frz u => exact q
        | dead => exact q
      · have hk2 : k = M.length := by
          have := (List.getElem?_eq_some_iff.mp e).1
          simp at this; omega
        subst hk2
        rw [List.getElem?_append_right (Nat.le_refl _)] at e
        simp at e
        subst e
        show MRep K cm _ I' _ H' (if M.length = M.length then a else μ M.length) (.lst ts)
        rw [if_pos rfl]
        exact ⟨n2, xs, h, r⟩
    · simp only [List.length_append, List.length_cons, List.length_nil] at h2
      have hk2 : k = M.length := by omega
      show H (if k = M.length then a else μ k) = none
      rw [if_pos hk2]; exact n1
end

/-! ### peeking -/
def isSc : T → Bool
  | .non | .bl _ | .int _ | .str _ | .ty _ | .glo _ | .cls _ => true
  | _ => false
theorem RepT.sc {K : PySem.W.Frag} {cm : Str → Addr} {I I' : Hp} {t : T} {v : V} (h : isSc t = true) (r : RepT K cm I t v) : RepT K cm I' t v := by
  cases t <;> first | exact r | cases h
def pk (M : List MO) : D → Option T
  | .t t => some t
  | .m k => match M[k]? with
    | some (.lst ts) => some (.lst ts)
    | some (.frz t) => some t
    | _ => none
theorem pk_ok {K : PySem.W.Frag} {cm : Str → Addr} {μ : Nat → Addr} {I H : Hp} {M : List MO} (s : Sim K cm μ I M H) : ∀ {d : D} {v : V} {t : T}, RepD K cm μ I M.length d v → pk M d = some t → RepT K cm H t v
  | .t t', v, t, r, e => by
    simp [pk] at e; subst e
    exact RepT.mono s.sub _ _ r
  | .m k, v, t, r, e => by
    obtain ⟨_, rfl⟩ := r
    simp only [pk] at e
    split at e
    · rename_i ts q
      cases e
      obtain ⟨_, xs, h2, h3⟩ := s.obj k _ q
      unfold RepT
      exact ⟨_, xs, rfl, h2, RepTL.mono s.sub _ _ h3⟩
    · rename_i t' q
      cases e
      exact RepT.mono s.sub _ _ (s.obj k _ q)
    · cases e
def pkL (M : List MO) : List D → Option (List T)
  | [] => some []
  | d :: ds => match pk M d, pkL M ds with
    | some t, some ts => some (t :: ts)
    | _, _ => none
theorem pkL_ok {K : PySem.W.Frag} {cm : Str → Addr} {μ : Nat → Addr} {I H : Hp} {M : List MO} (s : Sim K cm μ I M H) : ∀ {ds : List D} {vs : List V} {ts : List T}, RepDL K cm μ I M.length ds vs → pkL M ds = some ts → RepTL K cm H ts vs
  | [], vs, ts, r, e => by
    simp [pkL] at e; subst e
    unfold RepDL at r; subst r; exact RepTL.nil
  | d :: ds, vs, ts, r, e => by
    unfold RepDL at r
    obtain ⟨x, rr, rfl, h1, h2⟩ := r
    unfold pkL at e
    split at e
    · rename_i t ts' e1 e2
      cases e
      exact RepTL.cons (pk_ok s h1 e1) (pkL_ok s h2 e2)
    · cases e
def allT : List D → Option (List T)
  | [] => some []
  | .t t :: ds => match allT ds with
    | some ts => some (t :: ts)
    | none => none
  | _ => none
theorem allT_ok {K : PySem.W.Frag} {cm : Str → Addr} {μ : Nat → Addr} {I : Hp} {n : Nat} : ∀ {ds : List D} {vs : List V} {ts : List T}, RepDL K cm μ I n ds vs → allT ds = some ts → RepTL K cm I ts vs
  | [], vs, ts, r, e => by
    simp [allT] at e; subst e
    unfold RepDL at r; subst r; exact RepTL.nil
  | .t t :: ds, vs, ts, r, e => by
    unfold RepDL at r
    obtain ⟨x, rr, rfl, h1, h2⟩ := r
    unfold allT at e
    split at e
    · rename_i ts' e2
      cases e
      exact RepTL.cons h1 (allT_ok h2 e2)
    · cases e
  | .m k :: ds, vs, ts, r, e => by simp [allT] at e

/-! ### freezing -/
def allDT : List D → Option (List T) := allT
def frz1 (M : List MO) : D → Option (T × List MO)
  | .t t => some (t, M)
  | .m k => match M[k]? with
    | some (.lst ts) => some (.lst ts, M.set k (.frz (.lst ts)))
    | some (.frz t) => some (t, M)
    | some (.ins c ns ds) => match allT ds with
      | some ts => some (.ins c ns ts, M.set k (.frz (.ins c ns ts)))
      | none => none
    | _ => none
section
variable {K : PySem.W.Frag} {cm : Str → Addr} {μ : Nat → Addr} {I H : Hp} {M M' : List MO}
theorem RepD.ofT {n : Nat} {t : T} {v : V} (h : RepT K cm I t v) : RepD K cm μ I n (.t t) v := h
/-- the thing at k is known from now on -/
theorem frz_step (s : Sim K cm μ I M H) {k : Nat} {o : MO} {u : HO} {t : T} (e : M[k]? = some o) (hI : I (μ k) = none) (hH : H (μ k) = some u) (r : RepT K cm (upd I (μ k) u) t (.ref (μ k))) :
    Step K cm μ I M H μ (upd I (μ k) u) (M.set k (.frz t)) H := by
  have hk : k < M.length := (List.getElem?_eq_some_iff.mp e).1
  have ex : Ex I (upd I (μ k) u) := Ex.new hI
  have gr : Gr μ I M.length μ (upd I (μ k) u) (M.set k (.frz t)).length := ⟨fun _ _ => rfl, by simp, ex⟩
  refine ⟨gr, ⟨fun a w h => ?_, by simpa using s.inj, by simpa using s.tr, fun j w ej => ?_⟩, fun _ _ h _ => h, fun a w h n nk => ?_, fun j h1 h2 => by simp at h2; omega⟩
  · unfold upd at h
    split at h
    · rename_i q; cases h; rw [q]; exact hH
    · exact s.sub a w h
  · by_cases hj : k = j
    · subst hj
      rw [List.getElem?_set_self hk] at ej
      cases ej
      exact r
    · rw [List.getElem?_set_ne hj] at ej
      have hjl : j < M.length := (List.getElem?_eq_some_iff.mp ej).1
      have nm : μ j ≠ μ k := fun q => hj (s.inj k j hk hjl q.symm)
      have q := s.obj j w ej
      cases w with
      | lst us =>
        obtain ⟨q1, ys, q2, q3⟩ := q
        exact ⟨by rw [upd_ne nm]; exact q1, ys, q2, RepTL.mono ex _ _ q3⟩
      | ins cl ns ds =>
        obtain ⟨q1, dx, ys, q2, q3, q4⟩ := q
        exact ⟨by rw [upd_ne nm]; exact q1, dx, ys, q2, q3, q4.mono gr⟩
      | frz w => exact RepT.mono ex _ _ q
      | dead => exact (by rw [upd_ne nm]; exact q : upd I (μ k) u (μ j) = none)
  · rw [upd_ne (nk k hk)]; exact n
theorem frz1_ok (s : Sim K cm μ I M H) : ∀ {d : D} {v : V} {t : T}, RepD K cm μ I M.length d v → frz1 M d = some (t, M') → ∃ I', Step K cm μ I M H μ I' M' H ∧ RepT K cm I' t v
  | .t t', v, t, r, e => by
    simp [frz1] at e
    obtain ⟨rfl, rfl⟩ := e
    exact ⟨I, Step.refl s, r⟩
  | .m k, v, t, r, e => by
    obtain ⟨_, rfl⟩ := r
    simp only [frz1] at e
    split at e
    · rename_i ts q
      simp at e
      obtain ⟨rfl, rfl⟩ := e
      obtain ⟨h1, xs, h2, h3⟩ := s.obj k _ q
      have rr : RepT K cm (upd I (μ k) (.lst xs)) (.lst ts) (.ref (μ k)) := by
        unfold RepT
        exact ⟨_, xs, rfl, upd_same, RepTL.mono (Ex.new h1) _ _ h3⟩
      exact ⟨_, frz_step s q h1 h2 rr, rr⟩
    · rename_i t' q
      simp at e
      obtain ⟨rfl, rfl⟩ := e
      exact ⟨I, Step.refl s, s.obj k _ q⟩
    · rename_i c ns ds q
      split at e
      · rename_i ts e2
        simp at e
        obtain ⟨rfl, rfl⟩ := e
        obtain ⟨h1, dx, xs, h2, h3, h4⟩ := s.obj k _ q
        have rr : RepT K cm (upd I (μ k) (.ins (cm c) dx (ns.zip xs))) (.ins c ns ts) (.ref (μ k)) := by
          unfold RepT
          exact ⟨_, dx, xs, rfl, upd_same, h3, RepTL.mono (Ex.new h1) _ _ (allT_ok h4 e2)⟩
        exact ⟨_, frz_step s q h1 h2 rr, rr⟩
      · cases e
    · cases e
def frzL (M : List MO) : List D → Option (List T × List MO)
  | [] => some ([], M)
  | d :: ds => match frz1 M d with
    | some (t, M1) => match frzL M1 ds with
      | some (ts, M2) => some (t :: ts, M2)
      | none => none
    | none => none
theorem frzL_ok : ∀ {ds : List D} {M M' : List MO} {I : Hp} {vs : List V} {ts : List T}, Sim K cm μ I M H → RepDL K cm μ I M.length ds vs → frzL M ds = some (ts, M') → ∃ I', Step K cm μ I M H μ I' M' H ∧ RepTL K cm I' ts vs
  | [], M, M', I, vs, ts, s, r, e => by
    simp [frzL] at e
    obtain ⟨rfl, rfl⟩ := e
    unfold RepDL at r; subst r
    exact ⟨I, Step.refl s, RepTL.nil⟩
  | d :: ds, M, M', I, vs, ts, s, r, e => by
    unfold RepDL at r
    obtain ⟨x, rr, rfl, h1, h2⟩ := r
    unfold frzL at e
    split at e
    · rename_i t M1 e1
      split at e
      · rename_i ts' M2 e2
        simp at e
        obtain ⟨rfl, rfl⟩ := e
        obtain ⟨I1, s1, r1⟩ := frz1_ok s h1 e1
        obtain ⟨I2, s2, r2⟩ := frzL_ok s1.sim (h2.mono s1.gr) e2
        exact ⟨I2, s1.trans s2, RepTL.cons (RepT.mono s2.gr.ex _ _ r1) r2⟩
      · cases e
    · cases e
end

/-! ### the judgements -/
theorem _root_.L2.PE.imp {X : Cx} {e : Expr} {t t' : TE} (h : PE X e t) (i : ∀ σ H Q, t' σ H Q → t σ H Q) : PE X e t' := ⟨fun pins s σ H Q I q => h.run pins s σ H Q I (i _ _ _ q)⟩
theorem _root_.L2.PT.imp {X : Cx} {e : Expr} {t t' : TT} (h : PT X e t) (i : ∀ σ H Q, t' σ H Q → t σ H Q) : PT X e t' := ⟨fun pins s σ H Q I q => h.run pins s σ H Q I (i _ _ _ q)⟩
theorem _root_.L2.PW.imp {X : Cx} {e : Expr} {t t' : TT} (h : PW X e t) (i : ∀ σ H Q, t' σ H Q → t σ H Q) : PW X e t' := ⟨fun wh pins s σ H Q I q => h.run wh pins s σ H Q I (i _ _ _ q)⟩
theorem _root_.L2.PA.imp {X : Cx} {e : List Expr} {t t' : TA} (h : PA X e t) (i : ∀ σ H Q, t' σ H Q → t σ H Q) : PA X e t' := ⟨fun pos pins s σ H Q I q => h.run pos pins s σ H Q I (i _ _ _ q)⟩
theorem _root_.L2.PS.imp {X : Cx} {e : Stmt} {t t' : TS} (h : PS X e t) (i : ∀ D σ H, t' D σ H → t D σ H) : PS X e t' := ⟨fun pins s σ H D I q => h.run pins s σ H D I (i _ _ _ q)⟩
theorem _root_.L2.PSs.imp {X : Cx} {e : List Stmt} {t t' : TS} (h : PSs X e t) (i : ∀ D σ H, t' D σ H → t D σ H) : PSs X e t' := ⟨fun pins s σ H D I q => h.run pins s σ H D I (i _ _ _ q)⟩

abbrev rdE (X : Cx) (W : WX) (F : FE) : TE := rd X.K (cmOf X.mg) W (RD X.K (cmOf X.mg)) F
abbrev rdB (X : Cx) (W : WX) (F : Fn Bool) : TT := rd X.K (cmOf X.mg) W RB F
abbrev rdA (X : Cx) (W : WX) (F : Fn (List D)) : TA := rd X.K (cmOf X.mg) W (RL X.K (cmOf X.mg)) F
abbrev rdO (X : Cx) (W : WX) (F : Fn (Option Int)) : TO := rd X.K (cmOf X.mg) W RO F
abbrev DE (X : Cx) (W : WX) (e : Expr) (F : FE) : Prop := PE X e (rdE X W F)
abbrev DT (X : Cx) (W : WX) (e : Expr) (F : Fn Bool) : Prop := PT X e (rdB X W F)
abbrev DW (X : Cx) (W : WX) (e : Expr) (F : Fn Bool) : Prop := PW X e (rdB X W F)
abbrev DA (X : Cx) (W : WX) (es : List Expr) (F : Fn (List D)) : Prop := PA X es (rdA X W F)
abbrev DO (X : Cx) (W : WX) (e : Option Expr) (F : Fn (Option Int)) : Prop := PO X e (rdO X W F)

section
variable {X : Cx} {W : WX} {e a b c : Expr} {fa fb fc F : FE} {pos : Pos}

def eVar (i : Nat) : FE := fun sl M => match sl[i]? with
  | some (some d) => .ok d M
  | _ => .fail
theorem de_var (i : Nat) {x : Str} (hN : X.N[i]? = some x := by rfl) (hv : Vis X.env.scope x := by first | exact Or.inl rfl | exact Or.inr (Or.inl rfl) | exact Or.inr (Or.inr rfl))
    (hd : (x == ("__debug__" : Str)) = false := by decide) (hcd : (x == ("__classdict__" : Str)) = false := by decide) : DE X W (.Name x pos) (eVar i) :=
  (pe_var hN hv hd hcd).imp fun σ H Q ⟨μ, I, sl, M, s, r, p⟩ => by
    unfold eVar at p
    split at p
    · rename_i d q
      obtain ⟨v, h1, h2⟩ := r.2 i d q
      exact ⟨v, h1, p.here s h2⟩
    · exact p.elim
def eC (t : T) : FE := fun _ M => .ok (.t t) M
theorem post_c {μ I M H Q} {t : T} {v : V} {Wx : XK} (s : Sim X.K (cmOf X.mg) μ I M H) (p : Post X.K (cmOf X.mg) (RD X.K (cmOf X.mg)) μ I M H Wx (.ok (.t t) M) Q) (h : RepT X.K (cmOf X.mg) I t v) : Q v H := p.here s h
theorem de_int {i : Int} {j : Nat} : DE X W (.Constant (.int i) j pos) (eC (.int i)) := pe_int.imp fun σ H Q ⟨μ, I, sl, M, s, r, p⟩ => post_c s p (by unfold RepT; rfl)
theorem de_bl {i : Bool} {j : Nat} : DE X W (.Constant (.bool i) j pos) (eC (.bl i)) := pe_bl.imp fun σ H Q ⟨μ, I, sl, M, s, r, p⟩ => post_c s p (by unfold RepT; rfl)
theorem de_non {j : Nat} : DE X W (.Constant .none j pos) (eC .non) := pe_non.imp fun σ H Q ⟨μ, I, sl, M, s, r, p⟩ => post_c s p (by unfold RepT; rfl)
theorem de_str {x : Str} {j : Nat} : DE X W (.Constant (.str x) j pos) (eC (.str x)) := pe_str.imp fun σ H Q ⟨μ, I, sl, M, s, r, p⟩ => post_c s p (by unfold RepT; rfl)
/-- a constant of the module -/
theorem de_glob {x : Str} {v : V} {u : Value} {t : T} (hg : Gl X x) (hm : X.mg x = some u) (r : RelV v u) (ht : ∀ I, RepT X.K (cmOf X.mg) I t v) (hd : (x == ("__debug__" : Str)) = false := by decide) : DE X W (.Name x pos) (eC t) :=
  (pe_glob hg hm r hd).imp fun σ H Q ⟨μ, I, sl, M, s, r, p⟩ => post_c s p (ht I)
/-- a built-in type as a value -/
theorem de_ty {x : Str} {n : String} (hg : Gl X x) (hm : X.mg x = none) (hv : bootBuiltins x = some (.type n)) (hn : x ≠ "__name__" := by decide) (hd : (x == ("__debug__" : Str)) = false := by decide) : DE X W (.Name x pos) (eC (.ty n)) :=
  (pe_bltn (v := .ty n) hg hm hv rfl hn hd).imp fun σ H Q ⟨μ, I, sl, M, s, r, p⟩ => post_c s p (by unfold RepT; rfl)

/-! ### two places -/
abbrev G2 := D → D → List MO → Res D
def e2 (g : G2) (fa fb : FE) : FE := fun sl M => (fa sl M).bind fun a M1 => (fb sl M1).bind fun b M2 => g a b M2
def DOp (K : PySem.W.Frag) (cm : Str → Addr) (r : R2) (g : G2) : Prop := ∀ μ I M H x y a b Q (Wx : XK), Sim K cm μ I M H → RepD K cm μ I M.length a x → RepD K cm μ I M.length b y → Post K cm (RD K cm) μ I M H Wx (g a b M) Q → r x y H Q
theorem tOp_of {r : R2} {g : G2} (hd : DOp X.K (cmOf X.mg) r g) {σ H Q} (h : rdE X W (e2 g fa fb) σ H Q) : tOp r (rdE X W fa) (rdE X W fb) σ H Q := by
  obtain ⟨μ, I, sl, M, s, rs, p⟩ := h
  refine ⟨μ, I, sl, M, s, rs, (Post.bind (R := RD X.K (cmOf X.mg)) p).imp fun x H1 ⟨μ1, I1, M1, a, st, ra, p1⟩ => ?_⟩
  refine ⟨μ1, I1, sl, M1, st.sim, rs.mono st.gr, (Post.bind (R := RD X.K (cmOf X.mg)) p1).imp fun y H2 ⟨μ2, I2, M2, b, st2, rb, p2⟩ => ?_⟩
  exact hd _ _ _ _ _ _ _ _ _ _ st2.sim (ra.mono st2.gr) rb p2
theorem de_op {op : Operator} {r : R2} {g : G2} (ho : OpR X (binaryOp op) r) (hd : DOp X.K (cmOf X.mg) r g) (ha : DE X W a fa) (hb : DE X W b fb) : DE X W (.BinOp a op b pos) (e2 g fa fb) :=
  (pe_op ho ha hb).imp fun _ _ _ h => tOp_of hd h
theorem de_cmp {op : CmpOp} {r : R2} {g : G2} (ho : OpR X (compareOp op) r) (hd : DOp X.K (cmOf X.mg) r g) (ha : DE X W a fa) (hb : DE X W b fb) (hm : behindInMarks op b = false) : DE X W (.Compare a [op] [b] pos) (e2 g fa fb) :=
  (pe_cmpR ho ha hb hm).imp fun _ _ _ h => tOp_of hd h
def toB : D → List MO → Res Bool
  | .t (.bl b), M => .ok b M
  | _, _ => .fail
def eB (F : FE) : Fn Bool := fun sl M => (F sl M).bind toB
theorem toB_bind {K : PySem.W.Frag} {cm : Str → Addr} {γ δ : Type} {R' : Rl γ δ} {μ I M H} {Wx : XK} {d : D} {f : Bool → List MO → Res γ} {Q : δ → Hp → Prop} (p : Post K cm R' μ I M H Wx ((toB d M).bind f) Q) :
    ∃ k, d = .t (.bl k) ∧ Post K cm R' μ I M H Wx (f k M) Q := by
  cases d with
  | m k => exact p.elim
  | t t => cases t <;> first | exact ⟨_, rfl, p⟩ | exact p.elim
theorem toB_here {K : PySem.W.Frag} {cm : Str → Addr} {μ I M H} {Wx : XK} {d : D} {Q : Bool → Hp → Prop} (p : Post K cm RB μ I M H Wx (toB d M) Q) (s : Sim K cm μ I M H) :
    ∃ k, d = .t (.bl k) ∧ Q k H := by
  cases d with
  | m k => exact p.elim
  | t t => cases t <;> first | exact ⟨_, rfl, p.here s rfl⟩ | exact p.elim
theorem tTest_of {t : TE} (hi : ∀ σ H Q, rdE X W F σ H Q → t σ H Q) {σ H Q} (h : rdB X W (eB F) σ H Q) : t σ H (fun x H' => ∃ k, x = .bl k ∧ Q k H') := by
  obtain ⟨μ, I, sl, M, s, rs, p⟩ := h
  refine hi _ _ _ ⟨μ, I, sl, M, s, rs, (Post.bind (R := RD X.K (cmOf X.mg)) p).imp fun x H1 ⟨μ1, I1, M1, a, st, ra, p1⟩ => ?_⟩
  obtain ⟨k, rfl, q⟩ := toB_here p1 st.sim
  exact ⟨k, ra, q⟩
theorem dt_cmp {op : CmpOp} {r : R2} {g : G2} (ho : OpR X (compareOp op) r) (hd : DOp X.K (cmOf X.mg) r g) (ha : DE X W a fa) (hb : DE X W b fb) (hm : behindInMarks op b = false) : DT X W (.Compare a [op] [b] pos) (eB (e2 g fa fb)) :=
  (pt_cmpR ho ha hb hm).imp fun _ _ _ h => tTest_of (fun _ _ _ q => tOp_of hd q) h
theorem dt_val (h : DE X W e F) (he : ∀ whole, isTrue e X.env whole = (do let v ← whole; standAt e.pos; holding [v] (truthy v)) := by intro _; rfl) : DT X W e (eB F) :=
  (pt_val h he).imp fun _ _ _ h => tTest_of (fun _ _ _ q => q) h
/-- a op b op' c -/
def e3 (g g' : G2) (fa fb fc : FE) : FE := fun sl M => (fa sl M).bind fun a M1 => (fb sl M1).bind fun b M2 => (g a b M2).bind fun z M3 => (toB z M3).bind fun k M4 =>
  if k then (fc sl M4).bind fun c M5 => g' b c M5 else .ok (.t (.bl false)) M4
theorem tChain_of {r r' : R2} {g g' : G2} (hd : DOp X.K (cmOf X.mg) r g) (hd' : DOp X.K (cmOf X.mg) r' g') {σ H Q} (h : rdE X W (e3 g g' fa fb fc) σ H Q) : tChain r r' (rdE X W fa) (rdE X W fb) (rdE X W fc) σ H Q := by
  obtain ⟨μ, I, sl, M, s, rs, p⟩ := h
  refine ⟨μ, I, sl, M, s, rs, (Post.bind (R := RD X.K (cmOf X.mg)) p).imp fun x H1 ⟨μ1, I1, M1, a, st, ra, p1⟩ => ?_⟩
  refine ⟨μ1, I1, sl, M1, st.sim, rs.mono st.gr, (Post.bind (R := RD X.K (cmOf X.mg)) p1).imp fun y H2 ⟨μ2, I2, M2, b, st2, rb, p2⟩ => ?_⟩
  refine hd _ _ _ _ _ _ _ _ _ _ st2.sim (ra.mono st2.gr) rb ((Post.bind (R := RD X.K (cmOf X.mg)) p2).imp fun z H3 ⟨μ3, I3, M3, d, st3, rd, p3⟩ => ?_)
  obtain ⟨k, rfl, p3'⟩ := toB_bind p3
  clear p3
  refine ⟨k, rd, ?_⟩
  cases k with
  | true =>
    rw [if_pos rfl]
    rw [if_pos rfl] at p3'
    have p3 := p3'
    have g3 := st.gr.trans (st2.gr.trans st3.gr)
    refine ⟨μ3, I3, sl, M3, st3.sim, rs.mono g3, (Post.bind (R := RD X.K (cmOf X.mg)) p3).imp fun w H4 ⟨μ4, I4, M4, c, st4, rc, p4⟩ => ?_⟩
    exact hd' _ _ _ _ _ _ _ _ _ _ st4.sim ((rb.mono st3.gr).mono st4.gr) rc p4
  | false =>
    rw [if_neg Bool.false_ne_true]
    rw [if_neg Bool.false_ne_true] at p3'
    exact p3'.here st3.sim (by unfold RD RepD RepT; rfl)
theorem de_chain {op op' : CmpOp} {r r' : R2} {g g' : G2} (ho : OpR X (compareOp op) r) (ho' : OpR X (compareOp op') r') (hd : DOp X.K (cmOf X.mg) r g) (hd' : DOp X.K (cmOf X.mg) r' g') (ha : DE X W a fa) (hb : DE X W b fb) (hc : DE X W c fc)
    (hm : lastMarks [op, op'] [b, c] = false := by with_unfolding_all rfl) : DE X W (.Compare a [op, op'] [b, c] pos) (e3 g g' fa fb fc) := (pe_chain ho ho' ha hb hc hm).imp fun _ _ _ h => tChain_of hd hd' h
theorem dt_chain {op op' : CmpOp} {r r' : R2} {g g' : G2} (ho : OpR X (compareOp op) r) (ho' : OpR X (compareOp op') r') (hd : DOp X.K (cmOf X.mg) r g) (hd' : DOp X.K (cmOf X.mg) r' g') (ha : DE X W a fa) (hb : DE X W b fb) (hc : DE X W c fc)
    (hm : lastMarks [op, op'] [b, c] = false := by with_unfolding_all rfl) : DT X W (.Compare a [op, op'] [b, c] pos) (eB (e3 g g' fa fb fc)) := (pt_chain ho ho' ha hb hc hm).imp fun _ _ _ h => tTest_of (fun _ _ _ q => tChain_of hd hd' q) h

/-! ### and, or, not -/
variable {ta tb : Fn Bool} {rest : List Expr}
def bAnd (ta tb : Fn Bool) : Fn Bool := fun sl M => (ta sl M).bind fun a M1 => if a then tb sl M1 else .ok false M1
def bOr (ta tb : Fn Bool) : Fn Bool := fun sl M => (ta sl M).bind fun a M1 => if a then .ok true M1 else tb sl M1
def bNot (ta : Fn Bool) : Fn Bool := fun sl M => (ta sl M).bind fun a M1 => .ok (!a) M1
theorem dw_and1 (h : DT X W a ta) : DW X W (.BoolOp .And [a] pos) ta := pw_and1 h
theorem dw_or1 (h : DT X W a ta) : DW X W (.BoolOp .Or [a] pos) ta := pw_or1 h
theorem dw_and (ha : DT X W a ta) (hb : DW X W (.BoolOp .And (b :: rest) pos) tb) : DW X W (.BoolOp .And (a :: b :: rest) pos) (bAnd ta tb) :=
  (pw_and ha hb).imp fun σ H Q ⟨μ, I, sl, M, s, rs, p⟩ => ⟨μ, I, sl, M, s, rs, (Post.bind (R := RB) p).imp fun x H1 ⟨μ1, I1, M1, k, st, ra, p1⟩ => by
    have ra : k = x := ra
    subst ra
    cases k with
    | true => rw [if_pos rfl] at p1; exact ⟨μ1, I1, sl, M1, st.sim, rs.mono st.gr, p1⟩
    | false => rw [if_neg Bool.false_ne_true] at p1; exact p1.here st.sim rfl⟩
theorem dw_or (ha : DT X W a ta) (hb : DW X W (.BoolOp .Or (b :: rest) pos) tb) : DW X W (.BoolOp .Or (a :: b :: rest) pos) (bOr ta tb) :=
  (pw_or ha hb).imp fun σ H Q ⟨μ, I, sl, M, s, rs, p⟩ => ⟨μ, I, sl, M, s, rs, (Post.bind (R := RB) p).imp fun x H1 ⟨μ1, I1, M1, k, st, ra, p1⟩ => by
    have ra : k = x := ra
    subst ra
    cases k with
    | true => rw [if_pos rfl] at p1; exact p1.here st.sim rfl
    | false => rw [if_neg Bool.false_ne_true] at p1; exact ⟨μ1, I1, sl, M1, st.sim, rs.mono st.gr, p1⟩⟩
theorem dt_w (h : DW X W e ta) : DT X W e ta := h.pt
theorem dt_not (ha : DT X W a ta) : DT X W (.UnaryOp .Not a pos) (bNot ta) :=
  (pt_not ha).imp fun σ H Q ⟨μ, I, sl, M, s, rs, p⟩ => ⟨μ, I, sl, M, s, rs, (Post.bind (R := RB) p).imp fun x H1 ⟨μ1, I1, M1, k, st, ra, p1⟩ => by
    have ra : k = x := ra
    subst ra
    exact p1.here st.sim rfl⟩
/-- .. as values -/
def eAnd (fa fb : FE) : FE := fun sl M => (fa sl M).bind fun a M1 => (toB a M1).bind fun k M2 => if k then fb sl M2 else .ok (.t (.bl false)) M2
def eOr (fa fb : FE) : FE := fun sl M => (fa sl M).bind fun a M1 => (toB a M1).bind fun k M2 => if k then .ok (.t (.bl true)) M2 else fb sl M2
def eNot (fa : FE) : FE := fun sl M => (fa sl M).bind fun a M1 => (toB a M1).bind fun k M2 => .ok (.t (.bl !k)) M2
theorem de_one {op : BoolOp} (h : DE X W a fa) : DE X W (.BoolOp op [a] pos) fa := pe_one h
theorem de_and (ha : DE X W a fa) (hb : DE X W (.BoolOp .And (b :: rest) pos) fb) : DE X W (.BoolOp .And (a :: b :: rest) pos) (eAnd fa fb) :=
  (pe_and ha hb).imp fun σ H Q ⟨μ, I, sl, M, s, rs, p⟩ => ⟨μ, I, sl, M, s, rs, (Post.bind (R := RD X.K (cmOf X.mg)) p).imp fun x H1 ⟨μ1, I1, M1, d, st, ra, p1⟩ => by
    obtain ⟨k, rfl, p1'⟩ := toB_bind p1
    clear p1
    have p1 := p1'
    clear p1'
    refine ⟨k, ra, ?_⟩
    cases k with
    | true => rw [if_pos rfl] at p1 ⊢; exact ⟨μ1, I1, sl, M1, st.sim, rs.mono st.gr, p1⟩
    | false => rw [if_neg Bool.false_ne_true] at p1 ⊢; exact p1.here st.sim (by unfold RD RepD RepT; rfl)⟩
theorem de_or (ha : DE X W a fa) (hb : DE X W (.BoolOp .Or (b :: rest) pos) fb) : DE X W (.BoolOp .Or (a :: b :: rest) pos) (eOr fa fb) :=
  (pe_or ha hb).imp fun σ H Q ⟨μ, I, sl, M, s, rs, p⟩ => ⟨μ, I, sl, M, s, rs, (Post.bind (R := RD X.K (cmOf X.mg)) p).imp fun x H1 ⟨μ1, I1, M1, d, st, ra, p1⟩ => by
    obtain ⟨k, rfl, p1'⟩ := toB_bind p1
    clear p1
    have p1 := p1'
    clear p1'
    refine ⟨k, ra, ?_⟩
    cases k with
    | true => rw [if_pos rfl] at p1 ⊢; exact p1.here st.sim (by unfold RD RepD RepT; rfl)
    | false => rw [if_neg Bool.false_ne_true] at p1 ⊢; exact ⟨μ1, I1, sl, M1, st.sim, rs.mono st.gr, p1⟩⟩
theorem de_not (ha : DE X W a fa) : DE X W (.UnaryOp .Not a pos) (eNot fa) :=
  (pe_not ha).imp fun σ H Q ⟨μ, I, sl, M, s, rs, p⟩ => ⟨μ, I, sl, M, s, rs, (Post.bind (R := RD X.K (cmOf X.mg)) p).imp fun x H1 ⟨μ1, I1, M1, d, st, ra, p1⟩ => by
    obtain ⟨k, rfl, p1'⟩ := toB_bind p1
    exact ⟨_, ra, p1'.here st.sim (by unfold RD RepD RepT; rfl)⟩⟩
def eIf (t : Fn Bool) (fa fb : FE) : FE := fun sl M => (t sl M).bind fun k M1 => if k then fa sl M1 else fb sl M1
theorem de_if (hc : DT X W c ta) (ha : DE X W a fa) (hb : DE X W b fb) : DE X W (.IfExp c a b pos) (eIf ta fa fb) :=
  (pe_ifExp hc ha hb).imp fun σ H Q ⟨μ, I, sl, M, s, rs, p⟩ => ⟨μ, I, sl, M, s, rs, (Post.bind (R := RB) p).imp fun x H1 ⟨μ1, I1, M1, k, st, ra, p1⟩ => by
    have ra : k = x := ra
    subst ra
    cases k with
    | true => rw [if_pos rfl] at p1 ⊢; exact ⟨μ1, I1, sl, M1, st.sim, rs.mono st.gr, p1⟩
    | false => rw [if_neg Bool.false_ne_true] at p1 ⊢; exact ⟨μ1, I1, sl, M1, st.sim, rs.mono st.gr, p1⟩⟩

/-! ### argument lists, displays -/
variable {es : List Expr} {fs : Fn (List D)}
def aNil : Fn (List D) := fun _ M => .ok [] M
def aCons (fa : FE) (fs : Fn (List D)) : Fn (List D) := fun sl M => (fa sl M).bind fun a M1 => (fs sl M1).bind fun as M2 => .ok (a :: as) M2
theorem da_nil : DA X W [] aNil := pa_nil.imp fun σ H Q ⟨μ, I, sl, M, s, rs, p⟩ => p.here s RepDL.nil
theorem da_cons (ha : DE X W e fa) (hr : DA X W es fs) (hs : starEach (e :: es) X.env = (false, eval e X.env) :: starEach es X.env := by rfl) : DA X W (e :: es) (aCons fa fs) :=
  (pa_cons ha hr hs).imp fun σ H Q ⟨μ, I, sl, M, s, rs, p⟩ => ⟨μ, I, sl, M, s, rs, (Post.bind (R := RD X.K (cmOf X.mg)) p).imp fun x H1 ⟨μ1, I1, M1, d, st, ra, p1⟩ =>
    ⟨μ1, I1, sl, M1, st.sim, rs.mono st.gr, (Post.bind (R := RL X.K (cmOf X.mg)) p1).imp fun y H2 ⟨μ2, I2, M2, ds, st2, rb, p2⟩ => p2.here st2.sim (RepDL.cons (ra.mono st2.gr) rb)⟩⟩
/-- the values as trees: what is of the store is known from now on -/
def toTs (g : List T → Option T) : List D → List MO → Res D := fun ds M => match frzL M ds with
  | some (ts, M1) => match g ts with
    | some t => .ok (.t t) M1
    | none => .fail
  | none => .fail
def eTup (fs : Fn (List D)) : FE := fun sl M => (fs sl M).bind (toTs fun ts => if ts.length ≤ sizeLine then some (.tup ts) else none)
def eLst (fs : Fn (List D)) : FE := fun sl M => (fs sl M).bind (toTs fun ts => if ts.length ≤ sizeLine then some (.lst ts) else none)
theorem de_tup {x1 : Nat} (h : DA X W es fs) : DE X W (.Tuple es x1 pos) (eTup fs) :=
  (pe_tup h).imp fun σ H Q ⟨μ, I, sl, M, s, rs, p⟩ => ⟨μ, I, sl, M, s, rs, (Post.bind (R := RL X.K (cmOf X.mg)) p).imp fun xs H1 ⟨μ1, I1, M1, ds, st, ra, p1⟩ => by
    unfold toTs at p1
    split at p1
    · rename_i ts M2 e1
      obtain ⟨I2, st2, r2⟩ := frzL_ok st.sim ra e1
      split at p1
      · rename_i t e2
        dsimp only at e2
        split at e2
        · rename_i hl
          cases e2
          exact ⟨by rw [← r2.length]; exact hl, fun q hq => ((p1.step st2).alloc st2.sim).tup st2.sim.sub r2 hq⟩
        · cases e2
      · exact p1.elim
    · exact p1.elim⟩
theorem de_lst (h : DA X W es fs) : DE X W (.List es pos) (eLst fs) :=
  (pe_lst h).imp fun σ H Q ⟨μ, I, sl, M, s, rs, p⟩ => ⟨μ, I, sl, M, s, rs, (Post.bind (R := RL X.K (cmOf X.mg)) p).imp fun xs H1 ⟨μ1, I1, M1, ds, st, ra, p1⟩ => by
    unfold toTs at p1
    split at p1
    · rename_i ts M2 e1
      obtain ⟨I2, st2, r2⟩ := frzL_ok st.sim ra e1
      split at p1
      · rename_i t e2
        dsimp only at e2
        split at e2
        · rename_i hl
          cases e2
          exact ⟨by rw [← r2.length]; exact hl, fun q hq => ((p1.step st2).alloc st2.sim).lst st2.sim.sub r2 hq⟩
        · cases e2
      · exact p1.elim
    · exact p1.elim⟩
/-- a list that is to change -/
def eLstM (fs : Fn (List D)) : FE := fun sl M => (fs sl M).bind fun ds M1 => match frzL M1 ds with
  | some (ts, M2) => if ts.length ≤ sizeLine then .ok (.m M2.length) (M2 ++ [.lst ts]) else .fail
  | none => .fail
theorem de_lstM (h : DA X W es fs) : DE X W (.List es pos) (eLstM fs) :=
  (pe_lst h).imp fun σ H Q ⟨μ, I, sl, M, s, rs, p⟩ => ⟨μ, I, sl, M, s, rs, (Post.bind (R := RL X.K (cmOf X.mg)) p).imp fun xs H1 ⟨μ1, I1, M1, ds, st, ra, p1⟩ => by
    split at p1
    · rename_i ts M2 e1
      obtain ⟨I2, st2, r2⟩ := frzL_ok st.sim ra e1
      split at p1
      · rename_i hl
        exact ⟨by rw [← r2.length]; exact hl, fun q hq => ((p1.step st2).mnew st2.sim).lst st2.sim.sub r2 hq⟩
      · exact p1.elim
    · exact p1.elim⟩

/-! ### operations on trees -/
def gP (f : List T → Option T) (ds : List D) (M : List MO) : Res D := match allT ds with
  | some ts => match f ts with
    | some c => .ok (.t c) M
    | none => .fail
  | none => match pkL M ds with
    | some ts => match f ts with
      | some c => if isSc c then .ok (.t c) M else .fail
      | none => .fail
    | none => .fail
/-- what a rule asks, for trees -/
def TCall (K : PySem.W.Frag) (cm : Str → Addr) (r : List V → Hp → VK → Prop) (f : List T → Option T) : Prop := ∀ I H ts c vs Q, Ex I H → RepTL K cm I ts vs → f ts = some c → Alloc K cm I H c Q → r vs H Q
theorem TCall.at {K : PySem.W.Frag} {cm : Str → Addr} {r : List V → Hp → VK → Prop} {f : List T → Option T} (h : TCall K cm r f) {μ I M H ds vs Q} {Wx : XK} (s : Sim K cm μ I M H) (rr : RepDL K cm μ I M.length ds vs)
    (p : Post K cm (RD K cm) μ I M H Wx (gP f ds M) Q) : r vs H Q := by
  unfold gP at p
  split at p
  · rename_i ts e1
    split at p
    · rename_i c e2
      exact h I H ts c vs Q s.sub (allT_ok rr e1) e2 (p.alloc s)
    · exact p.elim
  · split at p
    · rename_i ts e1
      split at p
      · rename_i c e2
        split at p
        · rename_i hc
          refine h H H ts c vs Q (Ex.refl _) (pkL_ok s rr e1) e2 fun I' H' v st r => ?_
          exact p μ I H' v (StepT.step ⟨Ex.refl _, s.sub.trans st.hh, st.hh, fun _ _ _ n => n⟩ s) (RepT.sc hc r)
        · exact p.elim
      · exact p.elim
    · exact p.elim
def g2 (f : T → T → Option T) : G2 := fun a b M => match a, b with
  | .t x, .t y => (match f x y with
    | some c => .ok (.t c) M
    | none => .fail)
  | a, b => match pk M a, pk M b with
    | some x, some y => (match f x y with
      | some c => if isSc c then .ok (.t c) M else .fail
      | none => .fail)
    | _, _ => .fail
def TOp (K : PySem.W.Frag) (cm : Str → Addr) (r : R2) (f : T → T → Option T) : Prop := ∀ I H a b c x y Q, Ex I H → RepT K cm I a x → RepT K cm I b y → f a b = some c → Alloc K cm I H c Q → r x y H Q
theorem TOp.d {K : PySem.W.Frag} {cm : Str → Addr} {r : R2} {f : T → T → Option T} (h : TOp K cm r f) : DOp K cm r (g2 f) := fun μ I M H x y a b Q Wx s ra rb p => by
  unfold g2 at p
  split at p
  · split at p
    · rename_i c e2
      exact h I H _ _ c x y Q s.sub ra rb e2 (p.alloc s)
    · exact p.elim
  · split at p
    · rename_i u v e1 e2
      split at p
      · rename_i c e3
        split at p
        · rename_i hc
          refine h H H u v c x y Q (Ex.refl _) (pk_ok s ra e1) (pk_ok s rb e2) e3 fun I' H' v st r => ?_
          exact p μ I H' v (StepT.step ⟨Ex.refl _, s.sub.trans st.hh, st.hh, fun _ _ _ n => n⟩ s) (RepT.sc hc r)
        · exact p.elim
      · exact p.elim
    · exact p.elim
end
end Bm

namespace Bm
open PySem L2

section
variable {K : PySem.W.Frag} {cm : Str → Addr} {I H : Hp} {x y v : V} {Q : VK}
theorem rep_int {i : Int} : RepT K cm I (.int i) (.int i) := by unfold RepT; rfl
theorem rep_bl {i : Bool} : RepT K cm I (.bl i) (.bl i) := by unfold RepT; rfl
theorem rep_str {i : Str} : RepT K cm I (.str i) (.str i) := by unfold RepT; rfl
theorem rep_non : RepT K cm I .non .non := by unfold RepT; rfl
theorem inv_int {i : Int} (h : RepT K cm I (.int i) v) : v = .int i := h
theorem inv_bl {i : Bool} (h : RepT K cm I (.bl i) v) : v = .bl i := h
theorem inv_str {i : Str} (h : RepT K cm I (.str i) v) : v = .str i := h
theorem inv_non (h : RepT K cm I .non v) : v = .non := h
theorem inv_lst {ts : List T} (h : RepT K cm I (.lst ts) v) : ∃ a xs, v = .ref a ∧ I a = some (.lst xs) ∧ RepTL K cm I ts xs := by unfold RepT at h; exact h
theorem inv_scr {ns : List Int} (h : RepT K cm I (.scr ns) v) : ∃ a, v = .ref a ∧ SqL K I a (ns.map V.int) := by unfold RepT at h; exact h
theorem inv_tupU {ts : List T} (h : RepT K cm I (.tup ts) v) : ∃ a xs, v = .ref a ∧ SqU K I a xs ∧ RepTL K cm I ts xs := by unfold RepT at h; exact h
theorem inv_tup {ts : List T} (h : RepT K cm I (.tup ts) v) : ∃ a xs, v = .ref a ∧ SqT K I a xs ∧ RepTL K cm I ts xs := let ⟨a, xs, h1, h2, h3⟩ := inv_tupU h; ⟨a, xs, h1, h2.t, h3⟩
theorem inv_cons {t : T} {ts : List T} {xs : List V} (h : RepTL K cm I (t :: ts) xs) : ∃ x r, xs = x :: r ∧ RepT K cm I t x ∧ RepTL K cm I ts r := by unfold RepTL at h; exact h
theorem inv_nil {xs : List V} (h : RepTL K cm I [] xs) : xs = [] := by unfold RepTL at h; exact h
theorem inv_1 {t : T} {xs : List V} (h : RepTL K cm I [t] xs) : ∃ x, xs = [x] ∧ RepT K cm I t x := by
  obtain ⟨x, r, rfl, h1, h2⟩ := inv_cons h
  rw [inv_nil h2]; exact ⟨x, rfl, h1⟩
theorem inv_2 {t u : T} {xs : List V} (h : RepTL K cm I [t, u] xs) : ∃ x y, xs = [x, y] ∧ RepT K cm I t x ∧ RepT K cm I u y := by
  obtain ⟨x, r, rfl, h1, h2⟩ := inv_cons h
  obtain ⟨y, rfl, h3⟩ := inv_1 h2
  exact ⟨x, y, rfl, h1, h3⟩
end

section
variable {K : PySem.W.Frag} {cm : Str → Addr} {μ : Nat → Addr} {I H : Hp} {M : List MO} {Wx : XK} {Q : VK}
theorem Post.int {i : Int} (p : Post K cm (RD K cm) μ I M H Wx (.ok (.t (.int i)) M) Q) (s : Sim K cm μ I M H) : Q (.int i) H := p μ I H (.int i) (Step.refl s) (rep_int (K := K) (cm := cm) (I := I))
theorem Post.bl {i : Bool} (p : Post K cm (RD K cm) μ I M H Wx (.ok (.t (.bl i)) M) Q) (s : Sim K cm μ I M H) : Q (.bl i) H := p μ I H (.bl i) (Step.refl s) (rep_bl (K := K) (cm := cm) (I := I))
theorem Post.str {i : Str} (p : Post K cm (RD K cm) μ I M H Wx (.ok (.t (.str i)) M) Q) (s : Sim K cm μ I M H) : Q (.str i) H := p μ I H (.str i) (Step.refl s) (rep_str (K := K) (cm := cm) (I := I))
theorem Post.non (p : Post K cm (RD K cm) μ I M H Wx (.ok (.t .non) M) Q) (s : Sim K cm μ I M H) : Q .non H := p μ I H .non (Step.refl s) (rep_non (K := K) (cm := cm) (I := I))
end

/-! ### int operations -/
def int2 (C : Int → Int → Prop) [∀ i j, Decidable (C i j)] (g : Int → Int → T) : T → T → Option T
  | .int i, .int j => if C i j then some (g i j) else none
  | _, _ => none
theorem top_I {K : PySem.W.Frag} {cm : Str → Addr} {C : Int → Int → Prop} [∀ i j, Decidable (C i j)] {g : Int → Int → T} {gv : Int → Int → V} (hg : ∀ i j I, RepT K cm I (g i j) (gv i j)) : TOp K cm (rI C gv) (int2 C g) := by
  intro I H a b c x y Q s ra rb e al
  unfold int2 at e
  split at e
  · rename_i i j
    split at e
    · rename_i hc
      cases e
      exact ⟨i, j, inv_int ra, inv_int rb, hc, al.val s (hg _ _ _)⟩
    · cases e
  · cases e
theorem top_I0 {K : PySem.W.Frag} {cm : Str → Addr} {g : Int → Int → T} {gv : Int → Int → V} (hg : ∀ i j I, RepT K cm I (g i j) (gv i j)) : TOp K cm (rI0 gv) (int2 (fun _ _ => True) g) := by
  intro I H a b c x y Q s ra rb e al
  unfold int2 at e
  split at e
  · rename_i i j
    rw [if_pos trivial] at e
    cases e
    exact ⟨i, j, inv_int ra, inv_int rb, al.val s (hg _ _ _)⟩
  · cases e
instance (i j : Int) : Decidable (CMul i j) := by unfold CMul; infer_instance
instance (i j : Int) : Decidable (CPow i j) := by unfold CPow; infer_instance
instance (i j : Int) : Decidable (CDivN i j) := by unfold CDivN; infer_instance
theorem TOp.or {K : PySem.W.Frag} {cm : Str → Addr} {r r' : R2} {f f' : T → T → Option T} (h : TOp K cm r f) (h' : TOp K cm r' f') : TOp K cm (fun x y H Q => r x y H Q ∨ r' x y H Q) (fun a b => match f a b with | some c => some c | none => f' a b) := by
  intro I H a b c x y Q s ra rb e al
  dsimp only at e
  split at e
  · rename_i c' e'
    cases e
    exact .inl (h I H a b _ x y Q s ra rb e' al)
  · exact .inr (h' I H a b c x y Q s ra rb e al)

/-! ### + -/
def cat2 : T → T → Option T
  | .str i, .str j => if i.length + j.length ≤ sizeLine then some (.str (i ++ j)) else none
  | _, _ => none
theorem top_cat {K : PySem.W.Frag} {cm : Str → Addr} : TOp K cm (fun x y H Q => ∃ i j, x = .str i ∧ y = .str j ∧ i.length + j.length ≤ sizeLine ∧ Q (.str (i ++ j)) H) cat2 := by
  intro I H a b c x y Q s ra rb e al
  unfold cat2 at e
  split at e
  · split at e
    · rename_i hc
      cases e
      exact ⟨_, _, inv_str ra, inv_str rb, hc, al.val s rep_str⟩
    · cases e
  · cases e
def catT2 : T → T → Option T
  | .tup xs, .tup ys => if xs.length + ys.length ≤ sizeLine then some (.tup (xs ++ ys)) else none
  | _, _ => none
theorem top_catT {K : PySem.W.Frag} {cm : Str → Addr} : TOp K cm (rCatA K) catT2 := by
  intro I H a b c x y Q s ra rb e al
  unfold catT2 at e
  split at e
  · rename_i ts us
    split at e
    · rename_i hc
      cases e
      obtain ⟨a', xs, rfl, h1, h2⟩ := inv_tup ra
      obtain ⟨b', ys, rfl, h3, h4⟩ := inv_tup rb
      refine ⟨a', b', xs, ys, rfl, rfl, sqT_ex s h1, sqT_ex s h3, by rw [← h2.length, ← h4.length]; exact hc, fun z => ?_, fun _ z => ?_, fun _ _ p hp => al.tup s (h2.append h4) hp⟩
      · subst z
        have : ts = [] := List.eq_nil_of_length_eq_zero (by rw [h2.length]; rfl)
        subst this
        exact al.val s rb
      · subst z
        have : us = [] := List.eq_nil_of_length_eq_zero (by rw [h4.length]; rfl)
        subst this
        rw [List.append_nil] at al
        exact al.val s ra
    · cases e
  · cases e
/-- a list's items -/
def lstOf (M : List MO) : D → Option (List T)
  | .t (.lst ts) => some ts
  | .m k => match M[k]? with
    | some (.lst ts) => some ts
    | some (.frz (.lst ts)) => some ts
    | _ => none
  | _ => none
theorem lstOf_ok {K : PySem.W.Frag} {cm : Str → Addr} {μ : Nat → Addr} {I H : Hp} {M : List MO} (s : Sim K cm μ I M H) {d : D} {v : V} {ts : List T} (r : RepD K cm μ I M.length d v) (e : lstOf M d = some ts) :
    ∃ a xs, v = .ref a ∧ H a = some (.lst xs) ∧ RepTL K cm I ts xs := by
  cases d with
  | t t =>
    cases t <;> first
      | (cases e; done)
      | (cases e
         obtain ⟨a, xs, h1, h2, h3⟩ := inv_lst r
         exact ⟨a, xs, h1, s.sub _ _ h2, h3⟩)
  | m k =>
    obtain ⟨_, rfl⟩ := r
    simp only [lstOf] at e
    split at e
    · rename_i us q
      cases e
      obtain ⟨_, xs, h1, h2⟩ := s.obj k _ q
      exact ⟨_, xs, rfl, h1, h2⟩
    · rename_i us q
      cases e
      obtain ⟨a, xs, h1, h2, h3⟩ := inv_lst (s.obj k _ q)
      exact ⟨a, xs, h1, s.sub _ _ h2, h3⟩
    · cases e
/-- lists: both stand as they are -/
def gCatL : G2 := fun a b M => match lstOf M a, lstOf M b with
  | some xs, some ys => if xs.length + ys.length ≤ sizeLine then .ok (.t (.lst (xs ++ ys))) M else .fail
  | _, _ => .fail
theorem dop_catL {K : PySem.W.Frag} {cm : Str → Addr} : DOp K cm rCat gCatL := fun μ I M H x y a b Q Wx s ra rb p => by
  unfold gCatL at p
  split at p
  · rename_i ts us e1 e2
    split at p
    · rename_i hc
      obtain ⟨a', xs, rfl, h1, h2⟩ := lstOf_ok s ra e1
      obtain ⟨b', ys, rfl, h3, h4⟩ := lstOf_ok s rb e2
      exact ⟨a', b', xs, ys, rfl, rfl, h1, h3, by rw [← h2.length, ← h4.length]; exact hc, fun q hq => (p.alloc s).lst s.sub (h2.append h4) hq⟩
    · exact p.elim
  · exact p.elim
/-- list * int -/
def gRepL : G2 := fun a b M => match lstOf M a, b with
  | some xs, .t (.int k) => if -(2 ^ 63) ≤ k ∧ k < 2 ^ 63 ∧ xs.length * k.toNat ≤ sizeLine then .ok (.t (.lst (List.replicate k.toNat xs).flatten)) M else .fail
  | _, _ => .fail
theorem rep_flat {K : PySem.W.Frag} {cm : Str → Addr} {I : Hp} {ts : List T} {xs : List V} (h : RepTL K cm I ts xs) : ∀ n, RepTL K cm I (List.replicate n ts).flatten (List.replicate n xs).flatten
  | 0 => RepTL.nil
  | n + 1 => by rw [List.replicate_succ, List.replicate_succ, List.flatten_cons, List.flatten_cons]; exact h.append (rep_flat h n)
theorem dop_repL {K : PySem.W.Frag} {cm : Str → Addr} : DOp K cm rRep gRepL := fun μ I M H x y a b Q Wx s ra rb p => by
  unfold gRepL at p
  split at p
  · rename_i ts k e1
    split at p
    · rename_i hc
      obtain ⟨a', xs, rfl, h1, h2⟩ := lstOf_ok s ra e1
      exact ⟨a', k, xs, rfl, inv_int (K := K) (cm := cm) (I := I) rb, h1, hc.1, hc.2.1, by rw [← h2.length]; exact hc.2.2, fun q hq => (p.alloc s).lst s.sub (rep_flat h2 _) hq⟩
    · exact p.elim
  · exact p.elim

def addT : T → T → Option T := fun a b => match int2 (fun _ _ => True) (fun i j => .int (i + j)) a b with
  | some c => some c
  | none => match cat2 a b with
    | some c => some c
    | none => catT2 a b
theorem op_addA {X : Cx} : OpR X (binaryOp .Add) (fun x y H Q => rI0 (fun i j => .int (i + j)) x y H Q ∨ ((∃ i j, x = .str i ∧ y = .str j ∧ i.length + j.length ≤ sizeLine ∧ Q (.str (i ++ j)) H) ∨ rCatA X.K x y H Q)) := op_add.or (op_add_str.or op_catA)
theorem top_add {K : PySem.W.Frag} {cm : Str → Addr} : TOp K cm (fun x y H Q => rI0 (fun i j => .int (i + j)) x y H Q ∨ ((∃ i j, x = .str i ∧ y = .str j ∧ i.length + j.length ≤ sizeLine ∧ Q (.str (i ++ j)) H) ∨ rCatA K x y H Q)) addT :=
  (top_I0 fun _ _ _ => rep_int).or (top_cat.or top_catT)

section
variable {X : Cx} {W : WX} {a b : Expr} {fa fb : FE} {pos : Pos}
def subT := int2 (fun _ _ => True) fun i j => T.int (i - j)
def mulT := int2 CMul fun i j => T.int (i * j)
def powT := int2 CPow fun i j => T.int (i ^ j.toNat)
def divT := int2 CDivN fun i j => T.int (i.fdiv j)
def modT := int2 (fun _ j => j ≠ 0) fun i j => T.int (i.fmod j)
theorem de_add (ha : DE X W a fa) (hb : DE X W b fb) : DE X W (.BinOp a .Add b pos) (e2 (g2 addT) fa fb) := de_op op_addA top_add.d ha hb
theorem de_sub (ha : DE X W a fa) (hb : DE X W b fb) : DE X W (.BinOp a .Sub b pos) (e2 (g2 subT) fa fb) := de_op op_sub (top_I0 fun _ _ _ => rep_int).d ha hb
theorem de_mul (ha : DE X W a fa) (hb : DE X W b fb) : DE X W (.BinOp a .Mult b pos) (e2 (g2 mulT) fa fb) := de_op op_mul (top_I fun _ _ _ => rep_int).d ha hb
theorem de_pow (ha : DE X W a fa) (hb : DE X W b fb) : DE X W (.BinOp a .Pow b pos) (e2 (g2 powT) fa fb) := de_op op_pow (top_I fun _ _ _ => rep_int).d ha hb
theorem de_fdiv (ha : DE X W a fa) (hb : DE X W b fb) : DE X W (.BinOp a .FloorDiv b pos) (e2 (g2 divT) fa fb) := de_op op_fdivN (top_I fun _ _ _ => rep_int).d ha hb
theorem de_mod (ha : DE X W a fa) (hb : DE X W b fb) : DE X W (.BinOp a .Mod b pos) (e2 (g2 modT) fa fb) := de_op op_modN (top_I fun _ _ _ => rep_int).d ha hb
/-- lists joined -/
theorem de_catL (ha : DE X W a fa) (hb : DE X W b fb) : DE X W (.BinOp a .Add b pos) (e2 gCatL fa fb) := de_op op_cat dop_catL ha hb
theorem de_repL (ha : DE X W a fa) (hb : DE X W b fb) : DE X W (.BinOp a .Mult b pos) (e2 gRepL fa fb) := de_op op_rep dop_repL ha hb
/-- +, whatever it joins -/
def gAdd : G2 := fun a b M => match lstOf M a, lstOf M b with
  | some _, some _ => gCatL a b M
  | _, _ => g2 addT a b M
theorem DOp.or {K : PySem.W.Frag} {cm : Str → Addr} {r r' : R2} {g g' : G2} {c : D → D → List MO → Bool} (h : DOp K cm r g) (h' : DOp K cm r' g') : DOp K cm (fun x y H Q => r x y H Q ∨ r' x y H Q) (fun a b M => if c a b M then g a b M else g' a b M) :=
  fun μ I M H x y a b Q Wx s ra rb p => by
    dsimp only at p
    split at p
    · exact .inl (h μ I M H x y a b Q Wx s ra rb p)
    · exact .inr (h' μ I M H x y a b Q Wx s ra rb p)
theorem dop_add {K : PySem.W.Frag} {cm : Str → Addr} : DOp K cm (fun x y H Q => rCat x y H Q ∨ (rI0 (fun i j => .int (i + j)) x y H Q ∨ ((∃ i j, x = .str i ∧ y = .str j ∧ i.length + j.length ≤ sizeLine ∧ Q (.str (i ++ j)) H) ∨ rCatA K x y H Q))) gAdd :=
  fun μ I M H x y a b Q Wx s ra rb p => by
    unfold gAdd at p
    split at p
    · exact .inl (dop_catL μ I M H x y a b Q Wx s ra rb p)
    · exact .inr (top_add.d μ I M H x y a b Q Wx s ra rb p)
theorem de_plus (ha : DE X W a fa) (hb : DE X W b fb) : DE X W (.BinOp a .Add b pos) (e2 gAdd fa fb) := de_op (op_cat.or op_addA) dop_add ha hb
end

/-! ### comparisons -/
mutual
/-- a tree as data -/
def toPd : T → Option PyData
  | .non => some .none
  | .bl b => some (.bool b)
  | .int i => some (.int i)
  | .str s => some (.str s)
  | .lst ts => match toPdL ts with
    | some ds => some (.list ds)
    | none => none
  | .tup ts => match toPdL ts with
    | some ds => some (.tuple ds)
    | none => none
  | _ => none
def toPdL : List T → Option (List PyData)
  | [] => some []
  | t :: ts => match toPd t, toPdL ts with
    | some d, some ds => some (d :: ds)
    | _, _ => none
end
section
variable {K : PySem.W.Frag} {cm : Str → Addr} {I : Hp}
mutual
theorem toPd_ok : ∀ (t : T) (d : PyData) (v : V), toPd t = some d → RepT K cm I t v → Dp K I v d
  | .non, d, v, e, r => by simp [toPd] at e; subst e; rw [inv_non r]; exact .non
  | .bl b, d, v, e, r => by simp [toPd] at e; subst e; rw [inv_bl r]; exact .bl b
  | .int i, d, v, e, r => by simp [toPd] at e; subst e; rw [inv_int r]; exact .int i
  | .str x, d, v, e, r => by simp [toPd] at e; subst e; rw [inv_str r]; exact .str x
  | .lst ts, d, v, e, r => by
    obtain ⟨a, xs, rfl, h1, h2⟩ := inv_lst r
    unfold toPd at e
    split at e
    · rename_i ds e1
      cases e
      exact .lst (SqL.of h1) (toPdL_ok ts ds xs e1 h2)
    · cases e
  | .tup ts, d, v, e, r => by
    obtain ⟨a, xs, rfl, h1, h2⟩ := inv_tup r
    unfold toPd at e
    split at e
    · rename_i ds e1
      cases e
      exact .tup h1 (toPdL_ok ts ds xs e1 h2)
    · cases e
  | .ty n, d, v, e, r => by simp [toPd] at e
  | .cls n, d, v, e, r => by simp [toPd] at e
  | .scr n, d, v, e, r => by simp [toPd] at e
  | .glo n, d, v, e, r => by simp [toPd] at e
  | .ins c ns ts, d, v, e, r => by simp [toPd] at e
theorem toPdL_ok : ∀ (ts : List T) (ds : List PyData) (xs : List V), toPdL ts = some ds → RepTL K cm I ts xs → DpAll K I xs ds
  | [], ds, xs, e, r => by simp [toPdL] at e; subst e; rw [inv_nil r]; exact .nil
  | t :: ts, ds, xs, e, r => by
    obtain ⟨x, r', rfl, h1, h2⟩ := inv_cons r
    unfold toPdL at e
    split at e
    · rename_i d ds' e1 e2
      cases e
      exact .cons (toPd_ok t d x e1 h1) (toPdL_ok ts ds' r' e2 h2)
    · cases e
end
end
mutual
theorem Dp.ex {K : PySem.W.Frag} {I H : Hp} (s : Ex I H) : ∀ {v : V} {d : PyData}, Dp K I v d → Dp K H v d
  | _, _, .non => .non
  | _, _, .bl b => .bl b
  | _, _, .int b => .int b
  | _, _, .str b => .str b
  | _, _, .lst h r => .lst (sqL_ex s h) (DpAll.ex s r)
  | _, _, .tup h r => .tup (sqT_ex s h) (DpAll.ex s r)
theorem DpAll.ex {K : PySem.W.Frag} {I H : Hp} (s : Ex I H) : ∀ {v : List V} {d : List PyData}, DpAll K I v d → DpAll K H v d
  | _, _, .nil => .nil
  | _, _, .cons h r => .cons (Dp.ex s h) (DpAll.ex s r)
end
def eqD : T → T → Option Bool := fun a b => match toPd a, toPd b with
  | some d, some e => if SeqAt.shaped d = true ∧ SeqAt.shaped e = true then some (PyData.eqv d e) else none
  | _, _ => none
def eqS : T → T → Option Bool
  | .non, .non => some true
  | .non, .int _ => some false
  | .int _, .non => some false
  | .non, .bl _ => some false
  | .bl _, .non => some false
  | .non, .str _ => some false
  | .str _, .non => some false
  | .int i, .int j => some (decide (i = j))
  | .bl i, .bl j => some (decide (i = j))
  | .str i, .str j => some (decide (i = j))
  | .int _, .str _ => some false
  | .str _, .int _ => some false
  | .bl _, .str _ => some false
  | .str _, .bl _ => some false
  | _, _ => none
def eqT : T → T → Option T := fun a b => match eqS a b with
  | some k => some (.bl k)
  | none => match eqD a b with
    | some k => some (.bl k)
    | none => none
def neT : T → T → Option T := fun a b => match eqS a b with
  | some k => some (.bl !k)
  | none => match eqD a b with
    | some k => some (.bl !k)
    | none => none
theorem eqS_ok {K : PySem.W.Frag} {cm : Str → Addr} {I : Hp} {a b : T} {x y : V} {k : Bool} (e : eqS a b = some k) (ra : RepT K cm I a x) (rb : RepT K cm I b y) : scal x y = true ∧ decide (x = y) = k := by
  unfold eqS at e
  split at e <;> first
    | (cases e; done)
    | (cases e
       first
       | (rw [inv_non ra, inv_non rb]; exact ⟨rfl, by simp⟩)
       | (rw [inv_non ra, inv_int rb]; exact ⟨rfl, by simp⟩)
       | (rw [inv_int ra, inv_non rb]; exact ⟨rfl, by simp⟩)
       | (rw [inv_non ra, inv_bl rb]; exact ⟨rfl, by simp⟩)
       | (rw [inv_bl ra, inv_non rb]; exact ⟨rfl, by simp⟩)
       | (rw [inv_non ra, inv_str rb]; exact ⟨rfl, by simp⟩)
       | (rw [inv_str ra, inv_non rb]; exact ⟨rfl, by simp⟩)
       | (rw [inv_int ra, inv_int rb]; exact ⟨rfl, by simp⟩)
       | (rw [inv_bl ra, inv_bl rb]; exact ⟨rfl, by simp⟩)
       | (rw [inv_str ra, inv_str rb]; exact ⟨rfl, by simp⟩)
       | (rw [inv_int ra, inv_str rb]; exact ⟨rfl, by simp⟩)
       | (rw [inv_str ra, inv_int rb]; exact ⟨rfl, by simp⟩)
       | (rw [inv_bl ra, inv_str rb]; exact ⟨rfl, by simp⟩)
       | (rw [inv_str ra, inv_bl rb]; exact ⟨rfl, by simp⟩))
theorem eqD_ok {K : PySem.W.Frag} {cm : Str → Addr} {I H : Hp} {a b : T} {x y : V} {k : Bool} (s : Ex I H) (e : eqD a b = some k) (ra : RepT K cm I a x) (rb : RepT K cm I b y) :
    ∃ d e, Dp K H x d ∧ Dp K H y e ∧ SeqAt.shaped d = true ∧ SeqAt.shaped e = true ∧ PyData.eqv d e = k := by
  unfold eqD at e
  split at e
  · rename_i d d' e1 e2
    split at e
    · rename_i hc
      cases e
      exact ⟨d, d', Dp.ex s (toPd_ok _ _ _ e1 ra), Dp.ex s (toPd_ok _ _ _ e2 rb), hc.1, hc.2, rfl⟩
    · cases e
  · cases e
theorem top_eq {K : PySem.W.Frag} {cm : Str → Addr} : TOp K cm (fun x y H Q => rEq x y H Q ∨ rEqD K x y H Q) eqT := by
  intro I H a b c x y Q s ra rb e al
  unfold eqT at e
  split at e
  · rename_i k ek
    cases e
    obtain ⟨h1, h2⟩ := eqS_ok ek ra rb
    exact .inl ⟨h1, by rw [h2]; exact al.val s rep_bl⟩
  · split at e
    · rename_i k ek
      cases e
      obtain ⟨d, d', h1, h2, h3, h4, rfl⟩ := eqD_ok s ek ra rb
      exact .inr ⟨d, d', h1, h2, h3, h4, al.val s rep_bl⟩
    · cases e
theorem top_ne {K : PySem.W.Frag} {cm : Str → Addr} : TOp K cm (fun x y H Q => rNe x y H Q ∨ rNeD K x y H Q) neT := by
  intro I H a b c x y Q s ra rb e al
  unfold neT at e
  split at e
  · rename_i k ek
    cases e
    obtain ⟨h1, h2⟩ := eqS_ok ek ra rb
    exact .inl ⟨h1, by rw [h2]; exact al.val s rep_bl⟩
  · split at e
    · rename_i k ek
      cases e
      obtain ⟨d, d', h1, h2, h3, h4, rfl⟩ := eqD_ok s ek ra rb
      exact .inr ⟨d, d', h1, h2, h3, h4, al.val s rep_bl⟩
    · cases e
theorem op_eqA {X : Cx} (hu : X.A.units + 64 < cLine) : OpR X (compareOp .Eq) (fun x y H Q => rEq x y H Q ∨ rEqD X.K x y H Q) := op_eq.or (op_eqD hu)
theorem op_neA {X : Cx} (hu : X.A.units + 64 < cLine) : OpR X (compareOp .NotEq) (fun x y H Q => rNe x y H Q ∨ rNeD X.K x y H Q) := op_ne.or (op_neD hu)

def ltT := int2 (fun _ _ => True) fun i j => T.bl (decide (i < j))
def leT := int2 (fun _ _ => True) fun i j => T.bl (decide (i ≤ j))
def gtT := int2 (fun _ _ => True) fun i j => T.bl (decide (j < i))
def geT := int2 (fun _ _ => True) fun i j => T.bl (decide (j ≤ i))
/-- is None -/
def isN : T → T → Option T
  | .non, .non => some (.bl true)
  | .bl _, .non => some (.bl false)
  | .int _, .non => some (.bl false)
  | .str _, .non => some (.bl false)
  | .lst _, .non => some (.bl false)
  | .tup _, .non => some (.bl false)
  | .ins _ _ _, .non => some (.bl false)
  | _, _ => none
def notN : T → T → Option T
  | .non, .non => some (.bl false)
  | .bl _, .non => some (.bl true)
  | .int _, .non => some (.bl true)
  | .str _, .non => some (.bl true)
  | .lst _, .non => some (.bl true)
  | .tup _, .non => some (.bl true)
  | .ins _ _ _, .non => some (.bl true)
  | _, _ => none
theorem inv_ins {K : PySem.W.Frag} {cm : Str → Addr} {I : Hp} {c : Str} {ns : List Str} {ts : List T} {v : V} (h : RepT K cm I (.ins c ns ts) v) : ∃ a dx xs, v = .ref a ∧ I a = some (.ins (cm c) dx (ns.zip xs)) ∧ ns.length = xs.length ∧ RepTL K cm I ts xs := by unfold RepT at h; exact h
theorem top_isN {K : PySem.W.Frag} {cm : Str → Addr} : TOp K cm (fun x y H Q => y = .non ∧ Q (.bl (decide (x = .non))) H) isN := by
  intro I H a b c x y Q s ra rb e al
  have go : ∀ k, c = .bl k → decide (x = V.non) = k → y = .non → y = .non ∧ Q (.bl (decide (x = V.non))) H := fun k e1 e2 e3 => ⟨e3, by subst e1; rw [e2]; exact al.val s rep_bl⟩
  unfold isN at e
  split at e <;> first
    | (cases e; done)
    | (cases e
       refine go _ rfl ?_ (inv_non rb)
       first
       | (rw [inv_non ra]; simp; done)
       | (rw [inv_bl ra]; simp; done)
       | (rw [inv_int ra]; simp; done)
       | (rw [inv_str ra]; simp; done)
       | (obtain ⟨_, _, rfl, _⟩ := inv_lst ra; simp; done)
       | (obtain ⟨_, _, rfl, _⟩ := inv_tup ra; simp; done)
       | (obtain ⟨_, _, _, rfl, _⟩ := inv_ins ra; simp; done))
theorem top_notN {K : PySem.W.Frag} {cm : Str → Addr} : TOp K cm (fun x y H Q => y = .non ∧ Q (.bl (!decide (x = .non))) H) notN := by
  intro I H a b c x y Q s ra rb e al
  have go : ∀ k, c = .bl k → (!decide (x = V.non)) = k → y = .non → y = .non ∧ Q (.bl (!decide (x = V.non))) H := fun k e1 e2 e3 => ⟨e3, by subst e1; rw [e2]; exact al.val s rep_bl⟩
  unfold notN at e
  split at e <;> first
    | (cases e; done)
    | (cases e
       refine go _ rfl ?_ (inv_non rb)
       first
       | (rw [inv_non ra]; simp; done)
       | (rw [inv_bl ra]; simp; done)
       | (rw [inv_int ra]; simp; done)
       | (rw [inv_str ra]; simp; done)
       | (obtain ⟨_, _, rfl, _⟩ := inv_lst ra; simp; done)
       | (obtain ⟨_, _, rfl, _⟩ := inv_tup ra; simp; done)
       | (obtain ⟨_, _, _, rfl, _⟩ := inv_ins ra; simp; done))

/-! ### in -/
/-- x in a list or tuple of flat things -/
def flatT : T → Bool
  | .non | .bl _ | .int _ | .str _ => true
  | _ => false
def eqF : T → T → Bool
  | .non, .non => true
  | .bl a, .bl b => a == b
  | .bl a, .int b => (if a then 1 else 0) == b
  | .int a, .bl b => a == (if b then 1 else 0)
  | .int a, .int b => a == b
  | .str a, .str b => a == b
  | _, _ => false
def memT (x : T) (xs : List T) : Bool := xs.any fun y => eqF y x
def seqOf : T → Option (List T)
  | .lst xs => some xs
  | .tup xs => some xs
  | _ => none
def inT (neg : Bool) : T → T → Option T := fun a b => match b with
  | .str z => (match a with
    | .str x => some (.bl (if neg then !(!(Builtin.Str.occurrences z x 0 z.length 1).isEmpty) else !(Builtin.Str.occurrences z x 0 z.length 1).isEmpty))
    | _ => none)
  | b => match seqOf b with
    | some ys => if flatT a = true ∧ ys.all flatT = true then some (.bl (if neg then !memT a ys else memT a ys)) else none
    | none => none
theorem flat_ok {K : PySem.W.Frag} {cm : Str → Addr} {I : Hp} {t : T} {v : V} (h : flatT t = true) (r : RepT K cm I t v) : flatV v = true := by
  cases t <;> first
    | (cases h; done)
    | (first | rw [inv_non r] | rw [inv_bl r] | rw [inv_int r] | rw [inv_str r]) <;> rfl
theorem flat_all {K : PySem.W.Frag} {cm : Str → Addr} {I : Hp} : ∀ {ts : List T} {xs : List V}, ts.all flatT = true → RepTL K cm I ts xs → xs.all flatV = true
  | [], xs, h, r => by rw [inv_nil r]; rfl
  | t :: ts, xs, h, r => by
    obtain ⟨x, r', rfl, h1, h2⟩ := inv_cons r
    simp only [List.all_cons, Bool.and_eq_true] at h ⊢
    exact ⟨flat_ok h.1 h1, flat_all h.2 h2⟩
theorem eqF_ok {K : PySem.W.Frag} {cm : Str → Addr} {I : Hp} {t u : T} {v w : V} (ht : flatT t = true) (hu : flatT u = true) (r : RepT K cm I t v) (q : RepT K cm I u w) : eqV v w = eqF t u := by
  cases t <;> first
    | (cases ht; done)
    | (cases u <;> first
        | (cases hu; done)
        | (first | rw [inv_non r] | rw [inv_bl r] | rw [inv_int r] | rw [inv_str r]) <;> (first | rw [inv_non q] | rw [inv_bl q] | rw [inv_int q] | rw [inv_str q]) <;> rfl)
theorem mem_ok {K : PySem.W.Frag} {cm : Str → Addr} {I : Hp} {u : T} {w : V} (hu : flatT u = true) (q : RepT K cm I u w) : ∀ {ts : List T} {xs : List V}, ts.all flatT = true → RepTL K cm I ts xs → inV w xs = memT u ts
  | [], xs, h, r => by rw [inv_nil r]; rfl
  | t :: ts, xs, h, r => by
    obtain ⟨x, r', rfl, h1, h2⟩ := inv_cons r
    simp only [List.all_cons, Bool.and_eq_true] at h
    have h3 : inV w r' = memT u ts := mem_ok hu q h.2 h2
    unfold inV memT at h3 ⊢
    rw [List.any_cons, List.any_cons, eqF_ok h.1 hu h1 q, h3]
def rInA (K : PySem.W.Frag) (neg : Bool) : R2 := fun x y H Q => (∃ i j, x = .str i ∧ y = .str j ∧ Q (.bl (if neg then !(!(Builtin.Str.occurrences j i 0 j.length 1).isEmpty) else !(Builtin.Str.occurrences j i 0 j.length 1).isEmpty)) H) ∨ rIn K neg x y H Q
theorem top_in {K : PySem.W.Frag} {cm : Str → Addr} {neg : Bool} : TOp K cm (rInA K neg) (inT neg) := by
  intro I H a b c x y Q s ra rb e al
  unfold inT at e
  split at e
  · split at e
    · cases e
      exact .inl ⟨_, _, inv_str ra, inv_str rb, al.val s rep_bl⟩
    · cases e
  · split at e
    · rename_i ys e1
      split at e
      · rename_i hc
        cases e
        refine .inr ?_
        have : ∃ p xs, y = .ref p ∧ (SqL K I p xs ∨ SqT K I p xs) ∧ RepTL K cm I ys xs := by
          unfold seqOf at e1
          split at e1
          · cases e1
            obtain ⟨p, xs, h1, h2, h3⟩ := inv_lst rb
            exact ⟨p, xs, h1, .inl (SqL.of h2), h3⟩
          · cases e1
            obtain ⟨p, xs, h1, h2, h3⟩ := inv_tup rb
            exact ⟨p, xs, h1, .inr h2, h3⟩
          · cases e1
        obtain ⟨p, xs, h1, h2, h3⟩ := this
        refine ⟨p, xs, h1, h2.imp (sqL_ex s) (sqT_ex s), flat_ok hc.1 ra, flat_all hc.2 h3, ?_⟩
        rw [mem_ok hc.1 ra hc.2 h3]
        exact al.val s rep_bl
      · cases e
    · cases e
theorem op_inA {X : Cx} : OpR X (compareOp .In) (rInA X.K false) := op_in_str.or op_in_seq
theorem op_notInA {X : Cx} : OpR X (compareOp .NotIn) (rInA X.K true) := op_notIn_str.or op_notIn_seq
end Bm

namespace Bm
open PySem L2

section
variable {X : Cx} {W : WX} {a b e : Expr} {es : List Expr} {fa fb F : FE} {fs : Fn (List D)} {pos p : Pos}

/-! ### subscripts -/
/-- a sequence's items -/
def seqD (M : List MO) : D → Option (List T)
  | .t (.tup ts) => some ts
  | d => lstOf M d
theorem seqD_ok {K : PySem.W.Frag} {cm : Str → Addr} {μ : Nat → Addr} {I H : Hp} {M : List MO} (s : Sim K cm μ I M H) {d : D} {v : V} {ts : List T} (r : RepD K cm μ I M.length d v) (e : seqD M d = some ts) :
    ∃ a xs, v = .ref a ∧ (SqL K H a xs ∨ SqT K H a xs) ∧ RepTL K cm I ts xs := by
  unfold seqD at e
  split at e
  · cases e
    obtain ⟨a, xs, h1, h2, h3⟩ := inv_tup r
    exact ⟨a, xs, h1, .inr (sqT_ex s.sub h2), h3⟩
  · obtain ⟨a, xs, h1, h2, h3⟩ := lstOf_ok s r e
    exact ⟨a, xs, h1, .inl (SqL.of h2), h3⟩
def gIx : G2 := fun a b M => match a, b with
  | .t (.str z), .t (.int i) => if z.length ≤ sizeLine then (match atI z.cps.toList i with
    | some c => .ok (.t (.str ⟨#[c]⟩)) M
    | none => .fail) else .fail
  | a, .t (.int i) => (match seqD M a with
    | some ts => (match atI ts i with
      | some t => .ok (.t t) M
      | none => .fail)
    | none => .fail)
  | _, _ => .fail
theorem atI_rep {K : PySem.W.Frag} {cm : Str → Addr} {I : Hp} {ts : List T} {xs : List V} {i : Int} {t : T} (h : RepTL K cm I ts xs) (e : atI ts i = some t) : ∃ x, atI xs i = some x ∧ RepT K cm I t x := by
  unfold atI at e ⊢
  rw [← h.length]
  cases q : ixN ts.length i with
  | none => rw [q] at e; cases e
  | some j =>
    rw [q] at e
    exact h.get e
theorem dop_ix {K : PySem.W.Frag} {cm : Str → Addr} : DOp K cm (rIx K) gIx := fun μ I M H x y a b Q Wx s ra rb p => by
  unfold gIx at p
  split at p
  · rename_i z i
    split at p
    · rename_i hz
      split at p
      · rename_i c e
        exact .inr (.inr ⟨z, i, c, inv_str (K := K) (cm := cm) (I := I) ra, inv_int (K := K) (cm := cm) (I := I) rb, hz, e, p.str s⟩)
      · exact p.elim
    · exact p.elim
  · rename_i i _
    split at p
    · rename_i ts e
      split at p
      · rename_i t e2
        obtain ⟨a', xs, rfl, h1, h2⟩ := seqD_ok s ra e
        obtain ⟨w, h3, h4⟩ := atI_rep h2 e2
        have q := p.here s (b := w) h4
        rcases h1 with h1 | h1
        · exact .inl ⟨a', xs, i, w, rfl, inv_int (K := K) (cm := cm) (I := I) rb, h1, h3, q⟩
        · exact .inr (.inl ⟨a', xs, i, w, rfl, inv_int (K := K) (cm := cm) (I := I) rb, h1, h3, q⟩)
      · exact p.elim
    · exact p.elim
  · exact p.elim
theorem de_ix (ha : DE X W a fa) (hb : DE X W b fb) (hs : PlainIx b) : DE X W (.Subscript a b pos) (e2 gIx fa fb) := (pe_ix ix_seq ha hb hs).imp fun _ _ _ h => tOp_of dop_ix h

/-! ### slices -/
variable {lo hi : Option Expr} {fl fh : Fn (Option Int)}
def oNone : Fn (Option Int) := fun _ M => .ok none M
def oSome (F : FE) : Fn (Option Int) := fun sl M => (F sl M).bind fun d M1 => match d with
  | .t (.int i) => .ok (some i) M1
  | _ => .fail
theorem PO.imp {X : Cx} {e : Option Expr} {t t' : TO} (h : PO X e t) (i : ∀ σ H Q, t' σ H Q → t σ H Q) : PO X e t' := ⟨fun pins s σ H Q I q => h.run pins s σ H Q I (i _ _ _ q)⟩
theorem do_none : DO X W none oNone := PO.imp po_none fun σ H Q ⟨μ, I, sl, M, s, r, p⟩ => p.here s rfl
theorem do_some (h : DE X W e F) : DO X W (some e) (oSome F) := PO.imp (po_some h) fun σ H Q ⟨μ, I, sl, M, s, rs, p⟩ => ⟨μ, I, sl, M, s, rs, (Post.bind (R := RD X.K (cmOf X.mg)) p).imp fun x H1 ⟨μ1, I1, M1, d, st, ra, p1⟩ => by
  split at p1
  · exact ⟨_, inv_int (K := X.K) (cm := cmOf X.mg) (I := I1) ra, p1.here st.sim rfl⟩
  · exact p1.elim⟩
def cutT (ts : List T) (lo hi : Option Int) : List T := (ts.drop (HT.sIx ts.length 0 lo)).take (HT.sIx ts.length ts.length hi - HT.sIx ts.length 0 lo)
def gSl (d : D) (lo hi : Option Int) (M : List MO) : Res D := match d with
  | .t (.str z) => if z.length ≤ sizeLine then .ok (.t (.str (cutS z lo hi))) M else .fail
  | .t (.tup ts) => .ok (.t (.tup (cutT ts lo hi))) M
  | .t (.scr ns) => .ok (.t (.lst (cutT (ns.map T.int) lo hi))) M
  | d => match lstOf M d with
    | some ts => .ok (.t (.lst (cutT ts lo hi))) M
    | none => .fail
theorem cut_rep {K : PySem.W.Frag} {cm : Str → Addr} {I : Hp} {ts : List T} {xs : List V} {lo hi : Option Int} (h : RepTL K cm I ts xs) : RepTL K cm I (cutT ts lo hi) (cutV xs lo hi) := by
  unfold cutT cutV
  rw [← h.length]
  exact RepTL.take _ (RepTL.drop _ h)
def eSl (fa : FE) (fl fh : Fn (Option Int)) : FE := fun sl M => (fa sl M).bind fun a M1 => (fl sl M1).bind fun lo M2 => (fh sl M2).bind fun hi M3 => gSl a lo hi M3
abbrev rSlAny (K : PySem.W.Frag) : V → Option Int → Option Int → Hp → VK → Prop := fun x lo hi H Q => rSlS x lo hi H Q ∨ (rSlA K x lo hi H Q ∨ rSlL K x lo hi H Q)
theorem sl_any : SlR X (rSlAny X.K) := sl_str.or (sl_tupA.or sl_list)
theorem gSl_ok {K : PySem.W.Frag} {cm : Str → Addr} {μ : Nat → Addr} {I H : Hp} {M : List MO} {Wx : XK} {Q : VK} {a : D} {x : V} {l h : Option Int} (s : Sim K cm μ I M H) (ra : RepD K cm μ I M.length a x)
    (p : Post K cm (RD K cm) μ I M H Wx (gSl a l h M) Q) : rSlAny K x l h H Q := by
  unfold gSl at p
  split at p
  · split at p
    · rename_i hz
      exact .inl ⟨_, inv_str (K := K) (cm := cm) (I := I) ra, hz, p.str s⟩
    · exact p.elim
  · rename_i ts
    obtain ⟨a', xs, rfl, h1, h2⟩ := inv_tup ra
    refine .inr (.inl ⟨a', xs, rfl, sqT_ex s.sub h1, fun hw => ?_, fun _ q hq => (p.alloc s).tup s.sub (cut_rep h2) hq⟩)
    have e : cutT ts l h = ts := by
      unfold cutT
      rw [h2.length, hw.1, hw.2]
      simp [← h2.length]
    rw [e] at p
    exact p.here s ra
  · rename_i ns
    obtain ⟨a', rfl, h1⟩ := inv_scr (cm := cm) ra
    exact .inr (.inr ⟨a', _, rfl, sqL_ex s.sub h1, fun q hq => (p.alloc s).lst s.sub (cut_rep (RepTL.ints ns)) hq⟩)
  · split at p
    · rename_i ts e
      obtain ⟨a', xs, rfl, h1, h2⟩ := lstOf_ok s ra e
      exact .inr (.inr ⟨a', xs, rfl, SqL.of h1, fun q hq => (p.alloc s).lst s.sub (cut_rep h2) hq⟩)
    · exact p.elim
theorem de_sl {p2 : Pos} (ha : DE X W a fa) (hl : DO X W lo fl) (hh : DO X W hi fh) : DE X W (.Subscript a (.Slice lo hi none p2) pos) (eSl fa fl fh) :=
  (pe_slice sl_any ha hl hh).imp fun σ H Q ⟨μ, I, sl, M, s, rs, p⟩ => ⟨μ, I, sl, M, s, rs, (Post.bind (R := RD X.K (cmOf X.mg)) p).imp fun x H1 ⟨μ1, I1, M1, d, st, ra, p1⟩ =>
    ⟨μ1, I1, sl, M1, st.sim, rs.mono st.gr, (Post.bind (R := RO) p1).imp fun y H2 ⟨μ2, I2, M2, l, st2, rb, p2⟩ =>
    ⟨μ2, I2, sl, M2, st2.sim, (rs.mono st.gr).mono st2.gr, (Post.bind (R := RO) p2).imp fun z H3 ⟨μ3, I3, M3, h, st3, rc, p3⟩ => by
      have rb : l = y := rb
      have rc : h = z := rc
      subst rb
      subst rc
      exact gSl_ok st3.sim ((ra.mono st2.gr).mono st3.gr) p3⟩⟩⟩

/-! ### calls of built-ins -/
abbrev GC := List D → List MO → Res D
def eCB (g : GC) (fs : Fn (List D)) : FE := fun sl M => (fs sl M).bind g
def DCall (K : PySem.W.Frag) (cm : Str → Addr) (r : List V → Hp → VK → Prop) (g : GC) : Prop := ∀ μ I M H ds vs Q (Wx : XK), Sim K cm μ I M H → RepDL K cm μ I M.length ds vs → Post K cm (RD K cm) μ I M H Wx (g ds M) Q → r vs H Q
theorem TCall.d {K : PySem.W.Frag} {cm : Str → Addr} {r : List V → Hp → VK → Prop} {f : List T → Option T} (h : TCall K cm r f) : DCall K cm r (gP f) := fun μ I M H ds vs Q Wx s rr p => h.at s rr p
theorem tCB_of {r : List V → Hp → VK → Prop} {g : GC} (hd : DCall X.K (cmOf X.mg) r g) {σ H Q} (h : rdE X W (eCB g fs) σ H Q) : tCB r (rdA X W fs) σ H Q := by
  obtain ⟨μ, I, sl, M, s, rs, p⟩ := h
  exact ⟨μ, I, sl, M, s, rs, (Post.bind (R := RL X.K (cmOf X.mg)) p).imp fun x H1 ⟨μ1, I1, M1, d, st, ra, p1⟩ => hd _ _ _ _ _ _ _ _ st.sim ra p1⟩
theorem de_callB {x : Str} {id : String} {r : List V → Hp → VK → Prop} {g : GC} (hc : CallR X (.builtin id) r) (hd : DCall X.K (cmOf X.mg) r g) (hg : Gl X x) (hm : X.mg x = none) (hv : bootBuiltins x = some (.builtin id)) (ha : DA X W (e :: es) fs)
    (hn : x ≠ "__name__" := by decide) (hdb : (x == ("__debug__" : Str)) = false := by decide) (he : starEach (e :: es) X.env = (false, eval e X.env) :: starEach es X.env := by rfl) (hpl : (backTo pos (starEach es X.env)).any (·.1) = false := by rfl) :
    DE X W (.Call (.Name x p) (e :: es) [] pos) (eCB g fs) := (pe_callB hc hg hm hv ha hn hdb he hpl).imp fun _ _ _ h => tCB_of hd h
theorem de_callTy {x : Str} {id : String} {r : List V → Hp → VK → Prop} {g : GC} (hc : CallR X (.type id) r) (hd : DCall X.K (cmOf X.mg) r g) (hg : Gl X x) (hm : X.mg x = none) (hv : bootBuiltins x = some (.type id)) (ha : DA X W (e :: es) fs)
    (hn : x ≠ "__name__" := by decide) (hdb : (x == ("__debug__" : Str)) = false := by decide) (he : starEach (e :: es) X.env = (false, eval e X.env) :: starEach es X.env := by rfl) (hpl : (backTo pos (starEach es X.env)).any (·.1) = false := by rfl) :
    DE X W (.Call (.Name x p) (e :: es) [] pos) (eCB g fs) := (pe_callTy hc hg hm hv ha hn hdb he hpl).imp fun _ _ _ h => tCB_of hd h
def inv1 {K : PySem.W.Frag} {cm : Str → Addr} {μ : Nat → Addr} {I : Hp} {n : Nat} {d : D} {vs : List V} (h : RepDL K cm μ I n [d] vs) : ∃ x, vs = [x] ∧ RepD K cm μ I n d x := by
  unfold RepDL at h
  obtain ⟨x, r, rfl, h1, h2⟩ := h
  unfold RepDL at h2
  subst h2
  exact ⟨x, rfl, h1⟩
/-- len -/
def gLen : GC
  | [.t (.str z)], M => if z.length ≤ sizeLine then .ok (.t (.int z.length)) M else .fail
  | [d], M => (match seqD M d with
    | some ts => .ok (.t (.int ts.length)) M
    | none => .fail)
  | _, _ => .fail
theorem dc_len {K : PySem.W.Frag} {cm : Str → Addr} : DCall K cm (fun xs H Q => ∃ x n, xs = [x] ∧ LenV K x H n ∧ Q (.int n) H) gLen := fun μ I M H ds vs Q Wx s rr p => by
  unfold gLen at p
  split at p
  · obtain ⟨x, rfl, rx⟩ := inv1 rr
    split at p
    · rename_i hz
      refine ⟨x, _, rfl, ?_, p.int s⟩
      rw [inv_str (K := K) (cm := cm) (I := I) rx]
      exact ⟨hz, rfl⟩
    · exact p.elim
  · obtain ⟨x, rfl, rx⟩ := inv1 rr
    split at p
    · rename_i ts e
      obtain ⟨a, xs, rfl, h1, h2⟩ := seqD_ok s rx e
      refine ⟨_, _, rfl, ?_, p.int s⟩
      rcases h1 with h1 | h1
      · exact .inl ⟨xs, h1, h2.length⟩
      · exact .inr ⟨xs, h1, h2.length⟩
    · exact p.elim
  · exact p.elim
theorem de_len {q : Pos} (hg : Gl X "len") (hm : X.mg "len" = none) (ha : DA X W [e] fs) (he : starEach [e] X.env = (false, eval e X.env) :: starEach [] X.env := by rfl) : DE X W (.Call (.Name "len" q) [e] [] pos) (eCB gLen fs) :=
  de_callB call_len dc_len hg hm PySem.boot_len ha (he := he)
/-- list(..), a known list -/
def gList : GC
  | [d], M => (match seqD M d with
    | some ts => .ok (.t (.lst ts)) M
    | none => .fail)
  | _, _ => .fail
def gListM : GC
  | [d], M => (match seqD M d with
    | some ts => .ok (.m M.length) (M ++ [.lst ts])
    | none => .fail)
  | _, _ => .fail
def rListOf (K : PySem.W.Frag) : List V → Hp → VK → Prop := fun xs H Q => ∃ p ys, xs = [.ref p] ∧ (SqL K H p ys ∨ SqT K H p ys) ∧ ∀ l, H l = none → Q (.ref l) (upd H l (.lst ys))
theorem dc_list {K : PySem.W.Frag} {cm : Str → Addr} : DCall K cm (rListOf K) gList := fun μ I M H ds vs Q Wx s rr p => by
  unfold gList at p
  split at p
  · obtain ⟨x, rfl, rx⟩ := inv1 rr
    split at p
    · rename_i ts e
      obtain ⟨a, xs, rfl, h1, h2⟩ := seqD_ok s rx e
      exact ⟨a, xs, rfl, h1, fun l hl => (p.alloc s).lst s.sub h2 hl⟩
    · exact p.elim
  · exact p.elim
theorem dc_listM {K : PySem.W.Frag} {cm : Str → Addr} : DCall K cm (rListOf K) gListM := fun μ I M H ds vs Q Wx s rr p => by
  unfold gListM at p
  split at p
  · obtain ⟨x, rfl, rx⟩ := inv1 rr
    split at p
    · rename_i ts e
      obtain ⟨a, xs, rfl, h1, h2⟩ := seqD_ok s rx e
      exact ⟨a, xs, rfl, h1, fun l hl => (p.mnew s).lst s.sub h2 hl⟩
    · exact p.elim
  · exact p.elim
theorem boot_list : bootBuiltins "list" = some (.type "list") := by decide +kernel
theorem boot_tuple : bootBuiltins "tuple" = some (.type "tuple") := by decide +kernel
theorem boot_int : bootBuiltins "int" = some (.type "int") := by decide +kernel
theorem boot_str : bootBuiltins "str" = some (.type "str") := by decide +kernel
theorem boot_bool : bootBuiltins "bool" = some (.type "bool") := by decide +kernel
theorem boot_dict : bootBuiltins "dict" = some (.type "dict") := by decide +kernel
theorem boot_all : bootBuiltins "all" = some (.builtin "all") := by decide +kernel
theorem boot_any : bootBuiltins "any" = some (.builtin "any") := by decide +kernel
theorem boot_isinstance : bootBuiltins "isinstance" = some (.builtin "isinstance") := by decide +kernel
theorem boot_sum : bootBuiltins "sum" = some (.builtin "sum") := by decide +kernel
theorem boot_max : bootBuiltins "max" = some (.builtin "max") := by decide +kernel
theorem de_list {q : Pos} (hg : Gl X "list") (hm : X.mg "list" = none) (ha : DA X W [e] fs) (he : starEach [e] X.env = (false, eval e X.env) :: starEach [] X.env := by rfl) : DE X W (.Call (.Name "list" q) [e] [] pos) (eCB gList fs) :=
  de_callTy call_list_of dc_list hg hm boot_list ha (he := he)
theorem de_listM {q : Pos} (hg : Gl X "list") (hm : X.mg "list" = none) (ha : DA X W [e] fs) (he : starEach [e] X.env = (false, eval e X.env) :: starEach [] X.env := by rfl) : DE X W (.Call (.Name "list" q) [e] [] pos) (eCB gListM fs) :=
  de_callTy call_list_of dc_listM hg hm boot_list ha (he := he)
/-- tuple(..) -/
def gTuple : GC
  | [.t (.tup ts)], M => .ok (.t (.tup ts)) M
  | [d], M => (match lstOf M d with
    | some ts => .ok (.t (.tup ts)) M
    | none => .fail)
  | _, _ => .fail
def rTupleOf (K : PySem.W.Frag) : List V → Hp → VK → Prop := fun xs H Q => ∃ p ys, xs = [.ref p] ∧ ((SqL K H p ys ∧ ∀ l, H l = none → Q (.ref l) (upd H l (.tup ys))) ∨ (SqT K H p ys ∧ Q (.ref p) H))
theorem dc_tuple {K : PySem.W.Frag} {cm : Str → Addr} : DCall K cm (rTupleOf K) gTuple := fun μ I M H ds vs Q Wx s rr p => by
  unfold gTuple at p
  split at p
  · obtain ⟨x, rfl, rx⟩ := inv1 rr
    obtain ⟨a, xs, rfl, h1, h2⟩ := inv_tup rx
    exact ⟨a, xs, rfl, .inr ⟨sqT_ex s.sub h1, p.here s rx⟩⟩
  · obtain ⟨x, rfl, rx⟩ := inv1 rr
    split at p
    · rename_i ts e
      obtain ⟨a, xs, rfl, h1, h2⟩ := lstOf_ok s rx e
      exact ⟨a, xs, rfl, .inl ⟨SqL.of h1, fun l hl => (p.alloc s).tup s.sub h2 hl⟩⟩
    · exact p.elim
  · exact p.elim
theorem de_tuple {q : Pos} (hg : Gl X "tuple") (hm : X.mg "tuple" = none) (ha : DA X W [e] fs) (he : starEach [e] X.env = (false, eval e X.env) :: starEach [] X.env := by rfl) : DE X W (.Call (.Name "tuple" q) [e] [] pos) (eCB gTuple fs) :=
  de_callTy call_tuple_of dc_tuple hg hm boot_tuple ha (he := he)
/-- int(..) of an int -/
def gInt : GC
  | [.t (.int i)], M => .ok (.t (.int i)) M
  | [.t (.bl b)], M => .ok (.t (.int (if b then 1 else 0))) M
  | _, _ => .fail
theorem dc_int {K : PySem.W.Frag} {cm : Str → Addr} : DCall K cm (fun xs H Q => (∃ i, xs = [.int i] ∧ Q (.int i) H) ∨ ∃ k, xs = [.bl k] ∧ Q (.int (if k then 1 else 0)) H) gInt := fun μ I M H ds vs Q Wx s rr p => by
  unfold gInt at p
  split at p
  · obtain ⟨x, rfl, rx⟩ := inv1 rr
    exact .inl ⟨_, by rw [inv_int (K := K) (cm := cm) (I := I) rx], p.int s⟩
  · obtain ⟨x, rfl, rx⟩ := inv1 rr
    exact .inr ⟨_, by rw [inv_bl (K := K) (cm := cm) (I := I) rx], p.int s⟩
  · exact p.elim
theorem de_intc {q : Pos} (hg : Gl X "int") (hm : X.mg "int" = none) (ha : DA X W [e] fs) (he : starEach [e] X.env = (false, eval e X.env) :: starEach [] X.env := by rfl) : DE X W (.Call (.Name "int" q) [e] [] pos) (eCB gInt fs) :=
  de_callTy call_int1 dc_int hg hm boot_int ha (he := he)
/-- all, any of a list of truths -/
def blsOf : List T → Option (List Bool)
  | [] => some []
  | .bl b :: ts => (match blsOf ts with
    | some bs => some (b :: bs)
    | none => none)
  | _ => none
theorem bls_ok {K : PySem.W.Frag} {cm : Str → Addr} {I : Hp} : ∀ {ts : List T} {xs : List V} {bs : List Bool}, RepTL K cm I ts xs → blsOf ts = some bs → xs = bs.map V.bl
  | [], xs, bs, h, e => by simp [blsOf] at e; subst e; rw [inv_nil h]; rfl
  | .bl b :: ts, xs, bs, h, e => by
    obtain ⟨x, r, rfl, h1, h2⟩ := inv_cons h
    simp only [blsOf] at e
    split at e
    · rename_i bs' e'
      cases e
      rw [bls_ok h2 e', inv_bl h1]; rfl
    · cases e
  | .non :: ts, xs, bs, h, e => by simp [blsOf] at e
  | .int _ :: ts, xs, bs, h, e => by simp [blsOf] at e
  | .str _ :: ts, xs, bs, h, e => by simp [blsOf] at e
  | .ty _ :: ts, xs, bs, h, e => by simp [blsOf] at e
  | .glo _ :: ts, xs, bs, h, e => by simp [blsOf] at e
  | .cls _ :: ts, xs, bs, h, e => by simp [blsOf] at e
  | .scr _ :: ts, xs, bs, h, e => by simp [blsOf] at e
  | .lst _ :: ts, xs, bs, h, e => by simp [blsOf] at e
  | .tup _ :: ts, xs, bs, h, e => by simp [blsOf] at e
  | .ins _ _ _ :: ts, xs, bs, h, e => by simp [blsOf] at e
def gBls (f : List Bool → Bool) : GC
  | [d], M => (match lstOf M d with
    | some ts => (match blsOf ts with
      | some bs => .ok (.t (.bl (f bs))) M
      | none => .fail)
    | none => .fail)
  | _, _ => .fail
theorem dc_bls {K : PySem.W.Frag} {cm : Str → Addr} {f : List Bool → Bool} : DCall K cm (fun vs H Q => ∃ (a : Addr) (bs : List Bool), vs = [V.ref a] ∧ SqL K H a (bs.map V.bl) ∧ Q (.bl (f bs)) H) (gBls f) := fun μ I M H ds vs Q Wx s rr p => by
  unfold gBls at p
  split at p
  · obtain ⟨x, rfl, rx⟩ := inv1 rr
    split at p
    · rename_i ts e
      split at p
      · rename_i bs e2
        obtain ⟨a, xs, rfl, h1, h2⟩ := lstOf_ok s rx e
        exact ⟨a, bs, rfl, by rw [← bls_ok h2 e2]; exact SqL.of h1, p.bl s⟩
      · exact p.elim
    · exact p.elim
  · exact p.elim
theorem de_all {q : Pos} (hc : X.calm = true) (hg : Gl X "all") (hm : X.mg "all" = none) (ha : DA X W [e] fs) (he : starEach [e] X.env = (false, eval e X.env) :: starEach [] X.env := by rfl) : DE X W (.Call (.Name "all" q) [e] [] pos) (eCB (gBls fun bs => bs.all id) fs) :=
  de_callB (cr_all hc) dc_bls hg hm boot_all ha (he := he)
theorem de_any {q : Pos} (hc : X.calm = true) (hg : Gl X "any") (hm : X.mg "any" = none) (ha : DA X W [e] fs) (he : starEach [e] X.env = (false, eval e X.env) :: starEach [] X.env := by rfl) : DE X W (.Call (.Name "any" q) [e] [] pos) (eCB (gBls fun bs => bs.any id) fs) :=
  de_callB (cr_any hc) dc_bls hg hm boot_any ha (he := he)

/-! ### isinstance -/
abbrev Kd := Sum String Str
def kdOf : T → Option Kd
  | .non => some (.inl "NoneType")
  | .bl _ => some (.inl "bool")
  | .int _ => some (.inl "int")
  | .str _ => some (.inl "str")
  | .lst _ => some (.inl "list")
  | .tup _ => some (.inl "tuple")
  | .ins c _ _ => some (.inr c)
  | _ => none
def kdV (cm : Str → Addr) : Kd → Value
  | .inl n => .type n
  | .inr c => .ref (cm c)
/-- what isinstance may be asked of: own classes that are as they should be -/
structure InsOk (K : PySem.W.Frag) (C : Addr) : Prop where
  cl : Cls K C
  ha : PySem.W.findIn K (.ref C) "__class__" = some (some (.builtin "object.__class__"))
  hn : PySem.W.specialIn K (.builtin "object.__class__") "__get__" = some (some (.builtin "getset_descriptor.__get__"))
  htk : PySem.W.takesIn K (.builtin "object.__class__") = some true
  hm : PySem.W.mroIn K C (.type "object") = some true
structure TabOk (K : PySem.W.Frag) (cm : Str → Addr) (tab : Kd → Kd → Option Bool) : Prop where
  one : ∀ k c b, tab k c = some b → PySem.W.kitOne K (kdV cm k) (kdV cm c) = some b
  ins : ∀ s c b, tab (.inr s) c = some b → InsOk K (cm s)
def tgt : T → Option Kd
  | .ty n => some (.inl n)
  | .cls c => some (.inr c)
  | _ => none
def isiAny (tab : Kd → Kd → Option Bool) (k : Kd) : List T → Option Bool
  | [] => some false
  | t :: ts => match tgt t, isiAny tab k ts with
    | some c, some r => (match tab k c with
      | some b => some (b || r)
      | none => none)
    | _, _ => none
def isiT (tab : Kd → Kd → Option Bool) : List T → Option T
  | [x, .tup cs] => (match kdOf x with
    | some k => (match isiAny tab k cs with
      | some b => if cs = [] then none else some (.bl b)
      | none => none)
    | none => none)
  | [x, c] => (match kdOf x, tgt c with
    | some k, some c => (match tab k c with
      | some b => some (.bl b)
      | none => none)
    | _, _ => none)
  | _ => none
theorem kd_ok {K : PySem.W.Frag} {cm : Str → Addr} {I H : Hp} (s : Ex I H) {t : T} {v : V} {k : Kd} (r : RepT K cm I t v) (e : kdOf t = some k) (hi : ∀ c, k = .inr c → InsOk K (cm c)) : TyX K H v (kdV cm k) := by
  cases t <;> first
    | (cases e; done)
    | (cases e
       first
       | (rw [inv_non r]; exact .base .non)
       | (rw [inv_bl r]; exact .base (.bl _))
       | (rw [inv_int r]; exact .base (.int _))
       | (rw [inv_str r]; exact .base (.str _))
       | (obtain ⟨a, xs, rfl, h1, h2⟩ := inv_lst r; exact .base (.lst (s _ _ h1)))
       | (obtain ⟨a, xs, rfl, h1, h2⟩ := inv_tupU r
          rcases h1 with h1 | ⟨o, its, n, h1, h3, _⟩
          · exact .base (.tup (s _ _ h1))
          · exact .kTuple h1 h3)
       | (obtain ⟨a, dx, xs, rfl, h1, h2, h3⟩ := inv_ins r
          have q := hi _ rfl
          exact .base (.ins (s _ _ h1) q.cl q.ha q.hn q.htk q.hm)))
theorem tgt_ok {K : PySem.W.Frag} {cm : Str → Addr} {I : Hp} {t : T} {v : V} {k : Kd} (r : RepT K cm I t v) (e : tgt t = some k) : ClsV v (kdV cm k) := by
  cases t <;> first
    | (cases e; done)
    | (cases e
       first
       | (have r : v = .ty _ := r
          rw [r]; exact .ty _)
       | (have r : v = .ref _ := r
          rw [r]; exact .own _))
theorem isiAny_ok {K : PySem.W.Frag} {cm : Str → Addr} {tab : Kd → Kd → Option Bool} (tk : TabOk K cm tab) {k : Kd} {I : Hp} : ∀ {ts : List T} {xs : List V} {b : Bool}, RepTL K cm I ts xs → isiAny tab k ts = some b →
    ∃ us, Paired ClsV xs us ∧ PySem.W.kitAny K (kdV cm k) us = some b ∧ (ts ≠ [] → ∀ c, k = .inr c → InsOk K (cm c))
  | [], xs, b, r, e => by
    simp [isiAny] at e; subst e
    rw [inv_nil r]
    exact ⟨[], .nil, kitAny_nil, fun h => absurd rfl h⟩
  | t :: ts, xs, b, r, e => by
    obtain ⟨x, r', rfl, h1, h2⟩ := inv_cons r
    unfold isiAny at e
    split at e
    · rename_i c r e1 e3
      split at e
      · rename_i b' e2
        cases e
        obtain ⟨us, h3, h4, h5⟩ := isiAny_ok tk h2 e3
        refine ⟨kdV cm c :: us, .cons (tgt_ok h1 e1) h3, kitAny_cons (tk.one _ _ _ e2) (fun q => ?_) (fun q => ?_), fun _ s hs => by subst hs; exact tk.ins _ _ _ e2⟩
        · subst q; exact h4
        · subst q; rfl
      · cases e
    · cases e
theorem inv2 {K : PySem.W.Frag} {cm : Str → Addr} {I : Hp} {t u : T} {vs : List V} (h : RepTL K cm I [t, u] vs) : ∃ x y, vs = [x, y] ∧ RepT K cm I t x ∧ RepT K cm I u y := inv_2 h
def rIsiA (K : PySem.W.Frag) : List V → Hp → VK → Prop := fun vs H Q => rIsi K vs H Q ∨ (rIsiT K vs H Q ∨ rIsiK K vs H Q)
theorem CallR.or {X : Cx} {f : Value} {r r' : List V → Hp → VK → Prop} (h : CallR X f r) (h' : CallR X f r') : CallR X f (fun vs H Q => r vs H Q ∨ r' vs H Q) := fun pins s σ H xs us Q I rv q => by
  rcases q with q | q
  · exact h pins s σ H xs us Q I rv q
  · exact h' pins s σ H xs us Q I rv q
theorem call_isiA {X : Cx} : CallR X (.builtin "isinstance") (rIsiA X.K) := CallR.or call_isi (CallR.or call_isiT call_isiK)
theorem tc_isi {K : PySem.W.Frag} {cm : Str → Addr} {tab : Kd → Kd → Option Bool} (tk : TabOk K cm tab) : TCall K cm (rIsiA K) (isiT tab) := by
  intro I H ts c vs Q s rr e al
  unfold isiT at e
  split at e
  · rename_i x cs
    split at e
    · rename_i k e1
      split at e
      · rename_i b e2
        split at e
        · cases e
        · rename_i hne
          cases e
          obtain ⟨v, w, rfl, h1, h2⟩ := inv_2 rr
          obtain ⟨a, xs, rfl, h3, h4⟩ := inv_tupU h2
          obtain ⟨us, h5, h6, h7⟩ := isiAny_ok tk h4 e2
          have ty := kd_ok s h1 e1 (h7 hne)
          have q := al.val s rep_bl
          rcases h3 with h3 | ⟨o, its, n, h8, h9, h10, _, h11⟩
          · exact .inr (.inl ⟨v, a, xs, _, us, _, rfl, s _ _ h3, h5, ty, h6, q⟩)
          · have eu := ClsV.all h5 h11
            obtain ⟨oc, od, ot, os⟩ := o
            subst h9
            subst h10
            refine .inr (.inr ⟨v, a, od, us, n, os, _, _, rfl, ?_, ty, h6, q⟩)
            rw [← eu]
            exact h8
      · cases e
    · cases e
  · rename_i x c' hx
    split at e
    · rename_i k c1 e1 e2
      split at e
      · rename_i b e3
        cases e
        obtain ⟨v, w, rfl, h1, h2⟩ := inv_2 rr
        exact .inl ⟨v, w, _, _, _, rfl, tgt_ok h2 e2, kd_ok s h1 e1 (fun s hs => by subst hs; exact tk.ins _ _ _ e3), tk.one _ _ _ e3, al.val s rep_bl⟩
      · cases e
    · cases e
  · cases e
end
end Bm

namespace Bm
open PySem L2

inductive SRes where
  | nx (sl : List (Option D)) (M : List MO) | rt (d : D) (M : List MO) | bk (sl : List (Option D)) (M : List MO) | ct (sl : List (Option D)) (M : List MO) | exc (x : Xn) (sl : List (Option D)) (M : List MO) | fail
abbrev FS := List (Option D) → List MO → SRes
def Res.toS {α : Type} (r : Res α) (sl : List (Option D)) (f : α → List MO → SRes) : SRes := match r with
  | .ok a M => f a M
  | .exc x M => .exc x sl M
  | .fail => .fail
section
variable (K : PySem.W.Frag) (cm : Str → Addr)
def PostS (μ : Nat → Addr) (I : Hp) (M : List MO) (H : Hp) (W : WX) (r : SRes) (D : Ends) : Prop := match r with
  | .nx sl' M' => ∀ μ' I' H' σ', Step K cm μ I M H μ' I' M' H' → RepS K cm μ' I' M'.length sl' σ' → D.nx σ' H'
  | .bk sl' M' => ∀ μ' I' H' σ', Step K cm μ I M H μ' I' M' H' → RepS K cm μ' I' M'.length sl' σ' → D.bk σ' H'
  | .ct sl' M' => ∀ μ' I' H' σ', Step K cm μ I M H μ' I' M' H' → RepS K cm μ' I' M'.length sl' σ' → D.ct σ' H'
  | .rt d M' => ∀ μ' I' H' v, Step K cm μ I M H μ' I' M' H' → RepD K cm μ' I' M'.length d v → D.rt v H'
  | .exc x sl' M' => ∀ μ' I' H' σ' e d, Step K cm μ I M H μ' I' M' H' → RepS K cm μ' I' M'.length sl' σ' → RepX K cm I' H' x e d → W e d σ' H'
  | .fail => False
def rdS' (W : WX) (F : FS) : TS := fun D σ H => ∃ μ I sl M, Sim K cm μ I M H ∧ RepS K cm μ I M.length sl σ ∧ PostS K cm μ I M H W (F sl M) D
end
section
variable {K : PySem.W.Frag} {cm : Str → Addr} {μ μ' : Nat → Addr} {I I' : Hp} {M M' : List MO} {H H' : Hp} {W : WX} {Z : Ends} {sl : List (Option D)} {σ : L2.St}
theorem PostS.step {r : SRes} (s : Step K cm μ I M H μ' I' M' H') (p : PostS K cm μ I M H W r Z) : PostS K cm μ' I' M' H' W r Z := by
  cases r with
  | nx a M1 => exact fun μ1 I1 H1 b st h => p μ1 I1 H1 b (s.trans st) h
  | bk a M1 => exact fun μ1 I1 H1 b st h => p μ1 I1 H1 b (s.trans st) h
  | ct a M1 => exact fun μ1 I1 H1 b st h => p μ1 I1 H1 b (s.trans st) h
  | rt a M1 => exact fun μ1 I1 H1 b st h => p μ1 I1 H1 b (s.trans st) h
  | exc x a M1 => exact fun μ1 I1 H1 b e d st h => p μ1 I1 H1 b e d (s.trans st) h
  | fail => exact p
theorem PostS.bind {α β : Type} {R : Rl α β} {r : Res α} {f : α → List MO → SRes} (p : PostS K cm μ I M H W (r.toS sl f) Z) (rs : RepS K cm μ I M.length sl σ) :
    Post K cm R μ I M H (fun e d H' => W e d σ H') r (fun b H1 => ∃ μ1 I1 M1 a, Step K cm μ I M H μ1 I1 M1 H1 ∧ R μ1 I1 M1.length a b ∧ PostS K cm μ1 I1 M1 H1 W (f a M1) Z) := by
  cases r with
  | ok a M1 => exact fun μ1 I1 H1 b st h => ⟨μ1, I1, M1, a, st, h, p.step st⟩
  | exc x M1 => exact fun μ1 I1 H1 e d st h => p μ1 I1 H1 σ e d st (rs.mono st.gr) h
  | fail => exact p
theorem PostS.here {sl' : List (Option D)} (s : Sim K cm μ I M H) (rs : RepS K cm μ I M.length sl' σ) (p : PostS K cm μ I M H W (.nx sl' M) Z) : Z.nx σ H := p μ I H σ (Step.refl s) rs
end
abbrev rdS (X : Cx) (W : WX) (F : FS) : TS := rdS' X.K (cmOf X.mg) W F
abbrev DS (X : Cx) (W : WX) (st : Stmt) (F : FS) : Prop := PS X st (rdS X W F)
abbrev DSs (X : Cx) (W : WX) (st : List Stmt) (F : FS) : Prop := PSs X st (rdS X W F)

section
variable {X : Cx} {W : WX} {a b c e : Expr} {st : Stmt} {rest body orelse : List Stmt} {F fa fb : FE} {f g : FS} {tc : Fn Bool} {pos : Pos}
def sSeq (f g : FS) : FS := fun sl M => match f sl M with
  | .nx sl1 M1 => g sl1 M1
  | r => r
theorem tSeq_of {Z : Ends} {σ H} (h : rdS X W (sSeq f g) Z σ H) : tSeq (rdS X W f) (rdS X W g) Z σ H := by
  obtain ⟨μ, I, sl, M, s, rs, p⟩ := h
  refine ⟨μ, I, sl, M, s, rs, ?_⟩
  unfold sSeq at p
  cases r' : f sl M with
  | nx a b =>
    rw [r'] at p
    exact fun μ1 I1 H1 σ1 st r1 => ⟨μ1, I1, a, b, st.sim, r1, PostS.step st p⟩
  | bk a b => rw [r'] at p; exact p
  | ct a b => rw [r'] at p; exact p
  | rt a b => rw [r'] at p; exact p
  | exc x a b => rw [r'] at p; exact p
  | fail => rw [r'] at p; exact p
def sSkip : FS := fun sl M => .nx sl M
theorem dss_nil : DSs X W [] sSkip := pss_nil.imp fun D σ H ⟨μ, I, sl, M, s, rs, p⟩ => p.here s rs
theorem dss_cons (h1 : DS X W st f) (h2 : DSs X W rest g) : DSs X W (st :: rest) (sSeq f g) := (pss_cons h1 h2).imp fun _ _ _ h => tSeq_of h
theorem dss_one (h1 : DS X W st f) : DSs X W [st] f := pss_one h1
def sPass : FS := fun sl M => .nx sl M
theorem ds_pass : DS X W (.Pass pos) sPass := ps_pass.imp fun D σ H ⟨μ, I, sl, M, s, rs, p⟩ => p.here s rs
def sBreak : FS := fun sl M => .bk sl M
theorem ds_break : DS X W (.Break pos) sBreak := ps_break.imp fun D σ H ⟨μ, I, sl, M, s, rs, p⟩ => p μ I H σ (Step.refl s) rs
def sCont : FS := fun sl M => .ct sl M
theorem ds_continue : DS X W (.Continue pos) sCont := ps_continue.imp fun D σ H ⟨μ, I, sl, M, s, rs, p⟩ => p μ I H σ (Step.refl s) rs
def sNever : FS := fun _ _ => .fail
theorem ds_never : DS X W st sNever := (ps_never (X := X) (st := st)).imp fun D σ H ⟨μ, I, sl, M, s, rs, p⟩ => p.elim
theorem dss_never : DSs X W rest sNever := (pss_never (X := X) (sts := rest)).imp fun D σ H ⟨μ, I, sl, M, s, rs, p⟩ => p.elim
def sExpr (F : FE) : FS := fun sl M => (F sl M).toS sl fun _ M1 => .nx sl M1
theorem ds_expr (he : DE X W e F) (hs : swapsWith e none pos.line X.env = pure false := by rfl) : DS X W (.Expr e pos) (sExpr F) :=
  (ps_expr he hs).imp fun D σ H ⟨μ, I, sl, M, s, rs, p⟩ => ⟨μ, I, sl, M, s, rs, (PostS.bind (R := RD X.K (cmOf X.mg)) p rs).imp fun x H1 ⟨μ1, I1, M1, d, st, ra, p1⟩ => p1.here st.sim (rs.mono st.gr)⟩
def sRet (F : FE) : FS := fun sl M => (F sl M).toS sl fun d M1 => .rt d M1
theorem ds_ret (he : DE X W e F) : DS X W (.Return (some e) pos) (sRet F) :=
  (ps_ret he).imp fun D σ H ⟨μ, I, sl, M, s, rs, p⟩ => ⟨μ, I, sl, M, s, rs, (PostS.bind (R := RD X.K (cmOf X.mg)) p rs).imp fun x H1 ⟨μ1, I1, M1, d, st, ra, p1⟩ => p1 μ1 I1 H1 x (Step.refl st.sim) ra⟩
def sRetN : FS := fun sl M => .rt (.t .non) M
theorem ds_retN : DS X W (.Return none pos) sRetN := ps_retN.imp fun D σ H ⟨μ, I, sl, M, s, rs, p⟩ => p μ I H .non (Step.refl s) (rep_non (K := X.K) (cm := cmOf X.mg) (I := I))
def sIf (t : Fn Bool) (f g : FS) : FS := fun sl M => (t sl M).toS sl fun k M1 => if k then f sl M1 else g sl M1
theorem ds_if (hc : DT X W c tc) (ha : DSs X W body f) (hb : DSs X W orelse g) : DS X W (.If c body orelse pos) (sIf tc f g) :=
  (ps_if hc ha hb).imp fun D σ H ⟨μ, I, sl, M, s, rs, p⟩ => ⟨μ, I, sl, M, s, rs, (PostS.bind (R := RB) p rs).imp fun x H1 ⟨μ1, I1, M1, k, st, ra, p1⟩ => by
    have ra : k = x := ra
    subst ra
    cases k with
    | true => rw [if_pos rfl] at p1 ⊢; exact ⟨μ1, I1, sl, M1, st.sim, rs.mono st.gr, p1⟩
    | false => rw [if_neg Bool.false_ne_true] at p1 ⊢; exact ⟨μ1, I1, sl, M1, st.sim, rs.mono st.gr, p1⟩⟩

/-! ### targets -/
/-- the slots but those of is stand -/
def SameBut (is : List Nat) (σ σ' : L2.St) : Prop := σ'.length = σ.length ∧ ∀ j, j ∉ is → σ'[j]? = σ[j]?
abbrev GG := D → FS
def zG (is : List Nat) (σ : L2.St) (Q : L2.St → Hp → Prop) : Ends := { nx := fun σ' H' => SameBut is σ σ' → Q σ' H', rt := fun _ _ => False }
def rdG (X : Cx) (W : WX) (is : List Nat) (G : GG) : TG := fun v σ H Q => ∃ μ I sl M d, Sim X.K (cmOf X.mg) μ I M H ∧ RepS X.K (cmOf X.mg) μ I M.length sl σ ∧ RepD X.K (cmOf X.mg) μ I M.length d v ∧
  PostS X.K (cmOf X.mg) μ I M H W (G d sl M) (zG is σ Q)
def rdGs (X : Cx) (W : WX) (is : List Nat) (G : List T → FS) : TGs := fun vs σ H Q => ∃ μ I sl M ts, Sim X.K (cmOf X.mg) μ I M H ∧ RepS X.K (cmOf X.mg) μ I M.length sl σ ∧ RepTL X.K (cmOf X.mg) I ts vs ∧
  match G ts sl M with
  | .nx sl' M' => ∀ μ' I' H' σ', Step X.K (cmOf X.mg) μ I M H μ' I' M' H' → RepS X.K (cmOf X.mg) μ' I' M'.length sl' σ' → SameBut is σ σ' → Q σ' H'
  | _ => False
abbrev DG (X : Cx) (W : WX) (is : List Nat) (tg : Expr) (G : GG) : Prop := PG X tg (rdG X W is G)
abbrev DGs (X : Cx) (W : WX) (is : List Nat) (tgs : List Expr) (G : List T → FS) : Prop := PGs X tgs (rdGs X W is G)
theorem PG.imp {X : Cx} {e : Expr} {t t' : TG} (h : PG X e t) (i : ∀ v σ H Q, t' v σ H Q → t v σ H Q) : PG X e t' := ⟨fun pins s σ H v u Q I r q => h.run pins s σ H v u Q I r (i _ _ _ _ q)⟩
theorem PGs.imp {X : Cx} {e : List Expr} {t t' : TGs} (h : PGs X e t) (i : ∀ v σ H Q, t' v σ H Q → t v σ H Q) : PGs X e t' := ⟨fun pins s σ H v u Q I r q => h.run pins s σ H v u Q I r (i _ _ _ _ q)⟩
theorem SameBut.set {σ : L2.St} {i : Nat} {v : V} : SameBut [i] σ (σ.set i (some v)) := ⟨by simp, fun j hj => List.getElem?_set_ne (fun q => hj (by simp [q]))⟩
theorem SameBut.trans {is js : List Nat} {σ σ1 σ2 : L2.St} (a : SameBut is σ σ1) (b : SameBut js σ1 σ2) : SameBut (is ++ js) σ σ2 :=
  ⟨b.1.trans a.1, fun j hj => (b.2 j (fun q => hj (List.mem_append_right _ q))).trans (a.2 j (fun q => hj (List.mem_append_left _ q)))⟩
def gNm (i : Nat) : GG := fun d sl M => .nx (sl.set i (some d)) M
theorem dg_name {i : Nat} {x : Str} (hN : X.N.Nodup) (hi : X.N[i]? = some x) (hx : Loc X.env.scope x) (hf : X.fn x = true ∨ X.env.scope.names.lookup x = some .local := by first | exact .inl rfl | exact .inr rfl | assumption) : DG X W [i] (.Name x pos) (gNm i) :=
  PG.imp (pg_name hN hi hx hf) fun v σ H Q ⟨μ, I, sl, M, d, s, rs, rd, p⟩ => p μ I H _ (Step.refl s) (rs.set i rd) SameBut.set
def gsNil : List T → FS := fun ts sl M => match ts with
  | [] => .nx sl M
  | _ => .fail
def gsCons (g : GG) (gs : List T → FS) : List T → FS := fun ts sl M => match ts with
  | t :: ts => (match g (.t t) sl M with
    | .nx sl1 M1 => gs ts sl1 M1
    | _ => .fail)
  | _ => .fail
theorem dgs_nil : DGs X W [] [] gsNil := PGs.imp pgs_nil fun v σ H Q ⟨μ, I, sl, M, ts, s, rs, rd, p⟩ => by
  cases ts with
  | nil => exact ⟨inv_nil rd, p μ I H σ (Step.refl s) rs ⟨rfl, fun _ _ => rfl⟩⟩
  | cons t ts => exact p.elim
theorem dgs_cons {is js : List Nat} {es : List Expr} {g : GG} {gs : List T → FS} (h1 : DG X W is e g) (h2 : DGs X W js es gs)
    (hs : (assignEach (e :: es) X.env).map (·.2) = assign e X.env :: (assignEach es X.env).map (·.2) := by rfl) : DGs X W (is ++ js) (e :: es) (gsCons g gs) :=
  PGs.imp (pgs_cons h1 h2 hs) fun v σ H Q ⟨μ, I, sl, M, ts, s, rs, rd, p⟩ => by
    cases ts with
    | nil => exact p.elim
    | cons t ts =>
      obtain ⟨x, r, rfl, r1, r2⟩ := inv_cons rd
      refine ⟨x, r, rfl, μ, I, sl, M, .t t, s, rs, r1, ?_⟩
      unfold gsCons at p
      dsimp only at p
      cases q : g (.t t) sl M with
      | nx sl1 M1 =>
        rw [q] at p
        dsimp only at p
        intro μ1 I1 H1 σ1 st rs1 sb
        refine ⟨μ1, I1, sl1, M1, ts, st.sim, rs1, RepTL.mono st.gr.ex _ _ r2, ?_⟩
        cases q2 : gs ts sl1 M1 with
        | nx sl2 M2 =>
          rw [q2] at p
          exact fun μ2 I2 H2 σ2 st2 rs2 sb2 => p μ2 I2 H2 σ2 (st.trans st2) rs2 (sb.trans sb2)
        | bk a b => rw [q2] at p; exact p.elim
        | ct a b => rw [q2] at p; exact p.elim
        | rt a b => rw [q2] at p; exact p.elim
        | exc x a b => rw [q2] at p; exact p.elim
        | fail => rw [q2] at p; exact p.elim
      | bk a b => rw [q] at p; exact p.elim
      | ct a b => rw [q] at p; exact p.elim
      | rt a b => rw [q] at p; exact p.elim
      | exc x a b => rw [q] at p; exact p.elim
      | fail => rw [q] at p; exact p.elim
def gTp (n : Nat) (gs : List T → FS) : GG := fun d sl M => match d with
  | .t (.tup ts) => if ts.length = n then (match gs ts sl M with
    | .nx a b => .nx a b
    | _ => .fail) else .fail
  | _ => .fail
theorem dg_tup {is : List Nat} {es : List Expr} {k n : Nat} {gs : List T → FS} (hc : X.calm = true) (h : DGs X W is es gs)
    (hn : (assignEach es X.env).length = n := by rfl) (hst : (assignEach es X.env).findIdx? (·.1) = none := by rfl) : DG X W is (.Tuple es k pos) (gTp n gs) :=
  PG.imp (pg_tup hc h hn hst) fun v σ H Q ⟨μ, I, sl, M, d, s, rs, rd, p⟩ => by
    unfold gTp at p
    cases d with
    | m k => exact p.elim
    | t t =>
      cases t <;> first
        | exact p.elim
        | (rename_i ts
           obtain ⟨a, xs, rfl, h1, h2⟩ := inv_tup rd
           dsimp only at p
           by_cases hl : ts.length = n
           · rw [if_pos hl] at p
             exact ⟨a, xs, rfl, sqT_ex s.sub h1, by rw [← h2.length]; exact hl, μ, I, sl, M, ts, s, rs, h2, by
               cases q : gs ts sl M with
               | nx sl1 M1 => rw [q] at p; exact p
               | bk a b => rw [q] at p; exact p.elim
               | ct a b => rw [q] at p; exact p.elim
               | rt a b => rw [q] at p; exact p.elim
               | exc x a b => rw [q] at p; exact p.elim
               | fail => rw [q] at p; exact p.elim⟩
           · rw [if_neg hl] at p; exact p.elim)
end
end Bm

namespace Bm
open PySem L2

section
variable {X : Cx} {W : WX} {a b c e : Expr} {st : Stmt} {rest body orelse : List Stmt} {F fa fb : FE} {f g : FS} {tc : Fn Bool} {pos : Pos} {is : List Nat}

/-! ### assignments -/
def sAsg (F : FE) (G : GG) : FS := fun sl M => (F sl M).toS sl fun d M1 => match G d sl M1 with
  | .nx sl2 M2 => .nx sl2 M2
  | .exc x sl2 M2 => .exc x sl2 M2
  | _ => .fail
theorem tAsg_of {G : GG} {Z : Ends} {σ H} (h : rdS X W (sAsg F G) Z σ H) : tAsg (rdE X W F) (rdG X W is G) Z σ H := by
  obtain ⟨μ, I, sl, M, s, rs, p⟩ := h
  refine ⟨μ, I, sl, M, s, rs, (PostS.bind (R := RD X.K (cmOf X.mg)) p rs).imp fun x H1 ⟨μ1, I1, M1, d, st, ra, p1⟩ => ?_⟩
  refine ⟨μ1, I1, sl, M1, d, st.sim, rs.mono st.gr, ra, ?_⟩
  cases q : G d sl M1 with
  | nx sl2 M2 => rw [q] at p1; exact fun μ2 I2 H2 σ2 st2 rs2 _ => p1 μ2 I2 H2 σ2 st2 rs2
  | exc x a b => rw [q] at p1; exact p1
  | bk a b => rw [q] at p1; exact p1.elim
  | ct a b => rw [q] at p1; exact p1.elim
  | rt a b => rw [q] at p1; exact p1.elim
  | fail => rw [q] at p1; exact p1.elim
theorem ds_asg {tg : Expr} {G : GG} (he : DE X W e F) (hg : DG X W is tg G) (hs : swapsWithSole [tg] e pos.line X.env = pure false := by rfl) (hw : swappedStores [tg] e X.env = pure none := by rfl)
    (h1 : (assignEach [tg] X.env).map (·.2) = [assign tg X.env] := by rfl) : DS X W (.Assign [tg] e pos) (sAsg F G) := (ps_asg he hg hs hw h1).imp fun _ _ _ h => tAsg_of h
def sSet (i : Nat) (F : FE) : FS := fun sl M => (F sl M).toS sl fun d M1 => .nx (sl.set i (some d)) M1
theorem tSet_of {i : Nat} {Z : Ends} {σ H} (h : rdS X W (sSet i F) Z σ H) : tAsg (rdE X W F) (gName i) Z σ H := by
  obtain ⟨μ, I, sl, M, s, rs, p⟩ := h
  exact ⟨μ, I, sl, M, s, rs, (PostS.bind (R := RD X.K (cmOf X.mg)) p rs).imp fun x H1 ⟨μ1, I1, M1, d, st, ra, p1⟩ => p1.here st.sim ((rs.mono st.gr).set i ra)⟩
theorem ds_set {i : Nat} {x : Str} {pos' : Pos} (hN : X.N.Nodup) (hi : X.N[i]? = some x) (hx : Loc X.env.scope x) (he : DE X W e F) (hs : swapsWith e (some (.Name x pos')) pos.line X.env = pure false := by rfl) (hf : X.fn x = true ∨ X.env.scope.names.lookup x = some .local := by first | exact .inl rfl | exact .inr rfl | assumption) :
    DS X W (.Assign [.Name x pos'] e pos) (sSet i F) := (ps_set hN hi hx he hs hf).imp fun _ _ _ h => tSet_of h
/-- a, b = x, y -/
def sPar (i j : Nat) (fs : Fn (List D)) : FS := fun sl M => (fs sl M).toS sl fun ds M1 => match ds with
  | [d, d'] => .nx ((sl.set i (some d)).set j (some d')) M1
  | _ => .fail
theorem ds_par {i j : Nat} {x y : Str} {fs : Fn (List D)} {px py pt : Pos} {kt k2 pt2} (hc : X.calm = true) (hN : X.N.Nodup) (hi : X.N[i]? = some x) (hj : X.N[j]? = some y) (hij : i ≠ j)
    (hx : X.env.scope.names.lookup x = some .local) (hy : X.env.scope.names.lookup y = some .local) (ha : DA X W [a, b] fs)
    (hw : swappedStores [.Tuple [.Name x px, .Name y py] kt pt] (.Tuple [a, b] k2 pt2) X.env = pure (some [x, y]))
    (hs : swapsWithSole [.Tuple [.Name x px, .Name y py] kt pt] (.Tuple [a, b] k2 pt2) pos.line X.env = pure false := by rfl) :
    DS X W (.Assign [.Tuple [.Name x px, .Name y py] kt pt] (.Tuple [a, b] k2 pt2) pos) (sPar i j fs) :=
  (ps_par hc hN hi hj hij hx hy ha hw hs).imp fun Z σ H ⟨μ, I, sl, M, s, rs, p⟩ => ⟨μ, I, sl, M, s, rs, (PostS.bind (R := RL X.K (cmOf X.mg)) p rs).imp fun vs H1 ⟨μ1, I1, M1, ds, st, ra, p1⟩ => by
    split at p1
    · rename_i d d'
      have ra : RepDL X.K (cmOf X.mg) μ1 I1 M1.length [d, d'] vs := ra
      unfold RepDL at ra
      obtain ⟨v, r, rfl, r1, r2⟩ := ra
      unfold RepDL at r2
      obtain ⟨w, r', rfl, r3, r4⟩ := r2
      unfold RepDL at r4
      subst r4
      exact ⟨v, w, rfl, p1.here st.sim (((rs.mono st.gr).set i r1).set j r3)⟩
    · exact p1.elim⟩

/-! ### the store's lists -/
/-- a list of the store gets other items -/
theorem mset_step {K : PySem.W.Frag} {cm : Str → Addr} {μ : Nat → Addr} {I H : Hp} {M : List MO} {k : Nat} {ts us : List T} {ys : List V} (s : Sim K cm μ I M H) (e : M[k]? = some (.lst ts)) (r : RepTL K cm I us ys) :
    Step K cm μ I M H μ I (M.set k (.lst us)) (upd H (μ k) (.lst ys)) := by
  have hk : k < M.length := (List.getElem?_eq_some_iff.mp e).1
  obtain ⟨hI, xs, hH, _⟩ := s.obj k _ e
  have nI : ∀ a o, I a = some o → a ≠ μ k := fun a o h q => by rw [q, hI] at h; cases h
  refine ⟨⟨fun _ _ => rfl, by simp, Ex.refl _⟩, ⟨fun a o h => by rw [upd_ne (nI a o h)]; exact s.sub a o h, by simpa using s.inj, fun j hj => ?_, fun j o ej => ?_⟩, fun a o h nk => by rw [upd_ne (nk k hk)]; exact h, fun _ _ _ h _ => h, fun j h1 h2 => by simp at h2; omega⟩
  · simp at hj
    by_cases q : μ j = μ k
    · exact ⟨_, by rw [q]; exact upd_same⟩
    · obtain ⟨o, h⟩ := s.tr j hj
      exact ⟨o, by rw [upd_ne q]; exact h⟩
  · by_cases hj : k = j
    · subst hj
      rw [List.getElem?_set_self hk] at ej
      cases ej
      exact ⟨hI, ys, upd_same, r⟩
    · rw [List.getElem?_set_ne hj] at ej
      have hjl : j < M.length := (List.getElem?_eq_some_iff.mp ej).1
      have nm : μ j ≠ μ k := fun q => hj (s.inj k j hk hjl q.symm)
      have q := s.obj j o ej
      rw [List.length_set]
      cases o with
      | lst us =>
        obtain ⟨q1, zs, q2, q3⟩ := q
        exact ⟨q1, zs, by rw [upd_ne nm]; exact q2, q3⟩
      | ins cl ns ds =>
        obtain ⟨q1, dx, zs, q2, q3, q4⟩ := q
        exact ⟨q1, dx, zs, by rw [upd_ne nm]; exact q2, q3, q4⟩
      | frz w => exact q
      | dead => exact q
/-- o[i] = d, o a list of the store -/
def gSubM (fo fi : FE) : GG := fun d sl M => (fo sl M).toS sl fun o M1 => (fi sl M1).toS sl fun i M2 => match o, i with
  | .m k, .t (.int n) => (match M2[k]? with
    | some (.lst ts) => (match ixN ts.length n with
      | some j => (match frz1 M2 d with
        | some (t, M3) => (match M3[k]? with
          | some (.lst ts) => .nx sl (M3.set k (.lst (ts.set j t)))
          | _ => .fail)
        | none => .fail)
      | none => .fail)
    | _ => .fail)
  | _, _ => .fail
theorem dg_subM {o i : Expr} {fo fi : FE} (ho : DE X W o fo) (hi : DE X W i fi)
    (ha : ∀ v, assign (.Subscript o i pos) X.env v = (do
      let ov ← holding [v] (eval o X.env)
      let iv ← holding [v, ov] (eval i X.env)
      standAt pos
      holding [v, ov, iv] (setItem ov iv v)
      release [v, ov, iv] []) := by intro _; rfl) : DG X W [] (.Subscript o i pos) (gSubM fo fi) :=
  PG.imp (pg_sub ho hi set_list ha) fun v σ H Q ⟨μ, I, sl, M, d, s, rs, rd, p⟩ => by
    refine ⟨μ, I, sl, M, s, rs, (PostS.bind (R := RD X.K (cmOf X.mg)) p rs).imp fun x H1 ⟨μ1, I1, M1, o, st, ra, p1⟩ => ?_⟩
    refine ⟨μ1, I1, sl, M1, st.sim, rs.mono st.gr, (PostS.bind (R := RD X.K (cmOf X.mg)) p1 (rs.mono st.gr)).imp fun y H2 ⟨μ2, I2, M2, i, st2, rb, p2⟩ => ?_⟩
    have rs2 := (rs.mono st.gr).mono st2.gr
    have ra2 := ra.mono st2.gr
    have rd2 := (rd.mono st.gr).mono st2.gr
    split at p2
    · rename_i k n _
      split at p2
      · rename_i ts e1
        split at p2
        · rename_i j e2
          split at p2
          · rename_i t M3 e3
            split at p2
            · rename_i ts' e4
              obtain ⟨_, rfl⟩ := ra2
              obtain ⟨I3, st3, r3⟩ := frz1_ok st2.sim rd2 e3
              obtain ⟨_, xs, h1, h2⟩ := st3.sim.obj k _ e4
              obtain ⟨_, xs2, h3, h4⟩ := st2.sim.obj k _ e1
              have ex : xs2 = xs := by
                rw [h1] at h3
                injection h3 with h3
                injection h3 with h3
                exact h3.symm
              subst ex
              refine ⟨μ2 k, xs2, n, j, rfl, inv_int (K := X.K) (cm := cmOf X.mg) (I := I2) rb, h1, by rw [← h4.length]; exact e2, ?_⟩
              have st4 := mset_step st3.sim e4 (h2.set (i := j) r3)
              exact PostS.here (PostS.step (st3.trans st4) p2 |> fun _ => st4.sim) ((rs2.mono st3.gr).mono st4.gr) (PostS.step (st3.trans st4) p2) ⟨rfl, fun _ _ => rfl⟩
            · exact p2.elim
          · exact p2.elim
        · exact p2.elim
      · exact p2.elim
    · exact p2.elim

/-! ### a list's methods -/
variable {es : List Expr} {fs : Fn (List D)} {p apos cpos : Pos}
abbrev GM := D → List D → List MO → Res D
def DMt (K : PySem.W.Frag) (cm : Str → Addr) (T : String) (r : V → List V → Hp → VK → Prop) (g : GM) : Prop := ∀ μ I M H d ds v vs Q (Wx : XK), Sim K cm μ I M H → RepD K cm μ I M.length d v → RepDL K cm μ I M.length ds vs →
  Post K cm (RD K cm) μ I M H Wx (g d ds M) Q → r v vs H Q
/-- what a receiver must be ahead of the arguments -/
def eBM (ty : D → List MO → Bool) (g : GM) (fo : FE) (fs : Fn (List D)) : FE := fun sl M => (fo sl M).bind fun d M1 => if ty d M1 then (fs sl M1).bind fun ds M2 => g d ds M2 else .fail
def isLst : D → List MO → Bool := fun d M => (lstOf M d).isSome
def isStrD : D → List MO → Bool := fun d _ => match d with
  | .t (.str _) => true
  | _ => false
theorem ty_lst {K : PySem.W.Frag} {cm : Str → Addr} {μ : Nat → Addr} {I H : Hp} {M : List MO} {d : D} {v : V} (s : Sim K cm μ I M H) (r : RepD K cm μ I M.length d v) (h : isLst d M = true) : tyV K "list" v H := by
  unfold isLst at h
  cases e : lstOf M d with
  | none => rw [e] at h; cases h
  | some ts =>
    obtain ⟨a, xs, rfl, h1, _⟩ := lstOf_ok s r e
    exact .inl ⟨rfl, xs, SqL.of h1⟩
theorem ty_str {K : PySem.W.Frag} {cm : Str → Addr} {μ : Nat → Addr} {I H : Hp} {M : List MO} {d : D} {v : V} (s : Sim K cm μ I M H) (r : RepD K cm μ I M.length d v) (h : isStrD d M = true) : tyV K "str" v H := by
  unfold isStrD at h
  split at h
  · rw [inv_str (K := K) (cm := cm) (I := I) r]; rfl
  · cases h
theorem tBM_of {T : String} {r : V → List V → Hp → VK → Prop} {g : GM} {ty : D → List MO → Bool} (hty : ∀ {μ I M H d v}, Sim X.K (cmOf X.mg) μ I M H → RepD X.K (cmOf X.mg) μ I M.length d v → ty d M = true → tyV X.K T v H) (hd : DMt X.K (cmOf X.mg) T r g) {fo : FE} {σ H Q}
    (h : rdE X W (eBM ty g fo fs) σ H Q) : tBM X.K T r (rdE X W fo) (rdA X W fs) σ H Q := by
  obtain ⟨μ, I, sl, M, s, rs, p⟩ := h
  refine ⟨μ, I, sl, M, s, rs, (Post.bind (R := RD X.K (cmOf X.mg)) p).imp fun x H1 ⟨μ1, I1, M1, d, st, ra, p1⟩ => ?_⟩
  split at p1
  · rename_i ht
    refine ⟨hty st.sim ra ht, μ1, I1, sl, M1, st.sim, rs.mono st.gr, (Post.bind (R := RL X.K (cmOf X.mg)) p1).imp fun ys H2 ⟨μ2, I2, M2, ds, st2, rb, p2⟩ => ?_⟩
    exact hd _ _ _ _ _ _ _ _ _ _ st2.sim (ra.mono st2.gr) rb p2
  · exact p1.elim
theorem de_bm {T : String} {name : Str} {id : String} {r : V → List V → Hp → VK → Prop} {g : GM} {ty : D → List MO → Bool} {o : Expr} {fo : FE} (pa : PlainAttrs T) (slot : Slot T name id) (hty : typeOf (.builtin id) = pure (.type "method_descriptor")) (hm : MtR X id r)
    (hT : ∀ {μ I M H d v}, Sim X.K (cmOf X.mg) μ I M H → RepD X.K (cmOf X.mg) μ I M.length d v → ty d M = true → tyV X.K T v H) (hd : DMt X.K (cmOf X.mg) T r g) (ho : DE X W o fo) (ha : DA X W (e :: es) fs)
    (hbase : attributeBase o name X.env (eval o X.env) = eval o X.env := by rfl)
    (hfew : ((backTo cpos (starEach (e :: es) X.env)).all (fun x => !x.1) && (backToKw cpos (keywordEach [] X.env)).all (fun x => x.1.isSome)
      && decide ((e :: es).length + ([] : List Keyword).length + (if ([] : List Keyword).isEmpty then 0 else 1) < 30)) = true := by rfl)
    (hline : (apos.endLine == cpos.line) = true := by rfl) (hs : starEach (e :: es) X.env = (false, eval e X.env) :: starEach es X.env := by rfl) (hplain : (backTo cpos (starEach es X.env)).any (·.1) = false := by rfl) :
    DE X W (.Call (.Attribute o name apos) (e :: es) [] cpos) (eBM ty g fo fs) := (pe_bm pa slot hty hm ho ha hbase hfew hline hs hplain).imp fun _ _ _ h => tBM_of hT hd h
/-- append -/
def gAppend : GM := fun d ds M => match d, ds with
  | .m k, [x] => (match frz1 M x with
    | some (t, M1) => (match M1[k]? with
      | some (.lst ts) => if ts.length < sizeLine then .ok (.t .non) (M1.set k (.lst (ts ++ [t]))) else .fail
      | _ => .fail)
    | none => .fail)
  | _, _ => .fail
theorem dm_append {K : PySem.W.Frag} {cm : Str → Addr} : DMt K cm "list" rAppend gAppend := fun μ I M H d ds v vs Q Wx s rd rr p => by
  unfold gAppend at p
  split at p
  · rename_i k x
    split at p
    · rename_i t M1 e1
      split at p
      · rename_i ts e2
        split at p
        · rename_i hl
          obtain ⟨w, rfl, rw1⟩ := inv1 rr
          obtain ⟨_, rfl⟩ := rd
          obtain ⟨I1, st1, r1⟩ := frz1_ok s rw1 e1
          obtain ⟨_, xs, h1, h2⟩ := st1.sim.obj k _ e2
          have ag : μ k = μ k := rfl
          refine ⟨μ k, xs, w, rfl, rfl, h1, by rw [← h2.length]; exact hl, ?_⟩
          have st2 := mset_step st1.sim e2 (h2.append (RepTL.cons r1 RepTL.nil))
          exact (p.step (st1.trans st2)).non st2.sim
        · exact p.elim
      · exact p.elim
    · exact p.elim
  · exact p.elim
theorem de_append {o : Expr} {fo : FE} (ho : DE X W o fo) (ha : DA X W [e] fs)
    (hbase : attributeBase o "append" X.env (eval o X.env) = eval o X.env := by rfl)
    (hfew : ((backTo cpos (starEach [e] X.env)).all (fun x => !x.1) && (backToKw cpos (keywordEach [] X.env)).all (fun x => x.1.isSome)
      && decide ([e].length + ([] : List Keyword).length + (if ([] : List Keyword).isEmpty then 0 else 1) < 30)) = true := by rfl)
    (hline : (apos.endLine == cpos.line) = true := by rfl) (hs : starEach [e] X.env = (false, eval e X.env) :: starEach [] X.env := by rfl) :
    DE X W (.Call (.Attribute o "append" apos) [e] [] cpos) (eBM isLst gAppend fo fs) :=
  de_bm PySem.F.plainAttrs_list PySem.F.slot_list_append PySem.F.type_list_append (fun pins s σ H x xs v us Q I rx rv q => mt_append pins s σ H x xs v us Q I rx rv q) ty_lst dm_append ho ha hbase hfew hline hs
/-- str.join -/
def strsOf : List T → Option (List Str)
  | [] => some []
  | .str b :: ts => (match strsOf ts with
    | some bs => some (b :: bs)
    | none => none)
  | _ => none
theorem strs_ok {K : PySem.W.Frag} {cm : Str → Addr} {I : Hp} : ∀ {ts : List T} {xs : List V} {bs : List Str}, RepTL K cm I ts xs → strsOf ts = some bs → xs = bs.map V.str := by
  intro ts
  induction ts with
  | nil => intro xs bs h e; simp [strsOf] at e; subst e; rw [inv_nil h]; rfl
  | cons t ts ih =>
    intro xs bs h e
    obtain ⟨x, r, rfl, h1, h2⟩ := inv_cons h
    cases t <;> first
      | (simp only [strsOf] at e
         split at e
         · rename_i bs' e'
           cases e
           rw [ih h2 e', inv_str h1]; rfl
         · cases e)
      | (simp [strsOf] at e; done)
def gJoin : GM := fun d ds M => match d, ds with
  | .t (.str z), [x] => (match seqD M x with
    | some ts => (match strsOf ts with
      | some ys => if (ys.map (·.length)).sum + ys.length * z.length ≤ 16777216 then .ok (.t (.str (Txt.join z ys))) M else .fail
      | none => .fail)
    | none => .fail)
  | _, _ => .fail
theorem dm_join {K : PySem.W.Frag} {cm : Str → Addr} : DMt K cm "str" (fun x xs H Q => ∃ a p, ∃ ys : List Str, x = .str a ∧ xs = [.ref p] ∧ (SqL K H p (ys.map V.str) ∨ SqT K H p (ys.map V.str)) ∧
    (ys.map (·.length)).sum + ys.length * a.length ≤ 16777216 ∧ Q (.str (Txt.join a ys)) H) gJoin := fun μ I M H d ds v vs Q Wx s rd rr p => by
  unfold gJoin at p
  split at p
  · rename_i z x
    split at p
    · rename_i ts e1
      split at p
      · rename_i ys e2
        split at p
        · rename_i hl
          obtain ⟨w, rfl, rw1⟩ := inv1 rr
          obtain ⟨a, xs, rfl, h1, h2⟩ := seqD_ok s rw1 e1
          rw [strs_ok h2 e2] at h1
          exact ⟨z, a, ys, inv_str (K := K) (cm := cm) (I := I) rd, rfl, h1, hl, p.str s⟩
        · exact p.elim
      · exact p.elim
    · exact p.elim
  · exact p.elim
theorem de_join {o : Expr} {fo : FE} (ho : DE X W o fo) (ha : DA X W [e] fs)
    (hbase : attributeBase o "join" X.env (eval o X.env) = eval o X.env := by rfl)
    (hfew : ((backTo cpos (starEach [e] X.env)).all (fun x => !x.1) && (backToKw cpos (keywordEach [] X.env)).all (fun x => x.1.isSome)
      && decide ([e].length + ([] : List Keyword).length + (if ([] : List Keyword).isEmpty then 0 else 1) < 30)) = true := by rfl)
    (hline : (apos.endLine == cpos.line) = true := by rfl) (hs : starEach [e] X.env = (false, eval e X.env) :: starEach [] X.env := by rfl) :
    DE X W (.Call (.Attribute o "join" apos) [e] [] cpos) (eBM isStrD gJoin fo fs) :=
  de_bm PySem.F.plainAttrs_str PySem.F.slot_str_join PySem.F.type_str_join mt_join ty_str dm_join ho ha hbase hfew hline hs
end
end Bm

namespace Bm
open PySem L2

/-- the iterator gives these trees, one by one -/
structure ItemsOf (K : PySem.W.Frag) (cm : Str → Addr) (J : It) (I0 : Hp) (ts : List T) : Prop where
  go : ∀ i H, Ex I0 H → i < ts.length → J.go i H
  stop : ∀ H, Ex I0 H → J.stop ts.length H
  item : ∀ i I H x H' t, Ex I0 I → Ex I H → ts[i]? = some t → J.yld i H x H' → ∃ I', StepT I H I' H' ∧ RepT K cm I' t x
def RI (K : PySem.W.Frag) (cm : Str → Addr) : Rl (List T) It := fun _ I _ ts J => ItemsOf K cm J I ts
abbrev DI (X : Cx) (W : WX) (tg iter : Expr) (F : Fn (List T)) : Prop := PI X tg iter (rd X.K (cmOf X.mg) W (RI X.K (cmOf X.mg)) F)
theorem PI.imp {X : Cx} {tg e : Expr} {t t' : TI} (h : PI X tg e t) (i : ∀ σ H R, t' σ H R → t σ H R) : PI X tg e t' := ⟨fun pins s σ H R I q => h.run pins s σ H R I (i _ _ _ q)⟩

section
variable {X : Cx} {W : WX} {tg a b c e : Expr} {rest body : List Stmt} {F fa fb : FE} {f g : FS} {pos p : Pos} {is : List Nat} {fs : Fn (List D)}
/-! ### what is walked -/
theorem items_list {K : PySem.W.Frag} {cm : Str → Addr} {a : Addr} {xs : List V} {ts : List T} {I : Hp} (h : I a = some (.lst xs)) (r : RepTL K cm I ts xs) : ItemsOf K cm (Itl K a) I ts where
  go := fun i H e hi => by
    obtain ⟨x, h1, _⟩ := r.get (List.getElem?_eq_getElem hi)
    exact ⟨xs, x, SqL.of (e _ _ h), h1⟩
  stop := fun H e => ⟨xs, SqL.of (e _ _ h), by rw [r.length]; exact Nat.le_refl _⟩
  item := fun i I1 H x H' t e1 e2 ht y => by
    obtain ⟨rfl, y⟩ := y
    have hx := y xs (SqL.of (e2 _ _ (e1 _ _ h)))
    obtain ⟨t', h1, h2⟩ := r.getV hx
    rw [ht] at h1
    cases h1
    exact ⟨I1, StepT.refl e2, RepT.mono e1 _ _ h2⟩
theorem items_tup {K : PySem.W.Frag} {cm : Str → Addr} {a : Addr} {xs : List V} {ts : List T} {I : Hp} (h : SqT K I a xs) (r : RepTL K cm I ts xs) : ItemsOf K cm (Itt K a) I ts where
  go := fun i H e hi => by
    obtain ⟨x, h1, _⟩ := r.get (List.getElem?_eq_getElem hi)
    exact ⟨xs, x, sqT_ex e h, h1⟩
  stop := fun H e => ⟨xs, sqT_ex e h, by rw [r.length]; exact Nat.le_refl _⟩
  item := fun i I1 H x H' t e1 e2 ht y => by
    obtain ⟨rfl, y⟩ := y
    have hx := y xs (sqT_ex e2 (sqT_ex e1 h))
    obtain ⟨t', h1, h2⟩ := r.getV hx
    rw [ht] at h1
    cases h1
    exact ⟨I1, StepT.refl e2, RepT.mono e1 _ _ h2⟩
def signsOf (z : Str) : List T := z.cps.toList.map fun c => T.str ⟨#[c]⟩
theorem items_str {K : PySem.W.Frag} {cm : Str → Addr} {z : Str} {I : Hp} : ItemsOf K cm (Its z) I (signsOf z) where
  go := fun i H e hi => by
    show i < z.cps.size
    unfold signsOf at hi; simpa using hi
  stop := fun H e => by show z.cps.size ≤ _; unfold signsOf; simp
  item := fun i I1 H x H' t e1 e2 ht y => by
    obtain ⟨rfl, c, h1, rfl⟩ := y
    have e : t = .str ⟨#[c]⟩ := by
      unfold signsOf at ht
      rw [List.getElem?_map] at ht
      have : z.cps.toList[i]? = some c := by simpa using h1
      rw [this] at ht
      exact (Option.some.inj ht).symm
    subst e
    exact ⟨I1, StepT.refl e2, rep_str⟩
def rangeT (lo : Int) (n : Nat) : List T := (List.range n).map fun (i : Nat) => T.int (lo + (i : Int))
theorem items_range {K : PySem.W.Frag} {cm : Str → Addr} {lo : Int} {n : Nat} {I : Hp} : ItemsOf K cm (Itr lo n) I (rangeT lo n) where
  go := fun i H e hi => by
    show i < n
    unfold rangeT at hi; simpa using hi
  stop := fun H e => by show n ≤ _; unfold rangeT; simp
  item := fun i I1 H x H' t e1 e2 ht y => by
    obtain ⟨rfl, rfl⟩ := y
    have e : t = .int (lo + (i : Int)) := by
      unfold rangeT at ht
      rw [List.getElem?_map] at ht
      by_cases hi : i < n
      · rw [List.getElem?_range hi] at ht
        exact (Option.some.inj ht).symm
      · rw [List.getElem?_eq_none (by simpa using hi)] at ht
        cases ht
    subst e
    exact ⟨I1, StepT.refl e2, rep_int⟩
/-- a list, a tuple, a text -/
def iAny : D → List MO → Res (List T) := fun d M => match d with
  | .t (.str z) => .ok (signsOf z) M
  | d => (match frz1 M d with
    | some (.lst ts, M1) => .ok ts M1
    | some (.tup ts, M1) => .ok ts M1
    | _ => .fail)
def iE (F : FE) : Fn (List T) := fun sl M => (F sl M).bind iAny
theorem PI.or {X : Cx} {tg e : Expr} {t t' : TI} (h : PI X tg e t) (h' : PI X tg e t') : PI X tg e (fun σ H R => t σ H R ∨ t' σ H R) := ⟨fun pins s σ H R I q => by
  rcases q with q | q
  · exact h.run pins s σ H R I q
  · exact h'.run pins s σ H R I q⟩
/-- a list -/
def iLst : D → List MO → Res (List T) := fun d M => (match frz1 M d with
    | some (.lst ts, M1) => .ok ts M1
    | _ => .fail)
def iL (F : FE) : Fn (List T) := fun sl M => (F sl M).bind iLst
theorem di_list (h : DE X W e F) : DI X W tg e (iL F) := PI.imp (pi_list h) fun σ H R ⟨μ, I, sl, M, s, rs, p⟩ => ⟨μ, I, sl, M, s, rs, (Post.bind (R := RD X.K (cmOf X.mg)) p).imp fun x H1 ⟨μ1, I1, M1, d, st, ra, p1⟩ => by
  unfold iLst at p1
  split at p1
  · rename_i ts M2 e1
    obtain ⟨I2, st2, r2⟩ := frz1_ok st.sim ra e1
    obtain ⟨a, xs, rfl, h1, h2⟩ := inv_lst r2
    exact ⟨a, rfl, ⟨xs, SqL.of (st2.sim.sub _ _ h1)⟩, (p1.step st2) μ1 I2 H1 _ (Step.refl st2.sim) (items_list h1 h2)⟩
  · exact p1.elim⟩
def iTp : D → List MO → Res (List T) := fun d M => match d with
  | .t (.tup ts) => .ok ts M
  | _ => .fail
def iT (F : FE) : Fn (List T) := fun sl M => (F sl M).bind iTp
theorem di_tup (h : DE X W e F) : DI X W tg e (iT F) := PI.imp (pi_tup h) fun σ H R ⟨μ, I, sl, M, s, rs, p⟩ => ⟨μ, I, sl, M, s, rs, (Post.bind (R := RD X.K (cmOf X.mg)) p).imp fun x H1 ⟨μ1, I1, M1, d, st, ra, p1⟩ => by
  unfold iTp at p1
  split at p1
  · rename_i ts
    obtain ⟨a, xs, rfl, h1, h2⟩ := inv_tup ra
    exact ⟨a, rfl, ⟨xs, sqT_ex st.sim.sub h1⟩, p1 μ1 I1 H1 _ (Step.refl st.sim) (items_tup h1 h2)⟩
  · exact p1.elim⟩
def iSt : D → List MO → Res (List T) := fun d M => match d with
  | .t (.str z) => .ok (signsOf z) M
  | _ => .fail
def iS (F : FE) : Fn (List T) := fun sl M => (F sl M).bind iSt
theorem di_str (h : DE X W e F) : DI X W tg e (iS F) := PI.imp (pi_str h) fun σ H R ⟨μ, I, sl, M, s, rs, p⟩ => ⟨μ, I, sl, M, s, rs, (Post.bind (R := RD X.K (cmOf X.mg)) p).imp fun x H1 ⟨μ1, I1, M1, d, st, ra, p1⟩ => by
  unfold iSt at p1
  split at p1
  · rename_i z
    exact ⟨z, inv_str (K := X.K) (cm := cmOf X.mg) (I := I1) ra, p1 μ1 I1 H1 _ (Step.refl st.sim) items_str⟩
  · exact p1.elim⟩
def iRg1 : List D → List MO → Res (List T) := fun ds M => match ds with
  | [.t (.int j)] => if -(2 ^ 62) ≤ j ∧ j < 2 ^ 62 then .ok (rangeT 0 j.toNat) M else .fail
  | _ => .fail
def iR1 (fs : Fn (List D)) : Fn (List T) := fun sl M => (fs sl M).bind iRg1
theorem di_range1 {q : Pos} (hg : Gl X "range") (hm : X.mg "range" = none) (ha : DA X W [a] fs) (hs : starEach [a] X.env = [(false, eval a X.env)] := by rfl) : DI X W tg (.Call (.Name "range" q) [a] [] pos) (iR1 fs) :=
  PI.imp (pi_range1 hg hm ha hs) fun σ H R ⟨μ, I, sl, M, s, rs, p⟩ => ⟨μ, I, sl, M, s, rs, (Post.bind (R := RL X.K (cmOf X.mg)) p).imp fun x H1 ⟨μ1, I1, M1, ds, st, ra, p1⟩ => by
    unfold iRg1 at p1
    split at p1
    · rename_i j
      split at p1
      · rename_i hj
        obtain ⟨w, rfl, r1⟩ := inv1 ra
        exact ⟨j, by rw [inv_int (K := X.K) (cm := cmOf X.mg) (I := I1) r1], hj.1, hj.2, p1 μ1 I1 H1 _ (Step.refl st.sim) items_range⟩
      · exact p1.elim
    · exact p1.elim⟩
def iRg2 : List D → List MO → Res (List T) := fun ds M => match ds with
  | [.t (.int i), .t (.int j)] => if -(2 ^ 62) ≤ i ∧ i < 2 ^ 62 ∧ -(2 ^ 62) ≤ j ∧ j < 2 ^ 62 then .ok (rangeT i (j - i).toNat) M else .fail
  | _ => .fail
def iR2 (fs : Fn (List D)) : Fn (List T) := fun sl M => (fs sl M).bind iRg2
theorem inv2D {K : PySem.W.Frag} {cm : Str → Addr} {μ : Nat → Addr} {I : Hp} {n : Nat} {d d' : D} {vs : List V} (h : RepDL K cm μ I n [d, d'] vs) : ∃ x y, vs = [x, y] ∧ RepD K cm μ I n d x ∧ RepD K cm μ I n d' y := by
  unfold RepDL at h
  obtain ⟨x, r, rfl, h1, h2⟩ := h
  obtain ⟨y, rfl, h3⟩ := inv1 h2
  exact ⟨x, y, rfl, h1, h3⟩
theorem di_range2 {q : Pos} (hg : Gl X "range") (hm : X.mg "range" = none) (ha : DA X W [a, b] fs) (hs : starEach [a, b] X.env = [(false, eval a X.env), (false, eval b X.env)] := by rfl) (hs2 : starEach [b] X.env = [(false, eval b X.env)] := by rfl) : DI X W tg (.Call (.Name "range" q) [a, b] [] pos) (iR2 fs) :=
  PI.imp (pi_range2 hg hm ha hs hs2) fun σ H R ⟨μ, I, sl, M, s, rs, p⟩ => ⟨μ, I, sl, M, s, rs, (Post.bind (R := RL X.K (cmOf X.mg)) p).imp fun x H1 ⟨μ1, I1, M1, ds, st, ra, p1⟩ => by
    unfold iRg2 at p1
    split at p1
    · rename_i i j
      split at p1
      · rename_i hj
        obtain ⟨w, w', rfl, r1, r2⟩ := inv2D ra
        exact ⟨i, j, by rw [inv_int (K := X.K) (cm := cmOf X.mg) (I := I1) r1, inv_int (K := X.K) (cm := cmOf X.mg) (I := I1) r2], hj, p1 μ1 I1 H1 _ (Step.refl st.sim) items_range⟩
      · exact p1.elim
    · exact p1.elim⟩
/-- zip of two lists | of two tuples -/
def zipT (ts us : List T) : List T := (ts.zip us).map fun p => T.tup [p.1, p.2]
theorem zipT_get {ts us : List T} {i : Nat} {t : T} (h : (zipT ts us)[i]? = some t) : ∃ a b, ts[i]? = some a ∧ us[i]? = some b ∧ t = .tup [a, b] := by
  unfold zipT at h
  rw [List.getElem?_map] at h
  cases q : (ts.zip us)[i]? with
  | none => rw [q] at h; cases h
  | some p =>
    rw [q] at h
    obtain ⟨h1, h2⟩ := List.getElem?_zip_eq_some.mp q
    exact ⟨p.1, p.2, h1, h2, (Option.some.inj h).symm⟩
theorem zipT_len {ts us : List T} : (zipT ts us).length = min ts.length us.length := by unfold zipT; simp
theorem rep_pair {K : PySem.W.Frag} {cm : Str → Addr} {I : Hp} {p : Addr} {t u : T} {x y : V} (n : I p = none) (r1 : RepT K cm I t x) (r2 : RepT K cm I u y) : RepT K cm (upd I p (.tup [x, y])) (.tup [t, u]) (.ref p) := by
  unfold RepT
  exact ⟨p, [x, y], rfl, .inl upd_same, RepTL.mono (Ex.new n) _ _ (RepTL.cons r1 (RepTL.cons r2 RepTL.nil))⟩
theorem items_zipL {K : PySem.W.Frag} {cm : Str → Addr} {a b : Addr} {xs ys : List V} {ts us : List T} {I : Hp} (ha : I a = some (.lst xs)) (hb : I b = some (.lst ys)) (ra : RepTL K cm I ts xs) (rb : RepTL K cm I us ys) : ItemsOf K cm (Itz K a b) I (zipT ts us) where
  go := fun i H e hi => by
    rw [zipT_len] at hi
    obtain ⟨x, h1, _⟩ := ra.get (List.getElem?_eq_getElem (show i < ts.length by omega))
    obtain ⟨y, h2, _⟩ := rb.get (List.getElem?_eq_getElem (show i < us.length by omega))
    exact ⟨xs, ys, x, y, SqL.of (e _ _ ha), SqL.of (e _ _ hb), h1, h2⟩
  stop := fun H e => ⟨xs, ys, SqL.of (e _ _ ha), SqL.of (e _ _ hb), by rw [zipT_len, ← ra.length, ← rb.length]; omega⟩
  item := fun i I1 H x H' t e1 e2 ht y => by
    obtain ⟨T, u, w, rfl, n, rfl, y1, y2⟩ := y
    obtain ⟨t1, t2, h1, h2, rfl⟩ := zipT_get ht
    obtain ⟨t1', q1, r1⟩ := ra.getV (y1 xs (SqL.of (e2 _ _ (e1 _ _ ha))))
    obtain ⟨t2', q2, r2⟩ := rb.getV (y2 ys (SqL.of (e2 _ _ (e1 _ _ hb))))
    rw [h1] at q1; cases q1
    rw [h2] at q2; cases q2
    exact ⟨_, StepT.new e2 n, rep_pair (e2.free n) (RepT.mono e1 _ _ r1) (RepT.mono e1 _ _ r2)⟩
theorem items_zipT {K : PySem.W.Frag} {cm : Str → Addr} {a b : Addr} {xs ys : List V} {ts us : List T} {I : Hp} (ha : SqT K I a xs) (hb : SqT K I b ys) (ra : RepTL K cm I ts xs) (rb : RepTL K cm I us ys) : ItemsOf K cm (RZ.ItzT K a b) I (zipT ts us) where
  go := fun i H e hi => by
    rw [zipT_len] at hi
    obtain ⟨x, h1, _⟩ := ra.get (List.getElem?_eq_getElem (show i < ts.length by omega))
    obtain ⟨y, h2, _⟩ := rb.get (List.getElem?_eq_getElem (show i < us.length by omega))
    exact ⟨xs, ys, x, y, sqT_ex e ha, sqT_ex e hb, h1, h2⟩
  stop := fun H e => ⟨xs, ys, sqT_ex e ha, sqT_ex e hb, by rw [zipT_len, ← ra.length, ← rb.length]; omega⟩
  item := fun i I1 H x H' t e1 e2 ht y => by
    obtain ⟨T, u, w, rfl, n, rfl, y1, y2⟩ := y
    obtain ⟨t1, t2, h1, h2, rfl⟩ := zipT_get ht
    obtain ⟨t1', q1, r1⟩ := ra.getV (y1 xs (sqT_ex e2 (sqT_ex e1 ha)))
    obtain ⟨t2', q2, r2⟩ := rb.getV (y2 ys (sqT_ex e2 (sqT_ex e1 hb)))
    rw [h1] at q1; cases q1
    rw [h2] at q2; cases q2
    exact ⟨_, StepT.new e2 n, rep_pair (e2.free n) (RepT.mono e1 _ _ r1) (RepT.mono e1 _ _ r2)⟩
def iZp : List D → List MO → Res (List T) := fun ds M => match frzL M ds with
  | some ([.lst ts, .lst us], M1) => .ok (zipT ts us) M1
  | some ([.tup ts, .tup us], M1) => .ok (zipT ts us) M1
  | _ => .fail
def iZ (fs : Fn (List D)) : Fn (List T) := fun sl M => (fs sl M).bind iZp
theorem di_zip {elts : List Expr} {kk : Nat} {tpos q : Pos} (hg : Gl X "zip") (hm : X.mg "zip" = none) (ha : DA X W [a, b] fs)
    (hs : starEach [a, b] X.env = (false, eval a X.env) :: starEach [b] X.env := by rfl) (hpl : (backTo pos (starEach [b] X.env)).any (·.1) = false := by rfl) : DI X W (.Tuple elts kk tpos) (.Call (.Name "zip" q) [a, b] [] pos) (iZ fs) :=
  PI.imp (RZ.pi_zipA hg hm ha hs hpl) fun σ H R ⟨μ, I, sl, M, s, rs, p⟩ => ⟨μ, I, sl, M, s, rs, (Post.bind (R := RL X.K (cmOf X.mg)) p).imp fun x H1 ⟨μ1, I1, M1, ds, st, ra, p1⟩ => by
    unfold iZp at p1
    split at p1
    · rename_i ts us M2 e1
      obtain ⟨I2, st2, r2⟩ := frzL_ok st.sim ra e1
      obtain ⟨v, w, rfl, r3, r4⟩ := inv_2 r2
      obtain ⟨a', xs, rfl, h1, h2⟩ := inv_lst r3
      obtain ⟨b', ys, rfl, h3, h4⟩ := inv_lst r4
      exact ⟨a', b', xs, ys, rfl, .inl ⟨SqL.of (st2.sim.sub _ _ h1), SqL.of (st2.sim.sub _ _ h3), (p1.step st2) μ1 I2 H1 _ (Step.refl st2.sim) (items_zipL h1 h3 h2 h4)⟩⟩
    · rename_i ts us M2 e1
      obtain ⟨I2, st2, r2⟩ := frzL_ok st.sim ra e1
      obtain ⟨v, w, rfl, r3, r4⟩ := inv_2 r2
      obtain ⟨a', xs, rfl, h1, h2⟩ := inv_tup r3
      obtain ⟨b', ys, rfl, h3, h4⟩ := inv_tup r4
      exact ⟨a', b', xs, ys, rfl, .inr ⟨sqT_ex st2.sim.sub h1, sqT_ex st2.sim.sub h3, (p1.step st2) μ1 I2 H1 _ (Step.refl st2.sim) (items_zipT h1 h3 h2 h4)⟩⟩
    · exact p1.elim⟩

/-! ### for -/
def loopF (G : GG) (B : FS) : List T → FS
  | [], sl, M => .nx sl M
  | t :: ts, sl, M => match G (.t t) sl M with
    | .nx sl1 M1 => (match B sl1 M1 with
      | .nx sl2 M2 => loopF G B ts sl2 M2
      | .ct sl2 M2 => loopF G B ts sl2 M2
      | .bk sl2 M2 => .nx sl2 M2
      | r => r)
    | .exc x sl1 M1 => .exc x sl1 M1
    | _ => .fail
def sFor (Fi : Fn (List T)) (G : GG) (B : FS) : FS := fun sl M => (Fi sl M).toS sl fun ts M1 => loopF G B ts sl M1
theorem ds_for {iter : Expr} {Fi : Fn (List T)} {G : GG} {B : FS} (hp : PassesOwn (model X.prog X.w) X.A X.env X.xe) (hc : X.calm = true) (hi : DI X W tg iter Fi) (hg : DG X W is tg G) (hb : DSs X W body B)
    (hs : ∀ x, foldedSetIterable iter X.env x = pure x := by intro _; rfl) : DS X W (.For tg iter body [] pos) (sFor Fi G B) :=
  (ps_for hp hc hi hg hb hs).imp fun Z σ H ⟨μ, I, sl, M, s, rs, p⟩ => ⟨μ, I, sl, M, s, rs, (PostS.bind (R := RI X.K (cmOf X.mg)) p rs).imp fun J H1 ⟨μ1, I1, M1, ts, st, it, p1⟩ => by
    refine ⟨fun i m σ H => i ≤ ts.length ∧ m = ts.length - i ∧ ∃ μ I sl M, Sim X.K (cmOf X.mg) μ I M H ∧ RepS X.K (cmOf X.mg) μ I M.length sl σ ∧ Ex I1 I ∧ PostS X.K (cmOf X.mg) μ I M H W (loopF G B (ts.drop i) sl M) Z,
      ⟨ts.length, Nat.zero_le _, rfl, μ1, I1, sl, M1, st.sim, rs.mono st.gr, Ex.refl _, p1⟩, ?_⟩
    rintro i m σ H ⟨hi, rfl, μ, I, sl, M, s, rs, ex, p⟩
    by_cases hlt : i < ts.length
    · refine .inr ⟨it.go i H (ex.trans s.sub) hlt, fun σ' H' => ∃ μ I sl M, Sim X.K (cmOf X.mg) μ I M H' ∧ RepS X.K (cmOf X.mg) μ I M.length sl σ' ∧ Ex I1 I ∧ PostS X.K (cmOf X.mg) μ I M H' W (loopF G B (ts.drop (i + 1)) sl M) Z,
        fun σ' H' h => ⟨ts.length - (i + 1), by omega, hlt, rfl, h⟩, fun x H' y => ?_⟩
      obtain ⟨I2, st2, r2⟩ := it.item i I H x H' ts[i] ex s.sub (List.getElem?_eq_getElem hlt) y
      have st3 := st2.step s
      have p := p.step st3
      rw [List.drop_eq_getElem_cons hlt] at p
      refine ⟨μ, I2, sl, M, .t ts[i], st3.sim, rs.mono st3.gr, r2, ?_⟩
      unfold loopF at p
      cases q : G (.t ts[i]) sl M with
      | nx sl1 M1 =>
        rw [q] at p
        dsimp only at p
        intro μ4 I4 H4 σ4 st4 rs4 _
        refine ⟨μ4, I4, sl1, M1, st4.sim, rs4, ?_⟩
        have p := p.step st4
        have ex4 : Ex I1 I4 := ex.trans (st2.ii.trans st4.gr.ex)
        cases q2 : B sl1 M1 with
        | nx a b => rw [q2] at p; exact fun μ5 I5 H5 σ5 st5 rs5 => ⟨μ5, I5, a, b, st5.sim, rs5, ex4.trans st5.gr.ex, p.step st5⟩
        | ct a b => rw [q2] at p; exact fun μ5 I5 H5 σ5 st5 rs5 => ⟨μ5, I5, a, b, st5.sim, rs5, ex4.trans st5.gr.ex, p.step st5⟩
        | bk a b => rw [q2] at p; exact p
        | rt a b => rw [q2] at p; exact p
        | exc x a b => rw [q2] at p; exact p
        | fail => rw [q2] at p; exact p.elim
      | bk a b => rw [q] at p; exact p.elim
      | ct a b => rw [q] at p; exact p.elim
      | rt a b => rw [q] at p; exact p.elim
      | exc x a b => rw [q] at p; exact p
      | fail => rw [q] at p; exact p.elim
    · have e : i = ts.length := by omega
      subst e
      rw [List.drop_length] at p
      exact .inl ⟨it.stop H (ex.trans s.sub), p.here s rs⟩⟩
end
end Bm

namespace Bm
open PySem L2

def wipeS (sl : List (Option D)) : List Nat → List (Option D)
  | [] => sl
  | v :: vs => (wipeS sl vs).set v none
theorem wipe_in {σ : L2.St} {i : Nat} : ∀ {vs : List Nat}, i ∈ vs → i < σ.length → (wipe σ vs)[i]? = some none
  | v :: vs, h, hl => by
    unfold wipe
    by_cases e : v = i
    · subst e
      exact List.getElem?_set_self (by rw [wipe_length]; exact hl)
    · rw [List.getElem?_set_ne e]
      rcases List.mem_cons.mp h with q | q
      · exact absurd q.symm e
      · exact wipe_in q hl
theorem wipe_eq {σ σ2 : L2.St} {is vs : List Nat} (h : SameBut is (wipe σ vs) σ2) (hs : ∀ i ∈ is, i ∈ vs) : wipe σ2 vs = wipe σ vs := by
  have hl : σ2.length = σ.length := by rw [h.1, wipe_length]
  refine List.ext_getElem? fun j => ?_
  by_cases hj : j ∈ vs
  · by_cases hlt : j < σ.length
    · rw [wipe_in hj hlt, wipe_in hj (by rw [hl]; exact hlt)]
    · rw [List.getElem?_eq_none (by rw [wipe_length]; omega), List.getElem?_eq_none (by rw [wipe_length]; omega)]
  · rw [wipe_out hj, h.2 j (fun q => hj (hs j q))]
section
variable {K : PySem.W.Frag} {cm : Str → Addr} {μ : Nat → Addr} {I : Hp} {n : Nat}
theorem RepS.none {sl : List (Option D)} {σ : L2.St} (h : RepS K cm μ I n sl σ) (i : Nat) : RepS K cm μ I n (sl.set i none) (σ.set i none) := by
  refine ⟨by simp [h.1], fun j e q => ?_⟩
  by_cases hj : i = j
  · subst hj
    by_cases hi : i < sl.length
    · rw [List.getElem?_set_self hi] at q; cases q
    · rw [List.getElem?_eq_none (by simp; omega)] at q; cases q
  · rw [List.getElem?_set_ne hj] at q
    rw [List.getElem?_set_ne hj]
    exact h.2 j e q
theorem RepS.wipe {sl : List (Option D)} {σ : L2.St} (h : RepS K cm μ I n sl σ) : ∀ vs, RepS K cm μ I n (wipeS sl vs) (L2.wipe σ vs)
  | [] => h
  | v :: vs => by unfold wipeS L2.wipe; exact (RepS.wipe h vs).none v
end

def lcF (vs : List Nat) (G : GG) (Tt : Fn Bool) (E : FE) : List T → List (Option D) → List MO → List T → Option (List T × List MO)
  | [], _, M, acc => some (acc, M)
  | t :: ts, sl, M, acc => match G (.t t) (wipeS sl vs) M with
    | .nx sl1 M1 => (match Tt sl1 M1 with
      | .ok k M2 => if k then (match E sl1 M2 with
        | .ok d M3 => (match frz1 M3 d with
          | some (u, M4) => if acc.length < sizeLine then lcF vs G Tt E ts sl M4 (acc ++ [u]) else none
          | none => none)
        | _ => none) else lcF vs G Tt E ts sl M2 acc
      | _ => none)
    | _ => none
def eLc (Fi : Fn (List T)) (vs : List Nat) (G : GG) (Tt : Fn Bool) (E : FE) : FE := fun sl M => (Fi sl M).bind fun ts M1 => match lcF vs G Tt E ts sl M1 [] with
  | some (us, M2) => .ok (.t (.lst us)) M2
  | none => .fail
def eLcM (Fi : Fn (List T)) (vs : List Nat) (G : GG) (Tt : Fn Bool) (E : FE) : FE := fun sl M => (Fi sl M).bind fun ts M1 => match lcF vs G Tt E ts sl M1 [] with
  | some (us, M2) => .ok (.m M2.length) (M2 ++ [.lst us])
  | none => .fail
/-- nothing may be raised -/
abbrev W0 : WX := fun _ _ _ _ => False
def bYes : Fn Bool := fun _ M => .ok true M

section
variable {X : Cx} {W : WX} {tg iter elt : Expr} {ifs : List Expr} {Fi : Fn (List T)} {vs is : List Nat} {G : GG} {Tt : Fn Bool} {E : FE}
/-- the end of a comprehension: a step behind which the list at L is known or of the store -/
theorem tLc_core {μ I M H σ sl} {Q : VK} {ts : List T} {J : It} (hvs : ∀ i ∈ is, i ∈ vs)
    (s : Sim X.K (cmOf X.mg) μ I M H) (rs : RepS X.K (cmOf X.mg) μ I M.length sl σ) (it : ItemsOf X.K (cmOf X.mg) J I ts) {us : List T} {Mz : List MO} (hr : lcF vs G Tt E ts sl M [] = some (us, Mz))
    (fin : ∀ μ' I' H' L xs, Step X.K (cmOf X.mg) μ I M H μ' I' Mz H' → H L = none → I' L = none → (∀ k, k < Mz.length → μ' k ≠ L) → H' L = some (.lst xs) → RepTL X.K (cmOf X.mg) I' us xs → Q (.ref L) H') :
    ∀ L, H L = none → ∃ Wz : Nat → Nat → Hp → Prop, (∃ m, Wz 0 m (upd H L (.lst []))) ∧ ∀ i m H', Wz i m H' →
      (J.stop i H' ∧ Q (.ref L) H') ∨ (J.go i H' ∧ ∃ Nx : Hp → Prop, (∀ H'', Nx H'' → ∃ m', m' < m ∧ Wz (i + 1) m' H'') ∧ ∀ x H'', J.yld i H' x H'' → rdG X W0 is G x (wipe σ vs) H'' fun σ2 H2 => wipe σ2 vs = wipe σ vs ∧ rdB X W0 Tt σ2 H2 fun b H3 =>
        if b = true then rdE X W0 E σ2 H3 fun y H4 => ∃ acc, H4 L = some (.lst acc) ∧ acc.length < sizeLine ∧ Nx (upd H4 L (.lst (acc ++ [y]))) else Nx H3) := by
  intro L hL
  -- the state between two turns
  let St (i : Nat) (H' : Hp) : Prop := ∃ μ' I' M' acc tacc, Step X.K (cmOf X.mg) μ I M H μ' I' M' H' ∧ I' L = none ∧ (∀ k, k < M'.length → μ' k ≠ L) ∧ H' L = some (.lst acc) ∧ RepTL X.K (cmOf X.mg) I' tacc acc ∧ lcF vs G Tt E (ts.drop i) sl M' tacc = some (us, Mz)
  have out : ∀ k, k < M.length → μ k ≠ L := fun k hk q => by
    obtain ⟨o, e⟩ := s.tr k hk
    rw [q, hL] at e; cases e
  refine ⟨fun i m H' => i ≤ ts.length ∧ m = ts.length - i ∧ St i H', ⟨ts.length, Nat.zero_le _, rfl, μ, I, M, [], [], (StepT.new' s.sub hL).step s, s.sub.free hL, out, upd_same, RepTL.nil, hr⟩, ?_⟩
  rintro i m H' ⟨hi, rfl, μ', I', M', acc, tacc, st, nI, nμ, hacc, racc, e⟩
  by_cases hlt : i < ts.length
  · refine .inr ⟨it.go i H' (st.gr.ex.trans st.sim.sub) hlt, St (i + 1), fun H'' h => ⟨ts.length - (i + 1), by omega, hlt, rfl, h⟩, fun x H'' y => ?_⟩
    obtain ⟨I2, st2, r2⟩ := it.item i I' H' x H'' ts[i] st.gr.ex st.sim.sub (List.getElem?_eq_getElem hlt) y
    have st3 := st2.step st.sim
    rw [List.drop_eq_getElem_cons hlt] at e
    unfold lcF at e
    have hacc2 := st2.hh _ _ hacc
    have nI2 := st2.nf _ _ hacc nI
    have racc2 := RepTL.mono st2.ii _ _ racc
    have rs2 := (((rs.mono st.gr).mono st3.gr).wipe vs)
    refine ⟨μ', I2, wipeS sl vs, M', .t ts[i], st3.sim, rs2, r2, ?_⟩
    -- what a later state keeps of L
    have keep : ∀ {μ4 I4 M4 H4 μ5 I5 M5 H5}, Step X.K (cmOf X.mg) μ4 I4 M4 H4 μ5 I5 M5 H5 → H4 L = some (.lst acc) → I4 L = none → (∀ k, k < M4.length → μ4 k ≠ L) → H5 L = some (.lst acc) ∧ I5 L = none ∧ (∀ k, k < M5.length → μ5 k ≠ L) :=
      fun {μ4 I4 M4 H4 μ5 I5 M5 H5} st h1 h2 h3 => ⟨st.fr _ _ h1 (fun k hk q => h3 k hk q.symm), st.nf _ _ h1 h2 (fun k hk q => h3 k hk q.symm), fun k hk q => by
        by_cases hk' : k < M4.length
        · rw [st.gr.ag k hk'] at q; exact h3 k hk' q
        · have := st.fresh k (Nat.le_of_not_lt hk') hk
          rw [q, h1] at this; cases this⟩
    cases q : G (.t ts[i]) (wipeS sl vs) M' with
    | nx sl1 M1 =>
      rw [q] at e
      dsimp only at e
      intro μ4 I4 H4 σ4 st4 rs4 sb
      obtain ⟨hacc4, nI4, nμ4⟩ := keep st4 hacc2 nI2 nμ
      refine ⟨wipe_eq sb hvs, μ4, I4, sl1, M1, st4.sim, rs4, ?_⟩
      cases q2 : Tt sl1 M1 with
      | ok k M2 =>
        rw [q2] at e
        dsimp only at e
        intro μ5 I5 H5 b st5 eb
        have eb : k = b := eb
        subst eb
        obtain ⟨hacc5, nI5, nμ5⟩ := keep st5 hacc4 nI4 nμ4
        have stA := st.trans (st3.trans (st4.trans st5))
        cases k with
        | false =>
          rw [if_neg Bool.false_ne_true] at e ⊢
          exact ⟨μ5, I5, M2, acc, tacc, stA, nI5, nμ5, hacc5, RepTL.mono (st4.trans st5).gr.ex _ _ racc2, e⟩
        | true =>
          rw [if_pos rfl] at e ⊢
          refine ⟨μ5, I5, sl1, M2, st5.sim, rs4.mono st5.gr, ?_⟩
          cases q3 : E sl1 M2 with
          | ok d M3 =>
            rw [q3] at e
            dsimp only at e
            intro μ6 I6 H6 w st6 rd6
            obtain ⟨hacc6, nI6, nμ6⟩ := keep st6 hacc5 nI5 nμ5
            split at e
            · rename_i u M4 e4
              split at e
              · rename_i hlen
                obtain ⟨I7, st7, r7⟩ := frz1_ok st6.sim rd6 e4
                obtain ⟨hacc7, nI7, nμ7⟩ := keep st7 hacc6 nI6 nμ6
                have racc7 := RepTL.mono ((st4.trans st5).trans (st6.trans st7)).gr.ex _ _ racc2
                refine ⟨acc, hacc6, by rw [← racc.length]; exact hlen, ?_⟩
                have stB := stA.trans (st6.trans st7)
                refine ⟨μ6, I7, M4, acc ++ [w], tacc ++ [u], ?_, nI7, nμ7, upd_same, racc7.append (RepTL.cons r7 RepTL.nil), e⟩
                -- the list at L grows; nothing else
                have nk : ∀ a o, I7 a = some o → a ≠ L := fun a o h q => by rw [q, nI7] at h; cases h
                refine ⟨stB.gr, ⟨fun a o h => by rw [upd_ne (nk a o h)]; exact stB.sim.sub a o h, stB.sim.inj, fun k hk => ?_, fun k o ek => ?_⟩, fun a o h hk => ?_, stB.nf, stB.fresh⟩
                · obtain ⟨o, h⟩ := stB.sim.tr k hk
                  exact ⟨o, by rw [upd_ne (nμ7 k hk)]; exact h⟩
                · have hk : k < M4.length := (List.getElem?_eq_some_iff.mp ek).1
                  have z := stB.sim.obj k o ek
                  cases o with
                  | lst us' =>
                    obtain ⟨z1, ys, z2, z3⟩ := z
                    exact ⟨z1, ys, by rw [upd_ne (nμ7 k hk)]; exact z2, z3⟩
                  | ins cl ns ds =>
                    obtain ⟨z1, dx, ys, z2, z3, z4⟩ := z
                    exact ⟨z1, dx, ys, by rw [upd_ne (nμ7 k hk)]; exact z2, z3, z4⟩
                  | frz w => exact z
                  | dead => exact z
                · rw [upd_ne (ne_of_none h hL)]
                  exact stB.fr a o h hk
              · cases e
            · cases e
          | exc x a => rw [q3] at e; cases e
          | fail => rw [q3] at e; cases e
      | exc x a => rw [q2] at e; cases e
      | fail => rw [q2] at e; cases e
    | bk a b => rw [q] at e; cases e
    | ct a b => rw [q] at e; cases e
    | rt a b => rw [q] at e; cases e
    | exc x a b => rw [q] at e; cases e
    | fail => rw [q] at e; cases e
  · have ei : i = ts.length := by omega
    subst ei
    rw [List.drop_length] at e
    unfold lcF at e
    cases e
    exact .inl ⟨it.stop H' (st.gr.ex.trans st.sim.sub), fin μ' I' H' L acc st hL nI nμ hacc racc⟩
theorem tLc_T {σ H} {Q : VK} (hvs : ∀ i ∈ is, i ∈ vs) (h : rdE X W (eLc Fi vs G Tt E) σ H Q) : tLc (rd X.K (cmOf X.mg) W (RI X.K (cmOf X.mg)) Fi) (rdG X W0 is G) (rdB X W0 Tt) (rdE X W0 E) vs σ H Q := by
  obtain ⟨μ, I, sl, M, s, rs, p⟩ := h
  refine ⟨μ, I, sl, M, s, rs, (Post.bind (R := RI X.K (cmOf X.mg)) p).imp fun J H1 ⟨μ1, I1, M1, ts, st, it, p1⟩ => ?_⟩
  split at p1
  · rename_i us Mz hr
    refine tLc_core hvs st.sim (rs.mono st.gr) it hr fun μ' I' H' L xs stz hL nI nμ hx rx => ?_
    have stf : Step X.K (cmOf X.mg) μ1 I1 M1 H1 μ' (upd I' L (.lst xs)) Mz H' := by
      have ex : Ex I' (upd I' L (.lst xs)) := Ex.new nI
      have gr : Gr μ' I' Mz.length μ' (upd I' L (.lst xs)) Mz.length := ⟨fun _ _ => rfl, Nat.le_refl _, ex⟩
      refine ⟨stz.gr.trans gr, ⟨fun a o h => ?_, stz.sim.inj, stz.sim.tr, fun k o ek => ?_⟩, stz.fr, fun a o h1 h2 h3 => ?_, stz.fresh⟩
      · unfold upd at h
        split at h
        · rename_i q; cases h; rw [q]; exact hx
        · exact stz.sim.sub a o h
      · have hk : k < Mz.length := (List.getElem?_eq_some_iff.mp ek).1
        have z := stz.sim.obj k o ek
        cases o with
        | lst us' =>
          obtain ⟨z1, ys, z2, z3⟩ := z
          exact ⟨by rw [upd_ne (nμ k hk)]; exact z1, ys, z2, RepTL.mono ex _ _ z3⟩
        | ins cl ns ds =>
          obtain ⟨z1, dx, ys, z2, z3, z4⟩ := z
          exact ⟨by rw [upd_ne (nμ k hk)]; exact z1, dx, ys, z2, z3, z4.mono gr⟩
        | frz w => exact RepT.mono ex _ _ z
        | dead => exact (by rw [upd_ne (nμ k hk)]; exact z : upd I' L (.lst xs) (μ' k) = none)
      · rw [upd_ne (ne_of_none h1 hL)]; exact stz.nf a o h1 h2 h3
    refine p1 μ' _ H' (.ref L) stf ?_
    show RepT X.K (cmOf X.mg) (upd I' L (.lst xs)) (.lst us) (.ref L)
    unfold RepT
    exact ⟨L, xs, rfl, upd_same, RepTL.mono (Ex.new nI) _ _ rx⟩
  · exact p1.elim
theorem de_lc {own : List (Str × Nat)} {scope : Scope} {pos : Pos} (hc : X.calm = true) (hN : X.N.Nodup) (hi : DI X W tg iter Fi) (ok : BlkOk X.N X.env.scope scope own) (hvs : ∀ i ∈ is, i ∈ own.map (·.2))
    (hg : ∀ (s : Shared) (H : Hp) (C : Addr) (cl : List (Str × Addr)) (fp : List Addr), DG (X.blk s H scope (compEnvC scope cl C X.env) fp) W0 is tg G) (ht : ∀ (s : Shared) (H : Hp) (C : Addr) (cl : List (Str × Addr)) (fp : List Addr), PTs (X.blk s H scope (compEnvC scope cl C X.env) fp) ifs (rdB X W0 Tt))
    (he : ∀ (s : Shared) (H : Hp) (C : Addr) (cl : List (Str × Addr)) (fp : List Addr), DE (X.blk s H scope (compEnvC scope cl C X.env) fp) W0 elt E) (hs : ∀ x, foldedSetIterable iter X.env x = pure x := by intro _; rfl) :
    DE X W (.ListComp elt [⟨tg, iter, ifs, 0⟩] scope pos) (eLc Fi (own.map (·.2)) G Tt E) := (pe_lc hc hN hi ok hg ht he hs).imp fun σ H Q h => tLc_T hvs h
theorem ds_setLc {i : Nat} {y : Str} {py : Pos} {own : List (Str × Nat)} {scope : Scope} {pos spos : Pos} (hc : X.calm = true) (hN : X.N.Nodup) (hy : X.N[i]? = some y) (hyl : X.env.scope.names.lookup y = some .local)
    (hsw : swapsWith (.ListComp elt [⟨tg, iter, ifs, 0⟩] scope pos) (some (.Name y py)) spos.line X.env = pure true) (hi : DI X W tg iter Fi) (ok : BlkOk X.N X.env.scope scope own) (hvs : ∀ i ∈ is, i ∈ own.map (·.2))
    (hg : ∀ (s : Shared) (H : Hp) (C : Addr) (cl : List (Str × Addr)) (fp : List Addr), DG (X.blk s H scope (compEnvC scope cl C X.env) fp) W0 is tg G) (ht : ∀ (s : Shared) (H : Hp) (C : Addr) (cl : List (Str × Addr)) (fp : List Addr), PTs (X.blk s H scope (compEnvC scope cl C X.env) fp) ifs (rdB X W0 Tt))
    (he : ∀ (s : Shared) (H : Hp) (C : Addr) (cl : List (Str × Addr)) (fp : List Addr), DE (X.blk s H scope (compEnvC scope cl C X.env) fp) W0 elt E) (hs : ∀ x, foldedSetIterable iter X.env x = pure x := by intro _; rfl) :
    DS X W (.Assign [.Name y py] (.ListComp elt [⟨tg, iter, ifs, 0⟩] scope pos) spos) (sSet i (eLc Fi (own.map (·.2)) G Tt E)) :=
  (ps_setLc hc hN hy hyl hsw hi ok hg ht he hs).imp fun Z σ H ⟨μ, I, sl, M, s, rs, p⟩ => tLc_T (X := X) (W := W) hvs ⟨μ, I, sl, M, s, rs, (PostS.bind (R := RD X.K (cmOf X.mg)) p rs).imp fun x H1 ⟨μ1, I1, M1, d, st, ra, p1⟩ => p1.here st.sim ((rs.mono st.gr).set i ra)⟩
end
end Bm

namespace Bm
open PySem L2 PyProof.Rows

/-- what a def hands back -/
inductive PR where
  | val (t : T) | fresh (ts : List T) | exc (x : Xn) | fail
section
variable (K : PySem.W.Frag) (cm : Str → Addr)
/-- a def that reads trees -/
def spP (n : Nat) (f : List T → PR) : Sp := fun vs H Q E => ∃ I ts, Ex I H ∧ RepTL K cm I ts vs ∧ ts.length = n ∧ (match f ts with
  | .val t => ∀ I' H' v, StepT I H I' H' → RepT K cm I' t v → Q v H'
  | .fresh us => ∀ I' H' p xs, StepT I H I' H' → H p = none → I' p = none → H' p = some (.lst xs) → RepTL K cm I' us xs → Q (.ref p) H'
  | .exc x => ∀ I' H' e d, StepT I H I' H' → RepX K cm I' H' x e d → E e d H'
  | .fail => False)
/-- one that reads trees and changes a list, its first argument -/
inductive BR where
  | val (t : T) (b : List T) | fresh (ts : List T) (b : List T) | exc (x : Xn) (b : List T) | fail
structure StepB (I H : Hp) (a : Addr) (b : List T) (I' H' : Hp) : Prop where
  ii : Ex I I'
  sub : Ex I' H'
  fr : ∀ c o, H c = some o → c ≠ a → H' c = some o
  nf : ∀ c o, H c = some o → I c = none → c ≠ a → I' c = none
  na : I' a = none
  at_ : ∃ xs, H' a = some (.lst xs) ∧ RepTL K cm I' b xs
def spB (n : Nat) (f : List T → List T → BR) : Sp := fun vs H Q E => ∃ I a b xs ts us, Ex I H ∧ vs = .ref a :: us ∧ I a = none ∧ H a = some (.lst xs) ∧ RepTL K cm I b xs ∧ RepTL K cm I ts us ∧ ts.length + 1 = n ∧ (match f b ts with
  | .val t b' => ∀ I' H' v, StepB K cm I H a b' I' H' → RepT K cm I' t v → Q v H'
  | .fresh us b' => ∀ I' H' p ys, StepB K cm I H a b' I' H' → H p = none → I' p = none → H' p = some (.lst ys) → RepTL K cm I' us ys → Q (.ref p) H'
  | .exc x b' => ∀ I' H' e d, StepB K cm I H a b' I' H' → RepX K cm I' H' x e d → E e d H'
  | .fail => False)
end
theorem spP_len {K : PySem.W.Frag} {cm : Str → Addr} {ps : List Str} {f : List T → PR} : ∀ vs H Q E, spP K cm ps.length f vs H Q E → vs.length = ps.length := fun vs H Q E ⟨I, ts, _, r, h, _⟩ => by rw [← r.length]; exact h
theorem spB_len {K : PySem.W.Frag} {cm : Str → Addr} {ps : List Str} {f : List T → List T → BR} : ∀ vs H Q E, spB K cm ps.length f vs H Q E → vs.length = ps.length := fun vs H Q E ⟨I, a, b, xs, ts, us, _, ev, _, _, _, r, h, _⟩ => by
  rw [ev, List.length_cons, ← r.length]; exact h

/-- the slots at a def's entry -/
def start' (n : Nat) (ds : List D) : List (Option D) := ds.map some ++ List.replicate (n - ds.length) none
theorem start_rep {K : PySem.W.Frag} {cm : Str → Addr} {μ : Nat → Addr} {I : Hp} {k : Nat} {n : Nat} {N : List Str} {ds : List D} {vs : List V} (hn : n = N.length) (r : RepDL K cm μ I k ds vs) : RepS K cm μ I k (start' n ds) (L2.start N vs) := by
  have key : ∀ (ds : List D) (vs : List V) (m : Nat), RepDL K cm μ I k ds vs → ∀ (i : Nat) (d : D), (ds.map some ++ List.replicate m none)[i]? = some (some d) → ∃ v, (vs.map some ++ List.replicate m none)[i]? = some (some v) ∧ RepD K cm μ I k d v := by
    intro ds
    induction ds with
    | nil =>
      intro vs m r i d e
      unfold RepDL at r
      subst r
      simp only [List.map_nil, List.nil_append] at e
      rw [List.getElem?_replicate] at e
      split at e <;> cases e
    | cons d0 ds ih =>
      intro vs m r i d e
      unfold RepDL at r
      obtain ⟨x, xs, rfl, h1, h2⟩ := r
      cases i with
      | zero => simp at e; subst e; exact ⟨x, rfl, h1⟩
      | succ i =>
        obtain ⟨v, h3, h4⟩ := ih xs m h2 i d (by simpa using e)
        exact ⟨v, by simpa using h3, h4⟩
  have hl := r.length
  subst hn
  unfold L2.start start'
  rw [hl]
  exact ⟨by simp [hl], fun i d e => key ds vs _ r i d e⟩
/-- a body's answer, of trees -/
def ansP (r : SRes) : PR := match r with
  | .nx _ _ => .val .non
  | .rt (.t t) _ => .val t
  | .rt (.m k) M => (match M[k]? with
    | some (.lst ts) => .fresh ts
    | some (.frz t) => .val t
    | _ => .fail)
  | .exc x _ _ => .exc x
  | _ => .fail
def runP (n : Nat) (F : FS) (ts : List T) : PR := ansP (F (start' n (ts.map D.t)) [])
def ansB (r : SRes) : BR := match r with
  | .nx _ M => (match (M[0]? : Option MO) with
    | some (.lst b) => .val .non b
    | _ => .fail)
  | .rt d M => (match (M[0]? : Option MO), d with
    | some (.lst b), .t t => .val t b
    | some (.lst b), .m (k + 1) => (match (M[k + 1]? : Option MO) with
      | some (.lst ts) => .fresh ts b
      | some (.frz t) => .val t b
      | _ => .fail)
    | _, _ => .fail)
  | .exc x _ M => (match (M[0]? : Option MO) with
    | some (.lst b) => .exc x b
    | _ => .fail)
  | _ => .fail
def runB (n : Nat) (F : FS) (b ts : List T) : BR := ansB (F (start' n (.m 0 :: ts.map D.t)) [.lst b])
/-- what an exception of a callee asks of the caller -/
def Lets (X : Cx) (W : WX) : Prop := ∀ σ, PassesAt (L2.CX X.prog X.w) X σ (fun e d H => W e d σ H)
theorem lets_of {X : Cx} {W : WX} (tk : Takes X W) : Lets X W := fun σ => passAt tk σ
theorem lets_blk {X : Cx} : Lets X W0 := fun σ pins H s e s' I c => by
  obtain ⟨a, B, H', cls, d, h⟩ := c
  exact h.2.2.2.2.2.2.2.elim
theorem repDL_ofT {K : PySem.W.Frag} {cm : Str → Addr} {μ : Nat → Addr} {I : Hp} {n : Nat} : ∀ {ts : List T} {vs : List V}, RepTL K cm I ts vs → RepDL K cm μ I n (ts.map D.t) vs
  | [], vs, h => by rw [inv_nil h]; exact RepDL.nil
  | t :: ts, vs, h => by
    obtain ⟨x, r, rfl, h1, h2⟩ := inv_cons h
    exact RepDL.cons h1 (repDL_ofT h2)
theorem sim_nil {K : PySem.W.Frag} {cm : Str → Addr} {μ : Nat → Addr} {I H : Hp} (s : Ex I H) : Sim K cm μ I [] H := ⟨s, fun i j hi => absurd hi (by simp), fun k hk => absurd hk (by simp), fun k o e => by simp at e⟩
theorem sim_one {K : PySem.W.Frag} {cm : Str → Addr} {I H : Hp} {a : Addr} {b : List T} {xs : List V} (s : Ex I H) (hI : I a = none) (hH : H a = some (.lst xs)) (r : RepTL K cm I b xs) : Sim K cm (fun _ => a) I [.lst b] H :=
  ⟨s, fun i j hi hj _ => by simp at hi hj; omega, fun k hk => ⟨_, hH⟩, fun k o e => by
    have hk : k = 0 := by
      have := (List.getElem?_eq_some_iff.mp e).1
      simp at this; exact this
    subst hk
    simp at e
    subst e
    exact ⟨hI, xs, hH, r⟩⟩
theorem Step.t {K : PySem.W.Frag} {cm : Str → Addr} {μ μ' : Nat → Addr} {I I' H H' : Hp} {M' : List MO} (st : Step K cm μ I [] H μ' I' M' H') : StepT I H I' H' :=
  ⟨st.gr.ex, st.sim.sub, fun a o h => st.fr a o h (fun k hk => absurd hk (by simp)), fun a o h n => st.nf a o h n (fun k hk => absurd hk (by simp))⟩
theorem Step.b {K : PySem.W.Frag} {cm : Str → Addr} {μ' : Nat → Addr} {I I' H H' : Hp} {M' : List MO} {a : Addr} {b b' : List T} (st : Step K cm (fun _ => a) I [.lst b] H μ' I' M' H') (e : M'[0]? = some (.lst b')) : StepB K cm I H a b' I' H' := by
  have e0 : μ' 0 = a := st.gr.ag 0 (by simp)
  obtain ⟨h1, xs, h2, h3⟩ := st.sim.obj 0 _ e
  rw [e0] at h1 h2
  exact ⟨st.gr.ex, st.sim.sub, fun c o h n => st.fr c o h (fun k _ => n), fun c o h n1 n2 => st.nf c o h n1 (fun k _ => n2), h1, xs, h2, h3⟩

section
variable {P : Program} {w : World} {K : PySem.W.Frag} {mg : Str → Option Value} {base : Heap} {x qual : Str} {st : Stmt} {f : Addr} {fd : FuncData} {N ps : List Str} {k : Nat}
/-- A DEF THAT READS TREES, by its body's function -/
theorem fn_P {n m : Nat} {Fb : FS} (F : Fun K x qual st f fd) (S : FnScope N ps (defScope st)) (hn : n = N.length) (hm : m = ps.length)
    (hbody : ∀ (cdv : Value) (A : Around) (outer : List Env) (s : Shared) (H : Hp) (E : XK), Room k (A.deeper (envOfC qual (defScope st) s.heap.objs.size f cdv)) →
      DSs (cxOf (L2.CX P w) P w K mg base N qual (defScope st) f cdv A outer s H E) (fun e d _ H' => E e d H') (defBody st) Fb) : FnOk P w K mg base (L2.CX P w) (k + 1) f fd ps (spP K (cmOf mg) m (runP n Fb)) := by
  subst hm
  refine F.okX S spP_len fun cdv A outer s H vs Q E hr h => ?_
  refine ⟨_, hbody cdv A outer s H E hr, ?_⟩
  obtain ⟨I, ts, ex, r, hl, h⟩ := h
  refine ⟨fun _ => 0, I, start' n (ts.map D.t), [], sim_nil ex, start_rep hn (repDL_ofT r), ?_⟩
  unfold runP at h
  cases q : Fb (start' n (ts.map D.t)) [] with
  | nx a M1 =>
    rw [q] at h
    exact fun μ' I' H' σ' st _ => h I' H' .non st.t rep_non
  | bk a M1 => rw [q] at h; exact h.elim
  | ct a M1 => rw [q] at h; exact h.elim
  | fail => rw [q] at h; exact h.elim
  | exc x a M1 =>
    rw [q] at h
    exact fun μ' I' H' σ' e d st _ rx => h I' H' e d st.t rx
  | rt d M1 =>
    rw [q] at h
    intro μ' I' H' v st rd
    cases d with
    | t t => exact h I' H' v st.t rd
    | m j =>
      obtain ⟨_, rfl⟩ := rd
      cases e : M1[j]? with
      | none => simp only [ansP, e] at h
      | some o =>
        cases o with
        | lst us =>
          simp only [ansP, e] at h
          obtain ⟨h1, xs, h2, h3⟩ := st.sim.obj j _ e
          have hj : j < M1.length := (List.getElem?_eq_some_iff.mp e).1
          exact h I' H' _ xs st.t (st.fresh j (Nat.zero_le _) hj) h1 h2 h3
        | frz t =>
          simp only [ansP, e] at h
          exact h I' H' _ st.t (st.sim.obj j _ e)
        | ins c ns ds => simp only [ansP, e] at h
        | dead => simp only [ansP, e] at h
/-- a def that reads trees and changes a list, its first argument -/
theorem fn_B {n m : Nat} {Fb : FS} (F : Fun K x qual st f fd) (S : FnScope N ps (defScope st)) (hn : n = N.length) (hm : m = ps.length)
    (hbody : ∀ (cdv : Value) (A : Around) (outer : List Env) (s : Shared) (H : Hp) (E : XK), Room k (A.deeper (envOfC qual (defScope st) s.heap.objs.size f cdv)) →
      DSs (cxOf (L2.CX P w) P w K mg base N qual (defScope st) f cdv A outer s H E) (fun e d _ H' => E e d H') (defBody st) Fb) : FnOk P w K mg base (L2.CX P w) (k + 1) f fd ps (spB K (cmOf mg) m (runB n Fb)) := by
  subst hm
  refine F.okX S spB_len fun cdv A outer s H vs Q E hr h => ?_
  refine ⟨_, hbody cdv A outer s H E hr, ?_⟩
  obtain ⟨I, a, b, xs, ts, us, ex, rfl, nI, hH, rb, r, hl, h⟩ := h
  have s1 : Sim K (cmOf mg) (fun _ => a) I [.lst b] H := sim_one ex nI hH rb
  refine ⟨fun _ => a, I, start' n (.m 0 :: ts.map D.t), [.lst b], s1, start_rep hn (RepDL.cons ⟨by simp, rfl⟩ (repDL_ofT r)), ?_⟩
  unfold runB at h
  cases q : Fb (start' n (.m 0 :: ts.map D.t)) [.lst b] with
  | nx z M1 =>
    rw [q] at h
    intro μ' I' H' σ' st _
    cases e : M1[0]? with
    | none => simp only [ansB, e] at h
    | some o =>
      cases o <;> simp only [ansB, e] at h
      exact h I' H' .non (st.b e) rep_non
  | bk z M1 => rw [q] at h; exact h.elim
  | ct z M1 => rw [q] at h; exact h.elim
  | fail => rw [q] at h; exact h.elim
  | exc x z M1 =>
    rw [q] at h
    intro μ' I' H' σ' e d st _ rx
    cases e0 : M1[0]? with
    | none => simp only [ansB, e0] at h
    | some o =>
      cases o <;> simp only [ansB, e0] at h
      exact h I' H' e d (st.b e0) rx
  | rt d M1 =>
    rw [q] at h
    intro μ' I' H' v st rd
    cases e0 : M1[0]? with
    | none => simp only [ansB, e0] at h
    | some o =>
      cases o <;> try (simp only [ansB, e0] at h; done)
      rename_i b'
      cases d with
      | t t =>
        simp only [ansB, e0] at h
        exact h I' H' v (st.b e0) rd
      | m j =>
        obtain ⟨hj, rfl⟩ := rd
        cases j with
        | zero => simp only [ansB, e0] at h
        | succ j =>
          cases e : M1[j + 1]? with
          | none => simp only [ansB, e0, e] at h
          | some o =>
            cases o with
            | lst us =>
              simp only [ansB, e0, e] at h
              obtain ⟨h1, xs', h2, h3⟩ := st.sim.obj (j + 1) _ e
              exact h I' H' _ xs' (st.b e0) (st.fresh (j + 1) (by simp) hj) h1 h2 h3
            | frz t =>
              simp only [ansB, e0, e] at h
              exact h I' H' _ (st.b e0) (st.sim.obj (j + 1) _ e)
            | ins c ns ds => simp only [ansB, e0, e] at h
            | dead => simp only [ansB, e0, e] at h
end

/-! ### calls -/
def eCall (n : Nat) (fp : List T → PR) (fs : Fn (List D)) : FE := fun sl M => (fs sl M).bind fun ds M1 => match frzL M1 ds with
  | some (ts, M2) => if ts.length = n then (match fp ts with
    | .val t => .ok (.t t) M2
    | .fresh us => .ok (.t (.lst us)) M2
    | .exc x => .exc x M2
    | .fail => .fail) else .fail
  | none => .fail
/-- .. where a new list is to change -/
def eCallM (n : Nat) (fp : List T → PR) (fs : Fn (List D)) : FE := fun sl M => (fs sl M).bind fun ds M1 => match frzL M1 ds with
  | some (ts, M2) => if ts.length = n then (match fp ts with
    | .val t => .ok (.t t) M2
    | .fresh us => .ok (.m M2.length) (M2 ++ [.lst us])
    | .exc x => .exc x M2
    | .fail => .fail) else .fail
  | none => .fail
theorem sp_call {K : PySem.W.Frag} {cm : Str → Addr} {μ : Nat → Addr} {I H : Hp} {M : List MO} {n : Nat} {fp : List T → PR} {ds : List D} {vs : List V} {Wx : XK} {Q : VK} (s : Sim K cm μ I M H) (ra : RepDL K cm μ I M.length ds vs)
    (p : Post K cm (RD K cm) μ I M H Wx (match frzL M ds with
      | some (ts, M2) => if ts.length = n then (match fp ts with
        | .val t => .ok (.t t) M2
        | .fresh us => .ok (.t (.lst us)) M2
        | .exc x => .exc x M2
        | .fail => .fail) else .fail
      | none => .fail) Q) : spP K cm n fp vs H Q Wx := by
  split at p
  · rename_i ts M2 e1
    obtain ⟨I2, st2, r2⟩ := frzL_ok s ra e1
    split at p
    · rename_i hn
      refine ⟨I2, ts, st2.sim.sub, r2, hn, ?_⟩
      have p := p.step st2
      cases q : fp ts with
      | val t => rw [q] at p; exact fun I' H' v st r => p μ I' H' v (st.step st2.sim) r
      | fresh us =>
        rw [q] at p
        intro I' H' a xs st n1 n2 h r
        have ex : Ex I' (upd I' a (.lst xs)) := Ex.new n2
        refine p μ (upd I' a (.lst xs)) H' (.ref a) (StepT.step (StepT.mk (st.ii.trans ex) (fun b o hb => ?_) st.hh (fun b o h1 h2 => ?_)) st2.sim) ?_
        · unfold upd at hb
          split at hb
          · rename_i q; cases hb; rw [q]; exact h
          · exact st.sub b o hb
        · rw [upd_ne (ne_of_none h1 n1)]; exact st.nf b o h1 h2
        · show RepT K cm _ (.lst us) (.ref a)
          unfold RepT
          exact ⟨a, xs, rfl, upd_same, RepTL.mono ex _ _ r⟩
      | exc x => rw [q] at p; exact fun I' H' e d st r => p μ I' H' e d (st.step st2.sim) r
      | fail => rw [q] at p; exact p.elim
    · exact p.elim
  · exact p.elim
theorem sp_callM {K : PySem.W.Frag} {cm : Str → Addr} {μ : Nat → Addr} {I H : Hp} {M : List MO} {n : Nat} {fp : List T → PR} {ds : List D} {vs : List V} {Wx : XK} {Q : VK} (s : Sim K cm μ I M H) (ra : RepDL K cm μ I M.length ds vs)
    (p : Post K cm (RD K cm) μ I M H Wx (match frzL M ds with
      | some (ts, M2) => if ts.length = n then (match fp ts with
        | .val t => .ok (.t t) M2
        | .fresh us => .ok (.m M2.length) (M2 ++ [.lst us])
        | .exc x => .exc x M2
        | .fail => .fail) else .fail
      | none => .fail) Q) : spP K cm n fp vs H Q Wx := by
  split at p
  · rename_i ts M2 e1
    obtain ⟨I2, st2, r2⟩ := frzL_ok s ra e1
    split at p
    · rename_i hn
      refine ⟨I2, ts, st2.sim.sub, r2, hn, ?_⟩
      have p := p.step st2
      cases q : fp ts with
      | val t => rw [q] at p; exact fun I' H' v st r => p μ I' H' v (st.step st2.sim) r
      | fresh us => rw [q] at p; exact fun I' H' a xs st n1 n2 h r => p.mnew st2.sim I' H' a xs st n1 n2 h r
      | exc x => rw [q] at p; exact fun I' H' e d st r => p μ I' H' e d (st.step st2.sim) r
      | fail => rw [q] at p; exact p.elim
    · exact p.elim
  · exact p.elim
theorem StepB.step {K : PySem.W.Frag} {cm : Str → Addr} {μ : Nat → Addr} {I H I' H' : Hp} {M : List MO} {k : Nat} {b b' : List T} (s : Sim K cm μ I M H) (e : M[k]? = some (.lst b)) (t : StepB K cm I H (μ k) b' I' H') :
    Step K cm μ I M H μ I' (M.set k (.lst b')) H' := by
  have hk : k < M.length := (List.getElem?_eq_some_iff.mp e).1
  have gr : Gr μ I M.length μ I' (M.set k (.lst b')).length := ⟨fun _ _ => rfl, by simp, t.ii⟩
  refine ⟨gr, ⟨t.sub, by simpa using s.inj, fun j hj => ?_, fun j o ej => ?_⟩, fun a o h n => t.fr a o h (n k hk), fun a o h n1 n2 => t.nf a o h n1 (n2 k hk), fun j h1 h2 => by simp at h2; omega⟩
  · simp at hj
    by_cases q : μ j = μ k
    · obtain ⟨xs, h, _⟩ := t.at_
      exact ⟨_, by rw [q]; exact h⟩
    · obtain ⟨o, h⟩ := s.tr j hj
      exact ⟨o, t.fr _ _ h q⟩
  · by_cases hj : k = j
    · subst hj
      rw [List.getElem?_set_self hk] at ej
      cases ej
      obtain ⟨xs, h, r⟩ := t.at_
      exact ⟨t.na, xs, h, r⟩
    · rw [List.getElem?_set_ne hj] at ej
      have hjl : j < M.length := (List.getElem?_eq_some_iff.mp ej).1
      have nm : μ j ≠ μ k := fun q => hj (s.inj k j hk hjl q.symm)
      have q := s.obj j o ej
      cases o with
      | lst us =>
        obtain ⟨q1, zs, q2, q3⟩ := q
        exact ⟨t.nf _ _ q2 q1 nm, zs, t.fr _ _ q2 nm, RepTL.mono t.ii _ _ q3⟩
      | ins cl ns ds =>
        obtain ⟨q1, dx, zs, q2, q3, q4⟩ := q
        exact ⟨t.nf _ _ q2 q1 nm, dx, zs, t.fr _ _ q2 nm, q3, q4.mono gr⟩
      | frz w => exact RepT.mono t.ii _ _ q
      | dead =>
        obtain ⟨u, e2⟩ := s.tr j hjl
        exact t.nf _ _ e2 q nm
def gCallB (n : Nat) (fb : List T → List T → BR) (ds : List D) (M1 : List MO) : Res D := match ds with
  | .m k :: rest => (match frzL M1 rest with
    | some (ts, M2) => (match (M2[k]? : Option MO) with
      | some (.lst b) => if ts.length + 1 = n then (match fb b ts with
        | .val t b' => .ok (.t t) (M2.set k (.lst b'))
        | .fresh us b' => .ok (.t (.lst us)) (M2.set k (.lst b'))
        | .exc x b' => .exc x (M2.set k (.lst b'))
        | .fail => .fail) else .fail
      | _ => .fail)
    | none => .fail)
  | _ => .fail
def eCallB (n : Nat) (fb : List T → List T → BR) (fs : Fn (List D)) : FE := fun sl M => (fs sl M).bind (gCallB n fb)
theorem sp_callB {K : PySem.W.Frag} {cm : Str → Addr} {μ : Nat → Addr} {I H : Hp} {M : List MO} {n : Nat} {fb : List T → List T → BR} {ds : List D} {vs : List V} {Wx : XK} {Q : VK} (s : Sim K cm μ I M H) (ra : RepDL K cm μ I M.length ds vs)
    (p : Post K cm (RD K cm) μ I M H Wx (gCallB n fb ds M) Q) : spB K cm n fb vs H Q Wx := by
  unfold gCallB at p
  split at p
  · rename_i k rest
    unfold RepDL at ra
    obtain ⟨x, us, rfl, ⟨hk, rfl⟩, r⟩ := ra
    split at p
    · rename_i ts M2 e1
      obtain ⟨I2, st2, r2⟩ := frzL_ok s r e1
      split at p
      · rename_i b e2
        split at p
        · rename_i hn
          obtain ⟨h1, xs, h2, h3⟩ := st2.sim.obj k _ e2
          refine ⟨I2, μ k, b, xs, ts, us, st2.sim.sub, rfl, h1, h2, h3, r2, hn, ?_⟩
          have p := p.step st2
          cases q : fb b ts with
          | val t b' => rw [q] at p; exact fun I' H' v st r => p μ I' H' v (st.step st2.sim e2) r
          | fresh us' b' =>
            rw [q] at p
            intro I' H' a ys st n1 n2 h r
            have ex : Ex I' (upd I' a (.lst ys)) := Ex.new n2
            have na : a ≠ μ k := fun z => by rw [z, h2] at n1; cases n1
            refine p μ (upd I' a (.lst ys)) H' (.ref a) (StepB.step st2.sim e2 ⟨st.ii.trans ex, fun b o hb => ?_, st.fr, fun b o g1 g2 g3 => ?_, ?_, ?_⟩) ?_
            · unfold upd at hb
              split at hb
              · rename_i q; cases hb; rw [q]; exact h
              · exact st.sub b o hb
            · rw [upd_ne (ne_of_none g1 n1)]; exact st.nf b o g1 g2 g3
            · rw [upd_ne na.symm]; exact st.na
            · obtain ⟨zs, z1, z2⟩ := st.at_
              exact ⟨zs, z1, RepTL.mono ex _ _ z2⟩
            · show RepT K cm _ (.lst us') (.ref a)
              unfold RepT
              exact ⟨a, ys, rfl, upd_same, RepTL.mono ex _ _ r⟩
          | exc x b' => rw [q] at p; exact fun I' H' e d st r => p μ I' H' e d (st.step st2.sim e2) r
          | fail => rw [q] at p; exact p.elim
        · exact p.elim
      · exact p.elim
    · exact p.elim
  · exact p.elim

section
variable {X : Cx} {W : WX} {x : Str} {f : Addr} {fd : FuncData} {ps : List Str} {k n : Nat} {fp : List T → PR} {fb : List T → List T → BR} {p pos : Pos} {e : Expr} {es : List Expr} {fs : Fn (List D)}
theorem de_call (F : FnOk X.prog X.w X.K X.mg X.base (L2.CX X.prog X.w) k f fd ps (spP X.K (cmOf X.mg) n fp)) (hr : Room k X.A) (hg : Gl X x) (hm : X.mg x = some (.ref f)) (hk : PySem.W.keepIn X.K (.ref f) = true) (hb : Binds X.K fd ps []) (lt : Lets X W)
    (ha : DA X W (e :: es) fs) (hdb : (x == ("__debug__" : Str)) = false := by decide) (he : starEach (e :: es) X.env = (false, eval e X.env) :: starEach es X.env := by rfl) (hpl : (backTo pos (starEach es X.env)).any (·.1) = false := by rfl) :
    DE X W (.Call (.Name x p) (e :: es) [] pos) (eCall n fp fs) :=
  (pe_callSD (E := fun σ e d H => W e d σ H) F hr hg hm hk hb .nil lt ha hdb he hpl).imp fun σ H Q ⟨μ, I, sl, M, s, rs, p⟩ => ⟨μ, I, sl, M, s, rs, (Post.bind (R := RL X.K (cmOf X.mg)) p).imp fun vs H1 ⟨μ1, I1, M1, ds, st, ra, p1⟩ => by
    rw [List.append_nil]
    exact sp_call st.sim ra p1⟩
theorem de_callM (F : FnOk X.prog X.w X.K X.mg X.base (L2.CX X.prog X.w) k f fd ps (spP X.K (cmOf X.mg) n fp)) (hr : Room k X.A) (hg : Gl X x) (hm : X.mg x = some (.ref f)) (hk : PySem.W.keepIn X.K (.ref f) = true) (hb : Binds X.K fd ps []) (lt : Lets X W)
    (ha : DA X W (e :: es) fs) (hdb : (x == ("__debug__" : Str)) = false := by decide) (he : starEach (e :: es) X.env = (false, eval e X.env) :: starEach es X.env := by rfl) (hpl : (backTo pos (starEach es X.env)).any (·.1) = false := by rfl) :
    DE X W (.Call (.Name x p) (e :: es) [] pos) (eCallM n fp fs) :=
  (pe_callSD (E := fun σ e d H => W e d σ H) F hr hg hm hk hb .nil lt ha hdb he hpl).imp fun σ H Q ⟨μ, I, sl, M, s, rs, p⟩ => ⟨μ, I, sl, M, s, rs, (Post.bind (R := RL X.K (cmOf X.mg)) p).imp fun vs H1 ⟨μ1, I1, M1, ds, st, ra, p1⟩ => by
    rw [List.append_nil]
    exact sp_callM st.sim ra p1⟩
theorem de_callBag (F : FnOk X.prog X.w X.K X.mg X.base (L2.CX X.prog X.w) k f fd ps (spB X.K (cmOf X.mg) n fb)) (hr : Room k X.A) (hg : Gl X x) (hm : X.mg x = some (.ref f)) (hk : PySem.W.keepIn X.K (.ref f) = true) (hb : Binds X.K fd ps []) (lt : Lets X W)
    (ha : DA X W (e :: es) fs) (hdb : (x == ("__debug__" : Str)) = false := by decide) (he : starEach (e :: es) X.env = (false, eval e X.env) :: starEach es X.env := by rfl) (hpl : (backTo pos (starEach es X.env)).any (·.1) = false := by rfl) :
    DE X W (.Call (.Name x p) (e :: es) [] pos) (eCallB n fb fs) :=
  (pe_callSD (E := fun σ e d H => W e d σ H) F hr hg hm hk hb .nil lt ha hdb he hpl).imp fun σ H Q ⟨μ, I, sl, M, s, rs, p⟩ => ⟨μ, I, sl, M, s, rs, (Post.bind (R := RL X.K (cmOf X.mg)) p).imp fun vs H1 ⟨μ1, I1, M1, ds, st, ra, p1⟩ => by
    rw [List.append_nil]
    exact sp_callB st.sim ra p1⟩
end
end Bm

namespace Bm
open PySem L2 PyProof.Rows

/-! ### calls by keywords alone -/
def perm {α : Type} (π : List Nat) (xs : List α) : List α := π.filterMap fun i => xs[i]?
theorem perm_vals {π : List Nat} {vs : List V} {us : List Value} (r : Vals vs us) (h : ∀ i ∈ π, i < vs.length) : Vals (perm π vs) (perm π us) := by
  induction π with
  | nil => exact .nil
  | cons i π ih =>
    have hi := h i (by simp)
    obtain ⟨u, h1, h2⟩ := r.get (List.getElem?_eq_getElem hi)
    unfold perm
    rw [List.filterMap_cons, List.getElem?_eq_getElem hi, List.filterMap_cons, h1]
    exact .cons h2 (ih fun j hj => h j (by simp [hj]))
theorem perm_rep {K : PySem.W.Frag} {cm : Str → Addr} {I : Hp} {π : List Nat} {ts : List T} {vs : List V} (r : RepTL K cm I ts vs) (h : ∀ i ∈ π, i < ts.length) : RepTL K cm I (perm π ts) (perm π vs) := by
  induction π with
  | nil => exact RepTL.nil
  | cons i π ih =>
    have hi := h i (by simp)
    obtain ⟨u, h1, h2⟩ := r.get (List.getElem?_eq_getElem hi)
    unfold perm
    rw [List.filterMap_cons, List.getElem?_eq_getElem hi, List.filterMap_cons, h1]
    exact RepTL.cons h2 (ih fun j hj => h j (by simp [hj]))
theorem perm_len {α : Type} {π : List Nat} {xs : List α} (h : ∀ i ∈ π, i < xs.length) : (perm π xs).length = π.length := by
  induction π with
  | nil => rfl
  | cons i π ih =>
    have hi := h i (by simp)
    unfold perm
    rw [List.filterMap_cons, List.getElem?_eq_getElem hi]
    simp only [List.length_cons]
    exact congrArg Nat.succ (ih fun j hj => h j (by simp [hj]))
abbrev DK (X : Cx) (W : WX) (kws : List Keyword) (F : Fn (List D)) : Prop := PK X kws (rdA X W F)
theorem PK.imp {X : Cx} {e : List Keyword} {t t' : TA} (h : PK X e t) (i : ∀ σ H Q, t' σ H Q → t σ H Q) : PK X e t' := ⟨fun pos pins s σ H Q I q => h.run pos pins s σ H Q I (i _ _ _ q)⟩
section
variable {X : Cx} {W : WX} {x : Str} {f : Addr} {fd : FuncData} {ps ks : List Str} {k n : Nat} {fp : List T → PR} {p pos kpos : Pos} {e : Expr} {fs : Fn (List D)} {fa : FE} {kws : List Keyword} {nm : Option Str}
theorem dk_nil : DK X W [] aNil := PK.imp pk_nil fun σ H Q ⟨μ, I, sl, M, s, rs, p⟩ => p.here s RepDL.nil
theorem dk_cons (ha : DE X W e fa) (hr : DK X W kws fs) : DK X W (⟨nm, e, kpos⟩ :: kws) (aCons fa fs) :=
  PK.imp (pk_cons ha hr) fun σ H Q ⟨μ, I, sl, M, s, rs, p⟩ => ⟨μ, I, sl, M, s, rs, (Post.bind (R := RD X.K (cmOf X.mg)) p).imp fun x H1 ⟨μ1, I1, M1, d, st, ra, p1⟩ =>
    ⟨μ1, I1, sl, M1, st.sim, rs.mono st.gr, (Post.bind (R := RL X.K (cmOf X.mg)) p1).imp fun y H2 ⟨μ2, I2, M2, ds, st2, rb, p2⟩ => p2.here st2.sim (RepDL.cons (ra.mono st2.gr) rb)⟩⟩
def eCallK (n : Nat) (fp : List T → PR) (π : List Nat) (fs : Fn (List D)) : FE := eCall n (fun ts => fp (perm π ts)) fs
theorem de_callK0 {π : List Nat} (F : FnOk X.prog X.w X.K X.mg X.base (L2.CX X.prog X.w) k f fd ps (spP X.K (cmOf X.mg) n fp)) (hr : Room k X.A) (hg : Gl X x) (hm : X.mg x = some (.ref f)) (hk : PySem.W.keepIn X.K (.ref f) = true) (hπ : π.length = n ∧ ∀ i ∈ π, i < n)
    (hb : ∀ (s : Shared) (ws : List Value), X.K.In s.heap → ws.length = n → BindsTo s fd ⟨[], ks.zip ws⟩ (ps.zip (perm π ws))) (lt : Lets X W) (hkw : DK X W kws fs)
    (hall : (backToKw pos (keywordEach kws X.env)).all (·.1.isSome) = true := by rfl) (hks : (backToKw pos (keywordEach kws X.env)).filterMap (·.1) = ks := by rfl)
    (hdb : (x == ("__debug__" : Str)) = false := by decide)
    (hpl : ((backTo pos (starEach [] X.env)).any (·.1) || (backToKw pos (keywordEach kws X.env)).any (·.1.isNone)) = false := by rfl) :
    DE X W (.Call (.Name x p) [] kws pos) (eCallK n fp π fs) := by
  refine ⟨fun pins s σ H Q I h => ?_⟩
  refine wpAny_Call_Name_kw (ld_glob I hg hm ?_ hdb)
  refine PySem.W.callWith_KW0 (h₀ := X.base) I.ok.mod.kin hk hall ?_ hpl
  obtain ⟨μ, I0, sl, M, s0, rs, p⟩ := h
  refine thn (hkw.run pos pins s σ H _ I ⟨μ, I0, sl, M, s0, rs, Post.bind (R := RL X.K (cmOf X.mg)) p⟩) fun ws s2 ⟨zs, H2, I2, rz, μ1, I1, M1, ds, st, ra, p1⟩ => ⟨I2.kIn, ?_⟩
  rw [hks]
  obtain ⟨I3, ts, ex, rt, hl, q⟩ := sp_call st.sim ra p1
  have hlz : zs.length = n := by rw [← rt.length]; exact hl
  have hπz : ∀ i ∈ π, i < zs.length := fun i hi => by rw [hlz]; exact hπ.2 i hi
  have hπt : ∀ i ∈ π, i < ts.length := fun i hi => by rw [hl]; exact hπ.2 i hi
  have sp : spP X.K (cmOf X.mg) n fp (perm π zs) H2 Q (fun e d H' => W e d σ H') := ⟨I3, perm π ts, ex, perm_rep rt hπt, by rw [perm_len hπt]; exact hπ.1, q⟩
  refine wpAny_call (codeAny_mono (F.run X.A X.stack s2 H2 ⟨[] ++ [], ks.zip ws⟩ (perm π ws) (perm π zs) Q _ hr I2.env0 (hb s2 ws I2.kIn (by rw [← rz.length]; exact hlz)) (perm_vals rz hπz) sp) fun r s' hq => ?_)
  cases r with
  | error e => exact lt σ pins H2 s2 e s' I2 hq
  | ok fl =>
    cases fl with
    | ret u => exact I2.after hq
    | next => exact False.elim hq
    | brk => exact False.elim hq
    | cont => exact False.elim hq
end

/-! ### more rules -/
section
variable {X : Cx} {W : WX} {a b c : Expr} {fa fb : FE} {pos : Pos}
def eNeg (F : FE) : FE := fun sl M => (F sl M).bind fun d M1 => match d with
  | .t (.int i) => .ok (.t (.int (-i))) M1
  | _ => .fail
theorem de_neg (ha : DE X W a fa) : DE X W (.UnaryOp .USub a pos) (eNeg fa) :=
  (pe_un un_neg ha).imp fun σ H Q ⟨μ, I, sl, M, s, rs, p⟩ => ⟨μ, I, sl, M, s, rs, (Post.bind (R := RD X.K (cmOf X.mg)) p).imp fun x H1 ⟨μ1, I1, M1, d, st, ra, p1⟩ => by
    split at p1
    · exact ⟨_, inv_int (K := X.K) (cm := cmOf X.mg) (I := I1) ra, p1.int st.sim⟩
    · exact p1.elim⟩
/-- a, b, c = x, y, z -/
def sPar3 (i j l : Nat) (fs : Fn (List D)) : FS := fun sl M => (fs sl M).toS sl fun ds M1 => match ds with
  | [d, d', d''] => .nx (((sl.set i (some d)).set j (some d')).set l (some d'')) M1
  | _ => .fail
theorem ds_par3 {i j l : Nat} {x y z : Str} {fs : Fn (List D)} {px py pz pt : Pos} {kt k2 pt2} (hc : X.calm = true) (hN : X.N.Nodup) (hi : X.N[i]? = some x) (hj : X.N[j]? = some y) (hl : X.N[l]? = some z) (hij : i ≠ j) (hil : i ≠ l) (hjl : j ≠ l)
    (hx : X.env.scope.names.lookup x = some .local) (hy : X.env.scope.names.lookup y = some .local) (hz : X.env.scope.names.lookup z = some .local) (ha : DA X W [a, b, c] fs)
    (hw : swappedStores [.Tuple [.Name x px, .Name y py, .Name z pz] kt pt] (.Tuple [a, b, c] k2 pt2) X.env = pure (some [x, y, z]))
    (hs : swapsWithSole [.Tuple [.Name x px, .Name y py, .Name z pz] kt pt] (.Tuple [a, b, c] k2 pt2) pos.line X.env = pure false := by rfl) :
    DS X W (.Assign [.Tuple [.Name x px, .Name y py, .Name z pz] kt pt] (.Tuple [a, b, c] k2 pt2) pos) (sPar3 i j l fs) :=
  (ps_par3 hc hN hi hj hl hij hil hjl hx hy hz ha hw hs).imp fun Z σ H ⟨μ, I, sl, M, s, rs, p⟩ => ⟨μ, I, sl, M, s, rs, (PostS.bind (R := RL X.K (cmOf X.mg)) p rs).imp fun vs H1 ⟨μ1, I1, M1, ds, st, ra, p1⟩ => by
    split at p1
    · rename_i d d' d''
      have ra : RepDL X.K (cmOf X.mg) μ1 I1 M1.length [d, d', d''] vs := ra
      unfold RepDL at ra
      obtain ⟨v, r, rfl, r1, r2⟩ := ra
      obtain ⟨w, u, rfl, r3, r4⟩ := inv2D r2
      exact ⟨v, w, u, rfl, p1.here st.sim ((((rs.mono st.gr).set i r1).set j r3).set l r4)⟩
    · exact p1.elim⟩
/-- is of truths -/
def isBT : T → T → Option T
  | .bl a, .bl b => some (.bl (decide (a = b)))
  | _, _ => none
def isnotBT : T → T → Option T
  | .bl a, .bl b => some (.bl (!decide (a = b)))
  | _, _ => none
theorem top_isB {K : PySem.W.Frag} {cm : Str → Addr} : TOp K cm rIsB isBT := by
  intro I H a b c x y Q s ra rb e al
  unfold isBT at e
  split at e
  · cases e
    exact ⟨_, _, inv_bl ra, inv_bl rb, al.val s rep_bl⟩
  · cases e
theorem top_isnotB {K : PySem.W.Frag} {cm : Str → Addr} : TOp K cm rNotB isnotBT := by
  intro I H a b c x y Q s ra rb e al
  unfold isnotBT at e
  split at e
  · cases e
    exact ⟨_, _, inv_bl ra, inv_bl rb, al.val s rep_bl⟩
  · cases e
variable {apos cpos : Pos} {o : Expr} {fo : FE}
abbrev GM0 := D → List MO → Res D
def DMt0 (K : PySem.W.Frag) (cm : Str → Addr) (r : V → List V → Hp → VK → Prop) (g : GM0) : Prop := ∀ μ I M H d v Q (Wx : XK), Sim K cm μ I M H → RepD K cm μ I M.length d v → Post K cm (RD K cm) μ I M H Wx (g d M) Q → r v [] H Q
def eBM0 (ty : D → List MO → Bool) (g : GM0) (fo : FE) : FE := fun sl M => (fo sl M).bind fun d M1 => if ty d M1 then g d M1 else .fail
theorem tBM0_of {T : String} {r : V → List V → Hp → VK → Prop} {g : GM0} {ty : D → List MO → Bool} (hty : ∀ {μ I M H d v}, Sim X.K (cmOf X.mg) μ I M H → RepD X.K (cmOf X.mg) μ I M.length d v → ty d M = true → tyV X.K T v H) (hd : DMt0 X.K (cmOf X.mg) r g) {σ H Q}
    (h : rdE X W (eBM0 ty g fo) σ H Q) : tBM0 X.K T r (rdE X W fo) σ H Q := by
  obtain ⟨μ, I, sl, M, s, rs, p⟩ := h
  refine ⟨μ, I, sl, M, s, rs, (Post.bind (R := RD X.K (cmOf X.mg)) p).imp fun x H1 ⟨μ1, I1, M1, d, st, ra, p1⟩ => ?_⟩
  split at p1
  · rename_i ht
    exact ⟨hty st.sim ra ht, hd _ _ _ _ _ _ _ _ st.sim ra p1⟩
  · exact p1.elim
def gClear : GM0 := fun d M => match d with
  | .m k => (match (M[k]? : Option MO) with
    | some (.lst _) => .ok (.t .non) (M.set k (.lst []))
    | _ => .fail)
  | _ => .fail
theorem dm_clear {K : PySem.W.Frag} {cm : Str → Addr} : DMt0 K cm rClear gClear := fun μ I M H d v Q Wx s rd p => by
  unfold gClear at p
  split at p
  · rename_i k
    split at p
    · rename_i ts e2
      obtain ⟨_, rfl⟩ := rd
      obtain ⟨_, xs, h1, h2⟩ := s.obj k _ e2
      have st := mset_step s e2 (us := []) (ys := []) RepTL.nil
      exact ⟨μ k, xs, rfl, rfl, h1, (p.step st).non st.sim⟩
    · exact p.elim
  · exact p.elim
theorem de_clear (ho : DE X W o fo) (hbase : attributeBase o "clear" X.env (eval o X.env) = eval o X.env := by rfl) (hline : (apos.endLine == cpos.line) = true := by rfl) :
    DE X W (.Call (.Attribute o "clear" apos) [] [] cpos) (eBM0 isLst gClear fo) :=
  (pe_bm0 PySem.F.plainAttrs_list PySem.F.slot_list_clear PySem.F.type_list_clear (fun pins s σ H x xs v us Q I rx rv q => mt_clear pins s σ H x xs v us Q I rx rv q) ho hbase hline).imp fun _ _ _ h => tBM0_of ty_lst dm_clear h
/-- pop(i) -/
def gPopAt : GM := fun d ds M => match d, ds with
  | .m k, [.t (.int i)] => (match (M[k]? : Option MO) with
    | some (.lst ts) => if -(2 ^ 63) ≤ i ∧ i < 2 ^ 63 then (match seqIndex? i ts.length with
      | some j => (match ts[j]? with
        | some t => .ok (.t t) (M.set k (.lst (ts.eraseIdx j)))
        | none => .fail)
      | none => .fail) else .fail
    | _ => .fail)
  | _, _ => .fail
theorem rep_erase {K : PySem.W.Frag} {cm : Str → Addr} {I : Hp} : ∀ {ts : List T} {xs : List V} (j : Nat), RepTL K cm I ts xs → RepTL K cm I (ts.eraseIdx j) (xs.eraseIdx j)
  | [], xs, j, h => by rw [inv_nil h]; exact RepTL.nil
  | t :: ts, xs, 0, h => by
    obtain ⟨x, r, rfl, h1, h2⟩ := inv_cons h
    exact h2
  | t :: ts, xs, j + 1, h => by
    obtain ⟨x, r, rfl, h1, h2⟩ := inv_cons h
    exact RepTL.cons h1 (rep_erase j h2)
theorem dm_popAt {K : PySem.W.Frag} {cm : Str → Addr} : DMt K cm "list" rPopAt gPopAt := fun μ I M H d ds v vs Q Wx s rd rr p => by
  unfold gPopAt at p
  split at p
  · rename_i k i
    split at p
    · rename_i ts e2
      split at p
      · rename_i hi
        split at p
        · rename_i j e3
          split at p
          · rename_i t e4
            obtain ⟨w, rfl, rw1⟩ := inv1 rr
            obtain ⟨_, rfl⟩ := rd
            obtain ⟨_, xs, h1, h2⟩ := s.obj k _ e2
            obtain ⟨y, h3, h4⟩ := h2.get e4
            have st := mset_step s e2 (rep_erase j h2)
            refine ⟨μ k, xs, i, j, y, rfl, by rw [inv_int (K := K) (cm := cm) (I := I) rw1], h1, hi.1, hi.2, by rw [← h2.length]; exact e3, h3, ?_⟩
            exact (p.step st) μ I _ y (Step.refl st.sim) h4
          · exact p.elim
        · exact p.elim
      · exact p.elim
    · exact p.elim
  · exact p.elim
theorem de_popAt {e : Expr} {fs : Fn (List D)} (ho : DE X W o fo) (ha : DA X W [e] fs)
    (hbase : attributeBase o "pop" X.env (eval o X.env) = eval o X.env := by rfl)
    (hfew : ((backTo cpos (starEach [e] X.env)).all (fun x => !x.1) && (backToKw cpos (keywordEach [] X.env)).all (fun x => x.1.isSome)
      && decide ([e].length + ([] : List Keyword).length + (if ([] : List Keyword).isEmpty then 0 else 1) < 30)) = true := by rfl)
    (hline : (apos.endLine == cpos.line) = true := by rfl) (hs : starEach [e] X.env = (false, eval e X.env) :: starEach [] X.env := by rfl) :
    DE X W (.Call (.Attribute o "pop" apos) [e] [] cpos) (eBM isLst gPopAt fo fs) :=
  de_bm PySem.F.plainAttrs_list PySem.F.slot_list_pop PySem.F.type_list_pop (fun pins s σ H x xs v us Q I rx rv q => mt_popAt pins s σ H x xs v us Q I rx rv q) ty_lst dm_popAt ho ha hbase hfew hline hs
end
theorem fn_P_fail {P : Program} {w : World} {K : PySem.W.Frag} {mg : Str → Option Value} {base : Heap} {CX : CXT} {k m : Nat} {f : Addr} {fd : FuncData} {ps : List Str} (hm : m = ps.length) : FnOk P w K mg base CX k f fd ps (spP K (cmOf mg) m fun _ => .fail) := by
  subst hm
  exact ⟨spP_len, fun A outer s H args us vs Q E _ _ _ _ ⟨_, _, _, _, _, h⟩ => h.elim⟩
theorem fn_B_fail {P : Program} {w : World} {K : PySem.W.Frag} {mg : Str → Option Value} {base : Heap} {CX : CXT} {k m : Nat} {f : Addr} {fd : FuncData} {ps : List Str} (hm : m = ps.length) : FnOk P w K mg base CX k f fd ps (spB K (cmOf mg) m fun _ _ => .fail) := by
  subst hm
  exact ⟨spB_len, fun A outer s H args us vs Q E _ _ _ _ ⟨_, _, _, _, _, _, _, _, _, _, _, _, _, h⟩ => h.elim⟩

/-! ### small things for printed proofs -/
theorem PTs.imp {X : Cx} {e : List Expr} {t t' : TT} (h : PTs X e t) (i : ∀ σ H Q, t' σ H Q → t σ H Q) : PTs X e t' := ⟨fun pins s σ H Q I q => h.run pins s σ H Q I (i _ _ _ q)⟩
theorem dts_nil {X : Cx} : PTs X [] (rdB X W0 bYes) := PTs.imp pts_nil fun σ H Q ⟨μ, I, sl, M, s, rs, p⟩ => p.here s rfl
theorem dts_one {X : Cx} {c : Expr} {t : Fn Bool} (h : DT X W0 c t) : PTs X [c] (rdB X W0 t) := pts_one h
/-- a def of the text, as it stands behind the top -/
structure DefAt (K : PySem.W.Frag) (mg : Str → Option Value) (x : Str) (st : Stmt) (ps : List Str) where
  f : Addr
  fd : FuncData
  F : Fun K x x st f fd
  m : mg x = some (.ref f)
  b : Binds K fd ps []
/-- a constant of the module -/
def GlobAt (K : PySem.W.Frag) (mg : Str → Option Value) (x : Str) (t : T) : Prop := ∃ u v, mg x = some u ∧ RelV v u ∧ ∀ I, RepT K (cmOf mg) I t v
theorem de_gl {X : Cx} {W : WX} {x : Str} {t : T} {pos : Pos} (hg : Gl X x) (g : GlobAt X.K X.mg x t) (hd : (x == ("__debug__" : Str)) = false := by decide) : DE X W (.Name x pos) (eC t) := by
  obtain ⟨u, v, h1, h2, h3⟩ := g
  exact de_glob hg h1 h2 h3 hd
/-- built-in classes: what isinstance answers -/
def kinds : List String := ["NoneType", "bool", "int", "str", "list", "tuple"]
def tabB : Kd → Kd → Option Bool
  | .inl a, .inl b => if a ∈ kinds ∧ b ∈ kinds then some (a == b || (a == "bool" && b == "int")) else none
  | _, _ => none
theorem tabB_kit : ∀ a ∈ kinds, ∀ b ∈ kinds, kitB a b = some (a == b || (a == "bool" && b == "int")) := by decide +kernel
theorem tabB_ok {K : PySem.W.Frag} {cm : Str → Addr} : TabOk K cm tabB where
  one := fun k c b h => by
    cases k with
    | inr s => cases h
    | inl a =>
      cases c with
      | inr s => cases h
      | inl b' =>
        simp only [tabB] at h
        split at h
        · rename_i hc
          cases h
          exact kit_ty (tabB_kit a hc.1 b' hc.2)
        · cases h
  ins := fun s c b h => by cases h
theorem de_isi {X : Cx} {W : WX} {a b : Expr} {fs : Fn (List D)} {tab : Kd → Kd → Option Bool} {p pos : Pos} (tk : TabOk X.K (cmOf X.mg) tab) (hg : Gl X "isinstance") (hm : X.mg "isinstance" = none) (ha : DA X W [a, b] fs)
    (he : starEach [a, b] X.env = (false, eval a X.env) :: starEach [b] X.env := by rfl) (hpl : (backTo pos (starEach [b] X.env)).any (·.1) = false := by rfl) : DE X W (.Call (.Name "isinstance" p) [a, b] [] pos) (eCB (gP (isiT tab)) fs) :=
  de_callB call_isiA (tc_isi tk).d hg hm boot_isinstance ha (he := he) (hpl := hpl)
end Bm

namespace Bm
open PySem L2
section
variable {sl sl1 : List (Option D)} {M M1 M2 M3 M4 : List MO}
theorem seq_nx {f g : FS} (h : f sl M = .nx sl1 M1) : sSeq f g sl M = g sl1 M1 := by unfold sSeq; rw [h]
theorem v_seq {f g : FS} {r : SRes} (h : f sl M = .nx sl1 M1) (h2 : g sl1 M1 = r) : sSeq f g sl M = r := (seq_nx h).trans h2
theorem v_seqR {f g : FS} {d : D} (h : f sl M = .rt d M1) : sSeq f g sl M = .rt d M1 := by unfold sSeq; rw [h]
theorem v_var {i : Nat} {d : D} (h : sl[i]? = some (some d)) : eVar i sl M = .ok d M := by unfold eVar; rw [h]
theorem v_set {i : Nat} {F : FE} {d : D} (h : F sl M = .ok d M1) : sSet i F sl M = .nx (sl.set i (some d)) M1 := by unfold sSet; rw [h]; rfl
theorem v_ret {F : FE} {d : D} (h : F sl M = .ok d M1) : sRet F sl M = .rt d M1 := by unfold sRet; rw [h]; rfl
theorem v_expr {F : FE} {d : D} (h : F sl M = .ok d M1) : sExpr F sl M = .nx sl M1 := by unfold sExpr; rw [h]; rfl
theorem v_if {t : Fn Bool} {f g : FS} {k : Bool} {r : SRes} (h : t sl M = .ok k M1) (h2 : (if k then f sl M1 else g sl M1) = r) : sIf t f g sl M = r := by unfold sIf; rw [h]; exact h2
theorem v_asg {F : FE} {G : GG} {d : D} (h : F sl M = .ok d M1) (h2 : G d sl M1 = .nx sl1 M2) : sAsg F G sl M = .nx sl1 M2 := by unfold sAsg; rw [h]; show (match G d sl M1 with | .nx sl' M' => _ | .exc x sl' M' => _ | _ => _) = _; rw [h2]
theorem v_cons {fa : FE} {fs : Fn (List D)} {d : D} {ds : List D} (h : fa sl M = .ok d M1) (h2 : fs sl M1 = .ok ds M2) : aCons fa fs sl M = .ok (d :: ds) M2 := by
  unfold aCons; rw [h]; show (fs sl M1).bind _ = _; rw [h2]; rfl
theorem v_nil : aNil sl M = .ok [] M := rfl
theorem v_c {t : T} : eC t sl M = .ok (.t t) M := rfl
theorem v_e2 {g : G2} {fa fb : FE} {a b : D} {r : Res D} (ha : fa sl M = .ok a M1) (hb : fb sl M1 = .ok b M2) (h : g a b M2 = r) : e2 g fa fb sl M = r := by
  unfold e2; rw [ha]; show (fb sl M1).bind _ = _; rw [hb]; exact h
theorem v_cb {g : GC} {fs : Fn (List D)} {ds : List D} {r : Res D} (ha : fs sl M = .ok ds M1) (h : g ds M1 = r) : eCB g fs sl M = r := by
  unfold eCB; rw [ha]; exact h
theorem v_callB {n : Nat} {fb : List T → List T → BR} {fs : Fn (List D)} {ds : List D} {r : Res D} (ha : fs sl M = .ok ds M1) (h : gCallB n fb ds M1 = r) : eCallB n fb fs sl M = r := by
  unfold eCallB; rw [ha]; exact h
theorem v_bm {ty : D → List MO → Bool} {g : GM} {fo : FE} {fs : Fn (List D)} {d : D} {ds : List D} {r : Res D} (ho : fo sl M = .ok d M1) (ht : ty d M1 = true) (ha : fs sl M1 = .ok ds M2) (h : g d ds M2 = r) : eBM ty g fo fs sl M = r := by
  unfold eBM; rw [ho]; show (if ty d M1 then (fs sl M1).bind _ else _) = _; rw [if_pos ht, ha]; exact h
theorem v_lc {Fi : Fn (List T)} {vs : List Nat} {G : GG} {Tt : Fn Bool} {E : FE} {ts us : List T} (h : Fi sl M = .ok ts M1) (h2 : lcF vs G Tt E ts sl M1 [] = some (us, M2)) : eLc Fi vs G Tt E sl M = .ok (.t (.lst us)) M2 := by
  unfold eLc; rw [h]; show (match lcF vs G Tt E ts sl M1 [] with | some (us, M2) => _ | none => _) = _; rw [h2]
theorem v_r1 {fs : Fn (List D)} {ds : List D} {r : Res (List T)} (ha : fs sl M = .ok ds M1) (h : iRg1 ds M1 = r) : iR1 fs sl M = r := by
  unfold iR1; rw [ha]; exact h
theorem v_il {F : FE} {d : D} {r : Res (List T)} (ha : F sl M = .ok d M1) (h : iLst d M1 = r) : iL F sl M = r := by
  unfold iL; rw [ha]; exact h
theorem v_for {Fi : Fn (List T)} {G : GG} {B : FS} {ts : List T} {r : SRes} (h : Fi sl M = .ok ts M1) (h2 : loopF G B ts sl M1 = r) : sFor Fi G B sl M = r := by
  unfold sFor; rw [h]; exact h2
theorem v_sl {fa : FE} {fl fh : Fn (Option Int)} {d : D} {lo hi : Option Int} {r : Res D} (ha : fa sl M = .ok d M1) (h1 : fl sl M1 = .ok lo M2) (h2 : fh sl M2 = .ok hi M3) (h : gSl d lo hi M3 = r) : eSl fa fl fh sl M = r := by
  unfold eSl; rw [ha]; show (fl sl M1).bind _ = _; rw [h1]; show (fh sl M2).bind _ = _; rw [h2]; exact h
theorem v_none : oNone sl M = .ok none M := rfl
theorem v_some {F : FE} {i : Int} (h : F sl M = .ok (.t (.int i)) M1) : oSome F sl M = .ok (some i) M1 := by unfold oSome; rw [h]; rfl
theorem v_eB {F : FE} {k : Bool} (h : F sl M = .ok (.t (.bl k)) M1) : eB F sl M = .ok k M1 := by unfold eB; rw [h]; rfl
theorem v_not {t : Fn Bool} {k : Bool} (h : t sl M = .ok k M1) : bNot t sl M = .ok (!k) M1 := by unfold bNot; rw [h]; rfl
theorem v_enot {F : FE} {k : Bool} (h : F sl M = .ok (.t (.bl k)) M1) : eNot F sl M = .ok (.t (.bl !k)) M1 := by unfold eNot; rw [h]; rfl
theorem v_or {t u : Fn Bool} {k : Bool} {r : Res Bool} (h : t sl M = .ok k M1) (h2 : (if k then .ok true M1 else u sl M1) = r) : bOr t u sl M = r := by unfold bOr; rw [h]; exact h2
theorem v_and {t u : Fn Bool} {k : Bool} {r : Res Bool} (h : t sl M = .ok k M1) (h2 : (if k then u sl M1 else .ok false M1) = r) : bAnd t u sl M = r := by unfold bAnd; rw [h]; exact h2
theorem v_call {n : Nat} {fp : List T → PR} {fs : Fn (List D)} {ds : List D} {ts : List T} {t : T} (ha : fs sl M = .ok ds M1) (hf : frzL M1 ds = some (ts, M2)) (hn : ts.length = n) (h : fp ts = .val t) : eCall n fp fs sl M = .ok (.t t) M2 := by
  unfold eCall; rw [ha]
  show (match frzL M1 ds with | some (ts, M2) => _ | none => _) = _
  rw [hf]
  show (if ts.length = n then _ else _) = _
  rw [if_pos hn, h]
theorem v_callM {n : Nat} {fp : List T → PR} {fs : Fn (List D)} {ds : List D} {ts us : List T} (ha : fs sl M = .ok ds M1) (hf : frzL M1 ds = some (ts, M2)) (hn : ts.length = n) (h : fp ts = .fresh us) : eCallM n fp fs sl M = .ok (.m M2.length) (M2 ++ [.lst us]) := by
  unfold eCallM; rw [ha]
  show (match frzL M1 ds with | some (ts, M2) => _ | none => _) = _
  rw [hf]
  show (if ts.length = n then _ else _) = _
  rw [if_pos hn, h]
theorem v_gB {n k : Nat} {fb : List T → List T → BR} {rest : List D} {ts b b' : List T} {t : T} (hf : frzL M rest = some (ts, M1)) (hk : M1[k]? = some (.lst b)) (hn : ts.length + 1 = n) (h : fb b ts = .val t b') : gCallB n fb (.m k :: rest) M = .ok (.t t) (M1.set k (.lst b')) := by
  unfold gCallB
  show (match frzL M rest with | some (ts, M2) => _ | none => _) = _
  rw [hf]
  show (match M1[k]? with | some (.lst b) => _ | _ => _) = _
  rw [hk]
  show (if ts.length + 1 = n then _ else _) = _
  rw [if_pos hn, h]
theorem v_lst {fs : Fn (List D)} {ds : List D} {ts : List T} (ha : fs sl M = .ok ds M1) (hf : frzL M1 ds = some (ts, M2)) (hn : ts.length ≤ 16777216) : eLst fs sl M = .ok (.t (.lst ts)) M2 := by
  unfold eLst; rw [ha]
  show toTs _ ds M1 = _
  unfold toTs; rw [hf]
  show (match (if ts.length ≤ sizeLine then some (T.lst ts) else none) with | some t => _ | none => _) = _
  rw [if_pos (by rw [sizeLine_eq]; exact hn)]
theorem v_tup {fs : Fn (List D)} {ds : List D} {ts : List T} (ha : fs sl M = .ok ds M1) (hf : frzL M1 ds = some (ts, M2)) (hn : ts.length ≤ 16777216) : eTup fs sl M = .ok (.t (.tup ts)) M2 := by
  unfold eTup; rw [ha]
  show toTs _ ds M1 = _
  unfold toTs; rw [hf]
  show (match (if ts.length ≤ sizeLine then some (T.tup ts) else none) with | some t => _ | none => _) = _
  rw [if_pos (by rw [sizeLine_eq]; exact hn)]
theorem loop_nil {G : GG} {B : FS} : loopF G B [] sl M = .nx sl M := rfl
theorem loop_nx {G : GG} {B : FS} {t : T} {ts : List T} {r : SRes} {sl2 : List (Option D)} (h : G (.t t) sl M = .nx sl1 M1) (h2 : B sl1 M1 = .nx sl2 M2) (h3 : loopF G B ts sl2 M2 = r) : loopF G B (t :: ts) sl M = r := by
  rw [loopF, h]; show (match B sl1 M1 with | .nx sl2 M2 => _ | .ct sl2 M2 => _ | .bk sl2 M2 => _ | r => _) = _; rw [h2]; exact h3
theorem v_e3 {g g' : G2} {fa fb fc : FE} {a b c : D} {k : Bool} {r : Res D} (ha : fa sl M = .ok a M1) (hb : fb sl M1 = .ok b M2) (h1 : g a b M2 = .ok (.t (.bl k)) M2) (hc : fc sl M2 = .ok c M3) (h : (if k then g' b c M3 else .ok (.t (.bl false)) M2) = r) : e3 g g' fa fb fc sl M = r := by
  unfold e3; rw [ha]; show (fb sl M1).bind _ = _; rw [hb]; show (g a b M2).bind _ = _; rw [h1]
  show (if k then (fc sl M2).bind _ else _) = _
  cases k
  · exact h
  · rw [hc]; exact h
end
end Bm

/-! Dicts of the module with text keys: a key is in it, the value at a key. -/
namespace Bm
open PySem L2
def tabGet (tab : List (Str × T)) (z : Str) : Option T := match tab with
  | [] => none
  | (k, t) :: r => if k = z then some t else tabGet r z
/-- an entry of the table and one of the dict -/
def EntRel (K : PySem.W.Frag) (cm : Str → Addr) (w : World) (p : Str × T) (e : DictEntry) : Prop := e.hash = PyData.keyHash w.params p.1 ∧ (∃ t, e.key = .str p.1 t) ∧ ∃ v, RelV v e.val ∧ ∀ I, RepT K cm I p.2 v
def EntsRel (K : PySem.W.Frag) (cm : Str → Addr) (w : World) : List (Str × T) → List DictEntry → Prop
  | [], es => es = []
  | p :: ps, es => ∃ e r, es = e :: r ∧ EntRel K cm w p e ∧ EntsRel K cm w ps r
structure DictAt (K : PySem.W.Frag) (cm : Str → Addr) (w : World) (d : Addr) (tab : List (Str × T)) : Prop where
  ex : ∃ es n, KDict K w d es n ∧ EntsRel K cm w tab es.toList
theorem ents_lit {K : PySem.W.Frag} {cm : Str → Addr} {w : World} : ∀ {tab : List (Str × T)} {es : List DictEntry}, EntsRel K cm w tab es → PySem.W.KeysLit w.params es
  | [], es, h => by unfold EntsRel at h; subst h; trivial
  | p :: ps, es, h => by
    unfold EntsRel at h
    obtain ⟨e, r, rfl, ⟨h1, ⟨t, h2⟩, _⟩, h3⟩ := h
    exact ⟨⟨p.1, t, h2, h1⟩, ents_lit h3⟩
theorem ents_find {K : PySem.W.Frag} {cm : Str → Addr} {w : World} (z : Str) : ∀ {tab : List (Str × T)} {es : List DictEntry}, EntsRel K cm w tab es →
    (match tabGet tab z with
      | none => es.find? (fun d => d.key.isStr z) = none
      | some t => ∃ e v, es.find? (fun d => d.key.isStr z) = some e ∧ RelV v e.val ∧ ∀ I, RepT K cm I t v)
  | [], es, h => by unfold EntsRel at h; subst h; rfl
  | (k, t) :: ps, es, h => by
    unfold EntsRel at h
    obtain ⟨e, r, rfl, ⟨h1, ⟨tk, h2⟩, v, h4, h5⟩, h3⟩ := h
    have ih := ents_find z h3
    have ek : e.key.isStr z = (k == z) := by rw [h2]; rfl
    unfold tabGet
    by_cases hk : k = z
    · rw [if_pos hk]
      refine ⟨e, v, ?_, h4, h5⟩
      rw [List.find?_cons_of_pos (by rw [ek, hk]; exact beq_self_eq_true z)]
    · rw [if_neg hk]
      have : (k == z) = false := by simpa using hk
      rw [List.find?_cons_of_neg (by rw [ek, this]; decide)]
      exact ih
theorem ents_noref {K : PySem.W.Frag} {cm : Str → Addr} {w : World} : ∀ {tab : List (Str × T)} {es : List DictEntry}, EntsRel K cm w tab es → es.any (·.refKey) = false
  | [], es, h => by unfold EntsRel at h; subst h; rfl
  | p :: ps, es, h => by
    unfold EntsRel at h
    obtain ⟨e, r, rfl, ⟨h1, ⟨t, h2⟩, _⟩, h3⟩ := h
    rw [List.any_cons, ents_noref h3, Bool.or_false]
    unfold DictEntry.refKey
    rw [h2]
theorem dict_look {K : PySem.W.Frag} {cm : Str → Addr} {w : World} {d : Addr} {tab : List (Str × T)} {es : Array DictEntry} {n : Nat} (D : KDict K w d es n) (h : EntsRel K cm w tab es.toList) (z : Str) :
    (match tabGet tab z with
      | none => PySem.W.nsIn K d z = some none
      | some t => ∃ u v, PySem.W.nsIn K d z = some (some u) ∧ RelV v u ∧ ∀ I, RepT K cm I t v) := by
  have q := ents_find z h
  have e : PySem.W.nsIn K d z = some ((es.toList.find? (fun d => d.key.isStr z)).map (·.val)) := by
    unfold PySem.W.nsIn
    rw [D.at_]
    simp only [ents_noref h]
    cases es.toList.find? (fun d => d.key.isStr z) <;> rfl
  cases hz : tabGet tab z with
  | none =>
    rw [hz] at q
    simp only at q ⊢
    rw [e, q]; rfl
  | some t =>
    rw [hz] at q
    obtain ⟨en, v, q1, q2, q3⟩ := q
    exact ⟨en.val, v, by rw [e, q1]; rfl, q2, q3⟩
/-- one place -/
def e1 (f : T → Option T) (F : FE) : FE := fun sl M => (F sl M).bind fun d M1 => match d with
  | .t t => (match f t with
    | some u => .ok (.t u) M1
    | none => .fail)
  | _ => .fail
def keyIn (neg : Bool) (tab : List (Str × T)) : T → Option T
  | .str z => some (.bl (neg != (tabGet tab z).isSome))
  | _ => none
def keyAt (tab : List (Str × T)) : T → Option T
  | .str z => tabGet tab z
  | _ => none
/-- a dict of the module -/
def GlobDict (K : PySem.W.Frag) (mg : Str → Option Value) (w : World) (x : Str) (tab : List (Str × T)) : Prop := ∃ d es n, mg x = some (.ref d) ∧ KDict K w d es n ∧ EntsRel K (cmOf mg) w tab es.toList
section
variable {X : Cx} {W : WX} {a : Expr} {fa : FE} {x : Str} {tab : List (Str × T)} {p pos : Pos}
theorem e1_rd {f : T → Option T} {d : Addr} {r : R2} (hop : ∀ I H t u v Q, Ex I H → f t = some u → RepT X.K (cmOf X.mg) I t v → (∀ v', (∀ J, RepT X.K (cmOf X.mg) J u v') → Q v' H) → r v (.ref d) H Q) {σ H Q}
    (h : rdE X W (e1 f fa) σ H Q) : tOp r (rdE X W fa) (rdE X W (eC (.glo d))) σ H Q := by
  obtain ⟨μ, I, sl, M, s, rs, pp⟩ := h
  refine ⟨μ, I, sl, M, s, rs, (Post.bind (R := RD X.K (cmOf X.mg)) pp).imp fun y H1 ⟨μ1, I1, M1, a1, st, ra, p1⟩ => ?_⟩
  refine ⟨μ1, I1, sl, M1, st.sim, rs.mono st.gr, fun μ2 I2 H2 b st2 rb => ?_⟩
  have eb : b = .ref d := by have := rb; unfold RD RepD RepT at this; exact this
  subst eb
  cases a1 with
  | m k => exact p1.elim
  | t t =>
    simp only at p1
    cases e : f t with
    | none => rw [e] at p1; exact p1.elim
    | some u =>
      rw [e] at p1
      refine hop I2 H2 t u y Q st2.sim.sub e (RepT.mono st2.gr.ex t y ra) fun v' hv => ?_
      exact p1 μ2 I2 H2 v' st2 (hv I2)
theorem keyIn_hop {d : Addr} {es : Array DictEntry} {n : Nat} {neg : Bool} (D : KDict X.K X.w d es n) (h2 : EntsRel X.K (cmOf X.mg) X.w tab es.toList) : ∀ I H t u v (Q : VK), Ex I H → keyIn neg tab t = some u → RepT X.K (cmOf X.mg) I t v → (∀ v', (∀ J, RepT X.K (cmOf X.mg) J u v') → Q v' H) →
    ∃ (z : Str) (r : Option Value), v = .str z ∧ V.ref d = .ref d ∧ PySem.W.nsIn X.K d z = some r ∧ Q (.bl (neg != r.isSome)) H := fun I H t u v Q ex e ra q => by
  cases t with
  | str z =>
    have q2 := dict_look D h2 z
    cases e
    have ev : v = .str z := by unfold RepT at ra; exact ra
    subst ev
    cases hz : tabGet tab z with
    | none =>
      rw [hz] at q2 q
      exact ⟨z, none, rfl, rfl, q2, q _ fun J => by unfold RepT; rfl⟩
    | some t =>
      rw [hz] at q2 q
      obtain ⟨u, v, q3, _, _⟩ := q2
      exact ⟨z, some u, rfl, rfl, q3, q _ fun J => by unfold RepT; rfl⟩
  | _ => cases e
theorem hop_t {d : Addr} {es : Array DictEntry} {n : Nat} (D : KDict X.K X.w d es n) (h2 : EntsRel X.K (cmOf X.mg) X.w tab es.toList) {σ H Q} (h : rdE X W (e1 (keyIn true tab) fa) σ H Q) :
    tOp (fun x y H Q => ∃ (z : Str) (r : Option Value), x = .str z ∧ y = .ref d ∧ PySem.W.nsIn X.K d z = some r ∧ Q (.bl (!r.isSome)) H) (rdE X W fa) (rdE X W (eC (.glo d))) σ H Q :=
  e1_rd (fun I H t u v Q ex e ra q => by
    obtain ⟨z, r, a1, a2, a3, a4⟩ := keyIn_hop D h2 I H t u v Q ex e ra q
    exact ⟨z, r, a1, a2, a3, by rw [Bool.true_bne] at a4; exact a4⟩) h
theorem hop_f {d : Addr} {es : Array DictEntry} {n : Nat} (D : KDict X.K X.w d es n) (h2 : EntsRel X.K (cmOf X.mg) X.w tab es.toList) {σ H Q} (h : rdE X W (e1 (keyIn false tab) fa) σ H Q) :
    tOp (fun x y H Q => ∃ (z : Str) (r : Option Value), x = .str z ∧ y = .ref d ∧ PySem.W.nsIn X.K d z = some r ∧ Q (.bl r.isSome) H) (rdE X W fa) (rdE X W (eC (.glo d))) σ H Q :=
  e1_rd (fun I H t u v Q ex e ra q => by
    obtain ⟨z, r, a1, a2, a3, a4⟩ := keyIn_hop D h2 I H t u v Q ex e ra q
    exact ⟨z, r, a1, a2, a3, by rw [Bool.false_bne] at a4; exact a4⟩) h
theorem de_notInD (G : GlobDict X.K X.mg X.w x tab) (hg : Gl X x) (ha : DE X W a fa) (hm : behindInMarks .NotIn (.Name x p) = false) (hd : (x == ("__debug__" : Str)) = false := by decide) : DE X W (.Compare a [.NotIn] [.Name x p] pos) (e1 (keyIn true tab) fa) := by
  obtain ⟨d, es, n, h1, D, h2⟩ := G
  exact (pe_cmpR (op_notIn_kd D) ha (de_glob (W := W) (t := .glo d) (v := .ref d) hg h1 rfl (fun I => by unfold RepT; rfl) hd) hm).imp fun σ H Q h => hop_t D h2 h
theorem dt_notInD (G : GlobDict X.K X.mg X.w x tab) (hg : Gl X x) (ha : DE X W a fa) (hm : behindInMarks .NotIn (.Name x p) = false) (hd : (x == ("__debug__" : Str)) = false := by decide) : DT X W (.Compare a [.NotIn] [.Name x p] pos) (eB (e1 (keyIn true tab) fa)) := by
  obtain ⟨d, es, n, h1, D, h2⟩ := G
  exact (pt_cmpR (op_notIn_kd D) ha (de_glob (W := W) (t := .glo d) (v := .ref d) hg h1 rfl (fun I => by unfold RepT; rfl) hd) hm).imp fun σ H Q h => tTest_of (fun _ _ _ q => hop_t D h2 q) h
theorem de_inD (G : GlobDict X.K X.mg X.w x tab) (hg : Gl X x) (ha : DE X W a fa) (hm : behindInMarks .In (.Name x p) = false) (hd : (x == ("__debug__" : Str)) = false := by decide) : DE X W (.Compare a [.In] [.Name x p] pos) (e1 (keyIn false tab) fa) := by
  obtain ⟨d, es, n, h1, D, h2⟩ := G
  exact (pe_cmpR (op_in_kd D) ha (de_glob (W := W) (t := .glo d) (v := .ref d) hg h1 rfl (fun I => by unfold RepT; rfl) hd) hm).imp fun σ H Q h => hop_f D h2 h
theorem dt_inD (G : GlobDict X.K X.mg X.w x tab) (hg : Gl X x) (ha : DE X W a fa) (hm : behindInMarks .In (.Name x p) = false) (hd : (x == ("__debug__" : Str)) = false := by decide) : DT X W (.Compare a [.In] [.Name x p] pos) (eB (e1 (keyIn false tab) fa)) := by
  obtain ⟨d, es, n, h1, D, h2⟩ := G
  exact (pt_cmpR (op_in_kd D) ha (de_glob (W := W) (t := .glo d) (v := .ref d) hg h1 rfl (fun I => by unfold RepT; rfl) hd) hm).imp fun σ H Q h => tTest_of (fun _ _ _ q => hop_f D h2 q) h
theorem e1_rd2 {f : T → Option T} {d : Addr} {r : R2} (hop : ∀ I H t u v Q, Ex I H → f t = some u → RepT X.K (cmOf X.mg) I t v → (∀ v', (∀ J, RepT X.K (cmOf X.mg) J u v') → Q v' H) → r (.ref d) v H Q) {σ H Q}
    (h : rdE X W (e1 f fa) σ H Q) : tOp r (rdE X W (eC (.glo d))) (rdE X W fa) σ H Q := by
  obtain ⟨μ, I, sl, M, s, rs, pp⟩ := h
  refine ⟨μ, I, sl, M, s, rs, fun μ0 I0 H0 b st0 rb => ?_⟩
  have eb : b = .ref d := by have := rb; unfold RD RepD RepT at this; exact this
  subst eb
  refine ⟨μ0, I0, sl, M, st0.sim, rs.mono st0.gr, (Post.bind (R := RD X.K (cmOf X.mg)) (pp.step st0)).imp fun y H1 ⟨μ1, I1, M1, a1, st, ra, p1⟩ => ?_⟩
  cases a1 with
  | m k => exact p1.elim
  | t t =>
    simp only at p1
    cases e : f t with
    | none => rw [e] at p1; exact p1.elim
    | some u =>
      rw [e] at p1
      refine hop I1 H1 t u y Q st.sim.sub e ra fun v' hv => ?_
      exact p1 μ1 I1 H1 v' (Step.refl st.sim) (hv I1)
theorem de_ixD (G : GlobDict X.K X.mg X.w x tab) (hg : Gl X x) (ha : DE X W a fa) (hs : PlainIx a) (hd : (x == ("__debug__" : Str)) = false := by decide) : DE X W (.Subscript (.Name x p) a pos) (e1 (keyAt tab) fa) := by
  obtain ⟨d, es, n, h1, D, h2⟩ := G
  refine (pe_ix ix_kdict (de_glob (W := W) (t := .glo d) (v := .ref d) hg h1 rfl (fun I => by unfold RepT; rfl) hd) ha hs).imp fun σ H Q h => e1_rd2 (fun I H t u v Q ex e ra q => ?_) h
  cases t with
  | str z =>
    have q2 := dict_look D h2 z
    have ev : v = .str z := by unfold RepT at ra; exact ra
    subst ev
    have e' : tabGet tab z = some u := e
    rw [e'] at q2
    obtain ⟨u0, v0, q3, q4, q5⟩ := q2
    exact ⟨d, z, v0, rfl, rfl, ⟨es, n, u0, D.at_, D.lit, q3, q4⟩, q _ fun J => q5 J⟩
  | _ => cases e
end
end Bm

namespace BmLaw
open PySem L2 Bm
def c_BARRED : T := (.tup [(.str "top"), (.str "bottom")])
def c_LETTERS : T := (.str "abcdefghijklmnopqrstuvwxyz")
def c_LONGEST : T := (.int 8)
def F_is_name : FS :=
  (sSeq (sIf (bOr (bNot (eB (eCB (gP (isiT tabB)) (aCons (eVar 0) (aCons (eC (.ty "str")) aNil))))) (bOr (bNot (eB (e3 (g2 leT) (g2 leT) (eC (.int 1)) (eCB gLen (aCons (eVar 0) aNil)) (eC c_LONGEST)))) (eB (e2 (g2 (inT false)) (eVar 0) (eC c_BARRED))))) (sRet (eC (.bl false))) sSkip)
  (sRet (eCB (gBls fun bs => bs.all id) (aCons (eLc (iS (eVar 0)) [1] (gNm 1) bYes (e2 (g2 (inT false)) (eVar 1) (eC c_LETTERS))) aNil))))
def f_is_name : List T → PR := runP 2 F_is_name
def F_law_bag : FS :=
  (sSeq (sSet 1 (eC (.int 12014)))
  (sSeq (sFor (iL (eSl (eVar 0) oNone (oSome (eC (.int 63))))) (gNm 2) (sSet 1 (e2 (g2 modT) (eCB gInt (aCons (e2 gAdd (e2 gAdd (e2 (g2 mulT) (eVar 1) (eC (.int 47563))) (e2 (g2 modT) (eCB gInt (aCons (eVar 2) aNil)) (eC (.int 2147480213)))) (eC (.int 31))) aNil)) (eC (.int 2147483549)))))
  (sRet (eLstM (aCons (eCB gList (aCons (eSl (eVar 0) oNone (oSome (eC (.int 63)))) aNil)) (aCons (eC (.int 0)) (aCons (eC (.int 0)) (aCons (eVar 1) (aCons (eC (.int 0)) aNil)))))))))
def f_law_bag : List T → PR := runP 3 F_law_bag
def F_law_draw : FS :=
  (sSeq (sAsg (e2 gAdd (e2 gIx (eVar 0) (eC (.int 4))) (eC (.int 1))) (gSubM (eVar 0) (eC (.int 4))))
  (sSeq (sIf (bAnd (eB (e2 (g2 eqT) (e2 gIx (eVar 0) (eC (.int 2))) (eC (.int 0)))) (eB (e2 (g2 ltT) (e2 gIx (eVar 0) (eC (.int 1))) (eCB gLen (aCons (e2 gIx (eVar 0) (eC (.int 0))) aNil))))) (sSeq (sSet 2 (e2 gIx (e2 gIx (eVar 0) (eC (.int 0))) (e2 gIx (eVar 0) (eC (.int 1)))))
  (sSeq (sAsg (e2 gAdd (e2 gIx (eVar 0) (eC (.int 1))) (eC (.int 1))) (gSubM (eVar 0) (eC (.int 1))))
  (sIf (eB (e2 (g2 geT) (eVar 2) (e2 (g2 powT) (eC (.int 10)) (eC (.int 18))))) (sAsg (eVar 2) (gSubM (eVar 0) (eC (.int 2)))) (sAsg (e2 (g2 modT) (eCB gInt (aCons (e2 gAdd (e2 gAdd (e2 (g2 mulT) (e2 gIx (eVar 0) (eC (.int 3))) (eC (.int 39133))) (e2 (g2 mulT) (e2 (g2 modT) (eCB gInt (aCons (eVar 2) aNil)) (eC (.int 2147480213))) (eC (.int 827)))) (eC (.int 59))) aNil)) (eC (.int 2147483563))) (gSubM (eVar 0) (eC (.int 3))))))) sSkip)
  (sSeq (sIf (eB (e2 (g2 gtT) (e2 gIx (eVar 0) (eC (.int 2))) (eC (.int 0)))) (sSeq (sSet 3 (e2 (g2 modT) (eCB gInt (aCons (e2 gIx (eVar 0) (eC (.int 2))) aNil)) (eVar 1)))
  (sSeq (sAsg (e2 (g2 divT) (e2 gIx (eVar 0) (eC (.int 2))) (eVar 1)) (gSubM (eVar 0) (eC (.int 2))))
  (sRet (eVar 3)))) sSkip)
  (sSeq (sSet 4 (eCB gInt (aCons (e2 gIx (eVar 0) (eC (.int 3))) aNil)))
  (sSeq (sAsg (e2 (g2 modT) (eCB gInt (aCons (e2 gAdd (e2 gAdd (e2 gAdd (e2 (g2 powT) (eVar 4) (eC (.int 3))) (e2 (g2 mulT) (eVar 4) (eC (.int 28663)))) (e2 (g2 mulT) (e2 gIx (eVar 0) (eC (.int 4))) (eC (.int 1299743)))) (eC (.int 60017))) aNil)) (eC (.int 2147483563))) (gSubM (eVar 0) (eC (.int 3))))
  (sRet (e2 (g2 modT) (eCB gInt (aCons (e2 gAdd (e2 (g2 divT) (e2 gIx (eVar 0) (eC (.int 3))) (eC (.int 71))) (e2 (g2 mulT) (e2 (g2 modT) (eCB gInt (aCons (e2 gIx (eVar 0) (eC (.int 3))) aNil)) (eC (.int 7907))) (eC (.int 61)))) aNil)) (eVar 1))))))))
def f_law_draw : List T → List T → BR := runB 5 F_law_draw
def F_law_of : FS :=
  (sRet (e2 gIx (eVar 1) (eCallB 2 f_law_draw (aCons (eVar 0) (aCons (eCB gLen (aCons (eVar 1) aNil)) aNil)))))
def f_law_of : List T → List T → BR := runB 2 F_law_of
def F_law_same (self : List T → PR) : FS :=
  (sSeq (sIf (bOr (eB (e2 (g2 isN) (eVar 1) (eC .non))) (eB (e2 (g2 isN) (eVar 0) (eC .non)))) (sRet (eAnd (e2 (g2 isN) (eVar 1) (eC .non)) (e2 (g2 isN) (eVar 0) (eC .non)))) sSkip)
  (sSeq (sIf (eB (eCB (gP (isiT tabB)) (aCons (eVar 1) (aCons (eTup (aCons (eC (.ty "list")) (aCons (eC (.ty "tuple")) aNil))) aNil)))) (sSeq (sIf (bOr (eB (e2 (g2 neT) (eCB (gP (isiT tabB)) (aCons (eVar 0) (aCons (eC (.ty "list")) aNil))) (eCB (gP (isiT tabB)) (aCons (eVar 1) (aCons (eC (.ty "list")) aNil))))) (eB (e2 (g2 neT) (eCB (gP (isiT tabB)) (aCons (eVar 0) (aCons (eC (.ty "tuple")) aNil))) (eCB (gP (isiT tabB)) (aCons (eVar 1) (aCons (eC (.ty "tuple")) aNil)))))) (sRet (eC (.bl false))) sSkip)
  (sRet (eAnd (e2 (g2 eqT) (eCB gLen (aCons (eVar 0) aNil)) (eCB gLen (aCons (eVar 1) aNil))) (eCB (gBls fun bs => bs.all id) (aCons (eLc (iZ (aCons (eVar 0) (aCons (eVar 1) aNil))) [2, 3] (gTp 2 (gsCons (gNm 2) (gsCons (gNm 3) gsNil))) bYes (eCall 2 self (aCons (eVar 2) (aCons (eVar 3) aNil)))) aNil))))) sSkip)
  (sSeq (sIf (bOr (eB (e2 (g2 neT) (eCB (gP (isiT tabB)) (aCons (eVar 0) (aCons (eC (.ty "bool")) aNil))) (eCB (gP (isiT tabB)) (aCons (eVar 1) (aCons (eC (.ty "bool")) aNil))))) (eB (e2 (g2 neT) (eCB (gP (isiT tabB)) (aCons (eVar 0) (aCons (eC (.ty "int")) aNil))) (eCB (gP (isiT tabB)) (aCons (eVar 1) (aCons (eC (.ty "int")) aNil)))))) (sRet (eC (.bl false))) sSkip)
  (sRet (eAnd (e2 (g2 eqT) (eCB (gP (isiT tabB)) (aCons (eVar 0) (aCons (eC (.ty "str")) aNil))) (eCB (gP (isiT tabB)) (aCons (eVar 1) (aCons (eC (.ty "str")) aNil)))) (e2 (g2 eqT) (eVar 0) (eVar 1)))))))
def f_law_same : Nat → List T → PR
  | 0 => fun _ => .fail
  | n + 1 => runP 4 (F_law_same (f_law_same n))
def F_law_is_name : FS :=
  (sSeq (sIf (bOr (bNot (eB (eCB (gP (isiT tabB)) (aCons (eVar 0) (aCons (eC (.ty "str")) aNil))))) (bOr (bNot (eB (e3 (g2 leT) (g2 leT) (eC (.int 1)) (eCB gLen (aCons (eVar 0) aNil)) (eC (.int 8))))) (eB (e2 (g2 (inT false)) (eVar 0) (eTup (aCons (eC (.str "top")) (aCons (eC (.str "bottom")) aNil))))))) (sRet (eC (.bl false))) sSkip)
  (sRet (eCB (gBls fun bs => bs.all id) (aCons (eLc (iS (eVar 0)) [1] (gNm 1) bYes (e2 (g2 (inT false)) (eVar 1) (eC (.str "abcdefghijklmnopqrstuvwxyz")))) aNil))))
def f_law_is_name : List T → PR := runP 2 F_law_is_name
theorem strlen (z : Str) : z.length = z.cps.size := rfl
local macro_rules | `(tactic| walk_at "bm") => `(tactic| simp [runB, runP, start', sSeq, sSet, sExpr, sRet, sIf, sSkip, sAsg, e2, e3, eVar, eC, eB, eAnd, eOr, eNot, eIf, bAnd, bOr, bNot, toB, Res.bind, Res.toS, gIx, seqD, lstOf, atI, ixN, gAdd, gCatL, g2, pk, isSc, addT, subT, mulT, powT, divT, modT, ltT, leT, gtT, geT, int2, eqT, neT, eqS, isN, notN,
  gSubM, frz1, frzL, aCons, aNil, eCB, gLen, gInt, gList, ansB, ansP, CMul, CPow, CDivN, gP, allT, eSl, gSl, oSome, oNone, eLstM, eLst, eTup, toTs, eCall, eCallM, eCallB, gCallB, sFor, loopF, gNm, iL, iLst, iT, iTp, iS, iSt, iZ, iZp, eLc, bYes, isiT, kdOf, tgt, tabB, kinds, isiAny, sizeLine_eq, eBM, isStrD, isLst, strlen, *])

/-- the draws' bag -/
structure Bag where
  cells : List Int
  i : Nat
  r : Int
  m : Int
  d : Int
def Bag.t (b : Bag) : List T := [.lst (b.cells.map T.int), .int b.i, .int b.r, .int b.m, .int b.d]
structure Bag.Ok (b : Bag) : Prop where
  i : b.i ≤ b.cells.length
  m0 : 0 ≤ b.m
  m1 : b.m < 2147483563
theorem fm (a : Int) {n : Int} (h : 0 < n) : 0 ≤ a.fmod n ∧ a.fmod n < n := ⟨Int.fmod_nonneg_of_pos a h, Int.fmod_lt_of_pos a h⟩

def mixS (m d : Int) : Int := (m ^ 3 + m * 28663 + d * 1299743 + 60017).fmod 2147483563
def outS (m n : Int) : Int := (m.fdiv 71 + (m.fmod 7907) * 61).fmod n
def mixC (m c : Int) : Int := (m * 39133 + (c.fmod 2147480213) * 827 + 59).fmod 2147483563
def drawB (b : Bag) (n : Int) : Int × Bag :=
  if 0 < b.r then (b.r.fmod n, { b with r := b.r.fdiv n, d := b.d + 1 })
  else match (if b.r = 0 then b.cells[b.i]? else none) with
    | some c => if 1000000000000000000 ≤ c then (c.fmod n, { b with i := b.i + 1, r := c.fdiv n, d := b.d + 1 })
      else (outS (mixS (mixC b.m c) (b.d + 1)) n, { b with i := b.i + 1, m := mixS (mixC b.m c) (b.d + 1), d := b.d + 1 })
    | none => (outS (mixS b.m (b.d + 1)) n, { b with m := mixS b.m (b.d + 1), d := b.d + 1 })
theorem mixS_b (m d : Int) : 0 ≤ mixS m d ∧ mixS m d < 2147483563 := fm _ (by decide)
theorem mixC_b (m d : Int) : 0 ≤ mixC m d ∧ mixC m d < 2147483563 := fm _ (by decide)
theorem draw_eq (b : Bag) (h : b.Ok) (n : Int) (h0 : 0 < n) (h1 : n < 1073741824) : f_law_draw b.t [.int n] = .val (.int (drawB b n).1) (drawB b n).2.t := by
  obtain ⟨cells, i, r, m, d⟩ := b
  obtain ⟨hi, hm0, hm1⟩ := h
  simp only at hi hm0 hm1
  have hn : n ≠ 0 := by omega
  have hna : n.natAbs < 1073741824 := by omega
  have hma : m.natAbs < 18446744073709551616 := by omega
  unfold f_law_draw F_law_draw Bag.t drawB
  by_cases hr : 0 < r
  · have hr0 : ¬ r = 0 := by omega
    walk_at "bm"
  · by_cases hr0 : r = 0
    · subst hr0
      by_cases hc : i < cells.length
      · by_cases hbig : 1000000000000000000 ≤ cells[i]
        · have hc0 : 0 < cells[i] := by omega
          have hc1 : ¬ cells[i] = 0 := by omega
          walk_at "bm"
        · have hb := mixC_b m cells[i]
          have hq : (mixC m cells[i]).natAbs < 18446744073709551616 := by omega
          unfold mixC at hq
          clear hb
          walk_at "bm"
          simp [mixC, mixS, outS]
      · have hcc : cells[i]? = none := List.getElem?_eq_none (by omega)
        walk_at "bm"
        simp [mixC, mixS, outS]
    · walk_at "bm"
      simp [mixC, mixS, outS]
theorem draw_b (b : Bag) (h : b.Ok) (n : Int) (h0 : 0 < n) : (drawB b n).2.Ok ∧ 0 ≤ (drawB b n).1 ∧ (drawB b n).1 < n := by
  obtain ⟨cells, i, r, m, d⟩ := b
  obtain ⟨hi, hm0, hm1⟩ := h
  simp only at hi hm0 hm1
  unfold drawB
  simp only
  split
  · exact ⟨⟨hi, hm0, hm1⟩, fm _ h0⟩
  · split
    · rename_i c hc
      split at hc
      · have hlt : i < cells.length := (List.getElem?_eq_some_iff.mp hc).1
        split
        · exact ⟨⟨hlt, hm0, hm1⟩, fm _ h0⟩
        · exact ⟨⟨hlt, (mixS_b _ _).1, (mixS_b _ _).2⟩, fm _ h0⟩
      · cases hc
    · exact ⟨⟨hi, (mixS_b _ _).1, (mixS_b _ _).2⟩, fm _ h0⟩

/-! ### the bag itself -/
def mixN (m c : Int) : Int := (m * 47563 + c.fmod 2147480213 + 31).fmod 2147483549
theorem mixN_b (m d : Int) : 0 ≤ mixN m d ∧ mixN m d < 2147483549 := fm _ (by decide)
def bag0 (ns : List Int) : Bag := ⟨ns, 0, 0, ns.foldl mixN 12014, 0⟩
theorem fold_b (ns : List Int) : ∀ m, 0 ≤ m → m < 2147483549 → 0 ≤ ns.foldl mixN m ∧ ns.foldl mixN m < 2147483549 := by
  induction ns with
  | nil => exact fun m h1 h2 => ⟨h1, h2⟩
  | cons n ns ih => exact fun m _ _ => ih _ (mixN_b m n).1 (mixN_b m n).2
theorem bag0_ok (ns : List Int) : (bag0 ns).Ok := by
  have h := fold_b ns 12014 (by decide) (by decide)
  exact ⟨Nat.zero_le _, h.1, by show ns.foldl mixN 12014 < _; omega⟩
theorem cut63 {ts : List T} (h : ts.length ≤ 63) : cutT ts none (some 63) = ts := by
  have e : (ts.drop (HT.sIx ts.length 0 none)).take (HT.sIx ts.length ts.length (some 63) - HT.sIx ts.length 0 none) = ts := by
    have e1 : HT.sIx ts.length 0 none = 0 := rfl
    have e2 : HT.sIx ts.length ts.length (some 63) = min 63 ts.length := rfl
    rw [e1, e2, List.drop_zero, Nat.sub_zero, Nat.min_eq_right h, List.take_length]
  exact e
theorem bag_eq (ns : List Int) (h : ns.length ≤ 63) : f_law_bag [.scr ns] = .fresh (bag0 ns).t := by
  have hl : (ns.map T.int).length ≤ 63 := by simpa using h
  have hc := cut63 hl
  have loop : ∀ (ns : List Int) (m : Int) (x : Option D) (a : Option D), ∃ x', loopF (gNm 2) (sSet 1 (e2 (g2 modT) (eCB gInt (aCons (e2 gAdd (e2 gAdd (e2 (g2 mulT) (eVar 1) (eC (.int 47563))) (e2 (g2 modT) (eCB gInt (aCons (eVar 2) aNil)) (eC (.int 2147480213)))) (eC (.int 31))) aNil)) (eC (.int 2147483549)))) (ns.map T.int) [a, some (.t (.int m)), x] [] = .nx [a, some (.t (.int (ns.foldl mixN m))), x'] [] := by
    intro ns
    induction ns with
    | nil => exact fun m x a => ⟨x, rfl⟩
    | cons n ns ih =>
      intro m x a
      obtain ⟨x', hx⟩ := ih (mixN m n) (some (.t (.int n))) a
      refine ⟨x', ?_⟩
      rw [List.map_cons, loopF, List.foldl_cons, ← hx]
      have e : gNm 2 (.t (.int n)) [a, some (.t (.int m)), x] [] = .nx [a, some (.t (.int m)), some (.t (.int n))] [] := rfl
      rw [e]
      walk_at "bm"
      rfl
  obtain ⟨x', hx⟩ := loop ns 12014 none (some (.t (.scr ns)))
  unfold f_law_bag F_law_bag
  simp only [runP, start', sSeq, sSet, sFor, eC, Res.toS, Res.bind, iL, eSl, eVar, oNone, oSome]
  simp [gSl, hc, iLst, frz1]
  rw [hx]
  walk_at "bm"
  simp [bag0, Bag.t, sizeLine_eq]

/-! ### one of some -/
def bagOf (b : Bag) (n : Nat) : Nat × Bag := ((drawB b (n : Int)).1.toNat, (drawB b (n : Int)).2)
theorem bagOf_lt (b : Bag) (h : b.Ok) {n : Nat} (h0 : 0 < n) : (bagOf b n).1 < n ∧ (bagOf b n).2.Ok := by
  have q := draw_b b h (n : Int) (by omega)
  refine ⟨?_, q.1⟩
  show (drawB b (n : Int)).1.toNat < n
  omega
theorem of_lst (b : Bag) (h : b.Ok) (xs : List T) (h0 : 0 < xs.length) (h1 : xs.length < 1073741824) : ∃ t, xs[(bagOf b xs.length).1]? = some t ∧ f_law_of b.t [.lst xs] = .val t (bagOf b xs.length).2.t := by
  have q := draw_b b h (xs.length : Int) (by omega)
  have e := draw_eq b h (xs.length : Int) (by omega) (by omega)
  have hk := (bagOf_lt b h h0).1
  refine ⟨_, List.getElem?_eq_getElem hk, ?_⟩
  have ek : ((drawB b (xs.length : Int)).1) = (((bagOf b xs.length).1 : Nat) : Int) := by show _ = (((drawB b (xs.length : Int)).1.toNat : Nat) : Int); omega
  rw [ek] at e
  unfold f_law_of F_law_of
  walk_at "bm"
  rfl
theorem of_str (b : Bag) (h : b.Ok) (z : Str) (h0 : 0 < z.cps.size) (h1 : z.cps.size ≤ 16777216) : ∃ c, z.cps.toList[(bagOf b z.cps.size).1]? = some c ∧ f_law_of b.t [.str z] = .val (.str ⟨#[c]⟩) (bagOf b z.cps.size).2.t := by
  have q := draw_b b h (z.cps.size : Int) (by omega)
  have e := draw_eq b h (z.cps.size : Int) (by omega) (by omega)
  have hk := (bagOf_lt b h h0).1
  have hk' : (bagOf b z.cps.size).1 < z.cps.toList.length := by rw [Array.length_toList]; exact hk
  refine ⟨_, List.getElem?_eq_getElem hk', ?_⟩
  have ek : ((drawB b (z.cps.size : Int)).1) = (((bagOf b z.cps.size).1 : Nat) : Int) := by show _ = (((drawB b (z.cps.size : Int)).1.toNat : Nat) : Int); omega
  rw [ek] at e
  unfold f_law_of F_law_of
  walk_at "bm"
  rfl

/-! ### what is the same as itself -/
def okT : Nat → T → Bool
  | 0, _ => false
  | n + 1, t => match t with
    | .non => true
    | .bl _ => true
    | .int _ => true
    | .str _ => true
    | .lst ts => decide (ts.length < 16777216) && ts.all (okT n)
    | .tup ts => decide (ts.length < 16777216) && ts.all (okT n)
    | _ => false
theorem bls_all (n : Nat) : blsOf (List.replicate n (.bl true)) = some (List.replicate n true) := by
  induction n with
  | zero => rfl
  | succ n ih => rw [List.replicate_succ, blsOf, ih]; rfl
theorem all_true (n : Nat) : (List.replicate n true).all id = true := by
  induction n with
  | zero => rfl
  | succ n ih => rw [List.replicate_succ, List.all_cons, ih]; rfl
theorem same_loop (n : Nat) (ts : List T) (ih : ∀ (a : T), okT n a = true → f_law_same n [a, a] = PR.val (T.bl true)) (h1 : ts.length < 16777216) (h2 : ts.all (okT n) = true) (a b : T) :
    lcF [2, 3] (gTp 2 (gsCons (gNm 2) (gsCons (gNm 3) gsNil))) bYes (eCall 2 (f_law_same n) (aCons (eVar 2) (aCons (eVar 3) aNil))) (zipT ts ts) [some (D.t a), some (D.t b), none, none] [] [] = some (List.replicate ts.length (.bl true), []) := by
  have key : ∀ (ts : List T) (acc : List T), acc.length + ts.length < 16777216 → ts.all (okT n) = true →
      lcF [2, 3] (gTp 2 (gsCons (gNm 2) (gsCons (gNm 3) gsNil))) bYes (eCall 2 (f_law_same n) (aCons (eVar 2) (aCons (eVar 3) aNil))) (zipT ts ts) [some (D.t a), some (D.t b), none, none] [] acc = some (acc ++ List.replicate ts.length (.bl true), []) := by
    intro ts
    induction ts with
    | nil => intro acc _ _; simp [zipT, lcF]
    | cons t ts ih2 =>
      intro acc hl hok
      simp only [List.all_cons, Bool.and_eq_true] at hok
      have e := ih t hok.1
      have e2 := ih2 (acc ++ [.bl true]) (by simp at hl ⊢; omega) hok.2
      have ez : zipT (t :: ts) (t :: ts) = .tup [t, t] :: zipT ts ts := rfl
      have hlen : acc.length < 16777216 := by simp at hl; omega
      rw [ez, lcF]
      simp [gTp, gsCons, gsNil, gNm, wipeS, bYes, eCall, aCons, aNil, eVar, Res.bind, frzL, frz1, e, hlen, sizeLine_eq, e2, List.replicate_succ]
  have := key ts [] (by simpa using h1) h2
  simpa using this
theorem same_refl : ∀ (n : Nat) (a : T), okT n a = true → f_law_same n [a, a] = .val (.bl true) := by
  intro n
  induction n with
  | zero => intro a h; cases h
  | succ n ih =>
    intro a h
    show runP 4 (F_law_same (f_law_same n)) [a, a] = _
    unfold F_law_same
    cases a with
    | non => walk_at "bm"
    | bl b => walk_at "bm"
    | int i => walk_at "bm"
    | str z => walk_at "bm"
    | lst ts =>
      obtain ⟨h1, h2⟩ : ts.length < 16777216 ∧ ts.all (okT n) = true := by simpa [okT] using h
      have hl := same_loop n ts ih h1 h2 (.lst ts) (.lst ts)
      have hb := bls_all ts.length
      have ha := all_true ts.length
      walk_at "bm"
      simp [gBls, lstOf, hb]
    | tup ts =>
      obtain ⟨h1, h2⟩ : ts.length < 16777216 ∧ ts.all (okT n) = true := by simpa [okT] using h
      have hl := same_loop n ts ih h1 h2 (.tup ts) (.tup ts)
      have hb := bls_all ts.length
      have ha := all_true ts.length
      walk_at "bm"
      simp [gBls, lstOf, hb]
    | ins c ns ts => cases h
    | ty n => cases h
    | glo a => cases h
    | cls c => cases h
    | scr ns => cases h

/-! ### names -/
def letters : Str := "abcdefghijklmnopqrstuvwxyz"
def isLet (c : Nat) : Bool := decide (c ∈ letters.cps.toList)
def isNameZ (z : Str) : Bool := decide (1 ≤ z.cps.size ∧ z.cps.size ≤ 8) && !(("top" : Str) == z || ("bottom" : Str) == z) && z.cps.toList.all isLet
theorem in_letters (c : Nat) : inT false (.str ⟨#[c]⟩) (.str letters) = some (.bl (isLet c)) := by
  show some (T.bl (if false = true then _ else _)) = _
  rw [if_neg Bool.false_ne_true, PySem.StrLaws.found_one]
  rfl
theorem bls_map (f : Nat → Bool) (l : List Nat) : blsOf (l.map fun c => T.bl (f c)) = some (l.map f) := by
  induction l with
  | nil => rfl
  | cons c l ih => rw [List.map_cons, blsOf, ih]; rfl
theorem name_loop (z : Str) (h : z.cps.size < 16777216) (a : D) : lcF [1] (gNm 1) bYes (e2 (g2 (inT false)) (eVar 1) (eC (.str letters))) (signsOf z) [some a, none] [] [] = some (z.cps.toList.map fun c => .bl (isLet c), []) := by
  have key : ∀ (l : List Nat) (acc : List T), acc.length + l.length < 16777216 → lcF [1] (gNm 1) bYes (e2 (g2 (inT false)) (eVar 1) (eC (.str letters))) (l.map fun c => T.str ⟨#[c]⟩) [some a, none] [] acc = some (acc ++ (l.map fun c => .bl (isLet c)), []) := by
    intro l
    induction l with
    | nil => intro acc _; simp [lcF]
    | cons c l ih =>
      intro acc hl
      have e2 := ih (acc ++ [.bl (isLet c)]) (by simp at hl ⊢; omega)
      have e := in_letters c
      have hlen : acc.length < 16777216 := by simp at hl; omega
      rw [List.map_cons, lcF]
      simp [gNm, wipeS, bYes, Bm.e2, g2, eVar, eC, Res.bind, frz1, e, hlen, sizeLine_eq, e2]
  have := key z.cps.toList [] (by simpa using h)
  simpa [signsOf] using this
theorem name_str (z : Str) (h : z.cps.size < 16777216) : f_is_name [.str z] = .val (.bl (isNameZ z)) := by
  have hl := name_loop z h (.t (.str z))
  have hb := bls_map isLet z.cps.toList
  have h' : z.cps.size ≤ 16777216 := by omega
  have eL : c_LETTERS = .str letters := rfl
  unfold f_is_name F_is_name
  rw [eL]
  by_cases h1 : 1 ≤ z.cps.size
  · have i1 : (1 : Int) ≤ (z.cps.size : Int) := by omega
    by_cases h8 : z.cps.size ≤ 8
    · have i8 : (z.cps.size : Int) ≤ 8 := by omega
      by_cases hb2 : (("top" : Str) == z || ("bottom" : Str) == z) = true
      · have hm : inT false (.str z) c_BARRED = some (.bl true) := by
          simp only [inT, c_BARRED, seqOf, flatT, memT, List.any_cons, List.any_nil, eqF, List.all_cons, List.all_nil]
          simpa using hb2
        have e : isNameZ z = false := by unfold isNameZ; rw [hb2]; simp
        rw [e]
        clear hb2
        simp only [c_LONGEST]
        walk_at "bm"
      · have hb3 : (("top" : Str) == z || ("bottom" : Str) == z) = false := by simpa using hb2
        have hm : inT false (.str z) c_BARRED = some (.bl false) := by
          simp only [inT, c_BARRED, seqOf, flatT, memT, List.any_cons, List.any_nil, eqF, List.all_cons, List.all_nil]
          simpa using hb3
        have e : isNameZ z = z.cps.toList.all isLet := by unfold isNameZ; rw [hb3]; simp [h1, h8]
        rw [e]
        clear hb2 hb3
        simp only [c_LONGEST]
        walk_at "bm"
        simp [gBls, lstOf, hb]
    · have i8 : ¬ (z.cps.size : Int) ≤ 8 := by omega
      have e : isNameZ z = false := by unfold isNameZ; simp [h8]
      rw [e]
      simp only [c_LONGEST]
      walk_at "bm"
  · have i1 : ¬ (1 : Int) ≤ (z.cps.size : Int) := by omega
    have e : isNameZ z = false := by unfold isNameZ; simp [h1]
    rw [e]
    simp only [c_LONGEST]
    walk_at "bm"
theorem name_non (t : T) (h : match t with | .non => True | .bl _ => True | .int _ => True | .lst _ => True | .tup _ => True | _ => False) : f_is_name [t] = .val (.bl false) := by
  unfold f_is_name F_is_name
  cases t <;> first | exact h.elim | walk_at "bm"
theorem lname_non (t : T) (h : match t with | .non => True | .bl _ => True | .int _ => True | .lst _ => True | .tup _ => True | _ => False) : f_law_is_name [t] = .val (.bl false) := by
  unfold f_law_is_name F_law_is_name
  cases t <;> first | exact h.elim | walk_at "bm"
theorem lname_str (z : Str) (h : z.cps.size < 16777216) : f_law_is_name [.str z] = .val (.bl (isNameZ z)) := by
  have hl := name_loop z h (.t (.str z))
  have hb := bls_map isLet z.cps.toList
  have h' : z.cps.size ≤ 16777216 := by omega
  have eL : (Str.ofString "abcdefghijklmnopqrstuvwxyz") = letters := rfl
  unfold f_law_is_name F_law_is_name
  rw [eL]
  by_cases h1 : 1 ≤ z.cps.size
  · have i1 : (1 : Int) ≤ (z.cps.size : Int) := by omega
    by_cases h8 : z.cps.size ≤ 8
    · have i8 : (z.cps.size : Int) ≤ 8 := by omega
      by_cases hb2 : (("top" : Str) == z || ("bottom" : Str) == z) = true
      · have hm : inT false (.str z) (.tup [.str "top", .str "bottom"]) = some (.bl true) := by
          simp only [inT, seqOf, flatT, memT, List.any_cons, List.any_nil, eqF, List.all_cons, List.all_nil]
          simpa using hb2
        have e : isNameZ z = false := by unfold isNameZ; rw [hb2]; simp
        rw [e]
        clear hb2
        walk_at "bm"
      · have hb3 : (("top" : Str) == z || ("bottom" : Str) == z) = false := by simpa using hb2
        have hm : inT false (.str z) (.tup [.str "top", .str "bottom"]) = some (.bl false) := by
          simp only [inT, seqOf, flatT, memT, List.any_cons, List.any_nil, eqF, List.all_cons, List.all_nil]
          simpa using hb3
        have e : isNameZ z = z.cps.toList.all isLet := by unfold isNameZ; rw [hb3]; simp [h1, h8]
        rw [e]
        clear hb2 hb3
        walk_at "bm"
        simp [gBls, lstOf, hb]
    · have i8 : ¬ (z.cps.size : Int) ≤ 8 := by omega
      have e : isNameZ z = false := by unfold isNameZ; simp [h8]
      rw [e]
      walk_at "bm"
  · have i1 : ¬ (1 : Int) ≤ (z.cps.size : Int) := by omega
    have e : isNameZ z = false := by unfold isNameZ; simp [h1]
    rw [e]
    walk_at "bm"
end BmLaw

/-! Shared helpers of the laws: draws anywhere in the store, stems, names, odd names. -/
namespace BmLaw
open PySem L2 Bm
def F_law_names : FS :=
  (sSeq (sSet 2 (eC (.str "abcdefghijklmnopqrstuvwxyz")))
  (sSeq (sSet 3 (eBM isStrD gJoin (eC (.str "")) (aCons (eLc (iR1 (aCons (eCallB 2 f_law_draw (aCons (eVar 0) (aCons (eC (.int 6)) aNil))) aNil)) [8] (gNm 8) bYes (eCallB 2 f_law_of (aCons (eVar 0) (aCons (eVar 2) aNil)))) aNil)))
  (sSeq (sAsg (eTup (aCons (eCallB 2 f_law_draw (aCons (eVar 0) (aCons (e2 gAdd (eCB gLen (aCons (eVar 3) aNil)) (eC (.int 1))) aNil))) (aCons (eCallB 2 f_law_draw (aCons (eVar 0) (aCons (eC (.int 26)) aNil))) (aCons (eCallB 2 f_law_of (aCons (eVar 0) (aCons (eLst (aCons (eC (.int 1)) (aCons (eC (.int 3)) (aCons (eC (.int 5)) (aCons (eC (.int 7)) (aCons (eC (.int 9)) (aCons (eC (.int 11)) (aCons (eC (.int 15)) (aCons (eC (.int 17)) aNil))))))))) aNil))) aNil)))) (gTp 3 (gsCons (gNm 4) (gsCons (gNm 5) (gsCons (gNm 6) gsNil)))))
  (sSeq (sSet 7 (eLc (iR1 (aCons (e2 gAdd (eVar 1) (eC (.int 1))) aNil)) [8] (gNm 8) bYes (e2 gAdd (e2 gAdd (eSl (eVar 3) oNone (oSome (eVar 4))) (e2 gIx (eVar 2) (e2 (g2 modT) (eCB gInt (aCons (e2 gAdd (eVar 5) (e2 (g2 mulT) (eVar 6) (eVar 8))) aNil)) (eC (.int 26))))) (eSl (eVar 3) (oSome (eVar 4)) oNone))))
  (sRet (eSl (eLc (iL (eVar 7)) [9] (gNm 9) (eB (eCall 1 f_law_is_name (aCons (eVar 9) aNil))) (eVar 9)) oNone (oSome (eVar 1))))))))
def f_law_names : List T → List T → BR := runB 10 F_law_names
def F_law_odd_name : FS :=
  (sRet (eCallB 2 f_law_of (aCons (eVar 0) (aCons (eLst (aCons (eC (.str "top")) (aCons (eC (.str "bottom")) (aCons (eC (.str "")) (aCons (eC (.str "A")) (aCons (eC (.str "a b")) (aCons (eC (.str "abcdefghi")) (aCons (eC (.str "a1")) (aCons (eC (.str "c<")) (aCons (eC .non) (aCons (eC (.int 3)) (aCons (eC (.bl true)) (aCons (eTup (aCons (eC (.str "a")) aNil)) (aCons (eLst (aCons (eC (.str "a")) aNil)) (aCons (eC (.str " a")) aNil))))))))))))))) aNil))))
def f_law_odd_name : List T → List T → BR := runB 1 F_law_odd_name
theorem strs_one (cs : List Nat) : strsOf (cs.map fun c => T.str ⟨#[c]⟩) = some (cs.map fun c => (⟨#[c]⟩ : Str)) := by
  induction cs with
  | nil => rfl
  | cons c cs ih => rw [List.map_cons, strsOf, ih]; rfl
theorem sum_one (cs : List Nat) : ((cs.map fun c => (⟨#[c]⟩ : Str)).map (·.length)).sum = cs.length := by
  induction cs with
  | nil => rfl
  | cons c cs ih => rw [List.map_cons, List.map_cons, List.sum_cons, ih, List.length_cons]; show 1 + _ = _; omega
theorem join_one (cs : List Nat) : (PySem.Txt.join (Str.ofString "") (cs.map fun c => (⟨#[c]⟩ : Str))) = ⟨cs.toArray⟩ := by
  rw [TL.join_eq]
  induction cs with
  | nil => rfl
  | cons c cs ih =>
    cases cs with
    | nil => rfl
    | cons d ds =>
      rw [List.map_cons, List.map_cons]
      show (⟨#[c]⟩ : Str) ++ Str.ofString "" ++ Str.join (Str.ofString "") ((⟨#[d]⟩ : Str) :: ds.map fun c => (⟨#[c]⟩ : Str)) = _
      rw [List.map_cons] at ih
      rw [ih]
      show (⟨(#[c] ++ #[]) ++ (d :: ds).toArray⟩ : Str) = _
      simp

section
variable {sl : List (Option D)} {M : List MO} {fs : Fn (List D)} {R : List MO}
theorem v_gB0 {fb : List T → List T → BR} {u t : T} {b b' : List T} (h : fb b [u] = .val t b') : gCallB 2 fb [.m 0, .t u] (.lst b :: R) = .ok (.t t) (.lst b' :: R) := by
  simp [gCallB, frzL, frz1, h]
theorem v_gBF {fb : List T → List T → BR} {u : T} {us b b' : List T} (h : fb b [u] = .fresh us b') : gCallB 2 fb [.m 0, .t u] (.lst b :: R) = .ok (.t (.lst us)) (.lst b' :: R) := by
  simp [gCallB, frzL, frz1, h]
theorem v_gB1 {fb : List T → List T → BR} {t : T} {b b' : List T} (h : fb b [] = .val t b') : gCallB 1 fb [.m 0] (.lst b :: R) = .ok (.t t) (.lst b' :: R) := by
  simp [gCallB, frzL, frz1, h]
theorem v_gB2 {fb : List T → List T → BR} {u v t : T} {b b' : List T} (h : fb b [u, v] = .val t b') : gCallB 3 fb [.m 0, .t u, .t v] (.lst b :: R) = .ok (.t t) (.lst b' :: R) := by
  simp [gCallB, frzL, frz1, h]
theorem c_draw {b : Bag} (h : b.Ok) {n : Int} (h0 : 0 < n) (h1 : n < 1073741824) (hf : fs sl M = .ok [.m 0, .t (.int n)] (.lst b.t :: R)) :
    ∃ (k : Nat) (b' : Bag), b'.Ok ∧ (k : Int) < n ∧ eCallB 2 f_law_draw fs sl M = .ok (.t (.int k)) (.lst b'.t :: R) := by
  have q := draw_b b h n h0
  have e := draw_eq b h n h0 h1
  obtain ⟨k, hk⟩ : ∃ k : Nat, (drawB b n).1 = (k : Int) := ⟨(drawB b n).1.toNat, by omega⟩
  rw [hk] at e
  exact ⟨k, _, q.1, by omega, v_callB hf (v_gB0 e)⟩
theorem c_ofS {b : Bag} (h : b.Ok) {z : Str} (h0 : 0 < z.cps.size) (h1 : z.cps.size ≤ 16777216) (hf : fs sl M = .ok [.m 0, .t (.str z)] (.lst b.t :: R)) :
    ∃ (c : Nat) (b' : Bag), b'.Ok ∧ c ∈ z.cps.toList ∧ eCallB 2 f_law_of fs sl M = .ok (.t (.str ⟨#[c]⟩)) (.lst b'.t :: R) := by
  obtain ⟨c, hc, e⟩ := of_str b h z h0 h1
  exact ⟨c, _, (bagOf_lt b h h0).2, List.mem_of_getElem? hc, v_callB hf (v_gB0 e)⟩
theorem c_ofL {b : Bag} (h : b.Ok) {xs : List T} (h0 : 0 < xs.length) (h1 : xs.length < 1073741824) (hf : fs sl M = .ok [.m 0, .t (.lst xs)] (.lst b.t :: R)) :
    ∃ (t : T) (b' : Bag), b'.Ok ∧ t ∈ xs ∧ eCallB 2 f_law_of fs sl M = .ok (.t t) (.lst b'.t :: R) := by
  obtain ⟨t, hc, e⟩ := of_lst b h xs h0 h1
  exact ⟨t, _, (bagOf_lt b h h0).2, List.mem_of_getElem? hc, v_callB hf (v_gB0 e)⟩
theorem v_lenS {z : Str} (h : z.cps.size ≤ 16777216) : gLen [.t (.str z)] M = .ok (.t (.int z.cps.size)) M := by
  show (if z.length ≤ sizeLine then _ else _) = _
  rw [if_pos (by rw [sizeLine_eq]; exact h)]
  rfl
theorem v_slS {z : Str} {lo hi : Option Int} (h : z.cps.size ≤ 16777216) : gSl (.t (.str z)) lo hi M = .ok (.t (.str (cutS z lo hi))) M := by
  show (if z.length ≤ sizeLine then _ else _) = _
  rw [if_pos (by rw [sizeLine_eq]; exact h)]
theorem v_addS {x y : Str} (h : x.cps.size + y.cps.size ≤ 16777216) : gAdd (.t (.str x)) (.t (.str y)) M = .ok (.t (.str (x ++ y))) M := by
  show (match addT (.str x) (.str y) with | some t => Res.ok (D.t t) M | none => .fail) = _
  have e : addT (.str x) (.str y) = some (.str (x ++ y)) := by
    show (match cat2 (.str x) (.str y) with | some c => some c | none => _) = _
    have e2 : cat2 (.str x) (.str y) = some (.str (x ++ y)) := if_pos (by rw [sizeLine_eq]; exact h)
    rw [e2]
  rw [e]
theorem size_app (x y : Str) : (x ++ y).cps.size = x.cps.size + y.cps.size := Array.size_append ..
theorem list_app (x y : Str) : (x ++ y).cps.toList = x.cps.toList ++ y.cps.toList := Array.toList_append ..
theorem size_cut (z : Str) (lo hi : Option Int) : (cutS z lo hi).cps.size ≤ z.cps.size := cutS_length z lo hi
theorem lc_map {i : Nat} {E : FE} {g : T → T} : ∀ (ts acc : List T), (∀ t ∈ ts, E (sl.set i (some (.t t))) M = .ok (.t (g t)) M) → acc.length + ts.length ≤ 16777216 →
    lcF [i] (gNm i) bYes E ts sl M acc = some (acc ++ ts.map g, M)
  | [], acc, _, _ => by simp [lcF]
  | t :: ts, acc, h, hl => by
    have e := h t (by simp)
    have ih := lc_map (g := g) ts (acc ++ [g t]) (fun u hu => h u (by simp [hu])) (by simp at hl ⊢; omega)
    have hacc : acc.length < 16777216 := by simp at hl; omega
    have eg : gNm i (.t t) (wipeS sl [i]) M = .nx (sl.set i (some (.t t))) M := by show SRes.nx ((sl.set i none).set i _) M = _; rw [List.set_set]
    rw [lcF, eg]
    simp [bYes, e, frz1, sizeLine_eq, hacc, ih]
theorem lc_map0 {i : Nat} {E : FE} {g : T → T} {ts us : List T} (hm : ts.map g = us) (hl : ts.length ≤ 16777216) (h : ∀ t ∈ ts, E (sl.set i (some (.t t))) M = .ok (.t (g t)) M) :
    lcF [i] (gNm i) bYes E ts sl M [] = some (us, M) := by
  rw [lc_map ts [] h (by simpa using hl), hm, List.nil_append]
/-- a name, as is_name sees it -/
def nmT : T → Bool
  | .str z => isNameZ z
  | _ => false
/-- what is told of -/
def plainT : T → Prop
  | .non => True | .bl _ => True | .int _ => True | .str z => z.cps.size < 16777216 | .lst _ => True | .tup _ => True
  | _ => False
theorem name_any (t : T) (h : plainT t) : f_is_name [t] = .val (.bl (nmT t)) := by
  cases t with
  | str z => exact name_str z h
  | non => exact name_non _ trivial
  | bl b => exact name_non _ trivial
  | int b => exact name_non _ trivial
  | lst b => exact name_non _ trivial
  | tup b => exact name_non _ trivial
  | _ => exact h.elim
theorem lname_any (t : T) (h : plainT t) : f_law_is_name [t] = .val (.bl (nmT t)) := by
  cases t with
  | str z => exact lname_str z h
  | non => exact lname_non _ trivial
  | bl b => exact lname_non _ trivial
  | int b => exact lname_non _ trivial
  | lst b => exact lname_non _ trivial
  | tup b => exact lname_non _ trivial
  | _ => exact h.elim
theorem ok_bls {n : Nat} {ts : List T} (f : T → Bool) (h : ts.length < 16777216) : okT (n + 2) (.lst (ts.map fun t => .bl (f t))) = true := by
  show (decide _ && _) = true
  rw [Bool.and_eq_true]
  refine ⟨by simpa using h, ?_⟩
  rw [List.all_eq_true]
  intro x hx
  obtain ⟨t, _, rfl⟩ := List.mem_map.mp hx
  rfl
theorem bls_any (f : T → Bool) (l : List T) : blsOf (l.map fun c => T.bl (f c)) = some (l.map f) := by
  induction l with
  | nil => rfl
  | cons c l ih => rw [List.map_cons, blsOf, ih]; rfl
theorem v_bls {f : List Bool → Bool} {ts : List T} {bs : List Bool} (h : blsOf ts = some bs) : gBls f [.t (.lst ts)] M = .ok (.t (.bl (f bs))) M := by
  show (match blsOf ts with | some bs => Res.ok (D.t (.bl (f bs))) M | none => .fail) = _
  rw [h]
theorem v_sameB {n : Nat} {ts : List T} (f : T → Bool) (h : ts.length < 16777216) : f_law_same (n + 2) [.lst (ts.map fun t => .bl (f t)), .lst (ts.map fun t => .bl (f t))] = .val (.bl true) := same_refl _ _ (ok_bls f h)
end

section
variable {sl : List (Option D)} {M : List MO} {R : List MO}
/-- a comprehension whose turns draw -/
theorem lc_bag {j : Nat} {E : FE} (P : T → Prop) (hE : ∀ (b : Bag) (t : T), b.Ok → ∃ (u : T) (b' : Bag), b'.Ok ∧ P u ∧ E (sl.set j (some (.t t))) (.lst b.t :: R) = .ok (.t u) (.lst b'.t :: R)) :
    ∀ (ts acc : List T) (b : Bag), b.Ok → acc.length + ts.length ≤ 16777216 → ∃ (us : List T) (b' : Bag), b'.Ok ∧ us.length = ts.length ∧ (∀ u ∈ us, P u) ∧ lcF [j] (gNm j) bYes E ts sl (.lst b.t :: R) acc = some (acc ++ us, .lst b'.t :: R)
  | [], acc, b, hb, _ => ⟨[], b, hb, rfl, fun u hu => (List.not_mem_nil hu).elim, by simp [lcF]⟩
  | t :: ts, acc, b, hb, hl => by
    obtain ⟨u, b1, hb1, hu, e⟩ := hE b t hb
    obtain ⟨us, b2, hb2, hlen, hus, e2⟩ := lc_bag P hE ts (acc ++ [u]) b1 hb1 (by simp at hl ⊢; omega)
    have hacc : acc.length < 16777216 := by simp at hl; omega
    refine ⟨u :: us, b2, hb2, by simp [hlen], fun v hv => ?_, ?_⟩
    · rcases List.mem_cons.mp hv with rfl | hv
      · exact hu
      · exact hus v hv
    · have eg : gNm j (.t t) (wipeS sl [j]) (.lst b.t :: R) = .nx (sl.set j (some (.t t))) (.lst b.t :: R) := by show SRes.nx ((sl.set j none).set j _) _ = _; rw [List.set_set]
      rw [lcF, eg]
      simp [bYes, e, frz1, sizeLine_eq, hacc, e2]
/-- a comprehension with a test -/
theorem lc_filter {j : Nat} {Tt : Fn Bool} {E : FE} {p : T → Bool} {g : T → T} : ∀ (ts acc : List T), (∀ t ∈ ts, Tt (sl.set j (some (.t t))) M = .ok (p t) M) → (∀ t ∈ ts, E (sl.set j (some (.t t))) M = .ok (.t (g t)) M) → acc.length + ts.length ≤ 16777216 →
    lcF [j] (gNm j) Tt E ts sl M acc = some (acc ++ (ts.filter p).map g, M)
  | [], acc, _, _, _ => by simp [lcF]
  | t :: ts, acc, h, h2, hl => by
    have e := h t (by simp)
    have e2 := h2 t (by simp)
    have ih := fun acc hl => lc_filter (p := p) (g := g) ts acc (fun u hu => h u (by simp [hu])) (fun u hu => h2 u (by simp [hu])) hl
    have hacc : acc.length < 16777216 := by simp at hl; omega
    have eg : gNm j (.t t) (wipeS sl [j]) M = .nx (sl.set j (some (.t t))) M := by show SRes.nx ((sl.set j none).set j _) M = _; rw [List.set_set]
    rw [lcF, eg]
    cases hp : p t with
    | true =>
      rw [hp] at e
      simp [e, e2, frz1, sizeLine_eq, hacc, ih (acc ++ [g t]) (by simp at hl ⊢; omega), hp]
    | false =>
      rw [hp] at e
      simp [e, ih acc (by simp at hl ⊢; omega), hp]
end
end BmLaw

/-! The drawn names. -/
namespace BmLaw
open PySem L2 Bm
section
variable {M : List MO}
theorem v_addI {i j : Int} : gAdd (.t (.int i)) (.t (.int j)) M = .ok (.t (.int (i + j))) M := rfl
theorem v_subI {i j : Int} : g2 subT (.t (.int i)) (.t (.int j)) M = .ok (.t (.int (i - j))) M := rfl
theorem v_mulI {i j : Int} (h : CMul i j) : g2 mulT (.t (.int i)) (.t (.int j)) M = .ok (.t (.int (i * j))) M := by simp [g2, mulT, int2, h]
theorem v_modI {i j : Int} (h : j ≠ 0) : g2 modT (.t (.int i)) (.t (.int j)) M = .ok (.t (.int (i.fmod j))) M := by simp [g2, modT, int2, h]
theorem v_divI {i j : Int} (h : CDivN i j) : g2 divT (.t (.int i)) (.t (.int j)) M = .ok (.t (.int (i.fdiv j))) M := by simp [g2, divT, int2, h]
theorem v_ixS {z : Str} {i : Int} {c : Nat} (hz : z.cps.size ≤ 16777216) (h : atI z.cps.toList i = some c) : gIx (.t (.str z)) (.t (.int i)) M = .ok (.t (.str ⟨#[c]⟩)) M := by
  have hz' : z.length ≤ sizeLine := by rw [sizeLine_eq]; exact hz
  simp [gIx, hz', h]
theorem v_ixL {ts : List T} {i : Int} {t : T} (h : atI ts i = some t) : gIx (.t (.lst ts)) (.t (.int i)) M = .ok (.t t) M := by
  simp [gIx, seqD, lstOf, h]
theorem v_ixT {ts : List T} {i : Int} {t : T} (h : atI ts i = some t) : gIx (.t (.tup ts)) (.t (.int i)) M = .ok (.t t) M := by
  simp [gIx, seqD, lstOf, h]
theorem cmul_small {i j : Int} (h : i.natAbs < 18446744073709551616) : CMul i j := by
  unfold CMul
  left
  omega
end
theorem cut_take (ts : List T) (n : Nat) : cutT ts none (some (n : Int)) = ts.take n := by
  have e1 : HT.sIx ts.length 0 none = 0 := rfl
  have e2 : HT.sIx ts.length ts.length (some (n : Int)) = min n ts.length := HT.sIx_nat _ _ _
  show (ts.drop (HT.sIx ts.length 0 none)).take (HT.sIx ts.length ts.length (some (n : Int)) - HT.sIx ts.length 0 none) = _
  rw [e1, e2, List.drop_zero, Nat.sub_zero, ← List.take_eq_take_min]
theorem cut_drop (ts : List T) (n : Nat) : cutT ts (some (n : Int)) none = ts.drop n := by
  have e1 : HT.sIx ts.length ts.length none = ts.length := rfl
  have e2 : HT.sIx ts.length 0 (some (n : Int)) = min n ts.length := HT.sIx_nat _ _ _
  show (ts.drop (HT.sIx ts.length 0 (some (n : Int)))).take (HT.sIx ts.length ts.length none - HT.sIx ts.length 0 (some (n : Int))) = _
  rw [e1, e2]
  by_cases h : n ≤ ts.length
  · rw [Nat.min_eq_left h]
    exact List.take_of_length_le (by simp)
  · rw [Nat.min_eq_right (by omega), Nat.sub_self, List.take_zero, List.drop_eq_nil_of_le (by omega)]
theorem mem_range {lo : Int} {n : Nat} {t : T} (h : t ∈ rangeT lo n) : ∃ i : Nat, i < n ∧ t = .int (lo + (i : Int)) := by
  unfold rangeT at h
  obtain ⟨i, hi, rfl⟩ := List.mem_map.mp h
  exact ⟨i, by simpa using hi, rfl⟩
theorem range_len {lo : Int} {n : Nat} : (rangeT lo n).length = n := by unfold rangeT; simp
theorem v_range {i : Int} {M : List MO} (h : i.natAbs < 4611686018427387904) : iRg1 [.t (.int i)] M = .ok (rangeT 0 i.toNat) M := by
  unfold iRg1
  have a1 : -(2 ^ 62) ≤ i := by omega
  have a2 : i < 2 ^ 62 := by omega
  exact if_pos ⟨a1, a2⟩
/-- a stem: some letters -/
theorem c_stem {sl : List (Option D)} {R : List MO} {j n : Nat} {fs : Fn (List D)} {it : Fn (List T)} {b : Bag} (hb : b.Ok) {M : List MO} (hi : it sl M = .ok (rangeT 0 n) (.lst b.t :: R)) (hn : n ≤ 1000)
    (hf : ∀ (t : T) (M : List MO), fs (sl.set j (some (.t t))) M = .ok [.m 0, .t (.str letters)] M) :
    ∃ (z : Str) (b' : Bag), b'.Ok ∧ z.cps.size = n ∧ (∀ c ∈ z.cps.toList, isLet c = true) ∧
      eBM isStrD gJoin (eC (.str "")) (aCons (eLc it [j] (gNm j) bYes (eCallB 2 f_law_of fs)) aNil) sl M = .ok (.t (.str z)) (.lst b'.t :: R) := by
  obtain ⟨us, b', hb', hlen, hus, e⟩ := lc_bag (sl := sl) (R := R) (j := j) (E := eCallB 2 f_law_of fs) (fun u => ∃ c, isLet c = true ∧ u = .str ⟨#[c]⟩) (fun b t hb => by
    obtain ⟨c, b1, hb1, hc, e⟩ := c_ofS (M := .lst b.t :: R) hb (z := letters) (by decide) (by decide) (hf t _)
    exact ⟨_, b1, hb1, ⟨c, decide_eq_true hc, rfl⟩, e⟩) (rangeT 0 n) [] b hb (by rw [range_len]; simp; omega)
  rw [range_len] at hlen
  obtain ⟨cs, hcs, hcl⟩ : ∃ cs : List Nat, us = cs.map (fun c => T.str ⟨#[c]⟩) ∧ ∀ c ∈ cs, isLet c = true := by
    clear hlen e
    induction us with
    | nil => exact ⟨[], rfl, fun c hc => (List.not_mem_nil hc).elim⟩
    | cons u us ih =>
      obtain ⟨cs, rfl, h⟩ := ih fun v hv => hus v (by simp [hv])
      obtain ⟨c, h1, rfl⟩ := hus u (by simp)
      exact ⟨c :: cs, rfl, fun d hd => by
        rcases List.mem_cons.mp hd with rfl | hd
        · exact h1
        · exact h d hd⟩
  subst hcs
  rw [List.nil_append] at e
  rw [List.length_map] at hlen
  have c1 := strs_one cs
  have c2 := sum_one cs
  have c3 := join_one cs
  have hj : gJoin (.t (.str (Str.ofString ""))) [.t (.lst (cs.map fun c => T.str ⟨#[c]⟩))] (.lst b'.t :: R) = .ok (.t (.str ⟨cs.toArray⟩)) (.lst b'.t :: R) := by
    unfold gJoin
    simp only [seqD, lstOf, c1, c3]
    refine if_pos ?_
    have hz : (Str.ofString "").length = 0 := rfl
    rw [c2, hz, Nat.mul_zero]
    omega
  exact ⟨⟨cs.toArray⟩, b', hb', by simpa using hlen, fun c hc => hcl c (by simpa using hc), v_bm v_c rfl (v_cons (v_lc hi e) v_nil) hj⟩
/-- a name with a letter put in -/
def putL (z : Str) (s : Int) (c : Nat) : Str := cutS z none (some s) ++ ⟨#[c]⟩ ++ cutS z (some s) none
theorem cut_parts (z : Str) (s : Nat) : (cutS z none (some (s : Int))).cps.toList = z.cps.toList.take s ∧ (cutS z (some (s : Int)) none).cps.toList = z.cps.toList.drop s := by
  have hl : z.length = z.cps.toList.length := by rw [Array.length_toList]; rfl
  have q : HT.sIx z.length z.length (some (s : Int)) = min s z.length := HT.sIx_nat _ _ _
  have q2 : HT.sIx z.length 0 (some (s : Int)) = min s z.length := HT.sIx_nat _ _ _
  have q3 : HT.sIx z.length 0 none = 0 := rfl
  have q4 : HT.sIx z.length z.length none = z.length := rfl
  constructor
  · show ((z.cps.toList.drop (HT.sIx z.length 0 none)).take (HT.sIx z.length z.length (some (s : Int)) - HT.sIx z.length 0 none)).toArray.toList = _
    rw [q, q3, List.drop_zero, Nat.sub_zero, hl, List.toList_toArray, ← List.take_eq_take_min]
  · show ((z.cps.toList.drop (HT.sIx z.length 0 (some (s : Int)))).take (HT.sIx z.length z.length none - HT.sIx z.length 0 (some (s : Int)))).toArray.toList = _
    rw [q2, q4, hl, List.toList_toArray]
    by_cases h : s ≤ z.cps.toList.length
    · rw [Nat.min_eq_left h]
      exact List.take_of_length_le (by simp)
    · rw [Nat.min_eq_right (by omega), Nat.sub_self, List.take_zero, List.drop_eq_nil_of_le (by omega)]
theorem put_list (z : Str) (s : Nat) (c : Nat) : (putL z s c).cps.toList = z.cps.toList.take s ++ [c] ++ z.cps.toList.drop s := by
  unfold putL
  rw [list_app, list_app, (cut_parts z s).1, (cut_parts z s).2]
theorem put_size (z : Str) (s : Nat) (c : Nat) : (putL z s c).cps.size = z.cps.size + 1 := by
  rw [← Array.length_toList, put_list, List.length_append, List.length_append, List.length_take, List.length_drop, Array.length_toList, List.length_singleton]
  omega
theorem put_let (z : Str) (s : Nat) (c : Nat) (h : ∀ c ∈ z.cps.toList, isLet c = true) (hc : isLet c = true) : ∀ d ∈ (putL z s c).cps.toList, isLet d = true := by
  intro d hd
  rw [put_list] at hd
  rcases List.mem_append.mp hd with hd | hd
  · rcases List.mem_append.mp hd with hd | hd
    · exact h d (List.mem_of_mem_take hd)
    · rw [List.mem_singleton] at hd; rw [hd]; exact hc
  · exact h d (List.mem_of_mem_drop hd)
theorem put_inj {z : Str} {s : Nat} {c d : Nat} (h : putL z s c = putL z s d) : c = d := by
  have e := congrArg (fun x : Str => x.cps.toList) h
  simp only [put_list] at e
  have e2 := List.append_cancel_right e
  have e3 := List.append_cancel_left e2
  simpa using e3
theorem filter_len {α : Type} (p : α → Bool) : ∀ {xs : List α}, xs.Nodup → (∀ x ∈ xs, ∀ y ∈ xs, p x = false → p y = false → x = y) → xs.length ≤ (xs.filter p).length + 1
  | [], _, _ => Nat.zero_le _
  | x :: xs, hn, h => by
    rw [List.nodup_cons] at hn
    cases hp : p x with
    | true =>
      rw [List.filter_cons_of_pos hp]
      have := filter_len p hn.2 fun a ha b hb => h a (by simp [ha]) b (by simp [hb])
      simp only [List.length_cons]
      omega
    | false =>
      rw [List.filter_cons_of_neg (by rw [hp]; decide)]
      have e : xs.filter p = xs := by
        rw [List.filter_eq_self]
        intro y hy
        cases hq : p y with
        | true => rfl
        | false =>
          have := h x (by simp) y (by simp [hy]) hp hq
          subst this
          exact (hn.1 hy).elim
      rw [e, List.length_cons]
      omega
def paces : List Int := [1, 3, 5, 7, 9, 11, 15, 17]
def letAt (f p : Int) (k : Nat) : Nat := 97 + ((f + p * (k : Int)).fmod 26).toNat
theorem letters_at (i : Int) (h0 : 0 ≤ i) (h1 : i < 26) : atI letters.cps.toList i = some (97 + i.toNat) := by
  obtain ⟨n, rfl⟩ : ∃ n : Nat, i = (n : Int) := ⟨i.toNat, by omega⟩
  have hn : n < 26 := by omega
  have key : ∀ n : Fin 26, atI letters.cps.toList ((n.1 : Nat) : Int) = some (97 + n.1) := by decide +kernel
  exact key ⟨n, hn⟩
theorem letters_is (k : Nat) (h : k < 26) : isLet (97 + k) = true := by
  have key : ∀ n : Fin 26, isLet (97 + n.1) = true := by decide +kernel
  exact key ⟨k, h⟩
theorem letAt_is (f p : Int) (k : Nat) : isLet (letAt f p k) = true := by
  have q := fm (f + p * (k : Int)) (n := 26) (by decide)
  exact letters_is _ (by omega)
theorem letAt_inj {f p : Int} (hp : p ∈ paces) {k l : Nat} (hk : k < 26) (hl : l < 26) (h : letAt f p k = letAt f p l) : k = l := by
  have q := fm (f + p * (k : Int)) (n := 26) (by decide)
  have q2 := fm (f + p * (l : Int)) (n := 26) (by decide)
  unfold letAt at h
  have e : (f + p * (k : Int)).fmod 26 = (f + p * (l : Int)).fmod 26 := by omega
  rw [Int.fmod_eq_emod_of_nonneg _ (by decide), Int.fmod_eq_emod_of_nonneg _ (by decide)] at e
  simp only [paces, List.mem_cons, List.not_mem_nil, or_false] at hp
  rcases hp with rfl | rfl | rfl | rfl | rfl | rfl | rfl | rfl <;> omega

theorem nameZ_of {z : Str} (h1 : 1 ≤ z.cps.size) (h2 : z.cps.size ≤ 8) (h3 : ∀ c ∈ z.cps.toList, isLet c = true) : isNameZ z = !(("top" : Str) == z || ("bottom" : Str) == z) := by
  unfold isNameZ
  have a : z.cps.toList.all isLet = true := List.all_eq_true.mpr h3
  rw [a, Bool.and_true, decide_eq_true ⟨h1, h2⟩, Bool.true_and]
/-- the names that a stem gives -/
theorem names_list {z : Str} {s : Nat} {f p : Int} (hz : z.cps.size ≤ 7) (hl : ∀ c ∈ z.cps.toList, isLet c = true) (hp : p ∈ paces) {n : Nat} (hn : n ≤ 25) :
    ((((List.range (n + 1)).map fun k => putL z s (letAt f p k)).filter isNameZ).take n).length = n ∧ ((((List.range (n + 1)).map fun k => putL z s (letAt f p k)).filter isNameZ).take n).Nodup := by
  have inj : ∀ k l, k < n + 1 → l < n + 1 → putL z s (letAt f p k) = putL z s (letAt f p l) → k = l := fun k l hk hl2 e => letAt_inj hp (by omega) (by omega) (put_inj e)
  have nd : ((List.range (n + 1)).map fun k => putL z s (letAt f p k)).Nodup := by
    rw [List.Nodup, List.pairwise_map]
    refine List.Pairwise.imp_of_mem ?_ (List.nodup_range (n := n + 1))
    intro a b ha hb hab e
    exact hab (inj a b (List.mem_range.mp ha) (List.mem_range.mp hb) e)
  have one : ∀ x ∈ (List.range (n + 1)).map fun k => putL z s (letAt f p k), ∀ y ∈ (List.range (n + 1)).map fun k => putL z s (letAt f p k), isNameZ x = false → isNameZ y = false → x = y := by
    intro x hx y hy h1 h2
    obtain ⟨k, hk, rfl⟩ := List.mem_map.mp hx
    obtain ⟨l, hl2, rfl⟩ := List.mem_map.mp hy
    have s1 := put_size z s (letAt f p k)
    have s2 := put_size z s (letAt f p l)
    rw [nameZ_of (by omega) (by omega) (put_let z s _ hl (letAt_is f p k))] at h1
    rw [nameZ_of (by omega) (by omega) (put_let z s _ hl (letAt_is f p l))] at h2
    generalize putL z s (letAt f p k) = u at h1 s1
    generalize putL z s (letAt f p l) = v at h2 s2
    have t3 : (("top" : Str)).cps.size = 3 := by decide
    have t6 : (("bottom" : Str)).cps.size = 6 := by decide
    simp only [Bool.not_eq_false', Bool.or_eq_true, beq_iff_eq] at h1 h2
    rcases h1 with rfl | rfl <;> rcases h2 with rfl | rfl <;> first | rfl | omega
  have fl := filter_len isNameZ nd one
  rw [List.length_map, List.length_range] at fl
  refine ⟨?_, (nd.sublist (List.filter_sublist)).sublist (List.take_sublist _ _)⟩
  rw [List.length_take]
  omega
theorem filter_str (l : List Str) : ((l.map T.str).filter nmT).map (fun t => t) = (l.filter isNameZ).map T.str := by
  rw [List.map_id']
  induction l with
  | nil => rfl
  | cons z l ih =>
    rw [List.map_cons]
    have e : nmT (.str z) = isNameZ z := rfl
    cases h : isNameZ z with
    | true => rw [List.filter_cons_of_pos (by rw [e, h]), List.filter_cons_of_pos (by rw [h]), ih, List.map_cons]
    | false => rw [List.filter_cons_of_neg (by rw [e, h]; decide), List.filter_cons_of_neg (by rw [h]; decide), ih]
theorem names_ok (b : Bag) (hb : b.Ok) (n : Nat) (hn : n ≤ 25) : ∃ (zs : List Str) (b' : Bag), b'.Ok ∧ zs.length = n ∧ zs.Nodup ∧ (∀ z ∈ zs, isNameZ z = true) ∧ (∀ z ∈ zs, z.cps.size ≤ 8) ∧ f_law_names b.t [.int n] = .val (.lst (zs.map T.str)) b'.t := by
  let sl0 : List (Option D) := [some (.m 0), some (.t (.int n)), some (.t (.str letters)), none, none, none, none, none, none, none]
  obtain ⟨k6, b1, hb1, hk6, w1⟩ := c_draw hb (R := []) (n := 6) (fs := aCons (eVar 0) (aCons (eC (.int 6)) aNil)) (sl := sl0) (by decide) (by decide) (v_cons (v_var rfl) (v_cons v_c v_nil))
  obtain ⟨z, b2, hb2, hz, hzl, w2⟩ := c_stem (sl := sl0) (R := []) (j := 8) (n := k6) (fs := aCons (eVar 0) (aCons (eVar 2) aNil)) (it := iR1 (aCons (eCallB 2 f_law_draw (aCons (eVar 0) (aCons (eC (.int 6)) aNil))) aNil)) (M := [.lst b.t]) hb1
    (v_r1 (v_cons w1 v_nil) (v_range (by omega))) (by omega) (fun t M => v_cons (v_var rfl) (v_cons (v_var rfl) v_nil))
  let sl1 : List (Option D) := [some (.m 0), some (.t (.int n)), some (.t (.str letters)), some (.t (.str z)), none, none, none, none, none, none]
  obtain ⟨s, b3, hb3, hs, w3⟩ := c_draw hb2 (R := []) (n := (z.cps.size : Int) + 1) (fs := aCons (eVar 0) (aCons (e2 gAdd (eCB gLen (aCons (eVar 3) aNil)) (eC (.int 1))) aNil)) (sl := sl1) (by omega) (by omega) (v_cons (v_var rfl) (v_cons (v_e2 (v_cb (v_cons (v_var rfl) v_nil) (v_lenS (by omega))) v_c v_addI) v_nil))
  obtain ⟨f, b4, hb4, hf, w4⟩ := c_draw hb3 (R := []) (n := 26) (fs := aCons (eVar 0) (aCons (eC (.int 26)) aNil)) (sl := sl1) (by decide) (by decide) (v_cons (v_var rfl) (v_cons v_c v_nil))
  obtain ⟨pt, b5, hb5, hp, w5⟩ := c_ofL hb4 (R := []) (xs := paces.map T.int) (fs := aCons (eVar 0) (aCons (eLst (aCons (eC (.int 1)) (aCons (eC (.int 3)) (aCons (eC (.int 5)) (aCons (eC (.int 7)) (aCons (eC (.int 9)) (aCons (eC (.int 11)) (aCons (eC (.int 15)) (aCons (eC (.int 17)) aNil))))))))) aNil)) (sl := sl1) (by decide) (by decide)
    (v_cons (v_var rfl) (v_cons (v_lst (v_cons v_c (v_cons v_c (v_cons v_c (v_cons v_c (v_cons v_c (v_cons v_c (v_cons v_c (v_cons v_c v_nil)))))))) rfl (Nat.le_of_ble_eq_true rfl)) v_nil))
  obtain ⟨p, hpm, rfl⟩ := List.mem_map.mp hp
  have hpb : p.natAbs < 18446744073709551616 := by
    have hpm := hpm
    simp only [paces, List.mem_cons, List.not_mem_nil, or_false] at hpm
    rcases hpm with rfl | rfl | rfl | rfl | rfl | rfl | rfl | rfl <;> decide
  let cand : Nat → Str := fun k => putL z s (letAt f p k)
  let g : T → T := fun t => match t with
    | .int k => .str (cand k.toNat)
    | _ => .non
  let sl2 : List (Option D) := [some (.m 0), some (.t (.int n)), some (.t (.str letters)), some (.t (.str z)), some (.t (.int s)), some (.t (.int f)), some (.t (.int p)), none, none, none]
  have hz7 : z.cps.size ≤ 7 := by omega
  have hmap : (rangeT 0 (n + 1)).map g = ((List.range (n + 1)).map cand).map T.str := by
    unfold rangeT
    rw [List.map_map, List.map_map]
    refine List.map_congr_left fun k _ => ?_
    show T.str (cand ((0 : Int) + (k : Int)).toNat) = T.str (cand k)
    rw [show ((0 : Int) + (k : Int)).toNat = k by omega]
  have w6 : eLc (iR1 (aCons (e2 gAdd (eVar 1) (eC (.int 1))) aNil)) [8] (gNm 8) bYes (e2 gAdd (e2 gAdd (eSl (eVar 3) oNone (oSome (eVar 4))) (e2 gIx (eVar 2) (e2 (g2 modT) (eCB gInt (aCons (e2 gAdd (eVar 5) (e2 (g2 mulT) (eVar 6) (eVar 8))) aNil)) (eC (.int 26))))) (eSl (eVar 3) (oSome (eVar 4)) oNone)) sl2 [.lst b5.t]
      = .ok (.t (.lst (((List.range (n + 1)).map cand).map T.str))) [.lst b5.t] := by
    refine v_lc (v_r1 (v_cons (v_e2 (v_var rfl) v_c v_addI) v_nil) (v_range (by omega))) (lc_map0 (g := g) ?_ ?_ ?_)
    · rw [show ((n : Int) + 1).toNat = n + 1 by omega]; exact hmap
    · rw [range_len]; omega
    · intro t ht
      obtain ⟨k, hk, rfl⟩ := mem_range ht
      have q := fm ((f : Int) + p * ((0 : Int) + (k : Int))) (n := 26) (by decide)
      have hix : gIx (.t (.str letters)) (.t (.int (((f : Int) + p * ((0 : Int) + (k : Int))).fmod 26))) [.lst b5.t] = .ok (.t (.str ⟨#[letAt f p k]⟩)) [.lst b5.t] := by
        have e0 := letters_at _ q.1 q.2
        have e00 : letAt f p k = 97 + (((f : Int) + p * ((0 : Int) + (k : Int))).fmod 26).toNat := by unfold letAt; rw [Int.zero_add]
        rw [e00]
        exact v_ixS (by decide) e0
      have q1 := size_cut z none (some (s : Int))
      have q2 := size_cut z (some (s : Int)) none
      have q3 := size_app (cutS z none (some (s : Int))) ⟨#[letAt f p k]⟩
      have qc : (⟨#[letAt f p k]⟩ : Str).cps.size = 1 := rfl
      have hg : g (.int ((0 : Int) + (k : Int))) = .str (cutS z none (some (s : Int)) ++ ⟨#[letAt f p k]⟩ ++ cutS z (some (s : Int)) none) := by
        show T.str (cand ((0 : Int) + (k : Int)).toNat) = _
        rw [show ((0 : Int) + (k : Int)).toNat = k by omega]
        rfl
      rw [hg]
      exact v_e2 (v_e2 (v_sl (v_var rfl) v_none (v_some (v_var rfl)) (v_slS (by omega))) (v_e2 (v_var rfl) (v_e2 (v_cb (v_cons (v_e2 (v_var rfl) (v_e2 (v_var rfl) (v_var rfl) (v_mulI (cmul_small hpb))) v_addI) v_nil) rfl) v_c (v_modI (by decide))) hix) (v_addS (by omega))) (v_sl (v_var rfl) (v_some (v_var rfl)) v_none (v_slS (by omega))) (v_addS (by omega))
  have hnl := names_list (s := s) (f := f) hz7 hzl hpm hn
  refine ⟨(((List.range (n + 1)).map cand).filter isNameZ).take n, b5, hb5, hnl.1, hnl.2, fun x hx => (List.mem_filter.mp (List.mem_of_mem_take hx)).2, fun x hx => ?_, ?_⟩
  · obtain ⟨k, _, rfl⟩ := List.mem_map.mp (List.mem_filter.mp (List.mem_of_mem_take hx)).1
    have := put_size z s (letAt f p k)
    show (putL z s (letAt f p k)).cps.size ≤ 8
    omega
  · have hc0 : ∀ x ∈ (List.range (n + 1)).map cand, x.cps.size < 16777216 := fun x hx => by
      obtain ⟨k, _, rfl⟩ := List.mem_map.mp hx
      have := put_size z s (letAt f p k)
      show (putL z s (letAt f p k)).cps.size < _
      omega
    have w7 : eLc (iL (eVar 7)) [9] (gNm 9) (eB (eCall 1 f_law_is_name (aCons (eVar 9) aNil))) (eVar 9) (sl2.set 7 (some (.t (.lst (((List.range (n + 1)).map cand).map T.str))))) [.lst b5.t]
        = .ok (.t (.lst ((((List.range (n + 1)).map cand).filter isNameZ).map T.str))) [.lst b5.t] := by
      rw [← filter_str]
      refine v_lc (v_il (v_var rfl) rfl) ((lc_filter (p := nmT) (g := fun t => t) _ [] ?_ ?_ ?_).trans ?_)
      · intro t ht
        obtain ⟨x, hx, rfl⟩ := List.mem_map.mp ht
        exact v_eB (v_call (v_cons (v_var rfl) v_nil) rfl rfl (lname_any (.str x) (hc0 x hx)))
      · exact fun t _ => v_var rfl
      · simp; omega
      · rfl
    show ansB (F_law_names [some (.m 0), some (.t (.int n)), none, none, none, none, none, none, none, none] [.lst b.t]) = _
    suffices h : F_law_names [some (.m 0), some (.t (.int n)), none, none, none, none, none, none, none, none] [.lst b.t] = .rt (.t (.lst (((((List.range (n + 1)).map cand).filter isNameZ).take n).map T.str))) [.lst b5.t] by rw [h]; rfl
    unfold F_law_names
    refine v_seq (v_set v_c) ?_
    refine v_seq (v_set w2) ?_
    refine v_seq (v_asg (v_tup (v_cons w3 (v_cons w4 (v_cons w5 v_nil))) rfl (Nat.le_of_ble_eq_true rfl)) rfl) ?_
    refine v_seq (v_set w6) ?_
    refine v_ret (v_sl w7 v_none (v_some (v_var rfl)) ?_)
    show Res.ok (D.t (.lst (cutT _ none (some (n : Int))))) _ = _
    rw [cut_take, List.map_take]
end BmLaw

/-! Declarations. -/
namespace BmLaw
open PySem L2 Bm
def c_DECLARED : List (Str × T) := [("sort", (.int 1)), ("pair", (.int 2)), ("swap", (.int 2)), ("step", (.int 1)), ("drop", (.int 1)), ("closure", (.int 1)), ("interior", (.int 1)), ("item", (.int 1)), ("below", (.int 0))]
def c_WORDS : List (Str × T) := [("sort", (.int 2)), ("pair", (.int 5)), ("swap", (.int 5)), ("step", (.int 4)), ("drop", (.int 4)), ("closure", (.int 3)), ("interior", (.int 3)), ("item", (.int 3)), ("below", (.int 3))]
def F_is_declaration : FS :=
  (sSeq (sIf (bOr (bNot (eB (eCB (gP (isiT tabB)) (aCons (eVar 0) (aCons (eC (.ty "tuple")) aNil))))) (bOr (eB (e2 (g2 eqT) (eCB gLen (aCons (eVar 0) aNil)) (eC (.int 0)))) (bOr (bNot (eB (eCB (gP (isiT tabB)) (aCons (e2 gIx (eVar 0) (eC (.int 0))) (aCons (eC (.ty "str")) aNil))))) (eB (e1 (keyIn true c_WORDS) (e2 gIx (eVar 0) (eC (.int 0)))))))) (sRet (eC (.bl false))) sSkip)
  (sRet (eAnd (e2 (g2 eqT) (eCB gLen (aCons (eVar 0) aNil)) (e1 (keyAt c_WORDS) (e2 gIx (eVar 0) (eC (.int 0))))) (eCB (gBls fun bs => bs.all id) (aCons (eLc (iT (eSl (eVar 0) (oSome (eC (.int 1))) oNone)) [1] (gNm 1) bYes (eCall 1 f_is_name (aCons (eVar 1) aNil))) aNil)))))
def f_is_declaration : List T → PR := runP 2 F_is_declaration
def F_names_of : FS :=
  (sRet (eCB gListM (aCons (eSl (eVar 0) (oSome (eC (.int 1))) (oSome (e2 gAdd (eC (.int 1)) (e1 (keyAt c_DECLARED) (e2 gIx (eVar 0) (eC (.int 0))))))) aNil)))
def f_names_of : List T → PR := runP 1 F_names_of
def F_uses_of : FS :=
  (sRet (eCB gListM (aCons (eSl (eVar 0) (oSome (e2 gAdd (eC (.int 1)) (e1 (keyAt c_DECLARED) (e2 gIx (eVar 0) (eC (.int 0)))))) oNone) aNil)))
def f_uses_of : List T → PR := runP 1 F_uses_of
local macro_rules | `(tactic| walk_at "bm") => `(tactic| simp [runB, runP, start', sSeq, sSet, sExpr, sRet, sIf, sSkip, sAsg, e2, e3, eVar, eC, eB, eAnd, eOr, eNot, eIf, bAnd, bOr, bNot, toB, Res.bind, Res.toS, gIx, seqD, lstOf, atI, ixN, gAdd, gCatL, g2, pk, isSc, addT, subT, mulT, powT, divT, modT, ltT, leT, gtT, geT, int2, eqT, neT, eqS, isN, notN,
  gSubM, frz1, frzL, aCons, aNil, eCB, gLen, gInt, gList, ansB, ansP, CMul, CPow, CDivN, gP, allT, eSl, gSl, oSome, oNone, eLstM, eLst, eTup, toTs, eCall, eCallM, eCallB, gCallB, sFor, loopF, gNm, iL, iLst, iT, iTp, iS, iSt, iZ, iZp, eLc, bYes, isiT, kdOf, tgt, tabB, kinds, isiAny, sizeLine_eq, eBM, isStrD, isLst, strlen, *])


theorem words_int {w : Str} {u : T} (h : tabGet c_WORDS w = some u) : ∃ n, u = .int n := by
  simp only [c_WORDS, tabGet] at h
  split at h
  · cases h; exact ⟨_, rfl⟩
  · split at h
    · cases h; exact ⟨_, rfl⟩
    · split at h
      · cases h; exact ⟨_, rfl⟩
      · split at h
        · cases h; exact ⟨_, rfl⟩
        · split at h
          · cases h; exact ⟨_, rfl⟩
          · split at h
            · cases h; exact ⟨_, rfl⟩
            · split at h
              · cases h; exact ⟨_, rfl⟩
              · split at h
                · cases h; exact ⟨_, rfl⟩
                · split at h
                  · cases h; exact ⟨_, rfl⟩
                  · cases h
def declT : T → Bool
  | .tup (.str w :: r) => (match tabGet c_WORDS w with
    | some (.int n) => decide ((r.length : Int) + 1 = n) && r.all nmT
    | _ => false)
  | _ => false
section
variable {M : List MO}
theorem v_lenT {ts : List T} : gLen [.t (.tup ts)] M = .ok (.t (.int ts.length)) M := rfl
theorem v_lenL {ts : List T} : gLen [.t (.lst ts)] M = .ok (.t (.int ts.length)) M := rfl
theorem v_eqI {i j : Int} : g2 eqT (.t (.int i)) (.t (.int j)) M = .ok (.t (.bl (decide (i = j)))) M := rfl
theorem v_eqZ {i j : Str} : g2 eqT (.t (.str i)) (.t (.str j)) M = .ok (.t (.bl (decide (i = j)))) M := rfl
theorem v_slT {ts : List T} {lo hi : Option Int} : gSl (.t (.tup ts)) lo hi M = .ok (.t (.tup (cutT ts lo hi))) M := rfl
theorem v_slL {ts : List T} {lo hi : Option Int} : gSl (.t (.lst ts)) lo hi M = .ok (.t (.lst (cutT ts lo hi))) M := rfl
theorem v_slT' {ts us : List T} {lo hi : Option Int} (h : cutT ts lo hi = us) : gSl (.t (.tup ts)) lo hi M = .ok (.t (.tup us)) M := by subst h; rfl
theorem v_slL' {ts us : List T} {lo hi : Option Int} (h : cutT ts lo hi = us) : gSl (.t (.lst ts)) lo hi M = .ok (.t (.lst us)) M := by subst h; rfl
theorem v_e1 {sl : List (Option D)} {M1 : List MO} {f : T → Option T} {F : FE} {t u : T} (h : F sl M = .ok (.t t) M1) (h2 : f t = some u) : e1 f F sl M = .ok (.t u) M1 := by
  unfold e1; rw [h]; show (match f t with | some u => Res.ok (D.t u) M1 | none => .fail) = _; rw [h2]
theorem v_it {sl : List (Option D)} {M1 : List MO} {F : FE} {ts : List T} (ha : F sl M = .ok (.t (.tup ts)) M1) : iT F sl M = .ok ts M1 := by
  unfold iT; rw [ha]; rfl
theorem v_eand {sl : List (Option D)} {M1 : List MO} {fa fb : FE} {k : Bool} {r : Res D} (h : fa sl M = .ok (.t (.bl k)) M1) (h2 : (if k then fb sl M1 else .ok (.t (.bl false)) M1) = r) : eAnd fa fb sl M = r := by
  unfold eAnd; rw [h]; exact h2
theorem v_eor {sl : List (Option D)} {M1 : List MO} {fa fb : FE} {k : Bool} {r : Res D} (h : fa sl M = .ok (.t (.bl k)) M1) (h2 : (if k then .ok (.t (.bl true)) M1 else fb sl M1) = r) : eOr fa fb sl M = r := by
  unfold eOr; rw [h]; exact h2
theorem v_eif {sl : List (Option D)} {M1 : List MO} {t : Fn Bool} {fa fb : FE} {k : Bool} {r : Res D} (h : t sl M = .ok k M1) (h2 : (if k then fa sl M1 else fb sl M1) = r) : eIf t fa fb sl M = r := by
  unfold eIf; rw [h]; exact h2
theorem v_addT {xs ys : List T} (h : xs.length + ys.length ≤ 16777216) : gAdd (.t (.tup xs)) (.t (.tup ys)) M = .ok (.t (.tup (xs ++ ys))) M := by
  have h' : xs.length + ys.length ≤ sizeLine := by rw [sizeLine_eq]; exact h
  have e : addT (.tup xs) (.tup ys) = some (.tup (xs ++ ys)) := by
    show (match cat2 (.tup xs) (.tup ys) with | some c => some c | none => catT2 (.tup xs) (.tup ys)) = _
    show catT2 _ _ = _
    exact if_pos h'
  show (match addT (.tup xs) (.tup ys) with | some t => Res.ok (D.t t) M | none => .fail) = _
  rw [e]
theorem v_addL {xs ys : List T} (h : xs.length + ys.length ≤ 16777216) : gAdd (.t (.lst xs)) (.t (.lst ys)) M = .ok (.t (.lst (xs ++ ys))) M := by
  have h' : xs.length + ys.length ≤ sizeLine := by rw [sizeLine_eq]; exact h
  simp [gAdd, gCatL, lstOf, h']
end
theorem at0 {α : Type} (h : α) (r : List α) : atI (h :: r) 0 = some h := by simp [atI, ixN]
theorem decl_any (t : T) (hp : match t with | .non => True | .bl _ => True | .int _ => True | .str _ => True | .lst _ => True | .tup ts => ts.length < 16777216 ∧ (∀ u ∈ ts, plainT u) | _ => False) : f_is_declaration [t] = .val (.bl (declT t)) := by
  unfold f_is_declaration
  cases t with
  | tup ts =>
    obtain ⟨hl, hpl⟩ := hp
    cases ts with
    | nil =>
      unfold F_is_declaration
      have : declT (.tup []) = false := rfl
      rw [this]
      walk_at "bm"
    | cons h r =>
      have hi0 : atI (h :: r) 0 = some h := at0 h r
      have hln : decide (((h :: r).length : Int) = 0) = false := by rw [List.length_cons]; exact decide_eq_false (by omega)
      show ansP (F_is_declaration [some (.t (.tup (h :: r))), none] []) = _
      by_cases hs : ∃ w, h = .str w
      · obtain ⟨w, rfl⟩ := hs
        cases hw : tabGet c_WORDS w with
        | none =>
          have e : declT (.tup (.str w :: r)) = false := by simp only [declT, hw]
          rw [e]
          suffices q : F_is_declaration [some (.t (.tup (.str w :: r))), none] [] = .rt (.t (.bl false)) [] by rw [q]; rfl
          unfold F_is_declaration
          refine v_seqR ?_
          refine v_if (k := true) (v_or (k := false) (v_not (k := true) (v_eB (v_cb (v_cons (v_var rfl) (v_cons v_c v_nil)) rfl)))
            (v_or (k := false) (v_eB ((v_e2 (v_cb (v_cons (v_var rfl) v_nil) v_lenT) v_c v_eqI).trans (by rw [hln])))
            (v_or (k := false) (v_not (k := true) (v_eB (v_cb (v_cons (v_e2 (v_var rfl) v_c (v_ixT hi0)) (v_cons v_c v_nil)) rfl)))
            (v_eB (v_e1 (v_e2 (v_var rfl) v_c (v_ixT hi0)) (show keyIn true c_WORDS (.str w) = some (.bl true) by simp only [keyIn, hw]; rfl)))))) (v_ret v_c)
        | some u =>
          obtain ⟨n, rfl⟩ := words_int hw
          have e : declT (.tup (.str w :: r)) = (decide ((r.length : Int) + 1 = n) && r.all nmT) := by simp only [declT, hw]
          rw [e]
          have e9 : decide (((T.str w :: r).length : Int) = n) = decide ((r.length : Int) + 1 = n) := by rw [List.length_cons]; rfl
          suffices q : F_is_declaration [some (.t (.tup (.str w :: r))), none] [] = .rt (.t (.bl (decide ((r.length : Int) + 1 = n) && r.all nmT))) [] by rw [q]; rfl
          unfold F_is_declaration
          refine v_seq (v_if (k := false) (v_or (k := false) (v_not (k := true) (v_eB (v_cb (v_cons (v_var rfl) (v_cons v_c v_nil)) rfl)))
            (v_or (k := false) (v_eB ((v_e2 (v_cb (v_cons (v_var rfl) v_nil) v_lenT) v_c v_eqI).trans (by rw [hln])))
            (v_or (k := false) (v_not (k := true) (v_eB (v_cb (v_cons (v_e2 (v_var rfl) v_c (v_ixT hi0)) (v_cons v_c v_nil)) rfl)))
            (v_eB (v_e1 (v_e2 (v_var rfl) v_c (v_ixT hi0)) (show keyIn true c_WORDS (.str w) = some (.bl false) by simp only [keyIn, hw]; rfl)))))) rfl) ?_
          refine v_ret (v_eand (k := decide ((r.length : Int) + 1 = n)) (v_e2 (v_cb (v_cons (v_var rfl) v_nil) v_lenT) (v_e1 (u := .int n) (v_e2 (v_var rfl) v_c (v_ixT hi0)) hw) (v_eqI.trans (by rw [e9]))) ?_)
          by_cases hq : (r.length : Int) + 1 = n
          · rw [decide_eq_true hq, if_pos rfl, Bool.true_and]
            have ec : cutT (T.str w :: r) (some 1) none = r := cut_drop (T.str w :: r) 1
            refine v_cb (v_cons (v_lc (v_it ((v_sl (v_var rfl) (v_some v_c) v_none v_slT).trans (by rw [ec]))) (lc_map0 (g := fun t => .bl (nmT t)) rfl ?_ fun t ht => v_call (v_cons (v_var rfl) v_nil) rfl rfl (name_any t (hpl t (by simp [ht]))))) v_nil) ((v_bls (bls_any nmT r)).trans ?_)
            · simp at hl; omega
            · rw [List.all_map]; rfl
          · rw [decide_eq_false hq]; rfl
      · have e : declT (.tup (h :: r)) = false := by
          cases h with
          | str w => exact (hs ⟨w, rfl⟩).elim
          | _ => rfl
        rw [e]
        have hk : ∃ k, kdOf h = some (.inl k) ∧ tabB (.inl k) (.inl "str") = some false := by
          have := hpl h (by simp)
          cases h with
          | str w => exact (hs ⟨w, rfl⟩).elim
          | non => exact ⟨_, rfl, by decide⟩
          | bl _ => exact ⟨_, rfl, by decide⟩
          | int _ => exact ⟨_, rfl, by decide⟩
          | lst _ => exact ⟨_, rfl, by decide⟩
          | tup _ => exact ⟨_, rfl, by decide⟩
          | _ => exact this.elim
        obtain ⟨k, hk1, hk2⟩ := hk
        have hi : gP (isiT tabB) [.t h, .t (.ty "str")] [] = .ok (.t (.bl false)) [] := by
          have : isiT tabB [h, .ty "str"] = some (.bl false) := by
            show (match kdOf h, tgt (.ty "str") with | some k, some c => (match tabB k c with | some b => some (T.bl b) | none => none) | _, _ => none) = _
            rw [hk1]
            show (match tabB (.inl k) (.inl "str") with | some b => some (T.bl b) | none => none) = _
            rw [hk2]
          show (match isiT tabB [h, .ty "str"] with | some t => Res.ok (D.t t) [] | none => .fail) = _
          rw [this]
        suffices q : F_is_declaration [some (.t (.tup (h :: r))), none] [] = .rt (.t (.bl false)) [] by rw [q]; rfl
        unfold F_is_declaration
        refine v_seqR ?_
        exact v_if (k := true) (v_or (k := false) (v_not (k := true) (v_eB (v_cb (v_cons (v_var rfl) (v_cons v_c v_nil)) rfl)))
          (v_or (k := false) (v_eB ((v_e2 (v_cb (v_cons (v_var rfl) v_nil) v_lenT) v_c v_eqI).trans (by rw [hln])))
          (v_or (k := true) (v_not (k := false) (v_eB (v_cb (v_cons (v_e2 (v_var rfl) v_c (v_ixT hi0)) (v_cons v_c v_nil)) hi))) rfl))) (v_ret v_c)
  | non => unfold F_is_declaration; have : declT .non = false := rfl; rw [this]; walk_at "bm"
  | bl b => unfold F_is_declaration; have : declT (.bl b) = false := rfl; rw [this]; walk_at "bm"
  | int b => unfold F_is_declaration; have : declT (.int b) = false := rfl; rw [this]; walk_at "bm"
  | str b => unfold F_is_declaration; have : declT (.str b) = false := rfl; rw [this]; walk_at "bm"
  | lst b => unfold F_is_declaration; have : declT (.lst b) = false := rfl; rw [this]; walk_at "bm"
  | _ => exact hp.elim
theorem decl_tup (ts : List T) (h1 : ts.length < 16777216) (h2 : ∀ u ∈ ts, plainT u) : f_is_declaration [.tup ts] = .val (.bl (declT (.tup ts))) := decl_any (.tup ts) ⟨h1, h2⟩
theorem declared_int {w : Str} {u : T} (h : tabGet c_WORDS w = some u) : ∃ n : Nat, tabGet c_DECLARED w = some (.int n) ∧ n ≤ 2 := by
  simp only [c_WORDS, c_DECLARED, tabGet] at h ⊢
  repeat' split at h
  all_goals first | (cases h; done) | skip
  all_goals (cases h; simp_all)
  all_goals first | exact ⟨0, rfl, by decide⟩ | exact ⟨1, rfl, by decide⟩ | exact ⟨2, rfl, by decide⟩
theorem cut_mid (ts : List T) (a b : Nat) : cutT ts (some (a : Int)) (some (b : Int)) = (ts.drop a).take (b - a) := by
  have e1 : HT.sIx ts.length ts.length (some (b : Int)) = min b ts.length := HT.sIx_nat _ _ _
  have e2 : HT.sIx ts.length 0 (some (a : Int)) = min a ts.length := HT.sIx_nat _ _ _
  show (ts.drop (HT.sIx ts.length 0 (some (a : Int)))).take (HT.sIx ts.length ts.length (some (b : Int)) - HT.sIx ts.length 0 (some (a : Int))) = _
  rw [e1, e2]
  by_cases h : a ≤ ts.length
  · rw [Nat.min_eq_left h]
    by_cases h2 : b ≤ ts.length
    · rw [Nat.min_eq_left h2]
    · rw [Nat.min_eq_right (by omega), List.take_of_length_le (by simp), List.take_of_length_le (by simp; omega)]
  · rw [Nat.min_eq_right (a := a) (b := ts.length) (by omega), List.drop_eq_nil_of_le (Nat.le_refl _), List.drop_eq_nil_of_le (by omega)]
    simp
theorem names_of_eq {w : Str} {r : List T} {n : Nat} (h : tabGet c_DECLARED w = some (.int n)) : f_names_of [.tup (.str w :: r)] = .fresh (r.take n) := by
  show ansP (F_names_of [some (.t (.tup (.str w :: r)))] []) = _
  suffices q : F_names_of [some (.t (.tup (.str w :: r)))] [] = .rt (.m 0) [.lst (r.take n)] by rw [q]; rfl
  unfold F_names_of
  have ec : cutT (T.str w :: r) (some 1) (some (1 + (n : Int))) = r.take n := by
    have := cut_mid (T.str w :: r) 1 (1 + n)
    rw [show (((1 + n : Nat) : Nat) : Int) = 1 + (n : Int) by omega] at this
    refine this.trans ?_
    rw [show 1 + n - 1 = n by omega]; rfl
  exact v_ret (v_cb (v_cons (v_sl (v_var rfl) (v_some v_c) (v_some (v_e2 v_c (v_e1 (v_e2 (v_var rfl) v_c (v_ixT (at0 _ _))) h) v_addI)) (v_slT.trans (by rw [ec]))) v_nil) rfl)
theorem uses_of_eq {w : Str} {r : List T} {n : Nat} (h : tabGet c_DECLARED w = some (.int n)) : f_uses_of [.tup (.str w :: r)] = .fresh (r.drop n) := by
  show ansP (F_uses_of [some (.t (.tup (.str w :: r)))] []) = _
  suffices q : F_uses_of [some (.t (.tup (.str w :: r)))] [] = .rt (.m 0) [.lst (r.drop n)] by rw [q]; rfl
  unfold F_uses_of
  have ec : cutT (T.str w :: r) (some (1 + (n : Int))) none = r.drop n := by
    have := cut_drop (T.str w :: r) (1 + n)
    rw [show (((1 + n : Nat) : Nat) : Int) = 1 + (n : Int) by omega] at this
    refine this.trans ?_
    rw [Nat.add_comm 1 n]; rfl
  exact v_ret (v_cb (v_cons (v_sl (v_var rfl) (v_some (v_e2 v_c (v_e1 (v_e2 (v_var rfl) v_c (v_ixT (at0 _ _))) h) v_addI)) v_none (v_slT.trans (by rw [ec]))) v_nil) rfl)
theorem v_callF {sl : List (Option D)} {M M1 M2 : List MO} {n : Nat} {fp : List T → PR} {fs : Fn (List D)} {ds : List D} {ts us : List T} (ha : fs sl M = .ok ds M1) (hf : frzL M1 ds = some (ts, M2)) (hn : ts.length = n) (h : fp ts = .fresh us) : eCall n fp fs sl M = .ok (.t (.lst us)) M2 := by
  unfold eCall; rw [ha]
  show (match frzL M1 ds with | some (ts, M2) => _ | none => _) = _
  rw [hf]
  show (if ts.length = n then _ else _) = _
  rw [if_pos hn, h]
/-- an odd name -/
def odds : List T := [.str "top", .str "bottom", .str "", .str "A", .str "a b", .str "abcdefghi", .str "a1", .str "c<", .non, .int 3, .bl true, .tup [.str "a"], .lst [.str "a"], .str " a"]
theorem odds_plain : ∀ t ∈ odds, plainT t ∧ nmT t = false := by
  intro t h
  simp only [odds, List.mem_cons, List.not_mem_nil, or_false] at h
  rcases h with rfl | rfl | rfl | rfl | rfl | rfl | rfl | rfl | rfl | rfl | rfl | rfl | rfl | rfl <;> refine ⟨?_, by decide +kernel⟩ <;> first | trivial | (show _ < _; decide)
theorem odd_ok (b : Bag) (h : b.Ok) : ∃ (t : T) (b' : Bag), b'.Ok ∧ t ∈ odds ∧ f_law_odd_name b.t [] = .val t b'.t := by
  have hf : (aCons (eVar 0) (aCons (eLst (aCons (eC (.str "top")) (aCons (eC (.str "bottom")) (aCons (eC (.str "")) (aCons (eC (.str "A")) (aCons (eC (.str "a b")) (aCons (eC (.str "abcdefghi")) (aCons (eC (.str "a1")) (aCons (eC (.str "c<")) (aCons (eC .non) (aCons (eC (.int 3)) (aCons (eC (.bl true)) (aCons (eTup (aCons (eC (.str "a")) aNil)) (aCons (eLst (aCons (eC (.str "a")) aNil)) (aCons (eC (.str " a")) aNil))))))))))))))) aNil)) [some (.m 0)] [.lst b.t] = .ok [.m 0, .t (.lst odds)] [.lst b.t] := by
    refine v_cons (v_var rfl) (v_cons (v_lst (v_cons v_c (v_cons v_c (v_cons v_c (v_cons v_c (v_cons v_c (v_cons v_c (v_cons v_c (v_cons v_c (v_cons v_c (v_cons v_c (v_cons v_c (v_cons (v_tup (v_cons v_c v_nil) rfl (Nat.le_of_ble_eq_true rfl)) (v_cons (v_lst (v_cons v_c v_nil) rfl (Nat.le_of_ble_eq_true rfl)) (v_cons v_c v_nil)))))))))))))) rfl (Nat.le_of_ble_eq_true rfl)) v_nil)
  obtain ⟨t, b', h1, h2, h3⟩ := c_ofL h (xs := odds) (by decide) (by decide) hf
  refine ⟨t, b', h1, h2, ?_⟩
  show ansB (F_law_odd_name [some (.m 0)] [.lst b.t]) = _
  unfold F_law_odd_name
  rw [v_ret h3]
  rfl
end BmLaw

namespace K03
open PySem L2 PyProof.Rows Bm

def top (i : Nat) : Stmt := PySem.Challenge.pw_betweenmaps_k03_declarations_judged.main.body.getD i (.Pass ⟨0, 0, 0, 0⟩)
abbrev s_is_name : Stmt := top 6
abbrev N_is_name : List Str := ["value", "sign"]
abbrev s_is_declaration : Stmt := top 7
abbrev N_is_declaration : List Str := ["value", "one"]
abbrev s_names_of : Stmt := top 8
abbrev N_names_of : List Str := ["declaration"]
abbrev s_uses_of : Stmt := top 9
abbrev N_uses_of : List Str := ["declaration"]
abbrev s_law_bag : Stmt := top 11
abbrev N_law_bag : List Str := ["_law_script", "_law_mixed", "_law_cell"]
abbrev s_law_draw : Stmt := top 12
abbrev N_law_draw : List Str := ["_law_bag_here", "_law_many", "_law_cell", "_law_digit", "_law_seed"]
abbrev s_law_of : Stmt := top 13
abbrev N_law_of : List Str := ["_law_bag_here", "_law_some"]
abbrev s_law_same : Stmt := top 14
abbrev N_law_same : List Str := ["_law_found", "_law_due", "_law_one", "_law_two"]
abbrev s_law_is_name : Stmt := top 15
abbrev N_law_is_name : List Str := ["_law_value_y", "_law_sign"]
abbrev s_law_names : Stmt := top 16
abbrev N_law_names : List Str := ["_law_bag_here", "_law_many", "_law_letters", "_law_stem", "_law_spot", "_law_first", "_law_pace", "_law_found", "_law_k", "_law_name"]
abbrev s_law_odd_name : Stmt := top 17
abbrev N_law_odd_name : List Str := ["_law_bag_here"]
abbrev s_law : Stmt := top 18
abbrev N_law : List Str := ["_law_script", "_law_bag_here", "_law_sizes", "_law_word", "_law_many", "_law_own", "_law_names_here", "_law_good", "_law_spot", "_law_bad", "_law_told", "_law_odd", "_law_k", "_law_one"]
def c_BARRED : T := (.tup [(.str "top"), (.str "bottom")])
def c_DECLARED : List (Str × T) := [("sort", (.int 1)), ("pair", (.int 2)), ("swap", (.int 2)), ("step", (.int 1)), ("drop", (.int 1)), ("closure", (.int 1)), ("interior", (.int 1)), ("item", (.int 1)), ("below", (.int 0))]
def c_LETTERS : T := (.str "abcdefghijklmnopqrstuvwxyz")
def c_LONGEST : T := (.int 8)
def c_WORDS : List (Str × T) := [("sort", (.int 2)), ("pair", (.int 5)), ("swap", (.int 5)), ("step", (.int 4)), ("drop", (.int 4)), ("closure", (.int 3)), ("interior", (.int 3)), ("item", (.int 3)), ("below", (.int 3))]

def F_is_name : FS :=
  (sSeq (sIf (bOr (bNot (eB (eCB (gP (isiT tabB)) (aCons (eVar 0) (aCons (eC (.ty "str")) aNil))))) (bOr (bNot (eB (e3 (g2 leT) (g2 leT) (eC (.int 1)) (eCB gLen (aCons (eVar 0) aNil)) (eC c_LONGEST)))) (eB (e2 (g2 (inT false)) (eVar 0) (eC c_BARRED))))) (sRet (eC (.bl false))) sSkip)
  (sRet (eCB (gBls fun bs => bs.all id) (aCons (eLc (iS (eVar 0)) [1] (gNm 1) bYes (e2 (g2 (inT false)) (eVar 1) (eC c_LETTERS))) aNil))))
def f_is_name : List T → PR := runP 2 F_is_name
def F_is_declaration : FS :=
  (sSeq (sIf (bOr (bNot (eB (eCB (gP (isiT tabB)) (aCons (eVar 0) (aCons (eC (.ty "tuple")) aNil))))) (bOr (eB (e2 (g2 eqT) (eCB gLen (aCons (eVar 0) aNil)) (eC (.int 0)))) (bOr (bNot (eB (eCB (gP (isiT tabB)) (aCons (e2 gIx (eVar 0) (eC (.int 0))) (aCons (eC (.ty "str")) aNil))))) (eB (e1 (keyIn true c_WORDS) (e2 gIx (eVar 0) (eC (.int 0)))))))) (sRet (eC (.bl false))) sSkip)
  (sRet (eAnd (e2 (g2 eqT) (eCB gLen (aCons (eVar 0) aNil)) (e1 (keyAt c_WORDS) (e2 gIx (eVar 0) (eC (.int 0))))) (eCB (gBls fun bs => bs.all id) (aCons (eLc (iT (eSl (eVar 0) (oSome (eC (.int 1))) oNone)) [1] (gNm 1) bYes (eCall 1 f_is_name (aCons (eVar 1) aNil))) aNil)))))
def f_is_declaration : List T → PR := runP 2 F_is_declaration
def F_names_of : FS :=
  (sRet (eCB gListM (aCons (eSl (eVar 0) (oSome (eC (.int 1))) (oSome (e2 gAdd (eC (.int 1)) (e1 (keyAt c_DECLARED) (e2 gIx (eVar 0) (eC (.int 0))))))) aNil)))
def f_names_of : List T → PR := runP 1 F_names_of
def F_uses_of : FS :=
  (sRet (eCB gListM (aCons (eSl (eVar 0) (oSome (e2 gAdd (eC (.int 1)) (e1 (keyAt c_DECLARED) (e2 gIx (eVar 0) (eC (.int 0)))))) oNone) aNil)))
def f_uses_of : List T → PR := runP 1 F_uses_of
def F_law_bag : FS :=
  (sSeq (sSet 1 (eC (.int 12014)))
  (sSeq (sFor (iL (eSl (eVar 0) oNone (oSome (eC (.int 63))))) (gNm 2) (sSet 1 (e2 (g2 modT) (eCB gInt (aCons (e2 gAdd (e2 gAdd (e2 (g2 mulT) (eVar 1) (eC (.int 47563))) (e2 (g2 modT) (eCB gInt (aCons (eVar 2) aNil)) (eC (.int 2147480213)))) (eC (.int 31))) aNil)) (eC (.int 2147483549)))))
  (sRet (eLstM (aCons (eCB gList (aCons (eSl (eVar 0) oNone (oSome (eC (.int 63)))) aNil)) (aCons (eC (.int 0)) (aCons (eC (.int 0)) (aCons (eVar 1) (aCons (eC (.int 0)) aNil)))))))))
def f_law_bag : List T → PR := runP 3 F_law_bag
def F_law_draw : FS :=
  (sSeq (sAsg (e2 gAdd (e2 gIx (eVar 0) (eC (.int 4))) (eC (.int 1))) (gSubM (eVar 0) (eC (.int 4))))
  (sSeq (sIf (bAnd (eB (e2 (g2 eqT) (e2 gIx (eVar 0) (eC (.int 2))) (eC (.int 0)))) (eB (e2 (g2 ltT) (e2 gIx (eVar 0) (eC (.int 1))) (eCB gLen (aCons (e2 gIx (eVar 0) (eC (.int 0))) aNil))))) (sSeq (sSet 2 (e2 gIx (e2 gIx (eVar 0) (eC (.int 0))) (e2 gIx (eVar 0) (eC (.int 1)))))
  (sSeq (sAsg (e2 gAdd (e2 gIx (eVar 0) (eC (.int 1))) (eC (.int 1))) (gSubM (eVar 0) (eC (.int 1))))
  (sIf (eB (e2 (g2 geT) (eVar 2) (e2 (g2 powT) (eC (.int 10)) (eC (.int 18))))) (sAsg (eVar 2) (gSubM (eVar 0) (eC (.int 2)))) (sAsg (e2 (g2 modT) (eCB gInt (aCons (e2 gAdd (e2 gAdd (e2 (g2 mulT) (e2 gIx (eVar 0) (eC (.int 3))) (eC (.int 39133))) (e2 (g2 mulT) (e2 (g2 modT) (eCB gInt (aCons (eVar 2) aNil)) (eC (.int 2147480213))) (eC (.int 827)))) (eC (.int 59))) aNil)) (eC (.int 2147483563))) (gSubM (eVar 0) (eC (.int 3))))))) sSkip)
  (sSeq (sIf (eB (e2 (g2 gtT) (e2 gIx (eVar 0) (eC (.int 2))) (eC (.int 0)))) (sSeq (sSet 3 (e2 (g2 modT) (eCB gInt (aCons (e2 gIx (eVar 0) (eC (.int 2))) aNil)) (eVar 1)))
  (sSeq (sAsg (e2 (g2 divT) (e2 gIx (eVar 0) (eC (.int 2))) (eVar 1)) (gSubM (eVar 0) (eC (.int 2))))
  (sRet (eVar 3)))) sSkip)
  (sSeq (sSet 4 (eCB gInt (aCons (e2 gIx (eVar 0) (eC (.int 3))) aNil)))
  (sSeq (sAsg (e2 (g2 modT) (eCB gInt (aCons (e2 gAdd (e2 gAdd (e2 gAdd (e2 (g2 powT) (eVar 4) (eC (.int 3))) (e2 (g2 mulT) (eVar 4) (eC (.int 28663)))) (e2 (g2 mulT) (e2 gIx (eVar 0) (eC (.int 4))) (eC (.int 1299743)))) (eC (.int 60017))) aNil)) (eC (.int 2147483563))) (gSubM (eVar 0) (eC (.int 3))))
  (sRet (e2 (g2 modT) (eCB gInt (aCons (e2 gAdd (e2 (g2 divT) (e2 gIx (eVar 0) (eC (.int 3))) (eC (.int 71))) (e2 (g2 mulT) (e2 (g2 modT) (eCB gInt (aCons (e2 gIx (eVar 0) (eC (.int 3))) aNil)) (eC (.int 7907))) (eC (.int 61)))) aNil)) (eVar 1))))))))
def f_law_draw : List T → List T → BR := runB 5 F_law_draw
def F_law_of : FS :=
  (sRet (e2 gIx (eVar 1) (eCallB 2 f_law_draw (aCons (eVar 0) (aCons (eCB gLen (aCons (eVar 1) aNil)) aNil)))))
def f_law_of : List T → List T → BR := runB 2 F_law_of
def F_law_same (self : List T → PR) : FS :=
  (sSeq (sIf (bOr (eB (e2 (g2 isN) (eVar 1) (eC .non))) (eB (e2 (g2 isN) (eVar 0) (eC .non)))) (sRet (eAnd (e2 (g2 isN) (eVar 1) (eC .non)) (e2 (g2 isN) (eVar 0) (eC .non)))) sSkip)
  (sSeq (sIf (eB (eCB (gP (isiT tabB)) (aCons (eVar 1) (aCons (eTup (aCons (eC (.ty "list")) (aCons (eC (.ty "tuple")) aNil))) aNil)))) (sSeq (sIf (bOr (eB (e2 (g2 neT) (eCB (gP (isiT tabB)) (aCons (eVar 0) (aCons (eC (.ty "list")) aNil))) (eCB (gP (isiT tabB)) (aCons (eVar 1) (aCons (eC (.ty "list")) aNil))))) (eB (e2 (g2 neT) (eCB (gP (isiT tabB)) (aCons (eVar 0) (aCons (eC (.ty "tuple")) aNil))) (eCB (gP (isiT tabB)) (aCons (eVar 1) (aCons (eC (.ty "tuple")) aNil)))))) (sRet (eC (.bl false))) sSkip)
  (sRet (eAnd (e2 (g2 eqT) (eCB gLen (aCons (eVar 0) aNil)) (eCB gLen (aCons (eVar 1) aNil))) (eCB (gBls fun bs => bs.all id) (aCons (eLc (iZ (aCons (eVar 0) (aCons (eVar 1) aNil))) [2, 3] (gTp 2 (gsCons (gNm 2) (gsCons (gNm 3) gsNil))) bYes (eCall 2 self (aCons (eVar 2) (aCons (eVar 3) aNil)))) aNil))))) sSkip)
  (sSeq (sIf (bOr (eB (e2 (g2 neT) (eCB (gP (isiT tabB)) (aCons (eVar 0) (aCons (eC (.ty "bool")) aNil))) (eCB (gP (isiT tabB)) (aCons (eVar 1) (aCons (eC (.ty "bool")) aNil))))) (eB (e2 (g2 neT) (eCB (gP (isiT tabB)) (aCons (eVar 0) (aCons (eC (.ty "int")) aNil))) (eCB (gP (isiT tabB)) (aCons (eVar 1) (aCons (eC (.ty "int")) aNil)))))) (sRet (eC (.bl false))) sSkip)
  (sRet (eAnd (e2 (g2 eqT) (eCB (gP (isiT tabB)) (aCons (eVar 0) (aCons (eC (.ty "str")) aNil))) (eCB (gP (isiT tabB)) (aCons (eVar 1) (aCons (eC (.ty "str")) aNil)))) (e2 (g2 eqT) (eVar 0) (eVar 1)))))))
def f_law_same : Nat → List T → PR
  | 0 => fun _ => .fail
  | n + 1 => runP 4 (F_law_same (f_law_same n))
def F_law_is_name : FS :=
  (sSeq (sIf (bOr (bNot (eB (eCB (gP (isiT tabB)) (aCons (eVar 0) (aCons (eC (.ty "str")) aNil))))) (bOr (bNot (eB (e3 (g2 leT) (g2 leT) (eC (.int 1)) (eCB gLen (aCons (eVar 0) aNil)) (eC (.int 8))))) (eB (e2 (g2 (inT false)) (eVar 0) (eTup (aCons (eC (.str "top")) (aCons (eC (.str "bottom")) aNil))))))) (sRet (eC (.bl false))) sSkip)
  (sRet (eCB (gBls fun bs => bs.all id) (aCons (eLc (iS (eVar 0)) [1] (gNm 1) bYes (e2 (g2 (inT false)) (eVar 1) (eC (.str "abcdefghijklmnopqrstuvwxyz")))) aNil))))
def f_law_is_name : List T → PR := runP 2 F_law_is_name
def F_law_names : FS :=
  (sSeq (sSet 2 (eC (.str "abcdefghijklmnopqrstuvwxyz")))
  (sSeq (sSet 3 (eBM isStrD gJoin (eC (.str "")) (aCons (eLc (iR1 (aCons (eCallB 2 f_law_draw (aCons (eVar 0) (aCons (eC (.int 6)) aNil))) aNil)) [8] (gNm 8) bYes (eCallB 2 f_law_of (aCons (eVar 0) (aCons (eVar 2) aNil)))) aNil)))
  (sSeq (sAsg (eTup (aCons (eCallB 2 f_law_draw (aCons (eVar 0) (aCons (e2 gAdd (eCB gLen (aCons (eVar 3) aNil)) (eC (.int 1))) aNil))) (aCons (eCallB 2 f_law_draw (aCons (eVar 0) (aCons (eC (.int 26)) aNil))) (aCons (eCallB 2 f_law_of (aCons (eVar 0) (aCons (eLst (aCons (eC (.int 1)) (aCons (eC (.int 3)) (aCons (eC (.int 5)) (aCons (eC (.int 7)) (aCons (eC (.int 9)) (aCons (eC (.int 11)) (aCons (eC (.int 15)) (aCons (eC (.int 17)) aNil))))))))) aNil))) aNil)))) (gTp 3 (gsCons (gNm 4) (gsCons (gNm 5) (gsCons (gNm 6) gsNil)))))
  (sSeq (sSet 7 (eLc (iR1 (aCons (e2 gAdd (eVar 1) (eC (.int 1))) aNil)) [8] (gNm 8) bYes (e2 gAdd (e2 gAdd (eSl (eVar 3) oNone (oSome (eVar 4))) (e2 gIx (eVar 2) (e2 (g2 modT) (eCB gInt (aCons (e2 gAdd (eVar 5) (e2 (g2 mulT) (eVar 6) (eVar 8))) aNil)) (eC (.int 26))))) (eSl (eVar 3) (oSome (eVar 4)) oNone))))
  (sRet (eSl (eLc (iL (eVar 7)) [9] (gNm 9) (eB (eCall 1 f_law_is_name (aCons (eVar 9) aNil))) (eVar 9)) oNone (oSome (eVar 1))))))))
def f_law_names : List T → List T → BR := runB 10 F_law_names
def F_law_odd_name : FS :=
  (sRet (eCallB 2 f_law_of (aCons (eVar 0) (aCons (eLst (aCons (eC (.str "top")) (aCons (eC (.str "bottom")) (aCons (eC (.str "")) (aCons (eC (.str "A")) (aCons (eC (.str "a b")) (aCons (eC (.str "abcdefghi")) (aCons (eC (.str "a1")) (aCons (eC (.str "c<")) (aCons (eC .non) (aCons (eC (.int 3)) (aCons (eC (.bl true)) (aCons (eTup (aCons (eC (.str "a")) aNil)) (aCons (eLst (aCons (eC (.str "a")) aNil)) (aCons (eC (.str " a")) aNil))))))))))))))) aNil))))
def f_law_odd_name : List T → List T → BR := runB 1 F_law_odd_name
def F_law : FS :=
  (sSeq (sSet 1 (eCallM 1 f_law_bag (aCons (eVar 0) aNil)))
  (sSeq (sSet 2 (eLst (aCons (eTup (aCons (eC (.str "sort")) (aCons (eC (.int 1)) (aCons (eC (.int 1)) aNil)))) (aCons (eTup (aCons (eC (.str "pair")) (aCons (eC (.int 4)) (aCons (eC (.int 2)) aNil)))) (aCons (eTup (aCons (eC (.str "swap")) (aCons (eC (.int 4)) (aCons (eC (.int 2)) aNil)))) (aCons (eTup (aCons (eC (.str "step")) (aCons (eC (.int 3)) (aCons (eC (.int 1)) aNil)))) (aCons (eTup (aCons (eC (.str "drop")) (aCons (eC (.int 3)) (aCons (eC (.int 1)) aNil)))) (aCons (eTup (aCons (eC (.str "closure")) (aCons (eC (.int 2)) (aCons (eC (.int 1)) aNil)))) (aCons (eTup (aCons (eC (.str "interior")) (aCons (eC (.int 2)) (aCons (eC (.int 1)) aNil)))) (aCons (eTup (aCons (eC (.str "item")) (aCons (eC (.int 2)) (aCons (eC (.int 1)) aNil)))) (aCons (eTup (aCons (eC (.str "below")) (aCons (eC (.int 2)) (aCons (eC (.int 0)) aNil)))) aNil)))))))))))
  (sSeq (sFor (iL (eVar 2)) (gTp 3 (gsCons (gNm 3) (gsCons (gNm 4) (gsCons (gNm 5) gsNil)))) (sSeq (sSet 6 (eLc (iR1 (aCons (eVar 4) aNil)) [12] (gNm 12) bYes (eCallB 2 f_law_of (aCons (eVar 1) (aCons (eCallB 2 f_law_names (aCons (eVar 1) (aCons (eC (.int 3)) aNil))) aNil)))))
  (sSeq (sSet 7 (e2 gAdd (eTup (aCons (eVar 3) aNil)) (eCB gTuple (aCons (eVar 6) aNil))))
  (sSeq (sSet 8 (e2 gAdd (eC (.int 1)) (eCallB 2 f_law_draw (aCons (eVar 1) (aCons (eVar 4) aNil)))))
  (sSeq (sSet 9 (eLst (aCons (e2 gAdd (e2 gAdd (eSl (eVar 7) oNone (oSome (eVar 8))) (eTup (aCons (eCallB 1 f_law_odd_name (aCons (eVar 1) aNil)) aNil))) (eSl (eVar 7) (oSome (e2 gAdd (eVar 8) (eC (.int 1)))) oNone)) (aCons (e2 gAdd (eVar 7) (eTup (aCons (e2 gIx (eVar 6) (eC (.int 0))) aNil))) (aCons (eSl (eVar 7) oNone (oSome (eVar 4))) (aCons (eCB gList (aCons (eVar 7) aNil)) (aCons (e2 gAdd (eTup (aCons (e2 gAdd (eVar 3) (eC (.str "s"))) aNil)) (eSl (eVar 7) (oSome (eC (.int 1))) oNone)) (aCons (e2 gAdd (eTup (aCons (eC (.bl true)) aNil)) (eSl (eVar 7) (oSome (eC (.int 1))) oNone)) aNil))))))))
  (sSeq (sIf (bOr (eB (e2 (g2 isnotBT) (eCallK 1 f_is_declaration [0] (aCons (eVar 7) aNil)) (eC (.bl true)))) (eB (eCB (gBls fun bs => bs.any id) (aCons (eLc (iL (eVar 9)) [13] (gNm 13) bYes (eCall 1 f_is_declaration (aCons (eVar 13) aNil))) aNil)))) (sRet (eC (.bl false))) sSkip)
  (sSeq (sIf (bNot (eB (eCall 2 (f_law_same 12) (aCons (eLst (aCons (eCall 1 f_names_of (aCons (eVar 7) aNil)) (aCons (eCallK 1 f_uses_of [0] (aCons (eVar 7) aNil)) aNil))) (aCons (eLst (aCons (eSl (eVar 6) oNone (oSome (eVar 5))) (aCons (eSl (eVar 6) (oSome (eVar 5)) oNone) aNil))) aNil))))) (sRet (eC (.bl false))) sSkip)
  (sSeq (sExpr (eBM isLst gAppend (eCallM 1 f_names_of (aCons (eVar 7) aNil)) (aCons (eC (.str "x")) aNil)))
  (sSeq (sSet 10 (eCallM 1 f_uses_of (aCons (eVar 7) aNil)))
  (sSeq (sExpr (eBM0 isLst gClear (eVar 10)))
  (sIf (bNot (eB (eCall 2 (f_law_same 12) (aCons (eLst (aCons (eCallK 1 f_names_of [0] (aCons (eVar 7) aNil)) (aCons (eCall 1 f_uses_of (aCons (eVar 7) aNil)) aNil))) (aCons (eLst (aCons (eSl (eVar 6) oNone (oSome (eVar 5))) (aCons (eSl (eVar 6) (oSome (eVar 5)) oNone) aNil))) aNil))))) (sRet (eC (.bl false))) sSkip)))))))))))
  (sSeq (sSet 11 (eLst (aCons (eC .non) (aCons (eC (.int 3)) (aCons (eC (.str "sort")) (aCons (eTup aNil) (aCons (eTup (aCons (eC (.str "sort")) aNil)) (aCons (eLst aNil) (aCons (eTup (aCons (eTup (aCons (eC (.str "sort")) (aCons (eC (.str "a")) aNil))) aNil)) (aCons (eTup (aCons (eC (.str "top")) (aCons (eC (.str "a")) aNil))) (aCons (eTup (aCons (eC (.str "sort")) (aCons (eTup (aCons (eC (.str "a")) aNil)) aNil))) (aCons (eTup (aCons (eLst (aCons (eC (.str "sort")) aNil)) (aCons (eC (.str "a")) aNil))) (aCons (eCallB 1 f_law_odd_name (aCons (eVar 1) aNil)) aNil)))))))))))))
  (sRet (eNot (eCB (gBls fun bs => bs.any id) (aCons (eLc (iL (eVar 11)) [13] (gNm 13) bYes (eCall 1 f_is_declaration (aCons (eVar 13) aNil))) aNil))))))))
def f_law : List T → PR := runP 14 F_law

structure Txt (K : PySem.W.Frag) (mg : Str → Option Value) (w : World) where
  d_is_name : DefAt K mg "is_name" s_is_name ["value"]
  d_is_declaration : DefAt K mg "is_declaration" s_is_declaration ["value"]
  d_names_of : DefAt K mg "names_of" s_names_of ["declaration"]
  d_uses_of : DefAt K mg "uses_of" s_uses_of ["declaration"]
  d_law_bag : DefAt K mg "_law_bag" s_law_bag ["_law_script"]
  d_law_draw : DefAt K mg "_law_draw" s_law_draw ["_law_bag_here", "_law_many"]
  d_law_of : DefAt K mg "_law_of" s_law_of ["_law_bag_here", "_law_some"]
  d_law_same : DefAt K mg "_law_same" s_law_same ["_law_found", "_law_due"]
  d_law_is_name : DefAt K mg "_law_is_name" s_law_is_name ["_law_value_y"]
  d_law_names : DefAt K mg "_law_names" s_law_names ["_law_bag_here", "_law_many"]
  d_law_odd_name : DefAt K mg "_law_odd_name" s_law_odd_name ["_law_bag_here"]
  d_law : DefAt K mg "law" s_law ["_law_script"]
  b_is_declaration_value : ∀ (s : Shared) (ws : List Value), K.In s.heap → ws.length = 1 → BindsTo s d_is_declaration.fd ⟨[], (["value"] : List Str).zip ws⟩ ((["value"] : List Str).zip (perm [0] ws))
  b_uses_of_declaration : ∀ (s : Shared) (ws : List Value), K.In s.heap → ws.length = 1 → BindsTo s d_uses_of.fd ⟨[], (["declaration"] : List Str).zip ws⟩ ((["declaration"] : List Str).zip (perm [0] ws))
  b_names_of_declaration : ∀ (s : Shared) (ws : List Value), K.In s.heap → ws.length = 1 → BindsTo s d_names_of.fd ⟨[], (["declaration"] : List Str).zip ws⟩ ((["declaration"] : List Str).zip (perm [0] ws))
  n_all : mg "all" = none
  n_any : mg "any" = none
  n_bool : mg "bool" = none
  n_int : mg "int" = none
  n_isinstance : mg "isinstance" = none
  n_len : mg "len" = none
  n_list : mg "list" = none
  n_range : mg "range" = none
  n_str : mg "str" = none
  n_tuple : mg "tuple" = none
  n_zip : mg "zip" = none
  c_BARRED : GlobAt K mg "BARRED" c_BARRED
  c_DECLARED : GlobDict K mg w "DECLARED" c_DECLARED
  c_LETTERS : GlobAt K mg "LETTERS" c_LETTERS
  c_LONGEST : GlobAt K mg "LONGEST" c_LONGEST
  c_WORDS : GlobDict K mg w "WORDS" c_WORDS

theorem sc_is_name : FnScope N_is_name ["value"] (defScope s_is_name) := ⟨rfl, rfl, rfl, by decide +kernel, rfl, by decide +kernel, by decide +kernel⟩
theorem sc_is_declaration : FnScope N_is_declaration ["value"] (defScope s_is_declaration) := ⟨rfl, rfl, rfl, by decide +kernel, rfl, by decide +kernel, by decide +kernel⟩
theorem sc_names_of : FnScope N_names_of ["declaration"] (defScope s_names_of) := ⟨rfl, rfl, rfl, by decide +kernel, rfl, by decide +kernel, by decide +kernel⟩
theorem sc_uses_of : FnScope N_uses_of ["declaration"] (defScope s_uses_of) := ⟨rfl, rfl, rfl, by decide +kernel, rfl, by decide +kernel, by decide +kernel⟩
theorem sc_law_bag : FnScope N_law_bag ["_law_script"] (defScope s_law_bag) := ⟨rfl, rfl, rfl, by decide +kernel, rfl, by decide +kernel, by decide +kernel⟩
theorem sc_law_draw : FnScope N_law_draw ["_law_bag_here", "_law_many"] (defScope s_law_draw) := ⟨rfl, rfl, rfl, by decide +kernel, rfl, by decide +kernel, by decide +kernel⟩
theorem sc_law_of : FnScope N_law_of ["_law_bag_here", "_law_some"] (defScope s_law_of) := ⟨rfl, rfl, rfl, by decide +kernel, rfl, by decide +kernel, by decide +kernel⟩
theorem sc_law_same : FnScope N_law_same ["_law_found", "_law_due"] (defScope s_law_same) := ⟨rfl, rfl, rfl, by decide +kernel, rfl, by decide +kernel, by decide +kernel⟩
theorem sc_law_is_name : FnScope N_law_is_name ["_law_value_y"] (defScope s_law_is_name) := ⟨rfl, rfl, rfl, by decide +kernel, rfl, by decide +kernel, by decide +kernel⟩
theorem sc_law_names : FnScope N_law_names ["_law_bag_here", "_law_many"] (defScope s_law_names) := ⟨rfl, rfl, rfl, by decide +kernel, rfl, by decide +kernel, by decide +kernel⟩
theorem sc_law_odd_name : FnScope N_law_odd_name ["_law_bag_here"] (defScope s_law_odd_name) := ⟨rfl, rfl, rfl, by decide +kernel, rfl, by decide +kernel, by decide +kernel⟩
theorem sc_law : FnScope N_law ["_law_script"] (defScope s_law) := ⟨rfl, rfl, rfl, by decide +kernel, rfl, by decide +kernel, by decide +kernel⟩
section
variable {P : Program} {w : World} {K : PySem.W.Frag} {mg : Str → Option Value} {base : Heap}
theorem ok_is_name (Z : Txt K mg w) : FnOk P w K mg base (L2.CX P w) 1 Z.d_is_name.f Z.d_is_name.fd ["value"] (spP K (cmOf mg) 1 f_is_name) :=
  fn_P (k := 0) Z.d_is_name.F sc_is_name rfl rfl fun cdv A outer s H E hr =>
  (dss_cons (ds_if (dt_w (dw_or (dt_not (dt_val (de_isi tabB_ok rfl Z.n_isinstance (da_cons (de_var 0) (da_cons (de_ty rfl Z.n_str Bm.boot_str) da_nil))))) (dw_or (dt_not (dt_chain op_le op_le (top_I0 fun _ _ _ => rep_bl).d (top_I0 fun _ _ _ => rep_bl).d de_int (de_len rfl Z.n_len (da_cons (de_var 0) da_nil)) (de_gl rfl Z.c_LONGEST))) (dw_or1 (dt_cmp op_inA top_in.d (de_var 0) (de_gl rfl Z.c_BARRED) (by with_unfolding_all rfl)))))) (dss_one (ds_ret de_bl)) dss_nil)
  (dss_one (ds_ret (de_all rfl rfl Z.n_all (da_cons (de_lc (own := [("sign", 1)]) rfl sc_is_name.nd (di_str (de_var 0)) (blkOk_by (N := N_is_name) (sc := defScope s_is_name) (by decide +kernel)) (by decide) (fun _ _ _ _ _ => (dg_name sc_is_name.nd rfl (by first | exact .inl rfl | exact .inr rfl))) (fun _ _ _ _ _ => dts_nil) (fun _ _ _ _ _ => (de_cmp op_inA top_in.d (de_var 1) (de_gl rfl Z.c_LETTERS) (by with_unfolding_all rfl)))) da_nil)))))
theorem ok_is_declaration (Z : Txt K mg w) : FnOk P w K mg base (L2.CX P w) 2 Z.d_is_declaration.f Z.d_is_declaration.fd ["value"] (spP K (cmOf mg) 1 f_is_declaration) :=
  fn_P (k := 1) Z.d_is_declaration.F sc_is_declaration rfl rfl fun cdv A outer s H E hr =>
  (dss_cons (ds_if (dt_w (dw_or (dt_not (dt_val (de_isi tabB_ok rfl Z.n_isinstance (da_cons (de_var 0) (da_cons (de_ty rfl Z.n_tuple Bm.boot_tuple) da_nil))))) (dw_or (dt_cmp (op_eqA hr.units) top_eq.d (de_len rfl Z.n_len (da_cons (de_var 0) da_nil)) de_int (nomark _)) (dw_or (dt_not (dt_val (de_isi tabB_ok rfl Z.n_isinstance (da_cons (de_ix (de_var 0) de_int (fun _ _ => rfl)) (da_cons (de_ty rfl Z.n_str Bm.boot_str) da_nil))))) (dw_or1 (dt_notInD Z.c_WORDS rfl (de_ix (de_var 0) de_int (fun _ _ => rfl)) (by with_unfolding_all rfl))))))) (dss_one (ds_ret de_bl)) dss_nil)
  (dss_one (ds_ret (de_and (de_cmp (op_eqA hr.units) top_eq.d (de_len rfl Z.n_len (da_cons (de_var 0) da_nil)) (de_ixD Z.c_WORDS rfl (de_ix (de_var 0) de_int (fun _ _ => rfl)) (fun _ _ => rfl)) (nomark _)) (de_one (de_all rfl rfl Z.n_all (da_cons (de_lc (own := [("one", 1)]) rfl sc_is_declaration.nd (di_tup (de_sl (de_var 0) (do_some de_int) do_none)) (blkOk_by (N := N_is_declaration) (sc := defScope s_is_declaration) (by decide +kernel)) (by decide) (fun _ _ _ _ _ => (dg_name sc_is_declaration.nd rfl (by first | exact .inl rfl | exact .inr rfl))) (fun _ _ _ _ _ => dts_nil) (fun _ _ _ _ _ => (de_call (ok_is_name Z) (hr.mono (by decide)) rfl Z.d_is_name.m Z.d_is_name.F.kp Z.d_is_name.b lets_blk (da_cons (de_var 1) da_nil)))) da_nil)))))))
theorem ok_names_of (Z : Txt K mg w) : FnOk P w K mg base (L2.CX P w) 1 Z.d_names_of.f Z.d_names_of.fd ["declaration"] (spP K (cmOf mg) 1 f_names_of) :=
  fn_P (k := 0) Z.d_names_of.F sc_names_of rfl rfl fun cdv A outer s H E hr =>
  (dss_one (ds_ret (de_listM rfl Z.n_list (da_cons (de_sl (de_var 0) (do_some de_int) (do_some (de_plus de_int (de_ixD Z.c_DECLARED rfl (de_ix (de_var 0) de_int (fun _ _ => rfl)) (fun _ _ => rfl))))) da_nil))))
theorem ok_uses_of (Z : Txt K mg w) : FnOk P w K mg base (L2.CX P w) 1 Z.d_uses_of.f Z.d_uses_of.fd ["declaration"] (spP K (cmOf mg) 1 f_uses_of) :=
  fn_P (k := 0) Z.d_uses_of.F sc_uses_of rfl rfl fun cdv A outer s H E hr =>
  (dss_one (ds_ret (de_listM rfl Z.n_list (da_cons (de_sl (de_var 0) (do_some (de_plus de_int (de_ixD Z.c_DECLARED rfl (de_ix (de_var 0) de_int (fun _ _ => rfl)) (fun _ _ => rfl)))) do_none) da_nil))))
theorem ok_law_bag (Z : Txt K mg w) : FnOk P w K mg base (L2.CX P w) 1 Z.d_law_bag.f Z.d_law_bag.fd ["_law_script"] (spP K (cmOf mg) 1 f_law_bag) :=
  fn_P (k := 0) Z.d_law_bag.F sc_law_bag rfl rfl fun cdv A outer s H E hr =>
  (dss_cons (ds_set (i := 1) sc_law_bag.nd rfl (by first | exact .inl rfl | exact .inr rfl) de_int)
  (dss_cons (ds_for (passes_of rfl) rfl (di_list (de_sl (de_var 0) do_none (do_some de_int))) (dg_name sc_law_bag.nd rfl (by first | exact .inl rfl | exact .inr rfl)) (dss_one (ds_set (i := 1) sc_law_bag.nd rfl (by first | exact .inl rfl | exact .inr rfl) (de_mod (de_intc rfl Z.n_int (da_cons (de_plus (de_plus (de_mul (de_var 1) de_int) (de_mod (de_intc rfl Z.n_int (da_cons (de_var 2) da_nil)) de_int)) de_int) da_nil)) de_int))))
  (dss_one (ds_ret (de_lstM (da_cons (de_list rfl Z.n_list (da_cons (de_sl (de_var 0) do_none (do_some de_int)) da_nil)) (da_cons de_int (da_cons de_int (da_cons (de_var 1) (da_cons de_int da_nil))))))))))
theorem ok_law_draw (Z : Txt K mg w) : FnOk P w K mg base (L2.CX P w) 1 Z.d_law_draw.f Z.d_law_draw.fd ["_law_bag_here", "_law_many"] (spB K (cmOf mg) 2 f_law_draw) :=
  fn_B (k := 0) Z.d_law_draw.F sc_law_draw rfl rfl fun cdv A outer s H E hr =>
  (dss_cons (ds_asg (de_plus (de_ix (de_var 0) de_int (fun _ _ => rfl)) de_int) (dg_subM (de_var 0) de_int))
  (dss_cons (ds_if (dt_w (dw_and (dt_cmp (op_eqA hr.units) top_eq.d (de_ix (de_var 0) de_int (fun _ _ => rfl)) de_int (nomark _)) (dw_and1 (dt_cmp op_lt (top_I0 fun _ _ _ => rep_bl).d (de_ix (de_var 0) de_int (fun _ _ => rfl)) (de_len rfl Z.n_len (da_cons (de_ix (de_var 0) de_int (fun _ _ => rfl)) da_nil)) (nomark _))))) (dss_cons (ds_set (i := 2) sc_law_draw.nd rfl (by first | exact .inl rfl | exact .inr rfl) (de_ix (de_ix (de_var 0) de_int (fun _ _ => rfl)) (de_ix (de_var 0) de_int (fun _ _ => rfl)) (fun _ _ => rfl)))
  (dss_cons (ds_asg (de_plus (de_ix (de_var 0) de_int (fun _ _ => rfl)) de_int) (dg_subM (de_var 0) de_int))
  (dss_one (ds_if (dt_cmp op_ge (top_I0 fun _ _ _ => rep_bl).d (de_var 2) (de_pow de_int de_int) (nomark _)) (dss_one (ds_asg (de_var 2) (dg_subM (de_var 0) de_int))) (dss_one (ds_asg (de_mod (de_intc rfl Z.n_int (da_cons (de_plus (de_plus (de_mul (de_ix (de_var 0) de_int (fun _ _ => rfl)) de_int) (de_mul (de_mod (de_intc rfl Z.n_int (da_cons (de_var 2) da_nil)) de_int) de_int)) de_int) da_nil)) de_int) (dg_subM (de_var 0) de_int))))))) dss_nil)
  (dss_cons (ds_if (dt_cmp op_gt (top_I0 fun _ _ _ => rep_bl).d (de_ix (de_var 0) de_int (fun _ _ => rfl)) de_int (nomark _)) (dss_cons (ds_set (i := 3) sc_law_draw.nd rfl (by first | exact .inl rfl | exact .inr rfl) (de_mod (de_intc rfl Z.n_int (da_cons (de_ix (de_var 0) de_int (fun _ _ => rfl)) da_nil)) (de_var 1)))
  (dss_cons (ds_asg (de_fdiv (de_ix (de_var 0) de_int (fun _ _ => rfl)) (de_var 1)) (dg_subM (de_var 0) de_int))
  (dss_one (ds_ret (de_var 3))))) dss_nil)
  (dss_cons (ds_set (i := 4) sc_law_draw.nd rfl (by first | exact .inl rfl | exact .inr rfl) (de_intc rfl Z.n_int (da_cons (de_ix (de_var 0) de_int (fun _ _ => rfl)) da_nil)))
  (dss_cons (ds_asg (de_mod (de_intc rfl Z.n_int (da_cons (de_plus (de_plus (de_plus (de_pow (de_var 4) de_int) (de_mul (de_var 4) de_int)) (de_mul (de_ix (de_var 0) de_int (fun _ _ => rfl)) de_int)) de_int) da_nil)) de_int) (dg_subM (de_var 0) de_int))
  (dss_one (ds_ret (de_mod (de_intc rfl Z.n_int (da_cons (de_plus (de_fdiv (de_ix (de_var 0) de_int (fun _ _ => rfl)) de_int) (de_mul (de_mod (de_intc rfl Z.n_int (da_cons (de_ix (de_var 0) de_int (fun _ _ => rfl)) da_nil)) de_int) de_int)) da_nil)) (de_var 1)))))))))
theorem ok_law_of (Z : Txt K mg w) : FnOk P w K mg base (L2.CX P w) 2 Z.d_law_of.f Z.d_law_of.fd ["_law_bag_here", "_law_some"] (spB K (cmOf mg) 2 f_law_of) :=
  fn_B (k := 1) Z.d_law_of.F sc_law_of rfl rfl fun cdv A outer s H E hr =>
  (dss_one (ds_ret (de_ix (de_var 1) (de_callBag (ok_law_draw Z) (hr.mono (by decide)) rfl Z.d_law_draw.m Z.d_law_draw.F.kp Z.d_law_draw.b (lets_of (takes_of rfl rfl rfl rfl)) (da_cons (de_var 0) (da_cons (de_len rfl Z.n_len (da_cons (de_var 1) da_nil)) da_nil))) (fun _ _ => rfl))))
theorem ok_law_same (Z : Txt K mg w) : ∀ n, FnOk P w K mg base (L2.CX P w) (1 + n) Z.d_law_same.f Z.d_law_same.fd ["_law_found", "_law_due"] (spP K (cmOf mg) 2 (f_law_same n))
  | 0 => fn_P_fail rfl
  | n + 1 => by
    have ih := ok_law_same Z n
    exact fn_P (k := 1 + n) Z.d_law_same.F sc_law_same rfl rfl fun cdv A outer s H E hr =>
  (dss_cons (ds_if (dt_w (dw_or (dt_cmp op_isN top_isN.d (de_var 1) de_non (nomark _)) (dw_or1 (dt_cmp op_isN top_isN.d (de_var 0) de_non (nomark _))))) (dss_one (ds_ret (de_and (de_cmp op_isN top_isN.d (de_var 1) de_non (nomark _)) (de_one (de_cmp op_isN top_isN.d (de_var 0) de_non (nomark _)))))) dss_nil)
  (dss_cons (ds_if (dt_val (de_isi tabB_ok rfl Z.n_isinstance (da_cons (de_var 1) (da_cons (de_tup (da_cons (de_ty rfl Z.n_list Bm.boot_list) (da_cons (de_ty rfl Z.n_tuple Bm.boot_tuple) da_nil))) da_nil)))) (dss_cons (ds_if (dt_w (dw_or (dt_cmp (op_neA hr.units) top_ne.d (de_isi tabB_ok rfl Z.n_isinstance (da_cons (de_var 0) (da_cons (de_ty rfl Z.n_list Bm.boot_list) da_nil))) (de_isi tabB_ok rfl Z.n_isinstance (da_cons (de_var 1) (da_cons (de_ty rfl Z.n_list Bm.boot_list) da_nil))) (nomark _)) (dw_or1 (dt_cmp (op_neA hr.units) top_ne.d (de_isi tabB_ok rfl Z.n_isinstance (da_cons (de_var 0) (da_cons (de_ty rfl Z.n_tuple Bm.boot_tuple) da_nil))) (de_isi tabB_ok rfl Z.n_isinstance (da_cons (de_var 1) (da_cons (de_ty rfl Z.n_tuple Bm.boot_tuple) da_nil))) (nomark _))))) (dss_one (ds_ret de_bl)) dss_nil)
  (dss_one (ds_ret (de_and (de_cmp (op_eqA hr.units) top_eq.d (de_len rfl Z.n_len (da_cons (de_var 0) da_nil)) (de_len rfl Z.n_len (da_cons (de_var 1) da_nil)) (nomark _)) (de_one (de_all rfl rfl Z.n_all (da_cons (de_lc (own := [("_law_one", 2), ("_law_two", 3)]) rfl sc_law_same.nd (di_zip rfl Z.n_zip (da_cons (de_var 0) (da_cons (de_var 1) da_nil))) (blkOk_by (N := N_law_same) (sc := defScope s_law_same) (by decide +kernel)) (by decide) (fun _ _ _ _ _ => (dg_tup rfl (dgs_cons (dg_name sc_law_same.nd rfl (by first | exact .inl rfl | exact .inr rfl)) (dgs_cons (dg_name sc_law_same.nd rfl (by first | exact .inl rfl | exact .inr rfl)) dgs_nil)))) (fun _ _ _ _ _ => dts_nil) (fun _ _ _ _ _ => (de_call (ih) hr rfl Z.d_law_same.m Z.d_law_same.F.kp Z.d_law_same.b lets_blk (da_cons (de_var 2) (da_cons (de_var 3) da_nil))))) da_nil))))))) dss_nil)
  (dss_cons (ds_if (dt_w (dw_or (dt_cmp (op_neA hr.units) top_ne.d (de_isi tabB_ok rfl Z.n_isinstance (da_cons (de_var 0) (da_cons (de_ty rfl Z.n_bool Bm.boot_bool) da_nil))) (de_isi tabB_ok rfl Z.n_isinstance (da_cons (de_var 1) (da_cons (de_ty rfl Z.n_bool Bm.boot_bool) da_nil))) (nomark _)) (dw_or1 (dt_cmp (op_neA hr.units) top_ne.d (de_isi tabB_ok rfl Z.n_isinstance (da_cons (de_var 0) (da_cons (de_ty rfl Z.n_int Bm.boot_int) da_nil))) (de_isi tabB_ok rfl Z.n_isinstance (da_cons (de_var 1) (da_cons (de_ty rfl Z.n_int Bm.boot_int) da_nil))) (nomark _))))) (dss_one (ds_ret de_bl)) dss_nil)
  (dss_one (ds_ret (de_and (de_cmp (op_eqA hr.units) top_eq.d (de_isi tabB_ok rfl Z.n_isinstance (da_cons (de_var 0) (da_cons (de_ty rfl Z.n_str Bm.boot_str) da_nil))) (de_isi tabB_ok rfl Z.n_isinstance (da_cons (de_var 1) (da_cons (de_ty rfl Z.n_str Bm.boot_str) da_nil))) (nomark _)) (de_one (de_cmp (op_eqA hr.units) top_eq.d (de_var 0) (de_var 1) (nomark _)))))))))
theorem ok_law_is_name (Z : Txt K mg w) : FnOk P w K mg base (L2.CX P w) 1 Z.d_law_is_name.f Z.d_law_is_name.fd ["_law_value_y"] (spP K (cmOf mg) 1 f_law_is_name) :=
  fn_P (k := 0) Z.d_law_is_name.F sc_law_is_name rfl rfl fun cdv A outer s H E hr =>
  (dss_cons (ds_if (dt_w (dw_or (dt_not (dt_val (de_isi tabB_ok rfl Z.n_isinstance (da_cons (de_var 0) (da_cons (de_ty rfl Z.n_str Bm.boot_str) da_nil))))) (dw_or (dt_not (dt_chain op_le op_le (top_I0 fun _ _ _ => rep_bl).d (top_I0 fun _ _ _ => rep_bl).d de_int (de_len rfl Z.n_len (da_cons (de_var 0) da_nil)) de_int)) (dw_or1 (dt_cmp op_inA top_in.d (de_var 0) (de_tup (da_cons de_str (da_cons de_str da_nil))) (by with_unfolding_all rfl)))))) (dss_one (ds_ret de_bl)) dss_nil)
  (dss_one (ds_ret (de_all rfl rfl Z.n_all (da_cons (de_lc (own := [("_law_sign", 1)]) rfl sc_law_is_name.nd (di_str (de_var 0)) (blkOk_by (N := N_law_is_name) (sc := defScope s_law_is_name) (by decide +kernel)) (by decide) (fun _ _ _ _ _ => (dg_name sc_law_is_name.nd rfl (by first | exact .inl rfl | exact .inr rfl))) (fun _ _ _ _ _ => dts_nil) (fun _ _ _ _ _ => (de_cmp op_inA top_in.d (de_var 1) de_str (by with_unfolding_all rfl)))) da_nil)))))
theorem ok_law_names (Z : Txt K mg w) : FnOk P w K mg base (L2.CX P w) 3 Z.d_law_names.f Z.d_law_names.fd ["_law_bag_here", "_law_many"] (spB K (cmOf mg) 2 f_law_names) :=
  fn_B (k := 2) Z.d_law_names.F sc_law_names rfl rfl fun cdv A outer s H E hr =>
  (dss_cons (ds_set (i := 2) sc_law_names.nd rfl (by first | exact .inl rfl | exact .inr rfl) de_str)
  (dss_cons (ds_set (i := 3) sc_law_names.nd rfl (by first | exact .inl rfl | exact .inr rfl) (de_join de_str (da_cons (de_lc (own := [("_law_k", 8)]) rfl sc_law_names.nd (di_range1 rfl Z.n_range (da_cons (de_callBag (ok_law_draw Z) (hr.mono (by decide)) rfl Z.d_law_draw.m Z.d_law_draw.F.kp Z.d_law_draw.b (lets_of (takes_of rfl rfl rfl rfl)) (da_cons (de_var 0) (da_cons de_int da_nil))) da_nil)) (blkOk_by (N := N_law_names) (sc := defScope s_law_names) (by decide +kernel)) (by decide) (fun _ _ _ _ _ => (dg_name sc_law_names.nd rfl (by first | exact .inl rfl | exact .inr rfl))) (fun _ _ _ _ _ => dts_nil) (fun _ _ _ _ _ => (de_callBag (ok_law_of Z) (hr.mono (by decide)) rfl Z.d_law_of.m Z.d_law_of.F.kp Z.d_law_of.b lets_blk (da_cons (de_var 0) (da_cons (de_var 2) da_nil))))) da_nil)))
  (dss_cons (ds_asg (de_tup (da_cons (de_callBag (ok_law_draw Z) (hr.mono (by decide)) rfl Z.d_law_draw.m Z.d_law_draw.F.kp Z.d_law_draw.b (lets_of (takes_of rfl rfl rfl rfl)) (da_cons (de_var 0) (da_cons (de_plus (de_len rfl Z.n_len (da_cons (de_var 3) da_nil)) de_int) da_nil))) (da_cons (de_callBag (ok_law_draw Z) (hr.mono (by decide)) rfl Z.d_law_draw.m Z.d_law_draw.F.kp Z.d_law_draw.b (lets_of (takes_of rfl rfl rfl rfl)) (da_cons (de_var 0) (da_cons de_int da_nil))) (da_cons (de_callBag (ok_law_of Z) (hr.mono (by decide)) rfl Z.d_law_of.m Z.d_law_of.F.kp Z.d_law_of.b (lets_of (takes_of rfl rfl rfl rfl)) (da_cons (de_var 0) (da_cons (de_lst (da_cons de_int (da_cons de_int (da_cons de_int (da_cons de_int (da_cons de_int (da_cons de_int (da_cons de_int (da_cons de_int da_nil))))))))) da_nil))) da_nil)))) (dg_tup rfl (dgs_cons (dg_name sc_law_names.nd rfl (by first | exact .inl rfl | exact .inr rfl)) (dgs_cons (dg_name sc_law_names.nd rfl (by first | exact .inl rfl | exact .inr rfl)) (dgs_cons (dg_name sc_law_names.nd rfl (by first | exact .inl rfl | exact .inr rfl)) dgs_nil)))))
  (dss_cons (ds_setLc (i := 7) (own := [("_law_k", 8)]) rfl sc_law_names.nd rfl rfl (sw_true rfl rfl rfl (by decide +kernel)) (di_range1 rfl Z.n_range (da_cons (de_plus (de_var 1) de_int) da_nil)) (blkOk_by (N := N_law_names) (sc := defScope s_law_names) (by decide +kernel)) (by decide) (fun _ _ _ _ _ => (dg_name sc_law_names.nd rfl (by first | exact .inl rfl | exact .inr rfl))) (fun _ _ _ _ _ => dts_nil) (fun _ _ _ _ _ => (de_plus (de_plus (de_sl (de_var 3) do_none (do_some (de_var 4))) (de_ix (de_var 2) (de_mod (de_intc rfl Z.n_int (da_cons (de_plus (de_var 5) (de_mul (de_var 6) (de_var 8))) da_nil)) de_int) (fun _ _ => rfl))) (de_sl (de_var 3) (do_some (de_var 4)) do_none))))
  (dss_one (ds_ret (de_sl (de_lc (own := [("_law_name", 9)]) rfl sc_law_names.nd (di_list (de_var 7)) (blkOk_by (N := N_law_names) (sc := defScope s_law_names) (by decide +kernel)) (by decide) (fun _ _ _ _ _ => (dg_name sc_law_names.nd rfl (by first | exact .inl rfl | exact .inr rfl))) (fun _ _ _ _ _ => (dts_one (dt_val (de_call (ok_law_is_name Z) (hr.mono (by decide)) rfl Z.d_law_is_name.m Z.d_law_is_name.F.kp Z.d_law_is_name.b lets_blk (da_cons (de_var 9) da_nil))))) (fun _ _ _ _ _ => (de_var 9))) do_none (do_some (de_var 1)))))))))
theorem ok_law_odd_name (Z : Txt K mg w) : FnOk P w K mg base (L2.CX P w) 3 Z.d_law_odd_name.f Z.d_law_odd_name.fd ["_law_bag_here"] (spB K (cmOf mg) 1 f_law_odd_name) :=
  fn_B (k := 2) Z.d_law_odd_name.F sc_law_odd_name rfl rfl fun cdv A outer s H E hr =>
  (dss_one (ds_ret (de_callBag (ok_law_of Z) (hr.mono (by decide)) rfl Z.d_law_of.m Z.d_law_of.F.kp Z.d_law_of.b (lets_of (takes_of rfl rfl rfl rfl)) (da_cons (de_var 0) (da_cons (de_lst (da_cons de_str (da_cons de_str (da_cons de_str (da_cons de_str (da_cons de_str (da_cons de_str (da_cons de_str (da_cons de_str (da_cons de_non (da_cons de_int (da_cons de_bl (da_cons (de_tup (da_cons de_str da_nil)) (da_cons (de_lst (da_cons de_str da_nil)) (da_cons de_str da_nil))))))))))))))) da_nil)))))
theorem ok_law (Z : Txt K mg w) : FnOk P w K mg base (L2.CX P w) 14 Z.d_law.f Z.d_law.fd ["_law_script"] (spP K (cmOf mg) 1 f_law) :=
  fn_P (k := 13) Z.d_law.F sc_law rfl rfl fun cdv A outer s H E hr =>
  (dss_cons (ds_set (i := 1) sc_law.nd rfl (by first | exact .inl rfl | exact .inr rfl) (de_callM (ok_law_bag Z) (hr.mono (by decide)) rfl Z.d_law_bag.m Z.d_law_bag.F.kp Z.d_law_bag.b (lets_of (takes_of rfl rfl rfl rfl)) (da_cons (de_var 0) da_nil)))
  (dss_cons (ds_set (i := 2) sc_law.nd rfl (by first | exact .inl rfl | exact .inr rfl) (de_lst (da_cons (de_tup (da_cons de_str (da_cons de_int (da_cons de_int da_nil)))) (da_cons (de_tup (da_cons de_str (da_cons de_int (da_cons de_int da_nil)))) (da_cons (de_tup (da_cons de_str (da_cons de_int (da_cons de_int da_nil)))) (da_cons (de_tup (da_cons de_str (da_cons de_int (da_cons de_int da_nil)))) (da_cons (de_tup (da_cons de_str (da_cons de_int (da_cons de_int da_nil)))) (da_cons (de_tup (da_cons de_str (da_cons de_int (da_cons de_int da_nil)))) (da_cons (de_tup (da_cons de_str (da_cons de_int (da_cons de_int da_nil)))) (da_cons (de_tup (da_cons de_str (da_cons de_int (da_cons de_int da_nil)))) (da_cons (de_tup (da_cons de_str (da_cons de_int (da_cons de_int da_nil)))) da_nil)))))))))))
  (dss_cons (ds_for (passes_of rfl) rfl (di_list (de_var 2)) (dg_tup rfl (dgs_cons (dg_name sc_law.nd rfl (by first | exact .inl rfl | exact .inr rfl)) (dgs_cons (dg_name sc_law.nd rfl (by first | exact .inl rfl | exact .inr rfl)) (dgs_cons (dg_name sc_law.nd rfl (by first | exact .inl rfl | exact .inr rfl)) dgs_nil)))) (dss_cons (ds_setLc (i := 6) (own := [("_law_k", 12)]) rfl sc_law.nd rfl rfl (sw_true rfl rfl rfl (by decide +kernel)) (di_range1 rfl Z.n_range (da_cons (de_var 4) da_nil)) (blkOk_by (N := N_law) (sc := defScope s_law) (by decide +kernel)) (by decide) (fun _ _ _ _ _ => (dg_name sc_law.nd rfl (by first | exact .inl rfl | exact .inr rfl))) (fun _ _ _ _ _ => dts_nil) (fun _ _ _ _ _ => (de_callBag (ok_law_of Z) (hr.mono (by decide)) rfl Z.d_law_of.m Z.d_law_of.F.kp Z.d_law_of.b lets_blk (da_cons (de_var 1) (da_cons (de_callBag (ok_law_names Z) (hr.mono (by decide)) rfl Z.d_law_names.m Z.d_law_names.F.kp Z.d_law_names.b lets_blk (da_cons (de_var 1) (da_cons de_int da_nil))) da_nil)))))
  (dss_cons (ds_set (i := 7) sc_law.nd rfl (by first | exact .inl rfl | exact .inr rfl) (de_plus (de_tup (da_cons (de_var 3) da_nil)) (de_tuple rfl Z.n_tuple (da_cons (de_var 6) da_nil))))
  (dss_cons (ds_set (i := 8) sc_law.nd rfl (by first | exact .inl rfl | exact .inr rfl) (de_plus de_int (de_callBag (ok_law_draw Z) (hr.mono (by decide)) rfl Z.d_law_draw.m Z.d_law_draw.F.kp Z.d_law_draw.b (lets_of (takes_of rfl rfl rfl rfl)) (da_cons (de_var 1) (da_cons (de_var 4) da_nil)))))
  (dss_cons (ds_set (i := 9) sc_law.nd rfl (by first | exact .inl rfl | exact .inr rfl) (de_lst (da_cons (de_plus (de_plus (de_sl (de_var 7) do_none (do_some (de_var 8))) (de_tup (da_cons (de_callBag (ok_law_odd_name Z) (hr.mono (by decide)) rfl Z.d_law_odd_name.m Z.d_law_odd_name.F.kp Z.d_law_odd_name.b (lets_of (takes_of rfl rfl rfl rfl)) (da_cons (de_var 1) da_nil)) da_nil))) (de_sl (de_var 7) (do_some (de_plus (de_var 8) de_int)) do_none)) (da_cons (de_plus (de_var 7) (de_tup (da_cons (de_ix (de_var 6) de_int (fun _ _ => rfl)) da_nil))) (da_cons (de_sl (de_var 7) do_none (do_some (de_var 4))) (da_cons (de_list rfl Z.n_list (da_cons (de_var 7) da_nil)) (da_cons (de_plus (de_tup (da_cons (de_plus (de_var 3) de_str) da_nil)) (de_sl (de_var 7) (do_some de_int) do_none)) (da_cons (de_plus (de_tup (da_cons de_bl da_nil)) (de_sl (de_var 7) (do_some de_int) do_none)) da_nil))))))))
  (dss_cons (ds_if (dt_w (dw_or (dt_cmp op_notBl top_isnotB.d (de_callK0 (ok_is_declaration Z) (hr.mono (by decide)) rfl Z.d_is_declaration.m Z.d_is_declaration.F.kp (by decide) (Z.b_is_declaration_value) (lets_of (takes_of rfl rfl rfl rfl)) (dk_cons (de_var 7) dk_nil)) de_bl (nomark _)) (dw_or1 (dt_val (de_any rfl rfl Z.n_any (da_cons (de_lc (own := [("_law_one", 13)]) rfl sc_law.nd (di_list (de_var 9)) (blkOk_by (N := N_law) (sc := defScope s_law) (by decide +kernel)) (by decide) (fun _ _ _ _ _ => (dg_name sc_law.nd rfl (by first | exact .inl rfl | exact .inr rfl))) (fun _ _ _ _ _ => dts_nil) (fun _ _ _ _ _ => (de_call (ok_is_declaration Z) (hr.mono (by decide)) rfl Z.d_is_declaration.m Z.d_is_declaration.F.kp Z.d_is_declaration.b lets_blk (da_cons (de_var 13) da_nil)))) da_nil)))))) (dss_one (ds_ret de_bl)) dss_nil)
  (dss_cons (ds_if (dt_not (dt_val (de_call (ok_law_same Z 12) (hr.mono (by decide)) rfl Z.d_law_same.m Z.d_law_same.F.kp Z.d_law_same.b (lets_of (takes_of rfl rfl rfl rfl)) (da_cons (de_lst (da_cons (de_call (ok_names_of Z) (hr.mono (by decide)) rfl Z.d_names_of.m Z.d_names_of.F.kp Z.d_names_of.b (lets_of (takes_of rfl rfl rfl rfl)) (da_cons (de_var 7) da_nil)) (da_cons (de_callK0 (ok_uses_of Z) (hr.mono (by decide)) rfl Z.d_uses_of.m Z.d_uses_of.F.kp (by decide) (Z.b_uses_of_declaration) (lets_of (takes_of rfl rfl rfl rfl)) (dk_cons (de_var 7) dk_nil)) da_nil))) (da_cons (de_lst (da_cons (de_sl (de_var 6) do_none (do_some (de_var 5))) (da_cons (de_sl (de_var 6) (do_some (de_var 5)) do_none) da_nil))) da_nil))))) (dss_one (ds_ret de_bl)) dss_nil)
  (dss_cons (ds_expr (de_append (de_callM (ok_names_of Z) (hr.mono (by decide)) rfl Z.d_names_of.m Z.d_names_of.F.kp Z.d_names_of.b (lets_of (takes_of rfl rfl rfl rfl)) (da_cons (de_var 7) da_nil)) (da_cons de_str da_nil)))
  (dss_cons (ds_set (i := 10) sc_law.nd rfl (by first | exact .inl rfl | exact .inr rfl) (de_callM (ok_uses_of Z) (hr.mono (by decide)) rfl Z.d_uses_of.m Z.d_uses_of.F.kp Z.d_uses_of.b (lets_of (takes_of rfl rfl rfl rfl)) (da_cons (de_var 7) da_nil)))
  (dss_cons (ds_expr (de_clear (de_var 10)))
  (dss_one (ds_if (dt_not (dt_val (de_call (ok_law_same Z 12) (hr.mono (by decide)) rfl Z.d_law_same.m Z.d_law_same.F.kp Z.d_law_same.b (lets_of (takes_of rfl rfl rfl rfl)) (da_cons (de_lst (da_cons (de_callK0 (ok_names_of Z) (hr.mono (by decide)) rfl Z.d_names_of.m Z.d_names_of.F.kp (by decide) (Z.b_names_of_declaration) (lets_of (takes_of rfl rfl rfl rfl)) (dk_cons (de_var 7) dk_nil)) (da_cons (de_call (ok_uses_of Z) (hr.mono (by decide)) rfl Z.d_uses_of.m Z.d_uses_of.F.kp Z.d_uses_of.b (lets_of (takes_of rfl rfl rfl rfl)) (da_cons (de_var 7) da_nil)) da_nil))) (da_cons (de_lst (da_cons (de_sl (de_var 6) do_none (do_some (de_var 5))) (da_cons (de_sl (de_var 6) (do_some (de_var 5)) do_none) da_nil))) da_nil))))) (dss_one (ds_ret de_bl)) dss_nil))))))))))))
  (dss_cons (ds_set (i := 11) sc_law.nd rfl (by first | exact .inl rfl | exact .inr rfl) (de_lst (da_cons de_non (da_cons de_int (da_cons de_str (da_cons (de_tup da_nil) (da_cons (de_tup (da_cons de_str da_nil)) (da_cons (de_lst da_nil) (da_cons (de_tup (da_cons (de_tup (da_cons de_str (da_cons de_str da_nil))) da_nil)) (da_cons (de_tup (da_cons de_str (da_cons de_str da_nil))) (da_cons (de_tup (da_cons de_str (da_cons (de_tup (da_cons de_str da_nil)) da_nil))) (da_cons (de_tup (da_cons (de_lst (da_cons de_str da_nil)) (da_cons de_str da_nil))) (da_cons (de_callBag (ok_law_odd_name Z) (hr.mono (by decide)) rfl Z.d_law_odd_name.m Z.d_law_odd_name.F.kp Z.d_law_odd_name.b (lets_of (takes_of rfl rfl rfl rfl)) (da_cons (de_var 1) da_nil)) da_nil)))))))))))))
  (dss_one (ds_ret (de_not (de_any rfl rfl Z.n_any (da_cons (de_lc (own := [("_law_one", 13)]) rfl sc_law.nd (di_list (de_var 11)) (blkOk_by (N := N_law) (sc := defScope s_law) (by decide +kernel)) (by decide) (fun _ _ _ _ _ => (dg_name sc_law.nd rfl (by first | exact .inl rfl | exact .inr rfl))) (fun _ _ _ _ _ => dts_nil) (fun _ _ _ _ _ => (de_call (ok_is_declaration Z) (hr.mono (by decide)) rfl Z.d_is_declaration.m Z.d_is_declaration.F.kp Z.d_is_declaration.b lets_blk (da_cons (de_var 13) da_nil)))) da_nil)))))))))
end
end K03

namespace K03
open PySem L2 Bm BmLaw
theorem e_draw : f_law_draw = BmLaw.f_law_draw := rfl
theorem e_of : f_law_of = BmLaw.f_law_of := rfl
theorem e_bag : f_law_bag = BmLaw.f_law_bag := rfl
theorem e_names : f_law_names = BmLaw.f_law_names := rfl
theorem e_odd : f_law_odd_name = BmLaw.f_law_odd_name := rfl
theorem e_decl : f_is_declaration = BmLaw.f_is_declaration := rfl
theorem e_nof : f_names_of = BmLaw.f_names_of := rfl
theorem e_uof : f_uses_of = BmLaw.f_uses_of := rfl
theorem e_same : ∀ n, f_law_same n = BmLaw.f_law_same n
  | 0 => rfl
  | n + 1 => by show runP 4 (F_law_same (f_law_same n)) = runP 4 (BmLaw.F_law_same (BmLaw.f_law_same n)); rw [e_same n]; rfl
def TB : FS := (sSeq (sSet 6 (eLc (iR1 (aCons (eVar 4) aNil)) [12] (gNm 12) bYes (eCallB 2 f_law_of (aCons (eVar 1) (aCons (eCallB 2 f_law_names (aCons (eVar 1) (aCons (eC (.int 3)) aNil))) aNil)))))
  (sSeq (sSet 7 (e2 gAdd (eTup (aCons (eVar 3) aNil)) (eCB gTuple (aCons (eVar 6) aNil))))
  (sSeq (sSet 8 (e2 gAdd (eC (.int 1)) (eCallB 2 f_law_draw (aCons (eVar 1) (aCons (eVar 4) aNil)))))
  (sSeq (sSet 9 (eLst (aCons (e2 gAdd (e2 gAdd (eSl (eVar 7) oNone (oSome (eVar 8))) (eTup (aCons (eCallB 1 f_law_odd_name (aCons (eVar 1) aNil)) aNil))) (eSl (eVar 7) (oSome (e2 gAdd (eVar 8) (eC (.int 1)))) oNone)) (aCons (e2 gAdd (eVar 7) (eTup (aCons (e2 gIx (eVar 6) (eC (.int 0))) aNil))) (aCons (eSl (eVar 7) oNone (oSome (eVar 4))) (aCons (eCB gList (aCons (eVar 7) aNil)) (aCons (e2 gAdd (eTup (aCons (e2 gAdd (eVar 3) (eC (.str "s"))) aNil)) (eSl (eVar 7) (oSome (eC (.int 1))) oNone)) (aCons (e2 gAdd (eTup (aCons (eC (.bl true)) aNil)) (eSl (eVar 7) (oSome (eC (.int 1))) oNone)) aNil))))))))
  (sSeq (sIf (bOr (eB (e2 (g2 isnotBT) (eCallK 1 f_is_declaration [0] (aCons (eVar 7) aNil)) (eC (.bl true)))) (eB (eCB (gBls fun bs => bs.any id) (aCons (eLc (iL (eVar 9)) [13] (gNm 13) bYes (eCall 1 f_is_declaration (aCons (eVar 13) aNil))) aNil)))) (sRet (eC (.bl false))) sSkip)
  (sSeq (sIf (bNot (eB (eCall 2 (f_law_same 12) (aCons (eLst (aCons (eCall 1 f_names_of (aCons (eVar 7) aNil)) (aCons (eCallK 1 f_uses_of [0] (aCons (eVar 7) aNil)) aNil))) (aCons (eLst (aCons (eSl (eVar 6) oNone (oSome (eVar 5))) (aCons (eSl (eVar 6) (oSome (eVar 5)) oNone) aNil))) aNil))))) (sRet (eC (.bl false))) sSkip)
  (sSeq (sExpr (eBM isLst gAppend (eCallM 1 f_names_of (aCons (eVar 7) aNil)) (aCons (eC (.str "x")) aNil)))
  (sSeq (sSet 10 (eCallM 1 f_uses_of (aCons (eVar 7) aNil)))
  (sSeq (sExpr (eBM0 isLst gClear (eVar 10)))
  (sIf (bNot (eB (eCall 2 (f_law_same 12) (aCons (eLst (aCons (eCallK 1 f_names_of [0] (aCons (eVar 7) aNil)) (aCons (eCall 1 f_uses_of (aCons (eVar 7) aNil)) aNil))) (aCons (eLst (aCons (eSl (eVar 6) oNone (oSome (eVar 5))) (aCons (eSl (eVar 6) (oSome (eVar 5)) oNone) aNil))) aNil))))) (sRet (eC (.bl false))) sSkip))))))))))
/-- a drawn name as a tree -/
def NmT (u : T) : Prop := ∃ z, u = .str z ∧ isNameZ z = true ∧ z.cps.size ≤ 8
theorem NmT.plain {u : T} (h : NmT u) : plainT u := by
  obtain ⟨z, rfl, _, h⟩ := h
  show _ < _
  omega
theorem NmT.nm {u : T} (h : NmT u) : nmT u = true := by
  obtain ⟨z, rfl, h, _⟩ := h
  exact h
theorem NmT.ok {n : Nat} {u : T} (h : NmT u) : okT (n + 1) u = true := by
  obtain ⟨z, rfl, h, _⟩ := h
  rfl
theorem ok_two {xs ys : List T} (hx : ∀ u ∈ xs, NmT u) (hy : ∀ u ∈ ys, NmT u) (lx : xs.length < 16777216) (ly : ys.length < 16777216) : okT 12 (.lst [.lst xs, .lst ys]) = true := by
  have a1 : okT 11 (.lst xs) = true := by
    show (decide (xs.length < 16777216) && xs.all (okT 10)) = true
    rw [decide_eq_true lx, Bool.true_and, List.all_eq_true]
    exact fun u hu => (hx u hu).ok
  have a2 : okT 11 (.lst ys) = true := by
    show (decide (ys.length < 16777216) && ys.all (okT 10)) = true
    rw [decide_eq_true ly, Bool.true_and, List.all_eq_true]
    exact fun u hu => (hy u hu).ok
  show (decide (([T.lst xs, T.lst ys] : List T).length < 16777216) && (okT 11 (.lst xs) && (okT 11 (.lst ys) && true))) = true
  rw [a1, a2]
  rfl
/-- what is to be known of a word -/
structure Wd (w : Str) (many own : Nat) : Prop where
  w1 : tabGet BmLaw.c_WORDS w = some (.int ((many : Int) + 1))
  w2 : tabGet BmLaw.c_DECLARED w = some (.int (own : Int))
  w3 : tabGet BmLaw.c_WORDS (w ++ ("s" : Str)) = none
  lo : 1 ≤ many
  hi : many ≤ 4
  sz : w.cps.size ≤ 100
theorem append_new {sl : List (Option D)} {M : List MO} {fs : Fn (List D)} {fp : List T → PR} {u : T} {us : List T} {z : Str} (ha : fs sl M = .ok [.t u] M) (hf : fp [u] = .fresh us) (hl : us.length < 16777216) :
    eBM isLst gAppend (eCallM 1 fp fs) (aCons (eC (.str z)) aNil) sl M = .ok (.t .non) (M ++ [.lst (us ++ [.str z])]) := by
  have q : (M ++ [MO.lst us])[M.length]? = some (.lst us) := by simp
  refine v_bm (v_callM ha rfl rfl hf) ?_ (v_cons v_c v_nil) ?_
  · simp [isLst, lstOf]
  · have hl' : us.length < sizeLine := by rw [sizeLine_eq]; exact hl
    simp [gAppend, frz1, hl']
theorem v_bm0 {sl : List (Option D)} {M M1 : List MO} {ty : D → List MO → Bool} {g : GM0} {fo : FE} {d : D} {r : Res D} (ho : fo sl M = .ok d M1) (ht : ty d M1 = true) (h : g d M1 = r) : eBM0 ty g fo sl M = r := by
  unfold eBM0; rw [ho]; show (if ty d M1 then g d M1 else _) = _; rw [if_pos ht]; exact h
theorem clear_new {M : List MO} {us : List T} {sl : List (Option D)} {j : Nat} (h : sl[j]? = some (some (.m M.length))) : eBM0 isLst gClear (eVar j) sl (M ++ [.lst us]) = .ok (.t .non) (M ++ [.lst []]) := by
  have q : (M ++ [MO.lst us])[M.length]? = some (.lst us) := by simp
  refine v_bm0 (v_var h) ?_ ?_
  · simp [isLst, lstOf]
  · simp [gClear]
variable (s0 s2 x6 x7 x8 x9 x10 x11 x12 x13 : Option D)
theorem turn {w : Str} {many own : Nat} (W : Wd w many own) (b : Bag) (h : b.Ok) (R : List MO) : ∃ (y6 y7 y8 y9 y10 : Option D) (b' : Bag) (R' : List MO), b'.Ok ∧
    TB [s0, some (.m 0), s2, some (.t (.str w)), some (.t (.int many)), some (.t (.int own)), x6, x7, x8, x9, x10, x11, x12, x13] (.lst b.t :: R)
      = .nx [s0, some (.m 0), s2, some (.t (.str w)), some (.t (.int many)), some (.t (.int own)), y6, y7, y8, y9, y10, x11, x12, x13] (.lst b'.t :: R') := by
  have hlo := W.lo
  have hhi := W.hi
  obtain ⟨us, b1, hb1, hlen, hus, q1⟩ := lc_bag (R := R) (j := 12) (sl := [s0, some (.m 0), s2, some (.t (.str w)), some (.t (.int many)), some (.t (.int own)), x6, x7, x8, x9, x10, x11, x12, x13]) (E := eCallB 2 BmLaw.f_law_of (aCons (eVar 1) (aCons (eCallB 2 BmLaw.f_law_names (aCons (eVar 1) (aCons (eC (.int 3)) aNil))) aNil))) NmT (fun b t hb => by
    obtain ⟨zs, b1, hb1, z1, _, z3, z4, e⟩ := names_ok b hb 3 (by decide)
    obtain ⟨u, b2, hb2, hu, e2⟩ := c_ofL hb1 (R := R) (sl := [s0, some (.m 0), s2, some (.t (.str w)), some (.t (.int many)), some (.t (.int own)), x6, x7, x8, x9, x10, x11, some (.t t), x13]) (fs := aCons (eVar 1) (aCons (eCallB 2 BmLaw.f_law_names (aCons (eVar 1) (aCons (eC (.int 3)) aNil))) aNil)) (xs := zs.map T.str) (by rw [List.length_map]; omega) (by rw [List.length_map]; omega) (v_cons (v_var rfl) (v_cons (v_callB (v_cons (v_var rfl) (v_cons v_c v_nil)) (v_gB0 e)) v_nil))
    obtain ⟨z, hz, rfl⟩ := List.mem_map.mp hu
    exact ⟨_, b2, hb2, ⟨z, rfl, z3 z hz, z4 z hz⟩, e2⟩) (rangeT 0 many) [] b h (by rw [range_len]; simp; omega)
  rw [range_len] at hlen
  rw [List.nil_append] at q1
  obtain ⟨k, b2, hb2, hk, q2⟩ := c_draw hb1 (R := R) (n := (many : Int)) (fs := aCons (eVar 1) (aCons (eVar 4) aNil)) (sl := [s0, some (.m 0), s2, some (.t (.str w)), some (.t (.int many)), some (.t (.int own)), some (.t (.lst us)), some (.t (.tup (.str w :: us))), x8, x9, x10, x11, x12, x13])
    (by omega) (by omega) (v_cons (v_var rfl) (v_cons (v_var rfl) v_nil))
  obtain ⟨o, b3, hb3, ho, q3⟩ := odd_ok b2 hb2
  have ho1 := (odds_plain o ho).1
  have ho2 := (odds_plain o ho).2
  obtain ⟨u0, us', rfl⟩ : ∃ u0 us', us = u0 :: us' := by
    cases us with
    | nil => simp at hlen; omega
    | cons a r => exact ⟨a, r, rfl⟩
  let us : List T := u0 :: us'
  have pus : ∀ u ∈ us, plainT u := fun u hu => (hus u hu).plain
  have l5 : us.length ≤ 4 := by show (u0 :: us').length ≤ 4; omega
  have g1 : declT (.tup (.str w :: us)) = true := by
    simp only [declT, W.w1]
    rw [Bool.and_eq_true]
    exact ⟨decide_eq_true (by show ((u0 :: us').length : Int) + 1 = _; omega), List.all_eq_true.mpr fun u hu => (hus u hu).nm⟩
  have hg : BmLaw.f_is_declaration (perm [0] [.tup (.str w :: us)]) = .val (.bl true) := by
    show BmLaw.f_is_declaration [.tup (.str w :: us)] = _
    rw [decl_tup _ (by rw [List.length_cons]; omega) (fun u hu => by
      rcases List.mem_cons.mp hu with rfl | hu
      · have := W.sz; show _ < _; omega
      · exact pus u hu), g1]
  let bad1 : T := .tup ((.str w :: us.take k) ++ [o] ++ us.drop (k + 1))
  let bads : List T := [bad1, .tup ((.str w :: us) ++ [u0]), .tup ((T.str w :: us).take many), .lst (.str w :: us), .tup ([.str (w ++ ("s" : Str))] ++ us), .tup ([.bl true] ++ us)]
  have hbads : ∀ t ∈ bads, BmLaw.f_is_declaration [t] = .val (.bl false) := by
    have psw : plainT (.str w) := by have := W.sz; show _ < _; omega
    have pws : plainT (.str (w ++ ("s" : Str))) := by
      have := W.sz
      have e := size_app w ("s" : Str)
      have e2 : ("s" : Str).cps.size = 1 := rfl
      show _ < _
      omega
    intro t ht
    simp only [bads, List.mem_cons, List.not_mem_nil, or_false] at ht
    rcases ht with rfl | rfl | rfl | rfl | rfl | rfl
    · have lt := List.length_take (i := k) (l := us)
      have ld := List.length_drop (i := k + 1) (l := us)
      rw [decl_tup _ (by simp only [List.length_append, List.length_cons, List.length_nil]; omega) (fun u hu => by
        rcases List.mem_append.mp hu with hu | hu
        · rcases List.mem_append.mp hu with hu | hu
          · rcases List.mem_cons.mp hu with rfl | hu
            · exact psw
            · exact pus u (List.mem_of_mem_take hu)
          · rw [List.mem_singleton] at hu; rw [hu]; exact ho1
        · exact pus u (List.mem_of_mem_drop hu))]
      have e : declT bad1 = false := by
        show declT (.tup (.str w :: (us.take k ++ [o] ++ us.drop (k + 1)))) = false
        simp only [declT, W.w1]
        rw [Bool.and_eq_false_iff]
        right
        rw [List.all_eq_false]
        exact ⟨o, by simp, by rw [ho2]; decide⟩
      rw [e]
    · rw [decl_tup _ (by simp only [List.length_append, List.length_cons, List.length_nil]; omega) (fun u hu => by
        rcases List.mem_append.mp hu with hu | hu
        · rcases List.mem_cons.mp hu with rfl | hu
          · exact psw
          · exact pus u hu
        · rw [List.mem_singleton] at hu; rw [hu]; exact pus u0 (by simp [us]))]
      have e : declT (.tup ((.str w :: us) ++ [u0])) = false := by
        show declT (.tup (.str w :: (us ++ [u0]))) = false
        simp only [declT, W.w1]
        rw [Bool.and_eq_false_iff]
        left
        refine decide_eq_false ?_
        rw [List.length_append, List.length_singleton]
        show ¬ (((u0 :: us').length + 1 : Nat) : Int) + 1 = _
        omega
      rw [e]
    · have lt := List.length_take (i := many) (l := T.str w :: us)
      rw [decl_tup _ (by rw [lt, List.length_cons]; omega) (fun u hu => by
        rcases List.mem_cons.mp (List.mem_of_mem_take hu) with rfl | hu
        · exact psw
        · exact pus u hu)]
      have e : declT (.tup ((T.str w :: us).take many)) = false := by
        obtain ⟨m, rfl⟩ : ∃ m, many = m + 1 := ⟨many - 1, by omega⟩
        rw [List.take_succ_cons]
        simp only [declT, W.w1]
        rw [Bool.and_eq_false_iff]
        left
        refine decide_eq_false ?_
        rw [List.length_take]
        omega
      rw [e]
    · rw [decl_any _ trivial]; rfl
    · rw [decl_tup _ (by simp only [List.length_append, List.length_cons, List.length_nil]; omega) (fun u hu => by
        rcases List.mem_append.mp hu with hu | hu
        · rw [List.mem_singleton] at hu; rw [hu]; exact pws
        · exact pus u hu)]
      have e : declT (.tup ([.str (w ++ ("s" : Str))] ++ us)) = false := by
        show declT (.tup (.str (w ++ ("s" : Str)) :: us)) = false
        simp only [declT, W.w3]
      rw [e]
    · rw [decl_tup _ (by simp only [List.length_append, List.length_cons, List.length_nil]; omega) (fun u hu => by
        rcases List.mem_append.mp hu with hu | hu
        · rw [List.mem_singleton] at hu; rw [hu]; trivial
        · exact pus u hu)]
      rfl
  have hnof : BmLaw.f_names_of [.tup (.str w :: us)] = .fresh (us.take own) := names_of_eq W.w2
  have huof : BmLaw.f_uses_of [.tup (.str w :: us)] = .fresh (us.drop own) := uses_of_eq W.w2
  have ltk := List.length_take (i := own) (l := us)
  have ldr := List.length_drop (i := own) (l := us)
  have hsame : BmLaw.f_law_same 12 [.lst [.lst (us.take own), .lst (us.drop own)], .lst [.lst (us.take own), .lst (us.drop own)]] = .val (.bl true) :=
    same_refl 12 _ (ok_two (fun u hu => hus u (List.mem_of_mem_take hu)) (fun u hu => hus u (List.mem_of_mem_drop hu)) (by omega) (by omega))
  have c1 : cutT (T.str w :: us) none (some (1 + (k : Int))) = .str w :: us.take k := by
    have := cut_take (T.str w :: us) (1 + k)
    rw [show (((1 + k : Nat) : Nat) : Int) = 1 + (k : Int) by omega] at this
    rw [this, Nat.add_comm 1 k]; rfl
  have c2 : cutT (T.str w :: us) (some (1 + (k : Int) + 1)) none = us.drop (k + 1) := by
    have := cut_drop (T.str w :: us) (k + 1 + 1)
    rw [show (((k + 1 + 1 : Nat) : Nat) : Int) = 1 + (k : Int) + 1 by omega] at this
    rw [this]; rfl
  have c3 : cutT (T.str w :: us) none (some (many : Int)) = (T.str w :: us).take many := cut_take _ _
  have c4 : cutT (T.str w :: us) (some 1) none = us := cut_drop (T.str w :: us) 1
  have c5 : cutT us none (some (own : Int)) = us.take own := cut_take _ _
  have c6 : cutT us (some (own : Int)) none = us.drop own := cut_drop _ _
  have szs := size_app w ("s" : Str)
  have sz1 : ("s" : Str).cps.size = 1 := rfl
  have hsz := W.sz
  have ltk2 := List.length_take (i := k) (l := us)
  have ldr2 := List.length_drop (i := k + 1) (l := us)
  refine ⟨some (.t (.lst us)), some (.t (.tup (.str w :: us))), some (.t (.int (1 + (k : Int)))), some (.t (.lst bads)), some (.m (R.length + 1 + 1)), b3, R ++ [.lst (us.take own ++ [.str "x"])] ++ [.lst []], hb3, ?_⟩
  unfold TB
  rw [e_draw, e_of, e_names, e_odd, e_decl, e_nof, e_uof, e_same]
  refine v_seq (v_set (v_lc (v_r1 (v_cons (v_var rfl) v_nil) ((v_range (by omega)).trans (by rw [Int.toNat_natCast]))) q1)) ?_
  refine v_seq (v_set (v_e2 (v_tup (v_cons (v_var rfl) v_nil) rfl (Nat.le_of_ble_eq_true rfl)) (v_cb (v_cons (v_var rfl) v_nil) rfl) (v_addT (by show 1 + us.length ≤ _; omega)))) ?_
  refine v_seq (v_set (v_e2 v_c q2 v_addI)) ?_
  refine v_seq (v_set (v_lst (v_cons (v_e2 (v_e2 (v_sl (v_var rfl) v_none (v_some (v_var rfl)) (v_slT' c1)) (v_tup (v_cons (v_callB (v_cons (v_var rfl) v_nil) (v_gB1 q3)) v_nil) rfl (Nat.le_of_ble_eq_true rfl)) (v_addT (by simp only [List.length_cons, List.length_nil]; omega))) (v_sl (v_var rfl) (v_some (v_e2 (v_var rfl) v_c v_addI)) v_none (v_slT' c2)) (v_addT (by simp only [List.length_append, List.length_cons, List.length_nil]; omega)))
    (v_cons (v_e2 (v_var rfl) (v_tup (v_cons (v_e2 (v_var rfl) v_c (v_ixL (at0 _ _))) v_nil) rfl (Nat.le_of_ble_eq_true rfl)) (v_addT (by show (T.str w :: us).length + 1 ≤ _; rw [List.length_cons]; omega)))
    (v_cons (v_sl (v_var rfl) v_none (v_some (v_var rfl)) (v_slT' c3))
    (v_cons (v_cb (v_cons (v_var rfl) v_nil) rfl)
    (v_cons (v_e2 (v_tup (v_cons (v_e2 (v_var rfl) v_c (v_addS (by omega))) v_nil) rfl (Nat.le_of_ble_eq_true rfl)) (v_sl (v_var rfl) (v_some v_c) v_none (v_slT' c4)) (v_addT (by show 1 + us.length ≤ _; omega)))
    (v_cons (v_e2 (v_tup (v_cons v_c v_nil) rfl (Nat.le_of_ble_eq_true rfl)) (v_sl (v_var rfl) (v_some v_c) v_none (v_slT' c4)) (v_addT (by show 1 + us.length ≤ _; omega))) v_nil)))))) rfl (Nat.le_of_ble_eq_true rfl))) ?_
  refine v_seq (v_if (k := false) (v_or (k := false) (v_eB (v_e2 (v_call (fp := fun ts => BmLaw.f_is_declaration (perm [0] ts)) (ds := [.t (.tup (.str w :: us))]) (ts := [.tup (.str w :: us)]) (v_cons (v_var rfl) v_nil) rfl rfl hg) v_c rfl)) (v_eB (v_cb (v_cons (v_lc (v_il (v_var rfl) rfl) (lc_map0 (g := fun _ => .bl false) (ts := bads) rfl (Nat.le_of_ble_eq_true rfl) (fun t ht => v_call (v_cons (v_var rfl) v_nil) rfl rfl (hbads t ht)))) v_nil) rfl))) rfl) ?_
  refine v_seq (v_if (k := false) (v_not (k := true) (v_eB (v_call (v_cons (v_lst (v_cons (v_callF (v_cons (v_var rfl) v_nil) rfl rfl hnof) (v_cons (v_callF (fp := fun ts => BmLaw.f_uses_of (perm [0] ts)) (ts := [.tup (.str w :: us)]) (v_cons (v_var rfl) v_nil) rfl rfl huof) v_nil)) rfl (Nat.le_of_ble_eq_true rfl)) (v_cons (v_lst (v_cons (v_sl (v_var rfl) v_none (v_some (v_var rfl)) (v_slL' c5)) (v_cons (v_sl (v_var rfl) (v_some (v_var rfl)) v_none (v_slL' c6)) v_nil)) rfl (Nat.le_of_ble_eq_true rfl)) v_nil)) rfl rfl hsame))) rfl) ?_
  refine v_seq (v_expr (append_new (v_cons (v_var rfl) v_nil) hnof (by omega))) ?_
  refine v_seq (v_set (v_callM (v_cons (v_var rfl) v_nil) rfl rfl huof)) ?_
  refine v_seq (v_expr (clear_new rfl)) ?_
  refine (v_if (k := false) (v_not (k := true) (v_eB (v_call (v_cons (v_lst (v_cons (v_callF (fp := fun ts => BmLaw.f_names_of (perm [0] ts)) (ts := [.tup (.str w :: us)]) (v_cons (v_var rfl) v_nil) rfl rfl hnof) (v_cons (v_callF (v_cons (v_var rfl) v_nil) rfl rfl huof) v_nil)) rfl (Nat.le_of_ble_eq_true rfl)) (v_cons (v_lst (v_cons (v_sl (v_var rfl) v_none (v_some (v_var rfl)) (v_slL' c5)) (v_cons (v_sl (v_var rfl) (v_some (v_var rfl)) v_none (v_slL' c6)) v_nil)) rfl (Nat.le_of_ble_eq_true rfl)) v_nil)) rfl rfl hsame))) rfl).trans ?_
  simp [sSkip, us, bads, bad1]
end K03

namespace K03
open PySem L2 Bm BmLaw
def row (x : Str × Nat × Nat) : T := .tup [.str x.1, .int (x.2.1 : Int), .int (x.2.2 : Int)]
theorem turns (s0 s2 x11 x12 x13 : Option D) : ∀ (rs : List (Str × Nat × Nat)) (x3 x4 x5 x6 x7 x8 x9 x10 : Option D) (b : Bag) (R : List MO), b.Ok → (∀ r ∈ rs, Wd r.1 r.2.1 r.2.2) → ∃ (y3 y4 y5 y6 y7 y8 y9 y10 : Option D) (b' : Bag) (R' : List MO), b'.Ok ∧
    loopF (gTp 3 (gsCons (gNm 3) (gsCons (gNm 4) (gsCons (gNm 5) gsNil)))) TB (rs.map row) [s0, some (.m 0), s2, x3, x4, x5, x6, x7, x8, x9, x10, x11, x12, x13] (.lst b.t :: R)
      = .nx [s0, some (.m 0), s2, y3, y4, y5, y6, y7, y8, y9, y10, x11, x12, x13] (.lst b'.t :: R') := by
  intro rs
  induction rs with
  | nil => exact fun x3 x4 x5 x6 x7 x8 x9 x10 b R h _ => ⟨x3, x4, x5, x6, x7, x8, x9, x10, b, R, h, rfl⟩
  | cons r rs ih =>
    intro x3 x4 x5 x6 x7 x8 x9 x10 b R h hw
    obtain ⟨y6, y7, y8, y9, y10, b1, R1, h1, e⟩ := turn s0 s2 x6 x7 x8 x9 x10 x11 x12 x13 (hw r (by simp)) b h R
    obtain ⟨z3, z4, z5, z6, z7, z8, z9, z10, b2, R2, h2, e2⟩ := ih (some (.t (.str r.1))) (some (.t (.int (r.2.1 : Int)))) (some (.t (.int (r.2.2 : Int)))) y6 y7 y8 y9 y10 b1 R1 h1 fun q hq => hw q (by simp [hq])
    refine ⟨z3, z4, z5, z6, z7, z8, z9, z10, b2, R2, h2, ?_⟩
    rw [List.map_cons]
    exact loop_nx rfl e e2
def sizes : List (Str × Nat × Nat) := [("sort", 1, 1), ("pair", 4, 2), ("swap", 4, 2), ("step", 3, 1), ("drop", 3, 1), ("closure", 2, 1), ("interior", 2, 1), ("item", 2, 1), ("below", 2, 0)]
theorem get_hit {k z : Str} {t : T} {r : List (Str × T)} (h : k = z) : tabGet ((k, t) :: r) z = some t := by unfold tabGet; rw [if_pos h]
theorem get_miss {k z : Str} {t : T} {r : List (Str × T)} (h : ¬ k = z) : tabGet ((k, t) :: r) z = tabGet r z := by rw [tabGet, if_neg h]
theorem sizes_ok : ∀ r ∈ sizes, Wd r.1 r.2.1 r.2.2 := by
  intro r hr
  simp only [sizes, List.mem_cons, List.not_mem_nil, or_false] at hr
  rcases hr with rfl | rfl | rfl | rfl | rfl | rfl | rfl | rfl | rfl <;>
    exact ⟨by simp only [BmLaw.c_WORDS]; repeat (first | (rw [get_hit (by decide +kernel)]; done) | (rw [get_hit (by decide +kernel)]; rfl) | rw [get_miss (by decide +kernel)]), by simp only [BmLaw.c_DECLARED]; repeat (first | (rw [get_hit (by decide +kernel)]; done) | (rw [get_hit (by decide +kernel)]; rfl) | rw [get_miss (by decide +kernel)]), by simp only [BmLaw.c_WORDS]; repeat (first | rfl | rw [get_miss (by decide +kernel)]), by decide, by decide, by decide +kernel⟩

def odd0 (o : T) : List T := [.non, .int 3, .str "sort", .tup [], .tup [.str "sort"], .lst [], .tup [.tup [.str "sort", .str "a"]], .tup [.str "top", .str "a"], .tup [.str "sort", .tup [.str "a"]], .tup [.lst [.str "sort"], .str "a"], o]
theorem odd0_ok (o : T) (ho : o ∈ odds) : ∀ t ∈ odd0 o, BmLaw.f_is_declaration [t] = .val (.bl false) := by
  have tup : ∀ ts : List T, (ts.length < 16777216) → (∀ u ∈ ts, plainT u) → declT (.tup ts) = false → BmLaw.f_is_declaration [.tup ts] = .val (.bl false) := fun ts h1 h2 h3 => by rw [decl_tup ts h1 h2, h3]
  have pl : ∀ s : Str, s.cps.size < 16777216 → plainT (.str s) := fun s h => h
  have pS : plainT (.str (("sort" : Str))) := pl _ (by decide)
  have pA : plainT (.str (("a" : Str))) := pl _ (by decide)
  have pT : plainT (.str (("top" : Str))) := pl _ (by decide)
  have oo : ∀ t ∈ odds, BmLaw.f_is_declaration [t] = .val (.bl false) := by
    intro t ht
    simp only [odds, List.mem_cons, List.not_mem_nil, or_false] at ht
    rcases ht with rfl | rfl | rfl | rfl | rfl | rfl | rfl | rfl | rfl | rfl | rfl | rfl | rfl | rfl
    all_goals first
      | exact decl_any _ trivial
      | exact tup _ (Nat.lt_of_sub_ne_zero (by decide)) (fun u hu => by rw [List.mem_singleton] at hu; rw [hu]; exact pA) (by decide +kernel)
  intro t ht
  simp only [odd0, List.mem_cons, List.not_mem_nil, or_false] at ht
  rcases ht with rfl | rfl | rfl | rfl | rfl | rfl | rfl | rfl | rfl | rfl | rfl
  · exact decl_any _ trivial
  · exact decl_any _ trivial
  · exact decl_any _ trivial
  · exact tup _ (by decide) (fun u hu => by cases hu) (by decide +kernel)
  · exact tup _ (by simp) (fun u hu => by rw [List.mem_singleton] at hu; rw [hu]; exact pS) (by decide +kernel)
  · exact decl_any _ trivial
  · exact tup _ (by simp) (fun u hu => by rw [List.mem_singleton] at hu; rw [hu]; trivial) (by decide +kernel)
  · exact tup _ (by simp) (fun u hu => by
      simp only [List.mem_cons, List.not_mem_nil, or_false] at hu
      rcases hu with rfl | rfl
      · exact pT
      · exact pA) (by decide +kernel)
  · exact tup _ (by simp) (fun u hu => by
      simp only [List.mem_cons, List.not_mem_nil, or_false] at hu
      rcases hu with rfl | rfl
      · exact pS
      · trivial) (by decide +kernel)
  · exact tup _ (by simp) (fun u hu => by
      simp only [List.mem_cons, List.not_mem_nil, or_false] at hu
      rcases hu with rfl | rfl
      · trivial
      · exact pA) (by decide +kernel)
  · exact oo _ ho
theorem law_true (ns : List Int) (hns : ns.length ≤ 63) : f_law [.scr ns] = .val (.bl true) := by
  have e0 : BmLaw.f_law_bag [.scr ns] = .fresh (bag0 ns).t := bag_eq ns hns
  obtain ⟨y3, y4, y5, y6, y7, y8, y9, y10, b, R, hb, w1⟩ := turns (some (.t (.scr ns))) (some (.t (.lst (sizes.map row)))) none none none sizes none none none none none none none none (bag0 ns) [] (bag0_ok ns) sizes_ok
  obtain ⟨o, b2, hb2, ho, w2⟩ := odd_ok b hb
  show ansP (F_law [some (.t (.scr ns)), none, none, none, none, none, none, none, none, none, none, none, none, none] []) = _
  suffices h : F_law [some (.t (.scr ns)), none, none, none, none, none, none, none, none, none, none, none, none, none] [] = .rt (.t (.bl true)) (.lst b2.t :: R) by rw [h]; rfl
  unfold F_law
  refine v_seq (v_set (v_callM (fp := f_law_bag) (v_cons (v_var rfl) v_nil) rfl rfl e0)) ?_
  have t3 : ∀ {a b c : T} {sl : List (Option D)} {M : List MO}, eTup (aCons (eC a) (aCons (eC b) (aCons (eC c) aNil))) sl M = .ok (.t (.tup [a, b, c])) M := v_tup (v_cons v_c (v_cons v_c (v_cons v_c v_nil))) rfl (Nat.le_of_ble_eq_true rfl)
  refine v_seq (v_set (v_lst (v_cons t3 (v_cons t3 (v_cons t3 (v_cons t3 (v_cons t3 (v_cons t3 (v_cons t3 (v_cons t3 (v_cons t3 v_nil))))))))) rfl (Nat.le_of_ble_eq_true rfl))) ?_
  refine v_seq (v_for (v_il (v_var rfl) rfl) w1) ?_
  refine v_seq (v_set (v_lst (v_cons v_c (v_cons v_c (v_cons v_c (v_cons (v_tup v_nil rfl (Nat.le_of_ble_eq_true rfl)) (v_cons (v_tup (v_cons v_c v_nil) rfl (Nat.le_of_ble_eq_true rfl)) (v_cons (v_lst v_nil rfl (Nat.le_of_ble_eq_true rfl))
    (v_cons (v_tup (v_cons (v_tup (v_cons v_c (v_cons v_c v_nil)) rfl (Nat.le_of_ble_eq_true rfl)) v_nil) rfl (Nat.le_of_ble_eq_true rfl)) (v_cons (v_tup (v_cons v_c (v_cons v_c v_nil)) rfl (Nat.le_of_ble_eq_true rfl))
    (v_cons (v_tup (v_cons v_c (v_cons (v_tup (v_cons v_c v_nil) rfl (Nat.le_of_ble_eq_true rfl)) v_nil)) rfl (Nat.le_of_ble_eq_true rfl)) (v_cons (v_tup (v_cons (v_lst (v_cons v_c v_nil) rfl (Nat.le_of_ble_eq_true rfl)) (v_cons v_c v_nil)) rfl (Nat.le_of_ble_eq_true rfl))
    (v_cons (v_callB (v_cons (v_var rfl) v_nil) (v_gB1 w2)) v_nil))))))))))) rfl (Nat.le_of_ble_eq_true rfl))) ?_
  exact v_ret (v_enot (k := false) (v_cb (v_cons (v_lc (v_il (v_var rfl) rfl) (lc_map0 (g := fun _ => .bl false) (ts := odd0 o) rfl (Nat.le_of_ble_eq_true rfl) (fun t ht => v_call (fp := f_is_declaration) (v_cons (v_var rfl) v_nil) rfl rfl (odd0_ok o ho t ht)))) v_nil) rfl))
end K03

namespace K03
open PySem L2 PyProof.Rows Bm BmLaw
def spL (K : PySem.W.Frag) : Sp := fun vs H Q _ => ∃ (a : Addr) (ns : List Int), vs = [.ref a] ∧ SqL K H a (ns.map V.int) ∧ ns.length ≤ 63 ∧ ∀ H2, Q (.bl true) H2
theorem all_mk {l : PySem.W.OpenLaw} {w : World} {K : PySem.W.Frag} {h : Heap} {mg : Str → Option Value} {fa f1 f2 f3 f4 f5 f6 f7 f8 f9 f10 f11 f12 ad_BARRED ad_DECLARED ad_WORDS : Addr} (X : K.In h) (G : h.Ns mainGlobals mg) (hfa : mg "law" = some (.ref fa))
    {od1 an1 od2 an2 od3 an3 od4 an4 od5 an5 od6 an6 od7 an7 od8 an8 od9 an9 od10 an10 od11 an11 od12 an12 od_BARRED : Option Addr} {sl1 sl2 sl3 sl4 sl5 sl6 sl7 sl8 sl9 sl10 sl11 sl12 sl_BARRED : Array (Option Value)} {oc1 kV1 dc1 pm1 cd1 ct1 oc2 kV2 dc2 pm2 cd2 ct2 oc3 kV3 dc3 pm3 cd3 ct3 oc4 kV4 dc4 pm4 cd4 ct4 oc5 kV5 dc5 pm5 cd5 ct5 oc6 kV6 dc6 pm6 cd6 ct6 oc7 kV7 dc7 pm7 cd7 ct7 oc8 kV8 dc8 pm8 cd8 ct8 oc9 kV9 dc9 pm9 cd9 ct9 oc10 kV10 dc10 pm10 cd10 ct10 oc11 kV11 dc11 pm11 cd11 ct11 oc12 kV12 dc12 pm12 cd12 ct12 : Value} {tk_BARRED_0 tk_BARRED_1 tk_DECLARED_0 tk_DECLARED_1 tk_DECLARED_2 tk_DECLARED_3 tk_DECLARED_4 tk_DECLARED_5 tk_DECLARED_6 tk_DECLARED_7 tk_DECLARED_8 tv_DECLARED_0 tv_DECLARED_1 tv_DECLARED_2 tv_DECLARED_3 tv_DECLARED_4 tv_DECLARED_5 tv_DECLARED_6 tv_DECLARED_7 tv_DECLARED_8 tk_LETTERS tk_LONGEST tk_WORDS_0 tk_WORDS_1 tk_WORDS_2 tk_WORDS_3 tk_WORDS_4 tk_WORDS_5 tk_WORDS_6 tk_WORDS_7 tk_WORDS_8 tv_WORDS_0 tv_WORDS_1 tv_WORDS_2 tv_WORDS_3 tv_WORDS_4 tv_WORDS_5 tv_WORDS_6 tv_WORDS_7 tv_WORDS_8 : Tok} {n_BARRED n_DECLARED n_WORDS : Nat}
    (a1 : PySem.W.nsIn K mainGlobals "is_name" = some (some (.ref f1))) (l1 : K.lookup f1 = some ⟨oc1, od1, .func (PySem.W.fnOf "is_name" "is_name" (defArgs s_is_name) (defBody s_is_name) (defScope s_is_name) .none kV1 dc1 pm1 an1 cd1 ct1), sl1⟩) (e1 : PySem.W.codeIn K cd1 "is_name" = true) (k1 : PySem.W.keepIn K (.ref f1) = true)
    (a2 : PySem.W.nsIn K mainGlobals "is_declaration" = some (some (.ref f2))) (l2 : K.lookup f2 = some ⟨oc2, od2, .func (PySem.W.fnOf "is_declaration" "is_declaration" (defArgs s_is_declaration) (defBody s_is_declaration) (defScope s_is_declaration) .none kV2 dc2 pm2 an2 cd2 ct2), sl2⟩) (e2 : PySem.W.codeIn K cd2 "is_declaration" = true) (k2 : PySem.W.keepIn K (.ref f2) = true)
    (a3 : PySem.W.nsIn K mainGlobals "names_of" = some (some (.ref f3))) (l3 : K.lookup f3 = some ⟨oc3, od3, .func (PySem.W.fnOf "names_of" "names_of" (defArgs s_names_of) (defBody s_names_of) (defScope s_names_of) .none kV3 dc3 pm3 an3 cd3 ct3), sl3⟩) (e3 : PySem.W.codeIn K cd3 "names_of" = true) (k3 : PySem.W.keepIn K (.ref f3) = true)
    (a4 : PySem.W.nsIn K mainGlobals "uses_of" = some (some (.ref f4))) (l4 : K.lookup f4 = some ⟨oc4, od4, .func (PySem.W.fnOf "uses_of" "uses_of" (defArgs s_uses_of) (defBody s_uses_of) (defScope s_uses_of) .none kV4 dc4 pm4 an4 cd4 ct4), sl4⟩) (e4 : PySem.W.codeIn K cd4 "uses_of" = true) (k4 : PySem.W.keepIn K (.ref f4) = true)
    (a5 : PySem.W.nsIn K mainGlobals "_law_bag" = some (some (.ref f5))) (l5 : K.lookup f5 = some ⟨oc5, od5, .func (PySem.W.fnOf "_law_bag" "_law_bag" (defArgs s_law_bag) (defBody s_law_bag) (defScope s_law_bag) .none kV5 dc5 pm5 an5 cd5 ct5), sl5⟩) (e5 : PySem.W.codeIn K cd5 "_law_bag" = true) (k5 : PySem.W.keepIn K (.ref f5) = true)
    (a6 : PySem.W.nsIn K mainGlobals "_law_draw" = some (some (.ref f6))) (l6 : K.lookup f6 = some ⟨oc6, od6, .func (PySem.W.fnOf "_law_draw" "_law_draw" (defArgs s_law_draw) (defBody s_law_draw) (defScope s_law_draw) .none kV6 dc6 pm6 an6 cd6 ct6), sl6⟩) (e6 : PySem.W.codeIn K cd6 "_law_draw" = true) (k6 : PySem.W.keepIn K (.ref f6) = true)
    (a7 : PySem.W.nsIn K mainGlobals "_law_of" = some (some (.ref f7))) (l7 : K.lookup f7 = some ⟨oc7, od7, .func (PySem.W.fnOf "_law_of" "_law_of" (defArgs s_law_of) (defBody s_law_of) (defScope s_law_of) .none kV7 dc7 pm7 an7 cd7 ct7), sl7⟩) (e7 : PySem.W.codeIn K cd7 "_law_of" = true) (k7 : PySem.W.keepIn K (.ref f7) = true)
    (a8 : PySem.W.nsIn K mainGlobals "_law_same" = some (some (.ref f8))) (l8 : K.lookup f8 = some ⟨oc8, od8, .func (PySem.W.fnOf "_law_same" "_law_same" (defArgs s_law_same) (defBody s_law_same) (defScope s_law_same) .none kV8 dc8 pm8 an8 cd8 ct8), sl8⟩) (e8 : PySem.W.codeIn K cd8 "_law_same" = true) (k8 : PySem.W.keepIn K (.ref f8) = true)
    (a9 : PySem.W.nsIn K mainGlobals "_law_is_name" = some (some (.ref f9))) (l9 : K.lookup f9 = some ⟨oc9, od9, .func (PySem.W.fnOf "_law_is_name" "_law_is_name" (defArgs s_law_is_name) (defBody s_law_is_name) (defScope s_law_is_name) .none kV9 dc9 pm9 an9 cd9 ct9), sl9⟩) (e9 : PySem.W.codeIn K cd9 "_law_is_name" = true) (k9 : PySem.W.keepIn K (.ref f9) = true)
    (a10 : PySem.W.nsIn K mainGlobals "_law_names" = some (some (.ref f10))) (l10 : K.lookup f10 = some ⟨oc10, od10, .func (PySem.W.fnOf "_law_names" "_law_names" (defArgs s_law_names) (defBody s_law_names) (defScope s_law_names) .none kV10 dc10 pm10 an10 cd10 ct10), sl10⟩) (e10 : PySem.W.codeIn K cd10 "_law_names" = true) (k10 : PySem.W.keepIn K (.ref f10) = true)
    (a11 : PySem.W.nsIn K mainGlobals "_law_odd_name" = some (some (.ref f11))) (l11 : K.lookup f11 = some ⟨oc11, od11, .func (PySem.W.fnOf "_law_odd_name" "_law_odd_name" (defArgs s_law_odd_name) (defBody s_law_odd_name) (defScope s_law_odd_name) .none kV11 dc11 pm11 an11 cd11 ct11), sl11⟩) (e11 : PySem.W.codeIn K cd11 "_law_odd_name" = true) (k11 : PySem.W.keepIn K (.ref f11) = true)
    (a12 : PySem.W.nsIn K mainGlobals "law" = some (some (.ref f12))) (l12 : K.lookup f12 = some ⟨oc12, od12, .func (PySem.W.fnOf "law" "law" (defArgs s_law) (defBody s_law) (defScope s_law) .none kV12 dc12 pm12 an12 cd12 ct12), sl12⟩) (e12 : PySem.W.codeIn K cd12 "law" = true) (k12 : PySem.W.keepIn K (.ref f12) = true)
    (z_all : PySem.W.nsIn K mainGlobals "all" = some none)
    (z_any : PySem.W.nsIn K mainGlobals "any" = some none)
    (z_bool : PySem.W.nsIn K mainGlobals "bool" = some none)
    (z_int : PySem.W.nsIn K mainGlobals "int" = some none)
    (z_isinstance : PySem.W.nsIn K mainGlobals "isinstance" = some none)
    (z_len : PySem.W.nsIn K mainGlobals "len" = some none)
    (z_list : PySem.W.nsIn K mainGlobals "list" = some none)
    (z_range : PySem.W.nsIn K mainGlobals "range" = some none)
    (z_str : PySem.W.nsIn K mainGlobals "str" = some none)
    (z_tuple : PySem.W.nsIn K mainGlobals "tuple" = some none)
    (z_zip : PySem.W.nsIn K mainGlobals "zip" = some none)
    (g_BARRED : PySem.W.nsIn K mainGlobals "BARRED" = some (some (.ref ad_BARRED))) (h_BARRED : K.lookup ad_BARRED = some ⟨.type "tuple", od_BARRED, .seq #[Value.str "top" tk_BARRED_0, Value.str "bottom" tk_BARRED_1] n_BARRED, sl_BARRED⟩)
    (g_DECLARED : PySem.W.nsIn K mainGlobals "DECLARED" = some (some (.ref ad_DECLARED))) (h_DECLARED : K.lookup ad_DECLARED = some ⟨.type "dict", none, .dict #[⟨PyData.keyHash w.params "sort", .str "sort" tk_DECLARED_0, .int 1 tv_DECLARED_0⟩, ⟨PyData.keyHash w.params "pair", .str "pair" tk_DECLARED_1, .int 2 tv_DECLARED_1⟩, ⟨PyData.keyHash w.params "swap", .str "swap" tk_DECLARED_2, .int 2 tv_DECLARED_2⟩, ⟨PyData.keyHash w.params "step", .str "step" tk_DECLARED_3, .int 1 tv_DECLARED_3⟩, ⟨PyData.keyHash w.params "drop", .str "drop" tk_DECLARED_4, .int 1 tv_DECLARED_4⟩, ⟨PyData.keyHash w.params "closure", .str "closure" tk_DECLARED_5, .int 1 tv_DECLARED_5⟩, ⟨PyData.keyHash w.params "interior", .str "interior" tk_DECLARED_6, .int 1 tv_DECLARED_6⟩, ⟨PyData.keyHash w.params "item", .str "item" tk_DECLARED_7, .int 1 tv_DECLARED_7⟩, ⟨PyData.keyHash w.params "below", .str "below" tk_DECLARED_8, .int 0 tv_DECLARED_8⟩] n_DECLARED, #[]⟩) (q_DECLARED : (ad_DECLARED == sysModules) = false)
    (g_LETTERS : PySem.W.nsIn K mainGlobals "LETTERS" = some (some (.str "abcdefghijklmnopqrstuvwxyz" tk_LETTERS)))
    (g_LONGEST : PySem.W.nsIn K mainGlobals "LONGEST" = some (some (.int 8 tk_LONGEST)))
    (g_WORDS : PySem.W.nsIn K mainGlobals "WORDS" = some (some (.ref ad_WORDS))) (h_WORDS : K.lookup ad_WORDS = some ⟨.type "dict", none, .dict #[⟨PyData.keyHash w.params "sort", .str "sort" tk_WORDS_0, .int 2 tv_WORDS_0⟩, ⟨PyData.keyHash w.params "pair", .str "pair" tk_WORDS_1, .int 5 tv_WORDS_1⟩, ⟨PyData.keyHash w.params "swap", .str "swap" tk_WORDS_2, .int 5 tv_WORDS_2⟩, ⟨PyData.keyHash w.params "step", .str "step" tk_WORDS_3, .int 4 tv_WORDS_3⟩, ⟨PyData.keyHash w.params "drop", .str "drop" tk_WORDS_4, .int 4 tv_WORDS_4⟩, ⟨PyData.keyHash w.params "closure", .str "closure" tk_WORDS_5, .int 3 tv_WORDS_5⟩, ⟨PyData.keyHash w.params "interior", .str "interior" tk_WORDS_6, .int 3 tv_WORDS_6⟩, ⟨PyData.keyHash w.params "item", .str "item" tk_WORDS_7, .int 3 tv_WORDS_7⟩, ⟨PyData.keyHash w.params "below", .str "below" tk_WORDS_8, .int 3 tv_WORDS_8⟩] n_WORDS, #[]⟩) (q_WORDS : (ad_WORDS == sysModules) = false)
    : ∃ fd : FuncData, (∀ (s : Shared) (v : Value), BindsTo s fd ⟨[v], []⟩ [("_law_script", v)]) ∧ ∀ base : Heap, K.In base → base.Ns mainGlobals mg → FnOk l.prog w K mg base (L2.CX l.prog w) 14 fa fd ["_law_script"] (spL K) := by
  have e := hfa.symm.trans (PySem.W.mg_of X G a12)
  cases e
  have F1 := fun_mk (st := s_is_name) l1 e1 k1
  have b1 := F1.binds (ps := ["value"]) fun _ _ _ _ _ _ us hl => match us, hl with | [_], _ => rfl
  have F2 := fun_mk (st := s_is_declaration) l2 e2 k2
  have b2 := F2.binds (ps := ["value"]) fun _ _ _ _ _ _ us hl => match us, hl with | [_], _ => rfl
  have F3 := fun_mk (st := s_names_of) l3 e3 k3
  have b3 := F3.binds (ps := ["declaration"]) fun _ _ _ _ _ _ us hl => match us, hl with | [_], _ => rfl
  have F4 := fun_mk (st := s_uses_of) l4 e4 k4
  have b4 := F4.binds (ps := ["declaration"]) fun _ _ _ _ _ _ us hl => match us, hl with | [_], _ => rfl
  have F5 := fun_mk (st := s_law_bag) l5 e5 k5
  have b5 := F5.binds (ps := ["_law_script"]) fun _ _ _ _ _ _ us hl => match us, hl with | [_], _ => rfl
  have F6 := fun_mk (st := s_law_draw) l6 e6 k6
  have b6 := F6.binds (ps := ["_law_bag_here", "_law_many"]) fun _ _ _ _ _ _ us hl => match us, hl with | [_, _], _ => rfl
  have F7 := fun_mk (st := s_law_of) l7 e7 k7
  have b7 := F7.binds (ps := ["_law_bag_here", "_law_some"]) fun _ _ _ _ _ _ us hl => match us, hl with | [_, _], _ => rfl
  have F8 := fun_mk (st := s_law_same) l8 e8 k8
  have b8 := F8.binds (ps := ["_law_found", "_law_due"]) fun _ _ _ _ _ _ us hl => match us, hl with | [_, _], _ => rfl
  have F9 := fun_mk (st := s_law_is_name) l9 e9 k9
  have b9 := F9.binds (ps := ["_law_value_y"]) fun _ _ _ _ _ _ us hl => match us, hl with | [_], _ => rfl
  have F10 := fun_mk (st := s_law_names) l10 e10 k10
  have b10 := F10.binds (ps := ["_law_bag_here", "_law_many"]) fun _ _ _ _ _ _ us hl => match us, hl with | [_, _], _ => rfl
  have F11 := fun_mk (st := s_law_odd_name) l11 e11 k11
  have b11 := F11.binds (ps := ["_law_bag_here"]) fun _ _ _ _ _ _ us hl => match us, hl with | [_], _ => rfl
  have F12 := fun_mk (st := s_law) l12 e12 k12
  have b12 := F12.binds (ps := ["_law_script"]) fun _ _ _ _ _ _ us hl => match us, hl with | [_], _ => rfl
  let Z : Txt K mg w := {
    d_is_name := ⟨_, _, F1, PySem.W.mg_of X G a1, b1⟩
    d_is_declaration := ⟨_, _, F2, PySem.W.mg_of X G a2, b2⟩
    d_names_of := ⟨_, _, F3, PySem.W.mg_of X G a3, b3⟩
    d_uses_of := ⟨_, _, F4, PySem.W.mg_of X G a4, b4⟩
    d_law_bag := ⟨_, _, F5, PySem.W.mg_of X G a5, b5⟩
    d_law_draw := ⟨_, _, F6, PySem.W.mg_of X G a6, b6⟩
    d_law_of := ⟨_, _, F7, PySem.W.mg_of X G a7, b7⟩
    d_law_same := ⟨_, _, F8, PySem.W.mg_of X G a8, b8⟩
    d_law_is_name := ⟨_, _, F9, PySem.W.mg_of X G a9, b9⟩
    d_law_names := ⟨_, _, F10, PySem.W.mg_of X G a10, b10⟩
    d_law_odd_name := ⟨_, _, F11, PySem.W.mg_of X G a11, b11⟩
    d_law := ⟨_, _, F12, PySem.W.mg_of X G a12, b12⟩
    b_is_declaration_value := fun s ws _ hl => match ws, hl with | [_], _ => .of_eq rfl
    b_uses_of_declaration := fun s ws _ hl => match ws, hl with | [_], _ => .of_eq rfl
    b_names_of_declaration := fun s ws _ hl => match ws, hl with | [_], _ => .of_eq rfl
    n_all := PySem.W.mg_none_of X G z_all
    n_any := PySem.W.mg_none_of X G z_any
    n_bool := PySem.W.mg_none_of X G z_bool
    n_int := PySem.W.mg_none_of X G z_int
    n_isinstance := PySem.W.mg_none_of X G z_isinstance
    n_len := PySem.W.mg_none_of X G z_len
    n_list := PySem.W.mg_none_of X G z_list
    n_range := PySem.W.mg_none_of X G z_range
    n_str := PySem.W.mg_none_of X G z_str
    n_tuple := PySem.W.mg_none_of X G z_tuple
    n_zip := PySem.W.mg_none_of X G z_zip
    c_BARRED := ⟨_, .ref ad_BARRED, PySem.W.mg_of X G g_BARRED, rfl, fun I => by unfold c_BARRED RepT; exact ⟨_, [V.str "top", V.str "bottom"], rfl, .inr ⟨_, _, _, h_BARRED, rfl, rfl, (by rw [sizeLine_eq]; exact Nat.le_of_ble_eq_true rfl), (.cons ⟨_, rfl⟩ (.cons ⟨_, rfl⟩ .nil))⟩, (RepTL.cons (by unfold RepT; rfl) (RepTL.cons (by unfold RepT; rfl) RepTL.nil))⟩⟩
    c_DECLARED := ⟨ad_DECLARED, _, _, PySem.W.mg_of X G g_DECLARED, ⟨h_DECLARED, ⟨⟨_, _, rfl, rfl⟩, ⟨⟨_, _, rfl, rfl⟩, ⟨⟨_, _, rfl, rfl⟩, ⟨⟨_, _, rfl, rfl⟩, ⟨⟨_, _, rfl, rfl⟩, ⟨⟨_, _, rfl, rfl⟩, ⟨⟨_, _, rfl, rfl⟩, ⟨⟨_, _, rfl, rfl⟩, ⟨⟨_, _, rfl, rfl⟩, trivial⟩⟩⟩⟩⟩⟩⟩⟩⟩, q_DECLARED⟩, ⟨_, _, rfl, ⟨rfl, ⟨_, rfl⟩, .int 1, ⟨_, rfl⟩, fun I => by unfold RepT; rfl⟩, ⟨_, _, rfl, ⟨rfl, ⟨_, rfl⟩, .int 2, ⟨_, rfl⟩, fun I => by unfold RepT; rfl⟩, ⟨_, _, rfl, ⟨rfl, ⟨_, rfl⟩, .int 2, ⟨_, rfl⟩, fun I => by unfold RepT; rfl⟩, ⟨_, _, rfl, ⟨rfl, ⟨_, rfl⟩, .int 1, ⟨_, rfl⟩, fun I => by unfold RepT; rfl⟩, ⟨_, _, rfl, ⟨rfl, ⟨_, rfl⟩, .int 1, ⟨_, rfl⟩, fun I => by unfold RepT; rfl⟩, ⟨_, _, rfl, ⟨rfl, ⟨_, rfl⟩, .int 1, ⟨_, rfl⟩, fun I => by unfold RepT; rfl⟩, ⟨_, _, rfl, ⟨rfl, ⟨_, rfl⟩, .int 1, ⟨_, rfl⟩, fun I => by unfold RepT; rfl⟩, ⟨_, _, rfl, ⟨rfl, ⟨_, rfl⟩, .int 1, ⟨_, rfl⟩, fun I => by unfold RepT; rfl⟩, ⟨_, _, rfl, ⟨rfl, ⟨_, rfl⟩, .int 0, ⟨_, rfl⟩, fun I => by unfold RepT; rfl⟩, rfl⟩⟩⟩⟩⟩⟩⟩⟩⟩⟩
    c_LETTERS := ⟨_, .str "abcdefghijklmnopqrstuvwxyz", PySem.W.mg_of X G g_LETTERS, ⟨_, rfl⟩, fun I => by unfold c_LETTERS RepT; rfl⟩
    c_LONGEST := ⟨_, .int 8, PySem.W.mg_of X G g_LONGEST, ⟨_, rfl⟩, fun I => by unfold c_LONGEST RepT; rfl⟩
    c_WORDS := ⟨ad_WORDS, _, _, PySem.W.mg_of X G g_WORDS, ⟨h_WORDS, ⟨⟨_, _, rfl, rfl⟩, ⟨⟨_, _, rfl, rfl⟩, ⟨⟨_, _, rfl, rfl⟩, ⟨⟨_, _, rfl, rfl⟩, ⟨⟨_, _, rfl, rfl⟩, ⟨⟨_, _, rfl, rfl⟩, ⟨⟨_, _, rfl, rfl⟩, ⟨⟨_, _, rfl, rfl⟩, ⟨⟨_, _, rfl, rfl⟩, trivial⟩⟩⟩⟩⟩⟩⟩⟩⟩, q_WORDS⟩, ⟨_, _, rfl, ⟨rfl, ⟨_, rfl⟩, .int 2, ⟨_, rfl⟩, fun I => by unfold RepT; rfl⟩, ⟨_, _, rfl, ⟨rfl, ⟨_, rfl⟩, .int 5, ⟨_, rfl⟩, fun I => by unfold RepT; rfl⟩, ⟨_, _, rfl, ⟨rfl, ⟨_, rfl⟩, .int 5, ⟨_, rfl⟩, fun I => by unfold RepT; rfl⟩, ⟨_, _, rfl, ⟨rfl, ⟨_, rfl⟩, .int 4, ⟨_, rfl⟩, fun I => by unfold RepT; rfl⟩, ⟨_, _, rfl, ⟨rfl, ⟨_, rfl⟩, .int 4, ⟨_, rfl⟩, fun I => by unfold RepT; rfl⟩, ⟨_, _, rfl, ⟨rfl, ⟨_, rfl⟩, .int 3, ⟨_, rfl⟩, fun I => by unfold RepT; rfl⟩, ⟨_, _, rfl, ⟨rfl, ⟨_, rfl⟩, .int 3, ⟨_, rfl⟩, fun I => by unfold RepT; rfl⟩, ⟨_, _, rfl, ⟨rfl, ⟨_, rfl⟩, .int 3, ⟨_, rfl⟩, fun I => by unfold RepT; rfl⟩, ⟨_, _, rfl, ⟨rfl, ⟨_, rfl⟩, .int 3, ⟨_, rfl⟩, fun I => by unfold RepT; rfl⟩, rfl⟩⟩⟩⟩⟩⟩⟩⟩⟩⟩
  }
  refine ⟨_, fun s v => .of_eq rfl, fun base _ _ => (ok_law Z).imp fun vs H Q E q => ?_⟩
  obtain ⟨a, ns, rfl, h1, h2, h3⟩ := q
  refine ⟨H, [.scr ns], Ex.refl _, RepTL.cons (by unfold RepT; exact ⟨a, rfl, h1⟩) RepTL.nil, rfl, ?_⟩
  rw [law_true ns h2]
  intro I2 H2 v _ r
  unfold RepT at r
  subst r
  exact h3 H2
theorem walk {l : PySem.W.OpenLaw} {q : Program} {loose : List Str} {XP : (Str → Option Value) → Heap → Prop} {YP : World → Heap → Prop} {d : DefRec} {K : Params → PySem.W.Frag} (hn : l.most = some 63) (hdf : d.params.defaults = [])
    (hY : ∀ (w : World) (h : Heap), YP w h → (K w.params).In h)
    (F : ∀ (w : World) (mg : Str → Option Value) (fa : Addr) (h : Heap), (K w.params).In h → h.Ns mainGlobals mg → mg d.name = some (.ref fa) →
      ∃ fd : FuncData, (∀ (s : Shared) (u : Value), BindsTo s fd ⟨[u], []⟩ [("_law_script", u)]) ∧ ∀ base : Heap, (K w.params).In base → base.Ns mainGlobals mg → FnOk l.prog w (K w.params) mg base (L2.CX l.prog w) 14 fa fd ["_law_script"] (spL (K w.params))) :
    PySem.W.WalkO q loose XP YP l.row.toRowW d [] (fun f vs => PySem.call f vs) :=
  L2.walk_of (n := 63) (k := 14) (x := "_law_script") (CX := fun w => L2.CX l.prog w) (sp := fun w => spL (K w.params)) hn (by decide) hdf ⟨rfl, by decide, by decide⟩ hY F (fun _ _ a ns hl _ hS => ⟨a, ns, rfl, hS, hl, fun _ => rfl⟩) fun _ _ _ _ _ z => by
    obtain ⟨_, _, _, _, _, z⟩ := z
    exact z.2.2.2.2.2.2.2.elim
end K03
open PySem PySem.W PyProof.Rows
set_option maxRecDepth 100000 in
set_option maxHeartbeats 0 in
theorem PySem.Challenge.cw_betweenmaps_k03_declarations_judged_holds : PySem.Challenge.rw_betweenmaps_k03_declarations_judged.Holds := by
  w_on; o_law; k_head; (case hw => w_witness2)
  k_fill
  refine K03.walk (l := PySem.Challenge.rw_betweenmaps_k03_declarations_judged) rfl rfl (fun w h Y => PySem.W.kIn_of Y) ?F
  case F =>
    intro w mg fa h KX G hmg
    refine' K03.all_mk KX G hmg ?a1 ?l1 ?e1 ?k1 ?a2 ?l2 ?e2 ?k2 ?a3 ?l3 ?e3 ?k3 ?a4 ?l4 ?e4 ?k4 ?a5 ?l5 ?e5 ?k5 ?a6 ?l6 ?e6 ?k6 ?a7 ?l7 ?e7 ?k7 ?a8 ?l8 ?e8 ?k8 ?a9 ?l9 ?e9 ?k9 ?a10 ?l10 ?e10 ?k10 ?a11 ?l11 ?e11 ?k11 ?a12 ?l12 ?e12 ?k12 ?z_all ?z_any ?z_bool ?z_int ?z_isinstance ?z_len ?z_list ?z_range ?z_str ?z_tuple ?z_zip ?g_BARRED ?h_BARRED ?g_DECLARED ?h_DECLARED ?q_DECLARED ?g_LETTERS ?g_LONGEST ?g_WORDS ?h_WORDS ?q_WORDS
    (case a1 => k_is)
    (case l1 => k_is)
    (case e1 => k_is)
    (case k1 => k_is)
    (case a2 => k_is)
    (case l2 => k_is)
    (case e2 => k_is)
    (case k2 => k_is)
    (case a3 => k_is)
    (case l3 => k_is)
    (case e3 => k_is)
    (case k3 => k_is)
    (case a4 => k_is)
    (case l4 => k_is)
    (case e4 => k_is)
    (case k4 => k_is)
    (case a5 => k_is)
    (case l5 => k_is)
    (case e5 => k_is)
    (case k5 => k_is)
    (case a6 => k_is)
    (case l6 => k_is)
    (case e6 => k_is)
    (case k6 => k_is)
    (case a7 => k_is)
    (case l7 => k_is)
    (case e7 => k_is)
    (case k7 => k_is)
    (case a8 => k_is)
    (case l8 => k_is)
    (case e8 => k_is)
    (case k8 => k_is)
    (case a9 => k_is)
    (case l9 => k_is)
    (case e9 => k_is)
    (case k9 => k_is)
    (case a10 => k_is)
    (case l10 => k_is)
    (case e10 => k_is)
    (case k10 => k_is)
    (case a11 => k_is)
    (case l11 => k_is)
    (case e11 => k_is)
    (case k11 => k_is)
    (case a12 => k_is)
    (case l12 => k_is)
    (case e12 => k_is)
    (case k12 => k_is)
    (case z_all => k_is)
    (case z_any => k_is)
    (case z_bool => k_is)
    (case z_int => k_is)
    (case z_isinstance => k_is)
    (case z_len => k_is)
    (case z_list => k_is)
    (case z_range => k_is)
    (case z_str => k_is)
    (case z_tuple => k_is)
    (case z_zip => k_is)
    (case g_BARRED => k_is)
    (case h_BARRED => k_is)
    (case g_DECLARED => k_is)
    (case h_DECLARED => k_is)
    (case q_DECLARED => rfl)
    (case g_LETTERS => k_is)
    (case g_LONGEST => k_is)
    (case g_WORDS => k_is)
    (case h_WORDS => k_is)
    (case q_WORDS => rfl)
#print axioms PySem.Challenge.cw_betweenmaps_k03_declarations_judged_holds
