import PyProof.Rows.All
import Wide.All
import OpenK.AllK
import Wide.FinOn
import HandS.ForMost
import HandS.ForExc
import HandS.TupAny
import HandS.IsInst
import HandS.CallSlots
import HandS.Zip
import HandS.Style
import HandS.More
import HandS.Star
import HandS.Property
import HandS.ClsMeth
import HandS.SlotsOwn
import OpenK.KMeth
import PyProof.InstNe
import HandS.FStr
import KE.KRevSl
import HandS.Iter
import KE.GoesEnum
import KE.GoesMore
import HandS.SortKw
import KE.DatumOrd
import HandS.Small
import PyProof.Rows.Range3
import HandS.ExcInit
import HandS.ExcIs
import HandS.ExcField
import KE.KExcInit
import PyProof.P3Eq
import KE.KExcLine
import PySem.Challenge.RW_betweenmaps_k01_errors_by_themselves
set_option Elab.async false
set_option linter.all false
set_option maxRecDepth 100000
set_option maxHeartbeats 8000000
/-! Bm: values as trees over the hand layer; a small store for what changes. -/
namespace Bm
open PySem L2

/-- a value as a tree -/
inductive T where
  | non | bl (b : Bool) | int (i : Int) | str (s : Str) | ty (n : String) | glo (a : Addr) | cls (c : Str) | scr (ns : List Int)
  | lst (xs : List T) | tup (xs : List T) | ins (c : Str) (ns : List Str) (ts : List T)
  | exn (c : Str) (ns : List Str) (ts : List T) | dK (ks : List Key) (ts : List T) | dT (ks : List (List Key)) (ts : List T)
/-- a value: a tree, or a thing of the store -/
inductive D where
  | t (t : T) | m (k : Nat)
/-- a thing of the store -/
inductive MO where
  | lst (ts : List T) | ins (c : Str) (ns : List Str) (ds : List D) | frz (t : T) | dead
/-- an exception: its class, its attributes -/
structure Xn where
  c : Str
  ns : List Str
  ts : List T

/-- all that was known stays -/
def Ex (H H' : Hp) : Prop := ∀ a o, H a = some o → H' a = some o
theorem Ex.refl (H : Hp) : Ex H H := fun _ _ h => h
theorem Ex.trans {A B C : Hp} (a : Ex A B) (b : Ex B C) : Ex A C := fun x o h => b x o (a x o h)
theorem Ex.new {H : Hp} {p : Addr} {o : HO} (h : H p = none) : Ex H (upd H p o) := fun a u e => by
  rw [upd_ne (ne_of_none e h)]; exact e
theorem Ex.free {H H' : Hp} (e : Ex H H') {a : Addr} (h : H' a = none) : H a = none := by
  cases q : H a with
  | none => rfl
  | some o => rw [e a o q] at h; cases h
theorem Ex.upd2 {I H : Hp} {p : Addr} {o : HO} (e : Ex I H) : Ex (upd I p o) (upd H p o) := fun a u h => by
  unfold upd at h ⊢
  split
  · rename_i q; rw [if_pos q] at h; exact h
  · rename_i q; rw [if_neg q] at h; exact e a u h
theorem sqL_ex {K : PySem.W.Frag} {H H' : Hp} {a : Addr} {xs : List V} (e : Ex H H') (h : SqL K H a xs) : SqL K H' a xs := by
  rcases h with (h | ⟨o, h⟩) | h
  · exact .inl (.inl (e _ _ h))
  · exact .inl (.inr ⟨o, e _ _ h⟩)
  · exact .inr h
theorem sqT_ex {K : PySem.W.Frag} {H H' : Hp} {a : Addr} {xs : List V} (e : Ex H H') (h : SqT K H a xs) : SqT K H' a xs := by
  rcases h with (h | ⟨o, h⟩) | h
  · exact .inl (.inl (e _ _ h))
  · exact .inl (.inr ⟨o, e _ _ h⟩)
  · exact .inr h

/-- a tuple: made, or of the module -/
def SqU (K : PySem.W.Frag) (H : Hp) (a : Addr) (xs : List V) : Prop :=
  H a = some (.tup xs) ∨ ∃ (o : Obj) (its : Array Value) (n : Nat), K.lookup a = some o ∧ o.cls = .type "tuple" ∧ o.data = .seq its n ∧ its.size ≤ sizeLine ∧ Vals xs its.toList
theorem SqU.t {K : PySem.W.Frag} {H : Hp} {a : Addr} {xs : List V} (h : SqU K H a xs) : SqT K H a xs := h.imp .inl id
theorem SqU.ex {K : PySem.W.Frag} {H H' : Hp} {a : Addr} {xs : List V} (e : Ex H H') (h : SqU K H a xs) : SqU K H' a xs := h.imp (e _ _) id
/-- the class that a name of the module names -/
def cmOf (mg : Str → Option Value) (c : Str) : Addr := match mg c with
  | some (.ref a) => a
  | _ => 0

/-- at e: an exception of the class at C, whose dict is at dx -/
def exg (e C dx : Addr) : HO := .ext fun h => ∃ (o : Obj) (vs : Array Value), h.get? e = some o ∧ o.cls = .ref C ∧ o.dict = some dx ∧ o.data = .fields vs
mutual
/-- the value v is the tree, over what never changes -/
def RepT (K : PySem.W.Frag) (cm : Str → Addr) (I : Hp) : T → V → Prop
  | .non, v => v = .non
  | .bl b, v => v = .bl b
  | .int i, v => v = .int i
  | .str s, v => v = .str s
  | .ty n, v => v = .ty n
  | .glo a, v => v = .ref a
  | .cls c, v => v = .ref (cm c)
  | .scr ns, v => ∃ a, v = .ref a ∧ SqL K I a (ns.map V.int)
  | .lst ts, v => ∃ a xs, v = .ref a ∧ I a = some (.lst xs) ∧ RepTL K cm I ts xs
  | .tup ts, v => ∃ a xs, v = .ref a ∧ SqU K I a xs ∧ RepTL K cm I ts xs
  | .ins c ns ts, v => ∃ a dx xs, v = .ref a ∧ I a = some (.ins (cm c) dx (ns.zip xs)) ∧ ns.length = xs.length ∧ RepTL K cm I ts xs
  | .exn c ns ts, v => ∃ a dx xs, v = .ref a ∧ (I a = some (exg a (cm c) dx) ∧ I dx = some (.xd (ns.zip xs))) ∧ ns.length = xs.length ∧ RepTL K cm I ts xs
  | .dK ks ts, v => ∃ a xs, v = .ref a ∧ I a = some (.dK (ks.zip xs)) ∧ ks.length = xs.length ∧ RepTL K cm I ts xs
  | .dT ks ts, v => ∃ a xs, v = .ref a ∧ I a = some (.dT (ks.zip xs)) ∧ ks.length = xs.length ∧ RepTL K cm I ts xs
def RepTL (K : PySem.W.Frag) (cm : Str → Addr) (I : Hp) : List T → List V → Prop
  | [], xs => xs = []
  | t :: ts, xs => ∃ x r, xs = x :: r ∧ RepT K cm I t x ∧ RepTL K cm I ts r
end

section
variable {K : PySem.W.Frag} {cm : Str → Addr} {I I' : Hp}
mutual
theorem RepT.mono (e : Ex I I') : ∀ (t : T) (v : V), RepT K cm I t v → RepT K cm I' t v
  | .non, v, h => h
  | .bl _, v, h => h
  | .int _, v, h => h
  | .str _, v, h => h
  | .ty _, v, h => h
  | .glo _, v, h => h
  | .cls _, v, h => h
  | .scr ns, v, h => by
    unfold RepT at h ⊢
    obtain ⟨a, h1, h2⟩ := h
    exact ⟨a, h1, sqL_ex e h2⟩
  | .lst ts, v, h => by
    unfold RepT at h ⊢
    obtain ⟨a, xs, h1, h2, h3⟩ := h
    exact ⟨a, xs, h1, e _ _ h2, RepTL.mono e ts xs h3⟩
  | .tup ts, v, h => by
    unfold RepT at h ⊢
    obtain ⟨a, xs, h1, h2, h3⟩ := h
    exact ⟨a, xs, h1, h2.ex e, RepTL.mono e ts xs h3⟩
  | .ins c ns ts, v, h => by
    unfold RepT at h ⊢
    obtain ⟨a, dx, xs, h1, h2, h3, h4⟩ := h
    exact ⟨a, dx, xs, h1, e _ _ h2, h3, RepTL.mono e ts xs h4⟩
  | .exn c ns ts, v, h => by
    unfold RepT at h ⊢
    obtain ⟨a, dx, xs, h1, h2, h3, h4⟩ := h
    exact ⟨a, dx, xs, h1, ⟨e _ _ h2.1, e _ _ h2.2⟩, h3, RepTL.mono e ts xs h4⟩
  | .dK ks ts, v, h => by
    unfold RepT at h ⊢
    obtain ⟨a, xs, h1, h2, h3, h4⟩ := h
    exact ⟨a, xs, h1, e _ _ h2, h3, RepTL.mono e ts xs h4⟩
  | .dT ks ts, v, h => by
    unfold RepT at h ⊢
    obtain ⟨a, xs, h1, h2, h3, h4⟩ := h
    exact ⟨a, xs, h1, e _ _ h2, h3, RepTL.mono e ts xs h4⟩
theorem RepTL.mono (e : Ex I I') : ∀ (ts : List T) (xs : List V), RepTL K cm I ts xs → RepTL K cm I' ts xs
  | [], xs, h => h
  | t :: ts, xs, h => by
    unfold RepTL at h ⊢
    obtain ⟨x, r, h1, h2, h3⟩ := h
    exact ⟨x, r, h1, RepT.mono e t x h2, RepTL.mono e ts r h3⟩
end
theorem RepTL.nil : RepTL K cm I [] [] := by unfold RepTL; rfl
theorem RepTL.cons {t : T} {ts : List T} {x : V} {xs : List V} (h : RepT K cm I t x) (r : RepTL K cm I ts xs) : RepTL K cm I (t :: ts) (x :: xs) := by
  unfold RepTL; exact ⟨x, xs, rfl, h, r⟩
theorem RepTL.length : ∀ {ts : List T} {xs : List V}, RepTL K cm I ts xs → ts.length = xs.length
  | [], xs, h => by unfold RepTL at h; subst h; rfl
  | t :: ts, xs, h => by
    unfold RepTL at h
    obtain ⟨x, r, rfl, _, h3⟩ := h
    simp [RepTL.length h3]
theorem RepTL.append : ∀ {ts us : List T} {xs ys : List V}, RepTL K cm I ts xs → RepTL K cm I us ys → RepTL K cm I (ts ++ us) (xs ++ ys)
  | [], us, xs, ys, h, g => by unfold RepTL at h; subst h; exact g
  | t :: ts, us, xs, ys, h, g => by
    unfold RepTL at h
    obtain ⟨x, r, rfl, h2, h3⟩ := h
    exact RepTL.cons h2 (RepTL.append h3 g)
theorem RepTL.get : ∀ {ts : List T} {xs : List V} {i : Nat} {t : T}, RepTL K cm I ts xs → ts[i]? = some t → ∃ x, xs[i]? = some x ∧ RepT K cm I t x
  | [], xs, i, t, h, e => by simp at e
  | u :: ts, xs, 0, t, h, e => by
    unfold RepTL at h
    obtain ⟨x, r, rfl, h2, h3⟩ := h
    simp at e; subst e
    exact ⟨x, rfl, h2⟩
  | u :: ts, xs, i + 1, t, h, e => by
    unfold RepTL at h
    obtain ⟨x, r, rfl, h2, h3⟩ := h
    obtain ⟨y, h4, h5⟩ := RepTL.get (i := i) h3 (by simpa using e)
    exact ⟨y, by simpa using h4, h5⟩
theorem RepTL.getV : ∀ {ts : List T} {xs : List V} {i : Nat} {x : V}, RepTL K cm I ts xs → xs[i]? = some x → ∃ t, ts[i]? = some t ∧ RepT K cm I t x := by
  intro ts xs i x h e
  have hl := h.length
  have hi : i < ts.length := by
    have := (List.getElem?_eq_some_iff.mp e).1; omega
  obtain ⟨y, h1, h2⟩ := h.get (List.getElem?_eq_getElem hi)
  rw [e] at h1; cases h1
  exact ⟨_, List.getElem?_eq_getElem hi, h2⟩
theorem RepTL.set : ∀ {ts : List T} {xs : List V} {i : Nat} {t : T} {x : V}, RepTL K cm I ts xs → RepT K cm I t x → RepTL K cm I (ts.set i t) (xs.set i x)
  | [], xs, i, t, x, h, g => by unfold RepTL at h; subst h; exact RepTL.nil
  | u :: ts, xs, 0, t, x, h, g => by
    unfold RepTL at h
    obtain ⟨y, r, rfl, h2, h3⟩ := h
    exact RepTL.cons g h3
  | u :: ts, xs, i + 1, t, x, h, g => by
    unfold RepTL at h
    obtain ⟨y, r, rfl, h2, h3⟩ := h
    exact RepTL.cons h2 (RepTL.set h3 g)
theorem RepTL.take : ∀ {ts : List T} {xs : List V} (n : Nat), RepTL K cm I ts xs → RepTL K cm I (ts.take n) (xs.take n)
  | ts, xs, 0, h => by simp; exact RepTL.nil
  | [], xs, n + 1, h => by unfold RepTL at h; subst h; exact RepTL.nil
  | t :: ts, xs, n + 1, h => by
    unfold RepTL at h
    obtain ⟨y, r, rfl, h2, h3⟩ := h
    exact RepTL.cons h2 (RepTL.take n h3)
theorem RepTL.drop : ∀ {ts : List T} {xs : List V} (n : Nat), RepTL K cm I ts xs → RepTL K cm I (ts.drop n) (xs.drop n)
  | ts, xs, 0, h => by simpa using h
  | [], xs, n + 1, h => by unfold RepTL at h; subst h; exact RepTL.nil
  | t :: ts, xs, n + 1, h => by
    unfold RepTL at h
    obtain ⟨y, r, rfl, h2, h3⟩ := h
    exact RepTL.drop n h3
theorem RepTL.ints : ∀ (ns : List Int), RepTL K cm I (ns.map T.int) (ns.map V.int)
  | [] => RepTL.nil
  | n :: ns => RepTL.cons (by unfold RepT; rfl) (RepTL.ints ns)

/-- a value at n things of the store, which stand where μ says -/
def RepD (K : PySem.W.Frag) (cm : Str → Addr) (μ : Nat → Addr) (I : Hp) (n : Nat) : D → V → Prop
  | .t t, v => RepT K cm I t v
  | .m k, v => k < n ∧ v = .ref (μ k)
def RepDL (K : PySem.W.Frag) (cm : Str → Addr) (μ : Nat → Addr) (I : Hp) (n : Nat) : List D → List V → Prop
  | [], xs => xs = []
  | d :: ds, xs => ∃ x r, xs = x :: r ∧ RepD K cm μ I n d x ∧ RepDL K cm μ I n ds r
/-- more is known, more stands -/
structure Gr (μ : Nat → Addr) (I : Hp) (n : Nat) (μ' : Nat → Addr) (I' : Hp) (n' : Nat) : Prop where
  ag : ∀ k, k < n → μ' k = μ k
  le : n ≤ n'
  ex : Ex I I'
variable {μ μ' μ'' : Nat → Addr} {n n' n'' : Nat} {I'' : Hp}
theorem Gr.refl : Gr μ I n μ I n := ⟨fun _ _ => rfl, Nat.le_refl _, Ex.refl _⟩
theorem Gr.trans (a : Gr μ I n μ' I' n') (b : Gr μ' I' n' μ'' I'' n'') : Gr μ I n μ'' I'' n'' :=
  ⟨fun k h => (b.ag k (Nat.lt_of_lt_of_le h a.le)).trans (a.ag k h), Nat.le_trans a.le b.le, a.ex.trans b.ex⟩
theorem RepD.mono (g : Gr μ I n μ' I' n') : ∀ {d : D} {v : V}, RepD K cm μ I n d v → RepD K cm μ' I' n' d v
  | .t t, v, h => RepT.mono g.ex t v h
  | .m k, v, h => ⟨Nat.lt_of_lt_of_le h.1 g.le, by rw [g.ag k h.1]; exact h.2⟩
theorem RepDL.mono (g : Gr μ I n μ' I' n') : ∀ {ds : List D} {xs : List V}, RepDL K cm μ I n ds xs → RepDL K cm μ' I' n' ds xs
  | [], xs, h => h
  | d :: ds, xs, h => by
    unfold RepDL at h ⊢
    obtain ⟨x, r, h1, h2, h3⟩ := h
    exact ⟨x, r, h1, h2.mono g, h3.mono g⟩
theorem RepDL.length : ∀ {ds : List D} {xs : List V}, RepDL K cm μ I n ds xs → ds.length = xs.length
  | [], xs, h => by unfold RepDL at h; subst h; rfl
  | t :: ts, xs, h => by
    unfold RepDL at h
    obtain ⟨x, r, rfl, _, h3⟩ := h
    simp [RepDL.length h3]
theorem RepDL.nil : RepDL K cm μ I n [] [] := by unfold RepDL; rfl
theorem RepDL.cons {d : D} {ds : List D} {x : V} {xs : List V} (h : RepD K cm μ I n d x) (r : RepDL K cm μ I n ds xs) : RepDL K cm μ I n (d :: ds) (x :: xs) := by
  unfold RepDL; exact ⟨x, xs, rfl, h, r⟩

/-- a thing of the store, as it stands at a -/
def MRep (K : PySem.W.Frag) (cm : Str → Addr) (μ : Nat → Addr) (I : Hp) (n : Nat) (H : Hp) (a : Addr) : MO → Prop
  | .lst ts => I a = none ∧ ∃ xs, H a = some (.lst xs) ∧ RepTL K cm I ts xs
  | .ins c ns ds => I a = none ∧ ∃ dx xs, H a = some (.ins (cm c) dx (ns.zip xs)) ∧ ns.length = xs.length ∧ RepDL K cm μ I n ds xs
  | .frz t => RepT K cm I t (.ref a)
  | .dead => I a = none
structure Sim (K : PySem.W.Frag) (cm : Str → Addr) (μ : Nat → Addr) (I : Hp) (M : List MO) (H : Hp) : Prop where
  sub : Ex I H
  inj : ∀ i j, i < M.length → j < M.length → μ i = μ j → i = j
  tr : ∀ k, k < M.length → ∃ o, H (μ k) = some o
  obj : ∀ k o, M[k]? = some o → MRep K cm μ I M.length H (μ k) o
/-- from one state to a later one -/
structure Step (K : PySem.W.Frag) (cm : Str → Addr) (μ : Nat → Addr) (I : Hp) (M : List MO) (H : Hp) (μ' : Nat → Addr) (I' : Hp) (M' : List MO) (H' : Hp) : Prop where
  gr : Gr μ I M.length μ' I' M'.length
  sim : Sim K cm μ' I' M' H'
  fr : ∀ a o, H a = some o → (∀ k, k < M.length → a ≠ μ k) → H' a = some o
  nf : ∀ a o, H a = some o → I a = none → (∀ k, k < M.length → a ≠ μ k) → I' a = none
  fresh : ∀ k, M.length ≤ k → k < M'.length → H (μ' k) = none
variable {M M' M'' : List MO} {H H' H'' : Hp}
theorem Step.refl (s : Sim K cm μ I M H) : Step K cm μ I M H μ I M H :=
  ⟨Gr.refl, s, fun _ _ h _ => h, fun _ _ _ h _ => h, fun k h1 h2 => absurd (Nat.lt_of_lt_of_le h2 h1) (Nat.lt_irrefl _)⟩
theorem Step.trans (a : Step K cm μ I M H μ' I' M' H') (b : Step K cm μ' I' M' H' μ'' I'' M'' H'') : Step K cm μ I M H μ'' I'' M'' H'' := by
  have out : ∀ c o, H c = some o → (∀ k, k < M.length → c ≠ μ k) → ∀ k, k < M'.length → c ≠ μ' k := fun c o h1 h2 k hk => by
    by_cases q : k < M.length
    · rw [a.gr.ag k q]; exact h2 k q
    · intro e
      have := a.fresh k (Nat.le_of_not_lt q) hk
      rw [← e, h1] at this; cases this
  refine ⟨a.gr.trans b.gr, b.sim, fun c o h1 h2 => b.fr c o (a.fr c o h1 h2) (out c o h1 h2), fun c o h1 h2 h3 => b.nf c o (a.fr c o h1 h3) (a.nf c o h1 h2 h3) (out c o h1 h3), fun k h1 h2 => ?_⟩
  by_cases q : k < M'.length
  · rw [b.gr.ag k q]; exact a.fresh k h1 q
  · have q1 := b.fresh k (Nat.le_of_not_lt q) h2
    cases e : H (μ'' k) with
    | none => rfl
    | some o =>
      by_cases w : ∀ j, j < M.length → μ'' k ≠ μ j
      · rw [a.fr _ o e w] at q1; cases q1
      · obtain ⟨j, hj⟩ := Classical.not_forall.mp w
        obtain ⟨hj1, hj2⟩ := Classical.not_imp.mp hj
        have hj2 := Classical.not_not.mp hj2
        obtain ⟨o', ho⟩ := a.sim.tr j (Nat.lt_of_lt_of_le hj1 a.gr.le)
        rw [a.gr.ag j hj1, ← hj2, q1] at ho; cases ho
end

/-! ### results -/
inductive Res (α : Type) where
  | ok (a : α) (M : List MO) | exc (x : Xn) (M : List MO) | fail
def Res.bind {α β : Type} (r : Res α) (f : α → List MO → Res β) : Res β := match r with
  | .ok a M => f a M
  | .exc x M => .exc x M
  | .fail => .fail
abbrev Sl := List (Option D)
abbrev Fn (α : Type) := Sl → List MO → Res α
abbrev FE := Fn D

section
variable (K : PySem.W.Frag) (cm : Str → Addr)
/-- an exception as it lies -/
def RepX (I : Hp) (H : Hp) (x : Xn) (e : Value) (d : Option Addr) : Prop := e = .ref (cm x.c) ∧ ∃ dx xs, d = some dx ∧ H dx = some (.xd (x.ns.zip xs)) ∧ x.ns.length = xs.length ∧ RepTL K cm I x.ts xs
abbrev Rl (α β : Type) := (Nat → Addr) → Hp → Nat → α → β → Prop
def Post {α β : Type} (R : Rl α β) (μ : Nat → Addr) (I : Hp) (M : List MO) (H : Hp) (W : XK) (r : Res α) (Q : β → Hp → Prop) : Prop := match r with
  | .ok a M' => ∀ μ' I' H' b, Step K cm μ I M H μ' I' M' H' → R μ' I' M'.length a b → Q b H'
  | .exc x M' => ∀ μ' I' H' e d, Step K cm μ I M H μ' I' M' H' → RepX K cm I' H' x e d → W e d H'
  | .fail => False
def RD : Rl D V := fun μ I n d v => RepD K cm μ I n d v
def RL : Rl (List D) (List V) := fun μ I n d v => RepDL K cm μ I n d v
def RB : Rl Bool Bool := fun _ _ _ a b => a = b
def RO : Rl (Option Int) (Option Int) := fun _ _ _ a b => a = b
def RepS (μ : Nat → Addr) (I : Hp) (n : Nat) (sl : List (Option D)) (σ : List (Option V)) : Prop := σ.length = sl.length ∧ ∀ (i : Nat) (d : D), sl[i]? = some (some d) → ∃ v : V, σ[i]? = some (some v) ∧ RepD K cm μ I n d v
/-- wishes about exceptions by the slots -/
abbrev WX := Value → Option Addr → L2.St → Hp → Prop
/-- the reading of a function of the slots and the store -/
def rd {α β : Type} (W : WX) (R : Rl α β) (F : Fn α) : L2.St → Hp → (β → Hp → Prop) → Prop := fun σ H Q =>
  ∃ μ I sl M, Sim K cm μ I M H ∧ RepS K cm μ I M.length sl σ ∧ Post K cm R μ I M H (fun e d H' => W e d σ H') (F sl M) Q
end
section
variable {K : PySem.W.Frag} {cm : Str → Addr} {μ μ' : Nat → Addr} {I I' : Hp} {M M' : List MO} {H H' : Hp} {n n' : Nat}
theorem RepS.mono (g : Gr μ I n μ' I' n') {sl : Sl} {σ : L2.St} (h : RepS K cm μ I n sl σ) : RepS K cm μ' I' n' sl σ :=
  ⟨h.1, fun i d e => let ⟨v, h1, h2⟩ := h.2 i d e; ⟨v, h1, h2.mono g⟩⟩
theorem RepS.set {sl : Sl} {σ : L2.St} (h : RepS K cm μ I n sl σ) (i : Nat) {d : D} {v : V} (r : RepD K cm μ I n d v) : RepS K cm μ I n (sl.set i (some d)) (σ.set i (some v)) := by
  refine ⟨by simp [h.1], fun j e q => ?_⟩
  by_cases hj : i = j
  · subst hj
    by_cases hi : i < sl.length
    · rw [List.getElem?_set_self hi] at q
      cases q
      exact ⟨v, List.getElem?_set_self (by rw [h.1]; exact hi), r⟩
    · rw [List.getElem?_eq_none (by simp; omega)] at q; cases q
  · rw [List.getElem?_set_ne hj] at q
    rw [List.getElem?_set_ne hj]
    exact h.2 j e q
variable {α β γ δ : Type} {R : Rl α β} {R' : Rl γ δ} {W : XK} {Q : β → Hp → Prop}
theorem Post.step {r : Res α} (s : Step K cm μ I M H μ' I' M' H') (p : Post K cm R μ I M H W r Q) : Post K cm R μ' I' M' H' W r Q := by
  cases r with
  | ok a M1 => exact fun μ1 I1 H1 b st h => p μ1 I1 H1 b (s.trans st) h
  | exc x M1 => exact fun μ1 I1 H1 e d st h => p μ1 I1 H1 e d (s.trans st) h
  | fail => exact p
theorem Post.here {a : α} {b : β} (s : Sim K cm μ I M H) (p : Post K cm R μ I M H W (.ok a M) Q) (h : R μ I M.length a b) : Q b H := p μ I H b (Step.refl s) h
theorem Post.imp {r : Res α} {Q' : β → Hp → Prop} (p : Post K cm R μ I M H W r Q) (h : ∀ b H', Q b H' → Q' b H') : Post K cm R μ I M H W r Q' := by
  cases r with
  | ok a M1 => exact fun μ1 I1 H1 b st q => h _ _ (p μ1 I1 H1 b st q)
  | exc x M1 => exact p
  | fail => exact p
/-- a part is done, the rest is to come; C: what is carried over -/
theorem Post.bind {r : Res α} {f : α → List MO → Res γ} {Q' : δ → Hp → Prop} (p : Post K cm R' μ I M H W (r.bind f) Q') :
    Post K cm R μ I M H W r (fun b H1 => ∃ μ1 I1 M1 a, Step K cm μ I M H μ1 I1 M1 H1 ∧ R μ1 I1 M1.length a b ∧ Post K cm R' μ1 I1 M1 H1 W (f a M1) Q') := by
  cases r with
  | ok a M1 => exact fun μ1 I1 H1 b st h => ⟨μ1, I1, M1, a, st, h, p.step st⟩
  | exc x M1 => exact p
  | fail => exact p
end
end Bm

namespace Bm
open PySem L2

/-! ### pure steps: only new things -/
section
variable (K : PySem.W.Frag) (cm : Str → Addr)
structure StepT (I H I' H' : Hp) : Prop where
  ii : Ex I I'
  sub : Ex I' H'
  hh : Ex H H'
  nf : ∀ a o, H a = some o → I a = none → I' a = none
def Alloc (I H : Hp) (c : T) (Q : VK) : Prop := ∀ I' H' v, StepT I H I' H' → RepT K cm I' c v → Q v H'
def AllocF (I H : Hp) (ts : List T) (Q : VK) : Prop := ∀ I' H' p xs, StepT I H I' H' → H p = none → I' p = none → H' p = some (.lst xs) → RepTL K cm I' ts xs → Q (.ref p) H'
end
theorem StepT.refl {I H : Hp} (s : Ex I H) : StepT I H I H := ⟨Ex.refl _, s, Ex.refl _, fun _ _ _ h => h⟩
theorem StepT.trans {I H I' H' I'' H'' : Hp} (a : StepT I H I' H') (b : StepT I' H' I'' H'') : StepT I H I'' H'' :=
  ⟨a.ii.trans b.ii, b.sub, a.hh.trans b.hh, fun c o h1 h2 => b.nf c o (a.hh c o h1) (a.nf c o h1 h2)⟩
theorem StepT.new {I H : Hp} {p : Addr} {o : HO} (s : Ex I H) (h : H p = none) : StepT I H (upd I p o) (upd H p o) :=
  ⟨Ex.new (s.free h), s.upd2, Ex.new h, fun a u e n => by rw [upd_ne (ne_of_none e h)]; exact n⟩
theorem StepT.new' {I H : Hp} {p : Addr} {o : HO} (s : Ex I H) (h : H p = none) : StepT I H I (upd H p o) :=
  ⟨Ex.refl _, s.trans (Ex.new h), Ex.new h, fun _ _ _ n => n⟩

section
variable {K : PySem.W.Frag} {cm : Str → Addr} {I H I' H' : Hp} {Q : VK} {c : T} {v : V} {ts : List T} {xs : List V} {p : Addr}
theorem Alloc.val (h : Alloc K cm I H c Q) (s : Ex I H) (r : RepT K cm I c v) : Q v H := h I H v (StepT.refl s) r
theorem Alloc.lst (h : Alloc K cm I H (.lst ts) Q) (s : Ex I H) (r : RepTL K cm I ts xs) (n : H p = none) : Q (.ref p) (upd H p (.lst xs)) :=
  h _ _ _ (StepT.new s n) (by unfold RepT; exact ⟨p, xs, rfl, upd_same, RepTL.mono (Ex.new (s.free n)) _ _ r⟩)
theorem Alloc.tup (h : Alloc K cm I H (.tup ts) Q) (s : Ex I H) (r : RepTL K cm I ts xs) (n : H p = none) : Q (.ref p) (upd H p (.tup xs)) :=
  h _ _ _ (StepT.new s n) (by unfold RepT; exact ⟨p, xs, rfl, .inl upd_same, RepTL.mono (Ex.new (s.free n)) _ _ r⟩)
theorem AllocF.lst (h : AllocF K cm I H ts Q) (s : Ex I H) (r : RepTL K cm I ts xs) (n : H p = none) : Q (.ref p) (upd H p (.lst xs)) :=
  h _ _ _ _ (StepT.new' s n) n (s.free n) upd_same r
variable {μ : Nat → Addr} {M : List MO}
theorem StepT.step (t : StepT I H I' H') (s : Sim K cm μ I M H) : Step K cm μ I M H μ I' M H' := by
  refine ⟨⟨fun _ _ => rfl, Nat.le_refl _, t.ii⟩, ⟨t.sub, s.inj, fun k h => ?_, fun k o e => ?_⟩, fun a o h _ => t.hh a o h, fun a o h n _ => t.nf a o h n, fun k h1 h2 => absurd (Nat.lt_of_lt_of_le h2 h1) (Nat.lt_irrefl _)⟩
  · obtain ⟨o, e⟩ := s.tr k h
    exact ⟨o, t.hh _ _ e⟩
  · have q := s.obj k o e
    have hk : k < M.length := (List.getElem?_eq_some_iff.mp e).1
    cases o with
    | lst us =>
      obtain ⟨q1, ys, q2, q3⟩ := q
      exact ⟨t.nf _ _ q2 q1, ys, t.hh _ _ q2, RepTL.mono t.ii _ _ q3⟩
    | ins cl ns ds =>
      obtain ⟨q1, dx, ys, q2, q3, q4⟩ := q
      exact ⟨t.nf _ _ q2 q1, dx, ys, t.hh _ _ q2, q3, q4.mono ⟨fun _ _ => rfl, Nat.le_refl _, t.ii⟩⟩
    | frz u => exact RepT.mono t.ii _ _ q
    | dead =>
      obtain ⟨u, e2⟩ := s.tr k hk
      exact t.nf _ _ e2 q
theorem Post.alloc {W : XK} (p : Post K cm (RD K cm) μ I M H W (.ok (.t c) M) Q) (s : Sim K cm μ I M H) : Alloc K cm I H c Q :=
  fun I' H' v st r => p μ I' H' v (st.step s) r
/-- a new thing of the store -/
theorem Post.mnew {W : XK} {ts : List T} (p : Post K cm (RD K cm) μ I M H W (.ok (.m M.length) (M ++ [.lst ts])) Q) (s : Sim K cm μ I M H) : AllocF K cm I H ts Q :=
  fun I' H' a xs st n1 n2 h r => by
    have st1 := st.step (μ := μ) s
    have hle : ∀ k, k < M.length → (fun k => if k = M.length then a else μ k) k = μ k := fun k hk => if_neg (Nat.ne_of_lt hk)
    have ne : ∀ k, k < M.length → μ k ≠ a := fun k hk e => by
      obtain ⟨o, q⟩ := s.tr k hk
      rw [e, n1] at q; cases q
    have gr : Gr μ I M.length (fun k => if k = M.length then a else μ k) I' (M ++ [MO.lst ts]).length := ⟨hle, by simp, st.ii⟩
    have gr' : Gr μ I' M.length (fun k => if k = M.length then a else μ k) I' (M ++ [MO.lst ts]).length := ⟨hle, by simp, Ex.refl _⟩
    refine p _ I' H' (.ref a) ⟨gr, ⟨st.sub, fun i j hi hj e => ?_, fun k hk => ?_, fun k o e => ?_⟩, fun b o h1 _ => st.hh b o h1, fun b o h1 h2 _ => st.nf b o h1 h2, fun k h1 h2 => ?_⟩ ⟨by simp, by simp⟩
    · simp only [List.length_append, List.length_cons, List.length_nil] at hi hj
      have e' : (if i = M.length then a else μ i) = (if j = M.length then a else μ j) := e
      by_cases hi' : i = M.length
      · by_cases hj' : j = M.length
        · omega
        · rw [if_pos hi', if_neg hj'] at e'
          exact absurd e'.symm (ne j (by omega))
      · by_cases hj' : j = M.length
        · rw [if_neg hi', if_pos hj'] at e'
          exact absurd e' (ne i (by omega))
        · rw [if_neg hi', if_neg hj'] at e'
          exact s.inj i j (by omega) (by omega) e'
    · simp only [List.length_append, List.length_cons, List.length_nil] at hk
      by_cases hk' : k = M.length
      · exact ⟨_, by show H' (if k = M.length then a else μ k) = _; rw [if_pos hk']; exact h⟩
      · obtain ⟨o, q⟩ := s.tr k (by omega)
        exact ⟨o, by show H' (if k = M.length then a else μ k) = _; rw [if_neg hk']; exact st.hh _ _ q⟩
    · by_cases hk' : k < M.length
      · rw [List.getElem?_append_left hk'] at e
        have q := st1.sim.obj k o e
        have hμ : (if k = M.length then a else μ k) = μ k := hle k hk'
        rw [hμ]
        cases o with
        | lst us => exact q
        | ins cl ns ds =>
          obtain ⟨q1, dx, ys, q2, q3, q4⟩ := q
          exact ⟨q1, dx, ys, q2, q3, q4.mono gr'⟩
        | frz u => exact q
        | dead => exact q
      · have hk2 : k = M.length := by
          have := (List.getElem?_eq_some_iff.mp e).1
          simp at this; omega
        subst hk2
        rw [List.getElem?_append_right (Nat.le_refl _)] at e
        simp at e
        subst e
        show MRep K cm _ I' _ H' (if M.length = M.length then a else μ M.length) (.lst ts)
        rw [if_pos rfl]
        exact ⟨n2, xs, h, r⟩
    · simp only [List.length_append, List.length_cons, List.length_nil] at h2
      have hk2 : k = M.length := by omega
      show H (if k = M.length then a else μ k) = none
      rw [if_pos hk2]; exact n1
end

/-! ### peeking -/
def isSc : T → Bool
  | .non | .bl _ | .int _ | .str _ | .ty _ | .glo _ | .cls _ => true
  | _ => false
theorem RepT.sc {K : PySem.W.Frag} {cm : Str → Addr} {I I' : Hp} {t : T} {v : V} (h : isSc t = true) (r : RepT K cm I t v) : RepT K cm I' t v := by
  cases t <;> first | exact r | cases h
def pk (M : List MO) : D → Option T
  | .t t => some t
  | .m k => match M[k]? with
    | some (.lst ts) => some (.lst ts)
    | some (.frz t) => some t
    | _ => none
theorem pk_ok {K : PySem.W.Frag} {cm : Str → Addr} {μ : Nat → Addr} {I H : Hp} {M : List MO} (s : Sim K cm μ I M H) : ∀ {d : D} {v : V} {t : T}, RepD K cm μ I M.length d v → pk M d = some t → RepT K cm H t v
  | .t t', v, t, r, e => by
    simp [pk] at e; subst e
    exact RepT.mono s.sub _ _ r
  | .m k, v, t, r, e => by
    obtain ⟨_, rfl⟩ := r
    simp only [pk] at e
    split at e
    · rename_i ts q
      cases e
      obtain ⟨_, xs, h2, h3⟩ := s.obj k _ q
      unfold RepT
      exact ⟨_, xs, rfl, h2, RepTL.mono s.sub _ _ h3⟩
    · rename_i t' q
      cases e
      exact RepT.mono s.sub _ _ (s.obj k _ q)
    · cases e
def pkL (M : List MO) : List D → Option (List T)
  | [] => some []
  | d :: ds => match pk M d, pkL M ds with
    | some t, some ts => some (t :: ts)
    | _, _ => none
theorem pkL_ok {K : PySem.W.Frag} {cm : Str → Addr} {μ : Nat → Addr} {I H : Hp} {M : List MO} (s : Sim K cm μ I M H) : ∀ {ds : List D} {vs : List V} {ts : List T}, RepDL K cm μ I M.length ds vs → pkL M ds = some ts → RepTL K cm H ts vs
  | [], vs, ts, r, e => by
    simp [pkL] at e; subst e
    unfold RepDL at r; subst r; exact RepTL.nil
  | d :: ds, vs, ts, r, e => by
    unfold RepDL at r
    obtain ⟨x, rr, rfl, h1, h2⟩ := r
    unfold pkL at e
    split at e
    · rename_i t ts' e1 e2
      cases e
      exact RepTL.cons (pk_ok s h1 e1) (pkL_ok s h2 e2)
    · cases e
def allT : List D → Option (List T)
  | [] => some []
  | .t t :: ds => match allT ds with
    | some ts => some (t :: ts)
    | none => none
  | _ => none
theorem allT_ok {K : PySem.W.Frag} {cm : Str → Addr} {μ : Nat → Addr} {I : Hp} {n : Nat} : ∀ {ds : List D} {vs : List V} {ts : List T}, RepDL K cm μ I n ds vs → allT ds = some ts → RepTL K cm I ts vs
  | [], vs, ts, r, e => by
    simp [allT] at e; subst e
    unfold RepDL at r; subst r; exact RepTL.nil
  | .t t :: ds, vs, ts, r, e => by
    unfold RepDL at r
    obtain ⟨x, rr, rfl, h1, h2⟩ := r
    unfold allT at e
    split at e
    · rename_i ts' e2
      cases e
      exact RepTL.cons h1 (allT_ok h2 e2)
    · cases e
  | .m k :: ds, vs, ts, r, e => by simp [allT] at e

/-! ### freezing -/
def allDT : List D → Option (List T) := allT
def frz1 (M : List MO) : D → Option (T × List MO)
  | .t t => some (t, M)
  | .m k => match M[k]? with
    | some (.lst ts) => some (.lst ts, M.set k (.frz (.lst ts)))
    | some (.frz t) => some (t, M)
    | some (.ins c ns ds) => match allT ds with
      | some ts => some (.ins c ns ts, M.set k (.frz (.ins c ns ts)))
      | none => none
    | _ => none
section
variable {K : PySem.W.Frag} {cm : Str → Addr} {μ : Nat → Addr} {I H : Hp} {M M' : List MO}
theorem RepD.ofT {n : Nat} {t : T} {v : V} (h : RepT K cm I t v) : RepD K cm μ I n (.t t) v := h
/-- the thing at k is known from now on -/
theorem frz_step (s : Sim K cm μ I M H) {k : Nat} {o : MO} {u : HO} {t : T} (e : M[k]? = some o) (hI : I (μ k) = none) (hH : H (μ k) = some u) (r : RepT K cm (upd I (μ k) u) t (.ref (μ k))) :
    Step K cm μ I M H μ (upd I (μ k) u) (M.set k (.frz t)) H := by
  have hk : k < M.length := (List.getElem?_eq_some_iff.mp e).1
  have ex : Ex I (upd I (μ k) u) := Ex.new hI
  have gr : Gr μ I M.length μ (upd I (μ k) u) (M.set k (.frz t)).length := ⟨fun _ _ => rfl, by simp, ex⟩
  refine ⟨gr, ⟨fun a w h => ?_, by simpa using s.inj, by simpa using s.tr, fun j w ej => ?_⟩, fun _ _ h _ => h, fun a w h n nk => ?_, fun j h1 h2 => by simp at h2; omega⟩
  · unfold upd at h
    split at h
    · rename_i q; cases h; rw [q]; exact hH
    · exact s.sub a w h
  · by_cases hj : k = j
    · subst hj
      rw [List.getElem?_set_self hk] at ej
      cases ej
      exact r
    · rw [List.getElem?_set_ne hj] at ej
      have hjl : j < M.length := (List.getElem?_eq_some_iff.mp ej).1
      have nm : μ j ≠ μ k := fun q => hj (s.inj k j hk hjl q.symm)
      have q := s.obj j w ej
      cases w with
      | lst us =>
        obtain ⟨q1, ys, q2, q3⟩ := q
        exact ⟨by rw [upd_ne nm]; exact q1, ys, q2, RepTL.mono ex _ _ q3⟩
      | ins cl ns ds =>
        obtain ⟨q1, dx, ys, q2, q3, q4⟩ := q
        exact ⟨by rw [upd_ne nm]; exact q1, dx, ys, q2, q3, q4.mono gr⟩
      | frz w => exact RepT.mono ex _ _ q
      | dead => exact (by rw [upd_ne nm]; exact q : upd I (μ k) u (μ j) = none)
  · rw [upd_ne (nk k hk)]; exact n
theorem frz1_ok (s : Sim K cm μ I M H) : ∀ {d : D} {v : V} {t : T}, RepD K cm μ I M.length d v → frz1 M d = some (t, M') → ∃ I', Step K cm μ I M H μ I' M' H ∧ RepT K cm I' t v
  | .t t', v, t, r, e => by
    simp [frz1] at e
    obtain ⟨rfl, rfl⟩ := e
    exact ⟨I, Step.refl s, r⟩
  | .m k, v, t, r, e => by
    obtain ⟨_, rfl⟩ := r
    simp only [frz1] at e
    split at e
    · rename_i ts q
      simp at e
      obtain ⟨rfl, rfl⟩ := e
      obtain ⟨h1, xs, h2, h3⟩ := s.obj k _ q
      have rr : RepT K cm (upd I (μ k) (.lst xs)) (.lst ts) (.ref (μ k)) := by
        unfold RepT
        exact ⟨_, xs, rfl, upd_same, RepTL.mono (Ex.new h1) _ _ h3⟩
      exact ⟨_, frz_step s q h1 h2 rr, rr⟩
    · rename_i t' q
      simp at e
      obtain ⟨rfl, rfl⟩ := e
      exact ⟨I, Step.refl s, s.obj k _ q⟩
    · rename_i c ns ds q
      split at e
      · rename_i ts e2
        simp at e
        obtain ⟨rfl, rfl⟩ := e
        obtain ⟨h1, dx, xs, h2, h3, h4⟩ := s.obj k _ q
        have rr : RepT K cm (upd I (μ k) (.ins (cm c) dx (ns.zip xs))) (.ins c ns ts) (.ref (μ k)) := by
          unfold RepT
          exact ⟨_, dx, xs, rfl, upd_same, h3, RepTL.mono (Ex.new h1) _ _ (allT_ok h4 e2)⟩
        exact ⟨_, frz_step s q h1 h2 rr, rr⟩
      · cases e
    · cases e
def frzL (M : List MO) : List D → Option (List T × List MO)
  | [] => some ([], M)
  | d :: ds => match frz1 M d with
    | some (t, M1) => match frzL M1 ds with
      | some (ts, M2) => some (t :: ts, M2)
      | none => none
    | none => none
theorem frzL_ok : ∀ {ds : List D} {M M' : List MO} {I : Hp} {vs : List V} {ts : List T}, Sim K cm μ I M H → RepDL K cm μ I M.length ds vs → frzL M ds = some (ts, M') → ∃ I', Step K cm μ I M H μ I' M' H ∧ RepTL K cm I' ts vs
  | [], M, M', I, vs, ts, s, r, e => by
    simp [frzL] at e
    obtain ⟨rfl, rfl⟩ := e
    unfold RepDL at r; subst r
    exact ⟨I, Step.refl s, RepTL.nil⟩
  | d :: ds, M, M', I, vs, ts, s, r, e => by
    unfold RepDL at r
    obtain ⟨x, rr, rfl, h1, h2⟩ := r
    unfold frzL at e
    split at e
    · rename_i t M1 e1
      split at e
      · rename_i ts' M2 e2
        simp at e
        obtain ⟨rfl, rfl⟩ := e
        obtain ⟨I1, s1, r1⟩ := frz1_ok s h1 e1
        obtain ⟨I2, s2, r2⟩ := frzL_ok s1.sim (h2.mono s1.gr) e2
        exact ⟨I2, s1.trans s2, RepTL.cons (RepT.mono s2.gr.ex _ _ r1) r2⟩
      · cases e
    · cases e
end

/-! ### the judgements -/
theorem _root_.L2.PE.imp {X : Cx} {e : Expr} {t t' : TE} (h : PE X e t) (i : ∀ σ H Q, t' σ H Q → t σ H Q) : PE X e t' := ⟨fun pins s σ H Q I q => h.run pins s σ H Q I (i _ _ _ q)⟩
theorem _root_.L2.PT.imp {X : Cx} {e : Expr} {t t' : TT} (h : PT X e t) (i : ∀ σ H Q, t' σ H Q → t σ H Q) : PT X e t' := ⟨fun pins s σ H Q I q => h.run pins s σ H Q I (i _ _ _ q)⟩
theorem _root_.L2.PW.imp {X : Cx} {e : Expr} {t t' : TT} (h : PW X e t) (i : ∀ σ H Q, t' σ H Q → t σ H Q) : PW X e t' := ⟨fun wh pins s σ H Q I q => h.run wh pins s σ H Q I (i _ _ _ q)⟩
theorem _root_.L2.PA.imp {X : Cx} {e : List Expr} {t t' : TA} (h : PA X e t) (i : ∀ σ H Q, t' σ H Q → t σ H Q) : PA X e t' := ⟨fun pos pins s σ H Q I q => h.run pos pins s σ H Q I (i _ _ _ q)⟩
theorem _root_.L2.PS.imp {X : Cx} {e : Stmt} {t t' : TS} (h : PS X e t) (i : ∀ D σ H, t' D σ H → t D σ H) : PS X e t' := ⟨fun pins s σ H D I q => h.run pins s σ H D I (i _ _ _ q)⟩
theorem _root_.L2.PSs.imp {X : Cx} {e : List Stmt} {t t' : TS} (h : PSs X e t) (i : ∀ D σ H, t' D σ H → t D σ H) : PSs X e t' := ⟨fun pins s σ H D I q => h.run pins s σ H D I (i _ _ _ q)⟩

abbrev rdE (X : Cx) (W : WX) (F : FE) : TE := rd X.K (cmOf X.mg) W (RD X.K (cmOf X.mg)) F
abbrev rdB (X : Cx) (W : WX) (F : Fn Bool) : TT := rd X.K (cmOf X.mg) W RB F
abbrev rdA (X : Cx) (W : WX) (F : Fn (List D)) : TA := rd X.K (cmOf X.mg) W (RL X.K (cmOf X.mg)) F
abbrev rdO (X : Cx) (W : WX) (F : Fn (Option Int)) : TO := rd X.K (cmOf X.mg) W RO F
abbrev DE (X : Cx) (W : WX) (e : Expr) (F : FE) : Prop := PE X e (rdE X W F)
abbrev DT (X : Cx) (W : WX) (e : Expr) (F : Fn Bool) : Prop := PT X e (rdB X W F)
abbrev DW (X : Cx) (W : WX) (e : Expr) (F : Fn Bool) : Prop := PW X e (rdB X W F)
abbrev DA (X : Cx) (W : WX) (es : List Expr) (F : Fn (List D)) : Prop := PA X es (rdA X W F)
abbrev DO (X : Cx) (W : WX) (e : Option Expr) (F : Fn (Option Int)) : Prop := PO X e (rdO X W F)

section
variable {X : Cx} {W : WX} {e a b c : Expr} {fa fb fc F : FE} {pos : Pos}

def eVar (i : Nat) : FE := fun sl M => match sl[i]? with
  | some (some d) => .ok d M
  | _ => .fail
theorem de_var (i : Nat) {x : Str} (hN : X.N[i]? = some x := by rfl) (hv : Vis X.env.scope x := by first | exact Or.inl rfl | exact Or.inr (Or.inl rfl) | exact Or.inr (Or.inr rfl))
    (hd : (x == ("__debug__" : Str)) = false := by decide) (hcd : (x == ("__classdict__" : Str)) = false := by decide) : DE X W (.Name x pos) (eVar i) :=
  (pe_var hN hv hd hcd).imp fun σ H Q ⟨μ, I, sl, M, s, r, p⟩ => by
    unfold eVar at p
    split at p
    · rename_i d q
      obtain ⟨v, h1, h2⟩ := r.2 i d q
      exact ⟨v, h1, p.here s h2⟩
    · exact p.elim
def eC (t : T) : FE := fun _ M => .ok (.t t) M
theorem post_c {μ I M H Q} {t : T} {v : V} {Wx : XK} (s : Sim X.K (cmOf X.mg) μ I M H) (p : Post X.K (cmOf X.mg) (RD X.K (cmOf X.mg)) μ I M H Wx (.ok (.t t) M) Q) (h : RepT X.K (cmOf X.mg) I t v) : Q v H := p.here s h
theorem de_int {i : Int} {j : Nat} : DE X W (.Constant (.int i) j pos) (eC (.int i)) := pe_int.imp fun σ H Q ⟨μ, I, sl, M, s, r, p⟩ => post_c s p (by unfold RepT; rfl)
theorem de_bl {i : Bool} {j : Nat} : DE X W (.Constant (.bool i) j pos) (eC (.bl i)) := pe_bl.imp fun σ H Q ⟨μ, I, sl, M, s, r, p⟩ => post_c s p (by unfold RepT; rfl)
theorem de_non {j : Nat} : DE X W (.Constant .none j pos) (eC .non) := pe_non.imp fun σ H Q ⟨μ, I, sl, M, s, r, p⟩ => post_c s p (by unfold RepT; rfl)
theorem de_str {x : Str} {j : Nat} : DE X W (.Constant (.str x) j pos) (eC (.str x)) := pe_str.imp fun σ H Q ⟨μ, I, sl, M, s, r, p⟩ => post_c s p (by unfold RepT; rfl)
/-- a constant of the module -/
theorem de_glob {x : Str} {v : V} {u : Value} {t : T} (hg : Gl X x) (hm : X.mg x = some u) (r : RelV v u) (ht : ∀ I, RepT X.K (cmOf X.mg) I t v) (hd : (x == ("__debug__" : Str)) = false := by decide) : DE X W (.Name x pos) (eC t) :=
  (pe_glob hg hm r hd).imp fun σ H Q ⟨μ, I, sl, M, s, r, p⟩ => post_c s p (ht I)
/-- a built-in type as a value -/
theorem de_ty {x : Str} {n : String} (hg : Gl X x) (hm : X.mg x = none) (hv : bootBuiltins x = some (.type n)) (hn : x ≠ "__name__" := by decide) (hd : (x == ("__debug__" : Str)) = false := by decide) : DE X W (.Name x pos) (eC (.ty n)) :=
  (pe_bltn (v := .ty n) hg hm hv rfl hn hd).imp fun σ H Q ⟨μ, I, sl, M, s, r, p⟩ => post_c s p (by unfold RepT; rfl)

/-! ### two places -/
abbrev G2 := D → D → List MO → Res D
def e2 (g : G2) (fa fb : FE) : FE := fun sl M => (fa sl M).bind fun a M1 => (fb sl M1).bind fun b M2 => g a b M2
def DOp (K : PySem.W.Frag) (cm : Str → Addr) (r : R2) (g : G2) : Prop := ∀ μ I M H x y a b Q (Wx : XK), Sim K cm μ I M H → RepD K cm μ I M.length a x → RepD K cm μ I M.length b y → Post K cm (RD K cm) μ I M H Wx (g a b M) Q → r x y H Q
theorem tOp_of {r : R2} {g : G2} (hd : DOp X.K (cmOf X.mg) r g) {σ H Q} (h : rdE X W (e2 g fa fb) σ H Q) : tOp r (rdE X W fa) (rdE X W fb) σ H Q := by
  obtain ⟨μ, I, sl, M, s, rs, p⟩ := h
  refine ⟨μ, I, sl, M, s, rs, (Post.bind (R := RD X.K (cmOf X.mg)) p).imp fun x H1 ⟨μ1, I1, M1, a, st, ra, p1⟩ => ?_⟩
  refine ⟨μ1, I1, sl, M1, st.sim, rs.mono st.gr, (Post.bind (R := RD X.K (cmOf X.mg)) p1).imp fun y H2 ⟨μ2, I2, M2, b, st2, rb, p2⟩ => ?_⟩
  exact hd _ _ _ _ _ _ _ _ _ _ st2.sim (ra.mono st2.gr) rb p2
theorem de_op {op : Operator} {r : R2} {g : G2} (ho : OpR X (binaryOp op) r) (hd : DOp X.K (cmOf X.mg) r g) (ha : DE X W a fa) (hb : DE X W b fb) : DE X W (.BinOp a op b pos) (e2 g fa fb) :=
  (pe_op ho ha hb).imp fun _ _ _ h => tOp_of hd h
theorem de_cmp {op : CmpOp} {r : R2} {g : G2} (ho : OpR X (compareOp op) r) (hd : DOp X.K (cmOf X.mg) r g) (ha : DE X W a fa) (hb : DE X W b fb) (hm : behindInMarks op b = false) : DE X W (.Compare a [op] [b] pos) (e2 g fa fb) :=
  (pe_cmpR ho ha hb hm).imp fun _ _ _ h => tOp_of hd h
def toB : D → List MO → Res Bool
  | .t (.bl b), M => .ok b M
  | _, _ => .fail
def eB (F : FE) : Fn Bool := fun sl M => (F sl M).bind toB
theorem toB_bind {K : PySem.W.Frag} {cm : Str → Addr} {γ δ : Type} {R' : Rl γ δ} {μ I M H} {Wx : XK} {d : D} {f : Bool → List MO → Res γ} {Q : δ → Hp → Prop} (p : Post K cm R' μ I M H Wx ((toB d M).bind f) Q) :
    ∃ k, d = .t (.bl k) ∧ Post K cm R' μ I M H Wx (f k M) Q := by
  cases d with
  | m k => exact p.elim
  | t t => cases t <;> first | exact ⟨_, rfl, p⟩ | exact p.elim
theorem toB_here {K : PySem.W.Frag} {cm : Str → Addr} {μ I M H} {Wx : XK} {d : D} {Q : Bool → Hp → Prop} (p : Post K cm RB μ I M H Wx (toB d M) Q) (s : Sim K cm μ I M H) :
    ∃ k, d = .t (.bl k) ∧ Q k H := by
  cases d with
  | m k => exact p.elim
  | t t => cases t <;> first | exact ⟨_, rfl, p.here s rfl⟩ | exact p.elim
theorem tTest_of {t : TE} (hi : ∀ σ H Q, rdE X W F σ H Q → t σ H Q) {σ H Q} (h : rdB X W (eB F) σ H Q) : t σ H (fun x H' => ∃ k, x = .bl k ∧ Q k H') := by
  obtain ⟨μ, I, sl, M, s, rs, p⟩ := h
  refine hi _ _ _ ⟨μ, I, sl, M, s, rs, (Post.bind (R := RD X.K (cmOf X.mg)) p).imp fun x H1 ⟨μ1, I1, M1, a, st, ra, p1⟩ => ?_⟩
  obtain ⟨k, rfl, q⟩ := toB_here p1 st.sim
  exact ⟨k, ra, q⟩
theorem dt_cmp {op : CmpOp} {r : R2} {g : G2} (ho : OpR X (compareOp op) r) (hd : DOp X.K (cmOf X.mg) r g) (ha : DE X W a fa) (hb : DE X W b fb) (hm : behindInMarks op b = false) : DT X W (.Compare a [op] [b] pos) (eB (e2 g fa fb)) :=
  (pt_cmpR ho ha hb hm).imp fun _ _ _ h => tTest_of (fun _ _ _ q => tOp_of hd q) h
theorem dt_val (h : DE X W e F) (he : ∀ whole, isTrue e X.env whole = (do let v ← whole; standAt e.pos; holding [v] (truthy v)) := by intro _; rfl) : DT X W e (eB F) :=
  (pt_val h he).imp fun _ _ _ h => tTest_of (fun _ _ _ q => q) h
/-- a op b op' c -/
def e3 (g g' : G2) (fa fb fc : FE) : FE := fun sl M => (fa sl M).bind fun a M1 => (fb sl M1).bind fun b M2 => (g a b M2).bind fun z M3 => (toB z M3).bind fun k M4 =>
  if k then (fc sl M4).bind fun c M5 => g' b c M5 else .ok (.t (.bl false)) M4
theorem tChain_of {r r' : R2} {g g' : G2} (hd : DOp X.K (cmOf X.mg) r g) (hd' : DOp X.K (cmOf X.mg) r' g') {σ H Q} (h : rdE X W (e3 g g' fa fb fc) σ H Q) : tChain r r' (rdE X W fa) (rdE X W fb) (rdE X W fc) σ H Q := by
  obtain ⟨μ, I, sl, M, s, rs, p⟩ := h
  refine ⟨μ, I, sl, M, s, rs, (Post.bind (R := RD X.K (cmOf X.mg)) p).imp fun x H1 ⟨μ1, I1, M1, a, st, ra, p1⟩ => ?_⟩
  refine ⟨μ1, I1, sl, M1, st.sim, rs.mono st.gr, (Post.bind (R := RD X.K (cmOf X.mg)) p1).imp fun y H2 ⟨μ2, I2, M2, b, st2, rb, p2⟩ => ?_⟩
  refine hd _ _ _ _ _ _ _ _ _ _ st2.sim (ra.mono st2.gr) rb ((Post.bind (R := RD X.K (cmOf X.mg)) p2).imp fun z H3 ⟨μ3, I3, M3, d, st3, rd, p3⟩ => ?_)
  obtain ⟨k, rfl, p3'⟩ := toB_bind p3
  clear p3
  refine ⟨k, rd, ?_⟩
  cases k with
  | true =>
    rw [if_pos rfl]
    rw [if_pos rfl] at p3'
    have p3 := p3'
    have g3 := st.gr.trans (st2.gr.trans st3.gr)
    refine ⟨μ3, I3, sl, M3, st3.sim, rs.mono g3, (Post.bind (R := RD X.K (cmOf X.mg)) p3).imp fun w H4 ⟨μ4, I4, M4, c, st4, rc, p4⟩ => ?_⟩
    exact hd' _ _ _ _ _ _ _ _ _ _ st4.sim ((rb.mono st3.gr).mono st4.gr) rc p4
  | false =>
    rw [if_neg Bool.false_ne_true]
    rw [if_neg Bool.false_ne_true] at p3'
    exact p3'.here st3.sim (by unfold RD RepD RepT; rfl)
theorem de_chain {op op' : CmpOp} {r r' : R2} {g g' : G2} (ho : OpR X (compareOp op) r) (ho' : OpR X (compareOp op') r') (hd : DOp X.K (cmOf X.mg) r g) (hd' : DOp X.K (cmOf X.mg) r' g') (ha : DE X W a fa) (hb : DE X W b fb) (hc : DE X W c fc)
    (hm : lastMarks [op, op'] [b, c] = false := by with_unfolding_all rfl) : DE X W (.Compare a [op, op'] [b, c] pos) (e3 g g' fa fb fc) := (pe_chain ho ho' ha hb hc hm).imp fun _ _ _ h => tChain_of hd hd' h
theorem dt_chain {op op' : CmpOp} {r r' : R2} {g g' : G2} (ho : OpR X (compareOp op) r) (ho' : OpR X (compareOp op') r') (hd : DOp X.K (cmOf X.mg) r g) (hd' : DOp X.K (cmOf X.mg) r' g') (ha : DE X W a fa) (hb : DE X W b fb) (hc : DE X W c fc)
    (hm : lastMarks [op, op'] [b, c] = false := by with_unfolding_all rfl) : DT X W (.Compare a [op, op'] [b, c] pos) (eB (e3 g g' fa fb fc)) := (pt_chain ho ho' ha hb hc hm).imp fun _ _ _ h => tTest_of (fun _ _ _ q => tChain_of hd hd' q) h

/-! ### and, or, not -/
variable {ta tb : Fn Bool} {rest : List Expr}
def bAnd (ta tb : Fn Bool) : Fn Bool := fun sl M => (ta sl M).bind fun a M1 => if a then tb sl M1 else .ok false M1
def bOr (ta tb : Fn Bool) : Fn Bool := fun sl M => (ta sl M).bind fun a M1 => if a then .ok true M1 else tb sl M1
def bNot (ta : Fn Bool) : Fn Bool := fun sl M => (ta sl M).bind fun a M1 => .ok (!a) M1
theorem dw_and1 (h : DT X W a ta) : DW X W (.BoolOp .And [a] pos) ta := pw_and1 h
theorem dw_or1 (h : DT X W a ta) : DW X W (.BoolOp .Or [a] pos) ta := pw_or1 h
theorem dw_and (ha : DT X W a ta) (hb : DW X W (.BoolOp .And (b :: rest) pos) tb) : DW X W (.BoolOp .And (a :: b :: rest) pos) (bAnd ta tb) :=
  (pw_and ha hb).imp fun σ H Q ⟨μ, I, sl, M, s, rs, p⟩ => ⟨μ, I, sl, M, s, rs, (Post.bind (R := RB) p).imp fun x H1 ⟨μ1, I1, M1, k, st, ra, p1⟩ => by
    have ra : k = x := ra
    subst ra
    cases k with
    | true => rw [if_pos rfl] at p1; exact ⟨μ1, I1, sl, M1, st.sim, rs.mono st.gr, p1⟩
    | false => rw [if_neg Bool.false_ne_true] at p1; exact p1.here st.sim rfl⟩
theorem dw_or (ha : DT X W a ta) (hb : DW X W (.BoolOp .Or (b :: rest) pos) tb) : DW X W (.BoolOp .Or (a :: b :: rest) pos) (bOr ta tb) :=
  (pw_or ha hb).imp fun σ H Q ⟨μ, I, sl, M, s, rs, p⟩ => ⟨μ, I, sl, M, s, rs, (Post.bind (R := RB) p).imp fun x H1 ⟨μ1, I1, M1, k, st, ra, p1⟩ => by
    have ra : k = x := ra
    subst ra
    cases k with
    | true => rw [if_pos rfl] at p1; exact p1.here st.sim rfl
    | false => rw [if_neg Bool.false_ne_true] at p1; exact ⟨μ1, I1, sl, M1, st.sim, rs.mono st.gr, p1⟩⟩
theorem dt_w (h : DW X W e ta) : DT X W e ta := h.pt
theorem dt_not (ha : DT X W a ta) : DT X W (.UnaryOp .Not a pos) (bNot ta) :=
  (pt_not ha).imp fun σ H Q ⟨μ, I, sl, M, s, rs, p⟩ => ⟨μ, I, sl, M, s, rs, (Post.bind (R := RB) p).imp fun x H1 ⟨μ1, I1, M1, k, st, ra, p1⟩ => by
    have ra : k = x := ra
    subst ra
    exact p1.here st.sim rfl⟩
/-- .. as values -/
def eAnd (fa fb : FE) : FE := fun sl M => (fa sl M).bind fun a M1 => (toB a M1).bind fun k M2 => if k then fb sl M2 else .ok (.t (.bl false)) M2
def eOr (fa fb : FE) : FE := fun sl M => (fa sl M).bind fun a M1 => (toB a M1).bind fun k M2 => if k then .ok (.t (.bl true)) M2 else fb sl M2
def eNot (fa : FE) : FE := fun sl M => (fa sl M).bind fun a M1 => (toB a M1).bind fun k M2 => .ok (.t (.bl !k)) M2
theorem de_one {op : BoolOp} (h : DE X W a fa) : DE X W (.BoolOp op [a] pos) fa := pe_one h
theorem de_and (ha : DE X W a fa) (hb : DE X W (.BoolOp .And (b :: rest) pos) fb) : DE X W (.BoolOp .And (a :: b :: rest) pos) (eAnd fa fb) :=
  (pe_and ha hb).imp fun σ H Q ⟨μ, I, sl, M, s, rs, p⟩ => ⟨μ, I, sl, M, s, rs, (Post.bind (R := RD X.K (cmOf X.mg)) p).imp fun x H1 ⟨μ1, I1, M1, d, st, ra, p1⟩ => by
    obtain ⟨k, rfl, p1'⟩ := toB_bind p1
    clear p1
    have p1 := p1'
    clear p1'
    refine ⟨k, ra, ?_⟩
    cases k with
    | true => rw [if_pos rfl] at p1 ⊢; exact ⟨μ1, I1, sl, M1, st.sim, rs.mono st.gr, p1⟩
    | false => rw [if_neg Bool.false_ne_true] at p1 ⊢; exact p1.here st.sim (by unfold RD RepD RepT; rfl)⟩
theorem de_or (ha : DE X W a fa) (hb : DE X W (.BoolOp .Or (b :: rest) pos) fb) : DE X W (.BoolOp .Or (a :: b :: rest) pos) (eOr fa fb) :=
  (pe_or ha hb).imp fun σ H Q ⟨μ, I, sl, M, s, rs, p⟩ => ⟨μ, I, sl, M, s, rs, (Post.bind (R := RD X.K (cmOf X.mg)) p).imp fun x H1 ⟨μ1, I1, M1, d, st, ra, p1⟩ => by
    obtain ⟨k, rfl, p1'⟩ := toB_bind p1
    clear p1
    have p1 := p1'
    clear p1'
    refine ⟨k, ra, ?_⟩
    cases k with
    | true => rw [if_pos rfl] at p1 ⊢; exact p1.here st.sim (by unfold RD RepD RepT; rfl)
    | false => rw [if_neg Bool.false_ne_true] at p1 ⊢; exact ⟨μ1, I1, sl, M1, st.sim, rs.mono st.gr, p1⟩⟩
theorem de_not (ha : DE X W a fa) : DE X W (.UnaryOp .Not a pos) (eNot fa) :=
  (pe_not ha).imp fun σ H Q ⟨μ, I, sl, M, s, rs, p⟩ => ⟨μ, I, sl, M, s, rs, (Post.bind (R := RD X.K (cmOf X.mg)) p).imp fun x H1 ⟨μ1, I1, M1, d, st, ra, p1⟩ => by
    obtain ⟨k, rfl, p1'⟩ := toB_bind p1
    exact ⟨_, ra, p1'.here st.sim (by unfold RD RepD RepT; rfl)⟩⟩
def eIf (t : Fn Bool) (fa fb : FE) : FE := fun sl M => (t sl M).bind fun k M1 => if k then fa sl M1 else fb sl M1
theorem de_if (hc : DT X W c ta) (ha : DE X W a fa) (hb : DE X W b fb) : DE X W (.IfExp c a b pos) (eIf ta fa fb) :=
  (pe_ifExp hc ha hb).imp fun σ H Q ⟨μ, I, sl, M, s, rs, p⟩ => ⟨μ, I, sl, M, s, rs, (Post.bind (R := RB) p).imp fun x H1 ⟨μ1, I1, M1, k, st, ra, p1⟩ => by
    have ra : k = x := ra
    subst ra
    cases k with
    | true => rw [if_pos rfl] at p1 ⊢; exact ⟨μ1, I1, sl, M1, st.sim, rs.mono st.gr, p1⟩
    | false => rw [if_neg Bool.false_ne_true] at p1 ⊢; exact ⟨μ1, I1, sl, M1, st.sim, rs.mono st.gr, p1⟩⟩

/-! ### argument lists, displays -/
variable {es : List Expr} {fs : Fn (List D)}
def aNil : Fn (List D) := fun _ M => .ok [] M
def aCons (fa : FE) (fs : Fn (List D)) : Fn (List D) := fun sl M => (fa sl M).bind fun a M1 => (fs sl M1).bind fun as M2 => .ok (a :: as) M2
theorem da_nil : DA X W [] aNil := pa_nil.imp fun σ H Q ⟨μ, I, sl, M, s, rs, p⟩ => p.here s RepDL.nil
theorem da_cons (ha : DE X W e fa) (hr : DA X W es fs) (hs : starEach (e :: es) X.env = (false, eval e X.env) :: starEach es X.env := by rfl) : DA X W (e :: es) (aCons fa fs) :=
  (pa_cons ha hr hs).imp fun σ H Q ⟨μ, I, sl, M, s, rs, p⟩ => ⟨μ, I, sl, M, s, rs, (Post.bind (R := RD X.K (cmOf X.mg)) p).imp fun x H1 ⟨μ1, I1, M1, d, st, ra, p1⟩ =>
    ⟨μ1, I1, sl, M1, st.sim, rs.mono st.gr, (Post.bind (R := RL X.K (cmOf X.mg)) p1).imp fun y H2 ⟨μ2, I2, M2, ds, st2, rb, p2⟩ => p2.here st2.sim (RepDL.cons (ra.mono st2.gr) rb)⟩⟩
/-- the values as trees: what is of the store is known from now on -/
def toTs (g : List T → Option T) : List D → List MO → Res D := fun ds M => match frzL M ds with
  | some (ts, M1) => match g ts with
    | some t => .ok (.t t) M1
    | none => .fail
  | none => .fail
def eTup (fs : Fn (List D)) : FE := fun sl M => (fs sl M).bind (toTs fun ts => if ts.length ≤ sizeLine then some (.tup ts) else none)
def eLst (fs : Fn (List D)) : FE := fun sl M => (fs sl M).bind (toTs fun ts => if ts.length ≤ sizeLine then some (.lst ts) else none)
theorem de_tup {x1 : Nat} (h : DA X W es fs) : DE X W (.Tuple es x1 pos) (eTup fs) :=
  (pe_tup h).imp fun σ H Q ⟨μ, I, sl, M, s, rs, p⟩ => ⟨μ, I, sl, M, s, rs, (Post.bind (R := RL X.K (cmOf X.mg)) p).imp fun xs H1 ⟨μ1, I1, M1, ds, st, ra, p1⟩ => by
    unfold toTs at p1
    split at p1
    · rename_i ts M2 e1
      obtain ⟨I2, st2, r2⟩ := frzL_ok st.sim ra e1
      split at p1
      · rename_i t e2
        dsimp only at e2
        split at e2
        · rename_i hl
          cases e2
          exact ⟨by rw [← r2.length]; exact hl, fun q hq => ((p1.step st2).alloc st2.sim).tup st2.sim.sub r2 hq⟩
        · cases e2
      · exact p1.elim
    · exact p1.elim⟩
theorem de_lst (h : DA X W es fs) : DE X W (.List es pos) (eLst fs) :=
  (pe_lst h).imp fun σ H Q ⟨μ, I, sl, M, s, rs, p⟩ => ⟨μ, I, sl, M, s, rs, (Post.bind (R := RL X.K (cmOf X.mg)) p).imp fun xs H1 ⟨μ1, I1, M1, ds, st, ra, p1⟩ => by
    unfold toTs at p1
    split at p1
    · rename_i ts M2 e1
      obtain ⟨I2, st2, r2⟩ := frzL_ok st.sim ra e1
      split at p1
      · rename_i t e2
        dsimp only at e2
        split at e2
        · rename_i hl
          cases e2
          exact ⟨by rw [← r2.length]; exact hl, fun q hq => ((p1.step st2).alloc st2.sim).lst st2.sim.sub r2 hq⟩
        · cases e2
      · exact p1.elim
    · exact p1.elim⟩
/-- a list that is to change -/
def eLstM (fs : Fn (List D)) : FE := fun sl M => (fs sl M).bind fun ds M1 => match frzL M1 ds with
  | some (ts, M2) => if ts.length ≤ sizeLine then .ok (.m M2.length) (M2 ++ [.lst ts]) else .fail
  | none => .fail
theorem de_lstM (h : DA X W es fs) : DE X W (.List es pos) (eLstM fs) :=
  (pe_lst h).imp fun σ H Q ⟨μ, I, sl, M, s, rs, p⟩ => ⟨μ, I, sl, M, s, rs, (Post.bind (R := RL X.K (cmOf X.mg)) p).imp fun xs H1 ⟨μ1, I1, M1, ds, st, ra, p1⟩ => by
    split at p1
    · rename_i ts M2 e1
      obtain ⟨I2, st2, r2⟩ := frzL_ok st.sim ra e1
      split at p1
      · rename_i hl
        exact ⟨by rw [← r2.length]; exact hl, fun q hq => ((p1.step st2).mnew st2.sim).lst st2.sim.sub r2 hq⟩
      · exact p1.elim
    · exact p1.elim⟩

/-! ### operations on trees -/
def gP (f : List T → Option T) (ds : List D) (M : List MO) : Res D := match allT ds with
  | some ts => match f ts with
    | some c => .ok (.t c) M
    | none => .fail
  | none => match pkL M ds with
    | some ts => match f ts with
      | some c => if isSc c then .ok (.t c) M else .fail
      | none => .fail
    | none => .fail
/-- what a rule asks, for trees -/
def TCall (K : PySem.W.Frag) (cm : Str → Addr) (r : List V → Hp → VK → Prop) (f : List T → Option T) : Prop := ∀ I H ts c vs Q, Ex I H → RepTL K cm I ts vs → f ts = some c → Alloc K cm I H c Q → r vs H Q
theorem TCall.at {K : PySem.W.Frag} {cm : Str → Addr} {r : List V → Hp → VK → Prop} {f : List T → Option T} (h : TCall K cm r f) {μ I M H ds vs Q} {Wx : XK} (s : Sim K cm μ I M H) (rr : RepDL K cm μ I M.length ds vs)
    (p : Post K cm (RD K cm) μ I M H Wx (gP f ds M) Q) : r vs H Q := by
  unfold gP at p
  split at p
  · rename_i ts e1
    split at p
    · rename_i c e2
      exact h I H ts c vs Q s.sub (allT_ok rr e1) e2 (p.alloc s)
    · exact p.elim
  · split at p
    · rename_i ts e1
      split at p
      · rename_i c e2
        split at p
        · rename_i hc
          refine h H H ts c vs Q (Ex.refl _) (pkL_ok s rr e1) e2 fun I' H' v st r => ?_
          exact p μ I H' v (StepT.step ⟨Ex.refl _, s.sub.trans st.hh, st.hh, fun _ _ _ n => n⟩ s) (RepT.sc hc r)
        · exact p.elim
      · exact p.elim
    · exact p.elim
def g2 (f : T → T → Option T) : G2 := fun a b M => match a, b with
  | .t x, .t y => (match f x y with
    | some c => .ok (.t c) M
    | none => .fail)
  | a, b => match pk M a, pk M b with
    | some x, some y => (match f x y with
      | some c => if isSc c then .ok (.t c) M else .fail
      | none => .fail)
    | _, _ => .fail
def TOp (K : PySem.W.Frag) (cm : Str → Addr) (r : R2) (f : T → T → Option T) : Prop := ∀ I H a b c x y Q, Ex I H → RepT K cm I a x → RepT K cm I b y → f a b = some c → Alloc K cm I H c Q → r x y H Q
theorem TOp.d {K : PySem.W.Frag} {cm : Str → Addr} {r : R2} {f : T → T → Option T} (h : TOp K cm r f) : DOp K cm r (g2 f) := fun μ I M H x y a b Q Wx s ra rb p => by
  unfold g2 at p
  split at p
  · split at p
    · rename_i c e2
      exact h I H _ _ c x y Q s.sub ra rb e2 (p.alloc s)
    · exact p.elim
  · split at p
    · rename_i u v e1 e2
      split at p
      · rename_i c e3
        split at p
        · rename_i hc
          refine h H H u v c x y Q (Ex.refl _) (pk_ok s ra e1) (pk_ok s rb e2) e3 fun I' H' v st r => ?_
          exact p μ I H' v (StepT.step ⟨Ex.refl _, s.sub.trans st.hh, st.hh, fun _ _ _ n => n⟩ s) (RepT.sc hc r)
        · exact p.elim
      · exact p.elim
    · exact p.elim
end
end Bm

namespace Bm
open PySem L2

section
variable {K : PySem.W.Frag} {cm : Str → Addr} {I H : Hp} {x y v : V} {Q : VK}
theorem rep_int {i : Int} : RepT K cm I (.int i) (.int i) := by unfold RepT; rfl
theorem rep_bl {i : Bool} : RepT K cm I (.bl i) (.bl i) := by unfold RepT; rfl
theorem rep_str {i : Str} : RepT K cm I (.str i) (.str i) := by unfold RepT; rfl
theorem rep_non : RepT K cm I .non .non := by unfold RepT; rfl
theorem inv_int {i : Int} (h : RepT K cm I (.int i) v) : v = .int i := h
theorem inv_bl {i : Bool} (h : RepT K cm I (.bl i) v) : v = .bl i := h
theorem inv_str {i : Str} (h : RepT K cm I (.str i) v) : v = .str i := h
theorem inv_non (h : RepT K cm I .non v) : v = .non := h
theorem inv_lst {ts : List T} (h : RepT K cm I (.lst ts) v) : ∃ a xs, v = .ref a ∧ I a = some (.lst xs) ∧ RepTL K cm I ts xs := by unfold RepT at h; exact h
theorem inv_scr {ns : List Int} (h : RepT K cm I (.scr ns) v) : ∃ a, v = .ref a ∧ SqL K I a (ns.map V.int) := by unfold RepT at h; exact h
theorem inv_tupU {ts : List T} (h : RepT K cm I (.tup ts) v) : ∃ a xs, v = .ref a ∧ SqU K I a xs ∧ RepTL K cm I ts xs := by unfold RepT at h; exact h
theorem inv_tup {ts : List T} (h : RepT K cm I (.tup ts) v) : ∃ a xs, v = .ref a ∧ SqT K I a xs ∧ RepTL K cm I ts xs := let ⟨a, xs, h1, h2, h3⟩ := inv_tupU h; ⟨a, xs, h1, h2.t, h3⟩
theorem inv_cons {t : T} {ts : List T} {xs : List V} (h : RepTL K cm I (t :: ts) xs) : ∃ x r, xs = x :: r ∧ RepT K cm I t x ∧ RepTL K cm I ts r := by unfold RepTL at h; exact h
theorem inv_nil {xs : List V} (h : RepTL K cm I [] xs) : xs = [] := by unfold RepTL at h; exact h
theorem inv_1 {t : T} {xs : List V} (h : RepTL K cm I [t] xs) : ∃ x, xs = [x] ∧ RepT K cm I t x := by
  obtain ⟨x, r, rfl, h1, h2⟩ := inv_cons h
  rw [inv_nil h2]; exact ⟨x, rfl, h1⟩
theorem inv_2 {t u : T} {xs : List V} (h : RepTL K cm I [t, u] xs) : ∃ x y, xs = [x, y] ∧ RepT K cm I t x ∧ RepT K cm I u y := by
  obtain ⟨x, r, rfl, h1, h2⟩ := inv_cons h
  obtain ⟨y, rfl, h3⟩ := inv_1 h2
  exact ⟨x, y, rfl, h1, h3⟩
end

section
variable {K : PySem.W.Frag} {cm : Str → Addr} {μ : Nat → Addr} {I H : Hp} {M : List MO} {Wx : XK} {Q : VK}
theorem Post.int {i : Int} (p : Post K cm (RD K cm) μ I M H Wx (.ok (.t (.int i)) M) Q) (s : Sim K cm μ I M H) : Q (.int i) H := p μ I H (.int i) (Step.refl s) (rep_int (K := K) (cm := cm) (I := I))
theorem Post.bl {i : Bool} (p : Post K cm (RD K cm) μ I M H Wx (.ok (.t (.bl i)) M) Q) (s : Sim K cm μ I M H) : Q (.bl i) H := p μ I H (.bl i) (Step.refl s) (rep_bl (K := K) (cm := cm) (I := I))
theorem Post.str {i : Str} (p : Post K cm (RD K cm) μ I M H Wx (.ok (.t (.str i)) M) Q) (s : Sim K cm μ I M H) : Q (.str i) H := p μ I H (.str i) (Step.refl s) (rep_str (K := K) (cm := cm) (I := I))
theorem Post.non (p : Post K cm (RD K cm) μ I M H Wx (.ok (.t .non) M) Q) (s : Sim K cm μ I M H) : Q .non H := p μ I H .non (Step.refl s) (rep_non (K := K) (cm := cm) (I := I))
end

/-! ### int operations -/
def int2 (C : Int → Int → Prop) [∀ i j, Decidable (C i j)] (g : Int → Int → T) : T → T → Option T
  | .int i, .int j => if C i j then some (g i j) else none
  | _, _ => none
theorem top_I {K : PySem.W.Frag} {cm : Str → Addr} {C : Int → Int → Prop} [∀ i j, Decidable (C i j)] {g : Int → Int → T} {gv : Int → Int → V} (hg : ∀ i j I, RepT K cm I (g i j) (gv i j)) : TOp K cm (rI C gv) (int2 C g) := by
  intro I H a b c x y Q s ra rb e al
  unfold int2 at e
  split at e
  · rename_i i j
    split at e
    · rename_i hc
      cases e
      exact ⟨i, j, inv_int ra, inv_int rb, hc, al.val s (hg _ _ _)⟩
    · cases e
  · cases e
theorem top_I0 {K : PySem.W.Frag} {cm : Str → Addr} {g : Int → Int → T} {gv : Int → Int → V} (hg : ∀ i j I, RepT K cm I (g i j) (gv i j)) : TOp K cm (rI0 gv) (int2 (fun _ _ => True) g) := by
  intro I H a b c x y Q s ra rb e al
  unfold int2 at e
  split at e
  · rename_i i j
    rw [if_pos trivial] at e
    cases e
    exact ⟨i, j, inv_int ra, inv_int rb, al.val s (hg _ _ _)⟩
  · cases e
instance (i j : Int) : Decidable (CMul i j) := by unfold CMul; infer_instance
instance (i j : Int) : Decidable (CPow i j) := by unfold CPow; infer_instance
instance (i j : Int) : Decidable (CDivN i j) := by unfold CDivN; infer_instance
theorem TOp.or {K : PySem.W.Frag} {cm : Str → Addr} {r r' : R2} {f f' : T → T → Option T} (h : TOp K cm r f) (h' : TOp K cm r' f') : TOp K cm (fun x y H Q => r x y H Q ∨ r' x y H Q) (fun a b => match f a b with | some c => some c | none => f' a b) := by
  intro I H a b c x y Q s ra rb e al
  dsimp only at e
  split at e
  · rename_i c' e'
    cases e
    exact .inl (h I H a b _ x y Q s ra rb e' al)
  · exact .inr (h' I H a b c x y Q s ra rb e al)

/-! ### + -/
def cat2 : T → T → Option T
  | .str i, .str j => if i.length + j.length ≤ sizeLine then some (.str (i ++ j)) else none
  | _, _ => none
theorem top_cat {K : PySem.W.Frag} {cm : Str → Addr} : TOp K cm (fun x y H Q => ∃ i j, x = .str i ∧ y = .str j ∧ i.length + j.length ≤ sizeLine ∧ Q (.str (i ++ j)) H) cat2 := by
  intro I H a b c x y Q s ra rb e al
  unfold cat2 at e
  split at e
  · split at e
    · rename_i hc
      cases e
      exact ⟨_, _, inv_str ra, inv_str rb, hc, al.val s rep_str⟩
    · cases e
  · cases e
def catT2 : T → T → Option T
  | .tup xs, .tup ys => if xs.length + ys.length ≤ sizeLine then some (.tup (xs ++ ys)) else none
  | _, _ => none
theorem top_catT {K : PySem.W.Frag} {cm : Str → Addr} : TOp K cm (rCatA K) catT2 := by
  intro I H a b c x y Q s ra rb e al
  unfold catT2 at e
  split at e
  · rename_i ts us
    split at e
    · rename_i hc
      cases e
      obtain ⟨a', xs, rfl, h1, h2⟩ := inv_tup ra
      obtain ⟨b', ys, rfl, h3, h4⟩ := inv_tup rb
      refine ⟨a', b', xs, ys, rfl, rfl, sqT_ex s h1, sqT_ex s h3, by rw [← h2.length, ← h4.length]; exact hc, fun z => ?_, fun _ z => ?_, fun _ _ p hp => al.tup s (h2.append h4) hp⟩
      · subst z
        have : ts = [] := List.eq_nil_of_length_eq_zero (by rw [h2.length]; rfl)
        subst this
        exact al.val s rb
      · subst z
        have : us = [] := List.eq_nil_of_length_eq_zero (by rw [h4.length]; rfl)
        subst this
        rw [List.append_nil] at al
        exact al.val s ra
    · cases e
  · cases e
/-- a list's items -/
def lstOf (M : List MO) : D → Option (List T)
  | .t (.lst ts) => some ts
  | .m k => match M[k]? with
    | some (.lst ts) => some ts
    | some (.frz (.lst ts)) => some ts
    | _ => none
  | _ => none
theorem lstOf_ok {K : PySem.W.Frag} {cm : Str → Addr} {μ : Nat → Addr} {I H : Hp} {M : List MO} (s : Sim K cm μ I M H) {d : D} {v : V} {ts : List T} (r : RepD K cm μ I M.length d v) (e : lstOf M d = some ts) :
    ∃ a xs, v = .ref a ∧ H a = some (.lst xs) ∧ RepTL K cm I ts xs := by
  cases d with
  | t t =>
    cases t <;> first
      | (cases e; done)
      | (cases e
         obtain ⟨a, xs, h1, h2, h3⟩ := inv_lst r
         exact ⟨a, xs, h1, s.sub _ _ h2, h3⟩)
  | m k =>
    obtain ⟨_, rfl⟩ := r
    simp only [lstOf] at e
    split at e
    · rename_i us q
      cases e
      obtain ⟨_, xs, h1, h2⟩ := s.obj k _ q
      exact ⟨_, xs, rfl, h1, h2⟩
    · rename_i us q
      cases e
      obtain ⟨a, xs, h1, h2, h3⟩ := inv_lst (s.obj k _ q)
      exact ⟨a, xs, h1, s.sub _ _ h2, h3⟩
    · cases e
/-- lists: both stand as they are -/
def gCatL : G2 := fun a b M => match lstOf M a, lstOf M b with
  | some xs, some ys => if xs.length + ys.length ≤ sizeLine then .ok (.t (.lst (xs ++ ys))) M else .fail
  | _, _ => .fail
theorem dop_catL {K : PySem.W.Frag} {cm : Str → Addr} : DOp K cm rCat gCatL := fun μ I M H x y a b Q Wx s ra rb p => by
  unfold gCatL at p
  split at p
  · rename_i ts us e1 e2
    split at p
    · rename_i hc
      obtain ⟨a', xs, rfl, h1, h2⟩ := lstOf_ok s ra e1
      obtain ⟨b', ys, rfl, h3, h4⟩ := lstOf_ok s rb e2
      exact ⟨a', b', xs, ys, rfl, rfl, h1, h3, by rw [← h2.length, ← h4.length]; exact hc, fun q hq => (p.alloc s).lst s.sub (h2.append h4) hq⟩
    · exact p.elim
  · exact p.elim
/-- list * int -/
def gRepL : G2 := fun a b M => match lstOf M a, b with
  | some xs, .t (.int k) => if -(2 ^ 63) ≤ k ∧ k < 2 ^ 63 ∧ xs.length * k.toNat ≤ sizeLine then .ok (.t (.lst (List.replicate k.toNat xs).flatten)) M else .fail
  | _, _ => .fail
theorem rep_flat {K : PySem.W.Frag} {cm : Str → Addr} {I : Hp} {ts : List T} {xs : List V} (h : RepTL K cm I ts xs) : ∀ n, RepTL K cm I (List.replicate n ts).flatten (List.replicate n xs).flatten
  | 0 => RepTL.nil
  | n + 1 => by rw [List.replicate_succ, List.replicate_succ, List.flatten_cons, List.flatten_cons]; exact h.append (rep_flat h n)
theorem dop_repL {K : PySem.W.Frag} {cm : Str → Addr} : DOp K cm rRep gRepL := fun μ I M H x y a b Q Wx s ra rb p => by
  unfold gRepL at p
  split at p
  · rename_i ts k e1
    split at p
    · rename_i hc
      obtain ⟨a', xs, rfl, h1, h2⟩ := lstOf_ok s ra e1
      exact ⟨a', k, xs, rfl, inv_int (K := K) (cm := cm) (I := I) rb, h1, hc.1, hc.2.1, by rw [← h2.length]; exact hc.2.2, fun q hq => (p.alloc s).lst s.sub (rep_flat h2 _) hq⟩
    · exact p.elim
  · exact p.elim

def addT : T → T → Option T := fun a b => match int2 (fun _ _ => True) (fun i j => .int (i + j)) a b with
  | some c => some c
  | none => match cat2 a b with
    | some c => some c
    | none => catT2 a b
theorem op_addA {X : Cx} : OpR X (binaryOp .Add) (fun x y H Q => rI0 (fun i j => .int (i + j)) x y H Q ∨ ((∃ i j, x = .str i ∧ y = .str j ∧ i.length + j.length ≤ sizeLine ∧ Q (.str (i ++ j)) H) ∨ rCatA X.K x y H Q)) := op_add.or (op_add_str.or op_catA)
theorem top_add {K : PySem.W.Frag} {cm : Str → Addr} : TOp K cm (fun x y H Q => rI0 (fun i j => .int (i + j)) x y H Q ∨ ((∃ i j, x = .str i ∧ y = .str j ∧ i.length + j.length ≤ sizeLine ∧ Q (.str (i ++ j)) H) ∨ rCatA K x y H Q)) addT :=
  (top_I0 fun _ _ _ => rep_int).or (top_cat.or top_catT)

section
variable {X : Cx} {W : WX} {a b : Expr} {fa fb : FE} {pos : Pos}
def subT := int2 (fun _ _ => True) fun i j => T.int (i - j)
def mulT := int2 CMul fun i j => T.int (i * j)
def powT := int2 CPow fun i j => T.int (i ^ j.toNat)
def divT := int2 CDivN fun i j => T.int (i.fdiv j)
def modT := int2 (fun _ j => j ≠ 0) fun i j => T.int (i.fmod j)
theorem de_add (ha : DE X W a fa) (hb : DE X W b fb) : DE X W (.BinOp a .Add b pos) (e2 (g2 addT) fa fb) := de_op op_addA top_add.d ha hb
theorem de_sub (ha : DE X W a fa) (hb : DE X W b fb) : DE X W (.BinOp a .Sub b pos) (e2 (g2 subT) fa fb) := de_op op_sub (top_I0 fun _ _ _ => rep_int).d ha hb
theorem de_mul (ha : DE X W a fa) (hb : DE X W b fb) : DE X W (.BinOp a .Mult b pos) (e2 (g2 mulT) fa fb) := de_op op_mul (top_I fun _ _ _ => rep_int).d ha hb
theorem de_pow (ha : DE X W a fa) (hb : DE X W b fb) : DE X W (.BinOp a .Pow b pos) (e2 (g2 powT) fa fb) := de_op op_pow (top_I fun _ _ _ => rep_int).d ha hb
theorem de_fdiv (ha : DE X W a fa) (hb : DE X W b fb) : DE X W (.BinOp a .FloorDiv b pos) (e2 (g2 divT) fa fb) := de_op op_fdivN (top_I fun _ _ _ => rep_int).d ha hb
theorem de_mod (ha : DE X W a fa) (hb : DE X W b fb) : DE X W (.BinOp a .Mod b pos) (e2 (g2 modT) fa fb) := de_op op_modN (top_I fun _ _ _ => rep_int).d ha hb
/-- lists joined -/
theorem de_catL (ha : DE X W a fa) (hb : DE X W b fb) : DE X W (.BinOp a .Add b pos) (e2 gCatL fa fb) := de_op op_cat dop_catL ha hb
theorem de_repL (ha : DE X W a fa) (hb : DE X W b fb) : DE X W (.BinOp a .Mult b pos) (e2 gRepL fa fb) := de_op op_rep dop_repL ha hb
/-- +, whatever it joins -/
def gAdd : G2 := fun a b M => match lstOf M a, lstOf M b with
  | some _, some _ => gCatL a b M
  | _, _ => g2 addT a b M
theorem DOp.or {K : PySem.W.Frag} {cm : Str → Addr} {r r' : R2} {g g' : G2} {c : D → D → List MO → Bool} (h : DOp K cm r g) (h' : DOp K cm r' g') : DOp K cm (fun x y H Q => r x y H Q ∨ r' x y H Q) (fun a b M => if c a b M then g a b M else g' a b M) :=
  fun μ I M H x y a b Q Wx s ra rb p => by
    dsimp only at p
    split at p
    · exact .inl (h μ I M H x y a b Q Wx s ra rb p)
    · exact .inr (h' μ I M H x y a b Q Wx s ra rb p)
theorem dop_add {K : PySem.W.Frag} {cm : Str → Addr} : DOp K cm (fun x y H Q => rCat x y H Q ∨ (rI0 (fun i j => .int (i + j)) x y H Q ∨ ((∃ i j, x = .str i ∧ y = .str j ∧ i.length + j.length ≤ sizeLine ∧ Q (.str (i ++ j)) H) ∨ rCatA K x y H Q))) gAdd :=
  fun μ I M H x y a b Q Wx s ra rb p => by
    unfold gAdd at p
    split at p
    · exact .inl (dop_catL μ I M H x y a b Q Wx s ra rb p)
    · exact .inr (top_add.d μ I M H x y a b Q Wx s ra rb p)
theorem de_plus (ha : DE X W a fa) (hb : DE X W b fb) : DE X W (.BinOp a .Add b pos) (e2 gAdd fa fb) := de_op (op_cat.or op_addA) dop_add ha hb
end

/-! ### comparisons -/
mutual
/-- a tree as data -/
def toPd : T → Option PyData
  | .non => some .none
  | .bl b => some (.bool b)
  | .int i => some (.int i)
  | .str s => some (.str s)
  | .lst ts => match toPdL ts with
    | some ds => some (.list ds)
    | none => none
  | .tup ts => match toPdL ts with
    | some ds => some (.tuple ds)
    | none => none
  | _ => none
def toPdL : List T → Option (List PyData)
  | [] => some []
  | t :: ts => match toPd t, toPdL ts with
    | some d, some ds => some (d :: ds)
    | _, _ => none
end
section
variable {K : PySem.W.Frag} {cm : Str → Addr} {I : Hp}
mutual
theorem toPd_ok : ∀ (t : T) (d : PyData) (v : V), toPd t = some d → RepT K cm I t v → Dp K I v d
  | .non, d, v, e, r => by simp [toPd] at e; subst e; rw [inv_non r]; exact .non
  | .bl b, d, v, e, r => by simp [toPd] at e; subst e; rw [inv_bl r]; exact .bl b
  | .int i, d, v, e, r => by simp [toPd] at e; subst e; rw [inv_int r]; exact .int i
  | .str x, d, v, e, r => by simp [toPd] at e; subst e; rw [inv_str r]; exact .str x
  | .lst ts, d, v, e, r => by
    obtain ⟨a, xs, rfl, h1, h2⟩ := inv_lst r
    unfold toPd at e
    split at e
    · rename_i ds e1
      cases e
      exact .lst (SqL.of h1) (toPdL_ok ts ds xs e1 h2)
    · cases e
  | .tup ts, d, v, e, r => by
    obtain ⟨a, xs, rfl, h1, h2⟩ := inv_tup r
    unfold toPd at e
    split at e
    · rename_i ds e1
      cases e
      exact .tup h1 (toPdL_ok ts ds xs e1 h2)
    · cases e
  | .ty n, d, v, e, r => by simp [toPd] at e
  | .cls n, d, v, e, r => by simp [toPd] at e
  | .scr n, d, v, e, r => by simp [toPd] at e
  | .glo n, d, v, e, r => by simp [toPd] at e
  | .ins c ns ts, d, v, e, r => by simp [toPd] at e
theorem toPdL_ok : ∀ (ts : List T) (ds : List PyData) (xs : List V), toPdL ts = some ds → RepTL K cm I ts xs → DpAll K I xs ds
  | [], ds, xs, e, r => by simp [toPdL] at e; subst e; rw [inv_nil r]; exact .nil
  | t :: ts, ds, xs, e, r => by
    obtain ⟨x, r', rfl, h1, h2⟩ := inv_cons r
    unfold toPdL at e
    split at e
    · rename_i d ds' e1 e2
      cases e
      exact .cons (toPd_ok t d x e1 h1) (toPdL_ok ts ds' r' e2 h2)
    · cases e
end
end
mutual
theorem Dp.ex {K : PySem.W.Frag} {I H : Hp} (s : Ex I H) : ∀ {v : V} {d : PyData}, Dp K I v d → Dp K H v d
  | _, _, .non => .non
  | _, _, .bl b => .bl b
  | _, _, .int b => .int b
  | _, _, .str b => .str b
  | _, _, .lst h r => .lst (sqL_ex s h) (DpAll.ex s r)
  | _, _, .tup h r => .tup (sqT_ex s h) (DpAll.ex s r)
theorem DpAll.ex {K : PySem.W.Frag} {I H : Hp} (s : Ex I H) : ∀ {v : List V} {d : List PyData}, DpAll K I v d → DpAll K H v d
  | _, _, .nil => .nil
  | _, _, .cons h r => .cons (Dp.ex s h) (DpAll.ex s r)
end
def eqD : T → T → Option Bool := fun a b => match toPd a, toPd b with
  | some d, some e => if SeqAt.shaped d = true ∧ SeqAt.shaped e = true then some (PyData.eqv d e) else none
  | _, _ => none
def eqS : T → T → Option Bool
  | .non, .non => some true
  | .non, .int _ => some false
  | .int _, .non => some false
  | .non, .bl _ => some false
  | .bl _, .non => some false
  | .non, .str _ => some false
  | .str _, .non => some false
  | .int i, .int j => some (decide (i = j))
  | .bl i, .bl j => some (decide (i = j))
  | .str i, .str j => some (decide (i = j))
  | .int _, .str _ => some false
  | .str _, .int _ => some false
  | .bl _, .str _ => some false
  | .str _, .bl _ => some false
  | _, _ => none
def eqT : T → T → Option T := fun a b => match eqS a b with
  | some k => some (.bl k)
  | none => match eqD a b with
    | some k => some (.bl k)
    | none => none
def neT : T → T → Option T := fun a b => match eqS a b with
  | some k => some (.bl !k)
  | none => match eqD a b with
    | some k => some (.bl !k)
    | none => none
theorem eqS_ok {K : PySem.W.Frag} {cm : Str → Addr} {I : Hp} {a b : T} {x y : V} {k : Bool} (e : eqS a b = some k) (ra : RepT K cm I a x) (rb : RepT K cm I b y) : scal x y = true ∧ decide (x = y) = k := by
  unfold eqS at e
  split at e <;> first
    | (cases e; done)
    | (cases e
       first
       | (rw [inv_non ra, inv_non rb]; exact ⟨rfl, by simp⟩)
       | (rw [inv_non ra, inv_int rb]; exact ⟨rfl, by simp⟩)
       | (rw [inv_int ra, inv_non rb]; exact ⟨rfl, by simp⟩)
       | (rw [inv_non ra, inv_bl rb]; exact ⟨rfl, by simp⟩)
       | (rw [inv_bl ra, inv_non rb]; exact ⟨rfl, by simp⟩)
       | (rw [inv_non ra, inv_str rb]; exact ⟨rfl, by simp⟩)
       | (rw [inv_str ra, inv_non rb]; exact ⟨rfl, by simp⟩)
       | (rw [inv_int ra, inv_int rb]; exact ⟨rfl, by simp⟩)
       | (rw [inv_bl ra, inv_bl rb]; exact ⟨rfl, by simp⟩)
       | (rw [inv_str ra, inv_str rb]; exact ⟨rfl, by simp⟩)
       | (rw [inv_int ra, inv_str rb]; exact ⟨rfl, by simp⟩)
       | (rw [inv_str ra, inv_int rb]; exact ⟨rfl, by simp⟩)
       | (rw [inv_bl ra, inv_str rb]; exact ⟨rfl, by simp⟩)
       | (rw [inv_str ra, inv_bl rb]; exact ⟨rfl, by simp⟩))
theorem eqD_ok {K : PySem.W.Frag} {cm : Str → Addr} {I H : Hp} {a b : T} {x y : V} {k : Bool} (s : Ex I H) (e : eqD a b = some k) (ra : RepT K cm I a x) (rb : RepT K cm I b y) :
    ∃ d e, Dp K H x d ∧ Dp K H y e ∧ SeqAt.shaped d = true ∧ SeqAt.shaped e = true ∧ PyData.eqv d e = k := by
  unfold eqD at e
  split at e
  · rename_i d d' e1 e2
    split at e
    · rename_i hc
      cases e
      exact ⟨d, d', Dp.ex s (toPd_ok _ _ _ e1 ra), Dp.ex s (toPd_ok _ _ _ e2 rb), hc.1, hc.2, rfl⟩
    · cases e
  · cases e
theorem top_eq {K : PySem.W.Frag} {cm : Str → Addr} : TOp K cm (fun x y H Q => rEq x y H Q ∨ rEqD K x y H Q) eqT := by
  intro I H a b c x y Q s ra rb e al
  unfold eqT at e
  split at e
  · rename_i k ek
    cases e
    obtain ⟨h1, h2⟩ := eqS_ok ek ra rb
    exact .inl ⟨h1, by rw [h2]; exact al.val s rep_bl⟩
  · split at e
    · rename_i k ek
      cases e
      obtain ⟨d, d', h1, h2, h3, h4, rfl⟩ := eqD_ok s ek ra rb
      exact .inr ⟨d, d', h1, h2, h3, h4, al.val s rep_bl⟩
    · cases e
theorem top_ne {K : PySem.W.Frag} {cm : Str → Addr} : TOp K cm (fun x y H Q => rNe x y H Q ∨ rNeD K x y H Q) neT := by
  intro I H a b c x y Q s ra rb e al
  unfold neT at e
  split at e
  · rename_i k ek
    cases e
    obtain ⟨h1, h2⟩ := eqS_ok ek ra rb
    exact .inl ⟨h1, by rw [h2]; exact al.val s rep_bl⟩
  · split at e
    · rename_i k ek
      cases e
      obtain ⟨d, d', h1, h2, h3, h4, rfl⟩ := eqD_ok s ek ra rb
      exact .inr ⟨d, d', h1, h2, h3, h4, al.val s rep_bl⟩
    · cases e
theorem op_eqA {X : Cx} (hu : X.A.units + 64 < cLine) : OpR X (compareOp .Eq) (fun x y H Q => rEq x y H Q ∨ rEqD X.K x y H Q) := op_eq.or (op_eqD hu)
theorem op_neA {X : Cx} (hu : X.A.units + 64 < cLine) : OpR X (compareOp .NotEq) (fun x y H Q => rNe x y H Q ∨ rNeD X.K x y H Q) := op_ne.or (op_neD hu)

def ltT := int2 (fun _ _ => True) fun i j => T.bl (decide (i < j))
def leT := int2 (fun _ _ => True) fun i j => T.bl (decide (i ≤ j))
def gtT := int2 (fun _ _ => True) fun i j => T.bl (decide (j < i))
def geT := int2 (fun _ _ => True) fun i j => T.bl (decide (j ≤ i))
/-- is None -/
def isN : T → T → Option T
  | .non, .non => some (.bl true)
  | .bl _, .non => some (.bl false)
  | .int _, .non => some (.bl false)
  | .str _, .non => some (.bl false)
  | .lst _, .non => some (.bl false)
  | .tup _, .non => some (.bl false)
  | .ins _ _ _, .non => some (.bl false)
  | _, _ => none
def notN : T → T → Option T
  | .non, .non => some (.bl false)
  | .bl _, .non => some (.bl true)
  | .int _, .non => some (.bl true)
  | .str _, .non => some (.bl true)
  | .lst _, .non => some (.bl true)
  | .tup _, .non => some (.bl true)
  | .ins _ _ _, .non => some (.bl true)
  | _, _ => none
theorem inv_ins {K : PySem.W.Frag} {cm : Str → Addr} {I : Hp} {c : Str} {ns : List Str} {ts : List T} {v : V} (h : RepT K cm I (.ins c ns ts) v) : ∃ a dx xs, v = .ref a ∧ I a = some (.ins (cm c) dx (ns.zip xs)) ∧ ns.length = xs.length ∧ RepTL K cm I ts xs := by unfold RepT at h; exact h
theorem top_isN {K : PySem.W.Frag} {cm : Str → Addr} : TOp K cm (fun x y H Q => y = .non ∧ Q (.bl (decide (x = .non))) H) isN := by
  intro I H a b c x y Q s ra rb e al
  have go : ∀ k, c = .bl k → decide (x = V.non) = k → y = .non → y = .non ∧ Q (.bl (decide (x = V.non))) H := fun k e1 e2 e3 => ⟨e3, by subst e1; rw [e2]; exact al.val s rep_bl⟩
  unfold isN at e
  split at e <;> first
    | (cases e; done)
    | (cases e
       refine go _ rfl ?_ (inv_non rb)
       first
       | (rw [inv_non ra]; simp; done)
       | (rw [inv_bl ra]; simp; done)
       | (rw [inv_int ra]; simp; done)
       | (rw [inv_str ra]; simp; done)
       | (obtain ⟨_, _, rfl, _⟩ := inv_lst ra; simp; done)
       | (obtain ⟨_, _, rfl, _⟩ := inv_tup ra; simp; done)
       | (obtain ⟨_, _, _, rfl, _⟩ := inv_ins ra; simp; done))
theorem top_notN {K : PySem.W.Frag} {cm : Str → Addr} : TOp K cm (fun x y H Q => y = .non ∧ Q (.bl (!decide (x = .non))) H) notN := by
  intro I H a b c x y Q s ra rb e al
  have go : ∀ k, c = .bl k → (!decide (x = V.non)) = k → y = .non → y = .non ∧ Q (.bl (!decide (x = V.non))) H := fun k e1 e2 e3 => ⟨e3, by subst e1; rw [e2]; exact al.val s rep_bl⟩
  unfold notN at e
  split at e <;> first
    | (cases e; done)
    | (cases e
       refine go _ rfl ?_ (inv_non rb)
       first
       | (rw [inv_non ra]; simp; done)
       | (rw [inv_bl ra]; simp; done)
       | (rw [inv_int ra]; simp; done)
       | (rw [inv_str ra]; simp; done)
       | (obtain ⟨_, _, rfl, _⟩ := inv_lst ra; simp; done)
       | (obtain ⟨_, _, rfl, _⟩ := inv_tup ra; simp; done)
       | (obtain ⟨_, _, _, rfl, _⟩ := inv_ins ra; simp; done))

/-! ### in -/
/-- x in a list or tuple of flat things -/
def flatT : T → Bool
  | .non | .bl _ | .int _ | .str _ => true
  | _ => false
def eqF : T → T → Bool
  | .non, .non => true
  | .bl a, .bl b => a == b
  | .bl a, .int b => (if a then 1 else 0) == b
  | .int a, .bl b => a == (if b then 1 else 0)
  | .int a, .int b => a == b
  | .str a, .str b => a == b
  | _, _ => false
def memT (x : T) (xs : List T) : Bool := xs.any fun y => eqF y x
def seqOf : T → Option (List T)
  | .lst xs => some xs
  | .tup xs => some xs
  | _ => none
def inT (neg : Bool) : T → T → Option T := fun a b => match b with
  | .str z => (match a with
    | .str x => some (.bl (if neg then !(!(Builtin.Str.occurrences z x 0 z.length 1).isEmpty) else !(Builtin.Str.occurrences z x 0 z.length 1).isEmpty))
    | _ => none)
  | b => match seqOf b with
    | some ys => if flatT a = true ∧ ys.all flatT = true then some (.bl (if neg then !memT a ys else memT a ys)) else none
    | none => none
theorem flat_ok {K : PySem.W.Frag} {cm : Str → Addr} {I : Hp} {t : T} {v : V} (h : flatT t = true) (r : RepT K cm I t v) : flatV v = true := by
  cases t <;> first
    | (cases h; done)
    | (first | rw [inv_non r] | rw [inv_bl r] | rw [inv_int r] | rw [inv_str r]) <;> rfl
theorem flat_all {K : PySem.W.Frag} {cm : Str → Addr} {I : Hp} : ∀ {ts : List T} {xs : List V}, ts.all flatT = true → RepTL K cm I ts xs → xs.all flatV = true
  | [], xs, h, r => by rw [inv_nil r]; rfl
  | t :: ts, xs, h, r => by
    obtain ⟨x, r', rfl, h1, h2⟩ := inv_cons r
    simp only [List.all_cons, Bool.and_eq_true] at h ⊢
    exact ⟨flat_ok h.1 h1, flat_all h.2 h2⟩
theorem eqF_ok {K : PySem.W.Frag} {cm : Str → Addr} {I : Hp} {t u : T} {v w : V} (ht : flatT t = true) (hu : flatT u = true) (r : RepT K cm I t v) (q : RepT K cm I u w) : eqV v w = eqF t u := by
  cases t <;> first
    | (cases ht; done)
    | (cases u <;> first
        | (cases hu; done)
        | (first | rw [inv_non r] | rw [inv_bl r] | rw [inv_int r] | rw [inv_str r]) <;> (first | rw [inv_non q] | rw [inv_bl q] | rw [inv_int q] | rw [inv_str q]) <;> rfl)
theorem mem_ok {K : PySem.W.Frag} {cm : Str → Addr} {I : Hp} {u : T} {w : V} (hu : flatT u = true) (q : RepT K cm I u w) : ∀ {ts : List T} {xs : List V}, ts.all flatT = true → RepTL K cm I ts xs → inV w xs = memT u ts
  | [], xs, h, r => by rw [inv_nil r]; rfl
  | t :: ts, xs, h, r => by
    obtain ⟨x, r', rfl, h1, h2⟩ := inv_cons r
    simp only [List.all_cons, Bool.and_eq_true] at h
    have h3 : inV w r' = memT u ts := mem_ok hu q h.2 h2
    unfold inV memT at h3 ⊢
    rw [List.any_cons, List.any_cons, eqF_ok h.1 hu h1 q, h3]
def rInA (K : PySem.W.Frag) (neg : Bool) : R2 := fun x y H Q => (∃ i j, x = .str i ∧ y = .str j ∧ Q (.bl (if neg then !(!(Builtin.Str.occurrences j i 0 j.length 1).isEmpty) else !(Builtin.Str.occurrences j i 0 j.length 1).isEmpty)) H) ∨ rIn K neg x y H Q
theorem top_in {K : PySem.W.Frag} {cm : Str → Addr} {neg : Bool} : TOp K cm (rInA K neg) (inT neg) := by
  intro I H a b c x y Q s ra rb e al
  unfold inT at e
  split at e
  · split at e
    · cases e
      exact .inl ⟨_, _, inv_str ra, inv_str rb, al.val s rep_bl⟩
    · cases e
  · split at e
    · rename_i ys e1
      split at e
      · rename_i hc
        cases e
        refine .inr ?_
        have : ∃ p xs, y = .ref p ∧ (SqL K I p xs ∨ SqT K I p xs) ∧ RepTL K cm I ys xs := by
          unfold seqOf at e1
          split at e1
          · cases e1
            obtain ⟨p, xs, h1, h2, h3⟩ := inv_lst rb
            exact ⟨p, xs, h1, .inl (SqL.of h2), h3⟩
          · cases e1
            obtain ⟨p, xs, h1, h2, h3⟩ := inv_tup rb
            exact ⟨p, xs, h1, .inr h2, h3⟩
          · cases e1
        obtain ⟨p, xs, h1, h2, h3⟩ := this
        refine ⟨p, xs, h1, h2.imp (sqL_ex s) (sqT_ex s), flat_ok hc.1 ra, flat_all hc.2 h3, ?_⟩
        rw [mem_ok hc.1 ra hc.2 h3]
        exact al.val s rep_bl
      · cases e
    · cases e
theorem op_inA {X : Cx} : OpR X (compareOp .In) (rInA X.K false) := op_in_str.or op_in_seq
theorem op_notInA {X : Cx} : OpR X (compareOp .NotIn) (rInA X.K true) := op_notIn_str.or op_notIn_seq
end Bm

namespace Bm
open PySem L2

section
variable {X : Cx} {W : WX} {a b e : Expr} {es : List Expr} {fa fb F : FE} {fs : Fn (List D)} {pos p : Pos}

/-! ### subscripts -/
/-- a sequence's items -/
def seqD (M : List MO) : D → Option (List T)
  | .t (.tup ts) => some ts
  | d => lstOf M d
theorem seqD_ok {K : PySem.W.Frag} {cm : Str → Addr} {μ : Nat → Addr} {I H : Hp} {M : List MO} (s : Sim K cm μ I M H) {d : D} {v : V} {ts : List T} (r : RepD K cm μ I M.length d v) (e : seqD M d = some ts) :
    ∃ a xs, v = .ref a ∧ (SqL K H a xs ∨ SqT K H a xs) ∧ RepTL K cm I ts xs := by
  unfold seqD at e
  split at e
  · cases e
    obtain ⟨a, xs, h1, h2, h3⟩ := inv_tup r
    exact ⟨a, xs, h1, .inr (sqT_ex s.sub h2), h3⟩
  · obtain ⟨a, xs, h1, h2, h3⟩ := lstOf_ok s r e
    exact ⟨a, xs, h1, .inl (SqL.of h2), h3⟩
def gIx : G2 := fun a b M => match a, b with
  | .t (.str z), .t (.int i) => if z.length ≤ sizeLine then (match atI z.cps.toList i with
    | some c => .ok (.t (.str ⟨#[c]⟩)) M
    | none => .fail) else .fail
  | a, .t (.int i) => (match seqD M a with
    | some ts => (match atI ts i with
      | some t => .ok (.t t) M
      | none => .fail)
    | none => .fail)
  | _, _ => .fail
theorem atI_rep {K : PySem.W.Frag} {cm : Str → Addr} {I : Hp} {ts : List T} {xs : List V} {i : Int} {t : T} (h : RepTL K cm I ts xs) (e : atI ts i = some t) : ∃ x, atI xs i = some x ∧ RepT K cm I t x := by
  unfold atI at e ⊢
  rw [← h.length]
  cases q : ixN ts.length i with
  | none => rw [q] at e; cases e
  | some j =>
    rw [q] at e
    exact h.get e
theorem dop_ix {K : PySem.W.Frag} {cm : Str → Addr} : DOp K cm (rIx K) gIx := fun μ I M H x y a b Q Wx s ra rb p => by
  unfold gIx at p
  split at p
  · rename_i z i
    split at p
    · rename_i hz
      split at p
      · rename_i c e
        exact .inr (.inr ⟨z, i, c, inv_str (K := K) (cm := cm) (I := I) ra, inv_int (K := K) (cm := cm) (I := I) rb, hz, e, p.str s⟩)
      · exact p.elim
    · exact p.elim
  · rename_i i _
    split at p
    · rename_i ts e
      split at p
      · rename_i t e2
        obtain ⟨a', xs, rfl, h1, h2⟩ := seqD_ok s ra e
        obtain ⟨w, h3, h4⟩ := atI_rep h2 e2
        have q := p.here s (b := w) h4
        rcases h1 with h1 | h1
        · exact .inl ⟨a', xs, i, w, rfl, inv_int (K := K) (cm := cm) (I := I) rb, h1, h3, q⟩
        · exact .inr (.inl ⟨a', xs, i, w, rfl, inv_int (K := K) (cm := cm) (I := I) rb, h1, h3, q⟩)
      · exact p.elim
    · exact p.elim
  · exact p.elim
theorem de_ix (ha : DE X W a fa) (hb : DE X W b fb) (hs : PlainIx b) : DE X W (.Subscript a b pos) (e2 gIx fa fb) := (pe_ix ix_seq ha hb hs).imp fun _ _ _ h => tOp_of dop_ix h

/-! ### slices -/
variable {lo hi : Option Expr} {fl fh : Fn (Option Int)}
def oNone : Fn (Option Int) := fun _ M => .ok none M
def oSome (F : FE) : Fn (Option Int) := fun sl M => (F sl M).bind fun d M1 => match d with
  | .t (.int i) => .ok (some i) M1
  | _ => .fail
theorem PO.imp {X : Cx} {e : Option Expr} {t t' : TO} (h : PO X e t) (i : ∀ σ H Q, t' σ H Q → t σ H Q) : PO X e t' := ⟨fun pins s σ H Q I q => h.run pins s σ H Q I (i _ _ _ q)⟩
theorem do_none : DO X W none oNone := PO.imp po_none fun σ H Q ⟨μ, I, sl, M, s, r, p⟩ => p.here s rfl
theorem do_some (h : DE X W e F) : DO X W (some e) (oSome F) := PO.imp (po_some h) fun σ H Q ⟨μ, I, sl, M, s, rs, p⟩ => ⟨μ, I, sl, M, s, rs, (Post.bind (R := RD X.K (cmOf X.mg)) p).imp fun x H1 ⟨μ1, I1, M1, d, st, ra, p1⟩ => by
  split at p1
  · exact ⟨_, inv_int (K := X.K) (cm := cmOf X.mg) (I := I1) ra, p1.here st.sim rfl⟩
  · exact p1.elim⟩
def cutT (ts : List T) (lo hi : Option Int) : List T := (ts.drop (HT.sIx ts.length 0 lo)).take (HT.sIx ts.length ts.length hi - HT.sIx ts.length 0 lo)
def gSl (d : D) (lo hi : Option Int) (M : List MO) : Res D := match d with
  | .t (.str z) => if z.length ≤ sizeLine then .ok (.t (.str (cutS z lo hi))) M else .fail
  | .t (.tup ts) => .ok (.t (.tup (cutT ts lo hi))) M
  | .t (.scr ns) => .ok (.t (.lst (cutT (ns.map T.int) lo hi))) M
  | d => match lstOf M d with
    | some ts => .ok (.t (.lst (cutT ts lo hi))) M
    | none => .fail
theorem cut_rep {K : PySem.W.Frag} {cm : Str → Addr} {I : Hp} {ts : List T} {xs : List V} {lo hi : Option Int} (h : RepTL K cm I ts xs) : RepTL K cm I (cutT ts lo hi) (cutV xs lo hi) := by
  unfold cutT cutV
  rw [← h.length]
  exact RepTL.take _ (RepTL.drop _ h)
def eSl (fa : FE) (fl fh : Fn (Option Int)) : FE := fun sl M => (fa sl M).bind fun a M1 => (fl sl M1).bind fun lo M2 => (fh sl M2).bind fun hi M3 => gSl a lo hi M3
abbrev rSlAny (K : PySem.W.Frag) : V → Option Int → Option Int → Hp → VK → Prop := fun x lo hi H Q => rSlS x lo hi H Q ∨ (rSlA K x lo hi H Q ∨ rSlL K x lo hi H Q)
theorem sl_any : SlR X (rSlAny X.K) := sl_str.or (sl_tupA.or sl_list)
theorem gSl_ok {K : PySem.W.Frag} {cm : Str → Addr} {μ : Nat → Addr} {I H : Hp} {M : List MO} {Wx : XK} {Q : VK} {a : D} {x : V} {l h : Option Int} (s : Sim K cm μ I M H) (ra : RepD K cm μ I M.length a x)
    (p : Post K cm (RD K cm) μ I M H Wx (gSl a l h M) Q) : rSlAny K x l h H Q := by
  unfold gSl at p
  split at p
  · split at p
    · rename_i hz
      exact .inl ⟨_, inv_str (K := K) (cm := cm) (I := I) ra, hz, p.str s⟩
    · exact p.elim
  · rename_i ts
    obtain ⟨a', xs, rfl, h1, h2⟩ := inv_tup ra
    refine .inr (.inl ⟨a', xs, rfl, sqT_ex s.sub h1, fun hw => ?_, fun _ q hq => (p.alloc s).tup s.sub (cut_rep h2) hq⟩)
    have e : cutT ts l h = ts := by
      unfold cutT
      rw [h2.length, hw.1, hw.2]
      simp [← h2.length]
    rw [e] at p
    exact p.here s ra
  · rename_i ns
    obtain ⟨a', rfl, h1⟩ := inv_scr (cm := cm) ra
    exact .inr (.inr ⟨a', _, rfl, sqL_ex s.sub h1, fun q hq => (p.alloc s).lst s.sub (cut_rep (RepTL.ints ns)) hq⟩)
  · split at p
    · rename_i ts e
      obtain ⟨a', xs, rfl, h1, h2⟩ := lstOf_ok s ra e
      exact .inr (.inr ⟨a', xs, rfl, SqL.of h1, fun q hq => (p.alloc s).lst s.sub (cut_rep h2) hq⟩)
    · exact p.elim
theorem de_sl {p2 : Pos} (ha : DE X W a fa) (hl : DO X W lo fl) (hh : DO X W hi fh) : DE X W (.Subscript a (.Slice lo hi none p2) pos) (eSl fa fl fh) :=
  (pe_slice sl_any ha hl hh).imp fun σ H Q ⟨μ, I, sl, M, s, rs, p⟩ => ⟨μ, I, sl, M, s, rs, (Post.bind (R := RD X.K (cmOf X.mg)) p).imp fun x H1 ⟨μ1, I1, M1, d, st, ra, p1⟩ =>
    ⟨μ1, I1, sl, M1, st.sim, rs.mono st.gr, (Post.bind (R := RO) p1).imp fun y H2 ⟨μ2, I2, M2, l, st2, rb, p2⟩ =>
    ⟨μ2, I2, sl, M2, st2.sim, (rs.mono st.gr).mono st2.gr, (Post.bind (R := RO) p2).imp fun z H3 ⟨μ3, I3, M3, h, st3, rc, p3⟩ => by
      have rb : l = y := rb
      have rc : h = z := rc
      subst rb
      subst rc
      exact gSl_ok st3.sim ((ra.mono st2.gr).mono st3.gr) p3⟩⟩⟩

/-! ### calls of built-ins -/
abbrev GC := List D → List MO → Res D
def eCB (g : GC) (fs : Fn (List D)) : FE := fun sl M => (fs sl M).bind g
def DCall (K : PySem.W.Frag) (cm : Str → Addr) (r : List V → Hp → VK → Prop) (g : GC) : Prop := ∀ μ I M H ds vs Q (Wx : XK), Sim K cm μ I M H → RepDL K cm μ I M.length ds vs → Post K cm (RD K cm) μ I M H Wx (g ds M) Q → r vs H Q
theorem TCall.d {K : PySem.W.Frag} {cm : Str → Addr} {r : List V → Hp → VK → Prop} {f : List T → Option T} (h : TCall K cm r f) : DCall K cm r (gP f) := fun μ I M H ds vs Q Wx s rr p => h.at s rr p
theorem tCB_of {r : List V → Hp → VK → Prop} {g : GC} (hd : DCall X.K (cmOf X.mg) r g) {σ H Q} (h : rdE X W (eCB g fs) σ H Q) : tCB r (rdA X W fs) σ H Q := by
  obtain ⟨μ, I, sl, M, s, rs, p⟩ := h
  exact ⟨μ, I, sl, M, s, rs, (Post.bind (R := RL X.K (cmOf X.mg)) p).imp fun x H1 ⟨μ1, I1, M1, d, st, ra, p1⟩ => hd _ _ _ _ _ _ _ _ st.sim ra p1⟩
theorem de_callB {x : Str} {id : String} {r : List V → Hp → VK → Prop} {g : GC} (hc : CallR X (.builtin id) r) (hd : DCall X.K (cmOf X.mg) r g) (hg : Gl X x) (hm : X.mg x = none) (hv : bootBuiltins x = some (.builtin id)) (ha : DA X W (e :: es) fs)
    (hn : x ≠ "__name__" := by decide) (hdb : (x == ("__debug__" : Str)) = false := by decide) (he : starEach (e :: es) X.env = (false, eval e X.env) :: starEach es X.env := by rfl) (hpl : (backTo pos (starEach es X.env)).any (·.1) = false := by rfl) :
    DE X W (.Call (.Name x p) (e :: es) [] pos) (eCB g fs) := (pe_callB hc hg hm hv ha hn hdb he hpl).imp fun _ _ _ h => tCB_of hd h
theorem de_callTy {x : Str} {id : String} {r : List V → Hp → VK → Prop} {g : GC} (hc : CallR X (.type id) r) (hd : DCall X.K (cmOf X.mg) r g) (hg : Gl X x) (hm : X.mg x = none) (hv : bootBuiltins x = some (.type id)) (ha : DA X W (e :: es) fs)
    (hn : x ≠ "__name__" := by decide) (hdb : (x == ("__debug__" : Str)) = false := by decide) (he : starEach (e :: es) X.env = (false, eval e X.env) :: starEach es X.env := by rfl) (hpl : (backTo pos (starEach es X.env)).any (·.1) = false := by rfl) :
    DE X W (.Call (.Name x p) (e :: es) [] pos) (eCB g fs) := (pe_callTy hc hg hm hv ha hn hdb he hpl).imp fun _ _ _ h => tCB_of hd h
def inv1 {K : PySem.W.Frag} {cm : Str → Addr} {μ : Nat → Addr} {I : Hp} {n : Nat} {d : D} {vs : List V} (h : RepDL K cm μ I n [d] vs) : ∃ x, vs = [x] ∧ RepD K cm μ I n d x := by
  unfold RepDL at h
  obtain ⟨x, r, rfl, h1, h2⟩ := h
  unfold RepDL at h2
  subst h2
  exact ⟨x, rfl, h1⟩
/-- len -/
def gLen : GC
  | [.t (.str z)], M => if z.length ≤ sizeLine then .ok (.t (.int z.length)) M else .fail
  | [d], M => (match seqD M d with
    | some ts => .ok (.t (.int ts.length)) M
    | none => .fail)
  | _, _ => .fail
theorem dc_len {K : PySem.W.Frag} {cm : Str → Addr} : DCall K cm (fun xs H Q => ∃ x n, xs = [x] ∧ LenV K x H n ∧ Q (.int n) H) gLen := fun μ I M H ds vs Q Wx s rr p => by
  unfold gLen at p
  split at p
  · obtain ⟨x, rfl, rx⟩ := inv1 rr
    split at p
    · rename_i hz
      refine ⟨x, _, rfl, ?_, p.int s⟩
      rw [inv_str (K := K) (cm := cm) (I := I) rx]
      exact ⟨hz, rfl⟩
    · exact p.elim
  · obtain ⟨x, rfl, rx⟩ := inv1 rr
    split at p
    · rename_i ts e
      obtain ⟨a, xs, rfl, h1, h2⟩ := seqD_ok s rx e
      refine ⟨_, _, rfl, ?_, p.int s⟩
      rcases h1 with h1 | h1
      · exact .inl ⟨xs, h1, h2.length⟩
      · exact .inr ⟨xs, h1, h2.length⟩
    · exact p.elim
  · exact p.elim
theorem de_len {q : Pos} (hg : Gl X "len") (hm : X.mg "len" = none) (ha : DA X W [e] fs) (he : starEach [e] X.env = (false, eval e X.env) :: starEach [] X.env := by rfl) : DE X W (.Call (.Name "len" q) [e] [] pos) (eCB gLen fs) :=
  de_callB call_len dc_len hg hm PySem.boot_len ha (he := he)
/-- list(..), a known list -/
def gList : GC
  | [d], M => (match seqD M d with
    | some ts => .ok (.t (.lst ts)) M
    | none => .fail)
  | _, _ => .fail
def gListM : GC
  | [d], M => (match seqD M d with
    | some ts => .ok (.m M.length) (M ++ [.lst ts])
    | none => .fail)
  | _, _ => .fail
def rListOf (K : PySem.W.Frag) : List V → Hp → VK → Prop := fun xs H Q => ∃ p ys, xs = [.ref p] ∧ (SqL K H p ys ∨ SqT K H p ys) ∧ ∀ l, H l = none → Q (.ref l) (upd H l (.lst ys))
theorem dc_list {K : PySem.W.Frag} {cm : Str → Addr} : DCall K cm (rListOf K) gList := fun μ I M H ds vs Q Wx s rr p => by
  unfold gList at p
  split at p
  · obtain ⟨x, rfl, rx⟩ := inv1 rr
    split at p
    · rename_i ts e
      obtain ⟨a, xs, rfl, h1, h2⟩ := seqD_ok s rx e
      exact ⟨a, xs, rfl, h1, fun l hl => (p.alloc s).lst s.sub h2 hl⟩
    · exact p.elim
  · exact p.elim
theorem dc_listM {K : PySem.W.Frag} {cm : Str → Addr} : DCall K cm (rListOf K) gListM := fun μ I M H ds vs Q Wx s rr p => by
  unfold gListM at p
  split at p
  · obtain ⟨x, rfl, rx⟩ := inv1 rr
    split at p
    · rename_i ts e
      obtain ⟨a, xs, rfl, h1, h2⟩ := seqD_ok s rx e
      exact ⟨a, xs, rfl, h1, fun l hl => (p.mnew s).lst s.sub h2 hl⟩
    · exact p.elim
  · exact p.elim
theorem boot_list : bootBuiltins "list" = some (.type "list") := by decide +kernel
theorem boot_tuple : bootBuiltins "tuple" = some (.type "tuple") := by decide +kernel
theorem boot_int : bootBuiltins "int" = some (.type "int") := by decide +kernel
theorem boot_str : bootBuiltins "str" = some (.type "str") := by decide +kernel
theorem boot_bool : bootBuiltins "bool" = some (.type "bool") := by decide +kernel
theorem boot_dict : bootBuiltins "dict" = some (.type "dict") := by decide +kernel
theorem boot_all : bootBuiltins "all" = some (.builtin "all") := by decide +kernel
theorem boot_any : bootBuiltins "any" = some (.builtin "any") := by decide +kernel
theorem boot_isinstance : bootBuiltins "isinstance" = some (.builtin "isinstance") := by decide +kernel
theorem boot_sum : bootBuiltins "sum" = some (.builtin "sum") := by decide +kernel
theorem boot_max : bootBuiltins "max" = some (.builtin "max") := by decide +kernel
theorem de_list {q : Pos} (hg : Gl X "list") (hm : X.mg "list" = none) (ha : DA X W [e] fs) (he : starEach [e] X.env = (false, eval e X.env) :: starEach [] X.env := by rfl) : DE X W (.Call (.Name "list" q) [e] [] pos) (eCB gList fs) :=
  de_callTy call_list_of dc_list hg hm boot_list ha (he := he)
theorem de_listM {q : Pos} (hg : Gl X "list") (hm : X.mg "list" = none) (ha : DA X W [e] fs) (he : starEach [e] X.env = (false, eval e X.env) :: starEach [] X.env := by rfl) : DE X W (.Call (.Name "list" q) [e] [] pos) (eCB gListM fs) :=
  de_callTy call_list_of dc_listM hg hm boot_list ha (he := he)
/-- tuple(..) -/
def gTuple : GC
  | [.t (.tup ts)], M => .ok (.t (.tup ts)) M
  | [d], M => (match lstOf M d with
    | some ts => .ok (.t (.tup ts)) M
    | none => .fail)
  | _, _ => .fail
def rTupleOf (K : PySem.W.Frag) : List V → Hp → VK → Prop := fun xs H Q => ∃ p ys, xs = [.ref p] ∧ ((SqL K H p ys ∧ ∀ l, H l = none → Q (.ref l) (upd H l (.tup ys))) ∨ (SqT K H p ys ∧ Q (.ref p) H))
theorem dc_tuple {K : PySem.W.Frag} {cm : Str → Addr} : DCall K cm (rTupleOf K) gTuple := fun μ I M H ds vs Q Wx s rr p => by
  unfold gTuple at p
  split at p
  · obtain ⟨x, rfl, rx⟩ := inv1 rr
    obtain ⟨a, xs, rfl, h1, h2⟩ := inv_tup rx
    exact ⟨a, xs, rfl, .inr ⟨sqT_ex s.sub h1, p.here s rx⟩⟩
  · obtain ⟨x, rfl, rx⟩ := inv1 rr
    split at p
    · rename_i ts e
      obtain ⟨a, xs, rfl, h1, h2⟩ := lstOf_ok s rx e
      exact ⟨a, xs, rfl, .inl ⟨SqL.of h1, fun l hl => (p.alloc s).tup s.sub h2 hl⟩⟩
    · exact p.elim
  · exact p.elim
theorem de_tuple {q : Pos} (hg : Gl X "tuple") (hm : X.mg "tuple" = none) (ha : DA X W [e] fs) (he : starEach [e] X.env = (false, eval e X.env) :: starEach [] X.env := by rfl) : DE X W (.Call (.Name "tuple" q) [e] [] pos) (eCB gTuple fs) :=
  de_callTy call_tuple_of dc_tuple hg hm boot_tuple ha (he := he)
/-- int(..) of an int -/
def gInt : GC
  | [.t (.int i)], M => .ok (.t (.int i)) M
  | [.t (.bl b)], M => .ok (.t (.int (if b then 1 else 0))) M
  | _, _ => .fail
theorem dc_int {K : PySem.W.Frag} {cm : Str → Addr} : DCall K cm (fun xs H Q => (∃ i, xs = [.int i] ∧ Q (.int i) H) ∨ ∃ k, xs = [.bl k] ∧ Q (.int (if k then 1 else 0)) H) gInt := fun μ I M H ds vs Q Wx s rr p => by
  unfold gInt at p
  split at p
  · obtain ⟨x, rfl, rx⟩ := inv1 rr
    exact .inl ⟨_, by rw [inv_int (K := K) (cm := cm) (I := I) rx], p.int s⟩
  · obtain ⟨x, rfl, rx⟩ := inv1 rr
    exact .inr ⟨_, by rw [inv_bl (K := K) (cm := cm) (I := I) rx], p.int s⟩
  · exact p.elim
theorem de_intc {q : Pos} (hg : Gl X "int") (hm : X.mg "int" = none) (ha : DA X W [e] fs) (he : starEach [e] X.env = (false, eval e X.env) :: starEach [] X.env := by rfl) : DE X W (.Call (.Name "int" q) [e] [] pos) (eCB gInt fs) :=
  de_callTy call_int1 dc_int hg hm boot_int ha (he := he)
/-- all, any of a list of truths -/
def blsOf : List T → Option (List Bool)
  | [] => some []
  | .bl b :: ts => (match blsOf ts with
    | some bs => some (b :: bs)
    | none => none)
  | _ => none
theorem bls_ok {K : PySem.W.Frag} {cm : Str → Addr} {I : Hp} : ∀ {ts : List T} {xs : List V} {bs : List Bool}, RepTL K cm I ts xs → blsOf ts = some bs → xs = bs.map V.bl
  | [], xs, bs, h, e => by simp [blsOf] at e; subst e; rw [inv_nil h]; rfl
  | .bl b :: ts, xs, bs, h, e => by
    obtain ⟨x, r, rfl, h1, h2⟩ := inv_cons h
    simp only [blsOf] at e
    split at e
    · rename_i bs' e'
      cases e
      rw [bls_ok h2 e', inv_bl h1]; rfl
    · cases e
  | .non :: ts, xs, bs, h, e => by simp [blsOf] at e
  | .int _ :: ts, xs, bs, h, e => by simp [blsOf] at e
  | .str _ :: ts, xs, bs, h, e => by simp [blsOf] at e
  | .ty _ :: ts, xs, bs, h, e => by simp [blsOf] at e
  | .glo _ :: ts, xs, bs, h, e => by simp [blsOf] at e
  | .cls _ :: ts, xs, bs, h, e => by simp [blsOf] at e
  | .scr _ :: ts, xs, bs, h, e => by simp [blsOf] at e
  | .lst _ :: ts, xs, bs, h, e => by simp [blsOf] at e
  | .tup _ :: ts, xs, bs, h, e => by simp [blsOf] at e
  | .ins _ _ _ :: ts, xs, bs, h, e => by simp [blsOf] at e
def gBls (f : List Bool → Bool) : GC
  | [d], M => (match lstOf M d with
    | some ts => (match blsOf ts with
      | some bs => .ok (.t (.bl (f bs))) M
      | none => .fail)
    | none => .fail)
  | _, _ => .fail
theorem dc_bls {K : PySem.W.Frag} {cm : Str → Addr} {f : List Bool → Bool} : DCall K cm (fun vs H Q => ∃ (a : Addr) (bs : List Bool), vs = [V.ref a] ∧ SqL K H a (bs.map V.bl) ∧ Q (.bl (f bs)) H) (gBls f) := fun μ I M H ds vs Q Wx s rr p => by
  unfold gBls at p
  split at p
  · obtain ⟨x, rfl, rx⟩ := inv1 rr
    split at p
    · rename_i ts e
      split at p
      · rename_i bs e2
        obtain ⟨a, xs, rfl, h1, h2⟩ := lstOf_ok s rx e
        exact ⟨a, bs, rfl, by rw [← bls_ok h2 e2]; exact SqL.of h1, p.bl s⟩
      · exact p.elim
    · exact p.elim
  · exact p.elim
theorem de_all {q : Pos} (hc : X.calm = true) (hg : Gl X "all") (hm : X.mg "all" = none) (ha : DA X W [e] fs) (he : starEach [e] X.env = (false, eval e X.env) :: starEach [] X.env := by rfl) : DE X W (.Call (.Name "all" q) [e] [] pos) (eCB (gBls fun bs => bs.all id) fs) :=
  de_callB (cr_all hc) dc_bls hg hm boot_all ha (he := he)
theorem de_any {q : Pos} (hc : X.calm = true) (hg : Gl X "any") (hm : X.mg "any" = none) (ha : DA X W [e] fs) (he : starEach [e] X.env = (false, eval e X.env) :: starEach [] X.env := by rfl) : DE X W (.Call (.Name "any" q) [e] [] pos) (eCB (gBls fun bs => bs.any id) fs) :=
  de_callB (cr_any hc) dc_bls hg hm boot_any ha (he := he)

/-! ### isinstance -/
abbrev Kd := Sum String Str
def kdOf : T → Option Kd
  | .non => some (.inl "NoneType")
  | .bl _ => some (.inl "bool")
  | .int _ => some (.inl "int")
  | .str _ => some (.inl "str")
  | .lst _ => some (.inl "list")
  | .tup _ => some (.inl "tuple")
  | .ins c _ _ => some (.inr c)
  | _ => none
def kdV (cm : Str → Addr) : Kd → Value
  | .inl n => .type n
  | .inr c => .ref (cm c)
/-- what isinstance may be asked of: own classes that are as they should be -/
structure InsOk (K : PySem.W.Frag) (C : Addr) : Prop where
  cl : Cls K C
  ha : PySem.W.findIn K (.ref C) "__class__" = some (some (.builtin "object.__class__"))
  hn : PySem.W.specialIn K (.builtin "object.__class__") "__get__" = some (some (.builtin "getset_descriptor.__get__"))
  htk : PySem.W.takesIn K (.builtin "object.__class__") = some true
  hm : PySem.W.mroIn K C (.type "object") = some true
structure TabOk (K : PySem.W.Frag) (cm : Str → Addr) (tab : Kd → Kd → Option Bool) : Prop where
  one : ∀ k c b, tab k c = some b → PySem.W.kitOne K (kdV cm k) (kdV cm c) = some b
  ins : ∀ s c b, tab (.inr s) c = some b → InsOk K (cm s)
def tgt : T → Option Kd
  | .ty n => some (.inl n)
  | .cls c => some (.inr c)
  | _ => none
def isiAny (tab : Kd → Kd → Option Bool) (k : Kd) : List T → Option Bool
  | [] => some false
  | t :: ts => match tgt t, isiAny tab k ts with
    | some c, some r => (match tab k c with
      | some b => some (b || r)
      | none => none)
    | _, _ => none
def isiT (tab : Kd → Kd → Option Bool) : List T → Option T
  | [x, .tup cs] => (match kdOf x with
    | some k => (match isiAny tab k cs with
      | some b => if cs = [] then none else some (.bl b)
      | none => none)
    | none => none)
  | [x, c] => (match kdOf x, tgt c with
    | some k, some c => (match tab k c with
      | some b => some (.bl b)
      | none => none)
    | _, _ => none)
  | _ => none
theorem kd_ok {K : PySem.W.Frag} {cm : Str → Addr} {I H : Hp} (s : Ex I H) {t : T} {v : V} {k : Kd} (r : RepT K cm I t v) (e : kdOf t = some k) (hi : ∀ c, k = .inr c → InsOk K (cm c)) : TyX K H v (kdV cm k) := by
  cases t <;> first
    | (cases e; done)
    | (cases e
       first
       | (rw [inv_non r]; exact .base .non)
       | (rw [inv_bl r]; exact .base (.bl _))
       | (rw [inv_int r]; exact .base (.int _))
       | (rw [inv_str r]; exact .base (.str _))
       | (obtain ⟨a, xs, rfl, h1, h2⟩ := inv_lst r; exact .base (.lst (s _ _ h1)))
       | (obtain ⟨a, xs, rfl, h1, h2⟩ := inv_tupU r
          rcases h1 with h1 | ⟨o, its, n, h1, h3, _⟩
          · exact .base (.tup (s _ _ h1))
          · exact .kTuple h1 h3)
       | (obtain ⟨a, dx, xs, rfl, h1, h2, h3⟩ := inv_ins r
          have q := hi _ rfl
          exact .base (.ins (s _ _ h1) q.cl q.ha q.hn q.htk q.hm)))
theorem tgt_ok {K : PySem.W.Frag} {cm : Str → Addr} {I : Hp} {t : T} {v : V} {k : Kd} (r : RepT K cm I t v) (e : tgt t = some k) : ClsV v (kdV cm k) := by
  cases t <;> first
    | (cases e; done)
    | (cases e
       first
       | (have r : v = .ty _ := r
          rw [r]; exact .ty _)
       | (have r : v = .ref _ := r
          rw [r]; exact .own _))
theorem isiAny_ok {K : PySem.W.Frag} {cm : Str → Addr} {tab : Kd → Kd → Option Bool} (tk : TabOk K cm tab) {k : Kd} {I : Hp} : ∀ {ts : List T} {xs : List V} {b : Bool}, RepTL K cm I ts xs → isiAny tab k ts = some b →
    ∃ us, Paired ClsV xs us ∧ PySem.W.kitAny K (kdV cm k) us = some b ∧ (ts ≠ [] → ∀ c, k = .inr c → InsOk K (cm c))
  | [], xs, b, r, e => by
    simp [isiAny] at e; subst e
    rw [inv_nil r]
    exact ⟨[], .nil, kitAny_nil, fun h => absurd rfl h⟩
  | t :: ts, xs, b, r, e => by
    obtain ⟨x, r', rfl, h1, h2⟩ := inv_cons r
    unfold isiAny at e
    split at e
    · rename_i c r e1 e3
      split at e
      · rename_i b' e2
        cases e
        obtain ⟨us, h3, h4, h5⟩ := isiAny_ok tk h2 e3
        refine ⟨kdV cm c :: us, .cons (tgt_ok h1 e1) h3, kitAny_cons (tk.one _ _ _ e2) (fun q => ?_) (fun q => ?_), fun _ s hs => by subst hs; exact tk.ins _ _ _ e2⟩
        · subst q; exact h4
        · subst q; rfl
      · cases e
    · cases e
theorem inv2 {K : PySem.W.Frag} {cm : Str → Addr} {I : Hp} {t u : T} {vs : List V} (h : RepTL K cm I [t, u] vs) : ∃ x y, vs = [x, y] ∧ RepT K cm I t x ∧ RepT K cm I u y := inv_2 h
def rIsiA (K : PySem.W.Frag) : List V → Hp → VK → Prop := fun vs H Q => rIsi K vs H Q ∨ (rIsiT K vs H Q ∨ rIsiK K vs H Q)
theorem CallR.or {X : Cx} {f : Value} {r r' : List V → Hp → VK → Prop} (h : CallR X f r) (h' : CallR X f r') : CallR X f (fun vs H Q => r vs H Q ∨ r' vs H Q) := fun pins s σ H xs us Q I rv q => by
  rcases q with q | q
  · exact h pins s σ H xs us Q I rv q
  · exact h' pins s σ H xs us Q I rv q
theorem call_isiA {X : Cx} : CallR X (.builtin "isinstance") (rIsiA X.K) := CallR.or call_isi (CallR.or call_isiT call_isiK)
theorem tc_isi {K : PySem.W.Frag} {cm : Str → Addr} {tab : Kd → Kd → Option Bool} (tk : TabOk K cm tab) : TCall K cm (rIsiA K) (isiT tab) := by
  intro I H ts c vs Q s rr e al
  unfold isiT at e
  split at e
  · rename_i x cs
    split at e
    · rename_i k e1
      split at e
      · rename_i b e2
        split at e
        · cases e
        · rename_i hne
          cases e
          obtain ⟨v, w, rfl, h1, h2⟩ := inv_2 rr
          obtain ⟨a, xs, rfl, h3, h4⟩ := inv_tupU h2
          obtain ⟨us, h5, h6, h7⟩ := isiAny_ok tk h4 e2
          have ty := kd_ok s h1 e1 (h7 hne)
          have q := al.val s rep_bl
          rcases h3 with h3 | ⟨o, its, n, h8, h9, h10, _, h11⟩
          · exact .inr (.inl ⟨v, a, xs, _, us, _, rfl, s _ _ h3, h5, ty, h6, q⟩)
          · have eu := ClsV.all h5 h11
            obtain ⟨oc, od, ot, os⟩ := o
            subst h9
            subst h10
            refine .inr (.inr ⟨v, a, od, us, n, os, _, _, rfl, ?_, ty, h6, q⟩)
            rw [← eu]
            exact h8
      · cases e
    · cases e
  · rename_i x c' hx
    split at e
    · rename_i k c1 e1 e2
      split at e
      · rename_i b e3
        cases e
        obtain ⟨v, w, rfl, h1, h2⟩ := inv_2 rr
        exact .inl ⟨v, w, _, _, _, rfl, tgt_ok h2 e2, kd_ok s h1 e1 (fun s hs => by subst hs; exact tk.ins _ _ _ e3), tk.one _ _ _ e3, al.val s rep_bl⟩
      · cases e
    · cases e
  · cases e
end
end Bm

namespace Bm
open PySem L2

inductive SRes where
  | nx (sl : List (Option D)) (M : List MO) | rt (d : D) (M : List MO) | bk (sl : List (Option D)) (M : List MO) | ct (sl : List (Option D)) (M : List MO) | exc (x : Xn) (sl : List (Option D)) (M : List MO) | fail
abbrev FS := List (Option D) → List MO → SRes
def Res.toS {α : Type} (r : Res α) (sl : List (Option D)) (f : α → List MO → SRes) : SRes := match r with
  | .ok a M => f a M
  | .exc x M => .exc x sl M
  | .fail => .fail
section
variable (K : PySem.W.Frag) (cm : Str → Addr)
def PostS (μ : Nat → Addr) (I : Hp) (M : List MO) (H : Hp) (W : WX) (r : SRes) (D : Ends) : Prop := match r with
  | .nx sl' M' => ∀ μ' I' H' σ', Step K cm μ I M H μ' I' M' H' → RepS K cm μ' I' M'.length sl' σ' → D.nx σ' H'
  | .bk sl' M' => ∀ μ' I' H' σ', Step K cm μ I M H μ' I' M' H' → RepS K cm μ' I' M'.length sl' σ' → D.bk σ' H'
  | .ct sl' M' => ∀ μ' I' H' σ', Step K cm μ I M H μ' I' M' H' → RepS K cm μ' I' M'.length sl' σ' → D.ct σ' H'
  | .rt d M' => ∀ μ' I' H' v, Step K cm μ I M H μ' I' M' H' → RepD K cm μ' I' M'.length d v → D.rt v H'
  | .exc x sl' M' => ∀ μ' I' H' σ' e d, Step K cm μ I M H μ' I' M' H' → RepS K cm μ' I' M'.length sl' σ' → RepX K cm I' H' x e d → W e d σ' H'
  | .fail => False
def rdS' (W : WX) (F : FS) : TS := fun D σ H => ∃ μ I sl M, Sim K cm μ I M H ∧ RepS K cm μ I M.length sl σ ∧ PostS K cm μ I M H W (F sl M) D
end
section
variable {K : PySem.W.Frag} {cm : Str → Addr} {μ μ' : Nat → Addr} {I I' : Hp} {M M' : List MO} {H H' : Hp} {W : WX} {Z : Ends} {sl : List (Option D)} {σ : L2.St}
theorem PostS.step {r : SRes} (s : Step K cm μ I M H μ' I' M' H') (p : PostS K cm μ I M H W r Z) : PostS K cm μ' I' M' H' W r Z := by
  cases r with
  | nx a M1 => exact fun μ1 I1 H1 b st h => p μ1 I1 H1 b (s.trans st) h
  | bk a M1 => exact fun μ1 I1 H1 b st h => p μ1 I1 H1 b (s.trans st) h
  | ct a M1 => exact fun μ1 I1 H1 b st h => p μ1 I1 H1 b (s.trans st) h
  | rt a M1 => exact fun μ1 I1 H1 b st h => p μ1 I1 H1 b (s.trans st) h
  | exc x a M1 => exact fun μ1 I1 H1 b e d st h => p μ1 I1 H1 b e d (s.trans st) h
  | fail => exact p
theorem PostS.bind {α β : Type} {R : Rl α β} {r : Res α} {f : α → List MO → SRes} (p : PostS K cm μ I M H W (r.toS sl f) Z) (rs : RepS K cm μ I M.length sl σ) :
    Post K cm R μ I M H (fun e d H' => W e d σ H') r (fun b H1 => ∃ μ1 I1 M1 a, Step K cm μ I M H μ1 I1 M1 H1 ∧ R μ1 I1 M1.length a b ∧ PostS K cm μ1 I1 M1 H1 W (f a M1) Z) := by
  cases r with
  | ok a M1 => exact fun μ1 I1 H1 b st h => ⟨μ1, I1, M1, a, st, h, p.step st⟩
  | exc x M1 => exact fun μ1 I1 H1 e d st h => p μ1 I1 H1 σ e d st (rs.mono st.gr) h
  | fail => exact p
theorem PostS.here {sl' : List (Option D)} (s : Sim K cm μ I M H) (rs : RepS K cm μ I M.length sl' σ) (p : PostS K cm μ I M H W (.nx sl' M) Z) : Z.nx σ H := p μ I H σ (Step.refl s) rs
end
abbrev rdS (X : Cx) (W : WX) (F : FS) : TS := rdS' X.K (cmOf X.mg) W F
abbrev DS (X : Cx) (W : WX) (st : Stmt) (F : FS) : Prop := PS X st (rdS X W F)
abbrev DSs (X : Cx) (W : WX) (st : List Stmt) (F : FS) : Prop := PSs X st (rdS X W F)

section
variable {X : Cx} {W : WX} {a b c e : Expr} {st : Stmt} {rest body orelse : List Stmt} {F fa fb : FE} {f g : FS} {tc : Fn Bool} {pos : Pos}
def sSeq (f g : FS) : FS := fun sl M => match f sl M with
  | .nx sl1 M1 => g sl1 M1
  | r => r
theorem tSeq_of {Z : Ends} {σ H} (h : rdS X W (sSeq f g) Z σ H) : tSeq (rdS X W f) (rdS X W g) Z σ H := by
  obtain ⟨μ, I, sl, M, s, rs, p⟩ := h
  refine ⟨μ, I, sl, M, s, rs, ?_⟩
  unfold sSeq at p
  cases r' : f sl M with
  | nx a b =>
    rw [r'] at p
    exact fun μ1 I1 H1 σ1 st r1 => ⟨μ1, I1, a, b, st.sim, r1, PostS.step st p⟩
  | bk a b => rw [r'] at p; exact p
  | ct a b => rw [r'] at p; exact p
  | rt a b => rw [r'] at p; exact p
  | exc x a b => rw [r'] at p; exact p
  | fail => rw [r'] at p; exact p
def sSkip : FS := fun sl M => .nx sl M
theorem dss_nil : DSs X W [] sSkip := pss_nil.imp fun D σ H ⟨μ, I, sl, M, s, rs, p⟩ => p.here s rs
theorem dss_cons (h1 : DS X W st f) (h2 : DSs X W rest g) : DSs X W (st :: rest) (sSeq f g) := (pss_cons h1 h2).imp fun _ _ _ h => tSeq_of h
theorem dss_one (h1 : DS X W st f) : DSs X W [st] f := pss_one h1
def sPass : FS := fun sl M => .nx sl M
theorem ds_pass : DS X W (.Pass pos) sPass := ps_pass.imp fun D σ H ⟨μ, I, sl, M, s, rs, p⟩ => p.here s rs
def sBreak : FS := fun sl M => .bk sl M
theorem ds_break : DS X W (.Break pos) sBreak := ps_break.imp fun D σ H ⟨μ, I, sl, M, s, rs, p⟩ => p μ I H σ (Step.refl s) rs
def sCont : FS := fun sl M => .ct sl M
theorem ds_continue : DS X W (.Continue pos) sCont := ps_continue.imp fun D σ H ⟨μ, I, sl, M, s, rs, p⟩ => p μ I H σ (Step.refl s) rs
def sNever : FS := fun _ _ => .fail
theorem ds_never : DS X W st sNever := (ps_never (X := X) (st := st)).imp fun D σ H ⟨μ, I, sl, M, s, rs, p⟩ => p.elim
theorem dss_never : DSs X W rest sNever := (pss_never (X := X) (sts := rest)).imp fun D σ H ⟨μ, I, sl, M, s, rs, p⟩ => p.elim
def sExpr (F : FE) : FS := fun sl M => (F sl M).toS sl fun _ M1 => .nx sl M1
theorem ds_expr (he : DE X W e F) (hs : swapsWith e none pos.line X.env = pure false := by rfl) : DS X W (.Expr e pos) (sExpr F) :=
  (ps_expr he hs).imp fun D σ H ⟨μ, I, sl, M, s, rs, p⟩ => ⟨μ, I, sl, M, s, rs, (PostS.bind (R := RD X.K (cmOf X.mg)) p rs).imp fun x H1 ⟨μ1, I1, M1, d, st, ra, p1⟩ => p1.here st.sim (rs.mono st.gr)⟩
def sRet (F : FE) : FS := fun sl M => (F sl M).toS sl fun d M1 => .rt d M1
theorem ds_ret (he : DE X W e F) : DS X W (.Return (some e) pos) (sRet F) :=
  (ps_ret he).imp fun D σ H ⟨μ, I, sl, M, s, rs, p⟩ => ⟨μ, I, sl, M, s, rs, (PostS.bind (R := RD X.K (cmOf X.mg)) p rs).imp fun x H1 ⟨μ1, I1, M1, d, st, ra, p1⟩ => p1 μ1 I1 H1 x (Step.refl st.sim) ra⟩
def sRetN : FS := fun sl M => .rt (.t .non) M
theorem ds_retN : DS X W (.Return none pos) sRetN := ps_retN.imp fun D σ H ⟨μ, I, sl, M, s, rs, p⟩ => p μ I H .non (Step.refl s) (rep_non (K := X.K) (cm := cmOf X.mg) (I := I))
def sIf (t : Fn Bool) (f g : FS) : FS := fun sl M => (t sl M).toS sl fun k M1 => if k then f sl M1 else g sl M1
theorem ds_if (hc : DT X W c tc) (ha : DSs X W body f) (hb : DSs X W orelse g) : DS X W (.If c body orelse pos) (sIf tc f g) :=
  (ps_if hc ha hb).imp fun D σ H ⟨μ, I, sl, M, s, rs, p⟩ => ⟨μ, I, sl, M, s, rs, (PostS.bind (R := RB) p rs).imp fun x H1 ⟨μ1, I1, M1, k, st, ra, p1⟩ => by
    have ra : k = x := ra
    subst ra
    cases k with
    | true => rw [if_pos rfl] at p1 ⊢; exact ⟨μ1, I1, sl, M1, st.sim, rs.mono st.gr, p1⟩
    | false => rw [if_neg Bool.false_ne_true] at p1 ⊢; exact ⟨μ1, I1, sl, M1, st.sim, rs.mono st.gr, p1⟩⟩

/-! ### targets -/
/-- the slots but those of is stand -/
def SameBut (is : List Nat) (σ σ' : L2.St) : Prop := σ'.length = σ.length ∧ ∀ j, j ∉ is → σ'[j]? = σ[j]?
abbrev GG := D → FS
def zG (is : List Nat) (σ : L2.St) (Q : L2.St → Hp → Prop) : Ends := { nx := fun σ' H' => SameBut is σ σ' → Q σ' H', rt := fun _ _ => False }
def rdG (X : Cx) (W : WX) (is : List Nat) (G : GG) : TG := fun v σ H Q => ∃ μ I sl M d, Sim X.K (cmOf X.mg) μ I M H ∧ RepS X.K (cmOf X.mg) μ I M.length sl σ ∧ RepD X.K (cmOf X.mg) μ I M.length d v ∧
  PostS X.K (cmOf X.mg) μ I M H W (G d sl M) (zG is σ Q)
def rdGs (X : Cx) (W : WX) (is : List Nat) (G : List T → FS) : TGs := fun vs σ H Q => ∃ μ I sl M ts, Sim X.K (cmOf X.mg) μ I M H ∧ RepS X.K (cmOf X.mg) μ I M.length sl σ ∧ RepTL X.K (cmOf X.mg) I ts vs ∧
  match G ts sl M with
  | .nx sl' M' => ∀ μ' I' H' σ', Step X.K (cmOf X.mg) μ I M H μ' I' M' H' → RepS X.K (cmOf X.mg) μ' I' M'.length sl' σ' → SameBut is σ σ' → Q σ' H'
  | _ => False
abbrev DG (X : Cx) (W : WX) (is : List Nat) (tg : Expr) (G : GG) : Prop := PG X tg (rdG X W is G)
abbrev DGs (X : Cx) (W : WX) (is : List Nat) (tgs : List Expr) (G : List T → FS) : Prop := PGs X tgs (rdGs X W is G)
theorem PG.imp {X : Cx} {e : Expr} {t t' : TG} (h : PG X e t) (i : ∀ v σ H Q, t' v σ H Q → t v σ H Q) : PG X e t' := ⟨fun pins s σ H v u Q I r q => h.run pins s σ H v u Q I r (i _ _ _ _ q)⟩
theorem PGs.imp {X : Cx} {e : List Expr} {t t' : TGs} (h : PGs X e t) (i : ∀ v σ H Q, t' v σ H Q → t v σ H Q) : PGs X e t' := ⟨fun pins s σ H v u Q I r q => h.run pins s σ H v u Q I r (i _ _ _ _ q)⟩
theorem SameBut.set {σ : L2.St} {i : Nat} {v : V} : SameBut [i] σ (σ.set i (some v)) := ⟨by simp, fun j hj => List.getElem?_set_ne (fun q => hj (by simp [q]))⟩
theorem SameBut.trans {is js : List Nat} {σ σ1 σ2 : L2.St} (a : SameBut is σ σ1) (b : SameBut js σ1 σ2) : SameBut (is ++ js) σ σ2 :=
  ⟨b.1.trans a.1, fun j hj => (b.2 j (fun q => hj (List.mem_append_right _ q))).trans (a.2 j (fun q => hj (List.mem_append_left _ q)))⟩
def gNm (i : Nat) : GG := fun d sl M => .nx (sl.set i (some d)) M
theorem dg_name {i : Nat} {x : Str} (hN : X.N.Nodup) (hi : X.N[i]? = some x) (hx : Loc X.env.scope x) (hf : X.fn x = true ∨ X.env.scope.names.lookup x = some .local := by first | exact .inl rfl | exact .inr rfl | assumption) : DG X W [i] (.Name x pos) (gNm i) :=
  PG.imp (pg_name hN hi hx hf) fun v σ H Q ⟨μ, I, sl, M, d, s, rs, rd, p⟩ => p μ I H _ (Step.refl s) (rs.set i rd) SameBut.set
def gsNil : List T → FS := fun ts sl M => match ts with
  | [] => .nx sl M
  | _ => .fail
def gsCons (g : GG) (gs : List T → FS) : List T → FS := fun ts sl M => match ts with
  | t :: ts => (match g (.t t) sl M with
    | .nx sl1 M1 => gs ts sl1 M1
    | _ => .fail)
  | _ => .fail
theorem dgs_nil : DGs X W [] [] gsNil := PGs.imp pgs_nil fun v σ H Q ⟨μ, I, sl, M, ts, s, rs, rd, p⟩ => by
  cases ts with
  | nil => exact ⟨inv_nil rd, p μ I H σ (Step.refl s) rs ⟨rfl, fun _ _ => rfl⟩⟩
  | cons t ts => exact p.elim
theorem dgs_cons {is js : List Nat} {es : List Expr} {g : GG} {gs : List T → FS} (h1 : DG X W is e g) (h2 : DGs X W js es gs)
    (hs : (assignEach (e :: es) X.env).map (·.2) = assign e X.env :: (assignEach es X.env).map (·.2) := by rfl) : DGs X W (is ++ js) (e :: es) (gsCons g gs) :=
  PGs.imp (pgs_cons h1 h2 hs) fun v σ H Q ⟨μ, I, sl, M, ts, s, rs, rd, p⟩ => by
    cases ts with
    | nil => exact p.elim
    | cons t ts =>
      obtain ⟨x, r, rfl, r1, r2⟩ := inv_cons rd
      refine ⟨x, r, rfl, μ, I, sl, M, .t t, s, rs, r1, ?_⟩
      unfold gsCons at p
      dsimp only at p
      cases q : g (.t t) sl M with
      | nx sl1 M1 =>
        rw [q] at p
        dsimp only at p
        intro μ1 I1 H1 σ1 st rs1 sb
        refine ⟨μ1, I1, sl1, M1, ts, st.sim, rs1, RepTL.mono st.gr.ex _ _ r2, ?_⟩
        cases q2 : gs ts sl1 M1 with
        | nx sl2 M2 =>
          rw [q2] at p
          exact fun μ2 I2 H2 σ2 st2 rs2 sb2 => p μ2 I2 H2 σ2 (st.trans st2) rs2 (sb.trans sb2)
        | bk a b => rw [q2] at p; exact p.elim
        | ct a b => rw [q2] at p; exact p.elim
        | rt a b => rw [q2] at p; exact p.elim
        | exc x a b => rw [q2] at p; exact p.elim
        | fail => rw [q2] at p; exact p.elim
      | bk a b => rw [q] at p; exact p.elim
      | ct a b => rw [q] at p; exact p.elim
      | rt a b => rw [q] at p; exact p.elim
      | exc x a b => rw [q] at p; exact p.elim
      | fail => rw [q] at p; exact p.elim
def gTp (n : Nat) (gs : List T → FS) : GG := fun d sl M => match d with
  | .t (.tup ts) => if ts.length = n then (match gs ts sl M with
    | .nx a b => .nx a b
    | _ => .fail) else .fail
  | _ => .fail
theorem dg_tup {is : List Nat} {es : List Expr} {k n : Nat} {gs : List T → FS} (hc : X.calm = true) (h : DGs X W is es gs)
    (hn : (assignEach es X.env).length = n := by rfl) (hst : (assignEach es X.env).findIdx? (·.1) = none := by rfl) : DG X W is (.Tuple es k pos) (gTp n gs) :=
  PG.imp (pg_tup hc h hn hst) fun v σ H Q ⟨μ, I, sl, M, d, s, rs, rd, p⟩ => by
    unfold gTp at p
    cases d with
    | m k => exact p.elim
    | t t =>
      cases t <;> first
        | exact p.elim
        | (rename_i ts
           obtain ⟨a, xs, rfl, h1, h2⟩ := inv_tup rd
           dsimp only at p
           by_cases hl : ts.length = n
           · rw [if_pos hl] at p
             exact ⟨a, xs, rfl, sqT_ex s.sub h1, by rw [← h2.length]; exact hl, μ, I, sl, M, ts, s, rs, h2, by
               cases q : gs ts sl M with
               | nx sl1 M1 => rw [q] at p; exact p
               | bk a b => rw [q] at p; exact p.elim
               | ct a b => rw [q] at p; exact p.elim
               | rt a b => rw [q] at p; exact p.elim
               | exc x a b => rw [q] at p; exact p.elim
               | fail => rw [q] at p; exact p.elim⟩
           · rw [if_neg hl] at p; exact p.elim)
end
end Bm

namespace Bm
open PySem L2

section
variable {X : Cx} {W : WX} {a b c e : Expr} {st : Stmt} {rest body orelse : List Stmt} {F fa fb : FE} {f g : FS} {tc : Fn Bool} {pos : Pos} {is : List Nat}

/-! ### assignments -/
def sAsg (F : FE) (G : GG) : FS := fun sl M => (F sl M).toS sl fun d M1 => match G d sl M1 with
  | .nx sl2 M2 => .nx sl2 M2
  | .exc x sl2 M2 => .exc x sl2 M2
  | _ => .fail
theorem tAsg_of {G : GG} {Z : Ends} {σ H} (h : rdS X W (sAsg F G) Z σ H) : tAsg (rdE X W F) (rdG X W is G) Z σ H := by
  obtain ⟨μ, I, sl, M, s, rs, p⟩ := h
  refine ⟨μ, I, sl, M, s, rs, (PostS.bind (R := RD X.K (cmOf X.mg)) p rs).imp fun x H1 ⟨μ1, I1, M1, d, st, ra, p1⟩ => ?_⟩
  refine ⟨μ1, I1, sl, M1, d, st.sim, rs.mono st.gr, ra, ?_⟩
  cases q : G d sl M1 with
  | nx sl2 M2 => rw [q] at p1; exact fun μ2 I2 H2 σ2 st2 rs2 _ => p1 μ2 I2 H2 σ2 st2 rs2
  | exc x a b => rw [q] at p1; exact p1
  | bk a b => rw [q] at p1; exact p1.elim
  | ct a b => rw [q] at p1; exact p1.elim
  | rt a b => rw [q] at p1; exact p1.elim
  | fail => rw [q] at p1; exact p1.elim
theorem ds_asg {tg : Expr} {G : GG} (he : DE X W e F) (hg : DG X W is tg G) (hs : swapsWithSole [tg] e pos.line X.env = pure false := by rfl) (hw : swappedStores [tg] e X.env = pure none := by rfl)
    (h1 : (assignEach [tg] X.env).map (·.2) = [assign tg X.env] := by rfl) : DS X W (.Assign [tg] e pos) (sAsg F G) := (ps_asg he hg hs hw h1).imp fun _ _ _ h => tAsg_of h
def sSet (i : Nat) (F : FE) : FS := fun sl M => (F sl M).toS sl fun d M1 => .nx (sl.set i (some d)) M1
theorem tSet_of {i : Nat} {Z : Ends} {σ H} (h : rdS X W (sSet i F) Z σ H) : tAsg (rdE X W F) (gName i) Z σ H := by
  obtain ⟨μ, I, sl, M, s, rs, p⟩ := h
  exact ⟨μ, I, sl, M, s, rs, (PostS.bind (R := RD X.K (cmOf X.mg)) p rs).imp fun x H1 ⟨μ1, I1, M1, d, st, ra, p1⟩ => p1.here st.sim ((rs.mono st.gr).set i ra)⟩
theorem ds_set {i : Nat} {x : Str} {pos' : Pos} (hN : X.N.Nodup) (hi : X.N[i]? = some x) (hx : Loc X.env.scope x) (he : DE X W e F) (hs : swapsWith e (some (.Name x pos')) pos.line X.env = pure false := by rfl) (hf : X.fn x = true ∨ X.env.scope.names.lookup x = some .local := by first | exact .inl rfl | exact .inr rfl | assumption) :
    DS X W (.Assign [.Name x pos'] e pos) (sSet i F) := (ps_set hN hi hx he hs hf).imp fun _ _ _ h => tSet_of h
/-- a, b = x, y -/
def sPar (i j : Nat) (fs : Fn (List D)) : FS := fun sl M => (fs sl M).toS sl fun ds M1 => match ds with
  | [d, d'] => .nx ((sl.set i (some d)).set j (some d')) M1
  | _ => .fail
theorem ds_par {i j : Nat} {x y : Str} {fs : Fn (List D)} {px py pt : Pos} {kt k2 pt2} (hc : X.calm = true) (hN : X.N.Nodup) (hi : X.N[i]? = some x) (hj : X.N[j]? = some y) (hij : i ≠ j)
    (hx : X.env.scope.names.lookup x = some .local) (hy : X.env.scope.names.lookup y = some .local) (ha : DA X W [a, b] fs)
    (hw : swappedStores [.Tuple [.Name x px, .Name y py] kt pt] (.Tuple [a, b] k2 pt2) X.env = pure (some [x, y]))
    (hs : swapsWithSole [.Tuple [.Name x px, .Name y py] kt pt] (.Tuple [a, b] k2 pt2) pos.line X.env = pure false := by rfl) :
    DS X W (.Assign [.Tuple [.Name x px, .Name y py] kt pt] (.Tuple [a, b] k2 pt2) pos) (sPar i j fs) :=
  (ps_par hc hN hi hj hij hx hy ha hw hs).imp fun Z σ H ⟨μ, I, sl, M, s, rs, p⟩ => ⟨μ, I, sl, M, s, rs, (PostS.bind (R := RL X.K (cmOf X.mg)) p rs).imp fun vs H1 ⟨μ1, I1, M1, ds, st, ra, p1⟩ => by
    split at p1
    · rename_i d d'
      have ra : RepDL X.K (cmOf X.mg) μ1 I1 M1.length [d, d'] vs := ra
      unfold RepDL at ra
      obtain ⟨v, r, rfl, r1, r2⟩ := ra
      unfold RepDL at r2
      obtain ⟨w, r', rfl, r3, r4⟩ := r2
      unfold RepDL at r4
      subst r4
      exact ⟨v, w, rfl, p1.here st.sim (((rs.mono st.gr).set i r1).set j r3)⟩
    · exact p1.elim⟩

/-! ### the store's lists -/
/-- a list of the store gets other items -/
theorem mset_step {K : PySem.W.Frag} {cm : Str → Addr} {μ : Nat → Addr} {I H : Hp} {M : List MO} {k : Nat} {ts us : List T} {ys : List V} (s : Sim K cm μ I M H) (e : M[k]? = some (.lst ts)) (r : RepTL K cm I us ys) :
    Step K cm μ I M H μ I (M.set k (.lst us)) (upd H (μ k) (.lst ys)) := by
  have hk : k < M.length := (List.getElem?_eq_some_iff.mp e).1
  obtain ⟨hI, xs, hH, _⟩ := s.obj k _ e
  have nI : ∀ a o, I a = some o → a ≠ μ k := fun a o h q => by rw [q, hI] at h; cases h
  refine ⟨⟨fun _ _ => rfl, by simp, Ex.refl _⟩, ⟨fun a o h => by rw [upd_ne (nI a o h)]; exact s.sub a o h, by simpa using s.inj, fun j hj => ?_, fun j o ej => ?_⟩, fun a o h nk => by rw [upd_ne (nk k hk)]; exact h, fun _ _ _ h _ => h, fun j h1 h2 => by simp at h2; omega⟩
  · simp at hj
    by_cases q : μ j = μ k
    · exact ⟨_, by rw [q]; exact upd_same⟩
    · obtain ⟨o, h⟩ := s.tr j hj
      exact ⟨o, by rw [upd_ne q]; exact h⟩
  · by_cases hj : k = j
    · subst hj
      rw [List.getElem?_set_self hk] at ej
      cases ej
      exact ⟨hI, ys, upd_same, r⟩
    · rw [List.getElem?_set_ne hj] at ej
      have hjl : j < M.length := (List.getElem?_eq_some_iff.mp ej).1
      have nm : μ j ≠ μ k := fun q => hj (s.inj k j hk hjl q.symm)
      have q := s.obj j o ej
      rw [List.length_set]
      cases o with
      | lst us =>
        obtain ⟨q1, zs, q2, q3⟩ := q
        exact ⟨q1, zs, by rw [upd_ne nm]; exact q2, q3⟩
      | ins cl ns ds =>
        obtain ⟨q1, dx, zs, q2, q3, q4⟩ := q
        exact ⟨q1, dx, zs, by rw [upd_ne nm]; exact q2, q3, q4⟩
      | frz w => exact q
      | dead => exact q
/-- o[i] = d, o a list of the store -/
def gSubM (fo fi : FE) : GG := fun d sl M => (fo sl M).toS sl fun o M1 => (fi sl M1).toS sl fun i M2 => match o, i with
  | .m k, .t (.int n) => (match M2[k]? with
    | some (.lst ts) => (match ixN ts.length n with
      | some j => (match frz1 M2 d with
        | some (t, M3) => (match M3[k]? with
          | some (.lst ts) => .nx sl (M3.set k (.lst (ts.set j t)))
          | _ => .fail)
        | none => .fail)
      | none => .fail)
    | _ => .fail)
  | _, _ => .fail
theorem dg_subM {o i : Expr} {fo fi : FE} (ho : DE X W o fo) (hi : DE X W i fi)
    (ha : ∀ v, assign (.Subscript o i pos) X.env v = (do
      let ov ← holding [v] (eval o X.env)
      let iv ← holding [v, ov] (eval i X.env)
      standAt pos
      holding [v, ov, iv] (setItem ov iv v)
      release [v, ov, iv] []) := by intro _; rfl) : DG X W [] (.Subscript o i pos) (gSubM fo fi) :=
  PG.imp (pg_sub ho hi set_list ha) fun v σ H Q ⟨μ, I, sl, M, d, s, rs, rd, p⟩ => by
    refine ⟨μ, I, sl, M, s, rs, (PostS.bind (R := RD X.K (cmOf X.mg)) p rs).imp fun x H1 ⟨μ1, I1, M1, o, st, ra, p1⟩ => ?_⟩
    refine ⟨μ1, I1, sl, M1, st.sim, rs.mono st.gr, (PostS.bind (R := RD X.K (cmOf X.mg)) p1 (rs.mono st.gr)).imp fun y H2 ⟨μ2, I2, M2, i, st2, rb, p2⟩ => ?_⟩
    have rs2 := (rs.mono st.gr).mono st2.gr
    have ra2 := ra.mono st2.gr
    have rd2 := (rd.mono st.gr).mono st2.gr
    split at p2
    · rename_i k n _
      split at p2
      · rename_i ts e1
        split at p2
        · rename_i j e2
          split at p2
          · rename_i t M3 e3
            split at p2
            · rename_i ts' e4
              obtain ⟨_, rfl⟩ := ra2
              obtain ⟨I3, st3, r3⟩ := frz1_ok st2.sim rd2 e3
              obtain ⟨_, xs, h1, h2⟩ := st3.sim.obj k _ e4
              obtain ⟨_, xs2, h3, h4⟩ := st2.sim.obj k _ e1
              have ex : xs2 = xs := by
                rw [h1] at h3
                injection h3 with h3
                injection h3 with h3
                exact h3.symm
              subst ex
              refine ⟨μ2 k, xs2, n, j, rfl, inv_int (K := X.K) (cm := cmOf X.mg) (I := I2) rb, h1, by rw [← h4.length]; exact e2, ?_⟩
              have st4 := mset_step st3.sim e4 (h2.set (i := j) r3)
              exact PostS.here (PostS.step (st3.trans st4) p2 |> fun _ => st4.sim) ((rs2.mono st3.gr).mono st4.gr) (PostS.step (st3.trans st4) p2) ⟨rfl, fun _ _ => rfl⟩
            · exact p2.elim
          · exact p2.elim
        · exact p2.elim
      · exact p2.elim
    · exact p2.elim

/-! ### a list's methods -/
variable {es : List Expr} {fs : Fn (List D)} {p apos cpos : Pos}
abbrev GM := D → List D → List MO → Res D
def DMt (K : PySem.W.Frag) (cm : Str → Addr) (T : String) (r : V → List V → Hp → VK → Prop) (g : GM) : Prop := ∀ μ I M H d ds v vs Q (Wx : XK), Sim K cm μ I M H → RepD K cm μ I M.length d v → RepDL K cm μ I M.length ds vs →
  Post K cm (RD K cm) μ I M H Wx (g d ds M) Q → r v vs H Q
/-- what a receiver must be ahead of the arguments -/
def eBM (ty : D → List MO → Bool) (g : GM) (fo : FE) (fs : Fn (List D)) : FE := fun sl M => (fo sl M).bind fun d M1 => if ty d M1 then (fs sl M1).bind fun ds M2 => g d ds M2 else .fail
def isLst : D → List MO → Bool := fun d M => (lstOf M d).isSome
def isStrD : D → List MO → Bool := fun d _ => match d with
  | .t (.str _) => true
  | _ => false
theorem ty_lst {K : PySem.W.Frag} {cm : Str → Addr} {μ : Nat → Addr} {I H : Hp} {M : List MO} {d : D} {v : V} (s : Sim K cm μ I M H) (r : RepD K cm μ I M.length d v) (h : isLst d M = true) : tyV K "list" v H := by
  unfold isLst at h
  cases e : lstOf M d with
  | none => rw [e] at h; cases h
  | some ts =>
    obtain ⟨a, xs, rfl, h1, _⟩ := lstOf_ok s r e
    exact .inl ⟨rfl, xs, SqL.of h1⟩
theorem ty_str {K : PySem.W.Frag} {cm : Str → Addr} {μ : Nat → Addr} {I H : Hp} {M : List MO} {d : D} {v : V} (s : Sim K cm μ I M H) (r : RepD K cm μ I M.length d v) (h : isStrD d M = true) : tyV K "str" v H := by
  unfold isStrD at h
  split at h
  · rw [inv_str (K := K) (cm := cm) (I := I) r]; rfl
  · cases h
theorem tBM_of {T : String} {r : V → List V → Hp → VK → Prop} {g : GM} {ty : D → List MO → Bool} (hty : ∀ {μ I M H d v}, Sim X.K (cmOf X.mg) μ I M H → RepD X.K (cmOf X.mg) μ I M.length d v → ty d M = true → tyV X.K T v H) (hd : DMt X.K (cmOf X.mg) T r g) {fo : FE} {σ H Q}
    (h : rdE X W (eBM ty g fo fs) σ H Q) : tBM X.K T r (rdE X W fo) (rdA X W fs) σ H Q := by
  obtain ⟨μ, I, sl, M, s, rs, p⟩ := h
  refine ⟨μ, I, sl, M, s, rs, (Post.bind (R := RD X.K (cmOf X.mg)) p).imp fun x H1 ⟨μ1, I1, M1, d, st, ra, p1⟩ => ?_⟩
  split at p1
  · rename_i ht
    refine ⟨hty st.sim ra ht, μ1, I1, sl, M1, st.sim, rs.mono st.gr, (Post.bind (R := RL X.K (cmOf X.mg)) p1).imp fun ys H2 ⟨μ2, I2, M2, ds, st2, rb, p2⟩ => ?_⟩
    exact hd _ _ _ _ _ _ _ _ _ _ st2.sim (ra.mono st2.gr) rb p2
  · exact p1.elim
theorem de_bm {T : String} {name : Str} {id : String} {r : V → List V → Hp → VK → Prop} {g : GM} {ty : D → List MO → Bool} {o : Expr} {fo : FE} (pa : PlainAttrs T) (slot : Slot T name id) (hty : typeOf (.builtin id) = pure (.type "method_descriptor")) (hm : MtR X id r)
    (hT : ∀ {μ I M H d v}, Sim X.K (cmOf X.mg) μ I M H → RepD X.K (cmOf X.mg) μ I M.length d v → ty d M = true → tyV X.K T v H) (hd : DMt X.K (cmOf X.mg) T r g) (ho : DE X W o fo) (ha : DA X W (e :: es) fs)
    (hbase : attributeBase o name X.env (eval o X.env) = eval o X.env := by rfl)
    (hfew : ((backTo cpos (starEach (e :: es) X.env)).all (fun x => !x.1) && (backToKw cpos (keywordEach [] X.env)).all (fun x => x.1.isSome)
      && decide ((e :: es).length + ([] : List Keyword).length + (if ([] : List Keyword).isEmpty then 0 else 1) < 30)) = true := by rfl)
    (hline : (apos.endLine == cpos.line) = true := by rfl) (hs : starEach (e :: es) X.env = (false, eval e X.env) :: starEach es X.env := by rfl) (hplain : (backTo cpos (starEach es X.env)).any (·.1) = false := by rfl) :
    DE X W (.Call (.Attribute o name apos) (e :: es) [] cpos) (eBM ty g fo fs) := (pe_bm pa slot hty hm ho ha hbase hfew hline hs hplain).imp fun _ _ _ h => tBM_of hT hd h
/-- append -/
def gAppend : GM := fun d ds M => match d, ds with
  | .m k, [x] => (match frz1 M x with
    | some (t, M1) => (match M1[k]? with
      | some (.lst ts) => if ts.length < sizeLine then .ok (.t .non) (M1.set k (.lst (ts ++ [t]))) else .fail
      | _ => .fail)
    | none => .fail)
  | _, _ => .fail
theorem dm_append {K : PySem.W.Frag} {cm : Str → Addr} : DMt K cm "list" rAppend gAppend := fun μ I M H d ds v vs Q Wx s rd rr p => by
  unfold gAppend at p
  split at p
  · rename_i k x
    split at p
    · rename_i t M1 e1
      split at p
      · rename_i ts e2
        split at p
        · rename_i hl
          obtain ⟨w, rfl, rw1⟩ := inv1 rr
          obtain ⟨_, rfl⟩ := rd
          obtain ⟨I1, st1, r1⟩ := frz1_ok s rw1 e1
          obtain ⟨_, xs, h1, h2⟩ := st1.sim.obj k _ e2
          have ag : μ k = μ k := rfl
          refine ⟨μ k, xs, w, rfl, rfl, h1, by rw [← h2.length]; exact hl, ?_⟩
          have st2 := mset_step st1.sim e2 (h2.append (RepTL.cons r1 RepTL.nil))
          exact (p.step (st1.trans st2)).non st2.sim
        · exact p.elim
      · exact p.elim
    · exact p.elim
  · exact p.elim
theorem de_append {o : Expr} {fo : FE} (ho : DE X W o fo) (ha : DA X W [e] fs)
    (hbase : attributeBase o "append" X.env (eval o X.env) = eval o X.env := by rfl)
    (hfew : ((backTo cpos (starEach [e] X.env)).all (fun x => !x.1) && (backToKw cpos (keywordEach [] X.env)).all (fun x => x.1.isSome)
      && decide ([e].length + ([] : List Keyword).length + (if ([] : List Keyword).isEmpty then 0 else 1) < 30)) = true := by rfl)
    (hline : (apos.endLine == cpos.line) = true := by rfl) (hs : starEach [e] X.env = (false, eval e X.env) :: starEach [] X.env := by rfl) :
    DE X W (.Call (.Attribute o "append" apos) [e] [] cpos) (eBM isLst gAppend fo fs) :=
  de_bm PySem.F.plainAttrs_list PySem.F.slot_list_append PySem.F.type_list_append (fun pins s σ H x xs v us Q I rx rv q => mt_append pins s σ H x xs v us Q I rx rv q) ty_lst dm_append ho ha hbase hfew hline hs
/-- str.join -/
def strsOf : List T → Option (List Str)
  | [] => some []
  | .str b :: ts => (match strsOf ts with
    | some bs => some (b :: bs)
    | none => none)
  | _ => none
theorem strs_ok {K : PySem.W.Frag} {cm : Str → Addr} {I : Hp} : ∀ {ts : List T} {xs : List V} {bs : List Str}, RepTL K cm I ts xs → strsOf ts = some bs → xs = bs.map V.str := by
  intro ts
  induction ts with
  | nil => intro xs bs h e; simp [strsOf] at e; subst e; rw [inv_nil h]; rfl
  | cons t ts ih =>
    intro xs bs h e
    obtain ⟨x, r, rfl, h1, h2⟩ := inv_cons h
    cases t <;> first
      | (simp only [strsOf] at e
         split at e
         · rename_i bs' e'
           cases e
           rw [ih h2 e', inv_str h1]; rfl
         · cases e)
      | (simp [strsOf] at e; done)
def gJoin : GM := fun d ds M => match d, ds with
  | .t (.str z), [x] => (match seqD M x with
    | some ts => (match strsOf ts with
      | some ys => if (ys.map (·.length)).sum + ys.length * z.length ≤ 16777216 then .ok (.t (.str (Txt.join z ys))) M else .fail
      | none => .fail)
    | none => .fail)
  | _, _ => .fail
theorem dm_join {K : PySem.W.Frag} {cm : Str → Addr} : DMt K cm "str" (fun x xs H Q => ∃ a p, ∃ ys : List Str, x = .str a ∧ xs = [.ref p] ∧ (SqL K H p (ys.map V.str) ∨ SqT K H p (ys.map V.str)) ∧
    (ys.map (·.length)).sum + ys.length * a.length ≤ 16777216 ∧ Q (.str (Txt.join a ys)) H) gJoin := fun μ I M H d ds v vs Q Wx s rd rr p => by
  unfold gJoin at p
  split at p
  · rename_i z x
    split at p
    · rename_i ts e1
      split at p
      · rename_i ys e2
        split at p
        · rename_i hl
          obtain ⟨w, rfl, rw1⟩ := inv1 rr
          obtain ⟨a, xs, rfl, h1, h2⟩ := seqD_ok s rw1 e1
          rw [strs_ok h2 e2] at h1
          exact ⟨z, a, ys, inv_str (K := K) (cm := cm) (I := I) rd, rfl, h1, hl, p.str s⟩
        · exact p.elim
      · exact p.elim
    · exact p.elim
  · exact p.elim
theorem de_join {o : Expr} {fo : FE} (ho : DE X W o fo) (ha : DA X W [e] fs)
    (hbase : attributeBase o "join" X.env (eval o X.env) = eval o X.env := by rfl)
    (hfew : ((backTo cpos (starEach [e] X.env)).all (fun x => !x.1) && (backToKw cpos (keywordEach [] X.env)).all (fun x => x.1.isSome)
      && decide ([e].length + ([] : List Keyword).length + (if ([] : List Keyword).isEmpty then 0 else 1) < 30)) = true := by rfl)
    (hline : (apos.endLine == cpos.line) = true := by rfl) (hs : starEach [e] X.env = (false, eval e X.env) :: starEach [] X.env := by rfl) :
    DE X W (.Call (.Attribute o "join" apos) [e] [] cpos) (eBM isStrD gJoin fo fs) :=
  de_bm PySem.F.plainAttrs_str PySem.F.slot_str_join PySem.F.type_str_join mt_join ty_str dm_join ho ha hbase hfew hline hs
end
end Bm

namespace Bm
open PySem L2

/-- the iterator gives these trees, one by one -/
structure ItemsOf (K : PySem.W.Frag) (cm : Str → Addr) (J : It) (I0 : Hp) (ts : List T) : Prop where
  go : ∀ i H, Ex I0 H → i < ts.length → J.go i H
  stop : ∀ H, Ex I0 H → J.stop ts.length H
  item : ∀ i I H x H' t, Ex I0 I → Ex I H → ts[i]? = some t → J.yld i H x H' → ∃ I', StepT I H I' H' ∧ RepT K cm I' t x
def RI (K : PySem.W.Frag) (cm : Str → Addr) : Rl (List T) It := fun _ I _ ts J => ItemsOf K cm J I ts
abbrev DI (X : Cx) (W : WX) (tg iter : Expr) (F : Fn (List T)) : Prop := PI X tg iter (rd X.K (cmOf X.mg) W (RI X.K (cmOf X.mg)) F)
theorem PI.imp {X : Cx} {tg e : Expr} {t t' : TI} (h : PI X tg e t) (i : ∀ σ H R, t' σ H R → t σ H R) : PI X tg e t' := ⟨fun pins s σ H R I q => h.run pins s σ H R I (i _ _ _ q)⟩

section
variable {X : Cx} {W : WX} {tg a b c e : Expr} {rest body : List Stmt} {F fa fb : FE} {f g : FS} {pos p : Pos} {is : List Nat} {fs : Fn (List D)}
/-! ### what is walked -/
theorem items_list {K : PySem.W.Frag} {cm : Str → Addr} {a : Addr} {xs : List V} {ts : List T} {I : Hp} (h : I a = some (.lst xs)) (r : RepTL K cm I ts xs) : ItemsOf K cm (Itl K a) I ts where
  go := fun i H e hi => by
    obtain ⟨x, h1, _⟩ := r.get (List.getElem?_eq_getElem hi)
    exact ⟨xs, x, SqL.of (e _ _ h), h1⟩
  stop := fun H e => ⟨xs, SqL.of (e _ _ h), by rw [r.length]; exact Nat.le_refl _⟩
  item := fun i I1 H x H' t e1 e2 ht y => by
    obtain ⟨rfl, y⟩ := y
    have hx := y xs (SqL.of (e2 _ _ (e1 _ _ h)))
    obtain ⟨t', h1, h2⟩ := r.getV hx
    rw [ht] at h1
    cases h1
    exact ⟨I1, StepT.refl e2, RepT.mono e1 _ _ h2⟩
theorem items_tup {K : PySem.W.Frag} {cm : Str → Addr} {a : Addr} {xs : List V} {ts : List T} {I : Hp} (h : SqT K I a xs) (r : RepTL K cm I ts xs) : ItemsOf K cm (Itt K a) I ts where
  go := fun i H e hi => by
    obtain ⟨x, h1, _⟩ := r.get (List.getElem?_eq_getElem hi)
    exact ⟨xs, x, sqT_ex e h, h1⟩
  stop := fun H e => ⟨xs, sqT_ex e h, by rw [r.length]; exact Nat.le_refl _⟩
  item := fun i I1 H x H' t e1 e2 ht y => by
    obtain ⟨rfl, y⟩ := y
    have hx := y xs (sqT_ex e2 (sqT_ex e1 h))
    obtain ⟨t', h1, h2⟩ := r.getV hx
    rw [ht] at h1
    cases h1
    exact ⟨I1, StepT.refl e2, RepT.mono e1 _ _ h2⟩
def signsOf (z : Str) : List T := z.cps.toList.map fun c => T.str ⟨#[c]⟩
theorem items_str {K : PySem.W.Frag} {cm : Str → Addr} {z : Str} {I : Hp} : ItemsOf K cm (Its z) I (signsOf z) where
  go := fun i H e hi => by
    show i < z.cps.size
    unfold signsOf at hi; simpa using hi
  stop := fun H e => by show z.cps.size ≤ _; unfold signsOf; simp
  item := fun i I1 H x H' t e1 e2 ht y => by
    obtain ⟨rfl, c, h1, rfl⟩ := y
    have e : t = .str ⟨#[c]⟩ := by
      unfold signsOf at ht
      rw [List.getElem?_map] at ht
      have : z.cps.toList[i]? = some c := by simpa using h1
      rw [this] at ht
      exact (Option.some.inj ht).symm
    subst e
    exact ⟨I1, StepT.refl e2, rep_str⟩
def rangeT (lo : Int) (n : Nat) : List T := (List.range n).map fun (i : Nat) => T.int (lo + (i : Int))
theorem items_range {K : PySem.W.Frag} {cm : Str → Addr} {lo : Int} {n : Nat} {I : Hp} : ItemsOf K cm (Itr lo n) I (rangeT lo n) where
  go := fun i H e hi => by
    show i < n
    unfold rangeT at hi; simpa using hi
  stop := fun H e => by show n ≤ _; unfold rangeT; simp
  item := fun i I1 H x H' t e1 e2 ht y => by
    obtain ⟨rfl, rfl⟩ := y
    have e : t = .int (lo + (i : Int)) := by
      unfold rangeT at ht
      rw [List.getElem?_map] at ht
      by_cases hi : i < n
      · rw [List.getElem?_range hi] at ht
        exact (Option.some.inj ht).symm
      · rw [List.getElem?_eq_none (by simpa using hi)] at ht
        cases ht
    subst e
    exact ⟨I1, StepT.refl e2, rep_int⟩
/-- a list, a tuple, a text -/
def iAny : D → List MO → Res (List T) := fun d M => match d with
  | .t (.str z) => .ok (signsOf z) M
  | d => (match frz1 M d with
    | some (.lst ts, M1) => .ok ts M1
    | some (.tup ts, M1) => .ok ts M1
    | _ => .fail)
def iE (F : FE) : Fn (List T) := fun sl M => (F sl M).bind iAny
theorem PI.or {X : Cx} {tg e : Expr} {t t' : TI} (h : PI X tg e t) (h' : PI X tg e t') : PI X tg e (fun σ H R => t σ H R ∨ t' σ H R) := ⟨fun pins s σ H R I q => by
  rcases q with q | q
  · exact h.run pins s σ H R I q
  · exact h'.run pins s σ H R I q⟩
/-- a list -/
def iLst : D → List MO → Res (List T) := fun d M => (match frz1 M d with
    | some (.lst ts, M1) => .ok ts M1
    | _ => .fail)
def iL (F : FE) : Fn (List T) := fun sl M => (F sl M).bind iLst
theorem di_list (h : DE X W e F) : DI X W tg e (iL F) := PI.imp (pi_list h) fun σ H R ⟨μ, I, sl, M, s, rs, p⟩ => ⟨μ, I, sl, M, s, rs, (Post.bind (R := RD X.K (cmOf X.mg)) p).imp fun x H1 ⟨μ1, I1, M1, d, st, ra, p1⟩ => by
  unfold iLst at p1
  split at p1
  · rename_i ts M2 e1
    obtain ⟨I2, st2, r2⟩ := frz1_ok st.sim ra e1
    obtain ⟨a, xs, rfl, h1, h2⟩ := inv_lst r2
    exact ⟨a, rfl, ⟨xs, SqL.of (st2.sim.sub _ _ h1)⟩, (p1.step st2) μ1 I2 H1 _ (Step.refl st2.sim) (items_list h1 h2)⟩
  · exact p1.elim⟩
def iTp : D → List MO → Res (List T) := fun d M => match d with
  | .t (.tup ts) => .ok ts M
  | _ => .fail
def iT (F : FE) : Fn (List T) := fun sl M => (F sl M).bind iTp
theorem di_tup (h : DE X W e F) : DI X W tg e (iT F) := PI.imp (pi_tup h) fun σ H R ⟨μ, I, sl, M, s, rs, p⟩ => ⟨μ, I, sl, M, s, rs, (Post.bind (R := RD X.K (cmOf X.mg)) p).imp fun x H1 ⟨μ1, I1, M1, d, st, ra, p1⟩ => by
  unfold iTp at p1
  split at p1
  · rename_i ts
    obtain ⟨a, xs, rfl, h1, h2⟩ := inv_tup ra
    exact ⟨a, rfl, ⟨xs, sqT_ex st.sim.sub h1⟩, p1 μ1 I1 H1 _ (Step.refl st.sim) (items_tup h1 h2)⟩
  · exact p1.elim⟩
def iSt : D → List MO → Res (List T) := fun d M => match d with
  | .t (.str z) => .ok (signsOf z) M
  | _ => .fail
def iS (F : FE) : Fn (List T) := fun sl M => (F sl M).bind iSt
theorem di_str (h : DE X W e F) : DI X W tg e (iS F) := PI.imp (pi_str h) fun σ H R ⟨μ, I, sl, M, s, rs, p⟩ => ⟨μ, I, sl, M, s, rs, (Post.bind (R := RD X.K (cmOf X.mg)) p).imp fun x H1 ⟨μ1, I1, M1, d, st, ra, p1⟩ => by
  unfold iSt at p1
  split at p1
  · rename_i z
    exact ⟨z, inv_str (K := X.K) (cm := cmOf X.mg) (I := I1) ra, p1 μ1 I1 H1 _ (Step.refl st.sim) items_str⟩
  · exact p1.elim⟩
def iRg1 : List D → List MO → Res (List T) := fun ds M => match ds with
  | [.t (.int j)] => if -(2 ^ 62) ≤ j ∧ j < 2 ^ 62 then .ok (rangeT 0 j.toNat) M else .fail
  | _ => .fail
def iR1 (fs : Fn (List D)) : Fn (List T) := fun sl M => (fs sl M).bind iRg1
theorem di_range1 {q : Pos} (hg : Gl X "range") (hm : X.mg "range" = none) (ha : DA X W [a] fs) (hs : starEach [a] X.env = [(false, eval a X.env)] := by rfl) : DI X W tg (.Call (.Name "range" q) [a] [] pos) (iR1 fs) :=
  PI.imp (pi_range1 hg hm ha hs) fun σ H R ⟨μ, I, sl, M, s, rs, p⟩ => ⟨μ, I, sl, M, s, rs, (Post.bind (R := RL X.K (cmOf X.mg)) p).imp fun x H1 ⟨μ1, I1, M1, ds, st, ra, p1⟩ => by
    unfold iRg1 at p1
    split at p1
    · rename_i j
      split at p1
      · rename_i hj
        obtain ⟨w, rfl, r1⟩ := inv1 ra
        exact ⟨j, by rw [inv_int (K := X.K) (cm := cmOf X.mg) (I := I1) r1], hj.1, hj.2, p1 μ1 I1 H1 _ (Step.refl st.sim) items_range⟩
      · exact p1.elim
    · exact p1.elim⟩
def iRg2 : List D → List MO → Res (List T) := fun ds M => match ds with
  | [.t (.int i), .t (.int j)] => if -(2 ^ 62) ≤ i ∧ i < 2 ^ 62 ∧ -(2 ^ 62) ≤ j ∧ j < 2 ^ 62 then .ok (rangeT i (j - i).toNat) M else .fail
  | _ => .fail
def iR2 (fs : Fn (List D)) : Fn (List T) := fun sl M => (fs sl M).bind iRg2
theorem inv2D {K : PySem.W.Frag} {cm : Str → Addr} {μ : Nat → Addr} {I : Hp} {n : Nat} {d d' : D} {vs : List V} (h : RepDL K cm μ I n [d, d'] vs) : ∃ x y, vs = [x, y] ∧ RepD K cm μ I n d x ∧ RepD K cm μ I n d' y := by
  unfold RepDL at h
  obtain ⟨x, r, rfl, h1, h2⟩ := h
  obtain ⟨y, rfl, h3⟩ := inv1 h2
  exact ⟨x, y, rfl, h1, h3⟩
theorem di_range2 {q : Pos} (hg : Gl X "range") (hm : X.mg "range" = none) (ha : DA X W [a, b] fs) (hs : starEach [a, b] X.env = [(false, eval a X.env), (false, eval b X.env)] := by rfl) (hs2 : starEach [b] X.env = [(false, eval b X.env)] := by rfl) : DI X W tg (.Call (.Name "range" q) [a, b] [] pos) (iR2 fs) :=
  PI.imp (pi_range2 hg hm ha hs hs2) fun σ H R ⟨μ, I, sl, M, s, rs, p⟩ => ⟨μ, I, sl, M, s, rs, (Post.bind (R := RL X.K (cmOf X.mg)) p).imp fun x H1 ⟨μ1, I1, M1, ds, st, ra, p1⟩ => by
    unfold iRg2 at p1
    split at p1
    · rename_i i j
      split at p1
      · rename_i hj
        obtain ⟨w, w', rfl, r1, r2⟩ := inv2D ra
        exact ⟨i, j, by rw [inv_int (K := X.K) (cm := cmOf X.mg) (I := I1) r1, inv_int (K := X.K) (cm := cmOf X.mg) (I := I1) r2], hj, p1 μ1 I1 H1 _ (Step.refl st.sim) items_range⟩
      · exact p1.elim
    · exact p1.elim⟩
/-- zip of two lists | of two tuples -/
def zipT (ts us : List T) : List T := (ts.zip us).map fun p => T.tup [p.1, p.2]
theorem zipT_get {ts us : List T} {i : Nat} {t : T} (h : (zipT ts us)[i]? = some t) : ∃ a b, ts[i]? = some a ∧ us[i]? = some b ∧ t = .tup [a, b] := by
  unfold zipT at h
  rw [List.getElem?_map] at h
  cases q : (ts.zip us)[i]? with
  | none => rw [q] at h; cases h
  | some p =>
    rw [q] at h
    obtain ⟨h1, h2⟩ := List.getElem?_zip_eq_some.mp q
    exact ⟨p.1, p.2, h1, h2, (Option.some.inj h).symm⟩
theorem zipT_len {ts us : List T} : (zipT ts us).length = min ts.length us.length := by unfold zipT; simp
theorem rep_pair {K : PySem.W.Frag} {cm : Str → Addr} {I : Hp} {p : Addr} {t u : T} {x y : V} (n : I p = none) (r1 : RepT K cm I t x) (r2 : RepT K cm I u y) : RepT K cm (upd I p (.tup [x, y])) (.tup [t, u]) (.ref p) := by
  unfold RepT
  exact ⟨p, [x, y], rfl, .inl upd_same, RepTL.mono (Ex.new n) _ _ (RepTL.cons r1 (RepTL.cons r2 RepTL.nil))⟩
theorem items_zipL {K : PySem.W.Frag} {cm : Str → Addr} {a b : Addr} {xs ys : List V} {ts us : List T} {I : Hp} (ha : I a = some (.lst xs)) (hb : I b = some (.lst ys)) (ra : RepTL K cm I ts xs) (rb : RepTL K cm I us ys) : ItemsOf K cm (Itz K a b) I (zipT ts us) where
  go := fun i H e hi => by
    rw [zipT_len] at hi
    obtain ⟨x, h1, _⟩ := ra.get (List.getElem?_eq_getElem (show i < ts.length by omega))
    obtain ⟨y, h2, _⟩ := rb.get (List.getElem?_eq_getElem (show i < us.length by omega))
    exact ⟨xs, ys, x, y, SqL.of (e _ _ ha), SqL.of (e _ _ hb), h1, h2⟩
  stop := fun H e => ⟨xs, ys, SqL.of (e _ _ ha), SqL.of (e _ _ hb), by rw [zipT_len, ← ra.length, ← rb.length]; omega⟩
  item := fun i I1 H x H' t e1 e2 ht y => by
    obtain ⟨T, u, w, rfl, n, rfl, y1, y2⟩ := y
    obtain ⟨t1, t2, h1, h2, rfl⟩ := zipT_get ht
    obtain ⟨t1', q1, r1⟩ := ra.getV (y1 xs (SqL.of (e2 _ _ (e1 _ _ ha))))
    obtain ⟨t2', q2, r2⟩ := rb.getV (y2 ys (SqL.of (e2 _ _ (e1 _ _ hb))))
    rw [h1] at q1; cases q1
    rw [h2] at q2; cases q2
    exact ⟨_, StepT.new e2 n, rep_pair (e2.free n) (RepT.mono e1 _ _ r1) (RepT.mono e1 _ _ r2)⟩
theorem items_zipT {K : PySem.W.Frag} {cm : Str → Addr} {a b : Addr} {xs ys : List V} {ts us : List T} {I : Hp} (ha : SqT K I a xs) (hb : SqT K I b ys) (ra : RepTL K cm I ts xs) (rb : RepTL K cm I us ys) : ItemsOf K cm (RZ.ItzT K a b) I (zipT ts us) where
  go := fun i H e hi => by
    rw [zipT_len] at hi
    obtain ⟨x, h1, _⟩ := ra.get (List.getElem?_eq_getElem (show i < ts.length by omega))
    obtain ⟨y, h2, _⟩ := rb.get (List.getElem?_eq_getElem (show i < us.length by omega))
    exact ⟨xs, ys, x, y, sqT_ex e ha, sqT_ex e hb, h1, h2⟩
  stop := fun H e => ⟨xs, ys, sqT_ex e ha, sqT_ex e hb, by rw [zipT_len, ← ra.length, ← rb.length]; omega⟩
  item := fun i I1 H x H' t e1 e2 ht y => by
    obtain ⟨T, u, w, rfl, n, rfl, y1, y2⟩ := y
    obtain ⟨t1, t2, h1, h2, rfl⟩ := zipT_get ht
    obtain ⟨t1', q1, r1⟩ := ra.getV (y1 xs (sqT_ex e2 (sqT_ex e1 ha)))
    obtain ⟨t2', q2, r2⟩ := rb.getV (y2 ys (sqT_ex e2 (sqT_ex e1 hb)))
    rw [h1] at q1; cases q1
    rw [h2] at q2; cases q2
    exact ⟨_, StepT.new e2 n, rep_pair (e2.free n) (RepT.mono e1 _ _ r1) (RepT.mono e1 _ _ r2)⟩
def iZp : List D → List MO → Res (List T) := fun ds M => match frzL M ds with
  | some ([.lst ts, .lst us], M1) => .ok (zipT ts us) M1
  | some ([.tup ts, .tup us], M1) => .ok (zipT ts us) M1
  | _ => .fail
def iZ (fs : Fn (List D)) : Fn (List T) := fun sl M => (fs sl M).bind iZp
theorem di_zip {elts : List Expr} {kk : Nat} {tpos q : Pos} (hg : Gl X "zip") (hm : X.mg "zip" = none) (ha : DA X W [a, b] fs)
    (hs : starEach [a, b] X.env = (false, eval a X.env) :: starEach [b] X.env := by rfl) (hpl : (backTo pos (starEach [b] X.env)).any (·.1) = false := by rfl) : DI X W (.Tuple elts kk tpos) (.Call (.Name "zip" q) [a, b] [] pos) (iZ fs) :=
  PI.imp (RZ.pi_zipA hg hm ha hs hpl) fun σ H R ⟨μ, I, sl, M, s, rs, p⟩ => ⟨μ, I, sl, M, s, rs, (Post.bind (R := RL X.K (cmOf X.mg)) p).imp fun x H1 ⟨μ1, I1, M1, ds, st, ra, p1⟩ => by
    unfold iZp at p1
    split at p1
    · rename_i ts us M2 e1
      obtain ⟨I2, st2, r2⟩ := frzL_ok st.sim ra e1
      obtain ⟨v, w, rfl, r3, r4⟩ := inv_2 r2
      obtain ⟨a', xs, rfl, h1, h2⟩ := inv_lst r3
      obtain ⟨b', ys, rfl, h3, h4⟩ := inv_lst r4
      exact ⟨a', b', xs, ys, rfl, .inl ⟨SqL.of (st2.sim.sub _ _ h1), SqL.of (st2.sim.sub _ _ h3), (p1.step st2) μ1 I2 H1 _ (Step.refl st2.sim) (items_zipL h1 h3 h2 h4)⟩⟩
    · rename_i ts us M2 e1
      obtain ⟨I2, st2, r2⟩ := frzL_ok st.sim ra e1
      obtain ⟨v, w, rfl, r3, r4⟩ := inv_2 r2
      obtain ⟨a', xs, rfl, h1, h2⟩ := inv_tup r3
      obtain ⟨b', ys, rfl, h3, h4⟩ := inv_tup r4
      exact ⟨a', b', xs, ys, rfl, .inr ⟨sqT_ex st2.sim.sub h1, sqT_ex st2.sim.sub h3, (p1.step st2) μ1 I2 H1 _ (Step.refl st2.sim) (items_zipT h1 h3 h2 h4)⟩⟩
    · exact p1.elim⟩

/-! ### for -/
def loopF (G : GG) (B : FS) : List T → FS
  | [], sl, M => .nx sl M
  | t :: ts, sl, M => match G (.t t) sl M with
    | .nx sl1 M1 => (match B sl1 M1 with
      | .nx sl2 M2 => loopF G B ts sl2 M2
      | .ct sl2 M2 => loopF G B ts sl2 M2
      | .bk sl2 M2 => .nx sl2 M2
      | r => r)
    | .exc x sl1 M1 => .exc x sl1 M1
    | _ => .fail
def sFor (Fi : Fn (List T)) (G : GG) (B : FS) : FS := fun sl M => (Fi sl M).toS sl fun ts M1 => loopF G B ts sl M1
theorem ds_for {iter : Expr} {Fi : Fn (List T)} {G : GG} {B : FS} (hp : PassesOwn (model X.prog X.w) X.A X.env X.xe) (hc : X.calm = true) (hi : DI X W tg iter Fi) (hg : DG X W is tg G) (hb : DSs X W body B)
    (hs : ∀ x, foldedSetIterable iter X.env x = pure x := by intro _; rfl) : DS X W (.For tg iter body [] pos) (sFor Fi G B) :=
  (ps_for hp hc hi hg hb hs).imp fun Z σ H ⟨μ, I, sl, M, s, rs, p⟩ => ⟨μ, I, sl, M, s, rs, (PostS.bind (R := RI X.K (cmOf X.mg)) p rs).imp fun J H1 ⟨μ1, I1, M1, ts, st, it, p1⟩ => by
    refine ⟨fun i m σ H => i ≤ ts.length ∧ m = ts.length - i ∧ ∃ μ I sl M, Sim X.K (cmOf X.mg) μ I M H ∧ RepS X.K (cmOf X.mg) μ I M.length sl σ ∧ Ex I1 I ∧ PostS X.K (cmOf X.mg) μ I M H W (loopF G B (ts.drop i) sl M) Z,
      ⟨ts.length, Nat.zero_le _, rfl, μ1, I1, sl, M1, st.sim, rs.mono st.gr, Ex.refl _, p1⟩, ?_⟩
    rintro i m σ H ⟨hi, rfl, μ, I, sl, M, s, rs, ex, p⟩
    by_cases hlt : i < ts.length
    · refine .inr ⟨it.go i H (ex.trans s.sub) hlt, fun σ' H' => ∃ μ I sl M, Sim X.K (cmOf X.mg) μ I M H' ∧ RepS X.K (cmOf X.mg) μ I M.length sl σ' ∧ Ex I1 I ∧ PostS X.K (cmOf X.mg) μ I M H' W (loopF G B (ts.drop (i + 1)) sl M) Z,
        fun σ' H' h => ⟨ts.length - (i + 1), by omega, hlt, rfl, h⟩, fun x H' y => ?_⟩
      obtain ⟨I2, st2, r2⟩ := it.item i I H x H' ts[i] ex s.sub (List.getElem?_eq_getElem hlt) y
      have st3 := st2.step s
      have p := p.step st3
      rw [List.drop_eq_getElem_cons hlt] at p
      refine ⟨μ, I2, sl, M, .t ts[i], st3.sim, rs.mono st3.gr, r2, ?_⟩
      unfold loopF at p
      cases q : G (.t ts[i]) sl M with
      | nx sl1 M1 =>
        rw [q] at p
        dsimp only at p
        intro μ4 I4 H4 σ4 st4 rs4 _
        refine ⟨μ4, I4, sl1, M1, st4.sim, rs4, ?_⟩
        have p := p.step st4
        have ex4 : Ex I1 I4 := ex.trans (st2.ii.trans st4.gr.ex)
        cases q2 : B sl1 M1 with
        | nx a b => rw [q2] at p; exact fun μ5 I5 H5 σ5 st5 rs5 => ⟨μ5, I5, a, b, st5.sim, rs5, ex4.trans st5.gr.ex, p.step st5⟩
        | ct a b => rw [q2] at p; exact fun μ5 I5 H5 σ5 st5 rs5 => ⟨μ5, I5, a, b, st5.sim, rs5, ex4.trans st5.gr.ex, p.step st5⟩
        | bk a b => rw [q2] at p; exact p
        | rt a b => rw [q2] at p; exact p
        | exc x a b => rw [q2] at p; exact p
        | fail => rw [q2] at p; exact p.elim
      | bk a b => rw [q] at p; exact p.elim
      | ct a b => rw [q] at p; exact p.elim
      | rt a b => rw [q] at p; exact p.elim
      | exc x a b => rw [q] at p; exact p
      | fail => rw [q] at p; exact p.elim
    · have e : i = ts.length := by omega
      subst e
      rw [List.drop_length] at p
      exact .inl ⟨it.stop H (ex.trans s.sub), p.here s rs⟩⟩
end
end Bm

namespace Bm
open PySem L2

def wipeS (sl : List (Option D)) : List Nat → List (Option D)
  | [] => sl
  | v :: vs => (wipeS sl vs).set v none
theorem wipe_in {σ : L2.St} {i : Nat} : ∀ {vs : List Nat}, i ∈ vs → i < σ.length → (wipe σ vs)[i]? = some none
  | v :: vs, h, hl => by
    unfold wipe
    by_cases e : v = i
    · subst e
      exact List.getElem?_set_self (by rw [wipe_length]; exact hl)
    · rw [List.getElem?_set_ne e]
      rcases List.mem_cons.mp h with q | q
      · exact absurd q.symm e
      · exact wipe_in q hl
theorem wipe_eq {σ σ2 : L2.St} {is vs : List Nat} (h : SameBut is (wipe σ vs) σ2) (hs : ∀ i ∈ is, i ∈ vs) : wipe σ2 vs = wipe σ vs := by
  have hl : σ2.length = σ.length := by rw [h.1, wipe_length]
  refine List.ext_getElem? fun j => ?_
  by_cases hj : j ∈ vs
  · by_cases hlt : j < σ.length
    · rw [wipe_in hj hlt, wipe_in hj (by rw [hl]; exact hlt)]
    · rw [List.getElem?_eq_none (by rw [wipe_length]; omega), List.getElem?_eq_none (by rw [wipe_length]; omega)]
  · rw [wipe_out hj, h.2 j (fun q => hj (hs j q))]
section
variable {K : PySem.W.Frag} {cm : Str → Addr} {μ : Nat → Addr} {I : Hp} {n : Nat}
theorem RepS.none {sl : List (Option D)} {σ : L2.St} (h : RepS K cm μ I n sl σ) (i : Nat) : RepS K cm μ I n (sl.set i none) (σ.set i none) := by
  refine ⟨by simp [h.1], fun j e q => ?_⟩
  by_cases hj : i = j
  · subst hj
    by_cases hi : i < sl.length
    · rw [List.getElem?_set_self hi] at q; cases q
    · rw [List.getElem?_eq_none (by simp; omega)] at q; cases q
  · rw [List.getElem?_set_ne hj] at q
    rw [List.getElem?_set_ne hj]
    exact h.2 j e q
theorem RepS.wipe {sl : List (Option D)} {σ : L2.St} (h : RepS K cm μ I n sl σ) : ∀ vs, RepS K cm μ I n (wipeS sl vs) (L2.wipe σ vs)
  | [] => h
  | v :: vs => by unfold wipeS L2.wipe; exact (RepS.wipe h vs).none v
end

def lcF (vs : List Nat) (G : GG) (Tt : Fn Bool) (E : FE) : List T → List (Option D) → List MO → List T → Option (List T × List MO)
  | [], _, M, acc => some (acc, M)
  | t :: ts, sl, M, acc => match G (.t t) (wipeS sl vs) M with
    | .nx sl1 M1 => (match Tt sl1 M1 with
      | .ok k M2 => if k then (match E sl1 M2 with
        | .ok d M3 => (match frz1 M3 d with
          | some (u, M4) => if acc.length < sizeLine then lcF vs G Tt E ts sl M4 (acc ++ [u]) else none
          | none => none)
        | _ => none) else lcF vs G Tt E ts sl M2 acc
      | _ => none)
    | _ => none
def eLc (Fi : Fn (List T)) (vs : List Nat) (G : GG) (Tt : Fn Bool) (E : FE) : FE := fun sl M => (Fi sl M).bind fun ts M1 => match lcF vs G Tt E ts sl M1 [] with
  | some (us, M2) => .ok (.t (.lst us)) M2
  | none => .fail
def eLcM (Fi : Fn (List T)) (vs : List Nat) (G : GG) (Tt : Fn Bool) (E : FE) : FE := fun sl M => (Fi sl M).bind fun ts M1 => match lcF vs G Tt E ts sl M1 [] with
  | some (us, M2) => .ok (.m M2.length) (M2 ++ [.lst us])
  | none => .fail
/-- nothing may be raised -/
abbrev W0 : WX := fun _ _ _ _ => False
def bYes : Fn Bool := fun _ M => .ok true M

section
variable {X : Cx} {W : WX} {tg iter elt : Expr} {ifs : List Expr} {Fi : Fn (List T)} {vs is : List Nat} {G : GG} {Tt : Fn Bool} {E : FE}
/-- the end of a comprehension: a step behind which the list at L is known or of the store -/
theorem tLc_core {μ I M H σ sl} {Q : VK} {ts : List T} {J : It} (hvs : ∀ i ∈ is, i ∈ vs)
    (s : Sim X.K (cmOf X.mg) μ I M H) (rs : RepS X.K (cmOf X.mg) μ I M.length sl σ) (it : ItemsOf X.K (cmOf X.mg) J I ts) {us : List T} {Mz : List MO} (hr : lcF vs G Tt E ts sl M [] = some (us, Mz))
    (fin : ∀ μ' I' H' L xs, Step X.K (cmOf X.mg) μ I M H μ' I' Mz H' → H L = none → I' L = none → (∀ k, k < Mz.length → μ' k ≠ L) → H' L = some (.lst xs) → RepTL X.K (cmOf X.mg) I' us xs → Q (.ref L) H') :
    ∀ L, H L = none → ∃ Wz : Nat → Nat → Hp → Prop, (∃ m, Wz 0 m (upd H L (.lst []))) ∧ ∀ i m H', Wz i m H' →
      (J.stop i H' ∧ Q (.ref L) H') ∨ (J.go i H' ∧ ∃ Nx : Hp → Prop, (∀ H'', Nx H'' → ∃ m', m' < m ∧ Wz (i + 1) m' H'') ∧ ∀ x H'', J.yld i H' x H'' → rdG X W0 is G x (wipe σ vs) H'' fun σ2 H2 => wipe σ2 vs = wipe σ vs ∧ rdB X W0 Tt σ2 H2 fun b H3 =>
        if b = true then rdE X W0 E σ2 H3 fun y H4 => ∃ acc, H4 L = some (.lst acc) ∧ acc.length < sizeLine ∧ Nx (upd H4 L (.lst (acc ++ [y]))) else Nx H3) := by
  intro L hL
  -- the state between two turns
  let St (i : Nat) (H' : Hp) : Prop := ∃ μ' I' M' acc tacc, Step X.K (cmOf X.mg) μ I M H μ' I' M' H' ∧ I' L = none ∧ (∀ k, k < M'.length → μ' k ≠ L) ∧ H' L = some (.lst acc) ∧ RepTL X.K (cmOf X.mg) I' tacc acc ∧ lcF vs G Tt E (ts.drop i) sl M' tacc = some (us, Mz)
  have out : ∀ k, k < M.length → μ k ≠ L := fun k hk q => by
    obtain ⟨o, e⟩ := s.tr k hk
    rw [q, hL] at e; cases e
  refine ⟨fun i m H' => i ≤ ts.length ∧ m = ts.length - i ∧ St i H', ⟨ts.length, Nat.zero_le _, rfl, μ, I, M, [], [], (StepT.new' s.sub hL).step s, s.sub.free hL, out, upd_same, RepTL.nil, hr⟩, ?_⟩
  rintro i m H' ⟨hi, rfl, μ', I', M', acc, tacc, st, nI, nμ, hacc, racc, e⟩
  by_cases hlt : i < ts.length
  · refine .inr ⟨it.go i H' (st.gr.ex.trans st.sim.sub) hlt, St (i + 1), fun H'' h => ⟨ts.length - (i + 1), by omega, hlt, rfl, h⟩, fun x H'' y => ?_⟩
    obtain ⟨I2, st2, r2⟩ := it.item i I' H' x H'' ts[i] st.gr.ex st.sim.sub (List.getElem?_eq_getElem hlt) y
    have st3 := st2.step st.sim
    rw [List.drop_eq_getElem_cons hlt] at e
    unfold lcF at e
    have hacc2 := st2.hh _ _ hacc
    have nI2 := st2.nf _ _ hacc nI
    have racc2 := RepTL.mono st2.ii _ _ racc
    have rs2 := (((rs.mono st.gr).mono st3.gr).wipe vs)
    refine ⟨μ', I2, wipeS sl vs, M', .t ts[i], st3.sim, rs2, r2, ?_⟩
    -- what a later state keeps of L
    have keep : ∀ {μ4 I4 M4 H4 μ5 I5 M5 H5}, Step X.K (cmOf X.mg) μ4 I4 M4 H4 μ5 I5 M5 H5 → H4 L = some (.lst acc) → I4 L = none → (∀ k, k < M4.length → μ4 k ≠ L) → H5 L = some (.lst acc) ∧ I5 L = none ∧ (∀ k, k < M5.length → μ5 k ≠ L) :=
      fun {μ4 I4 M4 H4 μ5 I5 M5 H5} st h1 h2 h3 => ⟨st.fr _ _ h1 (fun k hk q => h3 k hk q.symm), st.nf _ _ h1 h2 (fun k hk q => h3 k hk q.symm), fun k hk q => by
        by_cases hk' : k < M4.length
        · rw [st.gr.ag k hk'] at q; exact h3 k hk' q
        · have := st.fresh k (Nat.le_of_not_lt hk') hk
          rw [q, h1] at this; cases this⟩
    cases q : G (.t ts[i]) (wipeS sl vs) M' with
    | nx sl1 M1 =>
      rw [q] at e
      dsimp only at e
      intro μ4 I4 H4 σ4 st4 rs4 sb
      obtain ⟨hacc4, nI4, nμ4⟩ := keep st4 hacc2 nI2 nμ
      refine ⟨wipe_eq sb hvs, μ4, I4, sl1, M1, st4.sim, rs4, ?_⟩
      cases q2 : Tt sl1 M1 with
      | ok k M2 =>
        rw [q2] at e
        dsimp only at e
        intro μ5 I5 H5 b st5 eb
        have eb : k = b := eb
        subst eb
        obtain ⟨hacc5, nI5, nμ5⟩ := keep st5 hacc4 nI4 nμ4
        have stA := st.trans (st3.trans (st4.trans st5))
        cases k with
        | false =>
          rw [if_neg Bool.false_ne_true] at e ⊢
          exact ⟨μ5, I5, M2, acc, tacc, stA, nI5, nμ5, hacc5, RepTL.mono (st4.trans st5).gr.ex _ _ racc2, e⟩
        | true =>
          rw [if_pos rfl] at e ⊢
          refine ⟨μ5, I5, sl1, M2, st5.sim, rs4.mono st5.gr, ?_⟩
          cases q3 : E sl1 M2 with
          | ok d M3 =>
            rw [q3] at e
            dsimp only at e
            intro μ6 I6 H6 w st6 rd6
            obtain ⟨hacc6, nI6, nμ6⟩ := keep st6 hacc5 nI5 nμ5
            split at e
            · rename_i u M4 e4
              split at e
              · rename_i hlen
                obtain ⟨I7, st7, r7⟩ := frz1_ok st6.sim rd6 e4
                obtain ⟨hacc7, nI7, nμ7⟩ := keep st7 hacc6 nI6 nμ6
                have racc7 := RepTL.mono ((st4.trans st5).trans (st6.trans st7)).gr.ex _ _ racc2
                refine ⟨acc, hacc6, by rw [← racc.length]; exact hlen, ?_⟩
                have stB := stA.trans (st6.trans st7)
                refine ⟨μ6, I7, M4, acc ++ [w], tacc ++ [u], ?_, nI7, nμ7, upd_same, racc7.append (RepTL.cons r7 RepTL.nil), e⟩
                -- the list at L grows; nothing else
                have nk : ∀ a o, I7 a = some o → a ≠ L := fun a o h q => by rw [q, nI7] at h; cases h
                refine ⟨stB.gr, ⟨fun a o h => by rw [upd_ne (nk a o h)]; exact stB.sim.sub a o h, stB.sim.inj, fun k hk => ?_, fun k o ek => ?_⟩, fun a o h hk => ?_, stB.nf, stB.fresh⟩
                · obtain ⟨o, h⟩ := stB.sim.tr k hk
                  exact ⟨o, by rw [upd_ne (nμ7 k hk)]; exact h⟩
                · have hk : k < M4.length := (List.getElem?_eq_some_iff.mp ek).1
                  have z := stB.sim.obj k o ek
                  cases o with
                  | lst us' =>
                    obtain ⟨z1, ys, z2, z3⟩ := z
                    exact ⟨z1, ys, by rw [upd_ne (nμ7 k hk)]; exact z2, z3⟩
                  | ins cl ns ds =>
                    obtain ⟨z1, dx, ys, z2, z3, z4⟩ := z
                    exact ⟨z1, dx, ys, by rw [upd_ne (nμ7 k hk)]; exact z2, z3, z4⟩
                  | frz w => exact z
                  | dead => exact z
                · rw [upd_ne (ne_of_none h hL)]
                  exact stB.fr a o h hk
              · cases e
            · cases e
          | exc x a => rw [q3] at e; cases e
          | fail => rw [q3] at e; cases e
      | exc x a => rw [q2] at e; cases e
      | fail => rw [q2] at e; cases e
    | bk a b => rw [q] at e; cases e
    | ct a b => rw [q] at e; cases e
    | rt a b => rw [q] at e; cases e
    | exc x a b => rw [q] at e; cases e
    | fail => rw [q] at e; cases e
  · have ei : i = ts.length := by omega
    subst ei
    rw [List.drop_length] at e
    unfold lcF at e
    cases e
    exact .inl ⟨it.stop H' (st.gr.ex.trans st.sim.sub), fin μ' I' H' L acc st hL nI nμ hacc racc⟩
theorem tLc_T {σ H} {Q : VK} (hvs : ∀ i ∈ is, i ∈ vs) (h : rdE X W (eLc Fi vs G Tt E) σ H Q) : tLc (rd X.K (cmOf X.mg) W (RI X.K (cmOf X.mg)) Fi) (rdG X W0 is G) (rdB X W0 Tt) (rdE X W0 E) vs σ H Q := by
  obtain ⟨μ, I, sl, M, s, rs, p⟩ := h
  refine ⟨μ, I, sl, M, s, rs, (Post.bind (R := RI X.K (cmOf X.mg)) p).imp fun J H1 ⟨μ1, I1, M1, ts, st, it, p1⟩ => ?_⟩
  split at p1
  · rename_i us Mz hr
    refine tLc_core hvs st.sim (rs.mono st.gr) it hr fun μ' I' H' L xs stz hL nI nμ hx rx => ?_
    have stf : Step X.K (cmOf X.mg) μ1 I1 M1 H1 μ' (upd I' L (.lst xs)) Mz H' := by
      have ex : Ex I' (upd I' L (.lst xs)) := Ex.new nI
      have gr : Gr μ' I' Mz.length μ' (upd I' L (.lst xs)) Mz.length := ⟨fun _ _ => rfl, Nat.le_refl _, ex⟩
      refine ⟨stz.gr.trans gr, ⟨fun a o h => ?_, stz.sim.inj, stz.sim.tr, fun k o ek => ?_⟩, stz.fr, fun a o h1 h2 h3 => ?_, stz.fresh⟩
      · unfold upd at h
        split at h
        · rename_i q; cases h; rw [q]; exact hx
        · exact stz.sim.sub a o h
      · have hk : k < Mz.length := (List.getElem?_eq_some_iff.mp ek).1
        have z := stz.sim.obj k o ek
        cases o with
        | lst us' =>
          obtain ⟨z1, ys, z2, z3⟩ := z
          exact ⟨by rw [upd_ne (nμ k hk)]; exact z1, ys, z2, RepTL.mono ex _ _ z3⟩
        | ins cl ns ds =>
          obtain ⟨z1, dx, ys, z2, z3, z4⟩ := z
          exact ⟨by rw [upd_ne (nμ k hk)]; exact z1, dx, ys, z2, z3, z4.mono gr⟩
        | frz w => exact RepT.mono ex _ _ z
        | dead => exact (by rw [upd_ne (nμ k hk)]; exact z : upd I' L (.lst xs) (μ' k) = none)
      · rw [upd_ne (ne_of_none h1 hL)]; exact stz.nf a o h1 h2 h3
    refine p1 μ' _ H' (.ref L) stf ?_
    show RepT X.K (cmOf X.mg) (upd I' L (.lst xs)) (.lst us) (.ref L)
    unfold RepT
    exact ⟨L, xs, rfl, upd_same, RepTL.mono (Ex.new nI) _ _ rx⟩
  · exact p1.elim
theorem de_lc {own : List (Str × Nat)} {scope : Scope} {pos : Pos} (hc : X.calm = true) (hN : X.N.Nodup) (hi : DI X W tg iter Fi) (ok : BlkOk X.N X.env.scope scope own) (hvs : ∀ i ∈ is, i ∈ own.map (·.2))
    (hg : ∀ (s : Shared) (H : Hp) (C : Addr) (cl : List (Str × Addr)) (fp : List Addr), DG (X.blk s H scope (compEnvC scope cl C X.env) fp) W0 is tg G) (ht : ∀ (s : Shared) (H : Hp) (C : Addr) (cl : List (Str × Addr)) (fp : List Addr), PTs (X.blk s H scope (compEnvC scope cl C X.env) fp) ifs (rdB X W0 Tt))
    (he : ∀ (s : Shared) (H : Hp) (C : Addr) (cl : List (Str × Addr)) (fp : List Addr), DE (X.blk s H scope (compEnvC scope cl C X.env) fp) W0 elt E) (hs : ∀ x, foldedSetIterable iter X.env x = pure x := by intro _; rfl) :
    DE X W (.ListComp elt [⟨tg, iter, ifs, 0⟩] scope pos) (eLc Fi (own.map (·.2)) G Tt E) := (pe_lc hc hN hi ok hg ht he hs).imp fun σ H Q h => tLc_T hvs h
theorem ds_setLc {i : Nat} {y : Str} {py : Pos} {own : List (Str × Nat)} {scope : Scope} {pos spos : Pos} (hc : X.calm = true) (hN : X.N.Nodup) (hy : X.N[i]? = some y) (hyl : X.env.scope.names.lookup y = some .local)
    (hsw : swapsWith (.ListComp elt [⟨tg, iter, ifs, 0⟩] scope pos) (some (.Name y py)) spos.line X.env = pure true) (hi : DI X W tg iter Fi) (ok : BlkOk X.N X.env.scope scope own) (hvs : ∀ i ∈ is, i ∈ own.map (·.2))
    (hg : ∀ (s : Shared) (H : Hp) (C : Addr) (cl : List (Str × Addr)) (fp : List Addr), DG (X.blk s H scope (compEnvC scope cl C X.env) fp) W0 is tg G) (ht : ∀ (s : Shared) (H : Hp) (C : Addr) (cl : List (Str × Addr)) (fp : List Addr), PTs (X.blk s H scope (compEnvC scope cl C X.env) fp) ifs (rdB X W0 Tt))
    (he : ∀ (s : Shared) (H : Hp) (C : Addr) (cl : List (Str × Addr)) (fp : List Addr), DE (X.blk s H scope (compEnvC scope cl C X.env) fp) W0 elt E) (hs : ∀ x, foldedSetIterable iter X.env x = pure x := by intro _; rfl) :
    DS X W (.Assign [.Name y py] (.ListComp elt [⟨tg, iter, ifs, 0⟩] scope pos) spos) (sSet i (eLc Fi (own.map (·.2)) G Tt E)) :=
  (ps_setLc hc hN hy hyl hsw hi ok hg ht he hs).imp fun Z σ H ⟨μ, I, sl, M, s, rs, p⟩ => tLc_T (X := X) (W := W) hvs ⟨μ, I, sl, M, s, rs, (PostS.bind (R := RD X.K (cmOf X.mg)) p rs).imp fun x H1 ⟨μ1, I1, M1, d, st, ra, p1⟩ => p1.here st.sim ((rs.mono st.gr).set i ra)⟩
end
end Bm

namespace Bm
open PySem L2 PyProof.Rows

/-- what a def hands back -/
inductive PR where
  | val (t : T) | fresh (ts : List T) | exc (x : Xn) | fail
section
variable (K : PySem.W.Frag) (cm : Str → Addr)
/-- a def that reads trees -/
def spP (n : Nat) (f : List T → PR) : Sp := fun vs H Q E => ∃ I ts, Ex I H ∧ RepTL K cm I ts vs ∧ ts.length = n ∧ (match f ts with
  | .val t => ∀ I' H' v, StepT I H I' H' → RepT K cm I' t v → Q v H'
  | .fresh us => ∀ I' H' p xs, StepT I H I' H' → H p = none → I' p = none → H' p = some (.lst xs) → RepTL K cm I' us xs → Q (.ref p) H'
  | .exc x => ∀ I' H' e d, StepT I H I' H' → RepX K cm I' H' x e d → E e d H'
  | .fail => False)
/-- one that reads trees and changes a list, its first argument -/
inductive BR where
  | val (t : T) (b : List T) | fresh (ts : List T) (b : List T) | exc (x : Xn) (b : List T) | fail
structure StepB (I H : Hp) (a : Addr) (b : List T) (I' H' : Hp) : Prop where
  ii : Ex I I'
  sub : Ex I' H'
  fr : ∀ c o, H c = some o → c ≠ a → H' c = some o
  nf : ∀ c o, H c = some o → I c = none → c ≠ a → I' c = none
  na : I' a = none
  at_ : ∃ xs, H' a = some (.lst xs) ∧ RepTL K cm I' b xs
def spB (n : Nat) (f : List T → List T → BR) : Sp := fun vs H Q E => ∃ I a b xs ts us, Ex I H ∧ vs = .ref a :: us ∧ I a = none ∧ H a = some (.lst xs) ∧ RepTL K cm I b xs ∧ RepTL K cm I ts us ∧ ts.length + 1 = n ∧ (match f b ts with
  | .val t b' => ∀ I' H' v, StepB K cm I H a b' I' H' → RepT K cm I' t v → Q v H'
  | .fresh us b' => ∀ I' H' p ys, StepB K cm I H a b' I' H' → H p = none → I' p = none → H' p = some (.lst ys) → RepTL K cm I' us ys → Q (.ref p) H'
  | .exc x b' => ∀ I' H' e d, StepB K cm I H a b' I' H' → RepX K cm I' H' x e d → E e d H'
  | .fail => False)
end
theorem spP_len {K : PySem.W.Frag} {cm : Str → Addr} {ps : List Str} {f : List T → PR} : ∀ vs H Q E, spP K cm ps.length f vs H Q E → vs.length = ps.length := fun vs H Q E ⟨I, ts, _, r, h, _⟩ => by rw [← r.length]; exact h
theorem spB_len {K : PySem.W.Frag} {cm : Str → Addr} {ps : List Str} {f : List T → List T → BR} : ∀ vs H Q E, spB K cm ps.length f vs H Q E → vs.length = ps.length := fun vs H Q E ⟨I, a, b, xs, ts, us, _, ev, _, _, _, r, h, _⟩ => by
  rw [ev, List.length_cons, ← r.length]; exact h

/-- the slots at a def's entry -/
def start' (n : Nat) (ds : List D) : List (Option D) := ds.map some ++ List.replicate (n - ds.length) none
theorem start_rep {K : PySem.W.Frag} {cm : Str → Addr} {μ : Nat → Addr} {I : Hp} {k : Nat} {n : Nat} {N : List Str} {ds : List D} {vs : List V} (hn : n = N.length) (r : RepDL K cm μ I k ds vs) : RepS K cm μ I k (start' n ds) (L2.start N vs) := by
  have key : ∀ (ds : List D) (vs : List V) (m : Nat), RepDL K cm μ I k ds vs → ∀ (i : Nat) (d : D), (ds.map some ++ List.replicate m none)[i]? = some (some d) → ∃ v, (vs.map some ++ List.replicate m none)[i]? = some (some v) ∧ RepD K cm μ I k d v := by
    intro ds
    induction ds with
    | nil =>
      intro vs m r i d e
      unfold RepDL at r
      subst r
      simp only [List.map_nil, List.nil_append] at e
      rw [List.getElem?_replicate] at e
      split at e <;> cases e
    | cons d0 ds ih =>
      intro vs m r i d e
      unfold RepDL at r
      obtain ⟨x, xs, rfl, h1, h2⟩ := r
      cases i with
      | zero => simp at e; subst e; exact ⟨x, rfl, h1⟩
      | succ i =>
        obtain ⟨v, h3, h4⟩ := ih xs m h2 i d (by simpa using e)
        exact ⟨v, by simpa using h3, h4⟩
  have hl := r.length
  subst hn
  unfold L2.start start'
  rw [hl]
  exact ⟨by simp [hl], fun i d e => key ds vs _ r i d e⟩
/-- a body's answer, of trees -/
def ansP (r : SRes) : PR := match r with
  | .nx _ _ => .val .non
  | .rt (.t t) _ => .val t
  | .rt (.m k) M => (match M[k]? with
    | some (.lst ts) => .fresh ts
    | some (.frz t) => .val t
    | _ => .fail)
  | .exc x _ _ => .exc x
  | _ => .fail
def runP (n : Nat) (F : FS) (ts : List T) : PR := ansP (F (start' n (ts.map D.t)) [])
def ansB (r : SRes) : BR := match r with
  | .nx _ M => (match (M[0]? : Option MO) with
    | some (.lst b) => .val .non b
    | _ => .fail)
  | .rt d M => (match (M[0]? : Option MO), d with
    | some (.lst b), .t t => .val t b
    | some (.lst b), .m (k + 1) => (match (M[k + 1]? : Option MO) with
      | some (.lst ts) => .fresh ts b
      | some (.frz t) => .val t b
      | _ => .fail)
    | _, _ => .fail)
  | .exc x _ M => (match (M[0]? : Option MO) with
    | some (.lst b) => .exc x b
    | _ => .fail)
  | _ => .fail
def runB (n : Nat) (F : FS) (b ts : List T) : BR := ansB (F (start' n (.m 0 :: ts.map D.t)) [.lst b])
/-- what an exception of a callee asks of the caller -/
def Lets (X : Cx) (W : WX) : Prop := ∀ σ, PassesAt (L2.CX X.prog X.w) X σ (fun e d H => W e d σ H)
theorem lets_of {X : Cx} {W : WX} (tk : Takes X W) : Lets X W := fun σ => passAt tk σ
theorem lets_blk {X : Cx} : Lets X W0 := fun σ pins H s e s' I c => by
  obtain ⟨a, B, H', cls, d, h⟩ := c
  exact h.2.2.2.2.2.2.2.elim
theorem repDL_ofT {K : PySem.W.Frag} {cm : Str → Addr} {μ : Nat → Addr} {I : Hp} {n : Nat} : ∀ {ts : List T} {vs : List V}, RepTL K cm I ts vs → RepDL K cm μ I n (ts.map D.t) vs
  | [], vs, h => by rw [inv_nil h]; exact RepDL.nil
  | t :: ts, vs, h => by
    obtain ⟨x, r, rfl, h1, h2⟩ := inv_cons h
    exact RepDL.cons h1 (repDL_ofT h2)
theorem sim_nil {K : PySem.W.Frag} {cm : Str → Addr} {μ : Nat → Addr} {I H : Hp} (s : Ex I H) : Sim K cm μ I [] H := ⟨s, fun i j hi => absurd hi (by simp), fun k hk => absurd hk (by simp), fun k o e => by simp at e⟩
theorem sim_one {K : PySem.W.Frag} {cm : Str → Addr} {I H : Hp} {a : Addr} {b : List T} {xs : List V} (s : Ex I H) (hI : I a = none) (hH : H a = some (.lst xs)) (r : RepTL K cm I b xs) : Sim K cm (fun _ => a) I [.lst b] H :=
  ⟨s, fun i j hi hj _ => by simp at hi hj; omega, fun k hk => ⟨_, hH⟩, fun k o e => by
    have hk : k = 0 := by
      have := (List.getElem?_eq_some_iff.mp e).1
      simp at this; exact this
    subst hk
    simp at e
    subst e
    exact ⟨hI, xs, hH, r⟩⟩
theorem Step.t {K : PySem.W.Frag} {cm : Str → Addr} {μ μ' : Nat → Addr} {I I' H H' : Hp} {M' : List MO} (st : Step K cm μ I [] H μ' I' M' H') : StepT I H I' H' :=
  ⟨st.gr.ex, st.sim.sub, fun a o h => st.fr a o h (fun k hk => absurd hk (by simp)), fun a o h n => st.nf a o h n (fun k hk => absurd hk (by simp))⟩
theorem Step.b {K : PySem.W.Frag} {cm : Str → Addr} {μ' : Nat → Addr} {I I' H H' : Hp} {M' : List MO} {a : Addr} {b b' : List T} (st : Step K cm (fun _ => a) I [.lst b] H μ' I' M' H') (e : M'[0]? = some (.lst b')) : StepB K cm I H a b' I' H' := by
  have e0 : μ' 0 = a := st.gr.ag 0 (by simp)
  obtain ⟨h1, xs, h2, h3⟩ := st.sim.obj 0 _ e
  rw [e0] at h1 h2
  exact ⟨st.gr.ex, st.sim.sub, fun c o h n => st.fr c o h (fun k _ => n), fun c o h n1 n2 => st.nf c o h n1 (fun k _ => n2), h1, xs, h2, h3⟩

section
variable {P : Program} {w : World} {K : PySem.W.Frag} {mg : Str → Option Value} {base : Heap} {x qual : Str} {st : Stmt} {f : Addr} {fd : FuncData} {N ps : List Str} {k : Nat}
/-- A DEF THAT READS TREES, by its body's function -/
theorem fn_P {n m : Nat} {Fb : FS} (F : Fun K x qual st f fd) (S : FnScope N ps (defScope st)) (hn : n = N.length) (hm : m = ps.length)
    (hbody : ∀ (cdv : Value) (A : Around) (outer : List Env) (s : Shared) (H : Hp) (E : XK), Room k (A.deeper (envOfC qual (defScope st) s.heap.objs.size f cdv)) →
      DSs (cxOf (L2.CX P w) P w K mg base N qual (defScope st) f cdv A outer s H E) (fun e d _ H' => E e d H') (defBody st) Fb) : FnOk P w K mg base (L2.CX P w) (k + 1) f fd ps (spP K (cmOf mg) m (runP n Fb)) := by
  subst hm
  refine F.okX S spP_len fun cdv A outer s H vs Q E hr h => ?_
  refine ⟨_, hbody cdv A outer s H E hr, ?_⟩
  obtain ⟨I, ts, ex, r, hl, h⟩ := h
  refine ⟨fun _ => 0, I, start' n (ts.map D.t), [], sim_nil ex, start_rep hn (repDL_ofT r), ?_⟩
  unfold runP at h
  cases q : Fb (start' n (ts.map D.t)) [] with
  | nx a M1 =>
    rw [q] at h
    exact fun μ' I' H' σ' st _ => h I' H' .non st.t rep_non
  | bk a M1 => rw [q] at h; exact h.elim
  | ct a M1 => rw [q] at h; exact h.elim
  | fail => rw [q] at h; exact h.elim
  | exc x a M1 =>
    rw [q] at h
    exact fun μ' I' H' σ' e d st _ rx => h I' H' e d st.t rx
  | rt d M1 =>
    rw [q] at h
    intro μ' I' H' v st rd
    cases d with
    | t t => exact h I' H' v st.t rd
    | m j =>
      obtain ⟨_, rfl⟩ := rd
      cases e : M1[j]? with
      | none => simp only [ansP, e] at h
      | some o =>
        cases o with
        | lst us =>
          simp only [ansP, e] at h
          obtain ⟨h1, xs, h2, h3⟩ := st.sim.obj j _ e
          have hj : j < M1.length := (List.getElem?_eq_some_iff.mp e).1
          exact h I' H' _ xs st.t (st.fresh j (Nat.zero_le _) hj) h1 h2 h3
        | frz t =>
          simp only [ansP, e] at h
          exact h I' H' _ st.t (st.sim.obj j _ e)
        | ins c ns ds => simp only [ansP, e] at h
        | dead => simp only [ansP, e] at h
/-- a def that reads trees and changes a list, its first argument -/
theorem fn_B {n m : Nat} {Fb : FS} (F : Fun K x qual st f fd) (S : FnScope N ps (defScope st)) (hn : n = N.length) (hm : m = ps.length)
    (hbody : ∀ (cdv : Value) (A : Around) (outer : List Env) (s : Shared) (H : Hp) (E : XK), Room k (A.deeper (envOfC qual (defScope st) s.heap.objs.size f cdv)) →
      DSs (cxOf (L2.CX P w) P w K mg base N qual (defScope st) f cdv A outer s H E) (fun e d _ H' => E e d H') (defBody st) Fb) : FnOk P w K mg base (L2.CX P w) (k + 1) f fd ps (spB K (cmOf mg) m (runB n Fb)) := by
  subst hm
  refine F.okX S spB_len fun cdv A outer s H vs Q E hr h => ?_
  refine ⟨_, hbody cdv A outer s H E hr, ?_⟩
  obtain ⟨I, a, b, xs, ts, us, ex, rfl, nI, hH, rb, r, hl, h⟩ := h
  have s1 : Sim K (cmOf mg) (fun _ => a) I [.lst b] H := sim_one ex nI hH rb
  refine ⟨fun _ => a, I, start' n (.m 0 :: ts.map D.t), [.lst b], s1, start_rep hn (RepDL.cons ⟨by simp, rfl⟩ (repDL_ofT r)), ?_⟩
  unfold runB at h
  cases q : Fb (start' n (.m 0 :: ts.map D.t)) [.lst b] with
  | nx z M1 =>
    rw [q] at h
    intro μ' I' H' σ' st _
    cases e : M1[0]? with
    | none => simp only [ansB, e] at h
    | some o =>
      cases o <;> simp only [ansB, e] at h
      exact h I' H' .non (st.b e) rep_non
  | bk z M1 => rw [q] at h; exact h.elim
  | ct z M1 => rw [q] at h; exact h.elim
  | fail => rw [q] at h; exact h.elim
  | exc x z M1 =>
    rw [q] at h
    intro μ' I' H' σ' e d st _ rx
    cases e0 : M1[0]? with
    | none => simp only [ansB, e0] at h
    | some o =>
      cases o <;> simp only [ansB, e0] at h
      exact h I' H' e d (st.b e0) rx
  | rt d M1 =>
    rw [q] at h
    intro μ' I' H' v st rd
    cases e0 : M1[0]? with
    | none => simp only [ansB, e0] at h
    | some o =>
      cases o <;> try (simp only [ansB, e0] at h; done)
      rename_i b'
      cases d with
      | t t =>
        simp only [ansB, e0] at h
        exact h I' H' v (st.b e0) rd
      | m j =>
        obtain ⟨hj, rfl⟩ := rd
        cases j with
        | zero => simp only [ansB, e0] at h
        | succ j =>
          cases e : M1[j + 1]? with
          | none => simp only [ansB, e0, e] at h
          | some o =>
            cases o with
            | lst us =>
              simp only [ansB, e0, e] at h
              obtain ⟨h1, xs', h2, h3⟩ := st.sim.obj (j + 1) _ e
              exact h I' H' _ xs' (st.b e0) (st.fresh (j + 1) (by simp) hj) h1 h2 h3
            | frz t =>
              simp only [ansB, e0, e] at h
              exact h I' H' _ (st.b e0) (st.sim.obj (j + 1) _ e)
            | ins c ns ds => simp only [ansB, e0, e] at h
            | dead => simp only [ansB, e0, e] at h
end

/-! ### calls -/
def eCall (n : Nat) (fp : List T → PR) (fs : Fn (List D)) : FE := fun sl M => (fs sl M).bind fun ds M1 => match frzL M1 ds with
  | some (ts, M2) => if ts.length = n then (match fp ts with
    | .val t => .ok (.t t) M2
    | .fresh us => .ok (.t (.lst us)) M2
    | .exc x => .exc x M2
    | .fail => .fail) else .fail
  | none => .fail
/-- .. where a new list is to change -/
def eCallM (n : Nat) (fp : List T → PR) (fs : Fn (List D)) : FE := fun sl M => (fs sl M).bind fun ds M1 => match frzL M1 ds with
  | some (ts, M2) => if ts.length = n then (match fp ts with
    | .val t => .ok (.t t) M2
    | .fresh us => .ok (.m M2.length) (M2 ++ [.lst us])
    | .exc x => .exc x M2
    | .fail => .fail) else .fail
  | none => .fail
theorem sp_call {K : PySem.W.Frag} {cm : Str → Addr} {μ : Nat → Addr} {I H : Hp} {M : List MO} {n : Nat} {fp : List T → PR} {ds : List D} {vs : List V} {Wx : XK} {Q : VK} (s : Sim K cm μ I M H) (ra : RepDL K cm μ I M.length ds vs)
    (p : Post K cm (RD K cm) μ I M H Wx (match frzL M ds with
      | some (ts, M2) => if ts.length = n then (match fp ts with
        | .val t => .ok (.t t) M2
        | .fresh us => .ok (.t (.lst us)) M2
        | .exc x => .exc x M2
        | .fail => .fail) else .fail
      | none => .fail) Q) : spP K cm n fp vs H Q Wx := by
  split at p
  · rename_i ts M2 e1
    obtain ⟨I2, st2, r2⟩ := frzL_ok s ra e1
    split at p
    · rename_i hn
      refine ⟨I2, ts, st2.sim.sub, r2, hn, ?_⟩
      have p := p.step st2
      cases q : fp ts with
      | val t => rw [q] at p; exact fun I' H' v st r => p μ I' H' v (st.step st2.sim) r
      | fresh us =>
        rw [q] at p
        intro I' H' a xs st n1 n2 h r
        have ex : Ex I' (upd I' a (.lst xs)) := Ex.new n2
        refine p μ (upd I' a (.lst xs)) H' (.ref a) (StepT.step (StepT.mk (st.ii.trans ex) (fun b o hb => ?_) st.hh (fun b o h1 h2 => ?_)) st2.sim) ?_
        · unfold upd at hb
          split at hb
          · rename_i q; cases hb; rw [q]; exact h
          · exact st.sub b o hb
        · rw [upd_ne (ne_of_none h1 n1)]; exact st.nf b o h1 h2
        · show RepT K cm _ (.lst us) (.ref a)
          unfold RepT
          exact ⟨a, xs, rfl, upd_same, RepTL.mono ex _ _ r⟩
      | exc x => rw [q] at p; exact fun I' H' e d st r => p μ I' H' e d (st.step st2.sim) r
      | fail => rw [q] at p; exact p.elim
    · exact p.elim
  · exact p.elim
theorem sp_callM {K : PySem.W.Frag} {cm : Str → Addr} {μ : Nat → Addr} {I H : Hp} {M : List MO} {n : Nat} {fp : List T → PR} {ds : List D} {vs : List V} {Wx : XK} {Q : VK} (s : Sim K cm μ I M H) (ra : RepDL K cm μ I M.length ds vs)
    (p : Post K cm (RD K cm) μ I M H Wx (match frzL M ds with
      | some (ts, M2) => if ts.length = n then (match fp ts with
        | .val t => .ok (.t t) M2
        | .fresh us => .ok (.m M2.length) (M2 ++ [.lst us])
        | .exc x => .exc x M2
        | .fail => .fail) else .fail
      | none => .fail) Q) : spP K cm n fp vs H Q Wx := by
  split at p
  · rename_i ts M2 e1
    obtain ⟨I2, st2, r2⟩ := frzL_ok s ra e1
    split at p
    · rename_i hn
      refine ⟨I2, ts, st2.sim.sub, r2, hn, ?_⟩
      have p := p.step st2
      cases q : fp ts with
      | val t => rw [q] at p; exact fun I' H' v st r => p μ I' H' v (st.step st2.sim) r
      | fresh us => rw [q] at p; exact fun I' H' a xs st n1 n2 h r => p.mnew st2.sim I' H' a xs st n1 n2 h r
      | exc x => rw [q] at p; exact fun I' H' e d st r => p μ I' H' e d (st.step st2.sim) r
      | fail => rw [q] at p; exact p.elim
    · exact p.elim
  · exact p.elim
theorem StepB.step {K : PySem.W.Frag} {cm : Str → Addr} {μ : Nat → Addr} {I H I' H' : Hp} {M : List MO} {k : Nat} {b b' : List T} (s : Sim K cm μ I M H) (e : M[k]? = some (.lst b)) (t : StepB K cm I H (μ k) b' I' H') :
    Step K cm μ I M H μ I' (M.set k (.lst b')) H' := by
  have hk : k < M.length := (List.getElem?_eq_some_iff.mp e).1
  have gr : Gr μ I M.length μ I' (M.set k (.lst b')).length := ⟨fun _ _ => rfl, by simp, t.ii⟩
  refine ⟨gr, ⟨t.sub, by simpa using s.inj, fun j hj => ?_, fun j o ej => ?_⟩, fun a o h n => t.fr a o h (n k hk), fun a o h n1 n2 => t.nf a o h n1 (n2 k hk), fun j h1 h2 => by simp at h2; omega⟩
  · simp at hj
    by_cases q : μ j = μ k
    · obtain ⟨xs, h, _⟩ := t.at_
      exact ⟨_, by rw [q]; exact h⟩
    · obtain ⟨o, h⟩ := s.tr j hj
      exact ⟨o, t.fr _ _ h q⟩
  · by_cases hj : k = j
    · subst hj
      rw [List.getElem?_set_self hk] at ej
      cases ej
      obtain ⟨xs, h, r⟩ := t.at_
      exact ⟨t.na, xs, h, r⟩
    · rw [List.getElem?_set_ne hj] at ej
      have hjl : j < M.length := (List.getElem?_eq_some_iff.mp ej).1
      have nm : μ j ≠ μ k := fun q => hj (s.inj k j hk hjl q.symm)
      have q := s.obj j o ej
      cases o with
      | lst us =>
        obtain ⟨q1, zs, q2, q3⟩ := q
        exact ⟨t.nf _ _ q2 q1 nm, zs, t.fr _ _ q2 nm, RepTL.mono t.ii _ _ q3⟩
      | ins cl ns ds =>
        obtain ⟨q1, dx, zs, q2, q3, q4⟩ := q
        exact ⟨t.nf _ _ q2 q1 nm, dx, zs, t.fr _ _ q2 nm, q3, q4.mono gr⟩
      | frz w => exact RepT.mono t.ii _ _ q
      | dead =>
        obtain ⟨u, e2⟩ := s.tr j hjl
        exact t.nf _ _ e2 q nm
def gCallB (n : Nat) (fb : List T → List T → BR) (ds : List D) (M1 : List MO) : Res D := match ds with
  | .m k :: rest => (match frzL M1 rest with
    | some (ts, M2) => (match (M2[k]? : Option MO) with
      | some (.lst b) => if ts.length + 1 = n then (match fb b ts with
        | .val t b' => .ok (.t t) (M2.set k (.lst b'))
        | .fresh us b' => .ok (.t (.lst us)) (M2.set k (.lst b'))
        | .exc x b' => .exc x (M2.set k (.lst b'))
        | .fail => .fail) else .fail
      | _ => .fail)
    | none => .fail)
  | _ => .fail
def eCallB (n : Nat) (fb : List T → List T → BR) (fs : Fn (List D)) : FE := fun sl M => (fs sl M).bind (gCallB n fb)
theorem sp_callB {K : PySem.W.Frag} {cm : Str → Addr} {μ : Nat → Addr} {I H : Hp} {M : List MO} {n : Nat} {fb : List T → List T → BR} {ds : List D} {vs : List V} {Wx : XK} {Q : VK} (s : Sim K cm μ I M H) (ra : RepDL K cm μ I M.length ds vs)
    (p : Post K cm (RD K cm) μ I M H Wx (gCallB n fb ds M) Q) : spB K cm n fb vs H Q Wx := by
  unfold gCallB at p
  split at p
  · rename_i k rest
    unfold RepDL at ra
    obtain ⟨x, us, rfl, ⟨hk, rfl⟩, r⟩ := ra
    split at p
    · rename_i ts M2 e1
      obtain ⟨I2, st2, r2⟩ := frzL_ok s r e1
      split at p
      · rename_i b e2
        split at p
        · rename_i hn
          obtain ⟨h1, xs, h2, h3⟩ := st2.sim.obj k _ e2
          refine ⟨I2, μ k, b, xs, ts, us, st2.sim.sub, rfl, h1, h2, h3, r2, hn, ?_⟩
          have p := p.step st2
          cases q : fb b ts with
          | val t b' => rw [q] at p; exact fun I' H' v st r => p μ I' H' v (st.step st2.sim e2) r
          | fresh us' b' =>
            rw [q] at p
            intro I' H' a ys st n1 n2 h r
            have ex : Ex I' (upd I' a (.lst ys)) := Ex.new n2
            have na : a ≠ μ k := fun z => by rw [z, h2] at n1; cases n1
            refine p μ (upd I' a (.lst ys)) H' (.ref a) (StepB.step st2.sim e2 ⟨st.ii.trans ex, fun b o hb => ?_, st.fr, fun b o g1 g2 g3 => ?_, ?_, ?_⟩) ?_
            · unfold upd at hb
              split at hb
              · rename_i q; cases hb; rw [q]; exact h
              · exact st.sub b o hb
            · rw [upd_ne (ne_of_none g1 n1)]; exact st.nf b o g1 g2 g3
            · rw [upd_ne na.symm]; exact st.na
            · obtain ⟨zs, z1, z2⟩ := st.at_
              exact ⟨zs, z1, RepTL.mono ex _ _ z2⟩
            · show RepT K cm _ (.lst us') (.ref a)
              unfold RepT
              exact ⟨a, ys, rfl, upd_same, RepTL.mono ex _ _ r⟩
          | exc x b' => rw [q] at p; exact fun I' H' e d st r => p μ I' H' e d (st.step st2.sim e2) r
          | fail => rw [q] at p; exact p.elim
        · exact p.elim
      · exact p.elim
    · exact p.elim
  · exact p.elim

section
variable {X : Cx} {W : WX} {x : Str} {f : Addr} {fd : FuncData} {ps : List Str} {k n : Nat} {fp : List T → PR} {fb : List T → List T → BR} {p pos : Pos} {e : Expr} {es : List Expr} {fs : Fn (List D)}
theorem de_call (F : FnOk X.prog X.w X.K X.mg X.base (L2.CX X.prog X.w) k f fd ps (spP X.K (cmOf X.mg) n fp)) (hr : Room k X.A) (hg : Gl X x) (hm : X.mg x = some (.ref f)) (hk : PySem.W.keepIn X.K (.ref f) = true) (hb : Binds X.K fd ps []) (lt : Lets X W)
    (ha : DA X W (e :: es) fs) (hdb : (x == ("__debug__" : Str)) = false := by decide) (he : starEach (e :: es) X.env = (false, eval e X.env) :: starEach es X.env := by rfl) (hpl : (backTo pos (starEach es X.env)).any (·.1) = false := by rfl) :
    DE X W (.Call (.Name x p) (e :: es) [] pos) (eCall n fp fs) :=
  (pe_callSD (E := fun σ e d H => W e d σ H) F hr hg hm hk hb .nil lt ha hdb he hpl).imp fun σ H Q ⟨μ, I, sl, M, s, rs, p⟩ => ⟨μ, I, sl, M, s, rs, (Post.bind (R := RL X.K (cmOf X.mg)) p).imp fun vs H1 ⟨μ1, I1, M1, ds, st, ra, p1⟩ => by
    rw [List.append_nil]
    exact sp_call st.sim ra p1⟩
theorem de_callM (F : FnOk X.prog X.w X.K X.mg X.base (L2.CX X.prog X.w) k f fd ps (spP X.K (cmOf X.mg) n fp)) (hr : Room k X.A) (hg : Gl X x) (hm : X.mg x = some (.ref f)) (hk : PySem.W.keepIn X.K (.ref f) = true) (hb : Binds X.K fd ps []) (lt : Lets X W)
    (ha : DA X W (e :: es) fs) (hdb : (x == ("__debug__" : Str)) = false := by decide) (he : starEach (e :: es) X.env = (false, eval e X.env) :: starEach es X.env := by rfl) (hpl : (backTo pos (starEach es X.env)).any (·.1) = false := by rfl) :
    DE X W (.Call (.Name x p) (e :: es) [] pos) (eCallM n fp fs) :=
  (pe_callSD (E := fun σ e d H => W e d σ H) F hr hg hm hk hb .nil lt ha hdb he hpl).imp fun σ H Q ⟨μ, I, sl, M, s, rs, p⟩ => ⟨μ, I, sl, M, s, rs, (Post.bind (R := RL X.K (cmOf X.mg)) p).imp fun vs H1 ⟨μ1, I1, M1, ds, st, ra, p1⟩ => by
    rw [List.append_nil]
    exact sp_callM st.sim ra p1⟩
theorem de_callBag (F : FnOk X.prog X.w X.K X.mg X.base (L2.CX X.prog X.w) k f fd ps (spB X.K (cmOf X.mg) n fb)) (hr : Room k X.A) (hg : Gl X x) (hm : X.mg x = some (.ref f)) (hk : PySem.W.keepIn X.K (.ref f) = true) (hb : Binds X.K fd ps []) (lt : Lets X W)
    (ha : DA X W (e :: es) fs) (hdb : (x == ("__debug__" : Str)) = false := by decide) (he : starEach (e :: es) X.env = (false, eval e X.env) :: starEach es X.env := by rfl) (hpl : (backTo pos (starEach es X.env)).any (·.1) = false := by rfl) :
    DE X W (.Call (.Name x p) (e :: es) [] pos) (eCallB n fb fs) :=
  (pe_callSD (E := fun σ e d H => W e d σ H) F hr hg hm hk hb .nil lt ha hdb he hpl).imp fun σ H Q ⟨μ, I, sl, M, s, rs, p⟩ => ⟨μ, I, sl, M, s, rs, (Post.bind (R := RL X.K (cmOf X.mg)) p).imp fun vs H1 ⟨μ1, I1, M1, ds, st, ra, p1⟩ => by
    rw [List.append_nil]
    exact sp_callB st.sim ra p1⟩
end
end Bm

namespace Bm
open PySem L2 PyProof.Rows

/-! ### calls by keywords alone -/
def perm {α : Type} (π : List Nat) (xs : List α) : List α := π.filterMap fun i => xs[i]?
theorem perm_vals {π : List Nat} {vs : List V} {us : List Value} (r : Vals vs us) (h : ∀ i ∈ π, i < vs.length) : Vals (perm π vs) (perm π us) := by
  induction π with
  | nil => exact .nil
  | cons i π ih =>
    have hi := h i (by simp)
    obtain ⟨u, h1, h2⟩ := r.get (List.getElem?_eq_getElem hi)
    unfold perm
    rw [List.filterMap_cons, List.getElem?_eq_getElem hi, List.filterMap_cons, h1]
    exact .cons h2 (ih fun j hj => h j (by simp [hj]))
theorem perm_rep {K : PySem.W.Frag} {cm : Str → Addr} {I : Hp} {π : List Nat} {ts : List T} {vs : List V} (r : RepTL K cm I ts vs) (h : ∀ i ∈ π, i < ts.length) : RepTL K cm I (perm π ts) (perm π vs) := by
  induction π with
  | nil => exact RepTL.nil
  | cons i π ih =>
    have hi := h i (by simp)
    obtain ⟨u, h1, h2⟩ := r.get (List.getElem?_eq_getElem hi)
    unfold perm
    rw [List.filterMap_cons, List.getElem?_eq_getElem hi, List.filterMap_cons, h1]
    exact RepTL.cons h2 (ih fun j hj => h j (by simp [hj]))
theorem perm_len {α : Type} {π : List Nat} {xs : List α} (h : ∀ i ∈ π, i < xs.length) : (perm π xs).length = π.length := by
  induction π with
  | nil => rfl
  | cons i π ih =>
    have hi := h i (by simp)
    unfold perm
    rw [List.filterMap_cons, List.getElem?_eq_getElem hi]
    simp only [List.length_cons]
    exact congrArg Nat.succ (ih fun j hj => h j (by simp [hj]))
abbrev DK (X : Cx) (W : WX) (kws : List Keyword) (F : Fn (List D)) : Prop := PK X kws (rdA X W F)
theorem PK.imp {X : Cx} {e : List Keyword} {t t' : TA} (h : PK X e t) (i : ∀ σ H Q, t' σ H Q → t σ H Q) : PK X e t' := ⟨fun pos pins s σ H Q I q => h.run pos pins s σ H Q I (i _ _ _ q)⟩
section
variable {X : Cx} {W : WX} {x : Str} {f : Addr} {fd : FuncData} {ps ks : List Str} {k n : Nat} {fp : List T → PR} {p pos kpos : Pos} {e : Expr} {fs : Fn (List D)} {fa : FE} {kws : List Keyword} {nm : Option Str}
theorem dk_nil : DK X W [] aNil := PK.imp pk_nil fun σ H Q ⟨μ, I, sl, M, s, rs, p⟩ => p.here s RepDL.nil
theorem dk_cons (ha : DE X W e fa) (hr : DK X W kws fs) : DK X W (⟨nm, e, kpos⟩ :: kws) (aCons fa fs) :=
  PK.imp (pk_cons ha hr) fun σ H Q ⟨μ, I, sl, M, s, rs, p⟩ => ⟨μ, I, sl, M, s, rs, (Post.bind (R := RD X.K (cmOf X.mg)) p).imp fun x H1 ⟨μ1, I1, M1, d, st, ra, p1⟩ =>
    ⟨μ1, I1, sl, M1, st.sim, rs.mono st.gr, (Post.bind (R := RL X.K (cmOf X.mg)) p1).imp fun y H2 ⟨μ2, I2, M2, ds, st2, rb, p2⟩ => p2.here st2.sim (RepDL.cons (ra.mono st2.gr) rb)⟩⟩
def eCallK (n : Nat) (fp : List T → PR) (π : List Nat) (fs : Fn (List D)) : FE := eCall n (fun ts => fp (perm π ts)) fs
theorem de_callK0 {π : List Nat} (F : FnOk X.prog X.w X.K X.mg X.base (L2.CX X.prog X.w) k f fd ps (spP X.K (cmOf X.mg) n fp)) (hr : Room k X.A) (hg : Gl X x) (hm : X.mg x = some (.ref f)) (hk : PySem.W.keepIn X.K (.ref f) = true) (hπ : π.length = n ∧ ∀ i ∈ π, i < n)
    (hb : ∀ (s : Shared) (ws : List Value), X.K.In s.heap → ws.length = n → BindsTo s fd ⟨[], ks.zip ws⟩ (ps.zip (perm π ws))) (lt : Lets X W) (hkw : DK X W kws fs)
    (hall : (backToKw pos (keywordEach kws X.env)).all (·.1.isSome) = true := by rfl) (hks : (backToKw pos (keywordEach kws X.env)).filterMap (·.1) = ks := by rfl)
    (hdb : (x == ("__debug__" : Str)) = false := by decide)
    (hpl : ((backTo pos (starEach [] X.env)).any (·.1) || (backToKw pos (keywordEach kws X.env)).any (·.1.isNone)) = false := by rfl) :
    DE X W (.Call (.Name x p) [] kws pos) (eCallK n fp π fs) := by
  refine ⟨fun pins s σ H Q I h => ?_⟩
  refine wpAny_Call_Name_kw (ld_glob I hg hm ?_ hdb)
  refine PySem.W.callWith_KW0 (h₀ := X.base) I.ok.mod.kin hk hall ?_ hpl
  obtain ⟨μ, I0, sl, M, s0, rs, p⟩ := h
  refine thn (hkw.run pos pins s σ H _ I ⟨μ, I0, sl, M, s0, rs, Post.bind (R := RL X.K (cmOf X.mg)) p⟩) fun ws s2 ⟨zs, H2, I2, rz, μ1, I1, M1, ds, st, ra, p1⟩ => ⟨I2.kIn, ?_⟩
  rw [hks]
  obtain ⟨I3, ts, ex, rt, hl, q⟩ := sp_call st.sim ra p1
  have hlz : zs.length = n := by rw [← rt.length]; exact hl
  have hπz : ∀ i ∈ π, i < zs.length := fun i hi => by rw [hlz]; exact hπ.2 i hi
  have hπt : ∀ i ∈ π, i < ts.length := fun i hi => by rw [hl]; exact hπ.2 i hi
  have sp : spP X.K (cmOf X.mg) n fp (perm π zs) H2 Q (fun e d H' => W e d σ H') := ⟨I3, perm π ts, ex, perm_rep rt hπt, by rw [perm_len hπt]; exact hπ.1, q⟩
  refine wpAny_call (codeAny_mono (F.run X.A X.stack s2 H2 ⟨[] ++ [], ks.zip ws⟩ (perm π ws) (perm π zs) Q _ hr I2.env0 (hb s2 ws I2.kIn (by rw [← rz.length]; exact hlz)) (perm_vals rz hπz) sp) fun r s' hq => ?_)
  cases r with
  | error e => exact lt σ pins H2 s2 e s' I2 hq
  | ok fl =>
    cases fl with
    | ret u => exact I2.after hq
    | next => exact False.elim hq
    | brk => exact False.elim hq
    | cont => exact False.elim hq
end

/-! ### more rules -/
section
variable {X : Cx} {W : WX} {a b c : Expr} {fa fb : FE} {pos : Pos}
def eNeg (F : FE) : FE := fun sl M => (F sl M).bind fun d M1 => match d with
  | .t (.int i) => .ok (.t (.int (-i))) M1
  | _ => .fail
theorem de_neg (ha : DE X W a fa) : DE X W (.UnaryOp .USub a pos) (eNeg fa) :=
  (pe_un un_neg ha).imp fun σ H Q ⟨μ, I, sl, M, s, rs, p⟩ => ⟨μ, I, sl, M, s, rs, (Post.bind (R := RD X.K (cmOf X.mg)) p).imp fun x H1 ⟨μ1, I1, M1, d, st, ra, p1⟩ => by
    split at p1
    · exact ⟨_, inv_int (K := X.K) (cm := cmOf X.mg) (I := I1) ra, p1.int st.sim⟩
    · exact p1.elim⟩
/-- a, b, c = x, y, z -/
def sPar3 (i j l : Nat) (fs : Fn (List D)) : FS := fun sl M => (fs sl M).toS sl fun ds M1 => match ds with
  | [d, d', d''] => .nx (((sl.set i (some d)).set j (some d')).set l (some d'')) M1
  | _ => .fail
theorem ds_par3 {i j l : Nat} {x y z : Str} {fs : Fn (List D)} {px py pz pt : Pos} {kt k2 pt2} (hc : X.calm = true) (hN : X.N.Nodup) (hi : X.N[i]? = some x) (hj : X.N[j]? = some y) (hl : X.N[l]? = some z) (hij : i ≠ j) (hil : i ≠ l) (hjl : j ≠ l)
    (hx : X.env.scope.names.lookup x = some .local) (hy : X.env.scope.names.lookup y = some .local) (hz : X.env.scope.names.lookup z = some .local) (ha : DA X W [a, b, c] fs)
    (hw : swappedStores [.Tuple [.Name x px, .Name y py, .Name z pz] kt pt] (.Tuple [a, b, c] k2 pt2) X.env = pure (some [x, y, z]))
    (hs : swapsWithSole [.Tuple [.Name x px, .Name y py, .Name z pz] kt pt] (.Tuple [a, b, c] k2 pt2) pos.line X.env = pure false := by rfl) :
    DS X W (.Assign [.Tuple [.Name x px, .Name y py, .Name z pz] kt pt] (.Tuple [a, b, c] k2 pt2) pos) (sPar3 i j l fs) :=
  (ps_par3 hc hN hi hj hl hij hil hjl hx hy hz ha hw hs).imp fun Z σ H ⟨μ, I, sl, M, s, rs, p⟩ => ⟨μ, I, sl, M, s, rs, (PostS.bind (R := RL X.K (cmOf X.mg)) p rs).imp fun vs H1 ⟨μ1, I1, M1, ds, st, ra, p1⟩ => by
    split at p1
    · rename_i d d' d''
      have ra : RepDL X.K (cmOf X.mg) μ1 I1 M1.length [d, d', d''] vs := ra
      unfold RepDL at ra
      obtain ⟨v, r, rfl, r1, r2⟩ := ra
      obtain ⟨w, u, rfl, r3, r4⟩ := inv2D r2
      exact ⟨v, w, u, rfl, p1.here st.sim ((((rs.mono st.gr).set i r1).set j r3).set l r4)⟩
    · exact p1.elim⟩
/-- is of truths -/
def isBT : T → T → Option T
  | .bl a, .bl b => some (.bl (decide (a = b)))
  | _, _ => none
def isnotBT : T → T → Option T
  | .bl a, .bl b => some (.bl (!decide (a = b)))
  | _, _ => none
theorem top_isB {K : PySem.W.Frag} {cm : Str → Addr} : TOp K cm rIsB isBT := by
  intro I H a b c x y Q s ra rb e al
  unfold isBT at e
  split at e
  · cases e
    exact ⟨_, _, inv_bl ra, inv_bl rb, al.val s rep_bl⟩
  · cases e
theorem top_isnotB {K : PySem.W.Frag} {cm : Str → Addr} : TOp K cm rNotB isnotBT := by
  intro I H a b c x y Q s ra rb e al
  unfold isnotBT at e
  split at e
  · cases e
    exact ⟨_, _, inv_bl ra, inv_bl rb, al.val s rep_bl⟩
  · cases e
variable {apos cpos : Pos} {o : Expr} {fo : FE}
abbrev GM0 := D → List MO → Res D
def DMt0 (K : PySem.W.Frag) (cm : Str → Addr) (r : V → List V → Hp → VK → Prop) (g : GM0) : Prop := ∀ μ I M H d v Q (Wx : XK), Sim K cm μ I M H → RepD K cm μ I M.length d v → Post K cm (RD K cm) μ I M H Wx (g d M) Q → r v [] H Q
def eBM0 (ty : D → List MO → Bool) (g : GM0) (fo : FE) : FE := fun sl M => (fo sl M).bind fun d M1 => if ty d M1 then g d M1 else .fail
theorem tBM0_of {T : String} {r : V → List V → Hp → VK → Prop} {g : GM0} {ty : D → List MO → Bool} (hty : ∀ {μ I M H d v}, Sim X.K (cmOf X.mg) μ I M H → RepD X.K (cmOf X.mg) μ I M.length d v → ty d M = true → tyV X.K T v H) (hd : DMt0 X.K (cmOf X.mg) r g) {σ H Q}
    (h : rdE X W (eBM0 ty g fo) σ H Q) : tBM0 X.K T r (rdE X W fo) σ H Q := by
  obtain ⟨μ, I, sl, M, s, rs, p⟩ := h
  refine ⟨μ, I, sl, M, s, rs, (Post.bind (R := RD X.K (cmOf X.mg)) p).imp fun x H1 ⟨μ1, I1, M1, d, st, ra, p1⟩ => ?_⟩
  split at p1
  · rename_i ht
    exact ⟨hty st.sim ra ht, hd _ _ _ _ _ _ _ _ st.sim ra p1⟩
  · exact p1.elim
def gClear : GM0 := fun d M => match d with
  | .m k => (match (M[k]? : Option MO) with
    | some (.lst _) => .ok (.t .non) (M.set k (.lst []))
    | _ => .fail)
  | _ => .fail
theorem dm_clear {K : PySem.W.Frag} {cm : Str → Addr} : DMt0 K cm rClear gClear := fun μ I M H d v Q Wx s rd p => by
  unfold gClear at p
  split at p
  · rename_i k
    split at p
    · rename_i ts e2
      obtain ⟨_, rfl⟩ := rd
      obtain ⟨_, xs, h1, h2⟩ := s.obj k _ e2
      have st := mset_step s e2 (us := []) (ys := []) RepTL.nil
      exact ⟨μ k, xs, rfl, rfl, h1, (p.step st).non st.sim⟩
    · exact p.elim
  · exact p.elim
theorem de_clear (ho : DE X W o fo) (hbase : attributeBase o "clear" X.env (eval o X.env) = eval o X.env := by rfl) (hline : (apos.endLine == cpos.line) = true := by rfl) :
    DE X W (.Call (.Attribute o "clear" apos) [] [] cpos) (eBM0 isLst gClear fo) :=
  (pe_bm0 PySem.F.plainAttrs_list PySem.F.slot_list_clear PySem.F.type_list_clear (fun pins s σ H x xs v us Q I rx rv q => mt_clear pins s σ H x xs v us Q I rx rv q) ho hbase hline).imp fun _ _ _ h => tBM0_of ty_lst dm_clear h
/-- pop(i) -/
def gPopAt : GM := fun d ds M => match d, ds with
  | .m k, [.t (.int i)] => (match (M[k]? : Option MO) with
    | some (.lst ts) => if -(2 ^ 63) ≤ i ∧ i < 2 ^ 63 then (match seqIndex? i ts.length with
      | some j => (match ts[j]? with
        | some t => .ok (.t t) (M.set k (.lst (ts.eraseIdx j)))
        | none => .fail)
      | none => .fail) else .fail
    | _ => .fail)
  | _, _ => .fail
theorem rep_erase {K : PySem.W.Frag} {cm : Str → Addr} {I : Hp} : ∀ {ts : List T} {xs : List V} (j : Nat), RepTL K cm I ts xs → RepTL K cm I (ts.eraseIdx j) (xs.eraseIdx j)
  | [], xs, j, h => by rw [inv_nil h]; exact RepTL.nil
  | t :: ts, xs, 0, h => by
    obtain ⟨x, r, rfl, h1, h2⟩ := inv_cons h
    exact h2
  | t :: ts, xs, j + 1, h => by
    obtain ⟨x, r, rfl, h1, h2⟩ := inv_cons h
    exact RepTL.cons h1 (rep_erase j h2)
theorem dm_popAt {K : PySem.W.Frag} {cm : Str → Addr} : DMt K cm "list" rPopAt gPopAt := fun μ I M H d ds v vs Q Wx s rd rr p => by
  unfold gPopAt at p
  split at p
  · rename_i k i
    split at p
    · rename_i ts e2
      split at p
      · rename_i hi
        split at p
        · rename_i j e3
          split at p
          · rename_i t e4
            obtain ⟨w, rfl, rw1⟩ := inv1 rr
            obtain ⟨_, rfl⟩ := rd
            obtain ⟨_, xs, h1, h2⟩ := s.obj k _ e2
            obtain ⟨y, h3, h4⟩ := h2.get e4
            have st := mset_step s e2 (rep_erase j h2)
            refine ⟨μ k, xs, i, j, y, rfl, by rw [inv_int (K := K) (cm := cm) (I := I) rw1], h1, hi.1, hi.2, by rw [← h2.length]; exact e3, h3, ?_⟩
            exact (p.step st) μ I _ y (Step.refl st.sim) h4
          · exact p.elim
        · exact p.elim
      · exact p.elim
    · exact p.elim
  · exact p.elim
theorem de_popAt {e : Expr} {fs : Fn (List D)} (ho : DE X W o fo) (ha : DA X W [e] fs)
    (hbase : attributeBase o "pop" X.env (eval o X.env) = eval o X.env := by rfl)
    (hfew : ((backTo cpos (starEach [e] X.env)).all (fun x => !x.1) && (backToKw cpos (keywordEach [] X.env)).all (fun x => x.1.isSome)
      && decide ([e].length + ([] : List Keyword).length + (if ([] : List Keyword).isEmpty then 0 else 1) < 30)) = true := by rfl)
    (hline : (apos.endLine == cpos.line) = true := by rfl) (hs : starEach [e] X.env = (false, eval e X.env) :: starEach [] X.env := by rfl) :
    DE X W (.Call (.Attribute o "pop" apos) [e] [] cpos) (eBM isLst gPopAt fo fs) :=
  de_bm PySem.F.plainAttrs_list PySem.F.slot_list_pop PySem.F.type_list_pop (fun pins s σ H x xs v us Q I rx rv q => mt_popAt pins s σ H x xs v us Q I rx rv q) ty_lst dm_popAt ho ha hbase hfew hline hs
end
theorem fn_P_fail {P : Program} {w : World} {K : PySem.W.Frag} {mg : Str → Option Value} {base : Heap} {CX : CXT} {k m : Nat} {f : Addr} {fd : FuncData} {ps : List Str} (hm : m = ps.length) : FnOk P w K mg base CX k f fd ps (spP K (cmOf mg) m fun _ => .fail) := by
  subst hm
  exact ⟨spP_len, fun A outer s H args us vs Q E _ _ _ _ ⟨_, _, _, _, _, h⟩ => h.elim⟩
theorem fn_B_fail {P : Program} {w : World} {K : PySem.W.Frag} {mg : Str → Option Value} {base : Heap} {CX : CXT} {k m : Nat} {f : Addr} {fd : FuncData} {ps : List Str} (hm : m = ps.length) : FnOk P w K mg base CX k f fd ps (spB K (cmOf mg) m fun _ _ => .fail) := by
  subst hm
  exact ⟨spB_len, fun A outer s H args us vs Q E _ _ _ _ ⟨_, _, _, _, _, _, _, _, _, _, _, _, _, h⟩ => h.elim⟩

/-! ### small things for printed proofs -/
theorem PTs.imp {X : Cx} {e : List Expr} {t t' : TT} (h : PTs X e t) (i : ∀ σ H Q, t' σ H Q → t σ H Q) : PTs X e t' := ⟨fun pins s σ H Q I q => h.run pins s σ H Q I (i _ _ _ q)⟩
theorem dts_nil {X : Cx} : PTs X [] (rdB X W0 bYes) := PTs.imp pts_nil fun σ H Q ⟨μ, I, sl, M, s, rs, p⟩ => p.here s rfl
theorem dts_one {X : Cx} {c : Expr} {t : Fn Bool} (h : DT X W0 c t) : PTs X [c] (rdB X W0 t) := pts_one h
/-- a def of the text, as it stands behind the top -/
structure DefAt (K : PySem.W.Frag) (mg : Str → Option Value) (x : Str) (st : Stmt) (ps : List Str) where
  f : Addr
  fd : FuncData
  F : Fun K x x st f fd
  m : mg x = some (.ref f)
  b : Binds K fd ps []
/-- a constant of the module -/
def GlobAt (K : PySem.W.Frag) (mg : Str → Option Value) (x : Str) (t : T) : Prop := ∃ u v, mg x = some u ∧ RelV v u ∧ ∀ I, RepT K (cmOf mg) I t v
theorem de_gl {X : Cx} {W : WX} {x : Str} {t : T} {pos : Pos} (hg : Gl X x) (g : GlobAt X.K X.mg x t) (hd : (x == ("__debug__" : Str)) = false := by decide) : DE X W (.Name x pos) (eC t) := by
  obtain ⟨u, v, h1, h2, h3⟩ := g
  exact de_glob hg h1 h2 h3 hd
/-- built-in classes: what isinstance answers -/
def kinds : List String := ["NoneType", "bool", "int", "str", "list", "tuple"]
def tabB : Kd → Kd → Option Bool
  | .inl a, .inl b => if a ∈ kinds ∧ b ∈ kinds then some (a == b || (a == "bool" && b == "int")) else none
  | _, _ => none
theorem tabB_kit : ∀ a ∈ kinds, ∀ b ∈ kinds, kitB a b = some (a == b || (a == "bool" && b == "int")) := by decide +kernel
theorem tabB_ok {K : PySem.W.Frag} {cm : Str → Addr} : TabOk K cm tabB where
  one := fun k c b h => by
    cases k with
    | inr s => cases h
    | inl a =>
      cases c with
      | inr s => cases h
      | inl b' =>
        simp only [tabB] at h
        split at h
        · rename_i hc
          cases h
          exact kit_ty (tabB_kit a hc.1 b' hc.2)
        · cases h
  ins := fun s c b h => by cases h
theorem de_isi {X : Cx} {W : WX} {a b : Expr} {fs : Fn (List D)} {tab : Kd → Kd → Option Bool} {p pos : Pos} (tk : TabOk X.K (cmOf X.mg) tab) (hg : Gl X "isinstance") (hm : X.mg "isinstance" = none) (ha : DA X W [a, b] fs)
    (he : starEach [a, b] X.env = (false, eval a X.env) :: starEach [b] X.env := by rfl) (hpl : (backTo pos (starEach [b] X.env)).any (·.1) = false := by rfl) : DE X W (.Call (.Name "isinstance" p) [a, b] [] pos) (eCB (gP (isiT tab)) fs) :=
  de_callB call_isiA (tc_isi tk).d hg hm boot_isinstance ha (he := he) (hpl := hpl)
end Bm

namespace Bm
open PySem L2
section
variable {sl sl1 : List (Option D)} {M M1 M2 M3 M4 : List MO}
theorem seq_nx {f g : FS} (h : f sl M = .nx sl1 M1) : sSeq f g sl M = g sl1 M1 := by unfold sSeq; rw [h]
theorem v_seq {f g : FS} {r : SRes} (h : f sl M = .nx sl1 M1) (h2 : g sl1 M1 = r) : sSeq f g sl M = r := (seq_nx h).trans h2
theorem v_seqR {f g : FS} {d : D} (h : f sl M = .rt d M1) : sSeq f g sl M = .rt d M1 := by unfold sSeq; rw [h]
theorem v_var {i : Nat} {d : D} (h : sl[i]? = some (some d)) : eVar i sl M = .ok d M := by unfold eVar; rw [h]
theorem v_set {i : Nat} {F : FE} {d : D} (h : F sl M = .ok d M1) : sSet i F sl M = .nx (sl.set i (some d)) M1 := by unfold sSet; rw [h]; rfl
theorem v_ret {F : FE} {d : D} (h : F sl M = .ok d M1) : sRet F sl M = .rt d M1 := by unfold sRet; rw [h]; rfl
theorem v_expr {F : FE} {d : D} (h : F sl M = .ok d M1) : sExpr F sl M = .nx sl M1 := by unfold sExpr; rw [h]; rfl
theorem v_if {t : Fn Bool} {f g : FS} {k : Bool} {r : SRes} (h : t sl M = .ok k M1) (h2 : (if k then f sl M1 else g sl M1) = r) : sIf t f g sl M = r := by unfold sIf; rw [h]; exact h2
theorem v_asg {F : FE} {G : GG} {d : D} (h : F sl M = .ok d M1) (h2 : G d sl M1 = .nx sl1 M2) : sAsg F G sl M = .nx sl1 M2 := by unfold sAsg; rw [h]; show (match G d sl M1 with | .nx sl' M' => _ | .exc x sl' M' => _ | _ => _) = _; rw [h2]
theorem v_cons {fa : FE} {fs : Fn (List D)} {d : D} {ds : List D} (h : fa sl M = .ok d M1) (h2 : fs sl M1 = .ok ds M2) : aCons fa fs sl M = .ok (d :: ds) M2 := by
  unfold aCons; rw [h]; show (fs sl M1).bind _ = _; rw [h2]; rfl
theorem v_nil : aNil sl M = .ok [] M := rfl
theorem v_c {t : T} : eC t sl M = .ok (.t t) M := rfl
theorem v_e2 {g : G2} {fa fb : FE} {a b : D} {r : Res D} (ha : fa sl M = .ok a M1) (hb : fb sl M1 = .ok b M2) (h : g a b M2 = r) : e2 g fa fb sl M = r := by
  unfold e2; rw [ha]; show (fb sl M1).bind _ = _; rw [hb]; exact h
theorem v_cb {g : GC} {fs : Fn (List D)} {ds : List D} {r : Res D} (ha : fs sl M = .ok ds M1) (h : g ds M1 = r) : eCB g fs sl M = r := by
  unfold eCB; rw [ha]; exact h
theorem v_callB {n : Nat} {fb : List T → List T → BR} {fs : Fn (List D)} {ds : List D} {r : Res D} (ha : fs sl M = .ok ds M1) (h : gCallB n fb ds M1 = r) : eCallB n fb fs sl M = r := by
  unfold eCallB; rw [ha]; exact h
theorem v_bm {ty : D → List MO → Bool} {g : GM} {fo : FE} {fs : Fn (List D)} {d : D} {ds : List D} {r : Res D} (ho : fo sl M = .ok d M1) (ht : ty d M1 = true) (ha : fs sl M1 = .ok ds M2) (h : g d ds M2 = r) : eBM ty g fo fs sl M = r := by
  unfold eBM; rw [ho]; show (if ty d M1 then (fs sl M1).bind _ else _) = _; rw [if_pos ht, ha]; exact h
theorem v_lc {Fi : Fn (List T)} {vs : List Nat} {G : GG} {Tt : Fn Bool} {E : FE} {ts us : List T} (h : Fi sl M = .ok ts M1) (h2 : lcF vs G Tt E ts sl M1 [] = some (us, M2)) : eLc Fi vs G Tt E sl M = .ok (.t (.lst us)) M2 := by
  unfold eLc; rw [h]; show (match lcF vs G Tt E ts sl M1 [] with | some (us, M2) => _ | none => _) = _; rw [h2]
theorem v_r1 {fs : Fn (List D)} {ds : List D} {r : Res (List T)} (ha : fs sl M = .ok ds M1) (h : iRg1 ds M1 = r) : iR1 fs sl M = r := by
  unfold iR1; rw [ha]; exact h
theorem v_il {F : FE} {d : D} {r : Res (List T)} (ha : F sl M = .ok d M1) (h : iLst d M1 = r) : iL F sl M = r := by
  unfold iL; rw [ha]; exact h
theorem v_for {Fi : Fn (List T)} {G : GG} {B : FS} {ts : List T} {r : SRes} (h : Fi sl M = .ok ts M1) (h2 : loopF G B ts sl M1 = r) : sFor Fi G B sl M = r := by
  unfold sFor; rw [h]; exact h2
theorem v_sl {fa : FE} {fl fh : Fn (Option Int)} {d : D} {lo hi : Option Int} {r : Res D} (ha : fa sl M = .ok d M1) (h1 : fl sl M1 = .ok lo M2) (h2 : fh sl M2 = .ok hi M3) (h : gSl d lo hi M3 = r) : eSl fa fl fh sl M = r := by
  unfold eSl; rw [ha]; show (fl sl M1).bind _ = _; rw [h1]; show (fh sl M2).bind _ = _; rw [h2]; exact h
theorem v_none : oNone sl M = .ok none M := rfl
theorem v_some {F : FE} {i : Int} (h : F sl M = .ok (.t (.int i)) M1) : oSome F sl M = .ok (some i) M1 := by unfold oSome; rw [h]; rfl
theorem v_eB {F : FE} {k : Bool} (h : F sl M = .ok (.t (.bl k)) M1) : eB F sl M = .ok k M1 := by unfold eB; rw [h]; rfl
theorem v_not {t : Fn Bool} {k : Bool} (h : t sl M = .ok k M1) : bNot t sl M = .ok (!k) M1 := by unfold bNot; rw [h]; rfl
theorem v_enot {F : FE} {k : Bool} (h : F sl M = .ok (.t (.bl k)) M1) : eNot F sl M = .ok (.t (.bl !k)) M1 := by unfold eNot; rw [h]; rfl
theorem v_or {t u : Fn Bool} {k : Bool} {r : Res Bool} (h : t sl M = .ok k M1) (h2 : (if k then .ok true M1 else u sl M1) = r) : bOr t u sl M = r := by unfold bOr; rw [h]; exact h2
theorem v_and {t u : Fn Bool} {k : Bool} {r : Res Bool} (h : t sl M = .ok k M1) (h2 : (if k then u sl M1 else .ok false M1) = r) : bAnd t u sl M = r := by unfold bAnd; rw [h]; exact h2
theorem v_call {n : Nat} {fp : List T → PR} {fs : Fn (List D)} {ds : List D} {ts : List T} {t : T} (ha : fs sl M = .ok ds M1) (hf : frzL M1 ds = some (ts, M2)) (hn : ts.length = n) (h : fp ts = .val t) : eCall n fp fs sl M = .ok (.t t) M2 := by
  unfold eCall; rw [ha]
  show (match frzL M1 ds with | some (ts, M2) => _ | none => _) = _
  rw [hf]
  show (if ts.length = n then _ else _) = _
  rw [if_pos hn, h]
theorem v_callM {n : Nat} {fp : List T → PR} {fs : Fn (List D)} {ds : List D} {ts us : List T} (ha : fs sl M = .ok ds M1) (hf : frzL M1 ds = some (ts, M2)) (hn : ts.length = n) (h : fp ts = .fresh us) : eCallM n fp fs sl M = .ok (.m M2.length) (M2 ++ [.lst us]) := by
  unfold eCallM; rw [ha]
  show (match frzL M1 ds with | some (ts, M2) => _ | none => _) = _
  rw [hf]
  show (if ts.length = n then _ else _) = _
  rw [if_pos hn, h]
theorem v_gB {n k : Nat} {fb : List T → List T → BR} {rest : List D} {ts b b' : List T} {t : T} (hf : frzL M rest = some (ts, M1)) (hk : M1[k]? = some (.lst b)) (hn : ts.length + 1 = n) (h : fb b ts = .val t b') : gCallB n fb (.m k :: rest) M = .ok (.t t) (M1.set k (.lst b')) := by
  unfold gCallB
  show (match frzL M rest with | some (ts, M2) => _ | none => _) = _
  rw [hf]
  show (match M1[k]? with | some (.lst b) => _ | _ => _) = _
  rw [hk]
  show (if ts.length + 1 = n then _ else _) = _
  rw [if_pos hn, h]
theorem v_lst {fs : Fn (List D)} {ds : List D} {ts : List T} (ha : fs sl M = .ok ds M1) (hf : frzL M1 ds = some (ts, M2)) (hn : ts.length ≤ 16777216) : eLst fs sl M = .ok (.t (.lst ts)) M2 := by
  unfold eLst; rw [ha]
  show toTs _ ds M1 = _
  unfold toTs; rw [hf]
  show (match (if ts.length ≤ sizeLine then some (T.lst ts) else none) with | some t => _ | none => _) = _
  rw [if_pos (by rw [sizeLine_eq]; exact hn)]
theorem v_tup {fs : Fn (List D)} {ds : List D} {ts : List T} (ha : fs sl M = .ok ds M1) (hf : frzL M1 ds = some (ts, M2)) (hn : ts.length ≤ 16777216) : eTup fs sl M = .ok (.t (.tup ts)) M2 := by
  unfold eTup; rw [ha]
  show toTs _ ds M1 = _
  unfold toTs; rw [hf]
  show (match (if ts.length ≤ sizeLine then some (T.tup ts) else none) with | some t => _ | none => _) = _
  rw [if_pos (by rw [sizeLine_eq]; exact hn)]
theorem loop_nil {G : GG} {B : FS} : loopF G B [] sl M = .nx sl M := rfl
theorem loop_nx {G : GG} {B : FS} {t : T} {ts : List T} {r : SRes} {sl2 : List (Option D)} (h : G (.t t) sl M = .nx sl1 M1) (h2 : B sl1 M1 = .nx sl2 M2) (h3 : loopF G B ts sl2 M2 = r) : loopF G B (t :: ts) sl M = r := by
  rw [loopF, h]; show (match B sl1 M1 with | .nx sl2 M2 => _ | .ct sl2 M2 => _ | .bk sl2 M2 => _ | r => _) = _; rw [h2]; exact h3
theorem v_e3 {g g' : G2} {fa fb fc : FE} {a b c : D} {k : Bool} {r : Res D} (ha : fa sl M = .ok a M1) (hb : fb sl M1 = .ok b M2) (h1 : g a b M2 = .ok (.t (.bl k)) M2) (hc : fc sl M2 = .ok c M3) (h : (if k then g' b c M3 else .ok (.t (.bl false)) M2) = r) : e3 g g' fa fb fc sl M = r := by
  unfold e3; rw [ha]; show (fb sl M1).bind _ = _; rw [hb]; show (g a b M2).bind _ = _; rw [h1]
  show (if k then (fc sl M2).bind _ else _) = _
  cases k
  · exact h
  · rw [hc]; exact h
end
end Bm

/-! Dicts of the module with text keys: a key is in it, the value at a key. -/
namespace Bm
open PySem L2
def tabGet (tab : List (Str × T)) (z : Str) : Option T := match tab with
  | [] => none
  | (k, t) :: r => if k = z then some t else tabGet r z
/-- an entry of the table and one of the dict -/
def EntRel (K : PySem.W.Frag) (cm : Str → Addr) (w : World) (p : Str × T) (e : DictEntry) : Prop := e.hash = PyData.keyHash w.params p.1 ∧ (∃ t, e.key = .str p.1 t) ∧ ∃ v, RelV v e.val ∧ ∀ I, RepT K cm I p.2 v
def EntsRel (K : PySem.W.Frag) (cm : Str → Addr) (w : World) : List (Str × T) → List DictEntry → Prop
  | [], es => es = []
  | p :: ps, es => ∃ e r, es = e :: r ∧ EntRel K cm w p e ∧ EntsRel K cm w ps r
structure DictAt (K : PySem.W.Frag) (cm : Str → Addr) (w : World) (d : Addr) (tab : List (Str × T)) : Prop where
  ex : ∃ es n, KDict K w d es n ∧ EntsRel K cm w tab es.toList
theorem ents_lit {K : PySem.W.Frag} {cm : Str → Addr} {w : World} : ∀ {tab : List (Str × T)} {es : List DictEntry}, EntsRel K cm w tab es → PySem.W.KeysLit w.params es
  | [], es, h => by unfold EntsRel at h; subst h; trivial
  | p :: ps, es, h => by
    unfold EntsRel at h
    obtain ⟨e, r, rfl, ⟨h1, ⟨t, h2⟩, _⟩, h3⟩ := h
    exact ⟨⟨p.1, t, h2, h1⟩, ents_lit h3⟩
theorem ents_find {K : PySem.W.Frag} {cm : Str → Addr} {w : World} (z : Str) : ∀ {tab : List (Str × T)} {es : List DictEntry}, EntsRel K cm w tab es →
    (match tabGet tab z with
      | none => es.find? (fun d => d.key.isStr z) = none
      | some t => ∃ e v, es.find? (fun d => d.key.isStr z) = some e ∧ RelV v e.val ∧ ∀ I, RepT K cm I t v)
  | [], es, h => by unfold EntsRel at h; subst h; rfl
  | (k, t) :: ps, es, h => by
    unfold EntsRel at h
    obtain ⟨e, r, rfl, ⟨h1, ⟨tk, h2⟩, v, h4, h5⟩, h3⟩ := h
    have ih := ents_find z h3
    have ek : e.key.isStr z = (k == z) := by rw [h2]; rfl
    unfold tabGet
    by_cases hk : k = z
    · rw [if_pos hk]
      refine ⟨e, v, ?_, h4, h5⟩
      rw [List.find?_cons_of_pos (by rw [ek, hk]; exact beq_self_eq_true z)]
    · rw [if_neg hk]
      have : (k == z) = false := by simpa using hk
      rw [List.find?_cons_of_neg (by rw [ek, this]; decide)]
      exact ih
theorem ents_noref {K : PySem.W.Frag} {cm : Str → Addr} {w : World} : ∀ {tab : List (Str × T)} {es : List DictEntry}, EntsRel K cm w tab es → es.any (·.refKey) = false
  | [], es, h => by unfold EntsRel at h; subst h; rfl
  | p :: ps, es, h => by
    unfold EntsRel at h
    obtain ⟨e, r, rfl, ⟨h1, ⟨t, h2⟩, _⟩, h3⟩ := h
    rw [List.any_cons, ents_noref h3, Bool.or_false]
    unfold DictEntry.refKey
    rw [h2]
theorem dict_look {K : PySem.W.Frag} {cm : Str → Addr} {w : World} {d : Addr} {tab : List (Str × T)} {es : Array DictEntry} {n : Nat} (D : KDict K w d es n) (h : EntsRel K cm w tab es.toList) (z : Str) :
    (match tabGet tab z with
      | none => PySem.W.nsIn K d z = some none
      | some t => ∃ u v, PySem.W.nsIn K d z = some (some u) ∧ RelV v u ∧ ∀ I, RepT K cm I t v) := by
  have q := ents_find z h
  have e : PySem.W.nsIn K d z = some ((es.toList.find? (fun d => d.key.isStr z)).map (·.val)) := by
    unfold PySem.W.nsIn
    rw [D.at_]
    simp only [ents_noref h]
    cases es.toList.find? (fun d => d.key.isStr z) <;> rfl
  cases hz : tabGet tab z with
  | none =>
    rw [hz] at q
    simp only at q ⊢
    rw [e, q]; rfl
  | some t =>
    rw [hz] at q
    obtain ⟨en, v, q1, q2, q3⟩ := q
    exact ⟨en.val, v, by rw [e, q1]; rfl, q2, q3⟩
/-- one place -/
def e1 (f : T → Option T) (F : FE) : FE := fun sl M => (F sl M).bind fun d M1 => match d with
  | .t t => (match f t with
    | some u => .ok (.t u) M1
    | none => .fail)
  | _ => .fail
def keyIn (neg : Bool) (tab : List (Str × T)) : T → Option T
  | .str z => some (.bl (neg != (tabGet tab z).isSome))
  | _ => none
def keyAt (tab : List (Str × T)) : T → Option T
  | .str z => tabGet tab z
  | _ => none
/-- a dict of the module -/
def GlobDict (K : PySem.W.Frag) (mg : Str → Option Value) (w : World) (x : Str) (tab : List (Str × T)) : Prop := ∃ d es n, mg x = some (.ref d) ∧ KDict K w d es n ∧ EntsRel K (cmOf mg) w tab es.toList
section
variable {X : Cx} {W : WX} {a : Expr} {fa : FE} {x : Str} {tab : List (Str × T)} {p pos : Pos}
theorem e1_rd {f : T → Option T} {d : Addr} {r : R2} (hop : ∀ I H t u v Q, Ex I H → f t = some u → RepT X.K (cmOf X.mg) I t v → (∀ v', (∀ J, RepT X.K (cmOf X.mg) J u v') → Q v' H) → r v (.ref d) H Q) {σ H Q}
    (h : rdE X W (e1 f fa) σ H Q) : tOp r (rdE X W fa) (rdE X W (eC (.glo d))) σ H Q := by
  obtain ⟨μ, I, sl, M, s, rs, pp⟩ := h
  refine ⟨μ, I, sl, M, s, rs, (Post.bind (R := RD X.K (cmOf X.mg)) pp).imp fun y H1 ⟨μ1, I1, M1, a1, st, ra, p1⟩ => ?_⟩
  refine ⟨μ1, I1, sl, M1, st.sim, rs.mono st.gr, fun μ2 I2 H2 b st2 rb => ?_⟩
  have eb : b = .ref d := by have := rb; unfold RD RepD RepT at this; exact this
  subst eb
  cases a1 with
  | m k => exact p1.elim
  | t t =>
    simp only at p1
    cases e : f t with
    | none => rw [e] at p1; exact p1.elim
    | some u =>
      rw [e] at p1
      refine hop I2 H2 t u y Q st2.sim.sub e (RepT.mono st2.gr.ex t y ra) fun v' hv => ?_
      exact p1 μ2 I2 H2 v' st2 (hv I2)
theorem keyIn_hop {d : Addr} {es : Array DictEntry} {n : Nat} {neg : Bool} (D : KDict X.K X.w d es n) (h2 : EntsRel X.K (cmOf X.mg) X.w tab es.toList) : ∀ I H t u v (Q : VK), Ex I H → keyIn neg tab t = some u → RepT X.K (cmOf X.mg) I t v → (∀ v', (∀ J, RepT X.K (cmOf X.mg) J u v') → Q v' H) →
    ∃ (z : Str) (r : Option Value), v = .str z ∧ V.ref d = .ref d ∧ PySem.W.nsIn X.K d z = some r ∧ Q (.bl (neg != r.isSome)) H := fun I H t u v Q ex e ra q => by
  cases t with
  | str z =>
    have q2 := dict_look D h2 z
    cases e
    have ev : v = .str z := by unfold RepT at ra; exact ra
    subst ev
    cases hz : tabGet tab z with
    | none =>
      rw [hz] at q2 q
      exact ⟨z, none, rfl, rfl, q2, q _ fun J => by unfold RepT; rfl⟩
    | some t =>
      rw [hz] at q2 q
      obtain ⟨u, v, q3, _, _⟩ := q2
      exact ⟨z, some u, rfl, rfl, q3, q _ fun J => by unfold RepT; rfl⟩
  | _ => cases e
theorem hop_t {d : Addr} {es : Array DictEntry} {n : Nat} (D : KDict X.K X.w d es n) (h2 : EntsRel X.K (cmOf X.mg) X.w tab es.toList) {σ H Q} (h : rdE X W (e1 (keyIn true tab) fa) σ H Q) :
    tOp (fun x y H Q => ∃ (z : Str) (r : Option Value), x = .str z ∧ y = .ref d ∧ PySem.W.nsIn X.K d z = some r ∧ Q (.bl (!r.isSome)) H) (rdE X W fa) (rdE X W (eC (.glo d))) σ H Q :=
  e1_rd (fun I H t u v Q ex e ra q => by
    obtain ⟨z, r, a1, a2, a3, a4⟩ := keyIn_hop D h2 I H t u v Q ex e ra q
    exact ⟨z, r, a1, a2, a3, by rw [Bool.true_bne] at a4; exact a4⟩) h
theorem hop_f {d : Addr} {es : Array DictEntry} {n : Nat} (D : KDict X.K X.w d es n) (h2 : EntsRel X.K (cmOf X.mg) X.w tab es.toList) {σ H Q} (h : rdE X W (e1 (keyIn false tab) fa) σ H Q) :
    tOp (fun x y H Q => ∃ (z : Str) (r : Option Value), x = .str z ∧ y = .ref d ∧ PySem.W.nsIn X.K d z = some r ∧ Q (.bl r.isSome) H) (rdE X W fa) (rdE X W (eC (.glo d))) σ H Q :=
  e1_rd (fun I H t u v Q ex e ra q => by
    obtain ⟨z, r, a1, a2, a3, a4⟩ := keyIn_hop D h2 I H t u v Q ex e ra q
    exact ⟨z, r, a1, a2, a3, by rw [Bool.false_bne] at a4; exact a4⟩) h
theorem de_notInD (G : GlobDict X.K X.mg X.w x tab) (hg : Gl X x) (ha : DE X W a fa) (hm : behindInMarks .NotIn (.Name x p) = false) (hd : (x == ("__debug__" : Str)) = false := by decide) : DE X W (.Compare a [.NotIn] [.Name x p] pos) (e1 (keyIn true tab) fa) := by
  obtain ⟨d, es, n, h1, D, h2⟩ := G
  exact (pe_cmpR (op_notIn_kd D) ha (de_glob (W := W) (t := .glo d) (v := .ref d) hg h1 rfl (fun I => by unfold RepT; rfl) hd) hm).imp fun σ H Q h => hop_t D h2 h
theorem dt_notInD (G : GlobDict X.K X.mg X.w x tab) (hg : Gl X x) (ha : DE X W a fa) (hm : behindInMarks .NotIn (.Name x p) = false) (hd : (x == ("__debug__" : Str)) = false := by decide) : DT X W (.Compare a [.NotIn] [.Name x p] pos) (eB (e1 (keyIn true tab) fa)) := by
  obtain ⟨d, es, n, h1, D, h2⟩ := G
  exact (pt_cmpR (op_notIn_kd D) ha (de_glob (W := W) (t := .glo d) (v := .ref d) hg h1 rfl (fun I => by unfold RepT; rfl) hd) hm).imp fun σ H Q h => tTest_of (fun _ _ _ q => hop_t D h2 q) h
theorem de_inD (G : GlobDict X.K X.mg X.w x tab) (hg : Gl X x) (ha : DE X W a fa) (hm : behindInMarks .In (.Name x p) = false) (hd : (x == ("__debug__" : Str)) = false := by decide) : DE X W (.Compare a [.In] [.Name x p] pos) (e1 (keyIn false tab) fa) := by
  obtain ⟨d, es, n, h1, D, h2⟩ := G
  exact (pe_cmpR (op_in_kd D) ha (de_glob (W := W) (t := .glo d) (v := .ref d) hg h1 rfl (fun I => by unfold RepT; rfl) hd) hm).imp fun σ H Q h => hop_f D h2 h
theorem dt_inD (G : GlobDict X.K X.mg X.w x tab) (hg : Gl X x) (ha : DE X W a fa) (hm : behindInMarks .In (.Name x p) = false) (hd : (x == ("__debug__" : Str)) = false := by decide) : DT X W (.Compare a [.In] [.Name x p] pos) (eB (e1 (keyIn false tab) fa)) := by
  obtain ⟨d, es, n, h1, D, h2⟩ := G
  exact (pt_cmpR (op_in_kd D) ha (de_glob (W := W) (t := .glo d) (v := .ref d) hg h1 rfl (fun I => by unfold RepT; rfl) hd) hm).imp fun σ H Q h => tTest_of (fun _ _ _ q => hop_f D h2 q) h
theorem e1_rd2 {f : T → Option T} {d : Addr} {r : R2} (hop : ∀ I H t u v Q, Ex I H → f t = some u → RepT X.K (cmOf X.mg) I t v → (∀ v', (∀ J, RepT X.K (cmOf X.mg) J u v') → Q v' H) → r (.ref d) v H Q) {σ H Q}
    (h : rdE X W (e1 f fa) σ H Q) : tOp r (rdE X W (eC (.glo d))) (rdE X W fa) σ H Q := by
  obtain ⟨μ, I, sl, M, s, rs, pp⟩ := h
  refine ⟨μ, I, sl, M, s, rs, fun μ0 I0 H0 b st0 rb => ?_⟩
  have eb : b = .ref d := by have := rb; unfold RD RepD RepT at this; exact this
  subst eb
  refine ⟨μ0, I0, sl, M, st0.sim, rs.mono st0.gr, (Post.bind (R := RD X.K (cmOf X.mg)) (pp.step st0)).imp fun y H1 ⟨μ1, I1, M1, a1, st, ra, p1⟩ => ?_⟩
  cases a1 with
  | m k => exact p1.elim
  | t t =>
    simp only at p1
    cases e : f t with
    | none => rw [e] at p1; exact p1.elim
    | some u =>
      rw [e] at p1
      refine hop I1 H1 t u y Q st.sim.sub e ra fun v' hv => ?_
      exact p1 μ1 I1 H1 v' (Step.refl st.sim) (hv I1)
theorem de_ixD (G : GlobDict X.K X.mg X.w x tab) (hg : Gl X x) (ha : DE X W a fa) (hs : PlainIx a) (hd : (x == ("__debug__" : Str)) = false := by decide) : DE X W (.Subscript (.Name x p) a pos) (e1 (keyAt tab) fa) := by
  obtain ⟨d, es, n, h1, D, h2⟩ := G
  refine (pe_ix ix_kdict (de_glob (W := W) (t := .glo d) (v := .ref d) hg h1 rfl (fun I => by unfold RepT; rfl) hd) ha hs).imp fun σ H Q h => e1_rd2 (fun I H t u v Q ex e ra q => ?_) h
  cases t with
  | str z =>
    have q2 := dict_look D h2 z
    have ev : v = .str z := by unfold RepT at ra; exact ra
    subst ev
    have e' : tabGet tab z = some u := e
    rw [e'] at q2
    obtain ⟨u0, v0, q3, q4, q5⟩ := q2
    exact ⟨d, z, v0, rfl, rfl, ⟨es, n, u0, D.at_, D.lit, q3, q4⟩, q _ fun J => q5 J⟩
  | _ => cases e
end
end Bm

/-! Own classes: instances that stay as they were made; defs by positional promises. -/
namespace Bm
open PySem L2 PyProof.Rows
section
variable (K : PySem.W.Frag) (cm : Str → Addr)
/-- a def that reads trees, however many -/
def spR (f : List T → PR) : Sp := fun vs H Q E => ∃ I ts, Ex I H ∧ RepTL K cm I ts vs ∧ (match f ts with
  | .val t => ∀ I' H' v, StepT I H I' H' → RepT K cm I' t v → Q v H'
  | .fresh us => ∀ I' H' p xs, StepT I H I' H' → H p = none → I' p = none → H' p = some (.lst xs) → RepTL K cm I' us xs → Q (.ref p) H'
  | .exc x => ∀ I' H' e d, StepT I H I' H' → RepX K cm I' H' x e d → E e d H'
  | .fail => False)
end
def many (n : Nat) (f : List T → PR) : List T → PR := fun ts => if ts.length = n then f ts else .fail
theorem fnR_of {P : Program} {w : World} {K : PySem.W.Frag} {mg : Str → Option Value} {base : Heap} {CX : CXT} {k n : Nat} {f : Addr} {fd : FuncData} {ps : List Str} {fp : List T → PR} (F : FnOk P w K mg base CX k f fd ps (spP K (cmOf mg) n fp)) (hb : Binds K fd ps []) :
    FnR P w K mg base CX k f (spR K (cmOf mg) (many n fp)) :=
  (F.raw hb .nil).imp fun vs H Q E ⟨I, ts, ex, r, h⟩ => by
    unfold many at h
    by_cases hn : ts.length = n
    · rw [if_pos hn] at h
      rw [List.append_nil]
      exact ⟨I, ts, ex, r, hn, h⟩
    · rw [if_neg hn] at h
      exact h.elim
/-- .. with a star behind m parameters -/
def starF (m : Nat) (f : List T → PR) : List T → PR := fun ts => if m ≤ ts.length ∧ ts.length ≤ 16777216 then f (ts.take m ++ [.tup (ts.drop m)]) else .fail
theorem stepT_new {I H : Hp} {p : Addr} {o : HO} (ex : Ex I H) (hp : H p = none) : StepT I H (upd I p o) (upd H p o) :=
  ⟨Ex.new (ex.free hp), ex.upd2, Ex.new hp, fun a u h n => by rw [upd_ne (ne_of_none h hp)]; exact n⟩
section
variable {P : Program} {w : World} {K : PySem.W.Frag} {mg : Str → Option Value} {base : Heap} {x qual : Str} {st : Stmt} {f : Addr} {fd : FuncData} {N ps : List Str} {k : Nat}
/-- what a body's function says of a body, to the wishes of spR -/
theorem body_P {n : Nat} {Fb : FS} {X : Cx} {E : XK} {H : Hp} {I : Hp} {ts : List T} {vs : List V} {Q : VK} {body : List Stmt} (hX : X.N = N ∨ True) (hn : n = N.length) (hmg : X.mg = mg) (hK : X.K = K) (hb : DSs X (fun e d _ H' => E e d H') body Fb) (ex : Ex I H) (r : RepTL K (cmOf mg) I ts vs)
    (h : match runP n Fb ts with
      | .val t => ∀ I' H' v, StepT I H I' H' → RepT K (cmOf mg) I' t v → Q v H'
      | .fresh us => ∀ I' H' p xs, StepT I H I' H' → H p = none → I' p = none → H' p = some (.lst xs) → RepTL K (cmOf mg) I' us xs → Q (.ref p) H'
      | .exc x => ∀ I' H' e d, StepT I H I' H' → RepX K (cmOf mg) I' H' x e d → E e d H'
      | .fail => False) : ∃ t, PSs X body t ∧ t { nx := fun _ H' => Q .non H', rt := Q } (L2.start N vs) H := by
  subst hmg hK
  refine ⟨_, hb, ?_⟩
  refine ⟨fun _ => 0, I, start' n (ts.map D.t), [], sim_nil ex, start_rep hn (repDL_ofT r), ?_⟩
  unfold runP at h
  cases q : Fb (start' n (ts.map D.t)) [] with
  | nx a M1 =>
    rw [q] at h
    exact fun μ' I' H' σ' st _ => h I' H' .non st.t rep_non
  | bk a M1 => rw [q] at h; exact h.elim
  | ct a M1 => rw [q] at h; exact h.elim
  | fail => rw [q] at h; exact h.elim
  | exc x a M1 =>
    rw [q] at h
    exact fun μ' I' H' σ' e d st _ rx => h I' H' e d st.t rx
  | rt d M1 =>
    rw [q] at h
    intro μ' I' H' v st rd
    cases d with
    | t t => exact h I' H' v st.t rd
    | m j =>
      obtain ⟨_, rfl⟩ := rd
      cases e : M1[j]? with
      | none => simp only [ansP, e] at h
      | some o =>
        cases o with
        | lst us =>
          simp only [ansP, e] at h
          obtain ⟨h1, xs, h2, h3⟩ := st.sim.obj j _ e
          have hj : j < M1.length := (List.getElem?_eq_some_iff.mp e).1
          exact h I' H' _ xs st.t (st.fresh j (Nat.zero_le _) hj) h1 h2 h3
        | frz t =>
          simp only [ansP, e] at h
          exact h I' H' _ st.t (st.sim.obj j _ e)
        | ins c ns ds => simp only [ansP, e] at h
        | dead => simp only [ansP, e] at h
end
/-- a call's answer -/
def resP (M : List MO) : PR → Res D
  | .val t => .ok (.t t) M
  | .fresh us => .ok (.t (.lst us)) M
  | .exc x => .exc x M
  | .fail => .fail
def resM (M : List MO) : PR → Res D
  | .val t => .ok (.t t) M
  | .fresh us => .ok (.m M.length) (M ++ [.lst us])
  | .exc x => .exc x M
  | .fail => .fail
def gCallR (fp : List T → PR) (ds : List D) (M : List MO) : Res D := match frzL M ds with
  | some (ts, M2) => resP M2 (fp ts)
  | none => .fail
def gCallRM (fp : List T → PR) (ds : List D) (M : List MO) : Res D := match frzL M ds with
  | some (ts, M2) => resM M2 (fp ts)
  | none => .fail
theorem sp_callR {K : PySem.W.Frag} {cm : Str → Addr} {μ : Nat → Addr} {I H : Hp} {M : List MO} {fp : List T → PR} {ds : List D} {vs : List V} {Wx : XK} {Q : VK} (s : Sim K cm μ I M H) (ra : RepDL K cm μ I M.length ds vs)
    (p : Post K cm (RD K cm) μ I M H Wx (gCallR fp ds M) Q) : spR K cm fp vs H Q Wx := by
  unfold gCallR at p
  split at p
  · rename_i ts M2 e1
    obtain ⟨I2, st2, r2⟩ := frzL_ok s ra e1
    refine ⟨I2, ts, st2.sim.sub, r2, ?_⟩
    have p := p.step st2
    unfold resP at p
    cases q : fp ts with
    | val t => rw [q] at p; exact fun I' H' v st r => p μ I' H' v (st.step st2.sim) r
    | fresh us =>
      rw [q] at p
      intro I' H' a xs st n1 n2 h r
      have ex : Ex I' (upd I' a (.lst xs)) := Ex.new n2
      refine p μ (upd I' a (.lst xs)) H' (.ref a) (StepT.step (StepT.mk (st.ii.trans ex) (fun b o hb => ?_) st.hh (fun b o h1 h2 => ?_)) st2.sim) ?_
      · unfold upd at hb
        split at hb
        · rename_i q; cases hb; rw [q]; exact h
        · exact st.sub b o hb
      · rw [upd_ne (ne_of_none h1 n1)]; exact st.nf b o h1 h2
      · show RepT K cm _ (.lst us) (.ref a)
        unfold RepT
        exact ⟨a, xs, rfl, upd_same, RepTL.mono ex _ _ r⟩
    | exc x => rw [q] at p; exact fun I' H' e d st r => p μ I' H' e d (st.step st2.sim) r
    | fail => rw [q] at p; exact p.elim
  · exact p.elim
theorem sp_callRM {K : PySem.W.Frag} {cm : Str → Addr} {μ : Nat → Addr} {I H : Hp} {M : List MO} {fp : List T → PR} {ds : List D} {vs : List V} {Wx : XK} {Q : VK} (s : Sim K cm μ I M H) (ra : RepDL K cm μ I M.length ds vs)
    (p : Post K cm (RD K cm) μ I M H Wx (gCallRM fp ds M) Q) : spR K cm fp vs H Q Wx := by
  unfold gCallRM at p
  split at p
  · rename_i ts M2 e1
    obtain ⟨I2, st2, r2⟩ := frzL_ok s ra e1
    refine ⟨I2, ts, st2.sim.sub, r2, ?_⟩
    have p := p.step st2
    unfold resM at p
    cases q : fp ts with
    | val t => rw [q] at p; exact fun I' H' v st r => p μ I' H' v (st.step st2.sim) r
    | fresh us => rw [q] at p; exact fun I' H' a xs st n1 n2 h r => p.mnew st2.sim I' H' a xs st n1 n2 h r
    | exc x => rw [q] at p; exact fun I' H' e d st r => p μ I' H' e d (st.step st2.sim) r
    | fail => rw [q] at p; exact p.elim
  · exact p.elim
section
variable {X : Cx} {σ : L2.St} {E : XK}
theorem run_R {pins : List (Addr × Obj)} {H : Hp} {s : Shared} {k : Nat} {f : Addr} {sp : Sp} {Q : VK} {us : List Value} {vs : List V} (F : FnR X.prog X.w X.K X.mg X.base (L2.CX X.prog X.w) k f sp) (hr : Room k X.A) (hx : PassesAt (L2.CX X.prog X.w) X σ E)
    (I : Inv X pins σ H s) (r : Vals vs us) (h : sp vs H Q E) : wpAny (model X.prog X.w) X.A (call (.ref f) us) (EP X pins σ Q) X.xe s := by
  refine wpAny_call (codeAny_mono (F X.A X.stack s H us vs Q E hr I.env0 r h) fun r s' hq => ?_)
  cases r with
  | error e => exact hx pins H s e s' I hq
  | ok fl =>
    cases fl with
    | ret u => exact I.after hq
    | next => exact False.elim hq
    | brk => exact False.elim hq
    | cont => exact False.elim hq
end

section
variable {P : Program} {w : World} {K : PySem.W.Frag} {mg : Str → Option Value} {base : Heap} {x qual : Str} {st : Stmt} {f : Addr} {fd : FuncData} {N ps : List Str} {k : Nat}
/-- a def with a star, that reads trees -/
theorem fn_PS {n m : Nat} {pv : Str} {Fb : FS} (F : Fun K x qual st f fd) (S : FnScope N (ps ++ [pv]) (defScope st)) (hn : n = N.length) (hm : m = ps.length)
    (hb : ∀ (kV doc pm : Value) (an : Option Addr) (cdv ct : Value) (us rest : List Value), us.length = ps.length → bindArgs (PySem.W.fnOf x qual (defArgs st) (defBody st) (defScope st) .none kV doc pm an cdv ct) ⟨us ++ rest, []⟩ = (newTuple rest >>= fun t => pure (ps.zip us ++ [(pv, t)])))
    (hbody : ∀ (cdv : Value) (A : Around) (outer : List Env) (s : Shared) (H : Hp) (E : XK), Room k (A.deeper (envOfC qual (defScope st) s.heap.objs.size f cdv)) →
      DSs (cxOf (L2.CX P w) P w K mg base N qual (defScope st) f cdv A outer s H E) (fun e d _ H' => E e d H') (defBody st) Fb) : FnR P w K mg base (L2.CX P w) (k + 1) f (spR K (cmOf mg) (starF m (runP n Fb))) := by
  subst hm
  obtain ⟨oc, od, kV, doc, pm, an, cdv, ct, osl, rfl, lk, hcd⟩ := F.ex
  refine (StX.fn_star (sp := spR K (cmOf mg) (runP n Fb)) lk hcd S StX.cxUp (hb kV doc pm an cdv ct) fun A outer s H vs Q E hr h => ?_).imp fun vs H Q E ⟨I, ts, ex, r, h⟩ => ?_
  · obtain ⟨I, ts, ex, r, h⟩ := h
    exact body_P (N := N) (.inr trivial) hn rfl rfl (hbody cdv A outer s H E hr) ex r h
  · unfold starF at h
    by_cases hc : ps.length ≤ ts.length ∧ ts.length ≤ 16777216
    · rw [if_pos hc] at h
      have hl := r.length
      refine ⟨vs.take ps.length, vs.drop ps.length, (List.take_append_drop _ _).symm, by rw [List.length_take]; omega, by rw [sizeLine_eq, List.length_drop]; omega, fun p hp => ?_⟩
      have s2 : StepT I H (upd I p (.tup (vs.drop ps.length))) (upd H p (.tup (vs.drop ps.length))) := stepT_new ex hp
      refine ⟨_, ts.take ps.length ++ [.tup (ts.drop ps.length)], s2.sub, RepTL.append (RepTL.mono s2.ii _ _ (RepTL.take _ r)) (RepTL.cons ?_ RepTL.nil), ?_⟩
      · unfold RepT
        exact ⟨p, vs.drop ps.length, rfl, .inl upd_same, RepTL.mono s2.ii _ _ (RepTL.drop _ r)⟩
      · cases q : runP n Fb (ts.take ps.length ++ [.tup (ts.drop ps.length)]) with
        | val t => rw [q] at h; exact fun I' H' v st r => h I' H' v (s2.trans st) r
        | fresh us => rw [q] at h; exact fun I' H' a xs st n1 n2 h3 r => h I' H' a xs (s2.trans st) (s2.hh.free n1) n2 h3 r
        | exc x => rw [q] at h; exact fun I' H' e d st r => h I' H' e d (s2.trans st) r
        | fail => rw [q] at h; exact h.elim
    · rw [if_neg hc] at h
      exact h.elim
end
/-! ### instances -/
/-- is it an instance of the class c without the name m among its own -/
def isInsN (c m : Str) : D → Bool
  | .t (.ins c' ns _) => decide (c' = c) && !ns.contains m
  | _ => false
theorem insN_inv {K : PySem.W.Frag} {cm : Str → Addr} {μ : Nat → Addr} {I : Hp} {n : Nat} {c m : Str} {d : D} {v : V} (h : isInsN c m d = true) (r : RepD K cm μ I n d v) :
    ∃ a dx ns ts xs, d = .t (.ins c ns ts) ∧ v = .ref a ∧ I a = some (.ins (cm c) dx (ns.zip xs)) ∧ (ns.zip xs).lookup m = none ∧ ns.length = xs.length ∧ RepTL K cm I ts xs := by
  cases d with
  | m k => cases h
  | t t =>
    cases t with
    | ins c' ns ts =>
      simp only [isInsN, Bool.and_eq_true, decide_eq_true_eq, Bool.not_eq_true'] at h
      obtain ⟨rfl, h2⟩ := h
      have r : RepT K cm I (.ins c' ns ts) v := r
      unfold RepT at r
      obtain ⟨a, dx, xs, h3, h4, h5, h6⟩ := r
      refine ⟨a, dx, ns, ts, xs, rfl, h3, h4, ?_, h5, h6⟩
      rw [List.lookup_eq_none_iff]
      intro p hp
      have : p.1 ∈ ns := (List.of_mem_zip hp).1
      rw [bne_iff_ne]
      intro e
      have : ns.contains m = true := List.contains_iff_mem.mpr (by rw [e]; exact this)
      rw [this] at h2
      cases h2
    | _ => cases h
def eMeth (c m : Str) (fp : List T → PR) (fo : FE) (fs : Fn (List D)) : FE := fun sl M => (fo sl M).bind fun d M1 => if isInsN c m d then (fs sl M1).bind fun ds M2 => gCallR fp (d :: ds) M2 else .fail
def eMethM (c m : Str) (fp : List T → PR) (fo : FE) (fs : Fn (List D)) : FE := fun sl M => (fo sl M).bind fun d M1 => if isInsN c m d then (fs sl M1).bind fun ds M2 => gCallRM fp (d :: ds) M2 else .fail
section
variable {X : Cx} {W : WX} {c m : Str} {fp : List T → PR} {o e : Expr} {es : List Expr} {fo : FE} {fs : Fn (List D)} {f : Addr} {k : Nat} {apos pos : Pos} {pl : Sem Bool}
theorem de_meth (hc : Cls X.K (cmOf X.mg c)) (hm : Meth X.K (cmOf X.mg c) m f) (F : FnR X.prog X.w X.K X.mg X.base (L2.CX X.prog X.w) k f (spR X.K (cmOf X.mg) fp)) (hr : Room k X.A) (lt : Lets X W) (ho : DE X W o fo) (ha : DA X W (e :: es) fs)
    (hst : starEach (e :: es) X.env = (false, eval e X.env) :: starEach es X.env := by rfl) (hpl : (backTo pos (starEach es X.env)).any (·.1) = false := by rfl)
    (ht : eval (.Call (.Attribute o m apos) (e :: es) [] pos) X.env = (do
      let ov ← eval o X.env
      standAt apos.atName
      let (f, first) ← holding [ov] (getMethod ov m pl)
      callWith pos f first (backTo pos (starEach (e :: es) X.env)) (backToKw pos (keywordEach [] X.env))) := by rfl) :
    DE X W (.Call (.Attribute o m apos) (e :: es) [] pos) (eMeth c m fp fo fs) := by
  refine ⟨fun pins s σ H Q I h => ?_⟩
  obtain ⟨μ, I0, sl, M, s0, rs, p⟩ := h
  refine PySem.W.methodCall_KW (pl := pl) (thn (ho.run pins s σ H _ I ⟨μ, I0, sl, M, s0, rs, Post.bind (R := RD X.K (cmOf X.mg)) p⟩) fun u s1 ⟨x, H1, I1, rx, μ1, I01, M1, d, st, ra, p1⟩ => ?_) ht
  split at p1
  · rename_i hi
    obtain ⟨a, dx, ns, ts, xs, rfl, rfl, hA, hl, h5, h6⟩ := insN_inv hi ra
    obtain rfl : u = Value.ref a := rx
    refine getmeth_ok I1 (st.sim.sub _ _ hA) hc hm hl ?_
    refine PySem.W.callWith_K (first := [.ref a]) (h₀ := X.base) I1.ok.mod.kin hm.kp (thn (ha.run pos pins s1 σ H1 _ I1 ⟨μ1, I01, sl, M1, st.sim, rs.mono st.gr, Post.bind (R := RL X.K (cmOf X.mg)) p1⟩) fun us s2 ⟨vs, H2, I2, r, μ2, I02, M2, ds, st2, rr, p2⟩ => ⟨I2.kIn, ?_⟩) hst hpl
    exact run_R (us := .ref a :: us) (vs := .ref a :: vs) F hr (lt σ) I2 (.cons rfl r) (sp_callR st2.sim (RepDL.cons (RepD.mono st2.gr ra) rr) p2)
  · exact p1.elim
theorem de_meth0 (hc : Cls X.K (cmOf X.mg c)) (hm : Meth X.K (cmOf X.mg c) m f) (F : FnR X.prog X.w X.K X.mg X.base (L2.CX X.prog X.w) k f (spR X.K (cmOf X.mg) fp)) (hr : Room k X.A) (lt : Lets X W) (ho : DE X W o fo)
    (ht : eval (.Call (.Attribute o m apos) [] [] pos) X.env = (do
      let ov ← eval o X.env
      standAt apos.atName
      let (f, first) ← holding [ov] (getMethod ov m pl)
      callWith pos f first (backTo pos (starEach [] X.env)) (backToKw pos (keywordEach [] X.env))) := by rfl) :
    DE X W (.Call (.Attribute o m apos) [] [] pos) (eMeth c m fp fo aNil) := by
  refine ⟨fun pins s σ H Q I h => ?_⟩
  obtain ⟨μ, I0, sl, M, s0, rs, p⟩ := h
  refine PySem.W.methodCall_KW (pl := pl) (thn (ho.run pins s σ H _ I ⟨μ, I0, sl, M, s0, rs, Post.bind (R := RD X.K (cmOf X.mg)) p⟩) fun u s1 ⟨x, H1, I1, rx, μ1, I01, M1, d, st, ra, p1⟩ => ?_) ht
  split at p1
  · rename_i hi
    obtain ⟨a, dx, ns, ts, xs, rfl, rfl, hA, hl, h5, h6⟩ := insN_inv hi ra
    obtain rfl : u = Value.ref a := rx
    refine getmeth_ok I1 (st.sim.sub _ _ hA) hc hm hl ?_
    exact PySem.W.callWith_K0 (first := [.ref a]) I1.kIn hm.kp (run_R (us := [.ref a]) (vs := [.ref a]) F hr (lt σ) I1 (.cons rfl .nil) (sp_callR st.sim (RepDL.cons ra RepDL.nil) p1))
  · exact p1.elim
theorem de_meth0M (hc : Cls X.K (cmOf X.mg c)) (hm : Meth X.K (cmOf X.mg c) m f) (F : FnR X.prog X.w X.K X.mg X.base (L2.CX X.prog X.w) k f (spR X.K (cmOf X.mg) fp)) (hr : Room k X.A) (lt : Lets X W) (ho : DE X W o fo)
    (ht : eval (.Call (.Attribute o m apos) [] [] pos) X.env = (do
      let ov ← eval o X.env
      standAt apos.atName
      let (f, first) ← holding [ov] (getMethod ov m pl)
      callWith pos f first (backTo pos (starEach [] X.env)) (backToKw pos (keywordEach [] X.env))) := by rfl) :
    DE X W (.Call (.Attribute o m apos) [] [] pos) (eMethM c m fp fo aNil) := by
  refine ⟨fun pins s σ H Q I h => ?_⟩
  obtain ⟨μ, I0, sl, M, s0, rs, p⟩ := h
  refine PySem.W.methodCall_KW (pl := pl) (thn (ho.run pins s σ H _ I ⟨μ, I0, sl, M, s0, rs, Post.bind (R := RD X.K (cmOf X.mg)) p⟩) fun u s1 ⟨x, H1, I1, rx, μ1, I01, M1, d, st, ra, p1⟩ => ?_) ht
  split at p1
  · rename_i hi
    obtain ⟨a, dx, ns, ts, xs, rfl, rfl, hA, hl, h5, h6⟩ := insN_inv hi ra
    obtain rfl : u = Value.ref a := rx
    refine getmeth_ok I1 (st.sim.sub _ _ hA) hc hm hl ?_
    exact PySem.W.callWith_K0 (first := [.ref a]) I1.kIn hm.kp (run_R (us := [.ref a]) (vs := [.ref a]) F hr (lt σ) I1 (.cons rfl .nil) (sp_callRM st.sim (RepDL.cons ra RepDL.nil) p1))
  · exact p1.elim
end
end Bm

/-! Own classes: fields, properties, static methods, constants of the class. -/
namespace Bm
open PySem L2 PyProof.Rows
/-- a field of an instance -/
def fldOf (f : Str) : List Str → List T → Option T
  | n :: ns, t :: ts => if f = n then some t else fldOf f ns ts
  | _, _ => none
def gFld (c f : Str) (d : D) (M : List MO) : Res D := match d with
  | .t (.ins c' ns ts) => if c' = c then (match fldOf f ns ts with
    | some t => .ok (.t t) M
    | none => .fail) else .fail
  | _ => .fail
def eFld (c f : Str) (fo : FE) : FE := fun sl M => (fo sl M).bind (gFld c f)
theorem fld_rep {K : PySem.W.Frag} {cm : Str → Addr} {I : Hp} {f : Str} : ∀ {ns : List Str} {ts : List T} {xs : List V} {t : T}, RepTL K cm I ts xs → fldOf f ns ts = some t → ∃ x, (ns.zip xs).lookup f = some x ∧ RepT K cm I t x
  | [], ts, xs, t, r, h => by cases h
  | n :: ns, [], xs, t, r, h => by cases h
  | n :: ns, u :: ts, xs, t, r, h => by
    obtain ⟨x, xs', rfl, r1, r2⟩ := inv_cons r
    unfold fldOf at h
    rw [List.zip_cons_cons]
    by_cases e : f = n
    · rw [if_pos e] at h
      cases h
      subst e
      exact ⟨x, by rw [List.lookup_cons_self], r1⟩
    · rw [if_neg e] at h
      obtain ⟨y, h1, h2⟩ := fld_rep r2 h
      refine ⟨y, ?_, h2⟩
      rw [List.lookup_cons]
      have : (f == n) = false := by simpa using e
      rw [this]
      exact h1
section
variable {X : Cx} {W : WX} {c m f : Str} {fp : List T → PR} {o e : Expr} {es : List Expr} {fo : FE} {fs : Fn (List D)} {k : Nat} {apos pos : Pos} {pl : Sem Bool}
theorem de_fld (hc : Cls X.K (cmOf X.mg c)) (hn : NoAttr X.K (cmOf X.mg c) f) (ho : DE X W o fo) (hb : attributeBase o f X.env (eval o X.env) = eval o X.env := by rfl) : DE X W (.Attribute o f pos) (eFld c f fo) :=
  (pe_fld ho hb).imp fun σ H Q ⟨μ, I, sl, M, s, rs, p⟩ => ⟨μ, I, sl, M, s, rs, (Post.bind (R := RD X.K (cmOf X.mg)) p).imp fun x H1 ⟨μ1, I1, M1, d, st, ra, p1⟩ => by
    unfold gFld at p1
    split at p1
    · rename_i c' ns ts
      split at p1
      · rename_i hcc
        subst hcc
        split at p1
        · rename_i t ht
          have r : RepT X.K (cmOf X.mg) I1 (.ins c' ns ts) x := ra
          unfold RepT at r
          obtain ⟨a, dx, xs, rfl, h4, h5, h6⟩ := r
          obtain ⟨y, h7, h8⟩ := fld_rep h6 ht
          exact ⟨a, _, dx, _, y, rfl, st.sim.sub _ _ h4, hc, hn, h7, p1 μ1 I1 H1 y (Step.refl st.sim) h8⟩
        · exact p1.elim
      · exact p1.elim
    · exact p1.elim⟩
/-- a property: its getter's promise, which raises nothing -/
def ePro (c : Str) (fp : List T → PR) (fo : FE) : FE := fun sl M => (fo sl M).bind fun d M1 => if isInsN c "" d then (match gCallR fp [d] M1 with
  | .ok a M2 => .ok a M2
  | _ => .fail) else .fail
theorem de_prop {p g : Addr} {fd : FuncData} {ps : List Str} (hc : Cls X.K (cmOf X.mg c)) (hp : PropOf X.K (cmOf X.mg c) f p g) (F : FnOk X.prog X.w X.K X.mg X.base (L2.CX X.prog X.w) k g fd ps (spP X.K (cmOf X.mg) 1 fp)) (hr : Room (k + 1) X.A) (hb : Binds X.K fd ps []) (hx : Passes (L2.CX X.prog X.w) X.nox (fun _ _ _ => False))
    (ho : DE X W o fo) (hab : attributeBase o f X.env (eval o X.env) = eval o X.env := by rfl) : DE X W (.Attribute o f pos) (ePro c fp fo) :=
  (pe_prop (sp := spP X.K (cmOf X.mg) 1 fp) (E := fun _ _ _ => False) (dvs := []) ho hc hp F hr hb .nil hx hab).imp fun σ H Q ⟨μ, I, sl, M, s, rs, p⟩ => ⟨μ, I, sl, M, s, rs, (Post.bind (R := RD X.K (cmOf X.mg)) p).imp fun x H1 ⟨μ1, I1, M1, d, st, ra, p1⟩ => by
    split at p1
    · rename_i hi
      obtain ⟨a, dx, ns, ts, xs, rfl, rfl, hA, hl, h5, h6⟩ := insN_inv hi ra
      refine ⟨a, dx, _, rfl, st.sim.sub _ _ hA, ?_⟩
      refine sp_call (M := M1) (ds := [.t (.ins c ns ts)]) st.sim (RepDL.cons ra RepDL.nil) ?_
      have e1 : frzL M1 [.t (.ins c ns ts)] = some ([.ins c ns ts], M1) := rfl
      unfold gCallR at p1
      rw [e1] at p1 ⊢
      show Post _ _ _ _ _ _ _ _ (if 1 = 1 then _ else _) _
      rw [if_pos rfl]
      cases q : fp [.ins c ns ts] with
      | val t => simp only [resP, q] at p1; exact p1
      | fresh us => simp only [resP, q] at p1; exact p1
      | exc x => simp only [resP, q] at p1; exact p1.elim
      | fail => simp only [resP, q] at p1; exact p1.elim
    · exact p1.elim⟩
/-- a static method: its record at p, its def at g -/
structure SMet (K : PySem.W.Frag) (C : Addr) (mc : Value) (m : Str) (p g : Addr) : Prop where
  at_ : PySem.W.findCls K (.ref C) mc m = some (.get (.builtin "staticmethod.__get__") (.ref p) .none (.ref C))
  rc : ∃ rest, PySem.W.recIn K p "staticmethod" = some (.ref g :: rest)
  kp : PySem.W.keepIn K (.ref g) = true
theorem getmethsm_ok {pins : List (Addr × Obj)} {σ : L2.St} {H : Hp} {s : Shared} {C p g : Addr} {mc : Value} {A : Around} {E : Value → Shared → Prop} {Q : Value × List Value → Shared → Prop} (I : Inv X pins σ H s) (r : ClX.CRead X.K C mc) (k : SMet X.K C mc m p g)
    (h : ∀ s', Inv X pins σ H s' → Q (.ref g, []) s') : wpAny (model X.prog X.w) A (getMethod (.ref C) m pl) Q E s := by
  obtain ⟨rest, hp⟩ := k.rc
  refine PySem.W.method_cls I.kIn r.ga ?_
  refine PySem.W.cls_bind I.kIn r.rd k.at_ ?_
  exact wpAny_call (PySem.W.sm_get (s := { s with toks := s.toks + 1 }) I.kIn hp (PySem.W.handed_on rfl (h _ (I.tok _))))
def eStat (fp : List T → PR) (fs : Fn (List D)) : FE := fun sl M => (fs sl M).bind (gCallR fp)
theorem de_stat {x : Str} {p g : Addr} {mc : Value} {np : Pos} (hg : Gl X x) (hmg : X.mg x = some (.ref (cmOf X.mg c))) (r : ClX.CRead X.K (cmOf X.mg c) mc) (sm : SMet X.K (cmOf X.mg c) mc m p g) (F : FnR X.prog X.w X.K X.mg X.base (L2.CX X.prog X.w) k g (spR X.K (cmOf X.mg) fp)) (hr : Room k X.A) (lt : Lets X W) (ha : DA X W (e :: es) fs)
    (hd : (x == ("__debug__" : Str)) = false := by decide)
    (hst : starEach (e :: es) X.env = (false, eval e X.env) :: starEach es X.env := by rfl) (hpl : (backTo pos (starEach es X.env)).any (·.1) = false := by rfl)
    (ht : eval (.Call (.Attribute (.Name x np) m apos) (e :: es) [] pos) X.env = (do
      let ov ← eval (.Name x np) X.env
      standAt apos.atName
      let (f, first) ← holding [ov] (getMethod ov m pl)
      callWith pos f first (backTo pos (starEach (e :: es) X.env)) (backToKw pos (keywordEach [] X.env))) := by rfl) :
    DE X W (.Call (.Attribute (.Name x np) m apos) (e :: es) [] pos) (eStat fp fs) := by
  refine ⟨fun pins s σ H Q I h => ?_⟩
  obtain ⟨μ, I0, sl, M, s0, rs, p⟩ := h
  have hN : DE X W (.Name x np) (eC (.glo (cmOf X.mg c))) := de_glob (v := .ref (cmOf X.mg c)) hg hmg rfl (fun I => by unfold RepT; rfl) hd
  refine PySem.W.methodCall_KW (pl := pl) (thn (hN.run pins s σ H (fun x H' => x = .ref (cmOf X.mg c) ∧ ∃ μ1 I1, Sim X.K (cmOf X.mg) μ1 I1 M H' ∧ RepS X.K (cmOf X.mg) μ1 I1 M.length sl σ ∧ Post X.K (cmOf X.mg) (RD X.K (cmOf X.mg)) μ1 I1 M H' (fun e d H' => W e d σ H') (eStat fp fs sl M) Q) I
    ⟨μ, I0, sl, M, s0, rs, fun μ1 I1 H1 b st rb => ⟨by have := rb; unfold RD RepD RepT at this; exact this, μ1, I1, st.sim, rs.mono st.gr, p.step st⟩⟩) fun u s1 ⟨x1, H1, I1, rx, ex, μ1, I01, sm1, rs1, p1⟩ => ?_) ht
  subst ex
  obtain rfl : u = Value.ref (cmOf X.mg c) := rx
  refine getmethsm_ok I1 r sm fun s2 I2 => ?_
  refine PySem.W.callWith_K (first := []) (h₀ := X.base) I2.ok.mod.kin sm.kp (thn (ha.run pos pins s2 σ H1 _ I2 ⟨μ1, I01, sl, M, sm1, rs1, Post.bind (R := RL X.K (cmOf X.mg)) p1⟩) fun us s3 ⟨vs, H2, I3, rv, μ2, I02, M2, ds, st2, rr, p2⟩ => ⟨I3.kIn, ?_⟩) hst hpl
  exact run_R (us := us) (vs := vs) F hr (lt σ) I3 rv (sp_callR st2.sim rr p2)
/-- a constant of the class, read off it -/
theorem de_cval {x f : Str} {np : Pos} {mc : Value} {v : V} {u : Value} {t : T} (hg : Gl X x) (hmg : X.mg x = some (.ref (cmOf X.mg c))) (r : ClX.CRead X.K (cmOf X.mg c) mc) (cv : ClX.CVal X.K (cmOf X.mg c) mc f v u) (ht : ∀ I, RepT X.K (cmOf X.mg) I t v)
    (hd : (x == ("__debug__" : Str)) = false := by decide) (hb : attributeBase (.Name x np) f X.env (eval (.Name x np) X.env) = eval (.Name x np) X.env := by rfl) : DE X W (.Attribute (.Name x np) f pos) (eC t) := by
  have hN : DE X W (.Name x np) (eC (.glo (cmOf X.mg c))) := de_glob (v := .ref (cmOf X.mg c)) hg hmg rfl (fun I => by unfold RepT; rfl) hd
  refine (ClX.pe_cval hN hb).imp fun σ H Q ⟨μ, I, sl, M, s, rs, p⟩ => ⟨μ, I, sl, M, s, rs, fun μ1 I1 H1 b st rb => ?_⟩
  have eb : b = .ref (cmOf X.mg c) := by have := rb; unfold RD RepD RepT at this; exact this
  exact ⟨cmOf X.mg c, mc, v, u, eb, r, cv, p μ1 I1 H1 v st (ht I1)⟩
end
end Bm

/-! Own classes: instances made by an own __init__. -/
namespace Bm
open PySem L2 PyProof.Rows
def insP (f : Str) (d : D) : List Str → List D → List Str × List D
  | n :: ns, e :: ds => if n = f then (n :: ns, d :: ds) else (n :: (insP f d ns ds).1, e :: (insP f d ns ds).2)
  | _, _ => ([f], [d])
theorem insP_rep {K : PySem.W.Frag} {cm : Str → Addr} {μ : Nat → Addr} {I : Hp} {n : Nat} {f : Str} {d : D} {v : V} (rd : RepD K cm μ I n d v) : ∀ {ns : List Str} {ds : List D} {xs : List V}, ns.length = xs.length → RepDL K cm μ I n ds xs →
    ∃ ys, putF f v (ns.zip xs) = (insP f d ns ds).1.zip ys ∧ (insP f d ns ds).1.length = ys.length ∧ RepDL K cm μ I n (insP f d ns ds).2 ys
  | [], ds, xs, hl, r => by
    have : xs = [] := List.length_eq_zero_iff.mp hl.symm
    subst this
    exact ⟨[v], rfl, rfl, RepDL.cons rd RepDL.nil⟩
  | g :: ns, [], xs, hl, r => by
    have : xs = [] := by unfold RepDL at r; exact r
    subst this
    cases hl
  | g :: ns, e :: ds, xs, hl, r => by
    unfold RepDL at r
    obtain ⟨x, xs', rfl, r1, r2⟩ := r
    have hl' : ns.length = xs'.length := by simpa using hl
    unfold insP
    rw [List.zip_cons_cons]
    show ∃ ys, (if g = f then (g, v) :: ns.zip xs' else (g, x) :: putF f v (ns.zip xs')) = _ ∧ _
    by_cases h : g = f
    · rw [if_pos h, if_pos h]
      exact ⟨v :: xs', rfl, by simp [hl'], RepDL.cons rd r2⟩
    · rw [if_neg h, if_neg h]
      obtain ⟨ys, h1, h2, h3⟩ := insP_rep rd hl' r2
      exact ⟨x :: ys, by rw [h1]; rfl, by simp [h2], RepDL.cons r1 h3⟩
theorem mset_ins {K : PySem.W.Frag} {cm : Str → Addr} {μ : Nat → Addr} {I H : Hp} {M : List MO} {k : Nat} {c : Str} {ns ns' : List Str} {ds ds' : List D} {dx : Addr} {ys : List V} (s : Sim K cm μ I M H) (e : M[k]? = some (.ins c ns ds)) (hl : ns'.length = ys.length) (r : RepDL K cm μ I M.length ds' ys) :
    Step K cm μ I M H μ I (M.set k (.ins c ns' ds')) (upd H (μ k) (.ins (cm c) dx (ns'.zip ys))) := by
  have hk : k < M.length := (List.getElem?_eq_some_iff.mp e).1
  obtain ⟨hI, dx0, xs, hH, _, _⟩ := s.obj k _ e
  have nI : ∀ a o, I a = some o → a ≠ μ k := fun a o h q => by rw [q, hI] at h; cases h
  refine ⟨⟨fun _ _ => rfl, by simp, Ex.refl _⟩, ⟨fun a o h => by rw [upd_ne (nI a o h)]; exact s.sub a o h, by simpa using s.inj, fun j hj => ?_, fun j o ej => ?_⟩, fun a o h nk => by rw [upd_ne (nk k hk)]; exact h, fun _ _ _ h _ => h, fun j h1 h2 => by simp at h2; omega⟩
  · simp at hj
    by_cases q : μ j = μ k
    · exact ⟨_, by rw [q]; exact upd_same⟩
    · obtain ⟨o, h⟩ := s.tr j hj
      exact ⟨o, by rw [upd_ne q]; exact h⟩
  · by_cases hj : k = j
    · subst hj
      rw [List.getElem?_set_self hk] at ej
      cases ej
      rw [List.length_set]
      exact ⟨hI, dx, ys, upd_same, hl, r⟩
    · rw [List.getElem?_set_ne hj] at ej
      have hjl : j < M.length := (List.getElem?_eq_some_iff.mp ej).1
      have nm : μ j ≠ μ k := fun q => hj (s.inj k j hk hjl q.symm)
      have q := s.obj j o ej
      rw [List.length_set]
      cases o with
      | lst us =>
        obtain ⟨q1, zs, q2, q3⟩ := q
        exact ⟨q1, zs, by rw [upd_ne nm]; exact q2, q3⟩
      | ins cl ns ds =>
        obtain ⟨q1, dx, zs, q2, q3, q4⟩ := q
        exact ⟨q1, dx, zs, by rw [upd_ne nm]; exact q2, q3, q4⟩
      | frz w => exact q
      | dead => exact q
/-- o.f = d, o an instance of the store -/
def sFldM (c f : Str) (fo fv : FE) : FS := fun sl M => (fv sl M).toS sl fun d M1 => (fo sl M1).toS sl fun o M2 => match o with
  | .m k => (match (M2[k]? : Option MO) with
    | some (.ins c' ns ds) => if c' = c ∧ ns.length < 1000 then .nx sl (M2.set k (.ins c (insP f d ns ds).1 (insP f d ns ds).2)) else .fail
    | _ => .fail)
  | _ => .fail
section
variable {X : Cx} {W : WX} {c f : Str} {o e : Expr} {fo fv : FE} {pos p' : Pos}
theorem ds_fld (hc : Cls X.K (cmOf X.mg c)) (hn : NoAttr X.K (cmOf X.mg c) f) (ho : DE X W o fo) (hv : DE X W e fv) (hs : swapsWith e (some (.Attribute o f p')) pos.line X.env = pure false := by rfl) : DS X W (.Assign [.Attribute o f p'] e pos) (sFldM c f fo fv) :=
  (ps_fld ho hv hs).imp fun Z σ H ⟨μ, I, sl, M, s, rs, p⟩ => ⟨μ, I, sl, M, s, rs, (PostS.bind (R := RD X.K (cmOf X.mg)) p rs).imp fun y H1 ⟨μ1, I1, M1, d, st, ra, p1⟩ =>
    ⟨μ1, I1, sl, M1, st.sim, rs.mono st.gr, (PostS.bind (R := RD X.K (cmOf X.mg)) p1 (rs.mono st.gr)).imp fun x H2 ⟨μ2, I2, M2, o', st2, rb, p2⟩ => by
      split at p2
      · rename_i k
        split at p2
        · rename_i c' ns ds e1
          split at p2
          · rename_i hq
            obtain ⟨rfl, hlt⟩ := hq
            obtain ⟨hk, rfl⟩ := rb
            obtain ⟨hI, dx, xs, hH, hl, hr⟩ := st2.sim.obj k _ e1
            obtain ⟨ys, h1, h2, h3⟩ := insP_rep (RepD.mono st2.gr ra) hl hr
            refine ⟨μ2 k, _, dx, _, rfl, hH, hc, hn, by rw [List.length_zip, hl, Nat.min_self, ← hl]; exact hlt, ?_⟩
            rw [h1]
            have st3 := mset_ins (dx := dx) st2.sim e1 h2 h3
            exact p2 μ2 I2 _ σ st3 ((rs.mono st.gr).mono (st2.gr.trans st3.gr))
          · exact p2.elim
        · exact p2.elim
      · exact p2.elim⟩⟩
end

/-! ### __init__ -/
inductive IR where
  | made (ns : List Str) (ts : List T) | exc (x : Xn) | fail
structure StepN (I H : Hp) (a : Addr) (I' H' : Hp) : Prop where
  ii : Ex I I'
  sub : Ex I' H'
  fr : ∀ c o, H c = some o → c ≠ a → H' c = some o
  nf : ∀ c o, H c = some o → I c = none → c ≠ a → I' c = none
/-- an __init__ that reads trees and fills the new instance -/
def spI (K : PySem.W.Frag) (cm : Str → Addr) (c : Str) (f : List T → IR) : Sp := fun vs H Q E => ∃ I x dx us ts, Ex I H ∧ vs = .ref x :: us ∧ I x = none ∧ H x = some (.ins (cm c) dx []) ∧ RepTL K cm I ts us ∧ (match f ts with
  | .made ns tt => ∀ I' H' dx' xs, StepN I H x I' H' → I' x = none → H' x = some (.ins (cm c) dx' (ns.zip xs)) → ns.length = xs.length → RepTL K cm I' tt xs → Q .non H'
  | .exc e => ∀ I' H' w d, StepN I H x I' H' → RepX K cm I' H' e w d → E w d H'
  | .fail => False)
def ansI (c : Str) (r : SRes) : IR := match r with
  | .nx _ M => (match (M[0]? : Option MO) with
    | some (.ins c' ns ds) => (match allT ds with
      | some tt => if c' = c then .made ns tt else .fail
      | none => .fail)
    | _ => .fail)
  | .exc x _ _ => .exc x
  | _ => .fail
def runI (n : Nat) (c : Str) (F : FS) (ts : List T) : IR := ansI c (F (start' n (.m 0 :: ts.map D.t)) [.ins c [] []])
theorem sim_ins {K : PySem.W.Frag} {cm : Str → Addr} {I H : Hp} {a dx : Addr} {c : Str} (s : Ex I H) (hI : I a = none) (hH : H a = some (.ins (cm c) dx [])) : Sim K cm (fun _ => a) I [.ins c [] []] H :=
  ⟨s, fun i j hi hj _ => by simp at hi hj; omega, fun k hk => ⟨_, hH⟩, fun k o e => by
    have hk : k = 0 := by
      have := (List.getElem?_eq_some_iff.mp e).1
      simp at this; exact this
    subst hk
    simp at e
    subst e
    exact ⟨hI, dx, [], hH, rfl, RepDL.nil⟩⟩
theorem Step.n {K : PySem.W.Frag} {cm : Str → Addr} {μ' : Nat → Addr} {I I' H H' : Hp} {M' : List MO} {a : Addr} {c : Str} (st : Step K cm (fun _ => a) I [.ins c [] []] H μ' I' M' H') : StepN I H a I' H' :=
  ⟨st.gr.ex, st.sim.sub, fun c o h n => st.fr c o h (fun k _ => n), fun c o h n1 n2 => st.nf c o h n1 (fun k _ => n2)⟩
theorem allT_rep {K : PySem.W.Frag} {cm : Str → Addr} {μ : Nat → Addr} {I : Hp} {n : Nat} : ∀ {ds : List D} {xs : List V} {ts : List T}, allT ds = some ts → RepDL K cm μ I n ds xs → RepTL K cm I ts xs
  | [], xs, ts, h, r => by
    cases h
    unfold RepDL at r; subst r; exact RepTL.nil
  | .m k :: ds, xs, ts, h, r => by simp [allT] at h
  | .t t :: ds, xs, ts, h, r => by
    unfold RepDL at r
    obtain ⟨x, xs', rfl, r1, r2⟩ := r
    cases e : allT ds with
    | none => simp [allT, e] at h
    | some us =>
      simp [allT, e] at h
      subst h
      exact RepTL.cons r1 (allT_rep e r2)
section
variable {P : Program} {w : World} {K : PySem.W.Frag} {mg : Str → Option Value} {base : Heap} {x qual : Str} {st : Stmt} {f : Addr} {fd : FuncData} {N ps : List Str} {k : Nat}
theorem body_I {n : Nat} {c : Str} {Fb : FS} {X : Cx} {E : XK} {H : Hp} {Q : VK} {body : List Stmt} {vs : List V} (hn : n = N.length) (hb : DSs X (fun e d _ H' => E e d H') body Fb) (h : spI X.K (cmOf X.mg) c (runI n c Fb) vs H Q E) :
    ∃ t, PSs X body t ∧ t { nx := fun _ H' => Q .non H', rt := Q } (L2.start N vs) H := by
  refine ⟨_, hb, ?_⟩
  obtain ⟨I, a, dx, us, ts, ex, rfl, nI, hH, r, h⟩ := h
  refine ⟨fun _ => a, I, start' n (.m 0 :: ts.map D.t), [.ins c [] []], sim_ins ex nI hH, start_rep hn (RepDL.cons ⟨by simp, rfl⟩ (repDL_ofT r)), ?_⟩
  unfold runI at h
  cases q : Fb (start' n (.m 0 :: ts.map D.t)) [.ins c [] []] with
  | nx z M1 =>
    rw [q] at h
    intro μ' I' H' σ' st _
    cases e : M1[0]? with
    | none => simp only [ansI, e] at h
    | some o =>
      cases o with
      | ins c' ns ds =>
        cases e2 : allT ds with
        | none => simp only [ansI, e, e2] at h
        | some tt =>
          by_cases hc : c' = c
          · subst hc
            simp only [ansI, e, e2, if_true] at h
            have e0 : μ' 0 = a := st.gr.ag 0 (by simp)
            obtain ⟨h1, dx', xs, h2, h3, h4⟩ := st.sim.obj 0 _ e
            rw [e0] at h1 h2
            exact h I' H' dx' xs st.n h1 h2 h3 (allT_rep e2 h4)
          · simp only [ansI, e, e2, if_neg hc] at h
      | lst us => simp only [ansI, e] at h
      | frz t => simp only [ansI, e] at h
      | dead => simp only [ansI, e] at h
  | bk z M1 => rw [q] at h; exact h.elim
  | ct z M1 => rw [q] at h; exact h.elim
  | fail => rw [q] at h; exact h.elim
  | rt d M1 => rw [q] at h; exact h.elim
  | exc x z M1 =>
    rw [q] at h
    exact fun μ' I' H' σ' e d st _ rx => h I' H' e d st.n rx
def manyI (n : Nat) (f : List T → IR) : List T → IR := fun ts => if ts.length = n then f ts else .fail
theorem fn_I {n m : Nat} {c : Str} {Fb : FS} (F : Fun K x qual st f fd) (S : FnScope N ps (defScope st)) (hn : n = N.length) (hm : m + 1 = ps.length) (hbd : Binds K fd ps [])
    (hbody : ∀ (cdv : Value) (A : Around) (outer : List Env) (s : Shared) (H : Hp) (E : XK), Room k (A.deeper (envOfC qual (defScope st) s.heap.objs.size f cdv)) →
      DSs (cxOf (L2.CX P w) P w K mg base N qual (defScope st) f cdv A outer s H E) (fun e d _ H' => E e d H') (defBody st) Fb) : FnR P w K mg base (L2.CX P w) (k + 1) f (spI K (cmOf mg) c (manyI m (runI n c Fb))) := by
  have hlen : ∀ vs H Q E, spI K (cmOf mg) c (manyI m (runI n c Fb)) vs H Q E → vs.length = ps.length := fun vs H Q E ⟨I, a, dx, us, ts, ex, ev, nI, hH, r, h⟩ => by
    unfold manyI at h
    by_cases hc : ts.length = m
    · rw [ev, List.length_cons, ← r.length, hc, hm]
    · rw [if_neg hc] at h; exact h.elim
  have F1 : FnOk P w K mg base (L2.CX P w) (k + 1) f fd ps (spI K (cmOf mg) c (manyI m (runI n c Fb))) := F.okX S hlen fun cdv A outer s H vs Q E hr h => by
    refine body_I (N := N) (c := c) hn (hbody cdv A outer s H E hr) ?_
    obtain ⟨I, a, dx, us, ts, ex, ev, nI, hH, r, h⟩ := h
    refine ⟨I, a, dx, us, ts, ex, ev, nI, hH, r, ?_⟩
    unfold manyI at h
    by_cases hc : ts.length = m
    · rw [if_pos hc] at h; exact h
    · rw [if_neg hc] at h; exact h.elim
  exact (F1.raw hbd .nil).imp fun vs H Q E h => by rw [List.append_nil]; exact h
/-- .. with a star behind self and m parameters -/
def starI (m : Nat) (f : List T → IR) : List T → IR := fun ts => if m ≤ ts.length ∧ ts.length ≤ 16777216 then f (ts.take m ++ [.tup (ts.drop m)]) else .fail
theorem fn_IS {n m : Nat} {c pv : Str} {Fb : FS} (F : Fun K x qual st f fd) (S : FnScope N (ps ++ [pv]) (defScope st)) (hn : n = N.length) (hm : m + 1 = ps.length)
    (hb : ∀ (kV doc pm : Value) (an : Option Addr) (cdv ct : Value) (us rest : List Value), us.length = ps.length → bindArgs (PySem.W.fnOf x qual (defArgs st) (defBody st) (defScope st) .none kV doc pm an cdv ct) ⟨us ++ rest, []⟩ = (newTuple rest >>= fun t => pure (ps.zip us ++ [(pv, t)])))
    (hbody : ∀ (cdv : Value) (A : Around) (outer : List Env) (s : Shared) (H : Hp) (E : XK), Room k (A.deeper (envOfC qual (defScope st) s.heap.objs.size f cdv)) →
      DSs (cxOf (L2.CX P w) P w K mg base N qual (defScope st) f cdv A outer s H E) (fun e d _ H' => E e d H') (defBody st) Fb) : FnR P w K mg base (L2.CX P w) (k + 1) f (spI K (cmOf mg) c (starI m (runI n c Fb))) := by
  obtain ⟨oc, od, kV, doc, pm, an, cdv, ct, osl, rfl, lk, hcd⟩ := F.ex
  refine (StX.fn_star (sp := spI K (cmOf mg) c (runI n c Fb)) lk hcd S StX.cxUp (hb kV doc pm an cdv ct) fun A outer s H vs Q E hr h => body_I (N := N) hn (hbody cdv A outer s H E hr) h).imp fun vs H Q E ⟨I, a, dx, us, ts, ex, ev, nI, hH, r, h⟩ => ?_
  unfold starI at h
  by_cases hc : m ≤ ts.length ∧ ts.length ≤ 16777216
  · rw [if_pos hc] at h
    have hl := r.length
    subst ev
    refine ⟨.ref a :: us.take m, us.drop m, by rw [List.cons_append, List.take_append_drop], by rw [List.length_cons, List.length_take]; omega, by rw [sizeLine_eq, List.length_drop]; omega, fun p hp => ?_⟩
    have hpa : a ≠ p := fun q => by rw [q, hp] at hH; cases hH
    have s2 : StepT I H (upd I p (.tup (us.drop m))) (upd H p (.tup (us.drop m))) := stepT_new ex hp
    refine ⟨_, a, dx, us.take m ++ [.ref p], ts.take m ++ [.tup (ts.drop m)], s2.sub, rfl, by rw [upd_ne hpa]; exact nI, by rw [upd_ne hpa]; exact hH, RepTL.append (RepTL.mono s2.ii _ _ (RepTL.take _ r)) (RepTL.cons ?_ RepTL.nil), ?_⟩
    · unfold RepT
      exact ⟨p, us.drop m, rfl, .inl upd_same, RepTL.mono s2.ii _ _ (RepTL.drop _ r)⟩
    · have tr : ∀ {I' H' : Hp}, StepN (upd I p (.tup (us.drop m))) (upd H p (.tup (us.drop m))) a I' H' → StepN I H a I' H' := fun st =>
        ⟨s2.ii.trans st.ii, st.sub, fun c o h n => st.fr c o (s2.hh _ _ h) n, fun c o h n1 n2 => st.nf c o (s2.hh _ _ h) (s2.nf c o h n1) n2⟩
      cases q : runI n c Fb (ts.take m ++ [.tup (ts.drop m)]) with
      | made ns tt => rw [q] at h; exact fun I' H' dx' xs st => h I' H' dx' xs (tr st)
      | exc x => rw [q] at h; exact fun I' H' e d st => h I' H' e d (tr st)
      | fail => rw [q] at h; exact h.elim
  · rw [if_neg hc] at h
    exact h.elim
end
/-- C(..) -/
def gMake (c : Str) (fi : List T → IR) (ds : List D) (M : List MO) : Res D := match frzL M ds with
  | some (ts, M2) => (match fi ts with
    | .made ns tt => .ok (.t (.ins c ns tt)) M2
    | .exc x => .exc x M2
    | .fail => .fail)
  | none => .fail
def eMake (c : Str) (fi : List T → IR) (fs : Fn (List D)) : FE := fun sl M => (fs sl M).bind (gMake c fi)
section
variable {X : Cx} {W : WX} {c x : Str} {fi : List T → IR} {e : Expr} {es : List Expr} {fs : Fn (List D)} {f : Addr} {k : Nat} {p pos : Pos}
theorem run_makeS {σ : L2.St} {E : XK} {sp : Sp} {C : Addr} {pins : List (Addr × Obj)} {H : Hp} {s : Shared} {Q : VK} {us : List Value} {vs : List V} (Mk0 : Mk X.K C f) (F : FnR X.prog X.w X.K X.mg X.base (L2.CX X.prog X.w) k f sp) (hr : Room (k + 1) X.A) (hx : PassesAt (L2.CX X.prog X.w) X σ E) (I : Inv X pins σ H s) (r : Vals vs us)
    (h : ∀ x dx, H x = Option.none → H dx = Option.none → dx ≠ x → sp (V.ref x :: vs) (upd (upd H dx (.own x)) x (.ins C dx [])) (fun v H2 => v = .non ∧ Q (.ref x) H2) E) : wpAny (model X.prog X.w) X.A (call (.ref C) us) (EP X pins σ Q) X.xe s := by
  have hq := h (s.heap.objs.size + 1) s.heap.objs.size (I.hok.fresh (Nat.le_succ _)) (I.hok.fresh (Nat.le_refl _)) (Nat.ne_of_lt (Nat.lt_succ_self _))
  have I2 := Inv.made (C := C) I
  have r2 : Vals (V.ref (s.heap.objs.size + 1) :: vs) (Value.ref (s.heap.objs.size + 1) :: us) := .cons rfl r
  refine wpAny_call (make_map (f := f) I.kIn Mk0.makes Mk0.init (beq_iff_eq.mp Mk0.fn) (codeAny_mono (F _ X.stack _ _ (Value.ref (s.heap.objs.size + 1) :: us) _ _ E (hr.make C us []) (I2.env0.make C us []) r2 hq) fun r s' hq' => ?_))
  cases r with
  | error e => exact hx pins _ _ e s' I2 hq'
  | ok fl =>
    cases fl with
    | ret u =>
      obtain ⟨v, H', I3, rv, ev, q3⟩ := I2.after hq'
      subst ev
      exact ⟨rv, ⟨V.ref (s.heap.objs.size + 1), H', I3, rfl, q3⟩⟩
    | next => exact False.elim hq'
    | brk => exact False.elim hq'
    | cont => exact False.elim hq'
theorem sp_make {K : PySem.W.Frag} {cm : Str → Addr} {μ : Nat → Addr} {I H : Hp} {M : List MO} {ds : List D} {vs : List V} {Wx : XK} {Q : VK} (s : Sim K cm μ I M H) (ra : RepDL K cm μ I M.length ds vs)
    (p : Post K cm (RD K cm) μ I M H Wx (gMake c fi ds M) Q) {x dx : Addr} (nx : H x = none) (ndx : H dx = none) (ne : dx ≠ x) :
    spI K cm c fi (V.ref x :: vs) (upd (upd H dx (.own x)) x (.ins (cm c) dx [])) (fun v H2 => v = .non ∧ Q (.ref x) H2) Wx := by
  unfold gMake at p
  split at p
  · rename_i ts M2 e1
    obtain ⟨I2, st2, r2⟩ := frzL_ok s ra e1
    have p := p.step st2
    have ex : Ex I2 H := st2.sim.sub
    have h0 : ∀ a o, H a = some o → upd (upd H dx (.own x)) x (.ins (cm c) dx []) a = some o := fun a o h => by
      rw [upd_ne (ne_of_none h nx), upd_ne (ne_of_none h ndx)]; exact h
    refine ⟨I2, x, dx, vs, ts, fun a o h => h0 a o (ex a o h), rfl, ex.free nx, upd_same, r2, ?_⟩
    cases q : fi ts with
    | made ns tt =>
      rw [q] at p
      intro I' H' dx' xs st nI hx hl r
      refine ⟨rfl, ?_⟩
      have ex2 : Ex I' (upd I' x (.ins (cm c) dx' (ns.zip xs))) := Ex.new nI
      refine p μ (upd I' x (.ins (cm c) dx' (ns.zip xs))) H' (.ref x) (StepT.step (StepT.mk (st.ii.trans ex2) (fun b o hb => ?_) (fun b o hb => ?_) (fun b o h1 h2 => ?_)) st2.sim) ?_
      · unfold upd at hb
        split at hb
        · rename_i q; cases hb; rw [q]; exact hx
        · exact st.sub b o hb
      · exact st.fr b o (h0 b o hb) (ne_of_none hb nx)
      · rw [upd_ne (ne_of_none h1 nx)]; exact st.nf b o (h0 b o h1) h2 (ne_of_none h1 nx)
      · show RepT K cm _ (.ins c ns tt) (.ref x)
        unfold RepT
        exact ⟨x, dx', xs, rfl, upd_same, hl, RepTL.mono ex2 _ _ r⟩
    | exc e =>
      rw [q] at p
      intro I' H' w d st r
      exact p μ I' H' w d (StepT.step (StepT.mk st.ii st.sub (fun b o hb => st.fr b o (h0 b o hb) (ne_of_none hb nx)) (fun b o h1 h2 => st.nf b o (h0 b o h1) h2 (ne_of_none h1 nx))) st2.sim) r
    | fail => rw [q] at p; exact p.elim
  · exact p.elim
theorem de_make (Mk0 : Mk X.K (cmOf X.mg c) f) (F : FnR X.prog X.w X.K X.mg X.base (L2.CX X.prog X.w) k f (spI X.K (cmOf X.mg) c fi)) (hr : Room (k + 1) X.A) (hg : Gl X x) (hm : X.mg x = some (.ref (cmOf X.mg c))) (lt : Lets X W) (ha : DA X W (e :: es) fs) (hdb : (x == ("__debug__" : Str)) = false := by decide)
    (he : starEach (e :: es) X.env = (false, eval e X.env) :: starEach es X.env := by rfl) (hpl : (backTo pos (starEach es X.env)).any (·.1) = false := by rfl) : DE X W (.Call (.Name x p) (e :: es) [] pos) (eMake c fi fs) := by
  refine ⟨fun pins s σ H Q I h => ?_⟩
  obtain ⟨μ, I0, sl, M, s0, rs, p1⟩ := h
  refine wpAny_Call_Name_kw (ld_glob I hg hm ?_ hdb)
  refine PySem.W.callWith_K (h₀ := X.base) I.ok.mod.kin Mk0.kp (thn (ha.run pos pins s σ H _ I ⟨μ, I0, sl, M, s0, rs, Post.bind (R := RL X.K (cmOf X.mg)) p1⟩) fun us s1 ⟨vs, H1, I1, r, μ1, I01, M1, ds, st, ra, p2⟩ => ⟨I1.kIn, ?_⟩) he hpl
  exact run_makeS Mk0 F hr (lt σ) I1 r fun x dx n1 n2 ne => sp_make st.sim ra p2 n1 n2 ne
end
end Bm

/-! Own classes: len, two-place operators and == by own defs that raise nothing. -/
namespace Bm
open PySem L2 PyProof.Rows
theorem passes_false {X : Cx} : Passes (L2.CX X.prog X.w) X (fun _ _ _ => False) := fun pins σ H s e s' I c => by
  obtain ⟨a, B, H', cls, d, h⟩ := c
  exact h.2.2.2.2.2.2.2.elim
abbrev E0 : XK := fun _ _ _ => False
section
variable {X : Cx} {C g : Addr} {sp : Sp} {k : Nat}
/-- len(x) by an own __len__ -/
def rLenI (C : Addr) (sp : Sp) : List V → Hp → VK → Prop := fun xs H Q => ∃ a dx fs, xs = [V.ref a] ∧ H a = some (.ins C dx fs) ∧ sp [.ref a] H (fun v H' => ∃ i, v = .int i ∧ 0 ≤ i ∧ i < 2 ^ 63 ∧ Q (.int i) H') E0
theorem call_lenI (hs : PySem.W.findIn X.K (.ref C) "__len__" = some (some (.ref g))) (hf : PySem.W.isFn X.K (.ref g) = true) (F : FnR X.prog X.w X.K X.mg X.base (L2.CX X.prog X.w) k g sp) (hr : Room (k + 1) X.A) : CallR X (.builtin "len") (rLenI C sp) := by
  intro pins s σ H xs us Q I r h
  obtain ⟨a, dx, fs, rfl, ha, q⟩ := h
  obtain ⟨u, rfl, ru⟩ := r.one
  cases (show u = Value.ref a from ru)
  obtain ⟨mA, O, _, _, _, _⟩ := ins_get I.hok ha
  obtain ⟨od, J, _⟩ := O.look
  obtain ⟨m, hF⟩ := I.fr
  refine PySem.W.len_K hF I.ok.mod.kin J hs hf (wpAny_mono (wpAny_call (SlX.run_at (us := [.ref a]) (ws := [.ref a]) F hr.in1 I.env0.in1 passes_false I (.cons rfl .nil) q)) (fun w s' z => ?_) fun _ _ x => x)
  obtain ⟨z', H', I', rz, i, ei, h0, h1, qz⟩ := z
  subst ei
  obtain ⟨t, e⟩ := (show ∃ t, w = Value.int i t from rz)
  subst e
  exact ⟨⟨h0, h1⟩, .int i, H', I'.tok _, ⟨_, rfl⟩, qz⟩
/-- x op y by an own def of x's class, y of the same class -/
def rOpI (C : Addr) (sp : Sp) : R2 := fun x y H Q => ∃ a dx fs b dy gs, x = .ref a ∧ y = .ref b ∧ H a = some (.ins C dx fs) ∧ H b = some (.ins C dy gs) ∧ sp [x, y] H Q E0
theorem op_I {op : Operator} (hc : PySem.W.selfFirst X.K C = true) (hs : PySem.W.findIn X.K (.ref C) (PySem.dunder op.info.2) = some (some (.ref g))) (hf : PySem.W.isFn X.K (.ref g) = true) (F : FnR X.prog X.w X.K X.mg X.base (L2.CX X.prog X.w) k g sp)
    (hr : Room k X.A) : OpR X (binaryOp op) (rOpI C sp) := by
  intro pins s σ H x y v u Q I rx ry h
  obtain ⟨a, dx, fs, b, dy, gs, rfl, rfl, ha, hb, q⟩ := h
  cases (show v = Value.ref a from rx)
  cases (show u = Value.ref b from ry)
  obtain ⟨mA, O, _, _, _, _⟩ := ins_get I.hok ha
  obtain ⟨od, J, _⟩ := O.look
  obtain ⟨mB, O', _, _, _, _⟩ := ins_get I.hok hb
  obtain ⟨od', J', _⟩ := O'.look
  obtain ⟨m, hF⟩ := I.fr
  refine PySem.W.binop_K hF I.ok.mod.kin J J'.type hc hs hf ?_
  refine wpAny_mono (wpAny_call (SlX.run_at (us := [.ref a, .ref b]) (ws := [.ref a, .ref b]) F hr I.env0 passes_false I (.cons rfl (.cons rfl .nil)) q)) (fun w s' z => ?_) fun _ _ x => x
  obtain ⟨z', H', I', rz, qz⟩ := z
  exact SlX.cmpback rz ⟨z', H', I', rz, qz⟩
theorem op_eqI (hs : PySem.W.findIn X.K (.ref C) (cmpInfo .Eq).2.1 = some (some (.ref g))) (hf : PySem.W.isFn X.K (.ref g) = true) (F : FnR X.prog X.w X.K X.mg X.base (L2.CX X.prog X.w) k g sp)
    (hr : Room k X.A) : OpR X (compareOp .Eq) (rOpI C sp) := by
  intro pins s σ H x y v u Q I rx ry h
  obtain ⟨a, dx, fs, b, dy, gs, rfl, rfl, ha, hb, q⟩ := h
  cases (show v = Value.ref a from rx)
  cases (show u = Value.ref b from ry)
  obtain ⟨mA, O, _, _, _, _⟩ := ins_get I.hok ha
  obtain ⟨od, J, _⟩ := O.look
  obtain ⟨mB, O', _, _, _, _⟩ := ins_get I.hok hb
  obtain ⟨od', J', _⟩ := O'.look
  obtain ⟨m, hF⟩ := I.fr
  refine PySem.W.cmp_K (op := .Eq) (tb := .ref C) hr.units0 hF I.ok.mod.kin J J'.type (by simp [PySem.W.notFirst]) hs hf ?_
  refine wpAny_mono (wpAny_call (SlX.run_at (us := [.ref a, .ref b]) (ws := [.ref a, .ref b]) F hr I.env0 passes_false I (.cons rfl (.cons rfl .nil)) q)) (fun w s' z => ?_) fun _ _ x => x
  obtain ⟨z', H', I', rz, qz⟩ := z
  exact SlX.cmpback rz ⟨z', H', I', rz, qz⟩
end
/-- an answer that is a value -/
def okR : Res D → Res D
  | .ok a M => .ok a M
  | _ => .fail
theorem spR_E {K : PySem.W.Frag} {cm : Str → Addr} {μ : Nat → Addr} {I H : Hp} {M : List MO} {fp : List T → PR} {ds : List D} {vs : List V} {Wx : XK} {Q : VK} (s : Sim K cm μ I M H) (ra : RepDL K cm μ I M.length ds vs)
    (p : Post K cm (RD K cm) μ I M H Wx (okR (gCallR fp ds M)) Q) : spR K cm fp vs H Q E0 := by
  refine sp_callR s ra ?_
  cases q : gCallR fp ds M with
  | ok a M1 => rw [q] at p; exact p
  | exc x M1 => rw [q] at p; exact p.elim
  | fail => rw [q] at p; exact p.elim
/-- x op y, both of the class c -/
def gOpI (c : Str) (fp : List T → PR) : G2 := fun a b M => if isInsN c "" a && isInsN c "" b then okR (gCallR fp [a, b] M) else .fail
theorem dop_I {K : PySem.W.Frag} {cm : Str → Addr} {c : Str} {fp : List T → PR} : DOp K cm (rOpI (cm c) (spR K cm fp)) (gOpI c fp) := fun μ I M H x y a b Q Wx s ra rb p => by
  unfold gOpI at p
  split at p
  · rename_i hi
    rw [Bool.and_eq_true] at hi
    obtain ⟨a1, dx, ns, ts, xs, rfl, rfl, hA, _, _, _⟩ := insN_inv hi.1 ra
    obtain ⟨b1, dy, ns2, ts2, xs2, rfl, rfl, hB, _, _, _⟩ := insN_inv hi.2 rb
    exact ⟨a1, dx, _, b1, dy, _, rfl, rfl, s.sub _ _ hA, s.sub _ _ hB, spR_E s (RepDL.cons ra (RepDL.cons rb RepDL.nil)) p⟩
  · exact p.elim
/-- len(x), x of the class c -/
def gLenI (c : Str) (fp : List T → PR) : GC := fun ds M => match ds with
  | [d] => if isInsN c "" d then (match gCallR fp [d] M with
    | .ok (.t (.int i)) M2 => if 0 ≤ i ∧ i < 2 ^ 63 then .ok (.t (.int i)) M2 else .fail
    | _ => .fail) else .fail
  | _ => .fail
theorem dc_lenI {K : PySem.W.Frag} {cm : Str → Addr} {c : Str} {fp : List T → PR} : DCall K cm (rLenI (cm c) (spR K cm fp)) (gLenI c fp) := fun μ I M H ds vs Q Wx s rr p => by
  unfold gLenI at p
  split at p
  · rename_i d
    obtain ⟨x, rfl, rx⟩ := inv1 rr
    split at p
    · rename_i hi
      obtain ⟨a1, dx, ns, ts, xs, rfl, rfl, hA, _, _, _⟩ := insN_inv hi rx
      refine ⟨a1, dx, _, rfl, s.sub _ _ hA, sp_callR s (RepDL.cons rx RepDL.nil) ?_⟩
      split at p
      · rename_i i M2 e
        rw [e]
        split at p
        · rename_i hi2
          intro μ' I' H' b st rb
          have eb : b = .int i := by have := rb; unfold RD RepD RepT at this; exact this
          exact ⟨i, eb, hi2.1, hi2.2, by rw [← eb]; exact p μ' I' H' b st rb⟩
        · exact p.elim
      · exact p.elim
    · exact p.elim
  · exact p.elim
end Bm

/-! x != y of instances with an own __eq__ and object's __ne__. -/
namespace BmNe
open PySem PySem.Spec PyProof.Rows
section
variable {prog : Program} {w : World} {A : Around} {E : Value → Shared → Prop} {s : Shared} {K : PySem.W.Frag} {x C f L : Addr} {h₀ : Heap} {m : Str → Option Value} {ox : Obj} {od : Option Obj} {b tb : Value}
theorem entry_ne (hu : A.units < cLine) (X : K.In s.heap) (I : PySem.W.InstAt s.heap x ox C od) (hs : PySem.W.findIn K (.ref C) "__eq__" = some (some (.ref f))) (hf : PySem.W.isFn K (.ref f) = true) {Q : Fin → Shared → Prop}
    (h : wpAny (model prog w) A (call (.ref f) [.ref x, b]) (fun v s' => ∃ k, v = .bool k ∧ Q (.done (.ret (.bool (!k)))) s') E s) : wpAny (model prog w) A (Builtin.«object.__ne__» ⟨[.ref x, b], []⟩) Q E s := by
  unfold Builtin.«object.__ne__»
  repeat (first
    | with_reducible refine wpAny_cRoomFor hu ?_
    | (refine wpAny_bind (m := callSpecialIfBound? (.ref x) (Str.ofString "__eq__") [b])
        (PySem.W.ifBound_K X I hs hf (wpAny_mono h (fun r s' hr => by
          obtain ⟨b, rfl, hq⟩ := hr
          repeat (first | exact hq | exact wpAny_pure hq | exact wpAny_truthy_bool hq | (refine wpAny_bind (m := truthy (.bool _)) (wpAny_truthy_bool ?_)) | wp_step)) fun _ _ e => e)))
    | wp_step)
theorem call_objNe {Q : Value → Shared → Prop} (hu : A.in1.units < cLine) (X : K.In s.heap) (I : PySem.W.InstAt s.heap x ox C od) (hm : PySem.W.mroIn K C (.type "object") = some true) (hs : PySem.W.findIn K (.ref C) "__eq__" = some (some (.ref f))) (hf : PySem.W.isFn K (.ref f) = true)
    (h : wpAny (model prog w) A.in1 (call (.ref f) [.ref x, b]) (fun v s' => ∃ k, v = .bool k ∧ Q (.bool (!k)) s') E s) : wpAny (model prog w) A (call (.builtin "object.__ne__") [.ref x, b]) Q E s := by
  refine wpAny_call (codeAny_call_builtin F.cmp_object.ne.plain F.cmpEntry_ne (PySem.W.check_slot F.cmpKind_ne F.cmpSplit_ne (I.type.andThen (PySem.W.looks_mroIn X hm)) (F.cmpArgs_ne _ _) (entry_ne (A := A.in1) hu X I hs hf (wpAny_mono h (fun v s' hv => ?_) fun _ _ e => e))))
  obtain ⟨k, rfl, hq⟩ := hv
  exact ⟨k, rfl, hq⟩
theorem ifBound_objNe {args : List Value} {Q : Option Value → Shared → Prop} (X : K.In s.heap) (I : PySem.W.InstAt s.heap x ox C od) (hs : PySem.W.findIn K (.ref C) "__ne__" = some (some (.builtin "object.__ne__")))
    (h : wpAny (model prog w) A (call (.builtin "object.__ne__") (.ref x :: args)) (fun v => Q (some v)) E s) : wpAny (model prog w) A (callSpecialIfBound? (.ref x) "__ne__" args) Q E s := by
  simp only [callSpecialIfBound?, bindSpecialIfBound?]
  refine wpAny_holding (wpAny_bind (wpAny_bind (wpAny_bind (I.type.here ((PySem.W.looks_findIn X hs).here ?_)))))
  refine wpAny_bind (wpAny_askSetting (wpAny_ite ?_))
  have fin : wpAny (model prog w) A (call (.builtin "object.__ne__") ([.ref x] ++ args) >>= fun v => pure (some v)) Q E s := wpAny_bind (wpAny_mono h (fun v s' h' => wpAny_pure h') fun _ _ h' => h')
  split
  · exact wpAny_bind (wpAny_of_eq (F.cmp_object.ne.bind _) (wpAny_pure (by exact fin)))
  · exact wpAny_tryCatch (wpAny_bind (wpAny_of_eq (F.cmp_object.ne.bind _) (wpAny_pure (by exact fin))))
/-- x != b by the own __eq__ -/
theorem ne_K {Q : Value → Shared → Prop} (hu : A.units < cLine) (hu1 : A.in1.units < cLine) (X : K.In s.heap) (I : PySem.W.InstAt s.heap x ox C od) (hb : PySem.W.Looks (model prog w) s.heap (typeOf b) tb) (hn : PySem.W.notFirst K C tb = true) (hm : PySem.W.mroIn K C (.type "object") = some true)
    (hs : PySem.W.findIn K (.ref C) "__ne__" = some (some (.builtin "object.__ne__"))) (he : PySem.W.findIn K (.ref C) "__eq__" = some (some (.ref f))) (hf : PySem.W.isFn K (.ref f) = true)
    (h : wpAny (model prog w) A.in1 (call (.ref f) [.ref x, b]) (fun v s' => ∃ k, v = .bool k ∧ Q (.bool (!k)) s') E s) : wpAny (model prog w) A (richCompare .NotEq (.ref x) b) Q E s := by
  have one : wpAny (model prog w) A (tryCompare (.ref x) "__ne__" b) (fun r s' => ∃ v, r = some v ∧ Q v s') E s := by
    unfold tryCompare
    refine wpAny_bind (ifBound_objNe X I hs (call_objNe hu1 X I hm he hf (wpAny_mono h (fun v s' hv => ?_) fun _ _ e => e)))
    obtain ⟨k, rfl, hq⟩ := hv
    exact ⟨k, rfl, wpAny_pure ⟨_, rfl, hq⟩⟩
  simp only [richCompare, cmpInfo_NotEq, oneThing_ref]
  refine wpAny_holding (wpAny_bind (wpAny_cRoomFor hu ?_))
  refine wpAny_bind (I.type.here (wpAny_bind (hb.here ?_)))
  split
  · rename_i q
    have e : PySem.W.subIn K tb (.ref C) = some false := by
      rcases Bool.or_eq_true_iff.mp hn with e | e
      · rw [beq_iff_eq.mp e] at q; simp at q
      · exact beq_iff_eq.mp e
    refine wpAny_bind ((PySem.W.looks_subIn X e).here ?_)
    simp only [Bool.false_eq_true, if_false]
    refine wpAny_bind (m := tryCompare (.ref x) _ b) (wpAny_mono one (fun r s' z => ?_) fun _ _ e => e)
    obtain ⟨v, rfl, hq⟩ := z
    exact wpAny_pure hq
  · refine wpAny_bind (wpAny_pure ?_)
    simp only [Bool.false_eq_true, if_false]
    refine wpAny_bind (m := tryCompare (.ref x) _ b) (wpAny_mono one (fun r s' z => ?_) fun _ _ e => e)
    obtain ⟨v, rfl, hq⟩ := z
    exact wpAny_pure hq
end
end BmNe

/-! == and != of an instance with an instance of its class, None, a truth, an int or a text. -/
namespace Bm
open PySem L2 PyProof.Rows
def sclN : V → Option String
  | .non => some "NoneType"
  | .bl _ => some "bool"
  | .int _ => some "int"
  | .str _ => some "str"
  | _ => none
/-- what == asks of the class -/
structure CmpC (K : PySem.W.Frag) (C g : Addr) : Prop where
  eq : PySem.W.findIn K (.ref C) "__eq__" = some (some (.ref g))
  ne : PySem.W.findIn K (.ref C) "__ne__" = some (some (.builtin "object.__ne__"))
  fn : PySem.W.isFn K (.ref g) = true
  mo : PySem.W.mroIn K C (.type "object") = some true
  nN : PySem.W.notFirst K C (.type "NoneType") = true
  nB : PySem.W.notFirst K C (.type "bool") = true
  nI : PySem.W.notFirst K C (.type "int") = true
  nS : PySem.W.notFirst K C (.type "str") = true
section
variable {X : Cx} {C g : Addr} {sp : Sp} {k : Nat}
def rCmpI (C : Addr) (sp : Sp) (neg : Bool) : R2 := fun x y H Q => ∃ a dx fs, x = .ref a ∧ H a = some (.ins C dx fs) ∧ ((∃ b dy gs, y = .ref b ∧ H b = some (.ins C dy gs)) ∨ ∃ n, sclN y = some n) ∧ sp [x, y] H (fun v H' => ∃ k, v = .bl k ∧ Q (.bl (neg != k)) H') E0
theorem looks_right {pins : List (Addr × Obj)} {σ : L2.St} {H : Hp} {s : Shared} {y : V} {u : Value} (cc : CmpC X.K C g) (I : Inv X pins σ H s) (ry : RelV y u) (h : (∃ b dy gs, y = .ref b ∧ H b = some (.ins C dy gs)) ∨ ∃ n, sclN y = some n) :
    ∃ tb, PySem.W.Looks (model X.prog X.w) s.heap (typeOf u) tb ∧ PySem.W.notFirst X.K C tb = true := by
  rcases h with ⟨b, dy, gs, rfl, hb⟩ | ⟨n, hn⟩
  · cases (show u = Value.ref b from ry)
    obtain ⟨mB, O', _, _, _, _⟩ := ins_get I.hok hb
    obtain ⟨od', J', _⟩ := O'.look
    exact ⟨_, J'.type, by simp [PySem.W.notFirst]⟩
  · cases y with
    | non => cases (show u = Value.none from ry); exact ⟨.type "NoneType", PySem.W.Looks.of_pure rfl, cc.nN⟩
    | bl b => cases (show u = Value.bool b from ry); exact ⟨.type "bool", PySem.W.Looks.of_pure rfl, cc.nB⟩
    | int i =>
      obtain ⟨t, rfl⟩ := (show ∃ t, u = Value.int i t from ry)
      exact ⟨.type "int", PySem.W.Looks.of_pure rfl, cc.nI⟩
    | str z =>
      obtain ⟨t, rfl⟩ := (show ∃ t, u = Value.str z t from ry)
      exact ⟨.type "str", PySem.W.Looks.of_pure rfl, cc.nS⟩
    | byt b => cases hn
    | flt b => cases hn
    | ref a => cases hn
    | ty n => cases hn
theorem op_eqC (cc : CmpC X.K C g) (F : FnR X.prog X.w X.K X.mg X.base (L2.CX X.prog X.w) k g sp) (hr : Room k X.A) : OpR X (compareOp .Eq) (rCmpI C sp false) := by
  intro pins s σ H x y v u Q I rx ry h
  obtain ⟨a, dx, fs, rfl, ha, hy, q⟩ := h
  cases (show v = Value.ref a from rx)
  obtain ⟨tb, l1, l2⟩ := looks_right cc I ry hy
  obtain ⟨mA, O, _, _, _, _⟩ := ins_get I.hok ha
  obtain ⟨od, J, _⟩ := O.look
  obtain ⟨m, hF⟩ := I.fr
  refine PySem.W.cmp_K (op := .Eq) (tb := tb) hr.units0 hF I.ok.mod.kin J l1 l2 cc.eq cc.fn ?_
  refine wpAny_mono (wpAny_call (SlX.run_at (us := [.ref a, u]) (ws := [.ref a, y]) F hr I.env0 passes_false I (.cons rfl (.cons ry .nil)) q)) (fun w s' z => ?_) fun _ _ x => x
  obtain ⟨z', H', I', rz, k', rfl, qz⟩ := z
  cases (show w = Value.bool k' from rz)
  rw [Bool.false_bne] at qz
  exact ⟨.bl k', H', I', rfl, qz⟩
theorem op_neC (cc : CmpC X.K C g) (F : FnR X.prog X.w X.K X.mg X.base (L2.CX X.prog X.w) k g sp) (hr : Room (k + 1) X.A) : OpR X (compareOp .NotEq) (rCmpI C sp true) := by
  intro pins s σ H x y v u Q I rx ry h
  obtain ⟨a, dx, fs, rfl, ha, hy, q⟩ := h
  cases (show v = Value.ref a from rx)
  obtain ⟨tb, l1, l2⟩ := looks_right cc I ry hy
  obtain ⟨mA, O, _, _, _, _⟩ := ins_get I.hok ha
  obtain ⟨od, J, _⟩ := O.look
  refine BmNe.ne_K (tb := tb) hr.units0 hr.in1.units0 I.kIn J l1 l2 cc.mo cc.ne cc.eq cc.fn ?_
  refine wpAny_mono (wpAny_call (SlX.run_at (us := [.ref a, u]) (ws := [.ref a, y]) F hr.in1 I.env0.in1 passes_false I (.cons rfl (.cons ry .nil)) q)) (fun w s' z => ?_) fun _ _ x => x
  obtain ⟨z', H', I', rz, k', rfl, qz⟩ := z
  cases (show w = Value.bool k' from rz)
  rw [Bool.true_bne] at qz
  exact ⟨k', rfl, .bl (!k'), H', I', rfl, qz⟩
end
def sclD : D → Bool
  | .t .non => true
  | .t (.bl _) => true
  | .t (.int _) => true
  | .t (.str _) => true
  | _ => false
/-- x == y, x != y -/
def gCmpI (c : Str) (fp : List T → PR) (neg : Bool) : G2 := fun a b M => if isInsN c "" a && (isInsN c "" b || sclD b) then (match gCallR fp [a, b] M with
  | .ok (.t (.bl k)) M2 => .ok (.t (.bl (neg != k))) M2
  | _ => .fail) else .fail
theorem scl_inv {K : PySem.W.Frag} {cm : Str → Addr} {μ : Nat → Addr} {I : Hp} {n : Nat} {d : D} {v : V} (h : sclD d = true) (r : RepD K cm μ I n d v) : ∃ n, sclN v = some n := by
  cases d with
  | m k => cases h
  | t t =>
    have r : RepT K cm I t v := r
    cases t <;> first | (cases h; done) | (unfold RepT at r; subst r; exact ⟨_, rfl⟩)
theorem dop_cmpI {K : PySem.W.Frag} {cm : Str → Addr} {c : Str} {fp : List T → PR} {neg : Bool} : DOp K cm (rCmpI (cm c) (spR K cm fp) neg) (gCmpI c fp neg) := fun μ I M H x y a b Q Wx s ra rb p => by
  unfold gCmpI at p
  split at p
  · rename_i hi
    rw [Bool.and_eq_true, Bool.or_eq_true] at hi
    obtain ⟨a1, dx, ns, ts, xs, rfl, rfl, hA, _, _, _⟩ := insN_inv hi.1 ra
    refine ⟨a1, dx, _, rfl, s.sub _ _ hA, ?_, sp_callR s (RepDL.cons ra (RepDL.cons rb RepDL.nil)) ?_⟩
    · rcases hi.2 with h2 | h2
      · obtain ⟨b1, dy, ns2, ts2, xs2, rfl, rfl, hB, _, _, _⟩ := insN_inv h2 rb
        exact .inl ⟨b1, dy, _, rfl, s.sub _ _ hB⟩
      · exact .inr (scl_inv h2 rb)
    · split at p
      · rename_i k M2 e
        rw [e]
        intro μ' I' H' b' st rb'
        have eb : b' = .bl k := by have := rb'; unfold RD RepD RepT at this; exact this
        exact ⟨k, eb, p μ' I' H' _ st (by unfold RD RepD RepT; rfl)⟩
      · exact p.elim
  · exact p.elim
end Bm

/-! isinstance with one own class beside the built-in ones. -/
namespace Bm
open PySem L2 PyProof.Rows
structure IsiC (K : PySem.W.Frag) (C : Addr) : Prop where
  ok : InsOk K C
  ic : PySem.W.isClsIn K C = true
  ty : PySem.W.typeIn K (.ref C) = some (.type "type")
  dn : ∀ a ∈ kinds, PySem.W.subIn K (.ref C) (.type a) = some false
def tabC (c : Str) : Kd → Kd → Option Bool
  | .inl a, .inl b => tabB (.inl a) (.inl b)
  | .inl a, .inr s => if a ∈ kinds ∧ s = c then some false else none
  | .inr s, .inl a => if a ∈ kinds ∧ s = c then some false else none
  | .inr s, .inr s' => if s = c ∧ s' = c then some true else none
theorem kinds_mro : ∀ a ∈ kinds, ∃ l : List String, fastBuiltinMro a = some (l.map Value.type) := by
  intro a ha
  simp only [kinds, List.mem_cons, List.not_mem_nil, or_false] at ha
  rcases ha with rfl | rfl | rfl | rfl | rfl | rfl
  · exact ⟨["NoneType", "object"], by decide +kernel⟩
  · exact ⟨["bool", "int", "object"], by decide +kernel⟩
  · exact ⟨["int", "object"], by decide +kernel⟩
  · exact ⟨["str", "object"], by decide +kernel⟩
  · exact ⟨["list", "object"], by decide +kernel⟩
  · exact ⟨["tuple", "object"], by decide +kernel⟩
theorem sub_ref {K : PySem.W.Frag} {C : Addr} {a : String} (h : a ∈ kinds) : PySem.W.subIn K (.type a) (.ref C) = some false := by
  obtain ⟨l, e⟩ := kinds_mro a h
  show (fastBuiltinMro a).map (·.contains (.ref C)) = some false
  rw [e]
  show some ((l.map Value.type).contains (.ref C)) = some false
  have : (l.map Value.type).contains (Value.ref C) = false := by
    rw [Bool.eq_false_iff]
    intro q
    obtain ⟨n, _, hn⟩ := List.mem_map.mp (List.contains_iff_mem.mp q)
    cases hn
  rw [this]
theorem kinds_meta : ∀ a ∈ kinds, PySem.W.kitMeta a = true := by
  intro a ha
  simp only [kinds, List.mem_cons, List.not_mem_nil, or_false] at ha
  rcases ha with rfl | rfl | rfl | rfl | rfl | rfl <;> decide +kernel
theorem tabC_ok {K : PySem.W.Frag} {cm : Str → Addr} {c : Str} (k : IsiC K (cm c)) : TabOk K cm (tabC c) where
  one := fun x y b h => by
    cases x with
    | inl a =>
      cases y with
      | inl b' => exact tabB_ok.one _ _ _ h
      | inr s =>
        simp only [tabC] at h
        split at h
        · rename_i q
          obtain ⟨q1, rfl⟩ := q
          cases h
          show (if (Value.type a == Value.ref (cm s)) = true then some true else PySem.W.kitCls K (.type a) (.ref (cm s))) = some false
          rw [if_neg (by simp)]
          show (if ((PySem.W.clsIn K (cm s)).isSome && PySem.W.typeIn K (.ref (cm s)) == some (.type "type")) = true then PySem.W.subIn K (.type a) (.ref (cm s)) else none) = some false
          have e1 : (PySem.W.clsIn K (cm s)).isSome = true := k.ic
          rw [e1, k.ty, if_pos (by simp), sub_ref q1]
        · cases h
    | inr s =>
      cases y with
      | inl a =>
        simp only [tabC] at h
        split at h
        · rename_i q
          obtain ⟨q1, rfl⟩ := q
          cases h
          show (if (Value.ref (cm s) == Value.type a) = true then some true else PySem.W.kitCls K (.ref (cm s)) (.type a)) = some false
          rw [if_neg (by simp)]
          show (if PySem.W.kitMeta a = true then PySem.W.subIn K (.ref (cm s)) (.type a) else none) = some false
          rw [if_pos (kinds_meta a q1), k.dn a q1]
        · cases h
      | inr s' =>
        simp only [tabC] at h
        split at h
        · rename_i q
          obtain ⟨rfl, rfl⟩ := q
          cases h
          show (if (Value.ref (cm s') == Value.ref (cm s')) = true then some true else _) = some true
          rw [if_pos (by simp)]
        · cases h
  ins := fun s y b h => by
    cases y with
    | inl a =>
      simp only [tabC] at h
      split at h
      · rename_i q
        obtain ⟨_, rfl⟩ := q
        exact k.ok
      · cases h
    | inr s' =>
      simp only [tabC] at h
      split at h
      · rename_i q
        obtain ⟨rfl, _⟩ := q
        exact k.ok
      · cases h
end Bm

/-! sum, max. -/
namespace Bm
open PySem L2 PyProof.Rows
def intsOf : List T → Option (List Int)
  | [] => some []
  | .int i :: ts => (match intsOf ts with
    | some is => some (i :: is)
    | none => none)
  | _ => none
theorem ints_ok {K : PySem.W.Frag} {cm : Str → Addr} {I : Hp} : ∀ {ts : List T} {xs : List V} {is : List Int}, RepTL K cm I ts xs → intsOf ts = some is → xs = is.map V.int
  | [], xs, is, r, h => by cases h; rw [inv_nil r]; rfl
  | t :: ts, xs, is, r, h => by
    obtain ⟨x, xs', rfl, r1, r2⟩ := inv_cons r
    cases t <;> first | (cases h; done) | skip
    rename_i i
    unfold intsOf at h
    cases e : intsOf ts with
    | none => rw [e] at h; cases h
    | some js =>
      rw [e] at h
      cases h
      rw [ints_ok r2 e, inv_int (K := K) (cm := cm) (I := I) r1]
      rfl
/-- sum of a list of ints -/
def gSum : GC
  | [d], M => (match lstOf M d with
    | some ts => (match intsOf ts with
      | some is => .ok (.t (.int is.sum)) M
      | none => .fail)
    | none => .fail)
  | _, _ => .fail
theorem dc_sum {K : PySem.W.Frag} {cm : Str → Addr} : DCall K cm (rSum K) gSum := fun μ I M H ds vs Q Wx s rr p => by
  unfold gSum at p
  split at p
  · obtain ⟨x, rfl, rx⟩ := inv1 rr
    split at p
    · rename_i ts e
      split at p
      · rename_i is e2
        obtain ⟨a, xs, rfl, h1, h2⟩ := lstOf_ok s rx e
        rw [ints_ok h2 e2] at h1
        exact ⟨a, is, rfl, SqL.of h1, p.int s⟩
      · exact p.elim
    · exact p.elim
  · exact p.elim
/-- the larger of two ints -/
def gMax2 : GC
  | [.t (.int i), .t (.int j)], M => .ok (.t (.int (if j > i then j else i))) M
  | _, _ => .fail
theorem dc_max2 {K : PySem.W.Frag} {cm : Str → Addr} : DCall K cm (fun xs H Q => ∃ i j, xs = [V.int i, V.int j] ∧ Q (.int (if j > i then j else i)) H) gMax2 := fun μ I M H ds vs Q Wx s rr p => by
  unfold gMax2 at p
  split at p
  · rename_i i j
    unfold RepDL at rr
    obtain ⟨x, r, rfl, h1, h2⟩ := rr
    obtain ⟨y, rfl, h3⟩ := inv1 h2
    exact ⟨i, j, by rw [inv_int (K := K) (cm := cm) (I := I) h1, inv_int (K := K) (cm := cm) (I := I) h3], p.int s⟩
  · exact p.elim
section
variable {X : Cx} {W : WX} {a b : Expr} {fs : Fn (List D)} {q pos : Pos}
theorem de_sum (hc : X.calm = true) (hg : Gl X "sum") (hm : X.mg "sum" = none) (ha : DA X W [a] fs) (he : starEach [a] X.env = (false, eval a X.env) :: starEach [] X.env := by rfl) : DE X W (.Call (.Name "sum" q) [a] [] pos) (eCB gSum fs) :=
  de_callB (cr_sum hc) dc_sum hg hm (by with_unfolding_all decide +kernel) ha (he := he)
theorem de_max2 (hc : X.calm = true) (hg : Gl X "max") (hm : X.mg "max" = none) (ha : DA X W [a, b] fs) (he : starEach [a, b] X.env = (false, eval a X.env) :: starEach [b] X.env := by rfl) (hpl : (backTo pos (starEach [b] X.env)).any (·.1) = false := by rfl) : DE X W (.Call (.Name "max" q) [a, b] [] pos) (eCB gMax2 fs) :=
  de_callB (call_max2 hc) dc_max2 hg hm (by with_unfolding_all decide +kernel) ha (he := he) (hpl := hpl)
end
end Bm

/-! f-strings of texts. -/
namespace Bm
open PySem L2 PyProof.Rows
def jsF : List FE → Str → List (Option D) → List MO → Res D
  | [], acc, sl, M => .ok (.t (.str acc)) M
  | f :: fs, acc, sl, M => (f sl M).bind fun d M1 => match d with
    | .t (.str y) => if (acc ++ y).length ≤ 16777216 then jsF fs (acc ++ y) sl M1 else .fail
    | _ => .fail
def eJs (fs : List FE) : FE := fun sl M => jsF fs Str.empty sl M
inductive DJ (X : Cx) (W : WX) : List Expr → List FE → Prop where
  | nil : DJ X W [] []
  | cons {e : Expr} {f : FE} {es : List Expr} {fs : List FE} (h : DE X W e f) (r : DJ X W es fs) : DJ X W (e :: es) (f :: fs)
section
variable {X : Cx} {W : WX} {e v1 v2 : Expr} {rest : List Expr} {F : FE} {fs : List FE} {pos : Pos}
theorem DJ.pj : ∀ {es : List Expr} {fs : List FE}, DJ X W es fs → PJ X es (fs.map fun f => rdE X W f)
  | _, _, .nil => .nil
  | _, _, .cons h r => .cons h r.pj
theorem tJs_of {σ : L2.St} {sl : List (Option D)} {Q : VK} : ∀ (fs : List FE) (acc : Str) {μ : Nat → Addr} {I : Hp} {M : List MO} {H : Hp}, Sim X.K (cmOf X.mg) μ I M H → RepS X.K (cmOf X.mg) μ I M.length sl σ →
    Post X.K (cmOf X.mg) (RD X.K (cmOf X.mg)) μ I M H (fun e d H' => W e d σ H') (jsF fs acc sl M) Q → tJs (fs.map fun f => rdE X W f) acc σ H fun out H1 => Q (.str out) H1
  | [], acc, μ, I, M, H, s, rs, p => p.str s
  | f :: fs, acc, μ, I, M, H, s, rs, p => by
    unfold jsF at p
    refine ⟨μ, I, sl, M, s, rs, (Post.bind (R := RD X.K (cmOf X.mg)) p).imp fun x H1 ⟨μ1, I1, M1, d, st, ra, p1⟩ => ?_⟩
    split at p1
    · rename_i y
      split at p1
      · rename_i hl
        exact ⟨y, inv_str (K := X.K) (cm := cmOf X.mg) (I := I1) ra, by rw [sizeLine_eq]; exact hl, tJs_of fs (acc ++ y) st.sim (rs.mono st.gr) p1⟩
      · exact p1.elim
    · exact p1.elim
theorem de_joined (h : DJ X W (v1 :: v2 :: rest) fs) : DE X W (.JoinedStr (v1 :: v2 :: rest) pos) (eJs fs) :=
  (pe_joined h.pj).imp fun σ H Q ⟨μ, I, sl, M, s, rs, p⟩ => tJs_of fs Str.empty s rs p
/-- {e}, e a text -/
def gFmt (d : D) (M : List MO) : Res D := match d with
  | .t (.str y) => if y.length ≤ 16777216 then .ok (.t (.str y)) M else .fail
  | _ => .fail
def eFmt (F : FE) : FE := fun sl M => (F sl M).bind gFmt
theorem de_fmt (h : DE X W e F) : DE X W (.FormattedValue e (-1) none pos) (eFmt F) :=
  (pe_fmt h).imp fun σ H Q ⟨μ, I, sl, M, s, rs, p⟩ => ⟨μ, I, sl, M, s, rs, (Post.bind (R := RD X.K (cmOf X.mg)) p).imp fun x H1 ⟨μ1, I1, M1, d, st, ra, p1⟩ => by
    unfold gFmt at p1
    split at p1
    · rename_i y
      split at p1
      · rename_i hl
        exact .inl ⟨y, inv_str (K := X.K) (cm := cmOf X.mg) (I := I1) ra, by rw [sizeLine_eq]; exact hl, p1.str st.sim⟩
      · exact p1.elim
    · exact p1.elim⟩
end
end Bm

/-! *e in a display. -/
namespace Bm
open PySem L2 PyProof.Rows
theorem repDL_app {K : PySem.W.Frag} {cm : Str → Addr} {μ : Nat → Addr} {I : Hp} {n : Nat} : ∀ {ds es : List D} {xs ys : List V}, RepDL K cm μ I n ds xs → RepDL K cm μ I n es ys → RepDL K cm μ I n (ds ++ es) (xs ++ ys)
  | [], es, xs, ys, h, g => by unfold RepDL at h; subst h; exact g
  | d :: ds, es, xs, ys, h, g => by
    unfold RepDL at h
    obtain ⟨x, r, rfl, h1, h2⟩ := h
    exact RepDL.cons h1 (repDL_app h2 g)
def aStar (fa : FE) (fs : Fn (List D)) : Fn (List D) := fun sl M => (fa sl M).bind fun a M1 => match seqD M1 a with
  | some ts => (fs sl M1).bind fun as M2 => .ok (ts.map D.t ++ as) M2
  | none => .fail
section
variable {X : Cx} {W : WX} {e : Expr} {es : List Expr} {fa : FE} {fs : Fn (List D)} {p : Pos}
theorem da_star (ha : DE X W e fa) (hr : DA X W es fs) (hs : starEach (.Starred e p :: es) X.env = (true, eval e X.env) :: starEach es X.env := by rfl) : DA X W (.Starred e p :: es) (aStar fa fs) :=
  (StX.pa_star ha hr hs).imp fun σ H Q ⟨μ, I, sl, M, s, rs, pp⟩ => ⟨μ, I, sl, M, s, rs, (Post.bind (R := RD X.K (cmOf X.mg)) pp).imp fun x H1 ⟨μ1, I1, M1, d, st, ra, p1⟩ => by
    split at p1
    · rename_i ts e1
      obtain ⟨a, xs, rfl, h1, h2⟩ := seqD_ok st.sim ra e1
      refine ⟨a, xs, rfl, h1.symm, μ1, I1, sl, M1, st.sim, rs.mono st.gr, (Post.bind (R := RL X.K (cmOf X.mg)) p1).imp fun y H2 ⟨μ2, I2, M2, ds, st2, rb, p2⟩ => ?_⟩
      exact p2.here st2.sim (repDL_app (repDL_ofT (RepTL.mono st2.gr.ex _ _ h2)) rb)
    · exact p1.elim⟩
end
end Bm

/-! xs[::-1] of a tuple. -/
namespace L2.HT
open PySem PySem.Spec PyProof.Rows
end L2.HT
namespace BmRev
open PySem PySem.Spec PyProof.Rows L2
section
variable {prog : Program} {w : World} {A : Around} {E : Value → Shared → Prop} {s : Shared}
theorem adjust_rev (n : Nat) : Builtin.Slice.sliceAdjust none none (-1) (n : Int) = ((n : Int) - 1, -1) := by
  unfold Builtin.Slice.sliceAdjust
  simp
theorem places_rev (n : Nat) : Builtin.Slice.slicePlaces ((n : Int) - 1) (-1) (-1) = n := by
  unfold Builtin.Slice.slicePlaces
  have h1 : ¬ ((-1 : Int) > 0) := by decide
  simp only [h1, if_false]
  split
  · rw [show (- -1 : Int) = 1 by decide, Int.ediv_one]
    omega
  · omega
theorem fm_congr {α β : Type} {f g : α → Option β} : ∀ {l : List α}, (∀ a ∈ l, f a = g a) → l.filterMap f = l.filterMap g
  | [], _ => rfl
  | a :: l, h => by
    have e := h a (by simp)
    have ih := fm_congr (l := l) fun b hb => h b (by simp [hb])
    rw [List.filterMap_cons, List.filterMap_cons, e, ih]
theorem sliceApplied_rev {sl : Addr} {vl vu vs : Value} {n : Nat} {Q : Int × Int × Nat → Shared → Prop} (hs : s.heap.IsSliceOf sl vl vu vs) (pl : IsPart vl none) (pu : IsPart vu none) (ps : IsPart vs (some (-1)))
    (h : Q ((n : Int) - 1, -1, n) s) : wpAny (model prog w) A (Builtin.Slice.sliceApplied (.ref sl) (pure (n : Int))) Q E s := by
  obtain ⟨os, hos, hcs, hds⟩ := id hs
  unfold Builtin.Slice.sliceApplied Builtin.Slice.sliceFields
  refine wpAny_bind (wpAny_bind (wpAny_field hos hds (x := vl) rfl (wpAny_bind (wpAny_field hos hds (x := vu) rfl (wpAny_bind (wpAny_field hos hds (x := vs) rfl (wpAny_pure ?_)))))))
  refine wpAny_bind (HT.slicePart_ ps ?_)
  show wpAny _ _ (if ((-1 : Int) == 0) = true then _ else _) _ _ s
  rw [if_neg (by decide)]
  refine wpAny_bind (HT.slicePart_ pl (wpAny_bind (HT.slicePart_ pu (wpAny_bind (wpAny_pure ?_)))))
  show wpAny _ _ (match Builtin.Slice.sliceAdjust none none (-1) (n : Int) with | (lo, hi) => pure (lo, (-1 : Int), Builtin.Slice.slicePlaces lo hi (-1))) _ _ s
  rw [adjust_rev n]
  show wpAny _ _ (pure ((n : Int) - 1, (-1 : Int), Builtin.Slice.slicePlaces ((n : Int) - 1) (-1) (-1))) _ _ s
  rw [places_rev]
  exact wpAny_pure h
theorem pick_rev (xs : Array Value) : ((List.range xs.size).filterMap fun (m : Nat) => xs[((xs.size : Int) - 1 + (m : Int) * (-1)).toNat]?).toArray = xs.toList.reverse.toArray := by
  have e : ((List.range xs.size).filterMap fun (m : Nat) => xs[((xs.size : Int) - 1 + (m : Int) * (-1)).toNat]?) = ((List.range xs.size).map fun k => xs.size - 1 - k).filterMap (xs[·]?) := by
    rw [List.filterMap_map]
    refine fm_congr fun m hm => ?_
    have := List.mem_range.mp hm
    show xs[((xs.size : Int) - 1 + (m : Int) * (-1)).toNat]? = xs[xs.size - 1 - m]?
    rw [show ((xs.size : Int) - 1 + (m : Int) * (-1)).toNat = xs.size - 1 - m by omega]
  rw [e, PySem.W.krv_range, List.filterMap_reverse, PySem.W.krv_all]
theorem getItem_tuple_rev {t sl : Addr} {items : Array Value} {vl vu vs : Value} {Q : Value → Shared → Prop} (ht : IsTup s.heap t items) (hs : s.heap.IsSliceOf sl vl vu vs) (pl : IsPart vl none) (pu : IsPart vu none) (ps : IsPart vs (some (-1)))
    (h : Q (.ref s.heap.objs.size) { s with heap := s.heap.push { cls := .type "tuple", data := .seq items.toList.reverse.toArray } })
    (hsz : items.size ≤ sizeLine) : wpAny (model prog w) A (getItem (.ref t) (.ref sl)) Q E s := by
  have htake : sizeOk (.seq items.toList.reverse.toArray) := by
    show items.toList.reverse.toArray.size ≤ sizeLine
    rw [List.size_toArray, List.length_reverse, Array.length_toList]
    exact hsz
  obtain ⟨os, hos, hcs, hds⟩ := id hs
  have hTs : s.TypeIs (.ref sl) "slice" := ⟨os, hos, hcs⟩
  unfold getItem
  try with_reducible refine wpAny_holding ?_
  first | refine wpAny_bind (wpAny_pure ?_) | skip
  refine wpAny_bind (wpAny_sequenceKey ht.typeIs (by decide) ?_)
  refine wpAny_bind (wpAny_callSpecial?_slot (name := Str.ofString "__getitem__") ht.typeIs PyProof.Rows.slot_tuple_getitem
    (wpAny_call_entry PyProof.Rows.slot_tuple_getitem ht.typeIs entry_tuple_getitem ?_ (args_tuple_getitem _ _)))
  show wpAny _ _ (Builtin.Tuple.tupleItemsOf (.ref t) >>= _) _ _ s
  refine wpAny_bind (tupleItemsOf_ ht ?_)
  refine wpAny_bind (wpAny_typeOf hTs ?_)
  rw [if_pos (by decide)]
  refine wpAny_bind (sliceApplied_rev hs pl pu ps ?_)
  have hno : ¬ ((((items.size : Int) - 1) == 0 && (-1 : Int) == 1 && items.size == items.size) = true) := by
    intro q
    rw [Bool.and_eq_true, Bool.and_eq_true] at q
    have q1 : (-1 : Int) = 1 := eq_of_beq q.1.2
    omega
  show wpAny _ _ (if (((items.size : Int) - 1) == 0 && (-1 : Int) == 1 && items.size == items.size) = true then _ else _) _ _ s
  rw [if_neg hno, pick_rev]
  first
    | exact wpAny_bind (m := Builtin.Tuple.tupleExact _) (wpAny_newObj_type (wpAny_pure ⟨_, rfl, wpAny_pure h⟩) htake)
    | exact wpAny_bind (m := Builtin.Tuple.tupleExact _) (wpAny_newObj_type (wpAny_bind (wpAny_pure (wpAny_pure ⟨_, rfl, wpAny_pure h⟩))) htake)
    | exact wpAny_bind (wpAny_bind (m := Builtin.Tuple.tupleExact _) (wpAny_newObj_type (wpAny_pure (wpAny_pure ⟨_, rfl, wpAny_pure h⟩)) htake))
    | exact wpAny_bind (wpAny_bind (m := Builtin.Tuple.tupleExact _) (wpAny_newObj_type (wpAny_pure ⟨_, rfl, wpAny_pure h⟩) htake))
end
end BmRev

namespace Bm
open PySem L2 PyProof.Rows
def tRevT (K : PySem.W.Frag) (te : TE) : TE := fun σ H Q => te σ H fun x H1 => ∃ a xs, x = .ref a ∧ SqT K H1 a xs ∧ ∀ p, H1 p = none → Q (.ref p) (upd H1 p (.tup xs.reverse))
section
variable {X : Cx} {W : WX} {e : Expr} {te : TE} {F : FE} {k : Nat} {p1 p2 p3 pos : Pos}
theorem pe_revT (he : PE X e te) : PE X (.Subscript e (.Slice none none (some (.UnaryOp .USub (.Constant (.int 1) k p1) p2)) p3) pos) (tRevT X.K te) := by
  refine ⟨fun pins s σ H Q I h => ?_⟩
  refine Subscript_ (thn (he.run pins s σ H _ I h) fun v s1 ⟨x, H1, I1, r1, q1⟩ => ?_)
  obtain ⟨a, xs, ex, hx, q⟩ := q1
  subst ex
  cases r1
  have hst : PO X (some (.UnaryOp .USub (.Constant (.int 1) k p1) p2)) (tPart (tUn (rU fun i => .int (-i)) (tC (.int 1)))) := po_some (pe_un un_neg pe_int)
  refine wpAny_Slice (thn (po_none.run pins s1 σ H1 (fun o H2 => o = none ∧ H2 = H1) I1 ⟨rfl, rfl⟩) fun vl s2 ⟨l, H2, I2, pl, el, e2⟩ => ?_)
  subst el e2
  refine thn (po_none.run pins s2 σ H2 (fun o H3 => o = none ∧ H3 = H2) I2 ⟨rfl, rfl⟩) fun vu s3 ⟨u, H3, I3, pu, eu, e3⟩ => ?_
  subst eu e3
  refine thn (hst.run pins s3 σ H3 (fun o H4 => o = some (-1) ∧ H4 = H3) I3 ⟨1, rfl, -1, rfl, rfl, rfl⟩) fun vs s4 ⟨o, H4, I4, ps, eo, e4⟩ => ?_
  subst eo e4
  have I5 : Inv X pins σ H4 { s4 with heap := s4.heap.push { cls := .type "slice", data := .fields #[vl, vu, vs] } } := I4.kept (t' := s4.toks) fun b ob q => Heap.get?_push_of_some _ q
  obtain ⟨its, r, ht, hz⟩ := I5.tuple hx
  have hlen := r.length
  show wpAny (model X.prog X.w) X.A (subscriptTail e (.Slice none none (some (.UnaryOp .USub (.Constant (.int 1) k p1) p2)) p3) (.ref a) (.ref s4.heap.objs.size)) (EP X pins σ Q) X.xe { s4 with heap := s4.heap.push { cls := .type "slice", data := .fields #[vl, vu, vs] } }
  refine tail_any (ops := [.ref a, .ref s4.heap.objs.size]) ht.typeIs (PyProof.Rows.slot_tuple_getitem.lookup) ?_ (by with_unfolding_all rfl)
  refine BmRev.getItem_tuple_rev ht (Heap.IsSliceOf.new _ vl vu vs) pl pu ps ?_ (by rw [List.size_toArray]; omega)
  refine ⟨.ref _, _, I5.laid (t' := s4.toks) (o := .tup xs.reverse) (fun b ob q => Heap.get?_push_of_some _ q) (Nat.le_refl _) ?_, rfl, q _ (I5.hok.fresh (Nat.le_refl _))⟩
  exact ⟨by rw [List.length_reverse]; exact hz, _, r.reverse, IsTup.new _ _⟩
theorem RepTL.reverse {K : PySem.W.Frag} {cm : Str → Addr} {I : Hp} : ∀ {ts : List T} {xs : List V}, RepTL K cm I ts xs → RepTL K cm I ts.reverse xs.reverse
  | [], xs, h => by rw [inv_nil h]; exact RepTL.nil
  | t :: ts, xs, h => by
    obtain ⟨x, r, rfl, h1, h2⟩ := inv_cons h
    rw [List.reverse_cons, List.reverse_cons]
    exact RepTL.append h2.reverse (RepTL.cons h1 RepTL.nil)
def gRevT (d : D) (M : List MO) : Res D := match d with
  | .t (.tup ts) => .ok (.t (.tup ts.reverse)) M
  | _ => .fail
def eRevT (F : FE) : FE := fun sl M => (F sl M).bind gRevT
theorem de_revT (h : DE X W e F) : DE X W (.Subscript e (.Slice none none (some (.UnaryOp .USub (.Constant (.int 1) k p1) p2)) p3) pos) (eRevT F) :=
  (pe_revT h).imp fun σ H Q ⟨μ, I, sl, M, s, rs, p⟩ => ⟨μ, I, sl, M, s, rs, (Post.bind (R := RD X.K (cmOf X.mg)) p).imp fun x H1 ⟨μ1, I1, M1, d, st, ra, pp⟩ => by
    unfold gRevT at pp
    split at pp
    · rename_i ts
      obtain ⟨a, xs, rfl, h1, h2⟩ := inv_tup ra
      refine ⟨a, xs, rfl, sqT_ex st.sim.sub h1, fun q hq => ?_⟩
      have s2 : StepT I1 H1 (upd I1 q (.tup xs.reverse)) (upd H1 q (.tup xs.reverse)) := stepT_new st.sim.sub hq
      refine pp μ1 _ _ _ (s2.step st.sim) ?_
      show RepT X.K (cmOf X.mg) _ (.tup ts.reverse) (.ref q)
      unfold RepT
      exact ⟨q, xs.reverse, rfl, .inl upd_same, RepTL.mono s2.ii _ _ h2.reverse⟩
    · exact pp.elim⟩
end
end Bm

/-! enumerate over a tuple. -/
namespace BmEnum
open PySem
set_option maxHeartbeats 1000000 in
theorem meets_enumerate_new1 {v : Value} {o : Obj} {H : Heap → Prop} (B : Begins v o H) :
    Meets (Builtin.«enumerate.__new__» ⟨[.type "enumerate", v], []⟩) (fun _ R s => H s.heap ∧
      R (.ok (.ret (.ref (s.heap.push o).objs.size))) { s with heap := (s.heap.push o).push { cls := .type "enumerate", data := .fields #[.none, .bool false, .ref s.heap.objs.size, rawInt 0, .none, .none] } }) :=
  .of_wp fun prog w A R s h => by
    obtain ⟨hp, g, d, tk, os⟩ := s; obtain ⟨h1, h⟩ := h
    have hsub := sub_enumerate
    have q1 : ∀ {A' : Around} {E : Value → Shared → Prop} {Q : Value → Shared → Prop}, Q (.ref hp.objs.size) ⟨hp.push o, g, d, tk, os⟩ → wpAny (model prog w) A' (pyIter v) Q E ⟨hp, g, d, tk, os⟩ :=
      fun q => B.iter prog w _ _ ⟨hp, g, d, tk, os⟩ _ h1 q
    wp_walk using q1
    refine wpAny_stack_any fun st => wpAny_pure ?_
    split
    · rename_i c _ _ _ _ _
      cases (c == Value.type "enumerate")
      · wp_walk using q1
        exact ⟨_, rfl, h⟩
      · wp_walk using q1
        exact ⟨_, rfl, h⟩
    · wp_walk using q1
      exact ⟨_, rfl, h⟩
section
variable {prog : Program} {w : World} {A : Around} {E : Value → Shared → Prop} {s : Shared}
theorem enum_begins1 {v : Value} {o : Obj} {H : Heap → Prop} {Q : Value → Shared → Prop} (B : Begins v o H) (h1 : H s.heap)
    (h : ∀ h', IsEnum h' (s.heap.objs.size + 1) s.heap.objs.size 0 .none → h'.get? s.heap.objs.size = some o → h'.objs.size = s.heap.objs.size + 2 →
      (∀ b o, s.heap.get? b = some o → h'.get? b = some o) → Q (.ref (s.heap.objs.size + 1)) { s with heap := h' }) :
    wpAny (model prog w) A (call (.type "enumerate") [v]) Q E s := by
  refine callType_new F.called_enumerate (by decide) (F.typeCall_enumerate_1 _) (F.newCall_enumerate_1 _) (fun obj => F.args_object_init_2 obj _) F.entry_enumerate_new
    (meets_enumerate_new1 B) ⟨h1, ?_⟩
  have hz : (s.heap.push o).objs.size = s.heap.objs.size + 1 := Heap.size_push ..
  show _ ∧ _
  rw [hz]
  have he : IsEnum ((s.heap.push o).push { cls := .type "enumerate", data := .fields #[.none, .bool false, .ref s.heap.objs.size, rawInt 0, .none, .none] }) (s.heap.objs.size + 1) s.heap.objs.size 0 .none := by
    have := Heap.get?_push_size (s.heap.push o) (o := { cls := .type "enumerate", data := .fields #[.none, .bool false, .ref s.heap.objs.size, rawInt 0, .none, .none] }) rfl
    rw [hz] at this; exact this
  refine ⟨⟨_, he, rfl⟩, h _ he (Heap.get?_push_of_some _ (Heap.get?_push_size _ B.free)) (by rw [Heap.size_push, hz]) fun b o x => Heap.get?_push_of_some _ (Heap.get?_push_of_some _ x)⟩
end
end BmEnum

namespace BmEnum
open PySem PySem.Spec PyProof.Rows L2
theorem isTuple_of {h : Heap} {a : Addr} {items : Array Value} (t : IsTup h a items) : h.IsTuple a items := by
  obtain ⟨o, h1, h2, n, h3⟩ := t
  exact ⟨o, h1, h2, n, h3⟩
/-- the tuple at a, each item in a new pair -/
def IteT (K : PySem.W.Frag) (a : Addr) (n : Nat) : It :=
  ⟨fun i H => ∃ (xs : List V) (x : V), SqT K H a xs ∧ xs[i]? = some x ∧ xs.length = n, fun i H v H' => ∃ T x, v = .ref T ∧ H T = none ∧ H' = upd H T (.tup [.int (i : Nat), x]) ∧ ∀ xs, SqT K H a xs → xs[i]? = some x, fun i H => ∃ xs : List V, SqT K H a xs ∧ xs.length = n ∧ n ≤ i⟩
theorem turn_enumT {P : Program} {w : World} {K : PySem.W.Frag} {elts : List Expr} {kk : Nat} {tpos : Pos} (a e it : Addr) (n : Nat) :
    Turn P w K (.Tuple elts kk tpos) (IteT K a n) [e, it] e (fun i h => (∃ old, IsEnum h e it ((i : Nat) : Int) old) ∧ h.IsTupleIter it a i ∧ e ≠ it ∧ a ≠ it ∧ a ≠ e ∧ i ≤ n) where
  mem := by simp
  obj := fun i h st b hb => by
    obtain ⟨⟨old, he⟩, ⟨o, ho, hc, hd⟩, _⟩ := st
    have e' : b = e ∨ b = it := by simpa using hb
    rcases e' with z | z
    · rw [z]; exact ⟨_, he, fun v q => nomatch q⟩
    · rw [z]; exact ⟨o, ho, fun v q => by rw [hd] at q; cases q⟩
  keep := fun i h h' st k => let ⟨⟨old, he⟩, hi, hne⟩ := st; ⟨⟨old, k e (by simp) _ he⟩, hi.at fun o q => k it (by simp) o q, hne⟩
  item := by
    intro X hP hw hK hc i pins s σ H E I hf st hg
    subst hP hw hK
    obtain ⟨⟨old, he⟩, hit, hne, ha1, ha2, hin⟩ := st
    obtain ⟨xs, x, hq, hx, hxn⟩ := hg
    obtain ⟨its, rv, p, hz⟩ := I.tuple hq
    obtain ⟨u, hu, ru⟩ := rv.get hx
    have hel : e < s.heap.objs.size := Heap.lt_size he
    have hil : it < s.heap.objs.size := by obtain ⟨_, q, _⟩ := hit; exact Heap.lt_size q
    have hi : i < its.toArray.size := by
      have := (List.getElem?_eq_some_iff.mp hu).1
      simpa using this
    refine wpAny_pyNext_enum_itemD (Draws.tuple (show X.A.in1.handled = none from I.ok.hd hc) it a ha1 its.toArray) he ⟨hit, isTuple_of p⟩ hi hne (by intro q; rcases List.mem_cons.mp q with q | q; exact hne q; exact ha2 (List.mem_singleton.mp q).symm) fun x' h' tk hP ho hst' hT hsz hk => ?_
    have ex : x' = u := by
      have : its[i]? = some x' := by simpa using hP
      rw [hu] at this
      exact (Option.some.inj this).symm
    subst ex
    refine ⟨_, rfl, wpAny_letOwnedTupleGo_enum (s := { s with heap := h', toks := tk + 1 }) ho fun h'' he' sb => ?_⟩
    have hT2 : h''.get? s.heap.objs.size = some { cls := .type "tuple", data := .seq #[.int i tk, x'] } := (sb.2 _ (Nat.ne_of_gt hel)).trans hT
    have new : ObjOk X.prog X.w (upd H s.heap.objs.size (.tup [.int (i : Nat), x])) h'' s.heap.objs.size (.tup [.int (i : Nat), x]) :=
      ⟨by show 2 ≤ sizeLine; decide, [.int i tk, x'], .cons ⟨_, rfl⟩ (.cons ru .nil), ⟨_, hT2, rfl, _, rfl⟩⟩
    have I1 : Inv X pins σ (upd H s.heap.objs.size (.tup [.int (i : Nat), x])) { s with heap := h'', toks := tk + 1 } :=
      I.turnedNew (ch := [e, it]) (fun b ob hb q => (sb.2 b (fun z => hb (by simp [z]))).trans (hk b ob (fun z => hb (by simp [z])) (fun z => hb (by simp [z])) q)) hf (Nat.le_refl _) new
    refine ⟨.ref s.heap.objs.size, _, I1, rfl, ⟨_, x, rfl, I.hok.fresh (Nat.le_refl _), rfl, fun ys hy => ?_⟩, ⟨⟨x', ?_⟩, hst'.1.at fun o q => (sb.2 it (Ne.symm hne)).trans q, hne, ha1, ha2, by have := (List.getElem?_eq_some_iff.mp hx).1; omega⟩, fun b hb => ?_⟩
    · rw [I.tuple_inj hy hq]; exact hx
    · have e1 : ((i + 1 : Nat) : Int) = (i : Int) + 1 := by omega
      rw [e1]; exact he'
    · have hb' : b < s.heap.objs.size := by
        have e' : b = e ∨ b = it := by simpa using hb
        rcases e' with z | z
        · rw [z]; exact hel
        · rw [z]; exact hil
      rw [upd_ne (Nat.ne_of_lt hb')]
      exact (hf b hb).1
  done := by
    intro X hP hw hK hc i pins s σ H E I hf st hg
    subst hP hw hK
    obtain ⟨⟨old, he⟩, hit, hne, ha1, ha2, hin⟩ := st
    obtain ⟨xs, hq, hx, hni⟩ := hg
    obtain ⟨its, rv, p, hz⟩ := I.tuple hq
    obtain ⟨f0, f1, f2, f3, f4, f5⟩ := hf it (by simp)
    have hl := rv.length
    have ei : i = its.toArray.size := by rw [List.size_toArray]; omega
    exact wpAny_pyNext_enum_endD (Draws.tuple (show X.A.in1.handled = none from I.ok.hd hc) it a ha1 its.toArray) he ⟨by rw [← ei]; exact hit, isTuple_of p⟩ fun h' eb => ⟨rfl, I.turned (t' := s.toks) (fun b o hb q => eb b o hb q) f0 f1 f3 f4 f5⟩
  self := fun A i s Q E st h => let ⟨⟨_, he⟩, _⟩ := st; wpAny_pyIter_enum he h
def iEnumT (K : PySem.W.Frag) (ta : TA) : TI := fun σ H R => ta σ H fun vs H1 => ∃ a xs, vs = [.ref a] ∧ SqT K H1 a xs ∧ R (IteT K a xs.length) H1
theorem pi_enumT {X : Cx} {e : Expr} {ta : TA} {p pos tpos : Pos} {elts : List Expr} {kk : Nat} (hg : Gl X "enumerate") (hm : X.mg "enumerate" = none) (ha : PA X [e] ta) (hs : starEach [e] X.env = [(false, eval e X.env)] := by rfl) :
    PI X (.Tuple elts kk tpos) (.Call (.Name "enumerate" p) [e] [] pos) (iEnumT X.K ta) := by
  refine ⟨fun pins s σ H R I h => ?_⟩
  refine Call_ (ld_blt I hg hm boot_enumerate (PyProof.Rows.callWith_type1 (thn (ha.run pos pins s σ H _ I h) fun us s1 ⟨vs, H1, I1, r1, q1⟩ => ?_) hs rfl))
  obtain ⟨a, xs, ex, hq, q⟩ := q1
  subst ex
  cases r1 with
  | cons r rr =>
    cases rr
    cases r
    obtain ⟨its, rv, p', hz⟩ := I1.tuple hq
    have hal : a < s1.heap.objs.size := by obtain ⟨_, hh, _⟩ := p'; exact Heap.lt_size hh
    refine enum_begins1 (begins_tuple a its.toArray) (isTuple_of p') fun h' he hit hsz hk => wpAny_pyIter_enum he ?_
    have I2 : Inv X pins σ H1 { s1 with heap := h' } := I1.kept (t' := s1.toks) hk
    refine ⟨s1.heap.objs.size + 1, [s1.heap.objs.size + 1, s1.heap.objs.size], _, _, H1, rfl, I2, turn_enumT a (s1.heap.objs.size + 1) s1.heap.objs.size xs.length, ⟨⟨.none, he⟩, ⟨_, hit, rfl, rfl⟩, Nat.succ_ne_self _, Nat.ne_of_lt hal, Nat.ne_of_lt (Nat.lt_succ_of_lt hal), Nat.zero_le _⟩, fun b hb => ?_, q⟩
    have e' : b = s1.heap.objs.size + 1 ∨ b = s1.heap.objs.size := by simpa using hb
    have hle : s1.heap.objs.size ≤ b := by
      rcases e' with z | z
      · rw [z]; exact Nat.le_add_right _ _
      · rw [z]; exact Nat.le_refl _
    exact I1.fpOk hle (I1.hok.fresh hle)
end BmEnum

namespace Bm
open PySem L2 PyProof.Rows BmEnum
def enumT (ts : List T) : List T := zipT (rangeT 0 ts.length) ts
theorem enumT_len {ts : List T} : (enumT ts).length = ts.length := by
  unfold enumT
  rw [zipT_len]
  unfold rangeT
  simp
theorem enumT_get {ts : List T} {i : Nat} {t : T} (h : (enumT ts)[i]? = some t) : ∃ b, ts[i]? = some b ∧ t = .tup [.int (i : Int), b] := by
  obtain ⟨a, b, h1, h2, rfl⟩ := zipT_get h
  refine ⟨b, h2, ?_⟩
  unfold rangeT at h1
  rw [List.getElem?_map] at h1
  cases q : (List.range ts.length)[i]? with
  | none => rw [q] at h1; cases h1
  | some j =>
    rw [q] at h1
    have hj : j = i := by
      have := List.getElem?_eq_some_iff.mp q
      obtain ⟨hl, e⟩ := this
      rw [List.getElem_range] at e
      exact e.symm
    subst hj
    have := Option.some.inj h1
    rw [← this]
    show T.tup [T.int (0 + (j : Int)), b] = _
    rw [Int.zero_add]
theorem items_enumT {K : PySem.W.Frag} {cm : Str → Addr} {a : Addr} {xs : List V} {ts : List T} {I : Hp} (ha : SqT K I a xs) (ra : RepTL K cm I ts xs) : ItemsOf K cm (IteT K a xs.length) I (enumT ts) where
  go := fun i H e hi => by
    rw [enumT_len] at hi
    obtain ⟨x, h1, _⟩ := ra.get (List.getElem?_eq_getElem hi)
    exact ⟨xs, x, sqT_ex e ha, h1, rfl⟩
  stop := fun H e => ⟨xs, sqT_ex e ha, rfl, by rw [enumT_len, ra.length]; exact Nat.le_refl _⟩
  item := fun i I1 H x H' t e1 e2 ht y => by
    obtain ⟨T, u, rfl, n, rfl, y1⟩ := y
    obtain ⟨b, h1, rfl⟩ := enumT_get ht
    obtain ⟨b', q1, r1⟩ := ra.getV (y1 xs (sqT_ex e2 (sqT_ex e1 ha)))
    rw [h1] at q1; cases q1
    exact ⟨_, StepT.new e2 n, rep_pair (e2.free n) (by unfold RepT; rfl) (RepT.mono e1 _ _ r1)⟩
def iEn : List D → List MO → Res (List T) := fun ds M => match ds with
  | [.t (.tup ts)] => .ok (enumT ts) M
  | _ => .fail
def iE1 (fs : Fn (List D)) : Fn (List T) := fun sl M => (fs sl M).bind iEn
theorem di_enum {X : Cx} {W : WX} {a : Expr} {fs : Fn (List D)} {pos : Pos} {elts : List Expr} {kk : Nat} {tpos q : Pos} (hg : Gl X "enumerate") (hm : X.mg "enumerate" = none) (ha : DA X W [a] fs) (hs : starEach [a] X.env = [(false, eval a X.env)] := by rfl) :
    DI X W (.Tuple elts kk tpos) (.Call (.Name "enumerate" q) [a] [] pos) (iE1 fs) :=
  PI.imp (pi_enumT hg hm ha hs) fun σ H R ⟨μ, I, sl, M, s, rs, p⟩ => ⟨μ, I, sl, M, s, rs, (Post.bind (R := RL X.K (cmOf X.mg)) p).imp fun x H1 ⟨μ1, I1, M1, ds, st, ra, p1⟩ => by
    unfold iEn at p1
    split at p1
    · rename_i ts
      obtain ⟨v, rfl, r1⟩ := inv1 ra
      obtain ⟨a', xs, rfl, h1, h2⟩ := inv_tup r1
      exact ⟨a', xs, rfl, sqT_ex st.sim.sub h1, p1 μ1 I1 H1 _ (Step.refl st.sim) (items_enumT h1 h2)⟩
    · exact p1.elim⟩
end Bm

/-! x in o, x not in o by an own __contains__ that answers a truth. -/
namespace Bm
open PySem L2 PyProof.Rows
def rInI (C : Addr) (sp : Sp) (neg : Bool) : R2 := fun x y H Q => ∃ a dx fs, y = .ref a ∧ H a = some (.ins C dx fs) ∧ sp [y, x] H (fun v H' => ∃ k, v = .bl k ∧ Q (.bl (neg != k)) H') E0
section
variable {X : Cx} {C g : Addr} {sp : Sp} {k : Nat}
theorem op_inC (hs : PySem.W.findIn X.K (.ref C) "__contains__" = some (some (.ref g))) (hf : PySem.W.isFn X.K (.ref g) = true) (F : FnR X.prog X.w X.K X.mg X.base (L2.CX X.prog X.w) k g sp) (hr : Room k X.A) : OpR X (compareOp .In) (rInI C sp false) := by
  intro pins s σ H x y v u Q I rx ry h
  obtain ⟨a, dx, fs, rfl, ha, q⟩ := h
  cases (show u = Value.ref a from ry)
  obtain ⟨mA, O, _, _, _, _⟩ := ins_get I.hok ha
  obtain ⟨od, J, _⟩ := O.look
  obtain ⟨m, hF⟩ := I.fr
  refine PySem.W.in_K hF I.ok.mod.kin J hs hf ?_
  refine wpAny_mono (wpAny_call (SlX.run_at (us := [.ref a, v]) (ws := [.ref a, x]) F hr I.env0 passes_false I (.cons rfl (.cons rx .nil)) q)) (fun w s' z => ?_) fun _ _ x => x
  obtain ⟨z', H', I', rz, k', rfl, qz⟩ := z
  cases (show w = Value.bool k' from rz)
  rw [Bool.false_bne] at qz
  exact wpAny_truthy_bool ⟨.bl k', H', I', rfl, qz⟩
theorem op_notInC (hs : PySem.W.findIn X.K (.ref C) "__contains__" = some (some (.ref g))) (hf : PySem.W.isFn X.K (.ref g) = true) (F : FnR X.prog X.w X.K X.mg X.base (L2.CX X.prog X.w) k g sp) (hr : Room k X.A) : OpR X (compareOp .NotIn) (rInI C sp true) := by
  intro pins s σ H x y v u Q I rx ry h
  obtain ⟨a, dx, fs, rfl, ha, q⟩ := h
  cases (show u = Value.ref a from ry)
  obtain ⟨mA, O, _, _, _, _⟩ := ins_get I.hok ha
  obtain ⟨od, J, _⟩ := O.look
  obtain ⟨m, hF⟩ := I.fr
  refine PySem.W.notIn_K hF I.ok.mod.kin J hs hf ?_
  refine wpAny_mono (wpAny_call (SlX.run_at (us := [.ref a, v]) (ws := [.ref a, x]) F hr I.env0 passes_false I (.cons rfl (.cons rx .nil)) q)) (fun w s' z => ?_) fun _ _ x => x
  obtain ⟨z', H', I', rz, k', rfl, qz⟩ := z
  cases (show w = Value.bool k' from rz)
  rw [Bool.true_bne] at qz
  exact wpAny_truthy_bool ⟨.bl (!k'), H', I', rfl, qz⟩
end
end Bm

/-! own __contains__, __repr__; max(.., default=..); calls with keywords and stars; operators of trees and of instances. -/
namespace Bm
open PySem L2 PyProof.Rows
/-! ### x in o -/
def gInI (c : Str) (fp : List T → PR) (neg : Bool) : G2 := fun a b M => if isInsN c "" b then (match gCallR fp [b, a] M with
  | .ok (.t (.bl k)) M2 => .ok (.t (.bl (neg != k))) M2
  | _ => .fail) else .fail
theorem dop_inI {K : PySem.W.Frag} {cm : Str → Addr} {c : Str} {fp : List T → PR} {neg : Bool} : DOp K cm (rInI (cm c) (spR K cm fp) neg) (gInI c fp neg) := fun μ I M H x y a b Q Wx s ra rb p => by
  unfold gInI at p
  split at p
  · rename_i hi
    obtain ⟨a1, dx, ns, ts, xs, rfl, rfl, hA, _, _, _⟩ := insN_inv hi rb
    refine ⟨a1, dx, _, rfl, s.sub _ _ hA, sp_callR s (RepDL.cons rb (RepDL.cons ra RepDL.nil)) ?_⟩
    split at p
    · rename_i k M2 e
      rw [e]
      intro μ' I' H' b' st rb'
      have eb : b' = .bl k := by have := rb'; unfold RD RepD RepT at this; exact this
      exact ⟨k, eb, p μ' I' H' _ st (by unfold RD RepD RepT; rfl)⟩
    · exact p.elim
  · exact p.elim
/-! ### operators of trees and of instances of one class -/
def isInsD : D → Bool
  | .t (.ins _ _ _) => true
  | _ => false
def gOr2 (ch : D → D → List MO → Bool) (g g' : G2) : G2 := fun a b M => if ch a b M then g a b M else g' a b M
def gEqC (c : Str) (fp : List T → PR) : G2 := gOr2 (fun a _ _ => isInsD a) (gCmpI c fp false) (g2 eqT)
def gNeC (c : Str) (fp : List T → PR) : G2 := gOr2 (fun a _ _ => isInsD a) (gCmpI c fp true) (g2 neT)
def gInC (c : Str) (fp : List T → PR) (neg : Bool) : G2 := gOr2 (fun _ b _ => isInsD b) (gInI c fp neg) (g2 (inT neg))
def rOr (r r' : R2) : R2 := fun x y H Q => r x y H Q ∨ r' x y H Q
theorem dop_eqC {K : PySem.W.Frag} {cm : Str → Addr} {c : Str} {fp : List T → PR} : DOp K cm (rOr (rCmpI (cm c) (spR K cm fp) false) (fun x y H Q => rEq x y H Q ∨ rEqD K x y H Q)) (gEqC c fp) := DOp.or dop_cmpI top_eq.d
theorem dop_neC {K : PySem.W.Frag} {cm : Str → Addr} {c : Str} {fp : List T → PR} : DOp K cm (rOr (rCmpI (cm c) (spR K cm fp) true) (fun x y H Q => rNe x y H Q ∨ rNeD K x y H Q)) (gNeC c fp) := DOp.or dop_cmpI top_ne.d
theorem dop_inC {K : PySem.W.Frag} {cm : Str → Addr} {c : Str} {fp : List T → PR} {neg : Bool} : DOp K cm (rOr (rInI (cm c) (spR K cm fp) neg) (rInA K neg)) (gInC c fp neg) := DOp.or dop_inI top_in.d
section
variable {X : Cx} {C g : Addr} {sp : Sp} {k : Nat}
theorem op_eqX (cc : CmpC X.K C g) (F : FnR X.prog X.w X.K X.mg X.base (L2.CX X.prog X.w) k g sp) (hr : Room k X.A) : OpR X (compareOp .Eq) (rOr (rCmpI C sp false) (fun x y H Q => rEq x y H Q ∨ rEqD X.K x y H Q)) := (op_eqC cc F hr).or (op_eqA hr.units)
theorem op_neX (cc : CmpC X.K C g) (F : FnR X.prog X.w X.K X.mg X.base (L2.CX X.prog X.w) k g sp) (hr : Room (k + 1) X.A) : OpR X (compareOp .NotEq) (rOr (rCmpI C sp true) (fun x y H Q => rNe x y H Q ∨ rNeD X.K x y H Q)) := (op_neC cc F hr).or (op_neA hr.units)
theorem op_inX (hs : PySem.W.findIn X.K (.ref C) "__contains__" = some (some (.ref g))) (hf : PySem.W.isFn X.K (.ref g) = true) (F : FnR X.prog X.w X.K X.mg X.base (L2.CX X.prog X.w) k g sp) (hr : Room k X.A) : OpR X (compareOp .In) (rOr (rInI C sp false) (rInA X.K false)) := (op_inC hs hf F hr).or op_inA
theorem op_notInX (hs : PySem.W.findIn X.K (.ref C) "__contains__" = some (some (.ref g))) (hf : PySem.W.isFn X.K (.ref g) = true) (F : FnR X.prog X.w X.K X.mg X.base (L2.CX X.prog X.w) k g sp) (hr : Room k X.A) : OpR X (compareOp .NotIn) (rOr (rInI C sp true) (rInA X.K true)) := (op_notInC hs hf F hr).or op_notInA
end
theorem DCall.or {K : PySem.W.Frag} {cm : Str → Addr} {r r' : List V → Hp → VK → Prop} {g g' : GC} {ch : List D → Bool} (h : DCall K cm r g) (h' : DCall K cm r' g') : DCall K cm (fun xs H Q => r xs H Q ∨ r' xs H Q) (fun ds M => if ch ds then g ds M else g' ds M) := fun μ I M H ds vs Q Wx s ra p => by
  have p : Post K cm (RD K cm) μ I M H Wx (if ch ds then g ds M else g' ds M) Q := p
  by_cases hc : ch ds = true
  · rw [if_pos hc] at p; exact .inl (h μ I M H ds vs Q Wx s ra p)
  · rw [if_neg hc] at p; exact .inr (h' μ I M H ds vs Q Wx s ra p)
def isIns1 : List D → Bool
  | [d] => isInsD d
  | _ => false
/-! ### len(..) -/
def gLenC (c : Str) (fp : List T → PR) : GC := fun ds M => if isIns1 ds then gLenI c fp ds M else gLen ds M
section
variable {X : Cx} {W : WX} {e : Expr} {fs : Fn (List D)} {pos q : Pos} {c : Str} {fp : List T → PR} {g : Addr} {k : Nat}
theorem de_lenC (hs : PySem.W.findIn X.K (.ref (cmOf X.mg c)) "__len__" = some (some (.ref g))) (hf : PySem.W.isFn X.K (.ref g) = true) (F : FnR X.prog X.w X.K X.mg X.base (L2.CX X.prog X.w) k g (spR X.K (cmOf X.mg) fp)) (hr : Room (k + 1) X.A) (hg : Gl X "len") (hm : X.mg "len" = none) (ha : DA X W [e] fs) (he : starEach [e] X.env = (false, eval e X.env) :: starEach [] X.env := by rfl) : DE X W (.Call (.Name "len" q) [e] [] pos) (eCB (gLenC c fp) fs) :=
  de_callB (CallR.or (call_lenI hs hf F hr) call_len) (DCall.or dc_lenI dc_len) hg hm PySem.boot_len ha (he := he)
end
/-! ### repr(..) -/
section
variable {X : Cx} {C g : Addr} {sp : Sp} {k : Nat}
def rReprI (C : Addr) (sp : Sp) : List V → Hp → VK → Prop := fun xs H Q => ∃ a dx fs, xs = [V.ref a] ∧ H a = some (.ins C dx fs) ∧ sp [.ref a] H (fun v H' => ∃ z, v = .str z ∧ Q (.str z) H') E0
theorem call_reprI (hs : PySem.W.findIn X.K (.ref C) "__repr__" = some (some (.ref g))) (hf : PySem.W.isFn X.K (.ref g) = true) (F : FnR X.prog X.w X.K X.mg X.base (L2.CX X.prog X.w) k g sp) (hr : Room (k + 1) X.A) : CallR X (.builtin "repr") (rReprI C sp) := by
  intro pins s σ H xs us Q I r h
  obtain ⟨a, dx, fs, rfl, ha, q⟩ := h
  obtain rfl := Vals.ref1 r
  obtain ⟨mA, O, _, _, _, _⟩ := ins_get I.hok ha
  obtain ⟨od, J, _⟩ := O.look
  obtain ⟨m, hF⟩ := I.fr
  refine PySem.W.repr_K hr.in1.units0 hF I.ok.mod.kin J hs hf ?_
  refine wpAny_mono (wpAny_call (SlX.run_at (us := [.ref a]) (ws := [.ref a]) F hr.in1 I.env0.in1 passes_false I (.cons rfl .nil) q)) (fun w s' z => ?_) fun _ _ x => x
  obtain ⟨z', H', I', rz, y, rfl, qz⟩ := z
  obtain ⟨t, rfl⟩ := (show ∃ t, w = Value.str y t from rz)
  exact ⟨.str y, H', I', ⟨t, rfl⟩, qz⟩
end
def gReprI (c : Str) (fp : List T → PR) : GC := fun ds M => match ds with
  | [d] => if isInsN c "" d then (match gCallR fp [d] M with
    | .ok (.t (.str i)) M2 => .ok (.t (.str i)) M2
    | _ => .fail) else .fail
  | _ => .fail
theorem dc_reprI {K : PySem.W.Frag} {cm : Str → Addr} {c : Str} {fp : List T → PR} : DCall K cm (rReprI (cm c) (spR K cm fp)) (gReprI c fp) := fun μ I M H ds vs Q Wx s rr p => by
  unfold gReprI at p
  split at p
  · rename_i d
    split at p
    · rename_i hi
      obtain ⟨x, rfl, rx⟩ := inv1 rr
      obtain ⟨a1, dx, ns, ts, xs, rfl, rfl, hA, _, _, _⟩ := insN_inv hi rx
      refine ⟨a1, dx, _, rfl, s.sub _ _ hA, sp_callR s (RepDL.cons rx RepDL.nil) ?_⟩
      split at p
      · rename_i k M2 e
        rw [e]
        intro μ' I' H' b' st rb'
        have eb : b' = .str k := by have := rb'; unfold RD RepD RepT at this; exact this
        exact ⟨k, eb, p μ' I' H' _ st (by unfold RD RepD RepT; rfl)⟩
      · exact p.elim
    · exact p.elim
  · exact p.elim
theorem boot_repr : bootBuiltins "repr" = some (.builtin "repr") := by with_unfolding_all decide +kernel
section
variable {X : Cx} {W : WX} {e : Expr} {fs : Fn (List D)} {pos q : Pos} {c : Str} {fp : List T → PR} {g : Addr} {k : Nat}
theorem de_reprI (hs : PySem.W.findIn X.K (.ref (cmOf X.mg c)) "__repr__" = some (some (.ref g))) (hf : PySem.W.isFn X.K (.ref g) = true) (F : FnR X.prog X.w X.K X.mg X.base (L2.CX X.prog X.w) k g (spR X.K (cmOf X.mg) fp)) (hr : Room (k + 1) X.A) (hg : Gl X "repr") (hm : X.mg "repr" = none) (ha : DA X W [e] fs) (he : starEach [e] X.env = (false, eval e X.env) :: starEach [] X.env := by rfl) : DE X W (.Call (.Name "repr" q) [e] [] pos) (eCB (gReprI c fp) fs) :=
  de_callB (call_reprI hs hf F hr) dc_reprI hg hm boot_repr ha (he := he)
end
/-! ### max -/
def maxI : List Int → Int
  | [] => 0
  | x :: xs => xs.foldl (fun a y => if a < y then y else a) x
theorem maxI_ge : ∀ (xs : List Int) (a : Int), a ≤ xs.foldl (fun a y => if a < y then y else a) a ∧ ∀ y ∈ xs, y ≤ xs.foldl (fun a y => if a < y then y else a) a
  | [], a => ⟨Int.le_refl _, fun _ h => by cases h⟩
  | x :: xs, a => by
    obtain ⟨h1, h2⟩ := maxI_ge xs (if a < x then x else a)
    rw [List.foldl_cons]
    have h0 : a ≤ (if a < x then x else a) ∧ x ≤ (if a < x then x else a) := by split <;> omega
    refine ⟨Int.le_trans h0.1 h1, fun y hy => ?_⟩
    rcases List.mem_cons.mp hy with rfl | hy
    · exact Int.le_trans h0.2 h1
    · exact h2 y hy
theorem maxI_mem : ∀ (xs : List Int) (a : Int), xs.foldl (fun a y => if a < y then y else a) a ∈ a :: xs
  | [], a => by simp
  | x :: xs, a => by
    rw [List.foldl_cons]
    have h := maxI_mem xs (if a < x then x else a)
    rcases List.mem_cons.mp h with h | h
    · rw [h]
      split <;> simp
    · exact List.mem_cons_of_mem _ (List.mem_cons_of_mem _ h)
def gMaxL : GC
  | [d], M => (match lstOf M d with
    | some ts => (match intsOf ts with
      | some is => if is = [] then .fail else .ok (.t (.int (maxI is))) M
      | none => .fail)
    | none => .fail)
  | _, _ => .fail
theorem dc_maxL {K : PySem.W.Frag} {cm : Str → Addr} : DCall K cm (rMax K) gMaxL := fun μ I M H ds vs Q Wx s rr p => by
  unfold gMaxL at p
  split at p
  · obtain ⟨x, rfl, rx⟩ := inv1 rr
    split at p
    · rename_i ts e
      split at p
      · rename_i is e2
        split at p
        · exact p.elim
        · rename_i hne
          obtain ⟨a, xs, rfl, h1, h2⟩ := lstOf_ok s rx e
          rw [ints_ok h2 e2] at h1
          refine ⟨a, is, rfl, SqL.of h1, List.length_pos_iff.mpr hne, fun m hm hmx => ?_⟩
          have em : m = maxI is := by
            cases is with
            | nil => exact absurd rfl hne
            | cons i is =>
              have a1 := hmx _ (maxI_mem is i)
              have a2 : m ≤ maxI (i :: is) := by
                obtain ⟨g1, g2⟩ := maxI_ge is i
                rcases List.mem_cons.mp hm with rfl | hm
                · exact g1
                · exact g2 _ hm
              exact Int.le_antisymm a2 a1
          rw [em]
          exact p.int s
      · exact p.elim
    · exact p.elim
  · exact p.elim
section
variable {X : Cx} {W : WX} {e : Expr} {fs : Fn (List D)} {pos q : Pos}
theorem de_maxL (hc : X.calm = true) (hg : Gl X "max") (hm : X.mg "max" = none) (ha : DA X W [e] fs) (he : starEach [e] X.env = (false, eval e X.env) :: starEach [] X.env := by rfl) : DE X W (.Call (.Name "max" q) [e] [] pos) (eCB gMaxL fs) :=
  de_callB (cr_max hc) dc_maxL hg hm boot_max ha (he := he)
end
/-- max(xs, default=d) -/
def rMaxD (K : PySem.W.Frag) : List V → List V → Hp → VK → Prop := fun vs zs H Q => ∃ (a : Addr) (ns : List Int) (d : V), vs = [V.ref a] ∧ zs = [d] ∧ SqL K H a (ns.map V.int) ∧ (ns = [] → Q d H) ∧ (ns ≠ [] → Q (.int (maxI ns)) H)
theorem maxOf_eq (y : Int) (ys : List Int) : PySem.W.maxOf y ys = maxI (y :: ys) := by
  unfold PySem.W.maxOf maxI
  congr 1
  funext a b
  show (if decide (a < b) = true then b else a) = _
  by_cases h : a < b
  · rw [if_pos h, if_pos (decide_eq_true h)]
  · rw [if_neg h, if_neg (by simpa using h)]
theorem call_maxD {X : Cx} (hc : X.calm = true) {k : Nat} (hr : Room k X.A) : CallRK X (.builtin "max") [Str.ofString "default"] (rMaxD X.K) := by
  intro pins s σ H vs zs us ws Q I r rz h
  obtain ⟨a, ns, d, rfl, rfl, hs, q0, q1⟩ := h
  obtain rfl := Vals.ref1 r
  obtain ⟨w1, rfl, e1⟩ := vals1 rz
  obtain ⟨its, rv, hl, hz⟩ := I.list hs
  refine PySem.W.max_list_datum_default (α := Int) (xs := ns) (I.ok.hd hc) hl.isList (PySem.W.HoldAll.of_ints (by simpa using rv.ints)) (by have := hr.units0; show X.A.units + 1 + 0 < cLine; have := hr.units; omega) (fun e h' tk hk => ?_) fun y ys i v h' tk e hv hh hk => ?_
  · exact ⟨d, H, I.kept hk, e1, q0 e⟩
  · obtain ⟨as, hh⟩ := hh
    have hh : PySem.Reads h' v (.int (PySem.W.maxOf y ys)) as := hh
    obtain ⟨t, rfl⟩ : ∃ t, v = Value.int (PySem.W.maxOf y ys) t := by cases hh; exact ⟨_, rfl⟩
    exact ⟨.int _, H, I.kept hk, ⟨t, rfl⟩, by rw [maxOf_eq, ← e]; exact q1 (by rw [e]; simp)⟩
end Bm

/-! calls with keywords and stars. -/
namespace Bm
open PySem L2 PyProof.Rows
def eCK (g : List D → List D → List MO → Res D) (fs fk : Fn (List D)) : FE := fun sl M => (fs sl M).bind fun ds M1 => (fk sl M1).bind fun es M2 => g ds es M2
def gMaxD : List D → List D → List MO → Res D
  | [d], [e], M => (match lstOf M d with
    | some ts => (match intsOf ts with
      | some is => if is = [] then .ok e M else .ok (.t (.int (maxI is))) M
      | none => .fail)
    | none => .fail)
  | _, _, _ => .fail
section
variable {X : Cx} {W : WX} {e : Expr} {fs fk : Fn (List D)} {kws : List Keyword} {pos q : Pos}
theorem de_maxD {k : Nat} (hr : Room k X.A) (hc : X.calm = true) (hg : Gl X "max") (hm : X.mg "max" = none) (ha : DA X W [e] fs) (hk : DK X W kws fk)
    (he : backTo pos (starEach [e] X.env) = (false, eval e X.env) :: backTo pos (starEach [] X.env) := by rfl) (hpl : (backTo pos (starEach [e] X.env)).any (·.1) = false := by rfl)
    (hall : (backToKw pos (keywordEach kws X.env)).all (·.1.isSome) = true := by rfl) (hnone : (backToKw pos (keywordEach kws X.env)).any (·.1.isNone) = false := by rfl) (hks : (backToKw pos (keywordEach kws X.env)).filterMap (·.1) = [Str.ofString "default"] := by rfl) :
    DE X W (.Call (.Name "max" q) [e] kws pos) (eCK gMaxD fs fk) :=
  (pe_callBK (call_maxD hc hr) hg hm boot_max ha hk (he := he) (hpl := hpl) (hall := hall) (hnone := hnone) (hks := hks)).imp fun σ H Q ⟨μ, I, sl, M, s, rs, p⟩ => ⟨μ, I, sl, M, s, rs, (Post.bind (R := RL X.K (cmOf X.mg)) p).imp fun x H1 ⟨μ1, I1, M1, ds, st, ra, p1⟩ =>
    ⟨μ1, I1, sl, M1, st.sim, rs.mono st.gr, (Post.bind (R := RL X.K (cmOf X.mg)) p1).imp fun y H2 ⟨μ2, I2, M2, es, st2, rb, p2⟩ => by
      unfold gMaxD at p2
      split at p2
      · rename_i d e
        obtain ⟨x, rfl, rx⟩ := inv1 (RepDL.mono st2.gr ra)
        obtain ⟨y, rfl, ry⟩ := inv1 rb
        split at p2
        · rename_i ts e1
          split at p2
          · rename_i is e2
            obtain ⟨a, xs, rfl, h1, h2⟩ := lstOf_ok st2.sim rx e1
            rw [ints_ok h2 e2] at h1
            refine ⟨a, is, y, rfl, rfl, SqL.of h1, fun hn => ?_, fun hn => ?_⟩
            · rw [if_pos hn] at p2
              exact p2.here st2.sim ry
            · rw [if_neg hn] at p2
              exact p2.int st2.sim
          · exact p2.elim
        · exact p2.elim
      · exact p2.elim⟩⟩
end
section
variable {X : Cx} {W : WX} {c x m : Str} {fi : List T → IR} {fp : List T → PR} {o e : Expr} {es : List Expr} {fo : FE} {fs : Fn (List D)} {f : Addr} {k n : Nat} {p apos pos : Pos} {kws : List Keyword} {ks ps : List Str} {fd : FuncData} {pl : Sem Bool}
/-- C(a, .., *xs) -/
theorem de_makeS (Mk0 : Mk X.K (cmOf X.mg c) f) (F : FnR X.prog X.w X.K X.mg X.base (L2.CX X.prog X.w) k f (spI X.K (cmOf X.mg) c fi)) (hr : Room (k + 1) X.A) (hg : Gl X x) (hm : X.mg x = some (.ref (cmOf X.mg c))) (lt : Lets X W) (ha : DA X W (e :: es) fs) (hdb : (x == ("__debug__" : Str)) = false := by decide)
    (he : starEach (e :: es) X.env = (false, eval e X.env) :: starEach es X.env := by rfl) (hst : (backTo pos (starEach es X.env)).any (·.1) = true := by rfl) : DE X W (.Call (.Name x p) (e :: es) [] pos) (eMake c fi fs) := by
  refine ⟨fun pins s σ H Q I h => ?_⟩
  obtain ⟨μ, I0, sl, M, s0, rs, p1⟩ := h
  refine wpAny_Call_Name_kw (ld_glob I hg hm ?_ hdb)
  refine PySem.W.callWith_S2 (h₀ := X.base) I.ok.mod.kin Mk0.kp (thn (ha.run pos pins s σ H _ I ⟨μ, I0, sl, M, s0, rs, Post.bind (R := RL X.K (cmOf X.mg)) p1⟩) fun us s1 ⟨vs, H1, I1, r, μ1, I01, M1, ds, st, ra, p2⟩ => ⟨I1.kIn, ?_⟩) he hst
  exact run_makeS Mk0 F hr (lt σ) I1 r fun x dx n1 n2 ne => sp_make st.sim ra p2 n1 n2 ne
/-- what a call with keywords alone binds -/
def KwB (K : PySem.W.Frag) (fd : FuncData) (first : Nat) (ks ps : List Str) (π : List Nat) : Prop :=
  ∀ (s : Shared) (os ws : List Value), K.In s.heap → os.length = first → ws.length = ks.length → BindsTo s fd ⟨os, ks.zip ws⟩ (ps.zip (os ++ perm π ws))
theorem perm_vals' {π : List Nat} {vs : List V} {us : List Value} (r : Vals vs us) (h : ∀ i ∈ π, i < vs.length) : Vals (perm π vs) (perm π us) := perm_vals r h
/-- the def at f is run with positional and keyword arguments -/
theorem run_K {σ : L2.St} {E : XK} {pins : List (Addr × Obj)} {H : Hp} {s : Shared} {Q : VK} {os ws : List Value} {xs zs : List V} {π : List Nat} {sp : Sp} (F : FnOk X.prog X.w X.K X.mg X.base (L2.CX X.prog X.w) k f fd ps sp) (hr : Room k X.A) (hx : PassesAt (L2.CX X.prog X.w) X σ E)
    (hb : KwB X.K fd os.length ks ps π) (I : Inv X pins σ H s) (ro : Vals xs os) (rw : Vals zs ws) (hl : ws.length = ks.length) (hπ : ∀ i ∈ π, i < zs.length) (h : sp (xs ++ perm π zs) H Q E) : wpAny (model X.prog X.w) X.A (call (.ref f) os (ks.zip ws)) (EP X pins σ Q) X.xe s := by
  refine wpAny_call (codeAny_mono (F.run X.A X.stack s H ⟨os, ks.zip ws⟩ (os ++ perm π ws) (xs ++ perm π zs) Q E hr I.env0 (hb s os ws I.kIn rfl hl) (ro.append (perm_vals rw hπ)) h) fun r s' hq => ?_)
  cases r with
  | error e => exact hx pins H s e s' I hq
  | ok fl =>
    cases fl with
    | ret u => exact I.after hq
    | next => exact False.elim hq
    | brk => exact False.elim hq
    | cont => exact False.elim hq
def eStatK (n : Nat) (fp : List T → PR) (π : List Nat) (fs : Fn (List D)) : FE := fun sl M => (fs sl M).bind fun ds M1 => gCallR (fun ts => if ts.length = n then fp (perm π ts) else .fail) ds M1
/-- the promise of a def of n trees, as one that takes the permuted ones -/
theorem spP_perm {K : PySem.W.Frag} {cm : Str → Addr} {fp : List T → PR} {π : List Nat} {zs : List V} {H : Hp} {Q : VK} {E : XK} (hl : π.length = n) (hπ : ∀ i ∈ π, i < n) (h : spR K cm (fun ts => if ts.length = n then fp (perm π ts) else .fail) zs H Q E) :
    zs.length = n ∧ spP K cm n fp (perm π zs) H Q E := by
  obtain ⟨I, ts, ex, r, q⟩ := h
  by_cases hn : ts.length = n
  · simp only [hn, if_true] at q
    have hπt : ∀ i ∈ π, i < ts.length := fun i hi => by rw [hn]; exact hπ i hi
    exact ⟨by rw [← r.length]; exact hn, I, perm π ts, ex, perm_rep r hπt, by rw [perm_len hπt]; exact hl, q⟩
  · simp only [hn, if_false] at q
theorem de_statK {g : Addr} {pp : Addr} {mc : Value} {np : Pos} {π : List Nat} (hg : Gl X x) (hmg : X.mg x = some (.ref (cmOf X.mg c))) (r : ClX.CRead X.K (cmOf X.mg c) mc) (sm : SMet X.K (cmOf X.mg c) mc m pp g) (F : FnOk X.prog X.w X.K X.mg X.base (L2.CX X.prog X.w) k g fd ps (spP X.K (cmOf X.mg) n fp)) (hr : Room k X.A) (lt : Lets X W) (ha : DK X W kws fs)
    (hl : π.length = n ∧ ∀ i ∈ π, i < n) (hb : KwB X.K fd 0 ks ps π) (hn : n = ks.length)
    (hall : (backToKw pos (keywordEach kws X.env)).all (·.1.isSome) = true := by rfl) (hks : (backToKw pos (keywordEach kws X.env)).filterMap (·.1) = ks := by rfl)
    (hd : (x == ("__debug__" : Str)) = false := by decide)
    (hpl : ((backTo pos (starEach [] X.env)).any (·.1) || (backToKw pos (keywordEach kws X.env)).any (·.1.isNone)) = false := by rfl)
    (ht : eval (.Call (.Attribute (.Name x np) m apos) [] kws pos) X.env = (do
      let ov ← eval (.Name x np) X.env
      standAt apos.atName
      let (f, first) ← holding [ov] (getMethod ov m pl)
      callWith pos f first (backTo pos (starEach [] X.env)) (backToKw pos (keywordEach kws X.env))) := by rfl) :
    DE X W (.Call (.Attribute (.Name x np) m apos) [] kws pos) (eStatK n fp π fs) := by
  refine ⟨fun pins s σ H Q I h => ?_⟩
  obtain ⟨μ, I0, sl, M, s0, rs, p⟩ := h
  have hN : DE X W (.Name x np) (eC (.glo (cmOf X.mg c))) := de_glob (v := .ref (cmOf X.mg c)) hg hmg rfl (fun I => by unfold RepT; rfl) hd
  refine PySem.W.methodCall_KW (pl := pl) (thn (hN.run pins s σ H (fun x H' => x = .ref (cmOf X.mg c) ∧ ∃ μ1 I1, Sim X.K (cmOf X.mg) μ1 I1 M H' ∧ RepS X.K (cmOf X.mg) μ1 I1 M.length sl σ ∧ Post X.K (cmOf X.mg) (RD X.K (cmOf X.mg)) μ1 I1 M H' (fun e d H' => W e d σ H') (eStatK n fp π fs sl M) Q) I
    ⟨μ, I0, sl, M, s0, rs, fun μ1 I1 H1 b st rb => ⟨by have := rb; unfold RD RepD RepT at this; exact this, μ1, I1, st.sim, rs.mono st.gr, p.step st⟩⟩) fun u s1 ⟨x1, H1, I1, rx, ex, μ1, I01, sm1, rs1, p1⟩ => ?_) ht
  subst ex
  obtain rfl : u = Value.ref (cmOf X.mg c) := rx
  refine getmethsm_ok I1 r sm fun s2 I2 => ?_
  refine PySem.W.callWith_KW0 (first := []) (h₀ := X.base) I2.ok.mod.kin sm.kp hall (thn (ha.run pos pins s2 σ H1 _ I2 ⟨μ1, I01, sl, M, sm1, rs1, Post.bind (R := RL X.K (cmOf X.mg)) p1⟩) fun ws s3 ⟨vs, H2, I3, rv, μ2, I02, M2, ds, st2, rr, p2⟩ => ⟨I3.kIn, ?_⟩) hpl
  rw [hks]
  obtain ⟨hz, hsp⟩ := spP_perm hl.1 hl.2 (sp_callR st2.sim rr p2)
  exact run_K (os := []) (xs := []) (π := π) F hr (lt σ) hb I3 .nil rv (by rw [← rv.length, hz, hn]) (fun i hi => by rw [hz]; exact hl.2 i hi) hsp
def eMethK (c m : Str) (n : Nat) (fp : List T → PR) (π : List Nat) (fo : FE) (fs : Fn (List D)) : FE := fun sl M => (fo sl M).bind fun d M1 => if isInsN c m d then (fs sl M1).bind fun ds M2 => gCallR (fun ts => match ts with | t :: us => if us.length = n then fp (t :: perm π us) else .fail | _ => .fail) (d :: ds) M2 else .fail
theorem spP_permM {K : PySem.W.Frag} {cm : Str → Addr} {fp : List T → PR} {π : List Nat} {z : V} {zs : List V} {H : Hp} {Q : VK} {E : XK} (hl : π.length = n) (hπ : ∀ i ∈ π, i < n) (h : spR K cm (fun ts => match ts with | t :: us => if us.length = n then fp (t :: perm π us) else .fail | _ => .fail) (z :: zs) H Q E) :
    zs.length = n ∧ spP K cm (n + 1) fp (z :: perm π zs) H Q E := by
  obtain ⟨I, ts, ex, r, q⟩ := h
  cases ts with
  | nil => exact q.elim
  | cons t us =>
    obtain ⟨z', zs', e, r1, r2⟩ := (by unfold RepTL at r; exact r : ∃ x r', z :: zs = x :: r' ∧ RepT K cm I t x ∧ RepTL K cm I us r')
    cases e
    by_cases hn : us.length = n
    · simp only [hn, if_true] at q
      have hπt : ∀ i ∈ π, i < us.length := fun i hi => by rw [hn]; exact hπ i hi
      exact ⟨by rw [← r2.length]; exact hn, I, t :: perm π us, ex, RepTL.cons r1 (perm_rep r2 hπt), by rw [List.length_cons, perm_len hπt, hl], q⟩
    · simp only [hn, if_false] at q
theorem de_methK {π : List Nat} (hc : Cls X.K (cmOf X.mg c)) (hm : Meth X.K (cmOf X.mg c) m f) (F : FnOk X.prog X.w X.K X.mg X.base (L2.CX X.prog X.w) k f fd ps (spP X.K (cmOf X.mg) (n + 1) fp)) (hr : Room k X.A) (lt : Lets X W) (ho : DE X W o fo) (ha : DK X W kws fs)
    (hl : π.length = n ∧ ∀ i ∈ π, i < n) (hb : KwB X.K fd 1 ks ps π) (hn : n = ks.length)
    (hall : (backToKw pos (keywordEach kws X.env)).all (·.1.isSome) = true := by rfl) (hks : (backToKw pos (keywordEach kws X.env)).filterMap (·.1) = ks := by rfl)
    (hpl : ((backTo pos (starEach [] X.env)).any (·.1) || (backToKw pos (keywordEach kws X.env)).any (·.1.isNone)) = false := by rfl)
    (ht : eval (.Call (.Attribute o m apos) [] kws pos) X.env = (do
      let ov ← eval o X.env
      standAt apos.atName
      let (f, first) ← holding [ov] (getMethod ov m pl)
      callWith pos f first (backTo pos (starEach [] X.env)) (backToKw pos (keywordEach kws X.env))) := by rfl) :
    DE X W (.Call (.Attribute o m apos) [] kws pos) (eMethK c m n fp π fo fs) := by
  refine ⟨fun pins s σ H Q I h => ?_⟩
  obtain ⟨μ, I0, sl, M, s0, rs, p⟩ := h
  refine PySem.W.methodCall_KW (pl := pl) (thn (ho.run pins s σ H _ I ⟨μ, I0, sl, M, s0, rs, Post.bind (R := RD X.K (cmOf X.mg)) p⟩) fun u s1 ⟨x, H1, I1, rx, μ1, I01, M1, d, st, ra, p1⟩ => ?_) ht
  split at p1
  · rename_i hi
    obtain ⟨a, dx, ns, ts, xs, rfl, rfl, hA, hl0, h5, h6⟩ := insN_inv hi ra
    obtain rfl : u = Value.ref a := rx
    refine getmeth_ok I1 (st.sim.sub _ _ hA) hc hm hl0 ?_
    refine PySem.W.callWith_KW0 (first := [.ref a]) (h₀ := X.base) I1.ok.mod.kin hm.kp hall (thn (ha.run pos pins s1 σ H1 _ I1 ⟨μ1, I01, sl, M1, st.sim, rs.mono st.gr, Post.bind (R := RL X.K (cmOf X.mg)) p1⟩) fun ws s2 ⟨vs, H2, I2, rv, μ2, I02, M2, ds, st2, rr, p2⟩ => ⟨I2.kIn, ?_⟩) hpl
    rw [hks]
    obtain ⟨hz, hsp⟩ := spP_permM hl.1 hl.2 (sp_callR st2.sim (RepDL.cons (RepD.mono st2.gr ra) rr) p2)
    exact run_K (os := [.ref a]) (xs := [.ref a]) (π := π) F hr (lt σ) hb I2 (.cons rfl .nil) rv (by rw [← rv.length, hz, hn]) (fun i hi => by rw [hz]; exact hl.2 i hi) hsp
  · exact p1.elim
end
end Bm

namespace BmLaw
open PySem L2 Bm
def c_BARRED : T := (.tup [(.str "top"), (.str "bottom")])
def c_LETTERS : T := (.str "abcdefghijklmnopqrstuvwxyz")
def c_LONGEST : T := (.int 8)
def F_is_name : FS :=
  (sSeq (sIf (bOr (bNot (eB (eCB (gP (isiT tabB)) (aCons (eVar 0) (aCons (eC (.ty "str")) aNil))))) (bOr (bNot (eB (e3 (g2 leT) (g2 leT) (eC (.int 1)) (eCB gLen (aCons (eVar 0) aNil)) (eC c_LONGEST)))) (eB (e2 (g2 (inT false)) (eVar 0) (eC c_BARRED))))) (sRet (eC (.bl false))) sSkip)
  (sRet (eCB (gBls fun bs => bs.all id) (aCons (eLc (iS (eVar 0)) [1] (gNm 1) bYes (e2 (g2 (inT false)) (eVar 1) (eC c_LETTERS))) aNil))))
def f_is_name : List T → PR := runP 2 F_is_name
def F_law_bag : FS :=
  (sSeq (sSet 1 (eC (.int 12014)))
  (sSeq (sFor (iL (eSl (eVar 0) oNone (oSome (eC (.int 63))))) (gNm 2) (sSet 1 (e2 (g2 modT) (eCB gInt (aCons (e2 gAdd (e2 gAdd (e2 (g2 mulT) (eVar 1) (eC (.int 47563))) (e2 (g2 modT) (eCB gInt (aCons (eVar 2) aNil)) (eC (.int 2147480213)))) (eC (.int 31))) aNil)) (eC (.int 2147483549)))))
  (sRet (eLstM (aCons (eCB gList (aCons (eSl (eVar 0) oNone (oSome (eC (.int 63)))) aNil)) (aCons (eC (.int 0)) (aCons (eC (.int 0)) (aCons (eVar 1) (aCons (eC (.int 0)) aNil)))))))))
def f_law_bag : List T → PR := runP 3 F_law_bag
def F_law_draw : FS :=
  (sSeq (sAsg (e2 gAdd (e2 gIx (eVar 0) (eC (.int 4))) (eC (.int 1))) (gSubM (eVar 0) (eC (.int 4))))
  (sSeq (sIf (bAnd (eB (e2 (g2 eqT) (e2 gIx (eVar 0) (eC (.int 2))) (eC (.int 0)))) (eB (e2 (g2 ltT) (e2 gIx (eVar 0) (eC (.int 1))) (eCB gLen (aCons (e2 gIx (eVar 0) (eC (.int 0))) aNil))))) (sSeq (sSet 2 (e2 gIx (e2 gIx (eVar 0) (eC (.int 0))) (e2 gIx (eVar 0) (eC (.int 1)))))
  (sSeq (sAsg (e2 gAdd (e2 gIx (eVar 0) (eC (.int 1))) (eC (.int 1))) (gSubM (eVar 0) (eC (.int 1))))
  (sIf (eB (e2 (g2 geT) (eVar 2) (e2 (g2 powT) (eC (.int 10)) (eC (.int 18))))) (sAsg (eVar 2) (gSubM (eVar 0) (eC (.int 2)))) (sAsg (e2 (g2 modT) (eCB gInt (aCons (e2 gAdd (e2 gAdd (e2 (g2 mulT) (e2 gIx (eVar 0) (eC (.int 3))) (eC (.int 39133))) (e2 (g2 mulT) (e2 (g2 modT) (eCB gInt (aCons (eVar 2) aNil)) (eC (.int 2147480213))) (eC (.int 827)))) (eC (.int 59))) aNil)) (eC (.int 2147483563))) (gSubM (eVar 0) (eC (.int 3))))))) sSkip)
  (sSeq (sIf (eB (e2 (g2 gtT) (e2 gIx (eVar 0) (eC (.int 2))) (eC (.int 0)))) (sSeq (sSet 3 (e2 (g2 modT) (eCB gInt (aCons (e2 gIx (eVar 0) (eC (.int 2))) aNil)) (eVar 1)))
  (sSeq (sAsg (e2 (g2 divT) (e2 gIx (eVar 0) (eC (.int 2))) (eVar 1)) (gSubM (eVar 0) (eC (.int 2))))
  (sRet (eVar 3)))) sSkip)
  (sSeq (sSet 4 (eCB gInt (aCons (e2 gIx (eVar 0) (eC (.int 3))) aNil)))
  (sSeq (sAsg (e2 (g2 modT) (eCB gInt (aCons (e2 gAdd (e2 gAdd (e2 gAdd (e2 (g2 powT) (eVar 4) (eC (.int 3))) (e2 (g2 mulT) (eVar 4) (eC (.int 28663)))) (e2 (g2 mulT) (e2 gIx (eVar 0) (eC (.int 4))) (eC (.int 1299743)))) (eC (.int 60017))) aNil)) (eC (.int 2147483563))) (gSubM (eVar 0) (eC (.int 3))))
  (sRet (e2 (g2 modT) (eCB gInt (aCons (e2 gAdd (e2 (g2 divT) (e2 gIx (eVar 0) (eC (.int 3))) (eC (.int 71))) (e2 (g2 mulT) (e2 (g2 modT) (eCB gInt (aCons (e2 gIx (eVar 0) (eC (.int 3))) aNil)) (eC (.int 7907))) (eC (.int 61)))) aNil)) (eVar 1))))))))
def f_law_draw : List T → List T → BR := runB 5 F_law_draw
def F_law_of : FS :=
  (sRet (e2 gIx (eVar 1) (eCallB 2 f_law_draw (aCons (eVar 0) (aCons (eCB gLen (aCons (eVar 1) aNil)) aNil)))))
def f_law_of : List T → List T → BR := runB 2 F_law_of
def F_law_same (self : List T → PR) : FS :=
  (sSeq (sIf (bOr (eB (e2 (g2 isN) (eVar 1) (eC .non))) (eB (e2 (g2 isN) (eVar 0) (eC .non)))) (sRet (eAnd (e2 (g2 isN) (eVar 1) (eC .non)) (e2 (g2 isN) (eVar 0) (eC .non)))) sSkip)
  (sSeq (sIf (eB (eCB (gP (isiT tabB)) (aCons (eVar 1) (aCons (eTup (aCons (eC (.ty "list")) (aCons (eC (.ty "tuple")) aNil))) aNil)))) (sSeq (sIf (bOr (eB (e2 (g2 neT) (eCB (gP (isiT tabB)) (aCons (eVar 0) (aCons (eC (.ty "list")) aNil))) (eCB (gP (isiT tabB)) (aCons (eVar 1) (aCons (eC (.ty "list")) aNil))))) (eB (e2 (g2 neT) (eCB (gP (isiT tabB)) (aCons (eVar 0) (aCons (eC (.ty "tuple")) aNil))) (eCB (gP (isiT tabB)) (aCons (eVar 1) (aCons (eC (.ty "tuple")) aNil)))))) (sRet (eC (.bl false))) sSkip)
  (sRet (eAnd (e2 (g2 eqT) (eCB gLen (aCons (eVar 0) aNil)) (eCB gLen (aCons (eVar 1) aNil))) (eCB (gBls fun bs => bs.all id) (aCons (eLc (iZ (aCons (eVar 0) (aCons (eVar 1) aNil))) [2, 3] (gTp 2 (gsCons (gNm 2) (gsCons (gNm 3) gsNil))) bYes (eCall 2 self (aCons (eVar 2) (aCons (eVar 3) aNil)))) aNil))))) sSkip)
  (sSeq (sIf (bOr (eB (e2 (g2 neT) (eCB (gP (isiT tabB)) (aCons (eVar 0) (aCons (eC (.ty "bool")) aNil))) (eCB (gP (isiT tabB)) (aCons (eVar 1) (aCons (eC (.ty "bool")) aNil))))) (eB (e2 (g2 neT) (eCB (gP (isiT tabB)) (aCons (eVar 0) (aCons (eC (.ty "int")) aNil))) (eCB (gP (isiT tabB)) (aCons (eVar 1) (aCons (eC (.ty "int")) aNil)))))) (sRet (eC (.bl false))) sSkip)
  (sRet (eAnd (e2 (g2 eqT) (eCB (gP (isiT tabB)) (aCons (eVar 0) (aCons (eC (.ty "str")) aNil))) (eCB (gP (isiT tabB)) (aCons (eVar 1) (aCons (eC (.ty "str")) aNil)))) (e2 (g2 eqT) (eVar 0) (eVar 1)))))))
def f_law_same : Nat → List T → PR
  | 0 => fun _ => .fail
  | n + 1 => runP 4 (F_law_same (f_law_same n))
def F_law_is_name : FS :=
  (sSeq (sIf (bOr (bNot (eB (eCB (gP (isiT tabB)) (aCons (eVar 0) (aCons (eC (.ty "str")) aNil))))) (bOr (bNot (eB (e3 (g2 leT) (g2 leT) (eC (.int 1)) (eCB gLen (aCons (eVar 0) aNil)) (eC (.int 8))))) (eB (e2 (g2 (inT false)) (eVar 0) (eTup (aCons (eC (.str "top")) (aCons (eC (.str "bottom")) aNil))))))) (sRet (eC (.bl false))) sSkip)
  (sRet (eCB (gBls fun bs => bs.all id) (aCons (eLc (iS (eVar 0)) [1] (gNm 1) bYes (e2 (g2 (inT false)) (eVar 1) (eC (.str "abcdefghijklmnopqrstuvwxyz")))) aNil))))
def f_law_is_name : List T → PR := runP 2 F_law_is_name
theorem strlen (z : Str) : z.length = z.cps.size := rfl
local macro_rules | `(tactic| walk_at "bm") => `(tactic| simp [runB, runP, start', sSeq, sSet, sExpr, sRet, sIf, sSkip, sAsg, e2, e3, eVar, eC, eB, eAnd, eOr, eNot, eIf, bAnd, bOr, bNot, toB, Res.bind, Res.toS, gIx, seqD, lstOf, atI, ixN, gAdd, gCatL, g2, pk, isSc, addT, subT, mulT, powT, divT, modT, ltT, leT, gtT, geT, int2, eqT, neT, eqS, isN, notN,
  gSubM, frz1, frzL, aCons, aNil, eCB, gLen, gInt, gList, ansB, ansP, CMul, CPow, CDivN, gP, allT, eSl, gSl, oSome, oNone, eLstM, eLst, eTup, toTs, eCall, eCallM, eCallB, gCallB, sFor, loopF, gNm, iL, iLst, iT, iTp, iS, iSt, iZ, iZp, eLc, bYes, isiT, kdOf, tgt, tabB, kinds, isiAny, sizeLine_eq, eBM, isStrD, isLst, strlen, *])

/-- the draws' bag -/
structure Bag where
  cells : List Int
  i : Nat
  r : Int
  m : Int
  d : Int
def Bag.t (b : Bag) : List T := [.lst (b.cells.map T.int), .int b.i, .int b.r, .int b.m, .int b.d]
structure Bag.Ok (b : Bag) : Prop where
  i : b.i ≤ b.cells.length
  m0 : 0 ≤ b.m
  m1 : b.m < 2147483563
theorem fm (a : Int) {n : Int} (h : 0 < n) : 0 ≤ a.fmod n ∧ a.fmod n < n := ⟨Int.fmod_nonneg_of_pos a h, Int.fmod_lt_of_pos a h⟩

def mixS (m d : Int) : Int := (m ^ 3 + m * 28663 + d * 1299743 + 60017).fmod 2147483563
def outS (m n : Int) : Int := (m.fdiv 71 + (m.fmod 7907) * 61).fmod n
def mixC (m c : Int) : Int := (m * 39133 + (c.fmod 2147480213) * 827 + 59).fmod 2147483563
def drawB (b : Bag) (n : Int) : Int × Bag :=
  if 0 < b.r then (b.r.fmod n, { b with r := b.r.fdiv n, d := b.d + 1 })
  else match (if b.r = 0 then b.cells[b.i]? else none) with
    | some c => if 1000000000000000000 ≤ c then (c.fmod n, { b with i := b.i + 1, r := c.fdiv n, d := b.d + 1 })
      else (outS (mixS (mixC b.m c) (b.d + 1)) n, { b with i := b.i + 1, m := mixS (mixC b.m c) (b.d + 1), d := b.d + 1 })
    | none => (outS (mixS b.m (b.d + 1)) n, { b with m := mixS b.m (b.d + 1), d := b.d + 1 })
theorem mixS_b (m d : Int) : 0 ≤ mixS m d ∧ mixS m d < 2147483563 := fm _ (by decide)
theorem mixC_b (m d : Int) : 0 ≤ mixC m d ∧ mixC m d < 2147483563 := fm _ (by decide)
theorem draw_eq (b : Bag) (h : b.Ok) (n : Int) (h0 : 0 < n) (h1 : n < 1073741824) : f_law_draw b.t [.int n] = .val (.int (drawB b n).1) (drawB b n).2.t := by
  obtain ⟨cells, i, r, m, d⟩ := b
  obtain ⟨hi, hm0, hm1⟩ := h
  simp only at hi hm0 hm1
  have hn : n ≠ 0 := by omega
  have hna : n.natAbs < 1073741824 := by omega
  have hma : m.natAbs < 18446744073709551616 := by omega
  unfold f_law_draw F_law_draw Bag.t drawB
  by_cases hr : 0 < r
  · have hr0 : ¬ r = 0 := by omega
    walk_at "bm"
  · by_cases hr0 : r = 0
    · subst hr0
      by_cases hc : i < cells.length
      · by_cases hbig : 1000000000000000000 ≤ cells[i]
        · have hc0 : 0 < cells[i] := by omega
          have hc1 : ¬ cells[i] = 0 := by omega
          walk_at "bm"
        · have hb := mixC_b m cells[i]
          have hq : (mixC m cells[i]).natAbs < 18446744073709551616 := by omega
          unfold mixC at hq
          clear hb
          walk_at "bm"
          simp [mixC, mixS, outS]
      · have hcc : cells[i]? = none := List.getElem?_eq_none (by omega)
        walk_at "bm"
        simp [mixC, mixS, outS]
    · walk_at "bm"
      simp [mixC, mixS, outS]
theorem draw_b (b : Bag) (h : b.Ok) (n : Int) (h0 : 0 < n) : (drawB b n).2.Ok ∧ 0 ≤ (drawB b n).1 ∧ (drawB b n).1 < n := by
  obtain ⟨cells, i, r, m, d⟩ := b
  obtain ⟨hi, hm0, hm1⟩ := h
  simp only at hi hm0 hm1
  unfold drawB
  simp only
  split
  · exact ⟨⟨hi, hm0, hm1⟩, fm _ h0⟩
  · split
    · rename_i c hc
      split at hc
      · have hlt : i < cells.length := (List.getElem?_eq_some_iff.mp hc).1
        split
        · exact ⟨⟨hlt, hm0, hm1⟩, fm _ h0⟩
        · exact ⟨⟨hlt, (mixS_b _ _).1, (mixS_b _ _).2⟩, fm _ h0⟩
      · cases hc
    · exact ⟨⟨hi, (mixS_b _ _).1, (mixS_b _ _).2⟩, fm _ h0⟩

/-! ### the bag itself -/
def mixN (m c : Int) : Int := (m * 47563 + c.fmod 2147480213 + 31).fmod 2147483549
theorem mixN_b (m d : Int) : 0 ≤ mixN m d ∧ mixN m d < 2147483549 := fm _ (by decide)
def bag0 (ns : List Int) : Bag := ⟨ns, 0, 0, ns.foldl mixN 12014, 0⟩
theorem fold_b (ns : List Int) : ∀ m, 0 ≤ m → m < 2147483549 → 0 ≤ ns.foldl mixN m ∧ ns.foldl mixN m < 2147483549 := by
  induction ns with
  | nil => exact fun m h1 h2 => ⟨h1, h2⟩
  | cons n ns ih => exact fun m _ _ => ih _ (mixN_b m n).1 (mixN_b m n).2
theorem bag0_ok (ns : List Int) : (bag0 ns).Ok := by
  have h := fold_b ns 12014 (by decide) (by decide)
  exact ⟨Nat.zero_le _, h.1, by show ns.foldl mixN 12014 < _; omega⟩
theorem cut63 {ts : List T} (h : ts.length ≤ 63) : cutT ts none (some 63) = ts := by
  have e : (ts.drop (HT.sIx ts.length 0 none)).take (HT.sIx ts.length ts.length (some 63) - HT.sIx ts.length 0 none) = ts := by
    have e1 : HT.sIx ts.length 0 none = 0 := rfl
    have e2 : HT.sIx ts.length ts.length (some 63) = min 63 ts.length := rfl
    rw [e1, e2, List.drop_zero, Nat.sub_zero, Nat.min_eq_right h, List.take_length]
  exact e
theorem bag_eq (ns : List Int) (h : ns.length ≤ 63) : f_law_bag [.scr ns] = .fresh (bag0 ns).t := by
  have hl : (ns.map T.int).length ≤ 63 := by simpa using h
  have hc := cut63 hl
  have loop : ∀ (ns : List Int) (m : Int) (x : Option D) (a : Option D), ∃ x', loopF (gNm 2) (sSet 1 (e2 (g2 modT) (eCB gInt (aCons (e2 gAdd (e2 gAdd (e2 (g2 mulT) (eVar 1) (eC (.int 47563))) (e2 (g2 modT) (eCB gInt (aCons (eVar 2) aNil)) (eC (.int 2147480213)))) (eC (.int 31))) aNil)) (eC (.int 2147483549)))) (ns.map T.int) [a, some (.t (.int m)), x] [] = .nx [a, some (.t (.int (ns.foldl mixN m))), x'] [] := by
    intro ns
    induction ns with
    | nil => exact fun m x a => ⟨x, rfl⟩
    | cons n ns ih =>
      intro m x a
      obtain ⟨x', hx⟩ := ih (mixN m n) (some (.t (.int n))) a
      refine ⟨x', ?_⟩
      rw [List.map_cons, loopF, List.foldl_cons, ← hx]
      have e : gNm 2 (.t (.int n)) [a, some (.t (.int m)), x] [] = .nx [a, some (.t (.int m)), some (.t (.int n))] [] := rfl
      rw [e]
      walk_at "bm"
      rfl
  obtain ⟨x', hx⟩ := loop ns 12014 none (some (.t (.scr ns)))
  unfold f_law_bag F_law_bag
  simp only [runP, start', sSeq, sSet, sFor, eC, Res.toS, Res.bind, iL, eSl, eVar, oNone, oSome]
  simp [gSl, hc, iLst, frz1]
  rw [hx]
  walk_at "bm"
  simp [bag0, Bag.t, sizeLine_eq]

/-! ### one of some -/
def bagOf (b : Bag) (n : Nat) : Nat × Bag := ((drawB b (n : Int)).1.toNat, (drawB b (n : Int)).2)
theorem bagOf_lt (b : Bag) (h : b.Ok) {n : Nat} (h0 : 0 < n) : (bagOf b n).1 < n ∧ (bagOf b n).2.Ok := by
  have q := draw_b b h (n : Int) (by omega)
  refine ⟨?_, q.1⟩
  show (drawB b (n : Int)).1.toNat < n
  omega
theorem of_lst (b : Bag) (h : b.Ok) (xs : List T) (h0 : 0 < xs.length) (h1 : xs.length < 1073741824) : ∃ t, xs[(bagOf b xs.length).1]? = some t ∧ f_law_of b.t [.lst xs] = .val t (bagOf b xs.length).2.t := by
  have q := draw_b b h (xs.length : Int) (by omega)
  have e := draw_eq b h (xs.length : Int) (by omega) (by omega)
  have hk := (bagOf_lt b h h0).1
  refine ⟨_, List.getElem?_eq_getElem hk, ?_⟩
  have ek : ((drawB b (xs.length : Int)).1) = (((bagOf b xs.length).1 : Nat) : Int) := by show _ = (((drawB b (xs.length : Int)).1.toNat : Nat) : Int); omega
  rw [ek] at e
  unfold f_law_of F_law_of
  walk_at "bm"
  rfl
theorem of_str (b : Bag) (h : b.Ok) (z : Str) (h0 : 0 < z.cps.size) (h1 : z.cps.size ≤ 16777216) : ∃ c, z.cps.toList[(bagOf b z.cps.size).1]? = some c ∧ f_law_of b.t [.str z] = .val (.str ⟨#[c]⟩) (bagOf b z.cps.size).2.t := by
  have q := draw_b b h (z.cps.size : Int) (by omega)
  have e := draw_eq b h (z.cps.size : Int) (by omega) (by omega)
  have hk := (bagOf_lt b h h0).1
  have hk' : (bagOf b z.cps.size).1 < z.cps.toList.length := by rw [Array.length_toList]; exact hk
  refine ⟨_, List.getElem?_eq_getElem hk', ?_⟩
  have ek : ((drawB b (z.cps.size : Int)).1) = (((bagOf b z.cps.size).1 : Nat) : Int) := by show _ = (((drawB b (z.cps.size : Int)).1.toNat : Nat) : Int); omega
  rw [ek] at e
  unfold f_law_of F_law_of
  walk_at "bm"
  rfl

/-! ### what is the same as itself -/
def okT : Nat → T → Bool
  | 0, _ => false
  | n + 1, t => match t with
    | .non => true
    | .bl _ => true
    | .int _ => true
    | .str _ => true
    | .lst ts => decide (ts.length < 16777216) && ts.all (okT n)
    | .tup ts => decide (ts.length < 16777216) && ts.all (okT n)
    | _ => false
theorem bls_all (n : Nat) : blsOf (List.replicate n (.bl true)) = some (List.replicate n true) := by
  induction n with
  | zero => rfl
  | succ n ih => rw [List.replicate_succ, blsOf, ih]; rfl
theorem all_true (n : Nat) : (List.replicate n true).all id = true := by
  induction n with
  | zero => rfl
  | succ n ih => rw [List.replicate_succ, List.all_cons, ih]; rfl
theorem same_loop (n : Nat) (ts : List T) (ih : ∀ (a : T), okT n a = true → f_law_same n [a, a] = PR.val (T.bl true)) (h1 : ts.length < 16777216) (h2 : ts.all (okT n) = true) (a b : T) :
    lcF [2, 3] (gTp 2 (gsCons (gNm 2) (gsCons (gNm 3) gsNil))) bYes (eCall 2 (f_law_same n) (aCons (eVar 2) (aCons (eVar 3) aNil))) (zipT ts ts) [some (D.t a), some (D.t b), none, none] [] [] = some (List.replicate ts.length (.bl true), []) := by
  have key : ∀ (ts : List T) (acc : List T), acc.length + ts.length < 16777216 → ts.all (okT n) = true →
      lcF [2, 3] (gTp 2 (gsCons (gNm 2) (gsCons (gNm 3) gsNil))) bYes (eCall 2 (f_law_same n) (aCons (eVar 2) (aCons (eVar 3) aNil))) (zipT ts ts) [some (D.t a), some (D.t b), none, none] [] acc = some (acc ++ List.replicate ts.length (.bl true), []) := by
    intro ts
    induction ts with
    | nil => intro acc _ _; simp [zipT, lcF]
    | cons t ts ih2 =>
      intro acc hl hok
      simp only [List.all_cons, Bool.and_eq_true] at hok
      have e := ih t hok.1
      have e2 := ih2 (acc ++ [.bl true]) (by simp at hl ⊢; omega) hok.2
      have ez : zipT (t :: ts) (t :: ts) = .tup [t, t] :: zipT ts ts := rfl
      have hlen : acc.length < 16777216 := by simp at hl; omega
      rw [ez, lcF]
      simp [gTp, gsCons, gsNil, gNm, wipeS, bYes, eCall, aCons, aNil, eVar, Res.bind, frzL, frz1, e, hlen, sizeLine_eq, e2, List.replicate_succ]
  have := key ts [] (by simpa using h1) h2
  simpa using this
theorem same_refl : ∀ (n : Nat) (a : T), okT n a = true → f_law_same n [a, a] = .val (.bl true) := by
  intro n
  induction n with
  | zero => intro a h; cases h
  | succ n ih =>
    intro a h
    show runP 4 (F_law_same (f_law_same n)) [a, a] = _
    unfold F_law_same
    cases a with
    | non => walk_at "bm"
    | bl b => walk_at "bm"
    | int i => walk_at "bm"
    | str z => walk_at "bm"
    | lst ts =>
      obtain ⟨h1, h2⟩ : ts.length < 16777216 ∧ ts.all (okT n) = true := by simpa [okT] using h
      have hl := same_loop n ts ih h1 h2 (.lst ts) (.lst ts)
      have hb := bls_all ts.length
      have ha := all_true ts.length
      walk_at "bm"
      simp [gBls, lstOf, hb]
    | tup ts =>
      obtain ⟨h1, h2⟩ : ts.length < 16777216 ∧ ts.all (okT n) = true := by simpa [okT] using h
      have hl := same_loop n ts ih h1 h2 (.tup ts) (.tup ts)
      have hb := bls_all ts.length
      have ha := all_true ts.length
      walk_at "bm"
      simp [gBls, lstOf, hb]
    | ins c ns ts => cases h
    | exn c ns ts => cases h
    | dK c ts => cases h
    | dT c ts => cases h
    | ty n => cases h
    | glo a => cases h
    | cls c => cases h
    | scr ns => cases h

/-! ### names -/
def letters : Str := "abcdefghijklmnopqrstuvwxyz"
def isLet (c : Nat) : Bool := decide (c ∈ letters.cps.toList)
def isNameZ (z : Str) : Bool := decide (1 ≤ z.cps.size ∧ z.cps.size ≤ 8) && !(("top" : Str) == z || ("bottom" : Str) == z) && z.cps.toList.all isLet
theorem in_letters (c : Nat) : inT false (.str ⟨#[c]⟩) (.str letters) = some (.bl (isLet c)) := by
  show some (T.bl (if false = true then _ else _)) = _
  rw [if_neg Bool.false_ne_true, PySem.StrLaws.found_one]
  rfl
theorem bls_map (f : Nat → Bool) (l : List Nat) : blsOf (l.map fun c => T.bl (f c)) = some (l.map f) := by
  induction l with
  | nil => rfl
  | cons c l ih => rw [List.map_cons, blsOf, ih]; rfl
theorem name_loop (z : Str) (h : z.cps.size < 16777216) (a : D) : lcF [1] (gNm 1) bYes (e2 (g2 (inT false)) (eVar 1) (eC (.str letters))) (signsOf z) [some a, none] [] [] = some (z.cps.toList.map fun c => .bl (isLet c), []) := by
  have key : ∀ (l : List Nat) (acc : List T), acc.length + l.length < 16777216 → lcF [1] (gNm 1) bYes (e2 (g2 (inT false)) (eVar 1) (eC (.str letters))) (l.map fun c => T.str ⟨#[c]⟩) [some a, none] [] acc = some (acc ++ (l.map fun c => .bl (isLet c)), []) := by
    intro l
    induction l with
    | nil => intro acc _; simp [lcF]
    | cons c l ih =>
      intro acc hl
      have e2 := ih (acc ++ [.bl (isLet c)]) (by simp at hl ⊢; omega)
      have e := in_letters c
      have hlen : acc.length < 16777216 := by simp at hl; omega
      rw [List.map_cons, lcF]
      simp [gNm, wipeS, bYes, Bm.e2, g2, eVar, eC, Res.bind, frz1, e, hlen, sizeLine_eq, e2]
  have := key z.cps.toList [] (by simpa using h)
  simpa [signsOf] using this
theorem name_str (z : Str) (h : z.cps.size < 16777216) : f_is_name [.str z] = .val (.bl (isNameZ z)) := by
  have hl := name_loop z h (.t (.str z))
  have hb := bls_map isLet z.cps.toList
  have h' : z.cps.size ≤ 16777216 := by omega
  have eL : c_LETTERS = .str letters := rfl
  unfold f_is_name F_is_name
  rw [eL]
  by_cases h1 : 1 ≤ z.cps.size
  · have i1 : (1 : Int) ≤ (z.cps.size : Int) := by omega
    by_cases h8 : z.cps.size ≤ 8
    · have i8 : (z.cps.size : Int) ≤ 8 := by omega
      by_cases hb2 : (("top" : Str) == z || ("bottom" : Str) == z) = true
      · have hm : inT false (.str z) c_BARRED = some (.bl true) := by
          simp only [inT, c_BARRED, seqOf, flatT, memT, List.any_cons, List.any_nil, eqF, List.all_cons, List.all_nil]
          simpa using hb2
        have e : isNameZ z = false := by unfold isNameZ; rw [hb2]; simp
        rw [e]
        clear hb2
        simp only [c_LONGEST]
        walk_at "bm"
      · have hb3 : (("top" : Str) == z || ("bottom" : Str) == z) = false := by simpa using hb2
        have hm : inT false (.str z) c_BARRED = some (.bl false) := by
          simp only [inT, c_BARRED, seqOf, flatT, memT, List.any_cons, List.any_nil, eqF, List.all_cons, List.all_nil]
          simpa using hb3
        have e : isNameZ z = z.cps.toList.all isLet := by unfold isNameZ; rw [hb3]; simp [h1, h8]
        rw [e]
        clear hb2 hb3
        simp only [c_LONGEST]
        walk_at "bm"
        simp [gBls, lstOf, hb]
    · have i8 : ¬ (z.cps.size : Int) ≤ 8 := by omega
      have e : isNameZ z = false := by unfold isNameZ; simp [h8]
      rw [e]
      simp only [c_LONGEST]
      walk_at "bm"
  · have i1 : ¬ (1 : Int) ≤ (z.cps.size : Int) := by omega
    have e : isNameZ z = false := by unfold isNameZ; simp [h1]
    rw [e]
    simp only [c_LONGEST]
    walk_at "bm"
theorem name_non (t : T) (h : match t with | .non => True | .bl _ => True | .int _ => True | .lst _ => True | .tup _ => True | _ => False) : f_is_name [t] = .val (.bl false) := by
  unfold f_is_name F_is_name
  cases t <;> first | exact h.elim | walk_at "bm"
theorem lname_non (t : T) (h : match t with | .non => True | .bl _ => True | .int _ => True | .lst _ => True | .tup _ => True | _ => False) : f_law_is_name [t] = .val (.bl false) := by
  unfold f_law_is_name F_law_is_name
  cases t <;> first | exact h.elim | walk_at "bm"
theorem lname_str (z : Str) (h : z.cps.size < 16777216) : f_law_is_name [.str z] = .val (.bl (isNameZ z)) := by
  have hl := name_loop z h (.t (.str z))
  have hb := bls_map isLet z.cps.toList
  have h' : z.cps.size ≤ 16777216 := by omega
  have eL : (Str.ofString "abcdefghijklmnopqrstuvwxyz") = letters := rfl
  unfold f_law_is_name F_law_is_name
  rw [eL]
  by_cases h1 : 1 ≤ z.cps.size
  · have i1 : (1 : Int) ≤ (z.cps.size : Int) := by omega
    by_cases h8 : z.cps.size ≤ 8
    · have i8 : (z.cps.size : Int) ≤ 8 := by omega
      by_cases hb2 : (("top" : Str) == z || ("bottom" : Str) == z) = true
      · have hm : inT false (.str z) (.tup [.str "top", .str "bottom"]) = some (.bl true) := by
          simp only [inT, seqOf, flatT, memT, List.any_cons, List.any_nil, eqF, List.all_cons, List.all_nil]
          simpa using hb2
        have e : isNameZ z = false := by unfold isNameZ; rw [hb2]; simp
        rw [e]
        clear hb2
        walk_at "bm"
      · have hb3 : (("top" : Str) == z || ("bottom" : Str) == z) = false := by simpa using hb2
        have hm : inT false (.str z) (.tup [.str "top", .str "bottom"]) = some (.bl false) := by
          simp only [inT, seqOf, flatT, memT, List.any_cons, List.any_nil, eqF, List.all_cons, List.all_nil]
          simpa using hb3
        have e : isNameZ z = z.cps.toList.all isLet := by unfold isNameZ; rw [hb3]; simp [h1, h8]
        rw [e]
        clear hb2 hb3
        walk_at "bm"
        simp [gBls, lstOf, hb]
    · have i8 : ¬ (z.cps.size : Int) ≤ 8 := by omega
      have e : isNameZ z = false := by unfold isNameZ; simp [h8]
      rw [e]
      walk_at "bm"
  · have i1 : ¬ (1 : Int) ≤ (z.cps.size : Int) := by omega
    have e : isNameZ z = false := by unfold isNameZ; simp [h1]
    rw [e]
    walk_at "bm"
end BmLaw

/-! Shared helpers of the laws: draws anywhere in the store, stems, names, odd names. -/
namespace BmLaw
open PySem L2 Bm
def F_law_names : FS :=
  (sSeq (sSet 2 (eC (.str "abcdefghijklmnopqrstuvwxyz")))
  (sSeq (sSet 3 (eBM isStrD gJoin (eC (.str "")) (aCons (eLc (iR1 (aCons (eCallB 2 f_law_draw (aCons (eVar 0) (aCons (eC (.int 6)) aNil))) aNil)) [8] (gNm 8) bYes (eCallB 2 f_law_of (aCons (eVar 0) (aCons (eVar 2) aNil)))) aNil)))
  (sSeq (sAsg (eTup (aCons (eCallB 2 f_law_draw (aCons (eVar 0) (aCons (e2 gAdd (eCB gLen (aCons (eVar 3) aNil)) (eC (.int 1))) aNil))) (aCons (eCallB 2 f_law_draw (aCons (eVar 0) (aCons (eC (.int 26)) aNil))) (aCons (eCallB 2 f_law_of (aCons (eVar 0) (aCons (eLst (aCons (eC (.int 1)) (aCons (eC (.int 3)) (aCons (eC (.int 5)) (aCons (eC (.int 7)) (aCons (eC (.int 9)) (aCons (eC (.int 11)) (aCons (eC (.int 15)) (aCons (eC (.int 17)) aNil))))))))) aNil))) aNil)))) (gTp 3 (gsCons (gNm 4) (gsCons (gNm 5) (gsCons (gNm 6) gsNil)))))
  (sSeq (sSet 7 (eLc (iR1 (aCons (e2 gAdd (eVar 1) (eC (.int 1))) aNil)) [8] (gNm 8) bYes (e2 gAdd (e2 gAdd (eSl (eVar 3) oNone (oSome (eVar 4))) (e2 gIx (eVar 2) (e2 (g2 modT) (eCB gInt (aCons (e2 gAdd (eVar 5) (e2 (g2 mulT) (eVar 6) (eVar 8))) aNil)) (eC (.int 26))))) (eSl (eVar 3) (oSome (eVar 4)) oNone))))
  (sRet (eSl (eLc (iL (eVar 7)) [9] (gNm 9) (eB (eCall 1 f_law_is_name (aCons (eVar 9) aNil))) (eVar 9)) oNone (oSome (eVar 1))))))))
def f_law_names : List T → List T → BR := runB 10 F_law_names
def F_law_odd_name : FS :=
  (sRet (eCallB 2 f_law_of (aCons (eVar 0) (aCons (eLst (aCons (eC (.str "top")) (aCons (eC (.str "bottom")) (aCons (eC (.str "")) (aCons (eC (.str "A")) (aCons (eC (.str "a b")) (aCons (eC (.str "abcdefghi")) (aCons (eC (.str "a1")) (aCons (eC (.str "c<")) (aCons (eC .non) (aCons (eC (.int 3)) (aCons (eC (.bl true)) (aCons (eTup (aCons (eC (.str "a")) aNil)) (aCons (eLst (aCons (eC (.str "a")) aNil)) (aCons (eC (.str " a")) aNil))))))))))))))) aNil))))
def f_law_odd_name : List T → List T → BR := runB 1 F_law_odd_name
theorem strs_one (cs : List Nat) : strsOf (cs.map fun c => T.str ⟨#[c]⟩) = some (cs.map fun c => (⟨#[c]⟩ : Str)) := by
  induction cs with
  | nil => rfl
  | cons c cs ih => rw [List.map_cons, strsOf, ih]; rfl
theorem sum_one (cs : List Nat) : ((cs.map fun c => (⟨#[c]⟩ : Str)).map (·.length)).sum = cs.length := by
  induction cs with
  | nil => rfl
  | cons c cs ih => rw [List.map_cons, List.map_cons, List.sum_cons, ih, List.length_cons]; show 1 + _ = _; omega
theorem join_one (cs : List Nat) : (PySem.Txt.join (Str.ofString "") (cs.map fun c => (⟨#[c]⟩ : Str))) = ⟨cs.toArray⟩ := by
  rw [TL.join_eq]
  induction cs with
  | nil => rfl
  | cons c cs ih =>
    cases cs with
    | nil => rfl
    | cons d ds =>
      rw [List.map_cons, List.map_cons]
      show (⟨#[c]⟩ : Str) ++ Str.ofString "" ++ Str.join (Str.ofString "") ((⟨#[d]⟩ : Str) :: ds.map fun c => (⟨#[c]⟩ : Str)) = _
      rw [List.map_cons] at ih
      rw [ih]
      show (⟨(#[c] ++ #[]) ++ (d :: ds).toArray⟩ : Str) = _
      simp

section
variable {sl : List (Option D)} {M : List MO} {fs : Fn (List D)} {R : List MO}
theorem v_gB0 {fb : List T → List T → BR} {u t : T} {b b' : List T} (h : fb b [u] = .val t b') : gCallB 2 fb [.m 0, .t u] (.lst b :: R) = .ok (.t t) (.lst b' :: R) := by
  simp [gCallB, frzL, frz1, h]
theorem v_gBF {fb : List T → List T → BR} {u : T} {us b b' : List T} (h : fb b [u] = .fresh us b') : gCallB 2 fb [.m 0, .t u] (.lst b :: R) = .ok (.t (.lst us)) (.lst b' :: R) := by
  simp [gCallB, frzL, frz1, h]
theorem v_gB1 {fb : List T → List T → BR} {t : T} {b b' : List T} (h : fb b [] = .val t b') : gCallB 1 fb [.m 0] (.lst b :: R) = .ok (.t t) (.lst b' :: R) := by
  simp [gCallB, frzL, frz1, h]
theorem v_gB2 {fb : List T → List T → BR} {u v t : T} {b b' : List T} (h : fb b [u, v] = .val t b') : gCallB 3 fb [.m 0, .t u, .t v] (.lst b :: R) = .ok (.t t) (.lst b' :: R) := by
  simp [gCallB, frzL, frz1, h]
theorem c_draw {b : Bag} (h : b.Ok) {n : Int} (h0 : 0 < n) (h1 : n < 1073741824) (hf : fs sl M = .ok [.m 0, .t (.int n)] (.lst b.t :: R)) :
    ∃ (k : Nat) (b' : Bag), b'.Ok ∧ (k : Int) < n ∧ eCallB 2 f_law_draw fs sl M = .ok (.t (.int k)) (.lst b'.t :: R) := by
  have q := draw_b b h n h0
  have e := draw_eq b h n h0 h1
  obtain ⟨k, hk⟩ : ∃ k : Nat, (drawB b n).1 = (k : Int) := ⟨(drawB b n).1.toNat, by omega⟩
  rw [hk] at e
  exact ⟨k, _, q.1, by omega, v_callB hf (v_gB0 e)⟩
theorem c_ofS {b : Bag} (h : b.Ok) {z : Str} (h0 : 0 < z.cps.size) (h1 : z.cps.size ≤ 16777216) (hf : fs sl M = .ok [.m 0, .t (.str z)] (.lst b.t :: R)) :
    ∃ (c : Nat) (b' : Bag), b'.Ok ∧ c ∈ z.cps.toList ∧ eCallB 2 f_law_of fs sl M = .ok (.t (.str ⟨#[c]⟩)) (.lst b'.t :: R) := by
  obtain ⟨c, hc, e⟩ := of_str b h z h0 h1
  exact ⟨c, _, (bagOf_lt b h h0).2, List.mem_of_getElem? hc, v_callB hf (v_gB0 e)⟩
theorem c_ofL {b : Bag} (h : b.Ok) {xs : List T} (h0 : 0 < xs.length) (h1 : xs.length < 1073741824) (hf : fs sl M = .ok [.m 0, .t (.lst xs)] (.lst b.t :: R)) :
    ∃ (t : T) (b' : Bag), b'.Ok ∧ t ∈ xs ∧ eCallB 2 f_law_of fs sl M = .ok (.t t) (.lst b'.t :: R) := by
  obtain ⟨t, hc, e⟩ := of_lst b h xs h0 h1
  exact ⟨t, _, (bagOf_lt b h h0).2, List.mem_of_getElem? hc, v_callB hf (v_gB0 e)⟩
theorem v_lenS {z : Str} (h : z.cps.size ≤ 16777216) : gLen [.t (.str z)] M = .ok (.t (.int z.cps.size)) M := by
  show (if z.length ≤ sizeLine then _ else _) = _
  rw [if_pos (by rw [sizeLine_eq]; exact h)]
  rfl
theorem v_slS {z : Str} {lo hi : Option Int} (h : z.cps.size ≤ 16777216) : gSl (.t (.str z)) lo hi M = .ok (.t (.str (cutS z lo hi))) M := by
  show (if z.length ≤ sizeLine then _ else _) = _
  rw [if_pos (by rw [sizeLine_eq]; exact h)]
theorem v_addS {x y : Str} (h : x.cps.size + y.cps.size ≤ 16777216) : gAdd (.t (.str x)) (.t (.str y)) M = .ok (.t (.str (x ++ y))) M := by
  show (match addT (.str x) (.str y) with | some t => Res.ok (D.t t) M | none => .fail) = _
  have e : addT (.str x) (.str y) = some (.str (x ++ y)) := by
    show (match cat2 (.str x) (.str y) with | some c => some c | none => _) = _
    have e2 : cat2 (.str x) (.str y) = some (.str (x ++ y)) := if_pos (by rw [sizeLine_eq]; exact h)
    rw [e2]
  rw [e]
theorem size_app (x y : Str) : (x ++ y).cps.size = x.cps.size + y.cps.size := Array.size_append ..
theorem list_app (x y : Str) : (x ++ y).cps.toList = x.cps.toList ++ y.cps.toList := Array.toList_append ..
theorem size_cut (z : Str) (lo hi : Option Int) : (cutS z lo hi).cps.size ≤ z.cps.size := cutS_length z lo hi
theorem lc_map {i : Nat} {E : FE} {g : T → T} : ∀ (ts acc : List T), (∀ t ∈ ts, E (sl.set i (some (.t t))) M = .ok (.t (g t)) M) → acc.length + ts.length ≤ 16777216 →
    lcF [i] (gNm i) bYes E ts sl M acc = some (acc ++ ts.map g, M)
  | [], acc, _, _ => by simp [lcF]
  | t :: ts, acc, h, hl => by
    have e := h t (by simp)
    have ih := lc_map (g := g) ts (acc ++ [g t]) (fun u hu => h u (by simp [hu])) (by simp at hl ⊢; omega)
    have hacc : acc.length < 16777216 := by simp at hl; omega
    have eg : gNm i (.t t) (wipeS sl [i]) M = .nx (sl.set i (some (.t t))) M := by show SRes.nx ((sl.set i none).set i _) M = _; rw [List.set_set]
    rw [lcF, eg]
    simp [bYes, e, frz1, sizeLine_eq, hacc, ih]
theorem lc_map0 {i : Nat} {E : FE} {g : T → T} {ts us : List T} (hm : ts.map g = us) (hl : ts.length ≤ 16777216) (h : ∀ t ∈ ts, E (sl.set i (some (.t t))) M = .ok (.t (g t)) M) :
    lcF [i] (gNm i) bYes E ts sl M [] = some (us, M) := by
  rw [lc_map ts [] h (by simpa using hl), hm, List.nil_append]
/-- a name, as is_name sees it -/
def nmT : T → Bool
  | .str z => isNameZ z
  | _ => false
/-- what is told of -/
def plainT : T → Prop
  | .non => True | .bl _ => True | .int _ => True | .str z => z.cps.size < 16777216 | .lst _ => True | .tup _ => True
  | _ => False
theorem name_any (t : T) (h : plainT t) : f_is_name [t] = .val (.bl (nmT t)) := by
  cases t with
  | str z => exact name_str z h
  | non => exact name_non _ trivial
  | bl b => exact name_non _ trivial
  | int b => exact name_non _ trivial
  | lst b => exact name_non _ trivial
  | tup b => exact name_non _ trivial
  | _ => exact h.elim
theorem lname_any (t : T) (h : plainT t) : f_law_is_name [t] = .val (.bl (nmT t)) := by
  cases t with
  | str z => exact lname_str z h
  | non => exact lname_non _ trivial
  | bl b => exact lname_non _ trivial
  | int b => exact lname_non _ trivial
  | lst b => exact lname_non _ trivial
  | tup b => exact lname_non _ trivial
  | _ => exact h.elim
theorem ok_bls {n : Nat} {ts : List T} (f : T → Bool) (h : ts.length < 16777216) : okT (n + 2) (.lst (ts.map fun t => .bl (f t))) = true := by
  show (decide _ && _) = true
  rw [Bool.and_eq_true]
  refine ⟨by simpa using h, ?_⟩
  rw [List.all_eq_true]
  intro x hx
  obtain ⟨t, _, rfl⟩ := List.mem_map.mp hx
  rfl
theorem bls_any (f : T → Bool) (l : List T) : blsOf (l.map fun c => T.bl (f c)) = some (l.map f) := by
  induction l with
  | nil => rfl
  | cons c l ih => rw [List.map_cons, blsOf, ih]; rfl
theorem v_bls {f : List Bool → Bool} {ts : List T} {bs : List Bool} (h : blsOf ts = some bs) : gBls f [.t (.lst ts)] M = .ok (.t (.bl (f bs))) M := by
  show (match blsOf ts with | some bs => Res.ok (D.t (.bl (f bs))) M | none => .fail) = _
  rw [h]
theorem v_sameB {n : Nat} {ts : List T} (f : T → Bool) (h : ts.length < 16777216) : f_law_same (n + 2) [.lst (ts.map fun t => .bl (f t)), .lst (ts.map fun t => .bl (f t))] = .val (.bl true) := same_refl _ _ (ok_bls f h)
end

section
variable {sl : List (Option D)} {M : List MO} {R : List MO}
/-- a comprehension whose turns draw -/
theorem lc_bag {j : Nat} {E : FE} (P : T → Prop) (hE : ∀ (b : Bag) (t : T), b.Ok → ∃ (u : T) (b' : Bag), b'.Ok ∧ P u ∧ E (sl.set j (some (.t t))) (.lst b.t :: R) = .ok (.t u) (.lst b'.t :: R)) :
    ∀ (ts acc : List T) (b : Bag), b.Ok → acc.length + ts.length ≤ 16777216 → ∃ (us : List T) (b' : Bag), b'.Ok ∧ us.length = ts.length ∧ (∀ u ∈ us, P u) ∧ lcF [j] (gNm j) bYes E ts sl (.lst b.t :: R) acc = some (acc ++ us, .lst b'.t :: R)
  | [], acc, b, hb, _ => ⟨[], b, hb, rfl, fun u hu => (List.not_mem_nil hu).elim, by simp [lcF]⟩
  | t :: ts, acc, b, hb, hl => by
    obtain ⟨u, b1, hb1, hu, e⟩ := hE b t hb
    obtain ⟨us, b2, hb2, hlen, hus, e2⟩ := lc_bag P hE ts (acc ++ [u]) b1 hb1 (by simp at hl ⊢; omega)
    have hacc : acc.length < 16777216 := by simp at hl; omega
    refine ⟨u :: us, b2, hb2, by simp [hlen], fun v hv => ?_, ?_⟩
    · rcases List.mem_cons.mp hv with rfl | hv
      · exact hu
      · exact hus v hv
    · have eg : gNm j (.t t) (wipeS sl [j]) (.lst b.t :: R) = .nx (sl.set j (some (.t t))) (.lst b.t :: R) := by show SRes.nx ((sl.set j none).set j _) _ = _; rw [List.set_set]
      rw [lcF, eg]
      simp [bYes, e, frz1, sizeLine_eq, hacc, e2]
/-- a comprehension with a test -/
theorem lc_filter {j : Nat} {Tt : Fn Bool} {E : FE} {p : T → Bool} {g : T → T} : ∀ (ts acc : List T), (∀ t ∈ ts, Tt (sl.set j (some (.t t))) M = .ok (p t) M) → (∀ t ∈ ts, E (sl.set j (some (.t t))) M = .ok (.t (g t)) M) → acc.length + ts.length ≤ 16777216 →
    lcF [j] (gNm j) Tt E ts sl M acc = some (acc ++ (ts.filter p).map g, M)
  | [], acc, _, _, _ => by simp [lcF]
  | t :: ts, acc, h, h2, hl => by
    have e := h t (by simp)
    have e2 := h2 t (by simp)
    have ih := fun acc hl => lc_filter (p := p) (g := g) ts acc (fun u hu => h u (by simp [hu])) (fun u hu => h2 u (by simp [hu])) hl
    have hacc : acc.length < 16777216 := by simp at hl; omega
    have eg : gNm j (.t t) (wipeS sl [j]) M = .nx (sl.set j (some (.t t))) M := by show SRes.nx ((sl.set j none).set j _) M = _; rw [List.set_set]
    rw [lcF, eg]
    cases hp : p t with
    | true =>
      rw [hp] at e
      simp [e, e2, frz1, sizeLine_eq, hacc, ih (acc ++ [g t]) (by simp at hl ⊢; omega), hp]
    | false =>
      rw [hp] at e
      simp [e, ih acc (by simp at hl ⊢; omega), hp]
end
end BmLaw

/-! The drawn names. -/
namespace BmLaw
open PySem L2 Bm
section
variable {M : List MO}
theorem v_addI {i j : Int} : gAdd (.t (.int i)) (.t (.int j)) M = .ok (.t (.int (i + j))) M := rfl
theorem v_subI {i j : Int} : g2 subT (.t (.int i)) (.t (.int j)) M = .ok (.t (.int (i - j))) M := rfl
theorem v_mulI {i j : Int} (h : CMul i j) : g2 mulT (.t (.int i)) (.t (.int j)) M = .ok (.t (.int (i * j))) M := by simp [g2, mulT, int2, h]
theorem v_modI {i j : Int} (h : j ≠ 0) : g2 modT (.t (.int i)) (.t (.int j)) M = .ok (.t (.int (i.fmod j))) M := by simp [g2, modT, int2, h]
theorem v_divI {i j : Int} (h : CDivN i j) : g2 divT (.t (.int i)) (.t (.int j)) M = .ok (.t (.int (i.fdiv j))) M := by simp [g2, divT, int2, h]
theorem v_ixS {z : Str} {i : Int} {c : Nat} (hz : z.cps.size ≤ 16777216) (h : atI z.cps.toList i = some c) : gIx (.t (.str z)) (.t (.int i)) M = .ok (.t (.str ⟨#[c]⟩)) M := by
  have hz' : z.length ≤ sizeLine := by rw [sizeLine_eq]; exact hz
  simp [gIx, hz', h]
theorem v_ixL {ts : List T} {i : Int} {t : T} (h : atI ts i = some t) : gIx (.t (.lst ts)) (.t (.int i)) M = .ok (.t t) M := by
  simp [gIx, seqD, lstOf, h]
theorem v_ixT {ts : List T} {i : Int} {t : T} (h : atI ts i = some t) : gIx (.t (.tup ts)) (.t (.int i)) M = .ok (.t t) M := by
  simp [gIx, seqD, lstOf, h]
theorem cmul_small {i j : Int} (h : i.natAbs < 18446744073709551616) : CMul i j := by
  unfold CMul
  left
  omega
end
theorem cut_take (ts : List T) (n : Nat) : cutT ts none (some (n : Int)) = ts.take n := by
  have e1 : HT.sIx ts.length 0 none = 0 := rfl
  have e2 : HT.sIx ts.length ts.length (some (n : Int)) = min n ts.length := HT.sIx_nat _ _ _
  show (ts.drop (HT.sIx ts.length 0 none)).take (HT.sIx ts.length ts.length (some (n : Int)) - HT.sIx ts.length 0 none) = _
  rw [e1, e2, List.drop_zero, Nat.sub_zero, ← List.take_eq_take_min]
theorem cut_drop (ts : List T) (n : Nat) : cutT ts (some (n : Int)) none = ts.drop n := by
  have e1 : HT.sIx ts.length ts.length none = ts.length := rfl
  have e2 : HT.sIx ts.length 0 (some (n : Int)) = min n ts.length := HT.sIx_nat _ _ _
  show (ts.drop (HT.sIx ts.length 0 (some (n : Int)))).take (HT.sIx ts.length ts.length none - HT.sIx ts.length 0 (some (n : Int))) = _
  rw [e1, e2]
  by_cases h : n ≤ ts.length
  · rw [Nat.min_eq_left h]
    exact List.take_of_length_le (by simp)
  · rw [Nat.min_eq_right (by omega), Nat.sub_self, List.take_zero, List.drop_eq_nil_of_le (by omega)]
theorem mem_range {lo : Int} {n : Nat} {t : T} (h : t ∈ rangeT lo n) : ∃ i : Nat, i < n ∧ t = .int (lo + (i : Int)) := by
  unfold rangeT at h
  obtain ⟨i, hi, rfl⟩ := List.mem_map.mp h
  exact ⟨i, by simpa using hi, rfl⟩
theorem range_len {lo : Int} {n : Nat} : (rangeT lo n).length = n := by unfold rangeT; simp
theorem v_range {i : Int} {M : List MO} (h : i.natAbs < 4611686018427387904) : iRg1 [.t (.int i)] M = .ok (rangeT 0 i.toNat) M := by
  unfold iRg1
  have a1 : -(2 ^ 62) ≤ i := by omega
  have a2 : i < 2 ^ 62 := by omega
  exact if_pos ⟨a1, a2⟩
/-- a stem: some letters -/
theorem c_stem {sl : List (Option D)} {R : List MO} {j n : Nat} {fs : Fn (List D)} {it : Fn (List T)} {b : Bag} (hb : b.Ok) {M : List MO} (hi : it sl M = .ok (rangeT 0 n) (.lst b.t :: R)) (hn : n ≤ 1000)
    (hf : ∀ (t : T) (M : List MO), fs (sl.set j (some (.t t))) M = .ok [.m 0, .t (.str letters)] M) :
    ∃ (z : Str) (b' : Bag), b'.Ok ∧ z.cps.size = n ∧ (∀ c ∈ z.cps.toList, isLet c = true) ∧
      eBM isStrD gJoin (eC (.str "")) (aCons (eLc it [j] (gNm j) bYes (eCallB 2 f_law_of fs)) aNil) sl M = .ok (.t (.str z)) (.lst b'.t :: R) := by
  obtain ⟨us, b', hb', hlen, hus, e⟩ := lc_bag (sl := sl) (R := R) (j := j) (E := eCallB 2 f_law_of fs) (fun u => ∃ c, isLet c = true ∧ u = .str ⟨#[c]⟩) (fun b t hb => by
    obtain ⟨c, b1, hb1, hc, e⟩ := c_ofS (M := .lst b.t :: R) hb (z := letters) (by decide) (by decide) (hf t _)
    exact ⟨_, b1, hb1, ⟨c, decide_eq_true hc, rfl⟩, e⟩) (rangeT 0 n) [] b hb (by rw [range_len]; simp; omega)
  rw [range_len] at hlen
  obtain ⟨cs, hcs, hcl⟩ : ∃ cs : List Nat, us = cs.map (fun c => T.str ⟨#[c]⟩) ∧ ∀ c ∈ cs, isLet c = true := by
    clear hlen e
    induction us with
    | nil => exact ⟨[], rfl, fun c hc => (List.not_mem_nil hc).elim⟩
    | cons u us ih =>
      obtain ⟨cs, rfl, h⟩ := ih fun v hv => hus v (by simp [hv])
      obtain ⟨c, h1, rfl⟩ := hus u (by simp)
      exact ⟨c :: cs, rfl, fun d hd => by
        rcases List.mem_cons.mp hd with rfl | hd
        · exact h1
        · exact h d hd⟩
  subst hcs
  rw [List.nil_append] at e
  rw [List.length_map] at hlen
  have c1 := strs_one cs
  have c2 := sum_one cs
  have c3 := join_one cs
  have hj : gJoin (.t (.str (Str.ofString ""))) [.t (.lst (cs.map fun c => T.str ⟨#[c]⟩))] (.lst b'.t :: R) = .ok (.t (.str ⟨cs.toArray⟩)) (.lst b'.t :: R) := by
    unfold gJoin
    simp only [seqD, lstOf, c1, c3]
    refine if_pos ?_
    have hz : (Str.ofString "").length = 0 := rfl
    rw [c2, hz, Nat.mul_zero]
    omega
  exact ⟨⟨cs.toArray⟩, b', hb', by simpa using hlen, fun c hc => hcl c (by simpa using hc), v_bm v_c rfl (v_cons (v_lc hi e) v_nil) hj⟩
/-- a name with a letter put in -/
def putL (z : Str) (s : Int) (c : Nat) : Str := cutS z none (some s) ++ ⟨#[c]⟩ ++ cutS z (some s) none
theorem cut_parts (z : Str) (s : Nat) : (cutS z none (some (s : Int))).cps.toList = z.cps.toList.take s ∧ (cutS z (some (s : Int)) none).cps.toList = z.cps.toList.drop s := by
  have hl : z.length = z.cps.toList.length := by rw [Array.length_toList]; rfl
  have q : HT.sIx z.length z.length (some (s : Int)) = min s z.length := HT.sIx_nat _ _ _
  have q2 : HT.sIx z.length 0 (some (s : Int)) = min s z.length := HT.sIx_nat _ _ _
  have q3 : HT.sIx z.length 0 none = 0 := rfl
  have q4 : HT.sIx z.length z.length none = z.length := rfl
  constructor
  · show ((z.cps.toList.drop (HT.sIx z.length 0 none)).take (HT.sIx z.length z.length (some (s : Int)) - HT.sIx z.length 0 none)).toArray.toList = _
    rw [q, q3, List.drop_zero, Nat.sub_zero, hl, List.toList_toArray, ← List.take_eq_take_min]
  · show ((z.cps.toList.drop (HT.sIx z.length 0 (some (s : Int)))).take (HT.sIx z.length z.length none - HT.sIx z.length 0 (some (s : Int)))).toArray.toList = _
    rw [q2, q4, hl, List.toList_toArray]
    by_cases h : s ≤ z.cps.toList.length
    · rw [Nat.min_eq_left h]
      exact List.take_of_length_le (by simp)
    · rw [Nat.min_eq_right (by omega), Nat.sub_self, List.take_zero, List.drop_eq_nil_of_le (by omega)]
theorem put_list (z : Str) (s : Nat) (c : Nat) : (putL z s c).cps.toList = z.cps.toList.take s ++ [c] ++ z.cps.toList.drop s := by
  unfold putL
  rw [list_app, list_app, (cut_parts z s).1, (cut_parts z s).2]
theorem put_size (z : Str) (s : Nat) (c : Nat) : (putL z s c).cps.size = z.cps.size + 1 := by
  rw [← Array.length_toList, put_list, List.length_append, List.length_append, List.length_take, List.length_drop, Array.length_toList, List.length_singleton]
  omega
theorem put_let (z : Str) (s : Nat) (c : Nat) (h : ∀ c ∈ z.cps.toList, isLet c = true) (hc : isLet c = true) : ∀ d ∈ (putL z s c).cps.toList, isLet d = true := by
  intro d hd
  rw [put_list] at hd
  rcases List.mem_append.mp hd with hd | hd
  · rcases List.mem_append.mp hd with hd | hd
    · exact h d (List.mem_of_mem_take hd)
    · rw [List.mem_singleton] at hd; rw [hd]; exact hc
  · exact h d (List.mem_of_mem_drop hd)
theorem put_inj {z : Str} {s : Nat} {c d : Nat} (h : putL z s c = putL z s d) : c = d := by
  have e := congrArg (fun x : Str => x.cps.toList) h
  simp only [put_list] at e
  have e2 := List.append_cancel_right e
  have e3 := List.append_cancel_left e2
  simpa using e3
theorem filter_len {α : Type} (p : α → Bool) : ∀ {xs : List α}, xs.Nodup → (∀ x ∈ xs, ∀ y ∈ xs, p x = false → p y = false → x = y) → xs.length ≤ (xs.filter p).length + 1
  | [], _, _ => Nat.zero_le _
  | x :: xs, hn, h => by
    rw [List.nodup_cons] at hn
    cases hp : p x with
    | true =>
      rw [List.filter_cons_of_pos hp]
      have := filter_len p hn.2 fun a ha b hb => h a (by simp [ha]) b (by simp [hb])
      simp only [List.length_cons]
      omega
    | false =>
      rw [List.filter_cons_of_neg (by rw [hp]; decide)]
      have e : xs.filter p = xs := by
        rw [List.filter_eq_self]
        intro y hy
        cases hq : p y with
        | true => rfl
        | false =>
          have := h x (by simp) y (by simp [hy]) hp hq
          subst this
          exact (hn.1 hy).elim
      rw [e, List.length_cons]
      omega
def paces : List Int := [1, 3, 5, 7, 9, 11, 15, 17]
def letAt (f p : Int) (k : Nat) : Nat := 97 + ((f + p * (k : Int)).fmod 26).toNat
theorem letters_at (i : Int) (h0 : 0 ≤ i) (h1 : i < 26) : atI letters.cps.toList i = some (97 + i.toNat) := by
  obtain ⟨n, rfl⟩ : ∃ n : Nat, i = (n : Int) := ⟨i.toNat, by omega⟩
  have hn : n < 26 := by omega
  have key : ∀ n : Fin 26, atI letters.cps.toList ((n.1 : Nat) : Int) = some (97 + n.1) := by decide +kernel
  exact key ⟨n, hn⟩
theorem letters_is (k : Nat) (h : k < 26) : isLet (97 + k) = true := by
  have key : ∀ n : Fin 26, isLet (97 + n.1) = true := by decide +kernel
  exact key ⟨k, h⟩
theorem letAt_is (f p : Int) (k : Nat) : isLet (letAt f p k) = true := by
  have q := fm (f + p * (k : Int)) (n := 26) (by decide)
  exact letters_is _ (by omega)
theorem letAt_inj {f p : Int} (hp : p ∈ paces) {k l : Nat} (hk : k < 26) (hl : l < 26) (h : letAt f p k = letAt f p l) : k = l := by
  have q := fm (f + p * (k : Int)) (n := 26) (by decide)
  have q2 := fm (f + p * (l : Int)) (n := 26) (by decide)
  unfold letAt at h
  have e : (f + p * (k : Int)).fmod 26 = (f + p * (l : Int)).fmod 26 := by omega
  rw [Int.fmod_eq_emod_of_nonneg _ (by decide), Int.fmod_eq_emod_of_nonneg _ (by decide)] at e
  simp only [paces, List.mem_cons, List.not_mem_nil, or_false] at hp
  rcases hp with rfl | rfl | rfl | rfl | rfl | rfl | rfl | rfl <;> omega

theorem nameZ_of {z : Str} (h1 : 1 ≤ z.cps.size) (h2 : z.cps.size ≤ 8) (h3 : ∀ c ∈ z.cps.toList, isLet c = true) : isNameZ z = !(("top" : Str) == z || ("bottom" : Str) == z) := by
  unfold isNameZ
  have a : z.cps.toList.all isLet = true := List.all_eq_true.mpr h3
  rw [a, Bool.and_true, decide_eq_true ⟨h1, h2⟩, Bool.true_and]
/-- the names that a stem gives -/
theorem names_list {z : Str} {s : Nat} {f p : Int} (hz : z.cps.size ≤ 7) (hl : ∀ c ∈ z.cps.toList, isLet c = true) (hp : p ∈ paces) {n : Nat} (hn : n ≤ 25) :
    ((((List.range (n + 1)).map fun k => putL z s (letAt f p k)).filter isNameZ).take n).length = n ∧ ((((List.range (n + 1)).map fun k => putL z s (letAt f p k)).filter isNameZ).take n).Nodup := by
  have inj : ∀ k l, k < n + 1 → l < n + 1 → putL z s (letAt f p k) = putL z s (letAt f p l) → k = l := fun k l hk hl2 e => letAt_inj hp (by omega) (by omega) (put_inj e)
  have nd : ((List.range (n + 1)).map fun k => putL z s (letAt f p k)).Nodup := by
    rw [List.Nodup, List.pairwise_map]
    refine List.Pairwise.imp_of_mem ?_ (List.nodup_range (n := n + 1))
    intro a b ha hb hab e
    exact hab (inj a b (List.mem_range.mp ha) (List.mem_range.mp hb) e)
  have one : ∀ x ∈ (List.range (n + 1)).map fun k => putL z s (letAt f p k), ∀ y ∈ (List.range (n + 1)).map fun k => putL z s (letAt f p k), isNameZ x = false → isNameZ y = false → x = y := by
    intro x hx y hy h1 h2
    obtain ⟨k, hk, rfl⟩ := List.mem_map.mp hx
    obtain ⟨l, hl2, rfl⟩ := List.mem_map.mp hy
    have s1 := put_size z s (letAt f p k)
    have s2 := put_size z s (letAt f p l)
    rw [nameZ_of (by omega) (by omega) (put_let z s _ hl (letAt_is f p k))] at h1
    rw [nameZ_of (by omega) (by omega) (put_let z s _ hl (letAt_is f p l))] at h2
    generalize putL z s (letAt f p k) = u at h1 s1
    generalize putL z s (letAt f p l) = v at h2 s2
    have t3 : (("top" : Str)).cps.size = 3 := by decide
    have t6 : (("bottom" : Str)).cps.size = 6 := by decide
    simp only [Bool.not_eq_false', Bool.or_eq_true, beq_iff_eq] at h1 h2
    rcases h1 with rfl | rfl <;> rcases h2 with rfl | rfl <;> first | rfl | omega
  have fl := filter_len isNameZ nd one
  rw [List.length_map, List.length_range] at fl
  refine ⟨?_, (nd.sublist (List.filter_sublist)).sublist (List.take_sublist _ _)⟩
  rw [List.length_take]
  omega
theorem filter_str (l : List Str) : ((l.map T.str).filter nmT).map (fun t => t) = (l.filter isNameZ).map T.str := by
  rw [List.map_id']
  induction l with
  | nil => rfl
  | cons z l ih =>
    rw [List.map_cons]
    have e : nmT (.str z) = isNameZ z := rfl
    cases h : isNameZ z with
    | true => rw [List.filter_cons_of_pos (by rw [e, h]), List.filter_cons_of_pos (by rw [h]), ih, List.map_cons]
    | false => rw [List.filter_cons_of_neg (by rw [e, h]; decide), List.filter_cons_of_neg (by rw [h]; decide), ih]
theorem names_ok (b : Bag) (hb : b.Ok) (n : Nat) (hn : n ≤ 25) : ∃ (zs : List Str) (b' : Bag), b'.Ok ∧ zs.length = n ∧ zs.Nodup ∧ (∀ z ∈ zs, isNameZ z = true) ∧ (∀ z ∈ zs, z.cps.size ≤ 8) ∧ f_law_names b.t [.int n] = .val (.lst (zs.map T.str)) b'.t := by
  let sl0 : List (Option D) := [some (.m 0), some (.t (.int n)), some (.t (.str letters)), none, none, none, none, none, none, none]
  obtain ⟨k6, b1, hb1, hk6, w1⟩ := c_draw hb (R := []) (n := 6) (fs := aCons (eVar 0) (aCons (eC (.int 6)) aNil)) (sl := sl0) (by decide) (by decide) (v_cons (v_var rfl) (v_cons v_c v_nil))
  obtain ⟨z, b2, hb2, hz, hzl, w2⟩ := c_stem (sl := sl0) (R := []) (j := 8) (n := k6) (fs := aCons (eVar 0) (aCons (eVar 2) aNil)) (it := iR1 (aCons (eCallB 2 f_law_draw (aCons (eVar 0) (aCons (eC (.int 6)) aNil))) aNil)) (M := [.lst b.t]) hb1
    (v_r1 (v_cons w1 v_nil) (v_range (by omega))) (by omega) (fun t M => v_cons (v_var rfl) (v_cons (v_var rfl) v_nil))
  let sl1 : List (Option D) := [some (.m 0), some (.t (.int n)), some (.t (.str letters)), some (.t (.str z)), none, none, none, none, none, none]
  obtain ⟨s, b3, hb3, hs, w3⟩ := c_draw hb2 (R := []) (n := (z.cps.size : Int) + 1) (fs := aCons (eVar 0) (aCons (e2 gAdd (eCB gLen (aCons (eVar 3) aNil)) (eC (.int 1))) aNil)) (sl := sl1) (by omega) (by omega) (v_cons (v_var rfl) (v_cons (v_e2 (v_cb (v_cons (v_var rfl) v_nil) (v_lenS (by omega))) v_c v_addI) v_nil))
  obtain ⟨f, b4, hb4, hf, w4⟩ := c_draw hb3 (R := []) (n := 26) (fs := aCons (eVar 0) (aCons (eC (.int 26)) aNil)) (sl := sl1) (by decide) (by decide) (v_cons (v_var rfl) (v_cons v_c v_nil))
  obtain ⟨pt, b5, hb5, hp, w5⟩ := c_ofL hb4 (R := []) (xs := paces.map T.int) (fs := aCons (eVar 0) (aCons (eLst (aCons (eC (.int 1)) (aCons (eC (.int 3)) (aCons (eC (.int 5)) (aCons (eC (.int 7)) (aCons (eC (.int 9)) (aCons (eC (.int 11)) (aCons (eC (.int 15)) (aCons (eC (.int 17)) aNil))))))))) aNil)) (sl := sl1) (by decide) (by decide)
    (v_cons (v_var rfl) (v_cons (v_lst (v_cons v_c (v_cons v_c (v_cons v_c (v_cons v_c (v_cons v_c (v_cons v_c (v_cons v_c (v_cons v_c v_nil)))))))) rfl (Nat.le_of_ble_eq_true rfl)) v_nil))
  obtain ⟨p, hpm, rfl⟩ := List.mem_map.mp hp
  have hpb : p.natAbs < 18446744073709551616 := by
    have hpm := hpm
    simp only [paces, List.mem_cons, List.not_mem_nil, or_false] at hpm
    rcases hpm with rfl | rfl | rfl | rfl | rfl | rfl | rfl | rfl <;> decide
  let cand : Nat → Str := fun k => putL z s (letAt f p k)
  let g : T → T := fun t => match t with
    | .int k => .str (cand k.toNat)
    | _ => .non
  let sl2 : List (Option D) := [some (.m 0), some (.t (.int n)), some (.t (.str letters)), some (.t (.str z)), some (.t (.int s)), some (.t (.int f)), some (.t (.int p)), none, none, none]
  have hz7 : z.cps.size ≤ 7 := by omega
  have hmap : (rangeT 0 (n + 1)).map g = ((List.range (n + 1)).map cand).map T.str := by
    unfold rangeT
    rw [List.map_map, List.map_map]
    refine List.map_congr_left fun k _ => ?_
    show T.str (cand ((0 : Int) + (k : Int)).toNat) = T.str (cand k)
    rw [show ((0 : Int) + (k : Int)).toNat = k by omega]
  have w6 : eLc (iR1 (aCons (e2 gAdd (eVar 1) (eC (.int 1))) aNil)) [8] (gNm 8) bYes (e2 gAdd (e2 gAdd (eSl (eVar 3) oNone (oSome (eVar 4))) (e2 gIx (eVar 2) (e2 (g2 modT) (eCB gInt (aCons (e2 gAdd (eVar 5) (e2 (g2 mulT) (eVar 6) (eVar 8))) aNil)) (eC (.int 26))))) (eSl (eVar 3) (oSome (eVar 4)) oNone)) sl2 [.lst b5.t]
      = .ok (.t (.lst (((List.range (n + 1)).map cand).map T.str))) [.lst b5.t] := by
    refine v_lc (v_r1 (v_cons (v_e2 (v_var rfl) v_c v_addI) v_nil) (v_range (by omega))) (lc_map0 (g := g) ?_ ?_ ?_)
    · rw [show ((n : Int) + 1).toNat = n + 1 by omega]; exact hmap
    · rw [range_len]; omega
    · intro t ht
      obtain ⟨k, hk, rfl⟩ := mem_range ht
      have q := fm ((f : Int) + p * ((0 : Int) + (k : Int))) (n := 26) (by decide)
      have hix : gIx (.t (.str letters)) (.t (.int (((f : Int) + p * ((0 : Int) + (k : Int))).fmod 26))) [.lst b5.t] = .ok (.t (.str ⟨#[letAt f p k]⟩)) [.lst b5.t] := by
        have e0 := letters_at _ q.1 q.2
        have e00 : letAt f p k = 97 + (((f : Int) + p * ((0 : Int) + (k : Int))).fmod 26).toNat := by unfold letAt; rw [Int.zero_add]
        rw [e00]
        exact v_ixS (by decide) e0
      have q1 := size_cut z none (some (s : Int))
      have q2 := size_cut z (some (s : Int)) none
      have q3 := size_app (cutS z none (some (s : Int))) ⟨#[letAt f p k]⟩
      have qc : (⟨#[letAt f p k]⟩ : Str).cps.size = 1 := rfl
      have hg : g (.int ((0 : Int) + (k : Int))) = .str (cutS z none (some (s : Int)) ++ ⟨#[letAt f p k]⟩ ++ cutS z (some (s : Int)) none) := by
        show T.str (cand ((0 : Int) + (k : Int)).toNat) = _
        rw [show ((0 : Int) + (k : Int)).toNat = k by omega]
        rfl
      rw [hg]
      exact v_e2 (v_e2 (v_sl (v_var rfl) v_none (v_some (v_var rfl)) (v_slS (by omega))) (v_e2 (v_var rfl) (v_e2 (v_cb (v_cons (v_e2 (v_var rfl) (v_e2 (v_var rfl) (v_var rfl) (v_mulI (cmul_small hpb))) v_addI) v_nil) rfl) v_c (v_modI (by decide))) hix) (v_addS (by omega))) (v_sl (v_var rfl) (v_some (v_var rfl)) v_none (v_slS (by omega))) (v_addS (by omega))
  have hnl := names_list (s := s) (f := f) hz7 hzl hpm hn
  refine ⟨(((List.range (n + 1)).map cand).filter isNameZ).take n, b5, hb5, hnl.1, hnl.2, fun x hx => (List.mem_filter.mp (List.mem_of_mem_take hx)).2, fun x hx => ?_, ?_⟩
  · obtain ⟨k, _, rfl⟩ := List.mem_map.mp (List.mem_filter.mp (List.mem_of_mem_take hx)).1
    have := put_size z s (letAt f p k)
    show (putL z s (letAt f p k)).cps.size ≤ 8
    omega
  · have hc0 : ∀ x ∈ (List.range (n + 1)).map cand, x.cps.size < 16777216 := fun x hx => by
      obtain ⟨k, _, rfl⟩ := List.mem_map.mp hx
      have := put_size z s (letAt f p k)
      show (putL z s (letAt f p k)).cps.size < _
      omega
    have w7 : eLc (iL (eVar 7)) [9] (gNm 9) (eB (eCall 1 f_law_is_name (aCons (eVar 9) aNil))) (eVar 9) (sl2.set 7 (some (.t (.lst (((List.range (n + 1)).map cand).map T.str))))) [.lst b5.t]
        = .ok (.t (.lst ((((List.range (n + 1)).map cand).filter isNameZ).map T.str))) [.lst b5.t] := by
      rw [← filter_str]
      refine v_lc (v_il (v_var rfl) rfl) ((lc_filter (p := nmT) (g := fun t => t) _ [] ?_ ?_ ?_).trans ?_)
      · intro t ht
        obtain ⟨x, hx, rfl⟩ := List.mem_map.mp ht
        exact v_eB (v_call (v_cons (v_var rfl) v_nil) rfl rfl (lname_any (.str x) (hc0 x hx)))
      · exact fun t _ => v_var rfl
      · simp; omega
      · rfl
    show ansB (F_law_names [some (.m 0), some (.t (.int n)), none, none, none, none, none, none, none, none] [.lst b.t]) = _
    suffices h : F_law_names [some (.m 0), some (.t (.int n)), none, none, none, none, none, none, none, none] [.lst b.t] = .rt (.t (.lst (((((List.range (n + 1)).map cand).filter isNameZ).take n).map T.str))) [.lst b5.t] by rw [h]; rfl
    unfold F_law_names
    refine v_seq (v_set v_c) ?_
    refine v_seq (v_set w2) ?_
    refine v_seq (v_asg (v_tup (v_cons w3 (v_cons w4 (v_cons w5 v_nil))) rfl (Nat.le_of_ble_eq_true rfl)) rfl) ?_
    refine v_seq (v_set w6) ?_
    refine v_ret (v_sl w7 v_none (v_some (v_var rfl)) ?_)
    show Res.ok (D.t (.lst (cutT _ none (some (n : Int))))) _ = _
    rw [cut_take, List.map_take]
end BmLaw

/-! Declarations. -/
namespace BmLaw
open PySem L2 Bm
def c_DECLARED : List (Str × T) := [("sort", (.int 1)), ("pair", (.int 2)), ("swap", (.int 2)), ("step", (.int 1)), ("drop", (.int 1)), ("closure", (.int 1)), ("interior", (.int 1)), ("item", (.int 1)), ("below", (.int 0))]
def c_WORDS : List (Str × T) := [("sort", (.int 2)), ("pair", (.int 5)), ("swap", (.int 5)), ("step", (.int 4)), ("drop", (.int 4)), ("closure", (.int 3)), ("interior", (.int 3)), ("item", (.int 3)), ("below", (.int 3))]
def F_is_declaration : FS :=
  (sSeq (sIf (bOr (bNot (eB (eCB (gP (isiT tabB)) (aCons (eVar 0) (aCons (eC (.ty "tuple")) aNil))))) (bOr (eB (e2 (g2 eqT) (eCB gLen (aCons (eVar 0) aNil)) (eC (.int 0)))) (bOr (bNot (eB (eCB (gP (isiT tabB)) (aCons (e2 gIx (eVar 0) (eC (.int 0))) (aCons (eC (.ty "str")) aNil))))) (eB (e1 (keyIn true c_WORDS) (e2 gIx (eVar 0) (eC (.int 0)))))))) (sRet (eC (.bl false))) sSkip)
  (sRet (eAnd (e2 (g2 eqT) (eCB gLen (aCons (eVar 0) aNil)) (e1 (keyAt c_WORDS) (e2 gIx (eVar 0) (eC (.int 0))))) (eCB (gBls fun bs => bs.all id) (aCons (eLc (iT (eSl (eVar 0) (oSome (eC (.int 1))) oNone)) [1] (gNm 1) bYes (eCall 1 f_is_name (aCons (eVar 1) aNil))) aNil)))))
def f_is_declaration : List T → PR := runP 2 F_is_declaration
def F_names_of : FS :=
  (sRet (eCB gListM (aCons (eSl (eVar 0) (oSome (eC (.int 1))) (oSome (e2 gAdd (eC (.int 1)) (e1 (keyAt c_DECLARED) (e2 gIx (eVar 0) (eC (.int 0))))))) aNil)))
def f_names_of : List T → PR := runP 1 F_names_of
def F_uses_of : FS :=
  (sRet (eCB gListM (aCons (eSl (eVar 0) (oSome (e2 gAdd (eC (.int 1)) (e1 (keyAt c_DECLARED) (e2 gIx (eVar 0) (eC (.int 0)))))) oNone) aNil)))
def f_uses_of : List T → PR := runP 1 F_uses_of
local macro_rules | `(tactic| walk_at "bm") => `(tactic| simp [runB, runP, start', sSeq, sSet, sExpr, sRet, sIf, sSkip, sAsg, e2, e3, eVar, eC, eB, eAnd, eOr, eNot, eIf, bAnd, bOr, bNot, toB, Res.bind, Res.toS, gIx, seqD, lstOf, atI, ixN, gAdd, gCatL, g2, pk, isSc, addT, subT, mulT, powT, divT, modT, ltT, leT, gtT, geT, int2, eqT, neT, eqS, isN, notN,
  gSubM, frz1, frzL, aCons, aNil, eCB, gLen, gInt, gList, ansB, ansP, CMul, CPow, CDivN, gP, allT, eSl, gSl, oSome, oNone, eLstM, eLst, eTup, toTs, eCall, eCallM, eCallB, gCallB, sFor, loopF, gNm, iL, iLst, iT, iTp, iS, iSt, iZ, iZp, eLc, bYes, isiT, kdOf, tgt, tabB, kinds, isiAny, sizeLine_eq, eBM, isStrD, isLst, strlen, *])


theorem words_int {w : Str} {u : T} (h : tabGet c_WORDS w = some u) : ∃ n, u = .int n := by
  simp only [c_WORDS, tabGet] at h
  split at h
  · cases h; exact ⟨_, rfl⟩
  · split at h
    · cases h; exact ⟨_, rfl⟩
    · split at h
      · cases h; exact ⟨_, rfl⟩
      · split at h
        · cases h; exact ⟨_, rfl⟩
        · split at h
          · cases h; exact ⟨_, rfl⟩
          · split at h
            · cases h; exact ⟨_, rfl⟩
            · split at h
              · cases h; exact ⟨_, rfl⟩
              · split at h
                · cases h; exact ⟨_, rfl⟩
                · split at h
                  · cases h; exact ⟨_, rfl⟩
                  · cases h
def declT : T → Bool
  | .tup (.str w :: r) => (match tabGet c_WORDS w with
    | some (.int n) => decide ((r.length : Int) + 1 = n) && r.all nmT
    | _ => false)
  | _ => false
section
variable {M : List MO}
theorem v_lenT {ts : List T} : gLen [.t (.tup ts)] M = .ok (.t (.int ts.length)) M := rfl
theorem v_lenL {ts : List T} : gLen [.t (.lst ts)] M = .ok (.t (.int ts.length)) M := rfl
theorem v_eqI {i j : Int} : g2 eqT (.t (.int i)) (.t (.int j)) M = .ok (.t (.bl (decide (i = j)))) M := rfl
theorem v_eqZ {i j : Str} : g2 eqT (.t (.str i)) (.t (.str j)) M = .ok (.t (.bl (decide (i = j)))) M := rfl
theorem v_slT {ts : List T} {lo hi : Option Int} : gSl (.t (.tup ts)) lo hi M = .ok (.t (.tup (cutT ts lo hi))) M := rfl
theorem v_slL {ts : List T} {lo hi : Option Int} : gSl (.t (.lst ts)) lo hi M = .ok (.t (.lst (cutT ts lo hi))) M := rfl
theorem v_slT' {ts us : List T} {lo hi : Option Int} (h : cutT ts lo hi = us) : gSl (.t (.tup ts)) lo hi M = .ok (.t (.tup us)) M := by subst h; rfl
theorem v_slL' {ts us : List T} {lo hi : Option Int} (h : cutT ts lo hi = us) : gSl (.t (.lst ts)) lo hi M = .ok (.t (.lst us)) M := by subst h; rfl
theorem v_e1 {sl : List (Option D)} {M1 : List MO} {f : T → Option T} {F : FE} {t u : T} (h : F sl M = .ok (.t t) M1) (h2 : f t = some u) : e1 f F sl M = .ok (.t u) M1 := by
  unfold e1; rw [h]; show (match f t with | some u => Res.ok (D.t u) M1 | none => .fail) = _; rw [h2]
theorem v_it {sl : List (Option D)} {M1 : List MO} {F : FE} {ts : List T} (ha : F sl M = .ok (.t (.tup ts)) M1) : iT F sl M = .ok ts M1 := by
  unfold iT; rw [ha]; rfl
theorem v_eand {sl : List (Option D)} {M1 : List MO} {fa fb : FE} {k : Bool} {r : Res D} (h : fa sl M = .ok (.t (.bl k)) M1) (h2 : (if k then fb sl M1 else .ok (.t (.bl false)) M1) = r) : eAnd fa fb sl M = r := by
  unfold eAnd; rw [h]; exact h2
theorem v_eor {sl : List (Option D)} {M1 : List MO} {fa fb : FE} {k : Bool} {r : Res D} (h : fa sl M = .ok (.t (.bl k)) M1) (h2 : (if k then .ok (.t (.bl true)) M1 else fb sl M1) = r) : eOr fa fb sl M = r := by
  unfold eOr; rw [h]; exact h2
theorem v_eif {sl : List (Option D)} {M1 : List MO} {t : Fn Bool} {fa fb : FE} {k : Bool} {r : Res D} (h : t sl M = .ok k M1) (h2 : (if k then fa sl M1 else fb sl M1) = r) : eIf t fa fb sl M = r := by
  unfold eIf; rw [h]; exact h2
theorem v_addT {xs ys : List T} (h : xs.length + ys.length ≤ 16777216) : gAdd (.t (.tup xs)) (.t (.tup ys)) M = .ok (.t (.tup (xs ++ ys))) M := by
  have h' : xs.length + ys.length ≤ sizeLine := by rw [sizeLine_eq]; exact h
  have e : addT (.tup xs) (.tup ys) = some (.tup (xs ++ ys)) := by
    show (match cat2 (.tup xs) (.tup ys) with | some c => some c | none => catT2 (.tup xs) (.tup ys)) = _
    show catT2 _ _ = _
    exact if_pos h'
  show (match addT (.tup xs) (.tup ys) with | some t => Res.ok (D.t t) M | none => .fail) = _
  rw [e]
theorem v_addL {xs ys : List T} (h : xs.length + ys.length ≤ 16777216) : gAdd (.t (.lst xs)) (.t (.lst ys)) M = .ok (.t (.lst (xs ++ ys))) M := by
  have h' : xs.length + ys.length ≤ sizeLine := by rw [sizeLine_eq]; exact h
  simp [gAdd, gCatL, lstOf, h']
end
theorem at0 {α : Type} (h : α) (r : List α) : atI (h :: r) 0 = some h := by simp [atI, ixN]
theorem decl_any (t : T) (hp : match t with | .non => True | .bl _ => True | .int _ => True | .str _ => True | .lst _ => True | .tup ts => ts.length < 16777216 ∧ (∀ u ∈ ts, plainT u) | _ => False) : f_is_declaration [t] = .val (.bl (declT t)) := by
  unfold f_is_declaration
  cases t with
  | tup ts =>
    obtain ⟨hl, hpl⟩ := hp
    cases ts with
    | nil =>
      unfold F_is_declaration
      have : declT (.tup []) = false := rfl
      rw [this]
      walk_at "bm"
    | cons h r =>
      have hi0 : atI (h :: r) 0 = some h := at0 h r
      have hln : decide (((h :: r).length : Int) = 0) = false := by rw [List.length_cons]; exact decide_eq_false (by omega)
      show ansP (F_is_declaration [some (.t (.tup (h :: r))), none] []) = _
      by_cases hs : ∃ w, h = .str w
      · obtain ⟨w, rfl⟩ := hs
        cases hw : tabGet c_WORDS w with
        | none =>
          have e : declT (.tup (.str w :: r)) = false := by simp only [declT, hw]
          rw [e]
          suffices q : F_is_declaration [some (.t (.tup (.str w :: r))), none] [] = .rt (.t (.bl false)) [] by rw [q]; rfl
          unfold F_is_declaration
          refine v_seqR ?_
          refine v_if (k := true) (v_or (k := false) (v_not (k := true) (v_eB (v_cb (v_cons (v_var rfl) (v_cons v_c v_nil)) rfl)))
            (v_or (k := false) (v_eB ((v_e2 (v_cb (v_cons (v_var rfl) v_nil) v_lenT) v_c v_eqI).trans (by rw [hln])))
            (v_or (k := false) (v_not (k := true) (v_eB (v_cb (v_cons (v_e2 (v_var rfl) v_c (v_ixT hi0)) (v_cons v_c v_nil)) rfl)))
            (v_eB (v_e1 (v_e2 (v_var rfl) v_c (v_ixT hi0)) (show keyIn true c_WORDS (.str w) = some (.bl true) by simp only [keyIn, hw]; rfl)))))) (v_ret v_c)
        | some u =>
          obtain ⟨n, rfl⟩ := words_int hw
          have e : declT (.tup (.str w :: r)) = (decide ((r.length : Int) + 1 = n) && r.all nmT) := by simp only [declT, hw]
          rw [e]
          have e9 : decide (((T.str w :: r).length : Int) = n) = decide ((r.length : Int) + 1 = n) := by rw [List.length_cons]; rfl
          suffices q : F_is_declaration [some (.t (.tup (.str w :: r))), none] [] = .rt (.t (.bl (decide ((r.length : Int) + 1 = n) && r.all nmT))) [] by rw [q]; rfl
          unfold F_is_declaration
          refine v_seq (v_if (k := false) (v_or (k := false) (v_not (k := true) (v_eB (v_cb (v_cons (v_var rfl) (v_cons v_c v_nil)) rfl)))
            (v_or (k := false) (v_eB ((v_e2 (v_cb (v_cons (v_var rfl) v_nil) v_lenT) v_c v_eqI).trans (by rw [hln])))
            (v_or (k := false) (v_not (k := true) (v_eB (v_cb (v_cons (v_e2 (v_var rfl) v_c (v_ixT hi0)) (v_cons v_c v_nil)) rfl)))
            (v_eB (v_e1 (v_e2 (v_var rfl) v_c (v_ixT hi0)) (show keyIn true c_WORDS (.str w) = some (.bl false) by simp only [keyIn, hw]; rfl)))))) rfl) ?_
          refine v_ret (v_eand (k := decide ((r.length : Int) + 1 = n)) (v_e2 (v_cb (v_cons (v_var rfl) v_nil) v_lenT) (v_e1 (u := .int n) (v_e2 (v_var rfl) v_c (v_ixT hi0)) hw) (v_eqI.trans (by rw [e9]))) ?_)
          by_cases hq : (r.length : Int) + 1 = n
          · rw [decide_eq_true hq, if_pos rfl, Bool.true_and]
            have ec : cutT (T.str w :: r) (some 1) none = r := cut_drop (T.str w :: r) 1
            refine v_cb (v_cons (v_lc (v_it ((v_sl (v_var rfl) (v_some v_c) v_none v_slT).trans (by rw [ec]))) (lc_map0 (g := fun t => .bl (nmT t)) rfl ?_ fun t ht => v_call (v_cons (v_var rfl) v_nil) rfl rfl (name_any t (hpl t (by simp [ht]))))) v_nil) ((v_bls (bls_any nmT r)).trans ?_)
            · simp at hl; omega
            · rw [List.all_map]; rfl
          · rw [decide_eq_false hq]; rfl
      · have e : declT (.tup (h :: r)) = false := by
          cases h with
          | str w => exact (hs ⟨w, rfl⟩).elim
          | _ => rfl
        rw [e]
        have hk : ∃ k, kdOf h = some (.inl k) ∧ tabB (.inl k) (.inl "str") = some false := by
          have := hpl h (by simp)
          cases h with
          | str w => exact (hs ⟨w, rfl⟩).elim
          | non => exact ⟨_, rfl, by decide⟩
          | bl _ => exact ⟨_, rfl, by decide⟩
          | int _ => exact ⟨_, rfl, by decide⟩
          | lst _ => exact ⟨_, rfl, by decide⟩
          | tup _ => exact ⟨_, rfl, by decide⟩
          | _ => exact this.elim
        obtain ⟨k, hk1, hk2⟩ := hk
        have hi : gP (isiT tabB) [.t h, .t (.ty "str")] [] = .ok (.t (.bl false)) [] := by
          have : isiT tabB [h, .ty "str"] = some (.bl false) := by
            show (match kdOf h, tgt (.ty "str") with | some k, some c => (match tabB k c with | some b => some (T.bl b) | none => none) | _, _ => none) = _
            rw [hk1]
            show (match tabB (.inl k) (.inl "str") with | some b => some (T.bl b) | none => none) = _
            rw [hk2]
          show (match isiT tabB [h, .ty "str"] with | some t => Res.ok (D.t t) [] | none => .fail) = _
          rw [this]
        suffices q : F_is_declaration [some (.t (.tup (h :: r))), none] [] = .rt (.t (.bl false)) [] by rw [q]; rfl
        unfold F_is_declaration
        refine v_seqR ?_
        exact v_if (k := true) (v_or (k := false) (v_not (k := true) (v_eB (v_cb (v_cons (v_var rfl) (v_cons v_c v_nil)) rfl)))
          (v_or (k := false) (v_eB ((v_e2 (v_cb (v_cons (v_var rfl) v_nil) v_lenT) v_c v_eqI).trans (by rw [hln])))
          (v_or (k := true) (v_not (k := false) (v_eB (v_cb (v_cons (v_e2 (v_var rfl) v_c (v_ixT hi0)) (v_cons v_c v_nil)) hi))) rfl))) (v_ret v_c)
  | non => unfold F_is_declaration; have : declT .non = false := rfl; rw [this]; walk_at "bm"
  | bl b => unfold F_is_declaration; have : declT (.bl b) = false := rfl; rw [this]; walk_at "bm"
  | int b => unfold F_is_declaration; have : declT (.int b) = false := rfl; rw [this]; walk_at "bm"
  | str b => unfold F_is_declaration; have : declT (.str b) = false := rfl; rw [this]; walk_at "bm"
  | lst b => unfold F_is_declaration; have : declT (.lst b) = false := rfl; rw [this]; walk_at "bm"
  | _ => exact hp.elim
theorem decl_tup (ts : List T) (h1 : ts.length < 16777216) (h2 : ∀ u ∈ ts, plainT u) : f_is_declaration [.tup ts] = .val (.bl (declT (.tup ts))) := decl_any (.tup ts) ⟨h1, h2⟩
theorem declared_int {w : Str} {u : T} (h : tabGet c_WORDS w = some u) : ∃ n : Nat, tabGet c_DECLARED w = some (.int n) ∧ n ≤ 2 := by
  simp only [c_WORDS, c_DECLARED, tabGet] at h ⊢
  repeat' split at h
  all_goals first | (cases h; done) | skip
  all_goals (cases h; simp_all)
  all_goals first | exact ⟨0, rfl, by decide⟩ | exact ⟨1, rfl, by decide⟩ | exact ⟨2, rfl, by decide⟩
theorem cut_mid (ts : List T) (a b : Nat) : cutT ts (some (a : Int)) (some (b : Int)) = (ts.drop a).take (b - a) := by
  have e1 : HT.sIx ts.length ts.length (some (b : Int)) = min b ts.length := HT.sIx_nat _ _ _
  have e2 : HT.sIx ts.length 0 (some (a : Int)) = min a ts.length := HT.sIx_nat _ _ _
  show (ts.drop (HT.sIx ts.length 0 (some (a : Int)))).take (HT.sIx ts.length ts.length (some (b : Int)) - HT.sIx ts.length 0 (some (a : Int))) = _
  rw [e1, e2]
  by_cases h : a ≤ ts.length
  · rw [Nat.min_eq_left h]
    by_cases h2 : b ≤ ts.length
    · rw [Nat.min_eq_left h2]
    · rw [Nat.min_eq_right (by omega), List.take_of_length_le (by simp), List.take_of_length_le (by simp; omega)]
  · rw [Nat.min_eq_right (a := a) (b := ts.length) (by omega), List.drop_eq_nil_of_le (Nat.le_refl _), List.drop_eq_nil_of_le (by omega)]
    simp
theorem names_of_eq {w : Str} {r : List T} {n : Nat} (h : tabGet c_DECLARED w = some (.int n)) : f_names_of [.tup (.str w :: r)] = .fresh (r.take n) := by
  show ansP (F_names_of [some (.t (.tup (.str w :: r)))] []) = _
  suffices q : F_names_of [some (.t (.tup (.str w :: r)))] [] = .rt (.m 0) [.lst (r.take n)] by rw [q]; rfl
  unfold F_names_of
  have ec : cutT (T.str w :: r) (some 1) (some (1 + (n : Int))) = r.take n := by
    have := cut_mid (T.str w :: r) 1 (1 + n)
    rw [show (((1 + n : Nat) : Nat) : Int) = 1 + (n : Int) by omega] at this
    refine this.trans ?_
    rw [show 1 + n - 1 = n by omega]; rfl
  exact v_ret (v_cb (v_cons (v_sl (v_var rfl) (v_some v_c) (v_some (v_e2 v_c (v_e1 (v_e2 (v_var rfl) v_c (v_ixT (at0 _ _))) h) v_addI)) (v_slT.trans (by rw [ec]))) v_nil) rfl)
theorem uses_of_eq {w : Str} {r : List T} {n : Nat} (h : tabGet c_DECLARED w = some (.int n)) : f_uses_of [.tup (.str w :: r)] = .fresh (r.drop n) := by
  show ansP (F_uses_of [some (.t (.tup (.str w :: r)))] []) = _
  suffices q : F_uses_of [some (.t (.tup (.str w :: r)))] [] = .rt (.m 0) [.lst (r.drop n)] by rw [q]; rfl
  unfold F_uses_of
  have ec : cutT (T.str w :: r) (some (1 + (n : Int))) none = r.drop n := by
    have := cut_drop (T.str w :: r) (1 + n)
    rw [show (((1 + n : Nat) : Nat) : Int) = 1 + (n : Int) by omega] at this
    refine this.trans ?_
    rw [Nat.add_comm 1 n]; rfl
  exact v_ret (v_cb (v_cons (v_sl (v_var rfl) (v_some (v_e2 v_c (v_e1 (v_e2 (v_var rfl) v_c (v_ixT (at0 _ _))) h) v_addI)) v_none (v_slT.trans (by rw [ec]))) v_nil) rfl)
theorem v_callF {sl : List (Option D)} {M M1 M2 : List MO} {n : Nat} {fp : List T → PR} {fs : Fn (List D)} {ds : List D} {ts us : List T} (ha : fs sl M = .ok ds M1) (hf : frzL M1 ds = some (ts, M2)) (hn : ts.length = n) (h : fp ts = .fresh us) : eCall n fp fs sl M = .ok (.t (.lst us)) M2 := by
  unfold eCall; rw [ha]
  show (match frzL M1 ds with | some (ts, M2) => _ | none => _) = _
  rw [hf]
  show (if ts.length = n then _ else _) = _
  rw [if_pos hn, h]
/-- an odd name -/
def odds : List T := [.str "top", .str "bottom", .str "", .str "A", .str "a b", .str "abcdefghi", .str "a1", .str "c<", .non, .int 3, .bl true, .tup [.str "a"], .lst [.str "a"], .str " a"]
theorem odds_plain : ∀ t ∈ odds, plainT t ∧ nmT t = false := by
  intro t h
  simp only [odds, List.mem_cons, List.not_mem_nil, or_false] at h
  rcases h with rfl | rfl | rfl | rfl | rfl | rfl | rfl | rfl | rfl | rfl | rfl | rfl | rfl | rfl <;> refine ⟨?_, by decide +kernel⟩ <;> first | trivial | (show _ < _; decide)
theorem odd_ok (b : Bag) (h : b.Ok) : ∃ (t : T) (b' : Bag), b'.Ok ∧ t ∈ odds ∧ f_law_odd_name b.t [] = .val t b'.t := by
  have hf : (aCons (eVar 0) (aCons (eLst (aCons (eC (.str "top")) (aCons (eC (.str "bottom")) (aCons (eC (.str "")) (aCons (eC (.str "A")) (aCons (eC (.str "a b")) (aCons (eC (.str "abcdefghi")) (aCons (eC (.str "a1")) (aCons (eC (.str "c<")) (aCons (eC .non) (aCons (eC (.int 3)) (aCons (eC (.bl true)) (aCons (eTup (aCons (eC (.str "a")) aNil)) (aCons (eLst (aCons (eC (.str "a")) aNil)) (aCons (eC (.str " a")) aNil))))))))))))))) aNil)) [some (.m 0)] [.lst b.t] = .ok [.m 0, .t (.lst odds)] [.lst b.t] := by
    refine v_cons (v_var rfl) (v_cons (v_lst (v_cons v_c (v_cons v_c (v_cons v_c (v_cons v_c (v_cons v_c (v_cons v_c (v_cons v_c (v_cons v_c (v_cons v_c (v_cons v_c (v_cons v_c (v_cons (v_tup (v_cons v_c v_nil) rfl (Nat.le_of_ble_eq_true rfl)) (v_cons (v_lst (v_cons v_c v_nil) rfl (Nat.le_of_ble_eq_true rfl)) (v_cons v_c v_nil)))))))))))))) rfl (Nat.le_of_ble_eq_true rfl)) v_nil)
  obtain ⟨t, b', h1, h2, h3⟩ := c_ofL h (xs := odds) (by decide) (by decide) hf
  refine ⟨t, b', h1, h2, ?_⟩
  show ansB (F_law_odd_name [some (.m 0)] [.lst b.t]) = _
  unfold F_law_odd_name
  rw [v_ret h3]
  rfl
end BmLaw

/-! what a text's record holds of a class's defs. -/
namespace Bm
open PySem L2 PyProof.Rows
structure DefM (K : PySem.W.Frag) (x qual : Str) (st : Stmt) (ps : List Str) where
  f : Addr
  fd : FuncData
  F : Fun K x qual st f fd
  b : Binds K fd ps []
structure DefS (K : PySem.W.Frag) (x qual : Str) (st : Stmt) where
  f : Addr
  fd : FuncData
  F : Fun K x qual st f fd
end Bm

/-! bool(o) by an own __bool__. -/
namespace Bm
open PySem PySem.Spec L2 PyProof.Rows
theorem bool_newIn {prog : Program} {w : World} (l : Addr) :
    MeetsIn prog w (Builtin.«bool.__new__» ⟨[.type "bool", .ref l], []⟩) (fun A R s => wpAny (model prog w) A.in1 (truthy (.ref l)) (fun b s' => R (.ok (.ret (.bool b))) s') (fun e s' => R (.error e) s') s) :=
  .of_wp fun A R s hs => by
    obtain ⟨hp, g, d, tk, os⟩ := s
    have f1 := F.conv_sub_bool
    repeat (any_goals (first | assumption | (with_reducible refine wpAny_mono hs (fun b s' z => ?_) (fun e s' z => z)) | wp_step))
    all_goals first | exact ⟨_, rfl, z⟩ | exact z | skip
theorem call_bool_truthy {prog : Program} {w : World} {A : Around} {E : Value → Shared → Prop} {s : Shared} {l : Addr} {Q : Value → Shared → Prop}
    (h : wpAny (model prog w) A.in1.in1 (truthy (.ref l)) (fun b s' => Q (.bool b) s') E s) : wpAny (model prog w) A (call (.type "bool") [.ref l]) Q E s :=
  callType_newIn F.called_bool F.newNe_bool (F.typeCall_bool_1 _) (F.newCall_bool_1 _) (fun obj => F.args_object_init_2 obj _) F.entry_bool_new (bool_newIn l)
    (wpAny_mono h (fun b s' z => ⟨rfl, z⟩) fun e s' z => z)
section
variable {X : Cx} {C g : Addr} {sp : Sp} {k : Nat}
def rBoolI (C : Addr) (sp : Sp) : List V → Hp → VK → Prop := fun xs H Q => ∃ a dx fs, xs = [V.ref a] ∧ H a = some (.ins C dx fs) ∧ sp [.ref a] H (fun v H' => ∃ z, v = .bl z ∧ Q (.bl z) H') E0
theorem call_boolI (hs : PySem.W.findIn X.K (.ref C) "__bool__" = some (some (.ref g))) (hf : PySem.W.isFn X.K (.ref g) = true) (F : FnR X.prog X.w X.K X.mg X.base (L2.CX X.prog X.w) k g sp) (hr : Room (k + 2) X.A) : CallR X (.type "bool") (rBoolI C sp) := by
  intro pins s σ H xs us Q I r h
  obtain ⟨a, dx, fs, rfl, ha, q⟩ := h
  obtain rfl := Vals.ref1 r
  obtain ⟨mA, O, _, _, _, _⟩ := ins_get I.hok ha
  obtain ⟨od, J, _⟩ := O.look
  obtain ⟨m, hF⟩ := I.fr
  refine call_bool_truthy (PySem.W.truthy_K hF I.ok.mod.kin J hs hf ?_)
  refine wpAny_mono (wpAny_call (SlX.run_at (us := [.ref a]) (ws := [.ref a]) F hr.in1.in1 I.env0.in1.in1 passes_false I (.cons rfl .nil) q)) (fun w s' z => ?_) fun _ _ x => x
  obtain ⟨z', H', I', rz, y, rfl, qz⟩ := z
  obtain rfl : w = Value.bool y := rz
  exact ⟨.bl y, H', I', rfl, qz⟩
end
def gBoolI (c : Str) (fp : List T → PR) : GC := fun ds M => match ds with
  | [d] => if isInsN c "" d then (match gCallR fp [d] M with
    | .ok (.t (.bl i)) M2 => .ok (.t (.bl i)) M2
    | _ => .fail) else .fail
  | _ => .fail
theorem dc_boolI {K : PySem.W.Frag} {cm : Str → Addr} {c : Str} {fp : List T → PR} : DCall K cm (rBoolI (cm c) (spR K cm fp)) (gBoolI c fp) := fun μ I M H ds vs Q Wx s rr p => by
  unfold gBoolI at p
  split at p
  · rename_i d
    split at p
    · rename_i hi
      obtain ⟨x, rfl, rx⟩ := inv1 rr
      obtain ⟨a1, dx, ns, ts, xs, rfl, rfl, hA, _, _, _⟩ := insN_inv hi rx
      refine ⟨a1, dx, _, rfl, s.sub _ _ hA, sp_callR s (RepDL.cons rx RepDL.nil) ?_⟩
      split at p
      · rename_i k M2 e
        rw [e]
        intro μ' I' H' b' st rb'
        have eb : b' = .bl k := by have := rb'; unfold RD RepD RepT at this; exact this
        exact ⟨k, eb, p μ' I' H' _ st (by unfold RD RepD RepT; rfl)⟩
      · exact p.elim
    · exact p.elim
  · exact p.elim
section
variable {X : Cx} {W : WX} {e : Expr} {fs : Fn (List D)} {pos q : Pos} {c : Str} {fp : List T → PR} {g : Addr} {k : Nat}
theorem de_boolI (hs : PySem.W.findIn X.K (.ref (cmOf X.mg c)) "__bool__" = some (some (.ref g))) (hf : PySem.W.isFn X.K (.ref g) = true) (F : FnR X.prog X.w X.K X.mg X.base (L2.CX X.prog X.w) k g (spR X.K (cmOf X.mg) fp)) (hr : Room (k + 2) X.A) (hg : Gl X "bool") (hm : X.mg "bool" = none) (ha : DA X W [e] fs) (he : starEach [e] X.env = (false, eval e X.env) :: starEach [] X.env := by rfl) : DE X W (.Call (.Name "bool" q) [e] [] pos) (eCB (gBoolI c fp) fs) :=
  de_callTy (call_boolI hs hf F hr) dc_boolI hg hm boot_bool ha (he := he)
end
end Bm

/-! a comprehension whose list is to change. -/
namespace Bm
open PySem L2
theorem step_new {K : PySem.W.Frag} {cm : Str → Addr} {μ1 μ' : Nat → Addr} {I1 I' H1 H' : Hp} {M1 Mz : List MO} {L : Addr} {xs : List V} {us : List T} (stz : Step K cm μ1 I1 M1 H1 μ' I' Mz H') (hL : H1 L = none) (nI : I' L = none) (nμ : ∀ k, k < Mz.length → μ' k ≠ L) (hx : H' L = some (.lst xs)) (rx : RepTL K cm I' us xs) :
    Step K cm μ1 I1 M1 H1 (fun k => if k = Mz.length then L else μ' k) I' (Mz ++ [.lst us]) H' := by
  have hle : ∀ k, k < Mz.length → (fun k => if k = Mz.length then L else μ' k) k = μ' k := fun k hk => if_neg (Nat.ne_of_lt hk)
  have gr : Gr μ' I' Mz.length (fun k => if k = Mz.length then L else μ' k) I' (Mz ++ [MO.lst us]).length := ⟨hle, by simp, Ex.refl _⟩
  refine ⟨stz.gr.trans gr, ⟨stz.sim.sub, fun i j hi hj e => ?_, fun k hk => ?_, fun k o ek => ?_⟩, stz.fr, stz.nf, fun k h1 h2 => ?_⟩
  · simp only [List.length_append, List.length_cons, List.length_nil] at hi hj
    have e' : (if i = Mz.length then L else μ' i) = (if j = Mz.length then L else μ' j) := e
    by_cases hi' : i = Mz.length
    · by_cases hj' : j = Mz.length
      · omega
      · rw [if_pos hi', if_neg hj'] at e'
        exact absurd e'.symm (nμ j (by omega))
    · by_cases hj' : j = Mz.length
      · rw [if_neg hi', if_pos hj'] at e'
        exact absurd e' (nμ i (by omega))
      · rw [if_neg hi', if_neg hj'] at e'
        exact stz.sim.inj i j (by omega) (by omega) e'
  · simp only [List.length_append, List.length_cons, List.length_nil] at hk
    by_cases hk' : k = Mz.length
    · refine ⟨.lst xs, ?_⟩
      show H' (if k = Mz.length then L else μ' k) = _
      rw [if_pos hk']; exact hx
    · obtain ⟨o, h⟩ := stz.sim.tr k (by omega)
      refine ⟨o, ?_⟩
      show H' (if k = Mz.length then L else μ' k) = _
      rw [if_neg hk']; exact h
  · by_cases hk' : k = Mz.length
    · subst hk'
      rw [List.getElem?_append_right (Nat.le_refl _), Nat.sub_self] at ek
      cases ek
      refine ⟨?_, xs, ?_, rx⟩
      · show I' (if Mz.length = Mz.length then L else _) = none
        rw [if_pos rfl]; exact nI
      · show H' (if Mz.length = Mz.length then L else _) = _
        rw [if_pos rfl]; exact hx
    · have hk : k < Mz.length := by
        have := (List.getElem?_eq_some_iff.mp ek).1
        simp only [List.length_append, List.length_cons, List.length_nil] at this; omega
      rw [List.getElem?_append_left hk] at ek
      have z := stz.sim.obj k o ek
      have em : (fun k => if k = Mz.length then L else μ' k) k = μ' k := hle k hk
      have em' : (if k = Mz.length then L else μ' k) = μ' k := em
      cases o with
      | lst us' =>
        obtain ⟨z1, ys, z2, z3⟩ := z
        exact ⟨by show I' (if k = Mz.length then L else μ' k) = none; rw [em']; exact z1, ys, by show H' (if k = Mz.length then L else μ' k) = _; rw [em']; exact z2, z3⟩
      | ins cl ns ds =>
        obtain ⟨z1, dx, ys, z2, z3, z4⟩ := z
        exact ⟨by show I' (if k = Mz.length then L else μ' k) = none; rw [em']; exact z1, dx, ys, by show H' (if k = Mz.length then L else μ' k) = _; rw [em']; exact z2, z3, z4.mono gr⟩
      | frz w =>
        show RepT K cm I' w (.ref (if k = Mz.length then L else μ' k))
        rw [em']; exact z
      | dead =>
        show I' (if k = Mz.length then L else μ' k) = none
        rw [em']; exact z
  · simp only [List.length_append, List.length_cons, List.length_nil] at h2
    by_cases hk' : k = Mz.length
    · show H1 (if k = Mz.length then L else μ' k) = none
      rw [if_pos hk']; exact hL
    · show H1 (if k = Mz.length then L else μ' k) = none
      rw [if_neg hk']; exact stz.fresh k h1 (by omega)
section
variable {X : Cx} {W : WX} {tg iter elt : Expr} {ifs : List Expr} {Fi : Fn (List T)} {vs is : List Nat} {G : GG} {Tt : Fn Bool} {E : FE}
theorem tLc_M {σ H} {Q : VK} (hvs : ∀ i ∈ is, i ∈ vs) (h : rdE X W (eLcM Fi vs G Tt E) σ H Q) : tLc (rd X.K (cmOf X.mg) W (RI X.K (cmOf X.mg)) Fi) (rdG X W0 is G) (rdB X W0 Tt) (rdE X W0 E) vs σ H Q := by
  obtain ⟨μ, I, sl, M, s, rs, p⟩ := h
  refine ⟨μ, I, sl, M, s, rs, (Post.bind (R := RI X.K (cmOf X.mg)) p).imp fun J H1 ⟨μ1, I1, M1, ts, st, it, p1⟩ => ?_⟩
  split at p1
  · rename_i us Mz hr
    refine tLc_core hvs st.sim (rs.mono st.gr) it hr fun μ' I' H' L xs stz hL nI nμ hx rx => ?_
    refine p1 _ I' H' (.ref L) (step_new stz hL nI nμ hx rx) ⟨by simp, ?_⟩
    show V.ref L = .ref (if Mz.length = Mz.length then L else _)
    rw [if_pos rfl]
  · exact p1.elim
theorem de_lcM {own : List (Str × Nat)} {scope : Scope} {pos : Pos} (hc : X.calm = true) (hN : X.N.Nodup) (hi : DI X W tg iter Fi) (ok : BlkOk X.N X.env.scope scope own) (hvs : ∀ i ∈ is, i ∈ own.map (·.2))
    (hg : ∀ (s : Shared) (H : Hp) (C : Addr) (cl : List (Str × Addr)) (fp : List Addr), DG (X.blk s H scope (compEnvC scope cl C X.env) fp) W0 is tg G) (ht : ∀ (s : Shared) (H : Hp) (C : Addr) (cl : List (Str × Addr)) (fp : List Addr), PTs (X.blk s H scope (compEnvC scope cl C X.env) fp) ifs (rdB X W0 Tt))
    (he : ∀ (s : Shared) (H : Hp) (C : Addr) (cl : List (Str × Addr)) (fp : List Addr), DE (X.blk s H scope (compEnvC scope cl C X.env) fp) W0 elt E) (hs : ∀ x, foldedSetIterable iter X.env x = pure x := by intro _; rfl) :
    DE X W (.ListComp elt [⟨tg, iter, ifs, 0⟩] scope pos) (eLcM Fi (own.map (·.2)) G Tt E) := (pe_lc hc hN hi ok hg ht he hs).imp fun σ H Q h => tLc_M hvs h
end
end Bm

namespace BmT
open PySem L2 Bm BmLaw
def c_SIGNS : List (Str × T) := [("join", (.str "|")), ("meet", (.str "&"))]
def F_law_any_tree (self : List T → List T → BR) : FS :=
  (sSeq (sSet 3 (eCallB 2 f_law_draw (aCons (eVar 0) (aCons (eC (.int 6)) aNil))))
  (sSeq (sIf (bOr (eB (e2 (g2 eqT) (eVar 2) (eC (.int 0)))) (eB (e2 (g2 eqT) (eVar 3) (eC (.int 0))))) (sRet (eTup (aCons (eCallB 2 f_law_of (aCons (eVar 0) (aCons (eLst (aCons (eC (.str "item")) (aCons (eC (.str "item")) (aCons (eC (.str "item")) (aCons (eC (.str "top")) (aCons (eC (.str "bottom")) aNil)))))) aNil))) (aCons (eCallB 2 f_law_of (aCons (eVar 0) (aCons (eVar 1) aNil))) aNil)))) sSkip)
  (sSeq (sIf (eB (e2 (g2 ltT) (eVar 3) (eC (.int 4)))) (sRet (eTup (aCons (eC (.str "map")) (aCons (eCallB 2 f_law_of (aCons (eVar 0) (aCons (eVar 1) aNil))) (aCons (eCallB 3 self (aCons (eVar 0) (aCons (eVar 1) (aCons (e2 (g2 subT) (eVar 2) (eC (.int 1))) aNil)))) aNil))))) sSkip)
  (sRet (eTup (aCons (eCallB 2 f_law_of (aCons (eVar 0) (aCons (eLst (aCons (eC (.str "join")) (aCons (eC (.str "meet")) aNil))) aNil))) (aCons (eCallB 3 self (aCons (eVar 0) (aCons (eVar 1) (aCons (e2 (g2 subT) (eVar 2) (eC (.int 1))) aNil)))) (aCons (eCallB 3 self (aCons (eVar 0) (aCons (eVar 1) (aCons (e2 (g2 subT) (eVar 2) (eC (.int 1))) aNil)))) aNil))))))))
def f_law_any_tree : Nat → List T → List T → BR
  | 0 => fun _ _ => .fail
  | n + 1 => runB 4 (F_law_any_tree (f_law_any_tree n))
def F_check_size : FS :=
  (sSeq (sIf (eB (e2 (g2 gtT) (eVar 0) (eC (.int 500)))) sNever sSkip)
  (sIf (eB (e2 (g2 gtT) (eVar 1) (eC (.int 60)))) sNever sSkip))
def f_check_size : List T → PR := runP 2 F_check_size
def F_written : FS :=
  (sSeq (sIf (eB (e2 (g2 eqT) (eVar 0) (eC (.str "item")))) (sRet (eVar 1)) sSkip)
  (sSeq (sIf (eB (e1 (keyIn false c_SIGNS) (eVar 0))) (sRet (eJs [(eC (.str "(")), (eFmt (e2 gIx (eVar 2) (eC (.int 0)))), (eC (.str " ")), (eFmt (e1 (keyAt c_SIGNS) (eVar 0))), (eC (.str " ")), (eFmt (e2 gIx (eVar 2) (eC (.int 1)))), (eC (.str ")"))])) sSkip)
  (sRet (eIf (eB (e2 (g2 eqT) (eVar 0) (eC (.str "map")))) (eJs [(eFmt (eVar 1)), (eC (.str " ")), (eFmt (e2 gIx (eVar 2) (eC (.int 0))))]) (eJs [(eFmt (eVar 0)), (eC (.str " ")), (eFmt (eVar 1))])))))
def f_written : List T → PR := runP 3 F_written
def F_Term_depth : FS :=
  (sRet (eFld "Term" "own_depth" (eVar 0)))
def f_Term_depth : List T → PR := runP 1 F_Term_depth
def F_Term_text : FS :=
  (sRet (eFld "Term" "own_text" (eVar 0)))
def f_Term_text : List T → PR := runP 1 F_Term_text
def F_Term_init : FS :=
  (sSeq (sFldM "Term" "own_kind" (eVar 0) (eVar 1))
  (sSeq (sFldM "Term" "own_name" (eVar 0) (eVar 2))
  (sSeq (sFldM "Term" "own_parts" (eVar 0) (eVar 3))
  (sSeq (sFldM "Term" "own_depth" (eVar 0) (e2 gAdd (eC (.int 1)) (eCK gMaxD (aCons (eLc (iT (eVar 3)) [4] (gNm 4) bYes (ePro "Term" f_Term_depth (eVar 4))) aNil) (aCons (eC (.int 0)) aNil))))
  (sFldM "Term" "own_text" (eVar 0) (eCall 3 f_written (aCons (eVar 1) (aCons (eVar 2) (aCons (eLc (iT (eVar 3)) [4] (gNm 4) bYes (eMeth "Term" "text" (many 1 f_Term_text) (eVar 4) aNil)) aNil)))))))))
def i_Term : List T → IR := starI 2 (runI 5 "Term" F_Term_init)
def F_Term_walked (self : List T → PR) : FS :=
  (sSeq (sSet 1 (eLstM (aCons (eTup (aCons (eTup aNil) (aCons (eVar 0) aNil))) aNil)))
  (sSeq (sFor (iE1 (aCons (eFld "Term" "own_parts" (eVar 0)) aNil)) (gTp 2 (gsCons (gNm 2) (gsCons (gNm 3) gsNil))) (sFor (iL (eMeth "Term" "walked" (many 1 self) (eVar 3) aNil)) (gTp 2 (gsCons (gNm 4) (gsCons (gNm 5) gsNil))) (sExpr (eBM isLst gAppend (eVar 1) (aCons (eTup (aCons (eTup (aCons (eVar 2) (aStar (eVar 4) aNil))) (aCons (eVar 5) aNil))) aNil)))))
  (sRet (eVar 1))))
def f_Term_walked : Nat → List T → PR
  | 0 => fun _ => .fail
  | n + 1 => runP 6 (F_Term_walked (f_Term_walked n))
def F_Term_len : FS :=
  (sRet (eCB gLen (aCons (eMeth "Term" "walked" (many 1 (f_Term_walked 70)) (eVar 0) aNil) aNil)))
def f_Term_len : List T → PR := runP 1 F_Term_len
def F_joined : FS :=
  (sSeq (sExpr (eCall 2 f_check_size (aCons (e2 gAdd (e2 gAdd (eC (.int 1)) (eCB (gLenC "Term" (many 1 f_Term_len)) (aCons (eVar 1) aNil))) (eCB (gLenC "Term" (many 1 f_Term_len)) (aCons (eVar 2) aNil))) (aCons (e2 gAdd (eC (.int 1)) (eCB gMax2 (aCons (ePro "Term" f_Term_depth (eVar 1)) (aCons (ePro "Term" f_Term_depth (eVar 2)) aNil)))) aNil))))
  (sRet (eMake "Term" i_Term (aCons (eVar 0) (aCons (eC (.str "")) (aCons (eVar 1) (aCons (eVar 2) aNil)))))))
def f_joined : List T → PR := runP 3 F_joined
def F_Term_or : FS :=
  (sSeq (sIf (bNot (eB (eCB (gP (isiT (tabC "Term"))) (aCons (eVar 1) (aCons (eC (.cls "Term")) aNil))))) sNever sSkip)
  (sRet (eCallM 3 f_joined (aCons (eC (.str "join")) (aCons (eVar 0) (aCons (eVar 1) aNil))))))
def f_Term_or : List T → PR := runP 2 F_Term_or
def F_Term_and : FS :=
  (sSeq (sIf (bNot (eB (eCB (gP (isiT (tabC "Term"))) (aCons (eVar 1) (aCons (eC (.cls "Term")) aNil))))) sNever sSkip)
  (sRet (eCallM 3 f_joined (aCons (eC (.str "meet")) (aCons (eVar 0) (aCons (eVar 1) aNil))))))
def f_Term_and : List T → PR := runP 2 F_Term_and
def F_leaf : FS :=
  (sSeq (sIf (bNot (eB (eCall 1 f_is_name (aCons (eVar 1) aNil)))) sNever sSkip)
  (sRet (eMake "Term" i_Term (aCons (eVar 0) (aCons (eVar 1) aNil)))))
def f_leaf : List T → PR := runP 2 F_leaf
def F_Term_item : FS :=
  (sRet (eCallM 2 f_leaf (aCons (eC (.str "item")) (aCons (eVar 0) aNil))))
def f_Term_item : List T → PR := runP 1 F_Term_item
def F_Term_under : FS :=
  (sSeq (sFor (iT (eVar 1)) (gNm 2) (sIf (bNot (eB (eCall 1 f_is_name (aCons (eVar 2) aNil)))) sNever sSkip))
  (sSeq (sExpr (eCall 2 f_check_size (aCons (e2 gAdd (eCB (gLenC "Term" (many 1 f_Term_len)) (aCons (eVar 0) aNil)) (eCB gLen (aCons (eVar 1) aNil))) (aCons (e2 gAdd (eFld "Term" "own_depth" (eVar 0)) (eCB gLen (aCons (eVar 1) aNil))) aNil))))
  (sSeq (sSet 3 (eVar 0))
  (sSeq (sFor (iT (eRevT (eVar 1))) (gNm 2) (sSet 3 (eMake "Term" i_Term (aCons (eC (.str "map")) (aCons (eVar 2) (aCons (eVar 3) aNil))))))
  (sRet (eVar 3))))))
def f_Term_under : List T → PR := runP 4 F_Term_under
def F_Term_top : FS :=
  (sRet (eCallM 2 f_leaf (aCons (eC (.str "top")) (aCons (eVar 0) aNil))))
def f_Term_top : List T → PR := runP 1 F_Term_top
def F_Term_bottom : FS :=
  (sRet (eCallM 2 f_leaf (aCons (eC (.str "bottom")) (aCons (eVar 0) aNil))))
def f_Term_bottom : List T → PR := runP 1 F_Term_bottom
def F_law_made (self : List T → PR) : FS :=
  (sSeq (sIf (eB (e2 (g2 eqT) (e2 gIx (eVar 0) (eC (.int 0))) (eC (.str "item")))) (sRet (eStat (many 1 f_Term_item) (aCons (e2 gIx (eVar 0) (eC (.int 1))) aNil))) sSkip)
  (sSeq (sIf (eB (e2 (g2 (inT false)) (e2 gIx (eVar 0) (eC (.int 0))) (eTup (aCons (eC (.str "top")) (aCons (eC (.str "bottom")) aNil))))) (sRet (eIf (eB (e2 (g2 eqT) (e2 gIx (eVar 0) (eC (.int 0))) (eC (.str "top")))) (eStat (many 1 f_Term_top) (aCons (e2 gIx (eVar 0) (eC (.int 1))) aNil)) (eStat (many 1 f_Term_bottom) (aCons (e2 gIx (eVar 0) (eC (.int 1))) aNil)))) sSkip)
  (sSeq (sIf (eB (e2 (g2 eqT) (e2 gIx (eVar 0) (eC (.int 0))) (eC (.str "map")))) (sRet (eMeth "Term" "under" (starF 1 f_Term_under) (eCall 1 self (aCons (e2 gIx (eVar 0) (eC (.int 2))) aNil)) (aCons (e2 gIx (eVar 0) (eC (.int 1))) aNil))) sSkip)
  (sSeq (sPar 1 2 (aCons (eCall 1 self (aCons (e2 gIx (eVar 0) (eC (.int 1))) aNil)) (aCons (eCall 1 self (aCons (e2 gIx (eVar 0) (eC (.int 2))) aNil)) aNil)))
  (sRet (eIf (eB (e2 (g2 eqT) (e2 gIx (eVar 0) (eC (.int 0))) (eC (.str "join")))) (e2 (gOpI "Term" (many 2 f_Term_or)) (eVar 1) (eVar 2)) (e2 (gOpI "Term" (many 2 f_Term_and)) (eVar 1) (eVar 2))))))))
def f_law_made : Nat → List T → PR
  | 0 => fun _ => .fail
  | n + 1 => runP 3 (F_law_made (f_law_made n))
def F_law_text (self : List T → PR) : FS :=
  (sSeq (sIf (eB (e2 (g2 eqT) (e2 gIx (eVar 0) (eC (.int 0))) (eC (.str "item")))) (sRet (e2 gIx (eVar 0) (eC (.int 1)))) sSkip)
  (sSeq (sIf (eB (e2 (g2 (inT false)) (e2 gIx (eVar 0) (eC (.int 0))) (eTup (aCons (eC (.str "top")) (aCons (eC (.str "bottom")) aNil))))) (sRet (e2 gAdd (e2 gAdd (e2 gIx (eVar 0) (eC (.int 0))) (eC (.str " "))) (e2 gIx (eVar 0) (eC (.int 1))))) sSkip)
  (sSeq (sIf (eB (e2 (g2 eqT) (e2 gIx (eVar 0) (eC (.int 0))) (eC (.str "map")))) (sRet (e2 gAdd (e2 gAdd (e2 gIx (eVar 0) (eC (.int 1))) (eC (.str " "))) (eCall 1 self (aCons (e2 gIx (eVar 0) (eC (.int 2))) aNil)))) sSkip)
  (sRet (e2 gAdd (e2 gAdd (e2 gAdd (e2 gAdd (eC (.str "(")) (eCall 1 self (aCons (e2 gIx (eVar 0) (eC (.int 1))) aNil))) (eIf (eB (e2 (g2 eqT) (e2 gIx (eVar 0) (eC (.int 0))) (eC (.str "join")))) (eC (.str " | ")) (eC (.str " & ")))) (eCall 1 self (aCons (e2 gIx (eVar 0) (eC (.int 2))) aNil))) (eC (.str ")")))))))
def f_law_text : Nat → List T → PR
  | 0 => fun _ => .fail
  | n + 1 => runP 1 (F_law_text (f_law_text n))
def F_Term_eq : FS :=
  (sRet (eAnd (eCB (gP (isiT (tabC "Term"))) (aCons (eVar 1) (aCons (eC (.cls "Term")) aNil))) (e2 (g2 eqT) (eFld "Term" "own_text" (eVar 0)) (eFld "Term" "own_text" (eVar 1)))))
def f_Term_eq : List T → PR := runP 2 F_Term_eq
def F_Term_head : FS :=
  (sRet (eFld "Term" "own_name" (eVar 0)))
def f_Term_head : List T → PR := runP 1 F_Term_head
def F_Term_kind : FS :=
  (sRet (eFld "Term" "own_kind" (eVar 0)))
def f_Term_kind : List T → PR := runP 1 F_Term_kind
def F_Term_parts : FS :=
  (sRet (eCB gListM (aCons (eFld "Term" "own_parts" (eVar 0)) aNil)))
def f_Term_parts : List T → PR := runP 1 F_Term_parts
end BmT

namespace BmT2
open PySem L2 Bm BmLaw BmT
def F_law_parts : FS :=
  (sRet (eIf (eB (e2 (g2 eqT) (e2 gIx (eVar 0) (eC (.int 0))) (eC (.str "map")))) (eLst (aCons (e2 gIx (eVar 0) (eC (.int 2))) aNil)) (eIf (eB (e2 (g2 (inT false)) (e2 gIx (eVar 0) (eC (.int 0))) (eTup (aCons (eC (.str "join")) (aCons (eC (.str "meet")) aNil))))) (eLst (aCons (e2 gIx (eVar 0) (eC (.int 1))) (aCons (e2 gIx (eVar 0) (eC (.int 2))) aNil))) (eLst aNil))))
def f_law_parts : List T → PR := runP 1 F_law_parts
def F_law_walk (self : List T → PR) : FS :=
  (sSeq (sPar 2 3 (aCons (eLst (aCons (eTup (aCons (eVar 1) (aCons (eVar 0) aNil))) aNil)) (aCons (eCall 1 f_law_parts (aCons (eVar 0) aNil)) aNil)))
  (sSeq (sFor (iR1 (aCons (eCB gLen (aCons (eVar 3) aNil)) aNil)) (gNm 4) (sSet 2 (e2 gAdd (eVar 2) (eCall 2 self (aCons (e2 gIx (eVar 3) (eVar 4)) (aCons (e2 gAdd (eVar 1) (eTup (aCons (eVar 4) aNil))) aNil))))))
  (sRet (eVar 2))))
def f_law_walk : Nat → List T → PR
  | 0 => fun _ => .fail
  | n + 1 => runP 5 (F_law_walk (f_law_walk n))
def F_law_heads : FS :=
  (sRet (eLc (iL (eCall 2 (f_law_walk 12) (aCons (eVar 0) (aCons (eTup aNil) aNil)))) [1, 2] (gTp 2 (gsCons (gNm 1) (gsCons (gNm 2) gsNil))) (eB (e2 (g2 (inT true)) (e2 gIx (eVar 2) (eC (.int 0))) (eTup (aCons (eC (.str "join")) (aCons (eC (.str "meet")) aNil))))) (e2 gIx (eVar 2) (eC (.int 1)))))
def f_law_heads : List T → PR := runP 3 F_law_heads
def F_Term_repr : FS :=
  (sRet (eJs [(eC (.str "Term(")), (eFmt (eFld "Term" "own_text" (eVar 0))), (eC (.str ")"))]))
def f_Term_repr : List T → PR := runP 1 F_Term_repr
def F_Term_bool : FS :=
  (sRet (eC (.bl true)))
def f_Term_bool : List T → PR := runP 1 F_Term_bool
def F_law_depth (self : List T → PR) : FS :=
  (sRet (e2 gAdd (eC (.int 1)) (eCB gMaxL (aCons (e2 gAdd (eLst (aCons (eC (.int 0)) aNil)) (eLc (iL (eCall 1 f_law_parts (aCons (eVar 0) aNil))) [1] (gNm 1) bYes (eCall 1 self (aCons (eVar 1) aNil)))) aNil))))
def f_law_depth : Nat → List T → PR
  | 0 => fun _ => .fail
  | n + 1 => runP 2 (F_law_depth (f_law_depth n))
def F_law_size (self : List T → PR) : FS :=
  (sRet (e2 gAdd (eC (.int 1)) (eCB gSum (aCons (eLc (iL (eCall 1 f_law_parts (aCons (eVar 0) aNil))) [1] (gNm 1) bYes (eCall 1 self (aCons (eVar 1) aNil))) aNil))))
def f_law_size : Nat → List T → PR
  | 0 => fun _ => .fail
  | n + 1 => runP 2 (F_law_size (f_law_size n))
def F_Term_names : FS :=
  (sRet (eLcM (iL (eMeth "Term" "walked" (many 1 (f_Term_walked 70)) (eVar 0) aNil)) [1, 2] (gTp 2 (gsCons (gNm 1) (gsCons (gNm 2) gsNil))) (eB (e2 (g2 neT) (ePro "Term" f_Term_head (eVar 2)) (eC (.str "")))) (ePro "Term" f_Term_head (eVar 2))))
def f_Term_names : List T → PR := runP 3 F_Term_names
def F_law_term_so : FS :=
  (sSeq (sSet 2 (eIf (eB (e2 (g2 (inT false)) (e2 gIx (eVar 1) (eC (.int 0))) (eTup (aCons (eC (.str "join")) (aCons (eC (.str "meet")) aNil))))) (eC (.str "")) (e2 gIx (eVar 1) (eC (.int 1)))))
  (sSeq (sPar 3 4 (aCons (eCall 1 (f_law_text 12) (aCons (eVar 1) aNil)) (aCons (eCall 1 f_law_heads (aCons (eVar 1) aNil)) aNil)))
  (sSeq (sSet 5 (eLst (aCons (ePro "Term" f_Term_kind (eVar 0)) (aCons (ePro "Term" f_Term_head (eVar 0)) (aCons (ePro "Term" f_Term_depth (eVar 0)) (aCons (eCB (gLenC "Term" (many 1 f_Term_len)) (aCons (eVar 0) aNil)) (aCons (eMeth "Term" "text" (many 1 f_Term_text) (eVar 0) aNil) (aCons (eMeth "Term" "names" (many 1 f_Term_names) (eVar 0) aNil) (aCons (eCB (gReprI "Term" (many 1 f_Term_repr)) (aCons (eVar 0) aNil)) (aCons (eCB (gBoolI "Term" (many 1 f_Term_bool)) (aCons (eVar 0) aNil)) aNil))))))))))
  (sSeq (sSet 6 (eLst (aCons (e2 gIx (eVar 1) (eC (.int 0))) (aCons (eVar 2) (aCons (eCall 1 (f_law_depth 12) (aCons (eVar 1) aNil)) (aCons (eCall 1 (f_law_size 12) (aCons (eVar 1) aNil)) (aCons (eVar 3) (aCons (eVar 4) (aCons (e2 gAdd (e2 gAdd (eC (.str "Term(")) (eVar 3)) (eC (.str ")"))) (aCons (eC (.bl true)) aNil))))))))))
  (sRet (eAnd (eCall 2 (f_law_same 12) (aCons (eVar 5) (aCons (eVar 6) aNil))) (eCall 2 (f_law_same 12) (aCons (eLc (iL (eMeth "Term" "parts" (many 1 f_Term_parts) (eVar 0) aNil)) [7] (gNm 7) bYes (eMeth "Term" "text" (many 1 f_Term_text) (eVar 7) aNil)) (aCons (eLc (iL (eCall 1 f_law_parts (aCons (eVar 1) aNil))) [7] (gNm 7) bYes (eCall 1 (f_law_text 12) (aCons (eVar 7) aNil))) aNil)))))))))
def f_law_term_so : List T → PR := runP 8 F_law_term_so
def F_Term_contains : FS :=
  (sRet (eAnd (eCB (gP (isiT (tabC "Term"))) (aCons (eVar 1) (aCons (eC (.ty "str")) aNil))) (eAnd (e2 (g2 neT) (eVar 1) (eC (.str ""))) (e2 (g2 (inT false)) (eVar 1) (eMeth "Term" "names" (many 1 f_Term_names) (eVar 0) aNil)))))
def f_Term_contains : List T → PR := runP 2 F_Term_contains
end BmT2

namespace BmT3
open PySem L2 Bm BmLaw BmT BmT2
def F_Term_renamed (self : List T → PR) : FS :=
  (sSeq (sIf (bNot (eB (eCall 1 f_is_name (aCons (eVar 2) aNil)))) sNever sSkip)
  (sSeq (sSet 3 (eIf (bAnd (eB (e2 (g2 eqT) (eFld "Term" "own_name" (eVar 0)) (eVar 1))) (eB (e2 (g2 neT) (eVar 1) (eC (.str ""))))) (eVar 2) (eFld "Term" "own_name" (eVar 0))))
  (sSeq (sSet 4 (eLc (iT (eFld "Term" "own_parts" (eVar 0))) [5] (gNm 5) bYes (eMeth "Term" "renamed" (many 3 self) (eVar 5) (aCons (eVar 1) (aCons (eVar 2) aNil)))))
  (sRet (eMake "Term" i_Term (aCons (eFld "Term" "own_kind" (eVar 0)) (aCons (eVar 3) (aStar (eVar 4) aNil))))))))
def f_Term_renamed : Nat → List T → PR
  | 0 => fun _ => .fail
  | n + 1 => runP 6 (F_Term_renamed (f_Term_renamed n))
def F_law_new_names (self : List T → PR) : FS :=
  (sSeq (sIf (eB (e2 (g2 (inT false)) (e2 gIx (eVar 0) (eC (.int 0))) (eTup (aCons (eC (.str "join")) (aCons (eC (.str "meet")) aNil))))) (sRet (eTup (aCons (e2 gIx (eVar 0) (eC (.int 0))) (aCons (eCall 3 self (aCons (e2 gIx (eVar 0) (eC (.int 1))) (aCons (eVar 1) (aCons (eVar 2) aNil)))) (aCons (eCall 3 self (aCons (e2 gIx (eVar 0) (eC (.int 2))) (aCons (eVar 1) (aCons (eVar 2) aNil)))) aNil))))) sSkip)
  (sSeq (sSet 3 (eIf (eB (e2 (g2 eqT) (e2 gIx (eVar 0) (eC (.int 1))) (eVar 1))) (eVar 2) (e2 gIx (eVar 0) (eC (.int 1)))))
  (sRet (eIf (eB (e2 (g2 eqT) (e2 gIx (eVar 0) (eC (.int 0))) (eC (.str "map")))) (eTup (aCons (eC (.str "map")) (aCons (eVar 3) (aCons (eCall 3 self (aCons (e2 gIx (eVar 0) (eC (.int 2))) (aCons (eVar 1) (aCons (eVar 2) aNil)))) aNil)))) (eTup (aCons (e2 gIx (eVar 0) (eC (.int 0))) (aCons (eVar 3) aNil)))))))
def f_law_new_names : Nat → List T → PR
  | 0 => fun _ => .fail
  | n + 1 => runP 4 (F_law_new_names (f_law_new_names n))
end BmT3

namespace BmT4
open PySem L2 Bm BmLaw BmT BmT2 BmT3
def F_law_with (self : List T → PR) : FS :=
  (sSeq (sIf (eB (e2 (g2 eqT) (eVar 1) (eTup aNil))) (sRet (eVar 2)) sSkip)
  (sSeq (sIf (eB (e2 (g2 eqT) (e2 gIx (eVar 0) (eC (.int 0))) (eC (.str "map")))) (sRet (eTup (aCons (eC (.str "map")) (aCons (e2 gIx (eVar 0) (eC (.int 1))) (aCons (eCall 3 self (aCons (e2 gIx (eVar 0) (eC (.int 2))) (aCons (eSl (eVar 1) (oSome (eC (.int 1))) oNone) (aCons (eVar 2) aNil)))) aNil))))) sSkip)
  (sSeq (sSet 3 (eLc (iR1 (aCons (eC (.int 2)) aNil)) [4] (gNm 4) bYes (eIf (eB (e2 (g2 eqT) (eVar 4) (e2 gIx (eVar 1) (eC (.int 0))))) (eCall 3 self (aCons (e2 gIx (eVar 0) (e2 gAdd (eVar 4) (eC (.int 1)))) (aCons (eSl (eVar 1) (oSome (eC (.int 1))) oNone) (aCons (eVar 2) aNil)))) (e2 gIx (eVar 0) (e2 gAdd (eVar 4) (eC (.int 1)))))))
  (sRet (eTup (aCons (e2 gIx (eVar 0) (eC (.int 0))) (aCons (e2 gIx (eVar 3) (eC (.int 0))) (aCons (e2 gIx (eVar 3) (eC (.int 1))) aNil))))))))
def f_law_with : Nat → List T → PR
  | 0 => fun _ => .fail
  | n + 1 => runP 5 (F_law_with (f_law_with n))
def F_Term_replaced (self : List T → PR) : FS :=
  (sSeq (sIf (eB (e2 (g2 eqT) (eVar 1) (eTup aNil))) (sRet (eVar 2)) sSkip)
  (sSeq (sSet 3 (eMethM "Term" "parts" (many 1 f_Term_parts) (eVar 0) aNil))
  (sSeq (sAsg (eMeth "Term" "replaced" (many 3 self) (e2 gIx (eVar 3) (e2 gIx (eVar 1) (eC (.int 0)))) (aCons (eSl (eVar 1) (oSome (eC (.int 1))) oNone) (aCons (eVar 2) aNil))) (gSubM (eVar 3) (e2 gIx (eVar 1) (eC (.int 0)))))
  (sRet (eMake "Term" i_Term (aCons (eFld "Term" "own_kind" (eVar 0)) (aCons (eFld "Term" "own_name" (eVar 0)) (aStar (eVar 3) aNil))))))))
def f_Term_replaced : Nat → List T → PR
  | 0 => fun _ => .fail
  | n + 1 => runP 4 (F_Term_replaced (f_Term_replaced n))
def F_Term_changed : FS :=
  (sSeq (sSet 3 (eMeth "Term" "replaced" (many 3 (f_Term_replaced 70)) (eVar 0) (aCons (eVar 1) (aCons (eVar 2) aNil))))
  (sSeq (sExpr (eCall 2 f_check_size (aCons (eCB (gLenC "Term" (many 1 f_Term_len)) (aCons (eVar 3) aNil)) (aCons (ePro "Term" f_Term_depth (eVar 3)) aNil))))
  (sRet (eVar 3))))
def f_Term_changed : List T → PR := runP 4 F_Term_changed
def F_is_whole : FS :=
  (sRet (eAnd (eCB (gP (isiT tabB)) (aCons (eVar 0) (aCons (eC (.ty "int")) aNil))) (eNot (eCB (gP (isiT tabB)) (aCons (eVar 0) (aCons (eC (.ty "bool")) aNil))))))
def f_is_whole : List T → PR := runP 1 F_is_whole
def F_is_number : FS :=
  (sRet (eAnd (eCall 1 f_is_whole (aCons (eVar 0) aNil)) (e3 (g2 leT) (g2 leT) (eVar 1) (eVar 0) (eVar 2))))
def f_is_number : List T → PR := runP 3 F_is_number
def F_Term_part_at : FS :=
  (sSeq (sIf (bNot (eB (eCB (gP (isiT (tabC "Term"))) (aCons (eVar 1) (aCons (eC (.ty "tuple")) aNil))))) (sRet (eC .non)) sSkip)
  (sSeq (sSet 2 (eVar 0))
  (sSeq (sFor (iT (eVar 1)) (gNm 3) (sSeq (sSet 4 (eMeth "Term" "parts" (many 1 f_Term_parts) (eVar 2) aNil))
  (sSeq (sIf (bNot (eB (eCall 3 f_is_number (aCons (eVar 3) (aCons (eC (.int 0)) (aCons (e2 (g2 subT) (eCB (gLenC "Term" (many 1 f_Term_len)) (aCons (eVar 4) aNil)) (eC (.int 1))) aNil)))))) (sRet (eC .non)) sSkip)
  (sSet 2 (e2 gIx (eVar 4) (eVar 3))))))
  (sRet (eVar 2)))))
def f_Term_part_at : List T → PR := runP 5 F_Term_part_at
end BmT4

/-! Own exception classes called with arguments by name: the model's steps. -/
namespace PySem
namespace BmX4
open Builtin Builtin.ObjectAttr HandSPX
section
variable {M : Model} {A : Around} {E : Value → Shared → Prop} {h : Heap} {g : Array GenState} {d : Drawn} {t : Nat} {os : OsState}
variable {nm q : Str} {C N : Addr} {bs bm bmB : List Value} {hdct : Bool} {sn : List Str} {sub : List Value} {ab : Bool} {col : Option Bool} {dd : Option Addr} {k0 k1 k2 k3 k5 : Option Value} {B newId initId : String}
theorem check_new_ownK (F : ExcBaseFacts B newId initId bmB) (hT : ∀ X : String, bm.contains (.type X) = bmB.contains (.type X)) {rest : List Value} {kw : List (Str × Value)} {Q : Unit → Shared → Prop}
    (hC : h.get? C = some (excClassObj nm q C N bs bm hdct sn sub ab col dd k0 k1 k2 k3 k5 newId)) (hq : Q () ⟨h, g, d, t, os⟩) : wpAny M A (checkBuiltinCall newId ⟨.ref C :: rest, kw⟩) Q E ⟨h, g, d, t, os⟩ := by
  have hcont : (Value.ref C :: bm).contains (.type B) = true := by rw [List.contains_cons, hT, F.hasB, Bool.or_true]
  have hstar := F.noStar
  simp only [checkBuiltinCall, F.newKind, F.newSplit, F.newRow]
  repeat (first | refine wpAny_loadPart_at hC ?_ | (refine wpAny_isSubtype_exc hC ?_; rw [hcont]) | refine wpAny_staticBase_exc hC ?_ | refine wpAny_madeBy_exc hC ?_ | simp only [bne_self_eq_false, Bool.false_eq_true, if_false] | wp_step)
  exact hq
theorem check_typeK {rest : List Value} {kw : List (Str × Value)} {Q : Unit → Shared → Prop} (hC : h.get? C = some (excClassObj nm q C N bs bm hdct sn sub ab col dd k0 k1 k2 k3 k5 newId))
    (hq : Q () ⟨h, g, d, t, os⟩) : wpAny M A (checkBuiltinCall "type.__call__" ⟨.ref C :: rest, kw⟩) Q E ⟨h, g, d, t, os⟩ := by
  have f3 := tc_sub
  have hT : (⟨h, g, d, t, os⟩ : Shared).TypeIs (.ref C) "type" := ⟨_, hC, rfl⟩
  simp only [checkBuiltinCall, tc_kind, tc_split]
  repeat (any_goals (first | assumption | with_reducible refine wpAny_loadPart_at hC ?_ | with_reducible refine wpAny_onRaise ?_ | with_reducible refine wpAny_map ?_ | wp_step))
end
section
variable {prog : Program} {w : World} {A : Around} {E : Value → Shared → Prop} {R : Result → Shared → Prop} {h : Heap} {g : Array GenState} {d : Drawn} {t : Nat} {os : OsState}
variable {nm q : Str} {C N : Addr} {bs bm bmB : List Value} {hdct : Bool} {sn : List Str} {sub : List Value} {ab : Bool} {col : Option Bool} {dd : Option Addr} {k0 k1 k2 k3 k5 : Option Value} {B newId initId : String}
theorem new_ownK (F : ExcBaseFacts B newId initId bmB) (hT : ∀ X : String, bm.contains (.type X) = bmB.contains (.type X)) {rest : List Value} {kw : List (Str × Value)}
    (hC : h.get? C = some (excClassObj nm q C N bs bm hdct sn sub ab col dd k0 k1 k2 k3 k5 newId))
    (hq : R (.ok (.ret (.ref (h.objs.size + 1)))) ⟨(h.push { cls := .type "tuple", data := .seq rest.toArray }).push
      { cls := .ref C, data := .fields #[.ref h.objs.size, .none, .none, .none, .bool false, .none] }, g, d, t, os⟩) (hrest : rest.length ≤ sizeLine) :
    codeAny (model prog w) A (.builtin newId ⟨.ref C :: rest, kw⟩) R ⟨h, g, d, t, os⟩ := by
  have hends := F.ends
  have hcB : (Value.ref C :: bm).contains (.type B) = true := by rw [List.contains_cons, hT, F.hasB, Bool.or_true]
  have hcA : (Value.ref C :: bm).contains (.type "AttributeError") = false := by rw [List.contains_cons, hT, F.noAttr]; rfl
  have hcN : (Value.ref C :: bm).contains (.type "NameError") = false := by rw [List.contains_cons, hT, F.noName]; rfl
  refine codeAny_builtinAt F.entry ?_
  unfold Builtin.«BaseException.__new__»
  refine wpAt_bind ?_
  show wpAt _ _ _ (stack >>= _) _ _ _
  refine wpAt_bind (wpAt_stack fun p below => wpAt_of_wpAny ?_)
  wp_walk
  refine wpAt_of_wpAny ?_
  rw [F.owner]
  repeat (first | with_reducible refine wpAny_madeHere_exc F.canon hC ?_ | with_reducible refine wpAny_loadPart_at hC ?_ | (with_reducible refine wpAny_isSubtype_exc hC ?_; first | rw [hcB] | rw [hcA] | rw [hcN]) | wp_step)
  show R _ _
  rw [Heap.size_push]
  exact hq
theorem type_call_ownK (F : ExcBaseFacts B newId initId bmB) (hT : ∀ X : String, bm.contains (.type X) = bmB.contains (.type X)) {rest : List Value} {kw : List (Str × Value)} {fI : Addr} {Q : Fin → Shared → Prop}
    (hC : h.get? C = some (excClassObj nm q C N bs bm hdct sn sub ab col dd k0 k1 k2 k3 k5 newId))
    (hi : W.Looks (model prog w) h (typeLookup (.ref C) "__init__") (some (.ref fI))) (hb : ∀ self, W.Looks (model prog w) h (bindSpecial (.ref fI) self) (.ref fI, [self])) (hrest : rest.length ≤ sizeLine)
    (hq : codeAny (model prog w) A (.call (.ref fI) ⟨.ref (h.objs.size + 1) :: rest, kw⟩)
      (fun r s' => match r with | .ok (.ret v) => v = .none ∧ Q (.done (.ret (.ref (h.objs.size + 1)))) s' | .ok _ => False | .error e => E e s')
      ⟨(h.push (W.kdv_tup rest)).push (excO C h.objs.size), g, d, t, os⟩) :
    wpAny (model prog w) A (Builtin.«type.__call__» ⟨.ref C :: rest, kw⟩) Q E ⟨h, g, d, t, os⟩ := by
  repeat (first | with_reducible refine wpAny_loadPart_at hC ?_ | with_reducible refine wpAny_madeBy_exc hC ?_ | wp_step)
  refine codeAny_call_builtin_code (Code.quiet_builtin _ F.quiet) (check_new_ownK F hT hC ?_)
  refine new_ownK F hT hC ?_ hrest
  show wpAny _ _ _ _ _ _
  have k : ∀ b o, h.get? b = some o → ((h.push (W.kdv_tup rest)).push (excO C h.objs.size)).get? b = some o := fun b o e => Heap.get?_push_of_some _ (Heap.get?_push_of_some _ e)
  have hC₁ := k _ _ hC
  have hget : ((h.push (W.kdv_tup rest)).push (excO C h.objs.size)).get? (h.objs.size + 1) = some (excO C h.objs.size) := by heap_get
  have hcC : (Value.ref C :: bm).contains (.ref C) = true := by simp
  have i1 := hi.keeps k
  have b1 := (hb (.ref (h.objs.size + 1))).keeps k
  unfold isInstance
  repeat (first | with_reducible refine wpAny_loadPart_at hget ?_ | (with_reducible refine wpAny_isSubtype_exc hC₁ ?_; rw [hcC]) | wp_step)
  show wpAny _ _ (typeLookup (.ref C) _) _ _ _
  refine i1.at ?_
  refine wpAny_holding (wpAny_bind (b1.at ?_))
  refine wpAny_bind (wpAny_call (codeAny_mono hq fun r s' z => ?_))
  rcases r with e | (v | _ | _ | _) <;> first | exact z | exact z.elim | skip
  obtain ⟨rfl, z⟩ := z
  first
    | exact wpAny_pure (wpAny_pure z)
    | (wp_walk; exact z)
theorem call_ownK (F : ExcBaseFacts B newId initId bmB) (hT : ∀ X : String, bm.contains (.type X) = bmB.contains (.type X)) {rest : List Value} {kw : List (Str × Value)} {fI : Addr}
    (hC : h.get? C = some (excClassObj nm q C N bs bm hdct sn sub ab col dd k0 k1 k2 k3 k5 newId))
    (hi : W.Looks (model prog w) h (typeLookup (.ref C) "__init__") (some (.ref fI))) (hb : ∀ self, W.Looks (model prog w) h (bindSpecial (.ref fI) self) (.ref fI, [self])) (hrest : rest.length ≤ sizeLine)
    (hq : codeAny (model prog w) (A.under (.builtin "type.__call__" ⟨.ref C :: rest, kw⟩)) (.call (.ref fI) ⟨.ref (h.objs.size + 1) :: rest, kw⟩) (W.InitBack (h.objs.size + 1) R)
      ⟨(h.push (W.kdv_tup rest)).push (excO C h.objs.size), g, d, t, os⟩) :
    codeAny (model prog w) A (.call (.ref C) ⟨rest, kw⟩) R ⟨h, g, d, t, os⟩ := by
  have f1 := tc_lookup
  have f2 := tc_bind (.ref C)
  have hTy : (⟨h, g, d, t, os⟩ : Shared).TypeIs (.ref C) "type" := ⟨_, hC, rfl⟩
  refine codeAny_of_tree ?_
  show wpAny _ _ (callAny (.ref C) _) _ _ _
  repeat (any_goals (first | assumption | with_reducible refine wpAny_loadPart_at hC ?_ | wp_step))
  refine ⟨rfl, ?_⟩
  refine codeAny_call_builtin_at (Code.quiet_builtin _ (by decide +kernel)) entry_typeCall (check_typeK hC (type_call_ownK F hT hC hi hb hrest ?_))
  refine codeAny_mono hq fun r s' z => ?_
  rcases r with e | (v | _ | _ | _) <;> exact z
end
end BmX4
end PySem

/-! Own exception classes over any built-in base: stores in __init__. -/
namespace PySem
namespace BmX4
open Builtin Builtin.ObjectAttr HandSPX PySem.W
section
variable {prog : Program} {w : World} {A : Around} {E : Value → Shared → Prop} {R : Result → Shared → Prop} {hp : Heap} {g : Array GenState} {d : Drawn} {t : Nat} {os : OsState} {B : String} {bmB : List Value}
theorem exc_osaX {K : W.Frag} {name : Str} {tk : Tok} {v : Value} {x C : Addr} {fv : Array Value} {cd : ClassData} (SF : StoreFacts B bmB "object.__setattr__" "object") (ov : excOver K C bmB = true)
    (X : K.In hp) (hx : hp.get? x = some { cls := .ref C, data := .fields fv }) (hcd : W.clsIn K C = some cd) (hh : cd.hasDict = true) (ha : W.findIn K (.ref C) name = some none)
    (hq : ∀ h' tk' dx, (∀ b o, b ≠ x → hp.get? b = some o → h'.get? b = some o) → hp.objs.size ≤ dx → dx ≠ x → h'.get? x = some { cls := .ref C, dict := some dx, data := .fields fv } →
      h'.Ns1 dx (fun y => if y = name then some v else none) → R (.ok (.ret .none)) ⟨h', g, d, tk', os⟩) :
    codeAny (model prog w) A (.call (.builtin "object.__setattr__") ⟨[.ref x, .str name tk, v], []⟩) R ⟨hp, g, d, t, os⟩ := by
  have I : W.InstAt hp x { cls := .ref C, data := .fields fv } C none := ⟨hx, rfl, rfl, trivial⟩
  have hxs : x ≠ hp.objs.size := Nat.ne_of_lt (Heap.lt_size hx)
  have hcls : W.Looks (model prog w) hp (classData C) cd := W.looks_clsIn X hcd
  refine osa_openX (r := none) SF X I ov (by unfold takerIn; rw [ha]; rfl) fun b => ?_
  show wpAny _ _ (storeInOwnDict (.ref x) (.ref C) (.str name tk) name v b) _ _ _
  obtain ⟨nm, bs, mro, ns, qn, hd, sn, sb, ab, col, del⟩ := cd
  dsimp only at hh
  subst hh
  unfold storeInOwnDict ownDictForStores
  repeat (first | with_reducible refine store_in_new ?_ ?_ | with_reducible refine wpAny_loadPart_at hx ?_ | with_reducible refine hcls.at ?_ | wp_step)
  · exact ⟨_, #[], _, (Heap.get?_update_ne _ _ _ _ hxs.symm).trans (Heap.get?_push_at rfl rfl), rfl, fun e he => absurd he (by simp), fun _ => rfl⟩
  · intro h' tk' hn' hs
    have hx₁ : (hp.push { cls := .type "dict", data := .dict #[] }).get? x = some { cls := .ref C, data := .fields fv } := Heap.get?_push_of_some _ hx
    refine hq h' tk' hp.objs.size (fun b o hb ho => ?_) (Nat.le_refl _) hxs.symm ?_ hn'
    · exact (hs.2 b (Nat.ne_of_lt (Heap.lt_size ho))).trans ((Heap.get?_update_ne _ _ _ _ hb).trans (Heap.get?_push_of_some _ ho))
    · exact (hs.2 x hxs).trans (Heap.get?_update_self _ hx₁ rfl)
theorem osa_oldX {K : W.Frag} {name : Str} {tk : Tok} {v : Value} {x C dx : Addr} {fv : Array Value} {cd : ClassData} {m0 : Str → Option Value} {nl : List Str} (SF : StoreFacts B bmB "object.__setattr__" "object") (ov : excOver K C bmB = true)
    (X : K.In hp) (hx : hp.get? x = some { cls := .ref C, dict := some dx, data := .fields fv }) (hns : hp.Ns1 dx m0) (hw : Within m0 nl) (hz : nl.length ≤ 1000) (hcd : W.clsIn K C = some cd) (hh : cd.hasDict = true)
    (ha : W.findIn K (.ref C) name = some none)
    (hq : ∀ h' tk', (∀ b o, b ≠ dx → hp.get? b = some o → h'.get? b = some o) → h'.Ns1 dx (fun y => if y = name then some v else m0 y) → R (.ok (.ret .none)) ⟨h', g, d, tk', os⟩) :
    codeAny (model prog w) A (.call (.builtin "object.__setattr__") ⟨[.ref x, .str name tk, v], []⟩) R ⟨hp, g, d, t, os⟩ := by
  obtain ⟨oD, esD, epD, hoD, hdD, _⟩ := hns.count hw
  have I : W.InstAt hp x { cls := .ref C, dict := some dx, data := .fields fv } C (some oD) := ⟨hx, rfl, rfl, hoD⟩
  have hcls : W.Looks (model prog w) hp (classData C) cd := W.looks_clsIn X hcd
  refine osa_openX (r := none) SF X I ov (by unfold takerIn; rw [ha]; rfl) fun b => ?_
  show wpAny _ _ (storeInOwnDict (.ref x) (.ref C) (.str name tk) name v b) _ _ _
  obtain ⟨nm, bs, mro, ns, qn, hd, sn, sb, ab, col, del⟩ := cd
  dsimp only at hh
  subst hh
  unfold storeInOwnDict ownDictForStores
  repeat (first | with_reducible refine OEX.store_in_old hns hw hz ?_ | with_reducible refine wpAny_loadPart_at hx ?_ | with_reducible refine hcls.at ?_ | wp_step)
  intro h' tk' hn' hs
  exact hq h' tk' (fun b o hb ho => (hs.2 b hb).trans ho) hn'
end
end BmX4
end PySem

namespace BmX4
open PySem PySem.Spec PyProof.Rows L2
/-- what the written part says of an exception class, over the built-in base that the rest tells -/
structure XC (K : PySem.W.Frag) (C fI : Addr) : Prop where
  ex : ∃ B newId initId bmB, PySem.ExcBaseFacts B newId initId bmB ∧ PySem.StoreFacts B bmB "object.__setattr__" "object" ∧ PySem.W.excInitIn K C bmB newId = true ∧ PySem.W.excOver K C bmB = true
  hd : PySem.W.hasDictIn K C = true
  sa : PySem.W.findIn K (.ref C) "__setattr__" = some (some (.builtin "object.__setattr__"))
  exC : PySem.W.subIn K (.ref C) (.type "BaseException") = some true
  tyC : PySem.W.typeIn K (.ref C) = some (.type "type")
  kC : PySem.W.keepIn K (.ref C) = true
  iC : PySem.W.findIn K (.ref C) "__init__" = some (some (.ref fI))
  tI : PySem.W.typeIn K (.ref fI) = some (.type "function")
section
variable {X : Cx} {pins : List (Addr × Obj)} {σ : L2.St} {H : Hp} {s : Shared} {a C dx fI : Addr} {f : Str} {y : V} {u : Value} {fs : List (Str × V)} {Q : Unit → Shared → Prop} {E : Value → Shared → Prop} {A : Around}
/-- self.f = y, the first one -/
theorem ost_newX (T : XC X.K C fI) (I : Inv X pins σ H s) (e : H a = some (exo a C none)) (hno : PySem.W.findIn X.K (.ref C) f = some none) (ry : RelV y u)
    (h : ∀ dx s', H dx = none → dx ≠ a → Inv X pins σ (upd (upd H dx (exd dx [(f, y)])) a (exo a C (some dx))) s' → Q () s') : wpAny (model X.prog X.w) A (setAttr (.ref a) f u) Q E s := by
  obtain ⟨B, newId, initId, bmB, FB, SF, q, ov⟩ := T.ex
  obtain ⟨cd, hcl, hdd⟩ := PySem.W.any_some T.hd
  obtain ⟨t1, ho⟩ := exo_at I.hok e
  obtain ⟨hp, g, d, t, os⟩ := s
  refine PySem.W.set_plain I.kIn (ox := { cls := .ref C, dict := none, data := .fields #[.ref t1, .none, .none, .none, .bool false, .none] }) (od := none) ⟨ho, rfl, rfl, trivial⟩ T.sa ?_
  refine PySem.BmX4.exc_osaX SF ov I.kIn ho hcl hdd hno (fun h' tk' dx k dn dne hx hn => ?_)
  have hnd : H dx = none := I.hok.fresh dn
  have nd : ∀ {b : Addr} {o : Obj}, hp.get? b = some o → b ≠ dx := fun {b o} q => Nat.ne_of_lt (Nat.lt_of_lt_of_le (Heap.lt_size q) dn)
  have na : ∀ {b : Addr}, H b = none → b ≠ a := fun {b} n z => by
    rw [z, e] at n
    cases n
  have Un1 : Un X.fs [] H (upd (upd H dx (exd dx [(f, y)])) a (exo a C (some dx))) hp h' := {
    keep := fun b o q n _ _ => k b o (na n) q
    slot := fun b o q n _ _ => ⟨o.slots, k b o (na n) q⟩
    free := fun b o q n _ => by rw [upd_ne (na n), upd_ne (nd q)]; exact n
    there := fun b o q _ => by
      by_cases hb : b = a
      · exact ⟨_, by rw [hb]; exact hx⟩
      · exact ⟨o, k b o hb q⟩
    tups := fun b xs q => by rw [upd_ne (at_ne e q exo_tup), upd_ne (ne_of_none q hnd)]; exact q
    frzs := fun b o v q => by rw [upd_ne (at_ne e q exo_frz), upd_ne (ne_of_none q hnd)]; exact q
    tbls := fun b ps q => ⟨#[], by rw [upd_ne (at_ne e q exo_tbl), upd_ne (ne_of_none q hnd), q]; simp⟩ }
  refine h dx _ hnd dne (I.un (t' := tk') Un1 fun b o q => ?_)
  by_cases hb : b = a
  · subst hb
    rw [upd_same] at q
    cases q
    exact exo_ok hx
  · rw [upd_ne hb] at q
    by_cases hd : b = dx
    · subst hd
      rw [upd_same] at q
      cases q
      exact exd_ok hn (relO_put (fs := []) ry fun g => True.intro)
    · rw [upd_ne hd] at q
      exact (I.hok b o q).stay (fun c v hc z => k c v (by
          rcases hc with hc | hc
          · rw [hc]
            exact hb
          · exact at_ne e hc exo_own) z)
        (fun c hc => by rw [upd_ne (at_ne e hc exo_own), upd_ne (ne_of_none hc hnd)]; exact hc) (fun c xs hc => by rw [upd_ne (at_ne e hc exo_tup), upd_ne (ne_of_none hc hnd)]; exact hc)
/-- self.f = y, a further one -/
theorem ost_oldX (T : XC X.K C fI) (I : Inv X pins σ H s) (e : H a = some (exo a C (some dx))) (ed : H dx = some (exd dx fs)) (hl : fs.length ≤ 900) (hno : PySem.W.findIn X.K (.ref C) f = some none) (ry : RelV y u)
    (h : ∀ s', Inv X pins σ (upd H dx (exd dx ((f, y) :: fs))) s' → Q () s') : wpAny (model X.prog X.w) A (setAttr (.ref a) f u) Q E s := by
  obtain ⟨B, newId, initId, bmB, FB, SF, q, ov⟩ := T.ex
  obtain ⟨cd, hcl, hdd⟩ := PySem.W.any_some T.hd
  obtain ⟨t1, ho⟩ := exo_at I.hok e
  obtain ⟨mA, hns, rel⟩ := exd_at I.hok ed
  have hw := within_of rel
  obtain ⟨hp, g, d, t, os⟩ := s
  obtain ⟨oD, _, _, hoD, _, _⟩ := hns.count hw
  refine PySem.W.set_plain I.kIn (ox := { cls := .ref C, dict := some dx, data := .fields #[.ref t1, .none, .none, .none, .bool false, .none] }) (od := some oD) ⟨ho, rfl, rfl, hoD⟩ T.sa ?_
  refine PySem.BmX4.osa_oldX SF ov I.kIn ho hns hw (by rw [List.length_map]; omega) hcl hdd hno (fun h' tk' k hn => ?_)
  have hd : ∃ o, h'.get? dx = some o := by
    obtain ⟨o, _, _, e', _⟩ := hn
    exact ⟨o, e'⟩
  exact h _ (I.write (t' := tk') (x := dx) (e := dx) (o := exd dx ((f, y) :: fs)) (by rw [ed]; exact True.intro) (.inl rfl) k hd (exd_ok hn (relO_put ry rel)))
end
/-- self.f = e; the classes' addresses: C, their __init__: fI -/
def tOstX (K : PySem.W.Frag) (C fI : Addr) (f : Str) (to te : TE) : TS := fun D σ H => te σ H fun y H1 => to σ H1 fun x H2 => ∃ a : Addr, x = .ref a ∧ XC K C fI ∧ PySem.W.findIn K (.ref C) f = some none ∧
  ((H2 a = some (exo a C none) ∧ ∀ dx, H2 dx = none → dx ≠ a → D.nx σ (upd (upd H2 dx (exd dx [(f, y)])) a (exo a C (some dx)))) ∨
    ∃ (dx : Addr) (fs : List (Str × V)), H2 a = some (exo a C (some dx)) ∧ H2 dx = some (exd dx fs) ∧ fs.length ≤ 900 ∧ D.nx σ (upd H2 dx (exd dx ((f, y) :: fs))))
theorem ps_ostX {X : Cx} {C fI : Addr} {o e : Expr} {to te : TE} {f : Str} {p' pos : Pos} (ho : PE X o to) (he : PE X e te) (hs : swapsWith e (some (.Attribute o f p')) pos.line X.env = pure false := by rfl) : PS X (.Assign [.Attribute o f p'] e pos) (tOstX X.K C fI f to te) := by
  refine ⟨fun pins s σ H D I h => ?_⟩
  refine plainObj_wpAny_Assign_Attribute (thn (he.run pins s σ H _ I h) fun v s1 ⟨y, H1, I1, r1, q1⟩ => thn (ho.run pins s1 σ H1 _ I1 q1) fun u s2 ⟨x, H2, I2, r2, a, ex, T, hno, q⟩ => ?_) hs
  subst ex
  obtain rfl : u = Value.ref a := r2
  rcases q with ⟨ea, q⟩ | ⟨dx, fs, ea, ed, hl, q⟩
  · exact ost_newX T I2 ea hno r1 fun dx s' n ne J => ⟨σ, _, J, q dx n ne⟩
  · exact ost_oldX T I2 ea ed hl hno r1 fun s' J => ⟨σ, _, J, q⟩
end BmX4

/-! Own exceptions as values: made by their class, fields read, isinstance. -/
namespace Bm
open PySem PySem.Spec PyProof.Rows L2 BmX4
/-- where a field comes from -/
inductive XV where
  | arg (i : Nat) | con (s : Str)
def XV.get (us : List V) : XV → V
  | .arg i => us[i]?.getD .non
  | .con s => .str s
def XV.tree (ts : List T) : XV → T
  | .arg i => ts[i]?.getD .non
  | .con s => .str s
def XV.okB (m : Nat) : XV → Bool
  | .arg i => decide (i < m)
  | .con _ => true
abbrev FL := List (Str × XV)
def fsV (fl : FL) (us : List V) : List (Str × V) := fl.map fun p => (p.1, p.2.get us)
theorem fsV_zip (fl : FL) (us : List V) : fsV fl us = (fl.map (·.1)).zip (fl.map fun p => p.2.get us) := by
  unfold fsV
  induction fl with
  | nil => rfl
  | cons p l ih => rw [List.map_cons, ih]; rfl
theorem fl_rep {K : PySem.W.Frag} {cm : Str → Addr} {I : Hp} {ts : List T} {us : List V} (r : RepTL K cm I ts us) : ∀ (fl : FL), fl.all (fun p => p.2.okB ts.length) = true → RepTL K cm I (fl.map fun p => p.2.tree ts) (fl.map fun p => p.2.get us)
  | [], _ => RepTL.nil
  | (n, .con s) :: l, h => by
    rw [List.all_cons, Bool.and_eq_true] at h
    exact RepTL.cons (by unfold RepT; rfl) (fl_rep r l h.2)
  | (n, .arg i) :: l, h => by
    rw [List.all_cons, Bool.and_eq_true] at h
    have hi : i < ts.length := of_decide_eq_true h.1
    obtain ⟨x, h1, h2⟩ := r.get (List.getElem?_eq_getElem hi)
    refine RepTL.cons ?_ (fl_rep r l h.2)
    show RepT K cm I (ts[i]?.getD .non) (us[i]?.getD .non)
    rw [h1, List.getElem?_eq_getElem hi]
    exact h2
/-- what an exception's __init__ does -/
def spX (K : PySem.W.Frag) (C fI : Addr) (m : Nat) (fl : FL) : Sp := fun vs H Q E => ∃ a us, vs = .ref a :: us ∧ us.length = m ∧ XC K C fI ∧ (∀ p ∈ fl, PySem.W.findIn K (.ref C) p.1 = some none) ∧ H a = some (exo a C none) ∧
  ∀ H' dx, dx ≠ a → H dx = none → H' a = some (exo a C (some dx)) → H' dx = some (exd dx (fsV fl us)) → (∀ b, b ≠ a → b ≠ dx → H' b = H b) → Q .non H'
section
variable {P : Program} {w : World} {K : PySem.W.Frag} {mg : Str → Option Value} {base : Heap} {x qual : Str} {st : Stmt} {f : Addr} {fd : FuncData} {N ps : List Str} {k : Nat}
theorem spX_len {C fI : Addr} {m : Nat} {fl : FL} (hm : m + 1 = ps.length) : ∀ vs H Q E, spX K C fI m fl vs H Q E → vs.length = ps.length := fun vs H Q E ⟨a, us, e, h, _⟩ => by rw [e, List.length_cons, h, hm]
def tX0 (K : PySem.W.Frag) (C fI : Addr) (cs : Str) : TS := tOstX K C fI "code" (tVar 0) (tC (.str cs))
def tX1 (K : PySem.W.Frag) (C fI : Addr) (f cs : Str) : TS := tSeq (tOstX K C fI f (tVar 0) (tVar 1)) (tOstX K C fI "code" (tVar 0) (tC (.str cs)))
def tX2 (K : PySem.W.Frag) (C fI : Addr) (f g cs : Str) : TS := tSeq (tOstX K C fI f (tVar 0) (tVar 1)) (tSeq (tOstX K C fI g (tVar 0) (tVar 2)) (tOstX K C fI "code" (tVar 0) (tC (.str cs))))
theorem fn_X0 {C : Addr} {cs : Str} (F : Fun K x qual st f fd) (S : FnScope N ps (defScope st)) (hN : N.length = 1) (hm : ps.length = 1)
    (hbody : ∀ (cdv : Value) (A : Around) (outer : List Env) (s : Shared) (H : Hp) (E : XK), PSs (cxOf (L2.CX P w) P w K mg base N qual (defScope st) f cdv A outer s H E) (defBody st) (tX0 K C f cs)) : FnOk P w K mg base (L2.CX P w) (k + 1) f fd ps (spX K C f 0 [("code", .con cs)]) :=
  F.okX S (spX_len (by omega)) fun cdv A outer s H vs Q E hr h => by
    refine ⟨_, hbody cdv A outer s H E, ?_⟩
    obtain ⟨a, us, rfl, hl, T, no, ha, q⟩ := h
    obtain rfl := List.length_eq_zero_iff.mp hl
    refine ⟨.ref a, rfl, a, rfl, T, no ("code", .con cs) (by simp), .inl ⟨ha, fun dx n ne => ?_⟩⟩
    exact q _ dx ne n upd_same (by rw [upd_ne ne, upd_same]; rfl) fun b h1 h2 => by rw [upd_ne h1, upd_ne h2]
theorem fn_X1 {C : Addr} {g cs : Str} (F : Fun K x qual st f fd) (S : FnScope N ps (defScope st)) (hN : N.length = 2) (hm : ps.length = 2)
    (hbody : ∀ (cdv : Value) (A : Around) (outer : List Env) (s : Shared) (H : Hp) (E : XK), PSs (cxOf (L2.CX P w) P w K mg base N qual (defScope st) f cdv A outer s H E) (defBody st) (tX1 K C f g cs)) : FnOk P w K mg base (L2.CX P w) (k + 1) f fd ps (spX K C f 1 [("code", .con cs), (g, .arg 0)]) :=
  F.okX S (spX_len (by omega)) fun cdv A outer s H vs Q E hr h => by
    refine ⟨_, hbody cdv A outer s H E, ?_⟩
    obtain ⟨a, us, rfl, hl, T, no, ha, q⟩ := h
    obtain ⟨u, rfl⟩ := List.length_eq_one_iff.mp hl
    refine ⟨u, rfl, .ref a, rfl, a, rfl, T, no (g, .arg 0) (by simp), .inl ⟨ha, fun dx n ne => ?_⟩⟩
    refine ⟨.ref a, rfl, a, rfl, T, no ("code", .con cs) (by simp), .inr ⟨dx, _, upd_same, by rw [upd_ne ne, upd_same], by simp, ?_⟩⟩
    exact q _ dx ne n (by rw [upd_ne (Ne.symm ne), upd_same]) upd_same fun b h1 h2 => by rw [upd_ne h2, upd_ne h1, upd_ne h2]
theorem fn_X2 {C : Addr} {g g' cs : Str} (F : Fun K x qual st f fd) (S : FnScope N ps (defScope st)) (hN : N.length = 3) (hm : ps.length = 3)
    (hbody : ∀ (cdv : Value) (A : Around) (outer : List Env) (s : Shared) (H : Hp) (E : XK), PSs (cxOf (L2.CX P w) P w K mg base N qual (defScope st) f cdv A outer s H E) (defBody st) (tX2 K C f g g' cs)) : FnOk P w K mg base (L2.CX P w) (k + 1) f fd ps (spX K C f 2 [("code", .con cs), (g', .arg 1), (g, .arg 0)]) :=
  F.okX S (spX_len (by omega)) fun cdv A outer s H vs Q E hr h => by
    refine ⟨_, hbody cdv A outer s H E, ?_⟩
    obtain ⟨a, us, rfl, hl, T, no, ha, q⟩ := h
    obtain ⟨u, u', rfl⟩ : ∃ u u', us = [u, u'] := by
      cases us with
      | nil => cases hl
      | cons u r => cases r with
        | nil => cases hl
        | cons u' r => cases r with
          | nil => exact ⟨u, u', rfl⟩
          | cons _ _ => cases hl
    refine ⟨u, rfl, .ref a, rfl, a, rfl, T, no (g, .arg 0) (by simp), .inl ⟨ha, fun dx n ne => ?_⟩⟩
    refine ⟨u', rfl, .ref a, rfl, a, rfl, T, no (g', .arg 1) (by simp), .inr ⟨dx, _, upd_same, by rw [upd_ne ne, upd_same], by simp, ?_⟩⟩
    refine ⟨.ref a, rfl, a, rfl, T, no ("code", .con cs) (by simp), .inr ⟨dx, _, by rw [upd_ne (Ne.symm ne), upd_same], upd_same, by simp, ?_⟩⟩
    exact q _ dx ne n (by rw [upd_ne (Ne.symm ne), upd_ne (Ne.symm ne), upd_same]) upd_same fun b h1 h2 => by rw [upd_ne h2, upd_ne h2, upd_ne h1, upd_ne h2]
end
section
variable {X : Cx} {pins : List (Addr × Obj)} {σ : L2.St} {H : Hp} {s : Shared}
/-- it stands as a value -/
theorem retrack {a C d : Addr} {fs : List (Str × V)} (I : Inv X pins σ H s) (ea : H a = some (exo a C (some d))) (ed : H d = some (exd d fs)) (ne : d ≠ a) : Inv X pins σ (upd (upd H d (.xd fs)) a (exg a C d)) s := by
  obtain ⟨mA, hns, rel⟩ := exd_at I.hok ed
  obtain ⟨t1, ho⟩ := exo_at I.hok ea
  obtain ⟨hp, g, dr, t, os⟩ := s
  have J := I.write (h' := hp) (t' := t) (x := d) (e := d) (o := .xd fs) (by rw [ed]; exact True.intro) (.inl rfl) (fun _ _ _ z => z) (by obtain ⟨o, _, _, e, _⟩ := hns; exact ⟨o, e⟩) ⟨mA, hns, rel⟩
  have ea' : upd H d (.xd fs) a = some (exo a C (some d)) := by rw [upd_ne (Ne.symm ne)]; exact ea
  exact J.write (h' := hp) (t' := t) (x := a) (e := a) (o := exg a C d) (by rw [ea']; exact True.intro) (.inl rfl) (fun _ _ _ z => z) ⟨_, ho⟩ ⟨⟨_, _, ho, rfl, rfl, rfl⟩, ⟨_, ho⟩, fun h1 h2 ⟨o, vs, z1, z2⟩ k => ⟨o, vs, k _ z1, z2⟩⟩
theorem run_makeX {k m : Nat} {fl : FL} {C fI : Addr} {fd : FuncData} {ps : List Str} {Q : VK} {us os : List Value} {kw : List (Str × Value)} {vs : List V} (T : XC X.K C fI) (F : FnOk X.prog X.w X.K X.mg X.base (L2.CX X.prog X.w) k fI fd ps (spX X.K C fI m fl)) (hr : Room (k + 1) X.A) (I : Inv X pins σ H s)
    (no : ∀ p ∈ fl, PySem.W.findIn X.K (.ref C) p.1 = some none) (r : Vals vs us) (hl : vs.length = m) (hz : os.length ≤ sizeLine) (hb : ∀ (s : Shared) (a : Addr), X.K.In s.heap → BindsTo s fd ⟨.ref a :: os, kw⟩ (ps.zip (.ref a :: us)))
    (h : ∀ a d, H a = none → H d = none → d ≠ a → Q (.ref a) (upd (upd H d (.xd (fsV fl vs))) a (exg a C d))) : wpAny (model X.prog X.w) X.A (call (.ref C) os kw) (EP X pins σ Q) X.xe s := by
  obtain ⟨B, newId, initId, bmB, FB, SF, q, ov⟩ := T.ex
  obtain ⟨nm, N', qn, bs, bm, hdct, sn, sub, ab, col, dd, k0, k1, k2, k3, k5, hC, hT⟩ := PySem.W.excInit_of I.kIn q
  obtain ⟨hp, g, dr, tk, ost⟩ := s
  have hsz : hp.objs.size ≤ hp.objs.size + 1 := Nat.le_succ _
  have hn : H (hp.objs.size + 1) = none := I.hok.fresh hsz
  have kk : ∀ b o, hp.get? b = some o → ((hp.push (PySem.W.kdv_tup os)).push (PySem.HandSPX.excO C hp.objs.size)).get? b = some o := fun b o e => Heap.get?_push_of_some _ (Heap.get?_push_of_some _ e)
  have hget : ((hp.push (PySem.W.kdv_tup os)).push (PySem.HandSPX.excO C hp.objs.size)).get? (hp.objs.size + 1) = some (PySem.HandSPX.excO C hp.objs.size) := by heap_get
  have I2 : Inv X pins σ (upd H (hp.objs.size + 1) (exo (hp.objs.size + 1) C none)) ⟨(hp.push (PySem.W.kdv_tup os)).push (PySem.HandSPX.excO C hp.objs.size), g, dr, tk, ost⟩ :=
    I.laid (t' := tk) (a := hp.objs.size + 1) (o := exo (hp.objs.size + 1) C none) (h' := (hp.push (PySem.W.kdv_tup os)).push (PySem.HandSPX.excO C hp.objs.size)) kk hsz (exo_ok hget)
  have r2 : Vals (V.ref (hp.objs.size + 1) :: vs) (Value.ref (hp.objs.size + 1) :: us) := .cons rfl r
  have hsp : spX X.K C fI m fl (V.ref (hp.objs.size + 1) :: vs) (upd H (hp.objs.size + 1) (exo (hp.objs.size + 1) C none))
      (fun v H2 => v = .non ∧ ∃ d, d ≠ hp.objs.size + 1 ∧ H d = none ∧ H2 (hp.objs.size + 1) = some (exo (hp.objs.size + 1) C (some d)) ∧ H2 d = some (exd d (fsV fl vs)) ∧ ∀ b, b ≠ hp.objs.size + 1 → b ≠ d → H2 b = H b) (fun _ _ _ => False) :=
    ⟨_, vs, rfl, hl, T, no, upd_same, fun H' dx ne n e1 e2 e3 => ⟨rfl, dx, ne, by rw [upd_ne ne] at n; exact n, e1, e2, fun b h1 h2 => by rw [e3 b h1 h2, upd_ne h1]⟩⟩
  refine wpAny_call (PySem.BmX4.call_ownK FB hT hC (PySem.W.looks_findIn I.kIn T.iC) (fun self => PySem.W.bind_fn I.kIn self T.tI) hz
    (codeAny_mono (F.run _ X.stack _ _ ⟨Value.ref (hp.objs.size + 1) :: os, kw⟩ (Value.ref (hp.objs.size + 1) :: us) _ _ (fun _ _ _ => False) (hr.make C os kw) (I2.env0.make C os kw) (hb _ _ I2.kIn) r2 hsp) fun r s' hq' => ?_))
  cases r with
  | error er =>
    obtain ⟨_, _, _, _, _, _, _, _, _, _, _, _, z⟩ := hq'
    exact z.elim
  | ok fl' =>
    cases fl' with
    | ret u =>
      obtain ⟨v, H', I3, rv, ev, d, ne, nd, e1, e2, e3⟩ := I2.after hq'
      subst ev
      refine ⟨rv, ⟨V.ref (hp.objs.size + 1), _, retrack I3 e1 e2 ne, rfl, ?_⟩⟩
      have eH : upd (upd H' d (.xd (fsV fl vs))) (hp.objs.size + 1) (exg (hp.objs.size + 1) C d) = upd (upd H d (.xd (fsV fl vs))) (hp.objs.size + 1) (exg (hp.objs.size + 1) C d) := by
        funext b
        by_cases h1 : b = hp.objs.size + 1
        · rw [h1, upd_same, upd_same]
        · rw [upd_ne h1, upd_ne h1]
          by_cases h2 : b = d
          · rw [h2, upd_same, upd_same]
          · rw [upd_ne h2, upd_ne h2, e3 b h1 h2]
      rw [eH]
      exact h _ d hn nd ne
    | next => exact False.elim hq'
    | brk => exact False.elim hq'
    | cont => exact False.elim hq'
end
end Bm

/-! Own exceptions as values: fields, isinstance, their making. -/
namespace PySem.W
open PySem PySem.Spec PySem.Calls PyProof.Rows
section
variable {prog : Program} {w : World} {A : Around} {E : Value → Shared → Prop} {s : Shared} {K : Frag} {x D : Addr} {ox : Obj} {od : Option Obj}
theorem findObj_dataX {C : Addr} {name : Str} {a g : Value} (hc : (clsIn K C).isSome = true) (ha : findIn K (.ref C) name = some (some a)) (hg : specialIn K a "__get__" = some (some g)) (ht : takesIn K a = some true) : findObj K C od name = some (.bind g a) := by
  obtain ⟨cd, hc⟩ := Option.isSome_iff_exists.mp hc
  unfold findObj
  rw [hc, Option.bind_some, ha, Option.bind_some]
  simp [hg, ht]
theorem kin_classX {Q : Option Value → Shared → Prop} (hga : findIn K (.ref D) "__getattribute__" = some (some (.builtin "BaseException.__getattribute__"))) (hgt : findIn K (.ref D) "__getattr__" = some none) (hsub : subIn K (.ref D) (.type "BaseException") = some true)
    (hdct : hasDictIn K D = true) (ha : findIn K (.ref D) "__class__" = some (some (.builtin "object.__class__")))
    (hn : specialIn K (.builtin "object.__class__") "__get__" = some (some (.builtin "getset_descriptor.__get__"))) (htk : takesIn K (.builtin "object.__class__") = some true) (hm : mroIn K D (.type "object") = some true)
    (X : K.In s.heap) (I : InstAt s.heap x ox D od) (h : Q (some (.ref D)) { s with toks := s.toks + 1 }) : wpAny (model prog w) A (getAttr? (.ref x) "__class__") Q E s := by
  have hf : findObj K D od "__class__" = some (.bind (.builtin "getset_descriptor.__get__") (.builtin "object.__class__")) := findObj_dataX (by obtain ⟨cd, hc, _⟩ := any_some hdct; rw [hc]; rfl) ha hn htk
  obtain ⟨hp, g, d, t, os⟩ := s
  have L0 := I.type (M := model prog w)
  have L1 := looks_findIn (M := model prog w) X hga
  have L2 := looks_findIn (M := model prog w) X hgt
  have L3 := looks_find (M := model prog w) X I hf
  have sub : Looks (model prog w) hp (isInstance (.ref x) (.type "BaseException")) true := L0.andThen (looks_subIn X hsub)
  have hx0 : (false && onTheHeap (Value.builtin "BaseException.__getattribute__")) = false := rfl
  have hx2 : (Value.builtin "BaseException.__getattribute__" == Value.builtin "object.__getattribute__") = false := by decide +kernel
  have hx1 : (onTheHeap (Value.ref D) && Value.builtin "BaseException.__getattribute__" == Value.builtin "object.__getattribute__") = false := by rw [hx2]; rfl
  unfold getAttr? getAttrBy? getAttrBy
  refine wpAny_bind (wpAny_mkText (wpAny_bind (wpAny_attempt (wpAny_holding (wpAny_bind (L0.at (wpAny_bind (L1.at ?_))))))))
  show wpAny _ _ (if (onTheHeap (Value.ref D) && Value.builtin "BaseException.__getattribute__" == Value.builtin "object.__getattribute__") = true then _ else _) _ _ _
  rw [hx1, if_neg Bool.false_ne_true]
  unfold getAttrByItsOwn hookBefore
  refine wpAny_bind ?_
  rw [if_pos (show onTheHeap (Value.ref D) = true from rfl)]
  refine L2.at ?_
  refine wpAny_bind (wpAny_attempt (wpAny_holding ?_))
  unfold callGetattribute
  rw [hx0, if_neg Bool.false_ne_true]
  unfold boundAndCalled
  rw [PySem.F.excAttr_ValueError.ga.bind (.ref x)]
  refine wpAny_bind (wpAny_pure ?_)
  show wpAny _ _ (call (.builtin "BaseException.__getattribute__") [.ref x, .str "__class__" t]) _ _ _
  refine wpAny_call (codeAny_call_builtin PySem.F.excAttr_ValueError.ga.plain PySem.F.entry_bexc_ga ?_)
  refine @check_slot (model prog w) _ _ ⟨hp, g, d, t + 1, os⟩ "BaseException.__getattribute__" "BaseException" "__getattribute__" (.ref x) [.str "__class__" t] [] _ (by decide +kernel) (by decide +kernel) sub (PySem.F.args_bexc_ga (.ref x) (.str "__class__" t)) ?_
  unfold Builtin.«object.__getattribute__»
  refine wpAny_bind (wpAny_of_eq (a := ((Value.ref x : Value), [Value.str "__class__" t])) (by first | rfl | (simp only [slotArgs]; rfl)) ?_)
  refine wpAny_bind (wpAny_pure (wpAny_bind (L0.at (wpAny_bind (L3.at ?_)))))
  show wpAny _ _ (holding [Value.builtin "object.__class__"] (call (.builtin "getset_descriptor.__get__") [.builtin "object.__class__", .ref x, .ref D]) >>= ret) _ _ _
  refine wpAny_bind (wpAny_holding (wpAny_call (class_get (s := ⟨hp, g, d, t + 1, os⟩) (ox := ox) (od := od) X I hm ?_)))
  refine wpAny_pure ?_
  show wpAny _ _ (handedOut (.ref D)) _ _ _
  rw [handedOut_of (v := .ref D) rfl]
  first
    | exact wpAny_pure (wpAny_pure h)
    | exact wpAny_pure h
    | exact wpAny_pure (wpAny_bind (wpAny_pure (wpAny_pure h)))
theorem kitx_excX (hga : findIn K (.ref D) "__getattribute__" = some (some (.builtin "BaseException.__getattribute__"))) (hgt : findIn K (.ref D) "__getattr__" = some none) (hsub : subIn K (.ref D) (.type "BaseException") = some true) (hdct : hasDictIn K D = true) (ha : findIn K (.ref D) "__class__" = some (some (.builtin "object.__class__")))
    (hn : specialIn K (.builtin "object.__class__") "__get__" = some (some (.builtin "getset_descriptor.__get__"))) (htk : takesIn K (.builtin "object.__class__") = some true) (hm : mroIn K D (.type "object") = some true) :
    KitX K (.ref x) (.ref D) (fun h => InstAt h x ox D od) where
  ty := fun _ _ _ I => I.type
  it := fun _ _ X _ => by
    obtain ⟨cdD, hcD, _⟩ := any_some hdct
    unfold clsIn at hcD
    split at hcD
    · rename_i c' d' cd' sl' ho
      intro A' Q' E' s' k q
      unfold isType loadHead
      exact wpAny_bind (wpAny_loadPart (k _ _ (X _ _ ho)) (wpAny_pure q))
    · cases hcD
  ne := fun h tp dd its n sl X htp => by
    obtain ⟨cdD, hcD, _⟩ := any_some hdct
    refine Bool.eq_false_iff.mpr fun q => ?_
    have e : D = tp := Value.ref.inj (beq_iff_eq.mp q)
    subst e
    unfold clsIn at hcD
    split at hcD
    · rename_i c' d' cd' sl' ho
      have z := (X _ _ ho).symm.trans htp
      cases z
    · cases hcD
  ca := fun X I k => kin_classX hga hgt hsub hdct ha hn htk hm X I k

end
end PySem.W
namespace Bm
open PySem PySem.Spec PyProof.Rows L2 BmX4
section
variable {X : Cx} {pins : List (Addr × Obj)} {σ : L2.St} {H : Hp} {s : Shared}
theorem exg_at {a C dx : Addr} {fs : List (Str × V)} (I : Inv X pins σ H s) (ea : H a = some (exg a C dx)) (ed : H dx = some (.xd fs)) :
    ∃ (o od : Obj) (mA : Str → Option Value), PySem.W.InstAt s.heap a o C (some od) ∧ s.heap.Ns1 dx mA ∧ (∀ f, RelO (fs.lookup f) (mA f)) ∧ ∀ y, PySem.W.lookIn y od = some (mA y) := by
  have h1 : ObjOk X.prog X.w H s.heap a (.ext fun h => ∃ (o : Obj) (vs : Array Value), h.get? a = some o ∧ o.cls = .ref C ∧ o.dict = some dx ∧ o.data = .fields vs) := I.hok a _ ea
  obtain ⟨⟨o, vs, e1, e2, e3, e4⟩, _⟩ := h1
  have h2 : ObjOk X.prog X.w H s.heap dx (.xd fs) := I.hok dx _ ed
  obtain ⟨mA, hns, rel⟩ := h2
  obtain ⟨od, ho, hl⟩ := lookIn_ns hns
  exact ⟨o, od, mA, ⟨e1, e2, by unfold PySem.W.notCls; rw [e4] <;> rfl, by rw [e3]; exact ho⟩, hns, rel, hl⟩
/-- e.f, e an exception as a value -/
def tXg (K : PySem.W.Frag) (f : Str) (te : TE) : TE := fun σ H Q => te σ H fun x H1 => ∃ (a C dx : Addr) (fs : List (Str × V)) (v : V), x = .ref a ∧ H1 a = some (exg a C dx) ∧ H1 dx = some (.xd fs) ∧ XfC K C ∧ PySem.W.findIn K (.ref C) f = some none ∧ fs.lookup f = some v ∧ Q v H1
theorem pe_xg {e : Expr} {te : TE} {pos : Pos} {n : Str} (he : PE X e te) (hb : attributeBase e n X.env (eval e X.env) = eval e X.env := by rfl) : PE X (.Attribute e n pos) (tXg X.K n te) := by
  refine ⟨fun pins s σ H Q I h => ?_⟩
  refine attr_of hb (thn (he.run pins s σ H _ I h) fun u s1 hh => ?_)
  obtain ⟨x, H1, I1, rx, a, C, dx, fs, v, ex, ea, ed, T, hno, l, q⟩ := hh
  subst ex
  obtain rfl : u = Value.ref a := rx
  obtain ⟨o, od, mA, J, hns, rel, hl⟩ := exg_at I1 ea ed
  obtain ⟨u, hu, ru⟩ := RelO.some_of (v := v) (o := mA n) (by rw [← l]; exact rel n)
  exact PySem.HandSPX.exc_get I1.kIn J T.ga T.gg T.exC (PySem.W.findObj_own T.hdC hno rfl (by rw [hl, hu])) (handed_of ru) ⟨v, H1, I1.tok _, ru, q⟩
/-- isinstance(e, c), e an exception as a value -/
def rIsX (K : PySem.W.Frag) : List V → Hp → VK → Prop := fun xs H Q => ∃ (a C dx : Addr) (fs : List (Str × V)) (c : V) (cv : Value) (b : Bool), xs = [.ref a, c] ∧ H a = some (exg a C dx) ∧ H dx = some (.xd fs) ∧ ExcC K C ∧ ClsV c cv ∧ PySem.W.kitOne K (.ref C) cv = some b ∧ Q (.bl b) H
theorem call_isX : CallR X (.builtin "isinstance") (rIsX X.K) := by
  intro pins s σ H xs us Q I r h
  obtain ⟨a, C, dx, fs, c, cv, b, rfl, ea, ed, Z, k, e, q⟩ := h
  obtain ⟨u1, u2, rfl, r1, r2⟩ := vals2 r
  obtain rfl : u1 = Value.ref a := r1
  have e2 := k.eq r2
  subst e2
  obtain ⟨o, od, mA, J, hns, rel, hl⟩ := exg_at I ea ed
  exact PySem.W.kia_one (PySem.W.kitx_excX Z.hg Z.hk Z.hs Z.hd Z.ha Z.hn Z.ht Z.hm) I.kIn J e (fun z => nomatch z) fun tk => ⟨.bl b, H, I.tok tk, rfl, q⟩
end
/-- what isinstance answers of the classes in cs -/
structure XTab (K : PySem.W.Frag) (cm : Str → Addr) (cs : List Str) (tab : Str → Kd → Option Bool) : Prop where
  ex : ∀ c ∈ cs, ExcC K (cm c)
  one : ∀ c k b, tab c k = some b → c ∈ cs ∧ PySem.W.kitOne K (.ref (cm c)) (kdV cm k) = some b
def isxT (tab : Str → Kd → Option Bool) : List T → Option T
  | [.exn c _ _, k] => (match tgt k with
    | some k => (match tab c k with
      | some b => some (.bl b)
      | none => none)
    | none => none)
  | _ => none
theorem inv_exn {K : PySem.W.Frag} {cm : Str → Addr} {I : Hp} {c : Str} {ns : List Str} {ts : List T} {v : V} (h : RepT K cm I (.exn c ns ts) v) : ∃ a dx xs, v = .ref a ∧ (I a = some (exg a (cm c) dx) ∧ I dx = some (.xd (ns.zip xs))) ∧ ns.length = xs.length ∧ RepTL K cm I ts xs := by
  unfold RepT at h; exact h
theorem tc_isx {K : PySem.W.Frag} {cm : Str → Addr} {cs : List Str} {tab : Str → Kd → Option Bool} (tk : XTab K cm cs tab) : TCall K cm (rIsX K) (isxT tab) := by
  intro I H ts c vs Q s rr e al
  unfold isxT at e
  split at e
  · rename_i cl ns us k
    split at e
    · rename_i k' e1
      split at e
      · rename_i b e2
        cases e
        obtain ⟨v, w, rfl, h1, h2⟩ := inv_2 rr
        obtain ⟨a, dx, xs, rfl, ⟨h3, h4⟩, _, _⟩ := inv_exn h1
        obtain ⟨hc, hk⟩ := tk.one _ _ _ e2
        exact ⟨a, _, dx, _, w, _, b, rfl, s _ _ h3, s _ _ h4, tk.ex _ hc, tgt_ok h2 e1, hk, al.val s rep_bl⟩
      · cases e
    · cases e
  · cases e
theorem de_isx {X : Cx} {W : WX} {a b : Expr} {fs : Fn (List D)} {cs : List Str} {tab : Str → Kd → Option Bool} {p pos : Pos} (tk : XTab X.K (cmOf X.mg) cs tab) (hg : Gl X "isinstance") (hm : X.mg "isinstance" = none) (ha : DA X W [a, b] fs)
    (he : starEach [a, b] X.env = (false, eval a X.env) :: starEach [b] X.env := by rfl) (hpl : (backTo pos (starEach [b] X.env)).any (·.1) = false := by rfl) : DE X W (.Call (.Name "isinstance" p) [a, b] [] pos) (eCB (gP (isxT tab)) fs) :=
  de_callB call_isX (tc_isx tk).d hg hm boot_isinstance ha (he := he) (hpl := hpl)
/-- a field of an exception of one of the classes cs -/
def gXf (cs : List Str) (f : Str) (d : D) (M : List MO) : Res D := match d with
  | .t (.exn c ns ts) => if c ∈ cs then (match fldOf f ns ts with
    | some t => .ok (.t t) M
    | none => .fail) else .fail
  | _ => .fail
def eXf (cs : List Str) (f : Str) (fo : FE) : FE := fun sl M => (fo sl M).bind (gXf cs f)
/-- what a class's fields may be called -/
structure XFs (K : PySem.W.Frag) (cm : Str → Addr) (cs : List Str) (f : Str) : Prop where
  ok : ∀ c ∈ cs, XfC K (cm c)
  no : ∀ c ∈ cs, PySem.W.findIn K (.ref (cm c)) f = some none
section
variable {X : Cx} {W : WX} {o e : Expr} {es : List Expr} {fo : FE} {fs : Fn (List D)} {f : Str} {k : Nat} {p pos : Pos}
theorem de_xf {cs : List Str} (hc : XFs X.K (cmOf X.mg) cs f) (ho : DE X W o fo) (hb : attributeBase o f X.env (eval o X.env) = eval o X.env := by rfl) : DE X W (.Attribute o f pos) (eXf cs f fo) :=
  (pe_xg ho hb).imp fun σ H Q ⟨μ, I, sl, M, s, rs, p⟩ => ⟨μ, I, sl, M, s, rs, (Post.bind (R := RD X.K (cmOf X.mg)) p).imp fun x H1 ⟨μ1, I1, M1, d, st, ra, p1⟩ => by
    unfold gXf at p1
    split at p1
    · rename_i c' ns ts
      split at p1
      · rename_i hcc
        split at p1
        · rename_i t ht
          obtain ⟨a, dx, xs, rfl, ⟨h3, h4⟩, h5, h6⟩ := inv_exn (show RepT X.K (cmOf X.mg) I1 (.exn c' ns ts) x from ra)
          obtain ⟨y, h7, h8⟩ := fld_rep h6 ht
          exact ⟨a, _, dx, _, y, rfl, st.sim.sub _ _ h3, st.sim.sub _ _ h4, hc.ok _ hcc, hc.no _ hcc, h7, p1 μ1 I1 H1 y (Step.refl st.sim) h8⟩
        · exact p1.elim
      · exact p1.elim
    · exact p1.elim⟩
/-- C(..), C an exception class -/
def gMkX (c : Str) (m : Nat) (fl : FL) (π : List Nat) (ds : List D) (M : List MO) : Res D := match frzL M ds with
  | some (ts, M2) => if ts.length = m then .ok (.t (.exn c (fl.map (·.1)) (fl.map fun p => p.2.tree (perm π ts)))) M2 else .fail
  | none => .fail
def eMkX (c : Str) (m : Nat) (fl : FL) (π : List Nat) (fs : Fn (List D)) : FE := fun sl M => (fs sl M).bind (gMkX c m fl π)
theorem mkx_post {K : PySem.W.Frag} {cm : Str → Addr} {μ : Nat → Addr} {I H : Hp} {M : List MO} {ds : List D} {vs : List V} {Wx : XK} {Q : VK} {c : Str} {m : Nat} {fl : FL} {π : List Nat} (s : Sim K cm μ I M H) (ra : RepDL K cm μ I M.length ds vs) (hπ : π.length = m ∧ ∀ i ∈ π, i < m) (hfl : fl.all (fun p => p.2.okB m) = true)
    (p : Post K cm (RD K cm) μ I M H Wx (gMkX c m fl π ds M) Q) : vs.length = m ∧ ∀ a d, H a = none → H d = none → d ≠ a → Q (.ref a) (upd (upd H d (.xd (fsV fl (perm π vs)))) a (exg a (cm c) d)) := by
  unfold gMkX at p
  split at p
  · rename_i ts M2 e1
    obtain ⟨I2, st2, r2⟩ := frzL_ok s ra e1
    have p := p.step st2
    split at p
    · rename_i hl
      refine ⟨by rw [← r2.length]; exact hl, fun a d na nd ne => ?_⟩
      have ex : Ex I2 H := st2.sim.sub
      have s1 : StepT I2 H (upd I2 d (.xd (fsV fl (perm π vs)))) (upd H d (.xd (fsV fl (perm π vs)))) := StepT.new ex nd
      have na1 : upd H d (.xd (fsV fl (perm π vs))) a = none := by rw [upd_ne (Ne.symm ne)]; exact na
      have s2 := s1.trans (StepT.new (o := exg a (cm c) d) s1.sub na1)
      refine p μ _ _ (.ref a) (StepT.step s2 st2.sim) ?_
      show RepT K cm _ (.exn c (fl.map (·.1)) (fl.map fun p => p.2.tree (perm π ts))) (.ref a)
      unfold RepT
      have hπt : ∀ i ∈ π, i < ts.length := fun i hi => by rw [hl]; exact hπ.2 i hi
      refine ⟨a, d, fl.map (fun p => p.2.get (perm π vs)), rfl, ⟨upd_same, ?_⟩, by simp, RepTL.mono s2.ii _ _ (fl_rep (perm_rep r2 hπt) fl (by rw [perm_len hπt, hπ.1]; exact hfl))⟩
      rw [upd_ne ne, upd_same, fsV_zip]
    · exact p.elim
  · exact p.elim
variable {c x : Str} {m : Nat} {fl : FL} {fI : Addr} {fd : FuncData} {ps ks : List Str} {π : List Nat} {kws : List Keyword}
structure XMk (K : PySem.W.Frag) (C fI : Addr) (fl : FL) (m : Nat) (π : List Nat) : Prop where
  T : XC K C fI
  no : ∀ p ∈ fl, PySem.W.findIn K (.ref C) p.1 = some none
  pl : π.length = m ∧ ∀ i ∈ π, i < m
  fl : fl.all (fun p => p.2.okB m) = true
theorem perm_id {α : Type} : ∀ (l : List α), perm (List.range l.length) l = l
  | [] => rfl
  | a :: l => by
    have ih := perm_id l
    unfold perm at ih ⊢
    have e : List.filterMap (fun i => (a :: l)[i]?) (List.map Nat.succ (List.range l.length)) = List.filterMap (fun i => l[i]?) (List.range l.length) := by
      rw [List.filterMap_map]
      rfl
    rw [List.length_cons, List.range_succ_eq_map]
    show a :: List.filterMap (fun i => (a :: l)[i]?) (List.map Nat.succ (List.range l.length)) = a :: l
    rw [e, ih]
theorem de_mkX (Mk0 : XMk X.K (cmOf X.mg c) fI fl m (List.range m)) (F : FnOk X.prog X.w X.K X.mg X.base (L2.CX X.prog X.w) k fI fd ps (spX X.K (cmOf X.mg c) fI m fl)) (hr : Room (k + 1) X.A) (hbd : Binds X.K fd ps []) (hps : m + 1 = ps.length) (hms : m ≤ 100) (hg : Gl X x) (hm : X.mg x = some (.ref (cmOf X.mg c))) (ha : DA X W (e :: es) fs) (hdb : (x == ("__debug__" : Str)) = false := by decide)
    (he : starEach (e :: es) X.env = (false, eval e X.env) :: starEach es X.env := by rfl) (hpl : (backTo pos (starEach es X.env)).any (·.1) = false := by rfl) : DE X W (.Call (.Name x p) (e :: es) [] pos) (eMkX c m fl (List.range m) fs) := by
  refine ⟨fun pins s σ H Q I h => ?_⟩
  obtain ⟨μ, I0, sl, M, s0, rs, p1⟩ := h
  refine wpAny_Call_Name_kw (ld_glob I hg hm ?_ hdb)
  refine PySem.W.callWith_K (h₀ := X.base) I.ok.mod.kin Mk0.T.kC (thn (ha.run pos pins s σ H _ I ⟨μ, I0, sl, M, s0, rs, Post.bind (R := RL X.K (cmOf X.mg)) p1⟩) fun us s1 ⟨vs, H1, I1, r, μ1, I01, M1, ds, st, ra, p2⟩ => ⟨I1.kIn, ?_⟩) he hpl
  obtain ⟨hl, q⟩ := mkx_post st.sim ra Mk0.pl Mk0.fl p2
  have hu : us.length = m := by rw [← r.length]; exact hl
  rw [show perm (List.range m) vs = vs by rw [← hl]; exact perm_id vs] at q
  exact run_makeX (os := us) (kw := []) Mk0.T F hr I1 Mk0.no r hl (by rw [hu, sizeLine_eq]; omega) (fun s a kin => by
    have z := hbd s (.ref a :: us) kin (by rw [List.append_nil, List.length_cons, hu, hps])
    rwa [List.append_nil] at z) q
theorem de_mkX0 (Mk0 : XMk X.K (cmOf X.mg c) fI fl 0 (List.range 0)) (F : FnOk X.prog X.w X.K X.mg X.base (L2.CX X.prog X.w) k fI fd ps (spX X.K (cmOf X.mg c) fI 0 fl)) (hr : Room (k + 1) X.A) (hbd : Binds X.K fd ps []) (hps : 1 = ps.length) (hg : Gl X x) (hm : X.mg x = some (.ref (cmOf X.mg c))) (hdb : (x == ("__debug__" : Str)) = false := by decide) : DE X W (.Call (.Name x p) [] [] pos) (eMkX c 0 fl (List.range 0) aNil) := by
  refine ⟨fun pins s σ H Q I h => ?_⟩
  obtain ⟨μ, I0, sl, M, s0, rs, p1⟩ := h
  refine wpAny_Call_Name_kw (ld_glob I hg hm ?_ hdb)
  refine PySem.W.callWith_K0 (K := X.K) (s := s) I.kIn Mk0.T.kC ?_
  obtain ⟨hl, q⟩ := mkx_post (ds := []) (vs := []) s0 RepDL.nil Mk0.pl Mk0.fl p1
  exact run_makeX (os := []) (us := []) (vs := []) (kw := []) Mk0.T F hr I Mk0.no .nil rfl (by rw [sizeLine_eq]; simp) (fun s a kin => by
    have z := hbd s [.ref a] kin (by rw [List.append_nil, ← hps]; rfl)
    rwa [List.append_nil] at z) q
theorem de_mkXK (Mk0 : XMk X.K (cmOf X.mg c) fI fl m π) (F : FnOk X.prog X.w X.K X.mg X.base (L2.CX X.prog X.w) k fI fd ps (spX X.K (cmOf X.mg c) fI m fl)) (hr : Room (k + 1) X.A) (hb : KwB X.K fd 1 ks ps π) (hn : m = ks.length) (hg : Gl X x) (hm : X.mg x = some (.ref (cmOf X.mg c))) (ha : DK X W kws fs) (hdb : (x == ("__debug__" : Str)) = false := by decide)
    (hall : (backToKw pos (keywordEach kws X.env)).all (·.1.isSome) = true := by rfl) (hks : (backToKw pos (keywordEach kws X.env)).filterMap (·.1) = ks := by rfl)
    (hpl : ((backTo pos (starEach [] X.env)).any (·.1) || (backToKw pos (keywordEach kws X.env)).any (·.1.isNone)) = false := by rfl) : DE X W (.Call (.Name x p) [] kws pos) (eMkX c m fl π fs) := by
  refine ⟨fun pins s σ H Q I h => ?_⟩
  obtain ⟨μ, I0, sl, M, s0, rs, p1⟩ := h
  refine wpAny_Call_Name_kw (ld_glob I hg hm ?_ hdb)
  refine PySem.W.callWith_KW0 (first := []) (h₀ := X.base) I.ok.mod.kin Mk0.T.kC hall (thn (ha.run pos pins s σ H _ I ⟨μ, I0, sl, M, s0, rs, Post.bind (R := RL X.K (cmOf X.mg)) p1⟩) fun ws s1 ⟨vs, H1, I1, r, μ1, I01, M1, ds, st, ra, p2⟩ => ⟨I1.kIn, ?_⟩) hpl
  rw [hks]
  obtain ⟨hl, q⟩ := mkx_post st.sim ra Mk0.pl Mk0.fl p2
  have hu : ws.length = m := by rw [← r.length]; exact hl
  have hπv : ∀ i ∈ π, i < vs.length := fun i hi => by rw [hl]; exact Mk0.pl.2 i hi
  exact run_makeX (os := []) Mk0.T F hr I1 Mk0.no (perm_vals r hπv) (by rw [perm_len hπv]; exact Mk0.pl.1) (by rw [sizeLine_eq]; simp) (fun s a kin => hb s [.ref a] ws kin rfl (by rw [hu, hn])) q
end
end Bm
namespace Bm
open PySem PySem.Spec PyProof.Rows L2 BmX4
theorem boot_ValueError : bootBuiltins "ValueError" = some (.type "ValueError") := PyProof.Rows.Boot.«ValueError»
theorem boot_LookupError : bootBuiltins "LookupError" = some (.type "LookupError") := PyProof.Rows.Boot.«LookupError»
theorem boot_IndexError : bootBuiltins "IndexError" = some (.type "IndexError") := PyProof.Rows.Boot.«IndexError»
/-- the exception classes of a program: their names, the base of each, the built-in classes above -/
abbrev XB := List (Str × Option Str × List String)
def xtab (ds : List Str) (cs : XB) (c : Str) : Kd → Option Bool
  | .inr d => (match cs.lookup c with
    | some (p, _) => if d ∈ ds ∧ c ∈ ds ∧ (∀ q, p = some q → q ∈ ds) then some (decide (d = c) || decide (some d = p)) else none
    | none => none)
  | .inl t => (match cs.lookup c with
    | some (_, bs) => if PySem.W.kitMeta t = true then some (bs.contains t) else none
    | none => none)
def mroX (cm : Str → Addr) (c : Str) (p : Option Str) (bs : List String) : List Value := (.ref (cm c) :: (match p with
  | some q => [.ref (cm q)]
  | none => [])) ++ bs.map Value.type
structure XAll (K : PySem.W.Frag) (cm : Str → Addr) (ds : List Str) (cs : XB) : Prop where
  nd : (ds.map cm).Nodup
  is : ∀ d ∈ ds, (PySem.W.clsIn K (cm d)).isSome = true ∧ PySem.W.typeIn K (.ref (cm d)) = some (.type "type")
  mro : ∀ e ∈ cs, ∃ cd, PySem.W.clsIn K (cm e.1) = some cd ∧ cd.mro = mroX cm e.1 e.2.1 e.2.2
  ex : ∀ e ∈ cs, ExcC K (cm e.1)
theorem nd_inj {α β : Type} {f : α → β} : ∀ {l : List α}, (l.map f).Nodup → ∀ {a b : α}, a ∈ l → b ∈ l → f a = f b → a = b
  | [], _, a, b, h, _, _ => by cases h
  | x :: l, nd, a, b, ha, hb, e => by
    rw [List.map_cons, List.nodup_cons] at nd
    rcases List.mem_cons.mp ha with h1 | h1
    · rcases List.mem_cons.mp hb with h2 | h2
      · rw [h1, h2]
      · subst h1
        exact absurd (by rw [e]; exact List.mem_map.mpr ⟨b, h2, rfl⟩) nd.1
    · rcases List.mem_cons.mp hb with h2 | h2
      · subst h2
        exact absurd (by rw [← e]; exact List.mem_map.mpr ⟨a, h1, rfl⟩) nd.1
      · exact nd_inj nd.2 h1 h2 e
theorem mem_lookup {α β : Type} [BEq α] [LawfulBEq α] {l : List (α × β)} {a : α} {b : β} (h : l.lookup a = some b) : (a, b) ∈ l := by
  induction l with
  | nil => cases h
  | cons p l ih =>
    obtain ⟨x, y⟩ := p
    rw [List.lookup_cons] at h
    split at h
    · rename_i q
      cases h
      rw [eq_of_beq q]
      exact List.mem_cons_self
    · exact List.mem_cons_of_mem _ (ih h)
theorem types_ref (bs : List String) (D : Addr) : (bs.map Value.type).contains (.ref D) = false := by
  rw [Bool.eq_false_iff]
  intro q
  obtain ⟨n, _, hn⟩ := List.mem_map.mp (List.contains_iff_mem.mp q)
  cases hn
theorem types_type (bs : List String) (t : String) : (bs.map Value.type).contains (.type t) = bs.contains t := by
  induction bs with
  | nil => rfl
  | cons b bs ih =>
    have e : (Value.type t == Value.type b) = (t == b) := by
      by_cases h : t = b
      · subst h; rw [beq_self_eq_true, beq_self_eq_true]
      · have h' : Value.type t ≠ Value.type b := fun z => h (Value.type.inj z)
        rw [beq_eq_false_iff_ne.mpr h, beq_eq_false_iff_ne.mpr h']
    rw [List.map_cons, List.contains_cons, List.contains_cons, ih, e]
theorem xtab_ok {K : PySem.W.Frag} {cm : Str → Addr} {ds : List Str} {cs : XB} (A : XAll K cm ds cs) : XTab K cm (cs.map (·.1)) (xtab ds cs) where
  ex := fun c hc => by
    obtain ⟨e, he, rfl⟩ := List.mem_map.mp hc
    exact A.ex e he
  one := fun c k b h => by
    have key : ∀ p bs, cs.lookup c = some (p, bs) → c ∈ cs.map (·.1) ∧ ∃ cd, PySem.W.clsIn K (cm c) = some cd ∧ cd.mro = mroX cm c p bs := fun p bs h => by
      have hm := mem_lookup h
      exact ⟨List.mem_map.mpr ⟨_, hm, rfl⟩, A.mro _ hm⟩
    have sub : ∀ p bs v, cs.lookup c = some (p, bs) → PySem.W.subIn K (.ref (cm c)) v = some ((mroX cm c p bs).contains v) := fun p bs v h => by
      obtain ⟨_, cd, e1, e2⟩ := key p bs h
      show PySem.W.mroIn K (cm c) v = _
      unfold PySem.W.mroIn
      rw [e1, Option.bind_some, e2]
      rfl
    cases k with
    | inl t =>
      simp only [xtab] at h
      split at h
      · rename_i p bs hl
        split at h
        · rename_i hk
          cases h
          refine ⟨(key p bs hl).1, ?_⟩
          show (if (Value.ref (cm c) == Value.type t) = true then some true else if PySem.W.kitMeta t = true then PySem.W.subIn K (.ref (cm c)) (.type t) else none) = some (bs.contains t)
          rw [if_neg (by simp), if_pos hk, sub p bs _ hl]
          unfold mroX
          rw [List.contains_eq_any_beq, List.any_append, ← List.contains_eq_any_beq, ← List.contains_eq_any_beq, types_type]
          cases p <;> simp
        · cases h
      · cases h
    | inr d =>
      simp only [xtab] at h
      split at h
      · rename_i p bs hl
        split at h
        · rename_i hk
          obtain ⟨hd, hc, hp⟩ := hk
          cases h
          refine ⟨(key p bs hl).1, ?_⟩
          obtain ⟨i1, i2⟩ := A.is d hd
          show (if (Value.ref (cm c) == Value.ref (cm d)) = true then some true else (if ((PySem.W.clsIn K (cm d)).isSome && PySem.W.typeIn K (.ref (cm d)) == some (.type "type")) = true then PySem.W.subIn K (.ref (cm c)) (.ref (cm d)) else none)) = _
          by_cases h1 : d = c
          · subst h1
            rw [if_pos (by simp), decide_eq_true rfl, Bool.true_or]
          · have n1 : cm c ≠ cm d := fun e => h1 (nd_inj A.nd hc hd e).symm
            rw [if_neg (by simpa using n1), i1, i2, if_pos (by simp), sub p bs _ hl, decide_eq_false h1, Bool.false_or]
            unfold mroX
            rw [List.contains_eq_any_beq, List.any_append, ← List.contains_eq_any_beq, ← List.contains_eq_any_beq, types_ref, Bool.or_false]
            cases p with
            | none => simp [Ne.symm n1]
            | some q =>
              have hq := hp q rfl
              by_cases h2 : d = q
              · subst h2
                simp
              · have n2 : cm d ≠ cm q := fun e => h2 (nd_inj A.nd hd hq e)
                simp [Ne.symm n1, n2, h2]
        · cases h
      · cases h
theorem all_n {α : Type} {P : α → Prop} : ∀ x ∈ ([] : List α), P x := fun x h => by cases h
theorem all_c {α : Type} {P : α → Prop} {a : α} {l : List α} (h : P a) (t : ∀ x ∈ l, P x) : ∀ x ∈ a :: l, P x := fun x hx => by
  rcases List.mem_cons.mp hx with rfl | hx
  · exact h
  · exact t x hx
end Bm

namespace K01
open PySem L2 PyProof.Rows Bm BmX4 BmLaw

def top (i : Nat) : Stmt := PySem.Challenge.pw_betweenmaps_k01_errors_by_themselves.main.body.getD i (.Pass ⟨0, 0, 0, 0⟩)
abbrev s_law_bag : Stmt := top 25
abbrev N_law_bag : List Str := ["_law_script", "_law_mixed", "_law_cell"]
abbrev s_InvalidName_init : Stmt := inClass (top 3) 0
abbrev N_InvalidName_init : List Str := ["self", "value"]
abbrev s_InvalidDeclaration_init : Stmt := inClass (top 4) 0
abbrev N_InvalidDeclaration_init : List Str := ["self", "at"]
abbrev s_DuplicateName_init : Stmt := inClass (top 5) 0
abbrev N_DuplicateName_init : List Str := ["self", "name"]
abbrev s_Unlike_init : Stmt := inClass (top 6) 0
abbrev N_Unlike_init : List Str := ["self", "low", "high"]
abbrev s_Ring_init : Stmt := inClass (top 7) 0
abbrev N_Ring_init : List Str := ["self", "low", "high"]
abbrev s_WrongSort_init : Stmt := inClass (top 8) 0
abbrev N_WrongSort_init : List Str := ["self", "path"]
abbrev s_UnlikeSorts_init : Stmt := inClass (top 9) 0
abbrev N_UnlikeSorts_init : List Str := ["self"]
abbrev s_InvalidText_init : Stmt := inClass (top 10) 0
abbrev N_InvalidText_init : List Str := ["self", "value"]
abbrev s_InvalidBoard_init : Stmt := inClass (top 11) 0
abbrev N_InvalidBoard_init : List Str := ["self", "name"]
abbrev s_TooDeep_init : Stmt := inClass (top 12) 0
abbrev N_TooDeep_init : List Str := ["self", "most"]
abbrev s_TooMany_init : Stmt := inClass (top 13) 0
abbrev N_TooMany_init : List Str := ["self", "most"]
abbrev s_NotBelow_init : Stmt := inClass (top 14) 0
abbrev N_NotBelow_init : List Str := ["self"]
abbrev s_InUse_init : Stmt := inClass (top 15) 0
abbrev N_InUse_init : List Str := ["self", "name"]
abbrev s_NotTold_init : Stmt := inClass (top 16) 0
abbrev N_NotTold_init : List Str := ["self", "low", "high"]
abbrev s_Full_init : Stmt := inClass (top 17) 0
abbrev N_Full_init : List Str := ["self", "limit"]
abbrev s_InvalidLimit_init : Stmt := inClass (top 18) 0
abbrev N_InvalidLimit_init : List Str := ["self", "value"]
abbrev s_InvalidCommand_init : Stmt := inClass (top 19) 0
abbrev N_InvalidCommand_init : List Str := ["self", "at"]
abbrev s_InvalidPage_init : Stmt := inClass (top 20) 0
abbrev N_InvalidPage_init : List Str := ["self", "line"]
abbrev s_law_errors_of : Stmt := top 30
abbrev N_law_errors_of : List Str := ["_law_a", "_law_b", "_law_found"]
abbrev s_NothingLeft_init : Stmt := inClass (top 23) 0
abbrev N_NothingLeft_init : List Str := ["self"]
abbrev s_law_draw : Stmt := top 26
abbrev N_law_draw : List Str := ["_law_bag_here", "_law_many", "_law_cell", "_law_digit", "_law_seed"]
abbrev s_law_of : Stmt := top 27
abbrev N_law_of : List Str := ["_law_bag_here", "_law_some"]
abbrev s_law_same : Stmt := top 28
abbrev N_law_same : List Str := ["_law_found", "_law_due", "_law_one", "_law_two"]
abbrev s_law_kinds : Stmt := top 31
abbrev N_law_kinds : List Str := ["_law_e", "_law_found"]
abbrev s_UnknownName_init : Stmt := inClass (top 21) 0
abbrev N_UnknownName_init : List Str := ["self", "name"]
abbrev s_UnknownClaim_init : Stmt := inClass (top 22) 0
abbrev N_UnknownClaim_init : List Str := ["self", "name"]
abbrev s_law_field : Stmt := top 29
abbrev N_law_field : List Str := ["_law_e"]
abbrev s_law : Stmt := top 32
abbrev N_law : List Str := ["_law_script", "_law_bag_here", "_law_values", "_law_a", "_law_b", "_law_rows", "_law_at_y", "_law_made", "_law_code", "_law_due", "_law_last", "_law_k"]
def xds : List Str := ["MapError", "Missing", "InvalidName", "InvalidDeclaration", "DuplicateName", "Unlike", "Ring", "WrongSort", "UnlikeSorts", "InvalidText", "InvalidBoard", "TooDeep", "TooMany", "NotBelow", "InUse", "NotTold", "Full", "InvalidLimit", "InvalidCommand", "InvalidPage", "UnknownName", "UnknownClaim", "NothingLeft"]
def xcs : XB := [("InvalidName", some "MapError", ["ValueError", "Exception", "BaseException", "object"]), ("InvalidDeclaration", some "MapError", ["ValueError", "Exception", "BaseException", "object"]), ("DuplicateName", some "MapError", ["ValueError", "Exception", "BaseException", "object"]), ("Unlike", some "MapError", ["ValueError", "Exception", "BaseException", "object"]), ("Ring", some "MapError", ["ValueError", "Exception", "BaseException", "object"]), ("WrongSort", some "MapError", ["ValueError", "Exception", "BaseException", "object"]), ("UnlikeSorts", some "MapError", ["ValueError", "Exception", "BaseException", "object"]), ("InvalidText", some "MapError", ["ValueError", "Exception", "BaseException", "object"]), ("InvalidBoard", some "MapError", ["ValueError", "Exception", "BaseException", "object"]), ("TooDeep", some "MapError", ["ValueError", "Exception", "BaseException", "object"]), ("TooMany", some "MapError", ["ValueError", "Exception", "BaseException", "object"]), ("NotBelow", some "MapError", ["ValueError", "Exception", "BaseException", "object"]), ("InUse", some "MapError", ["ValueError", "Exception", "BaseException", "object"]), ("NotTold", some "MapError", ["ValueError", "Exception", "BaseException", "object"]), ("Full", some "MapError", ["ValueError", "Exception", "BaseException", "object"]), ("InvalidLimit", some "MapError", ["ValueError", "Exception", "BaseException", "object"]), ("InvalidCommand", some "MapError", ["ValueError", "Exception", "BaseException", "object"]), ("InvalidPage", some "MapError", ["ValueError", "Exception", "BaseException", "object"]), ("NothingLeft", none, ["IndexError", "LookupError", "Exception", "BaseException", "object"]), ("UnknownName", some "Missing", ["LookupError", "Exception", "BaseException", "object"]), ("UnknownClaim", some "Missing", ["LookupError", "Exception", "BaseException", "object"])]
def xl_at : List Str := ["InvalidDeclaration", "InvalidCommand"]
def xl_code : List Str := ["InvalidName", "InvalidDeclaration", "DuplicateName", "Unlike", "Ring", "WrongSort", "UnlikeSorts", "InvalidText", "InvalidBoard", "TooDeep", "TooMany", "NotBelow", "InUse", "NotTold", "Full", "InvalidLimit", "InvalidCommand", "InvalidPage", "NothingLeft", "UnknownName", "UnknownClaim"]
def xl_high : List Str := ["Unlike", "Ring", "NotTold"]
def xl_limit : List Str := ["Full"]
def xl_line : List Str := ["InvalidPage"]
def xl_low : List Str := ["Unlike", "Ring", "NotTold"]
def xl_most : List Str := ["TooDeep", "TooMany"]
def xl_name : List Str := ["DuplicateName", "InvalidBoard", "InUse", "UnknownName", "UnknownClaim"]
def xl_path : List Str := ["WrongSort"]
def xl_value : List Str := ["InvalidName", "InvalidText", "InvalidLimit"]

def fl_InvalidName : FL := [("code", .con "InvalidName"), ("value", .arg 0)]
def fl_InvalidDeclaration : FL := [("code", .con "InvalidDeclaration"), ("at", .arg 0)]
def fl_DuplicateName : FL := [("code", .con "DuplicateName"), ("name", .arg 0)]
def fl_Unlike : FL := [("code", .con "Unlike"), ("high", .arg 1), ("low", .arg 0)]
def fl_Ring : FL := [("code", .con "Ring"), ("high", .arg 1), ("low", .arg 0)]
def fl_WrongSort : FL := [("code", .con "WrongSort"), ("path", .arg 0)]
def fl_UnlikeSorts : FL := [("code", .con "UnlikeSorts")]
def fl_InvalidText : FL := [("code", .con "InvalidText"), ("value", .arg 0)]
def fl_InvalidBoard : FL := [("code", .con "InvalidBoard"), ("name", .arg 0)]
def fl_TooDeep : FL := [("code", .con "TooDeep"), ("most", .arg 0)]
def fl_TooMany : FL := [("code", .con "TooMany"), ("most", .arg 0)]
def fl_NotBelow : FL := [("code", .con "NotBelow")]
def fl_InUse : FL := [("code", .con "InUse"), ("name", .arg 0)]
def fl_NotTold : FL := [("code", .con "NotTold"), ("high", .arg 1), ("low", .arg 0)]
def fl_Full : FL := [("code", .con "Full"), ("limit", .arg 0)]
def fl_InvalidLimit : FL := [("code", .con "InvalidLimit"), ("value", .arg 0)]
def fl_InvalidCommand : FL := [("code", .con "InvalidCommand"), ("at", .arg 0)]
def fl_InvalidPage : FL := [("code", .con "InvalidPage"), ("line", .arg 0)]
def F_law_errors_of : FS :=
  (sSeq (sSet 2 (eLst (aCons (eTup (aCons (eMkX "InvalidName" 1 fl_InvalidName [0] (aCons (eVar 0) aNil)) (aCons (eC (.str "InvalidName")) (aCons (eTup (aCons (eVar 0) aNil)) aNil)))) (aCons (eTup (aCons (eMkX "InvalidDeclaration" 1 fl_InvalidDeclaration [0] (aCons (eVar 0) aNil)) (aCons (eC (.str "InvalidDeclaration")) (aCons (eTup (aCons (eVar 0) aNil)) aNil)))) aNil))))
  (sSeq (sSet 2 (e2 gAdd (eVar 2) (eLst (aCons (eTup (aCons (eMkX "DuplicateName" 1 fl_DuplicateName [0] (aCons (eVar 1) aNil)) (aCons (eC (.str "DuplicateName")) (aCons (eTup (aCons (eVar 1) aNil)) aNil)))) (aCons (eTup (aCons (eMkX "Unlike" 2 fl_Unlike [1, 0] (aCons (eVar 1) (aCons (eVar 0) aNil))) (aCons (eC (.str "Unlike")) (aCons (eTup (aCons (eVar 0) (aCons (eVar 1) aNil))) aNil)))) (aCons (eTup (aCons (eMkX "Ring" 2 fl_Ring (List.range 2) (aCons (eVar 0) (aCons (eVar 1) aNil))) (aCons (eC (.str "Ring")) (aCons (eTup (aCons (eVar 0) (aCons (eVar 1) aNil))) aNil)))) aNil))))))
  (sSeq (sSet 2 (e2 gAdd (eVar 2) (eLst (aCons (eTup (aCons (eMkX "WrongSort" 1 fl_WrongSort [0] (aCons (eVar 0) aNil)) (aCons (eC (.str "WrongSort")) (aCons (eTup (aCons (eVar 0) aNil)) aNil)))) (aCons (eTup (aCons (eMkX "UnlikeSorts" 0 fl_UnlikeSorts (List.range 0) aNil) (aCons (eC (.str "UnlikeSorts")) (aCons (eTup aNil) aNil)))) (aCons (eTup (aCons (eMkX "InvalidText" 1 fl_InvalidText [0] (aCons (eVar 1) aNil)) (aCons (eC (.str "InvalidText")) (aCons (eTup (aCons (eVar 1) aNil)) aNil)))) aNil))))))
  (sSeq (sSet 2 (e2 gAdd (eVar 2) (eLst (aCons (eTup (aCons (eMkX "InvalidBoard" 1 fl_InvalidBoard [0] (aCons (eVar 0) aNil)) (aCons (eC (.str "InvalidBoard")) (aCons (eTup (aCons (eVar 0) aNil)) aNil)))) (aCons (eTup (aCons (eMkX "TooDeep" 1 fl_TooDeep [0] (aCons (eVar 0) aNil)) (aCons (eC (.str "TooDeep")) (aCons (eTup (aCons (eVar 0) aNil)) aNil)))) (aCons (eTup (aCons (eMkX "TooMany" 1 fl_TooMany [0] (aCons (eVar 1) aNil)) (aCons (eC (.str "TooMany")) (aCons (eTup (aCons (eVar 1) aNil)) aNil)))) aNil))))))
  (sSeq (sSet 2 (e2 gAdd (eVar 2) (eLst (aCons (eTup (aCons (eMkX "NotBelow" 0 fl_NotBelow (List.range 0) aNil) (aCons (eC (.str "NotBelow")) (aCons (eTup aNil) aNil)))) (aCons (eTup (aCons (eMkX "InUse" 1 fl_InUse [0] (aCons (eVar 1) aNil)) (aCons (eC (.str "InUse")) (aCons (eTup (aCons (eVar 1) aNil)) aNil)))) (aCons (eTup (aCons (eMkX "NotTold" 2 fl_NotTold [1, 0] (aCons (eVar 0) (aCons (eVar 1) aNil))) (aCons (eC (.str "NotTold")) (aCons (eTup (aCons (eVar 1) (aCons (eVar 0) aNil))) aNil)))) (aCons (eTup (aCons (eMkX "Full" 1 fl_Full [0] (aCons (eVar 0) aNil)) (aCons (eC (.str "Full")) (aCons (eTup (aCons (eVar 0) aNil)) aNil)))) aNil)))))))
  (sRet (e2 gAdd (eVar 2) (eLst (aCons (eTup (aCons (eMkX "InvalidLimit" 1 fl_InvalidLimit [0] (aCons (eVar 0) aNil)) (aCons (eC (.str "InvalidLimit")) (aCons (eTup (aCons (eVar 0) aNil)) aNil)))) (aCons (eTup (aCons (eMkX "InvalidCommand" 1 fl_InvalidCommand [0] (aCons (eVar 1) aNil)) (aCons (eC (.str "InvalidCommand")) (aCons (eTup (aCons (eVar 1) aNil)) aNil)))) (aCons (eTup (aCons (eMkX "InvalidPage" 1 fl_InvalidPage [0] (aCons (eVar 0) aNil)) (aCons (eC (.str "InvalidPage")) (aCons (eTup (aCons (eVar 0) aNil)) aNil)))) aNil)))))))))))
def f_law_errors_of : List T → PR := runP 3 F_law_errors_of
def fl_NothingLeft : FL := [("code", .con "NothingLeft")]
def F_law_kinds : FS :=
  (sSeq (sSet 1 (eLst (aCons (eCB (gP (isxT (xtab xds xcs))) (aCons (eVar 0) (aCons (eC (.cls "InvalidName")) aNil))) (aCons (eCB (gP (isxT (xtab xds xcs))) (aCons (eVar 0) (aCons (eC (.cls "InvalidDeclaration")) aNil))) (aCons (eCB (gP (isxT (xtab xds xcs))) (aCons (eVar 0) (aCons (eC (.cls "DuplicateName")) aNil))) (aCons (eCB (gP (isxT (xtab xds xcs))) (aCons (eVar 0) (aCons (eC (.cls "Unlike")) aNil))) (aCons (eCB (gP (isxT (xtab xds xcs))) (aCons (eVar 0) (aCons (eC (.cls "Ring")) aNil))) aNil)))))))
  (sSeq (sSet 1 (e2 gAdd (eVar 1) (eLst (aCons (eCB (gP (isxT (xtab xds xcs))) (aCons (eVar 0) (aCons (eC (.cls "WrongSort")) aNil))) (aCons (eCB (gP (isxT (xtab xds xcs))) (aCons (eVar 0) (aCons (eC (.cls "UnlikeSorts")) aNil))) (aCons (eCB (gP (isxT (xtab xds xcs))) (aCons (eVar 0) (aCons (eC (.cls "InvalidText")) aNil))) (aCons (eCB (gP (isxT (xtab xds xcs))) (aCons (eVar 0) (aCons (eC (.cls "InvalidBoard")) aNil))) (aCons (eCB (gP (isxT (xtab xds xcs))) (aCons (eVar 0) (aCons (eC (.cls "TooDeep")) aNil))) aNil))))))))
  (sSeq (sSet 1 (e2 gAdd (eVar 1) (eLst (aCons (eCB (gP (isxT (xtab xds xcs))) (aCons (eVar 0) (aCons (eC (.cls "TooMany")) aNil))) (aCons (eCB (gP (isxT (xtab xds xcs))) (aCons (eVar 0) (aCons (eC (.cls "NotBelow")) aNil))) (aCons (eCB (gP (isxT (xtab xds xcs))) (aCons (eVar 0) (aCons (eC (.cls "InUse")) aNil))) (aCons (eCB (gP (isxT (xtab xds xcs))) (aCons (eVar 0) (aCons (eC (.cls "NotTold")) aNil))) (aCons (eCB (gP (isxT (xtab xds xcs))) (aCons (eVar 0) (aCons (eC (.cls "Full")) aNil))) aNil))))))))
  (sRet (e2 gAdd (eVar 1) (eLst (aCons (eCB (gP (isxT (xtab xds xcs))) (aCons (eVar 0) (aCons (eC (.cls "InvalidLimit")) aNil))) (aCons (eCB (gP (isxT (xtab xds xcs))) (aCons (eVar 0) (aCons (eC (.cls "InvalidCommand")) aNil))) (aCons (eCB (gP (isxT (xtab xds xcs))) (aCons (eVar 0) (aCons (eC (.cls "InvalidPage")) aNil))) (aCons (eCB (gP (isxT (xtab xds xcs))) (aCons (eVar 0) (aCons (eC (.cls "UnknownName")) aNil))) (aCons (eCB (gP (isxT (xtab xds xcs))) (aCons (eVar 0) (aCons (eC (.cls "UnknownClaim")) aNil))) (aCons (eCB (gP (isxT (xtab xds xcs))) (aCons (eVar 0) (aCons (eC (.cls "NothingLeft")) aNil))) aNil))))))))))))
def f_law_kinds : List T → PR := runP 2 F_law_kinds
def fl_UnknownName : FL := [("code", .con "UnknownName"), ("name", .arg 0)]
def fl_UnknownClaim : FL := [("code", .con "UnknownClaim"), ("name", .arg 0)]
def F_law_field : FS :=
  (sSeq (sIf (eB (e2 (g2 (inT false)) (eXf xl_code "code" (eVar 0)) (eTup (aCons (eC (.str "InvalidName")) (aCons (eC (.str "InvalidText")) (aCons (eC (.str "InvalidLimit")) aNil)))))) (sRet (eTup (aCons (eXf xl_value "value" (eVar 0)) aNil))) sSkip)
  (sSeq (sIf (eB (e2 (g2 (inT false)) (eXf xl_code "code" (eVar 0)) (eTup (aCons (eC (.str "InvalidDeclaration")) (aCons (eC (.str "InvalidCommand")) aNil))))) (sRet (eTup (aCons (eXf xl_at "at" (eVar 0)) aNil))) sSkip)
  (sSeq (sIf (eB (e2 (g2 (inT false)) (eXf xl_code "code" (eVar 0)) (eTup (aCons (eC (.str "DuplicateName")) (aCons (eC (.str "InvalidBoard")) (aCons (eC (.str "InUse")) (aCons (eC (.str "UnknownName")) (aCons (eC (.str "UnknownClaim")) aNil)))))))) (sRet (eTup (aCons (eXf xl_name "name" (eVar 0)) aNil))) sSkip)
  (sSeq (sIf (eB (e2 (g2 (inT false)) (eXf xl_code "code" (eVar 0)) (eTup (aCons (eC (.str "Unlike")) (aCons (eC (.str "Ring")) (aCons (eC (.str "NotTold")) aNil)))))) (sRet (eTup (aCons (eXf xl_low "low" (eVar 0)) (aCons (eXf xl_high "high" (eVar 0)) aNil)))) sSkip)
  (sSeq (sIf (eB (e2 (g2 (inT false)) (eXf xl_code "code" (eVar 0)) (eTup (aCons (eC (.str "TooDeep")) (aCons (eC (.str "TooMany")) aNil))))) (sRet (eTup (aCons (eXf xl_most "most" (eVar 0)) aNil))) sSkip)
  (sSeq (sIf (eB (e2 (g2 eqT) (eXf xl_code "code" (eVar 0)) (eC (.str "WrongSort")))) (sRet (eTup (aCons (eXf xl_path "path" (eVar 0)) aNil))) sSkip)
  (sRet (eIf (eB (e2 (g2 eqT) (eXf xl_code "code" (eVar 0)) (eC (.str "Full")))) (eTup (aCons (eXf xl_limit "limit" (eVar 0)) aNil)) (eIf (eB (e2 (g2 eqT) (eXf xl_code "code" (eVar 0)) (eC (.str "InvalidPage")))) (eTup (aCons (eXf xl_line "line" (eVar 0)) aNil)) (eTup aNil))))))))))
def f_law_field : List T → PR := runP 1 F_law_field
def F_law : FS :=
  (sSeq (sSet 1 (eCallM 1 f_law_bag (aCons (eVar 0) aNil)))
  (sSeq (sSet 2 (eLst (aCons (eC .non) (aCons (eC (.bl true)) (aCons (eC (.bl false)) (aCons (eC (.str "")) (aCons (eC (.str "top")) (aCons (eC (.str "x")) (aCons (eC (.int 0)) (aCons (eNeg (eC (.int 3))) (aCons (e2 gAdd (e2 (g2 powT) (eC (.int 10)) (eC (.int 12))) (eCallB 2 f_law_draw (aCons (eVar 1) (aCons (e2 (g2 powT) (eC (.int 10)) (eC (.int 9))) aNil)))) (aCons (eTup aNil) (aCons (eTup (aCons (eC (.str "item")) (aCons (eC (.str "x")) aNil))) (aCons (eLst aNil) (aCons (eLst (aCons (eC (.int 1)) (aCons (eTup (aCons (eC (.int 2)) aNil)) aNil))) (aCons (eC (.str "a b")) aNil))))))))))))))))
  (sSeq (sPar 3 4 (aCons (eCallB 2 f_law_of (aCons (eVar 1) (aCons (eVar 2) aNil))) (aCons (eCallB 2 f_law_of (aCons (eVar 1) (aCons (eVar 2) aNil))) aNil)))
  (sSeq (sSet 5 (eCall 2 f_law_errors_of (aCons (eVar 3) (aCons (eVar 4) aNil))))
  (sSeq (sFor (iR1 (aCons (eCB gLen (aCons (eVar 5) aNil)) aNil)) (gNm 6) (sSeq (sAsg (e2 gIx (eVar 5) (eVar 6)) (gTp 3 (gsCons (gNm 7) (gsCons (gNm 8) (gsCons (gNm 9) gsNil)))))
  (sSeq (sIf (bNot (eB (eCall 2 (f_law_same 12) (aCons (eLst (aCons (eXf xl_code "code" (eVar 7)) (aCons (eCall 1 f_law_field (aCons (eVar 7) aNil)) aNil))) (aCons (eLst (aCons (eVar 8) (aCons (eVar 9) aNil))) aNil))))) (sRet (eC (.bl false))) sSkip)
  (sSeq (sIf (eB (e2 (g2 neT) (eCall 1 f_law_kinds (aCons (eVar 7) aNil)) (eLc (iR1 (aCons (eC (.int 21)) aNil)) [11] (gNm 11) bYes (e2 (g2 eqT) (eVar 11) (eVar 6))))) (sRet (eC (.bl false))) sSkip)
  (sIf (bOr (bNot (eB (eCB (gP (isxT (xtab xds xcs))) (aCons (eVar 7) (aCons (eC (.cls "MapError")) aNil))))) (bOr (bNot (eB (eCB (gP (isxT (xtab xds xcs))) (aCons (eVar 7) (aCons (eC (.ty "ValueError")) aNil))))) (bOr (eB (eCB (gP (isxT (xtab xds xcs))) (aCons (eVar 7) (aCons (eC (.cls "Missing")) aNil)))) (eB (eCB (gP (isxT (xtab xds xcs))) (aCons (eVar 7) (aCons (eC (.ty "LookupError")) aNil))))))) (sRet (eC (.bl false))) sSkip)))))
  (sSeq (sFor (iL (eLst (aCons (eTup (aCons (eMkX "UnknownName" 1 fl_UnknownName [0] (aCons (eVar 3) aNil)) (aCons (eC (.str "UnknownName")) (aCons (eC (.int 18)) aNil)))) (aCons (eTup (aCons (eMkX "UnknownClaim" 1 fl_UnknownClaim [0] (aCons (eVar 3) aNil)) (aCons (eC (.str "UnknownClaim")) (aCons (eC (.int 19)) aNil)))) aNil)))) (gTp 3 (gsCons (gNm 7) (gsCons (gNm 8) (gsCons (gNm 6) gsNil)))) (sSeq (sIf (bOr (bNot (eB (eCall 2 (f_law_same 12) (aCons (eLst (aCons (eXf xl_code "code" (eVar 7)) (aCons (eXf xl_name "name" (eVar 7)) aNil))) (aCons (eLst (aCons (eVar 8) (aCons (eVar 3) aNil))) aNil))))) (eB (e2 (g2 neT) (eCall 1 f_law_kinds (aCons (eVar 7) aNil)) (eLc (iR1 (aCons (eC (.int 21)) aNil)) [11] (gNm 11) bYes (e2 (g2 eqT) (eVar 11) (eVar 6)))))) (sRet (eC (.bl false))) sSkip)
  (sIf (bOr (bNot (eB (eCB (gP (isxT (xtab xds xcs))) (aCons (eVar 7) (aCons (eC (.cls "Missing")) aNil))))) (bOr (bNot (eB (eCB (gP (isxT (xtab xds xcs))) (aCons (eVar 7) (aCons (eC (.ty "LookupError")) aNil))))) (bOr (eB (eCB (gP (isxT (xtab xds xcs))) (aCons (eVar 7) (aCons (eC (.cls "MapError")) aNil)))) (eB (eCB (gP (isxT (xtab xds xcs))) (aCons (eVar 7) (aCons (eC (.ty "ValueError")) aNil))))))) (sRet (eC (.bl false))) sSkip)))
  (sSeq (sSet 10 (eMkX "NothingLeft" 0 fl_NothingLeft (List.range 0) aNil))
  (sSeq (sIf (bOr (eB (e2 (g2 neT) (eXf xl_code "code" (eVar 10)) (eC (.str "NothingLeft")))) (eB (e2 (g2 neT) (eCall 1 f_law_kinds (aCons (eVar 10) aNil)) (eLc (iR1 (aCons (eC (.int 21)) aNil)) [11] (gNm 11) bYes (e2 (g2 eqT) (eVar 11) (eC (.int 20))))))) (sRet (eC (.bl false))) sSkip)
  (sRet (eAnd (eCB (gP (isxT (xtab xds xcs))) (aCons (eVar 10) (aCons (eC (.ty "IndexError")) aNil))) (eAnd (eNot (eCB (gP (isxT (xtab xds xcs))) (aCons (eVar 10) (aCons (eC (.cls "MapError")) aNil)))) (eNot (eCB (gP (isxT (xtab xds xcs))) (aCons (eVar 10) (aCons (eC (.cls "Missing")) aNil)))))))))))))))
def f_law : List T → PR := runP 12 F_law

structure Txt (K : PySem.W.Frag) (mg : Str → Option Value) (w : World) where
  xa : XAll K (cmOf mg) xds xcs
  gm_MapError : mg "MapError" = some (.ref (cmOf mg "MapError"))
  gc_MapError : GlobAt K mg "MapError" (.cls "MapError")
  gm_Missing : mg "Missing" = some (.ref (cmOf mg "Missing"))
  gc_Missing : GlobAt K mg "Missing" (.cls "Missing")
  gm_InvalidName : mg "InvalidName" = some (.ref (cmOf mg "InvalidName"))
  gc_InvalidName : GlobAt K mg "InvalidName" (.cls "InvalidName")
  gm_InvalidDeclaration : mg "InvalidDeclaration" = some (.ref (cmOf mg "InvalidDeclaration"))
  gc_InvalidDeclaration : GlobAt K mg "InvalidDeclaration" (.cls "InvalidDeclaration")
  gm_DuplicateName : mg "DuplicateName" = some (.ref (cmOf mg "DuplicateName"))
  gc_DuplicateName : GlobAt K mg "DuplicateName" (.cls "DuplicateName")
  gm_Unlike : mg "Unlike" = some (.ref (cmOf mg "Unlike"))
  gc_Unlike : GlobAt K mg "Unlike" (.cls "Unlike")
  gm_Ring : mg "Ring" = some (.ref (cmOf mg "Ring"))
  gc_Ring : GlobAt K mg "Ring" (.cls "Ring")
  gm_WrongSort : mg "WrongSort" = some (.ref (cmOf mg "WrongSort"))
  gc_WrongSort : GlobAt K mg "WrongSort" (.cls "WrongSort")
  gm_UnlikeSorts : mg "UnlikeSorts" = some (.ref (cmOf mg "UnlikeSorts"))
  gc_UnlikeSorts : GlobAt K mg "UnlikeSorts" (.cls "UnlikeSorts")
  gm_InvalidText : mg "InvalidText" = some (.ref (cmOf mg "InvalidText"))
  gc_InvalidText : GlobAt K mg "InvalidText" (.cls "InvalidText")
  gm_InvalidBoard : mg "InvalidBoard" = some (.ref (cmOf mg "InvalidBoard"))
  gc_InvalidBoard : GlobAt K mg "InvalidBoard" (.cls "InvalidBoard")
  gm_TooDeep : mg "TooDeep" = some (.ref (cmOf mg "TooDeep"))
  gc_TooDeep : GlobAt K mg "TooDeep" (.cls "TooDeep")
  gm_TooMany : mg "TooMany" = some (.ref (cmOf mg "TooMany"))
  gc_TooMany : GlobAt K mg "TooMany" (.cls "TooMany")
  gm_NotBelow : mg "NotBelow" = some (.ref (cmOf mg "NotBelow"))
  gc_NotBelow : GlobAt K mg "NotBelow" (.cls "NotBelow")
  gm_InUse : mg "InUse" = some (.ref (cmOf mg "InUse"))
  gc_InUse : GlobAt K mg "InUse" (.cls "InUse")
  gm_NotTold : mg "NotTold" = some (.ref (cmOf mg "NotTold"))
  gc_NotTold : GlobAt K mg "NotTold" (.cls "NotTold")
  gm_Full : mg "Full" = some (.ref (cmOf mg "Full"))
  gc_Full : GlobAt K mg "Full" (.cls "Full")
  gm_InvalidLimit : mg "InvalidLimit" = some (.ref (cmOf mg "InvalidLimit"))
  gc_InvalidLimit : GlobAt K mg "InvalidLimit" (.cls "InvalidLimit")
  gm_InvalidCommand : mg "InvalidCommand" = some (.ref (cmOf mg "InvalidCommand"))
  gc_InvalidCommand : GlobAt K mg "InvalidCommand" (.cls "InvalidCommand")
  gm_InvalidPage : mg "InvalidPage" = some (.ref (cmOf mg "InvalidPage"))
  gc_InvalidPage : GlobAt K mg "InvalidPage" (.cls "InvalidPage")
  gm_UnknownName : mg "UnknownName" = some (.ref (cmOf mg "UnknownName"))
  gc_UnknownName : GlobAt K mg "UnknownName" (.cls "UnknownName")
  gm_UnknownClaim : mg "UnknownClaim" = some (.ref (cmOf mg "UnknownClaim"))
  gc_UnknownClaim : GlobAt K mg "UnknownClaim" (.cls "UnknownClaim")
  gm_NothingLeft : mg "NothingLeft" = some (.ref (cmOf mg "NothingLeft"))
  gc_NothingLeft : GlobAt K mg "NothingLeft" (.cls "NothingLeft")
  xf_at : XFs K (cmOf mg) xl_at "at"
  xf_code : XFs K (cmOf mg) xl_code "code"
  xf_high : XFs K (cmOf mg) xl_high "high"
  xf_limit : XFs K (cmOf mg) xl_limit "limit"
  xf_line : XFs K (cmOf mg) xl_line "line"
  xf_low : XFs K (cmOf mg) xl_low "low"
  xf_most : XFs K (cmOf mg) xl_most "most"
  xf_name : XFs K (cmOf mg) xl_name "name"
  xf_path : XFs K (cmOf mg) xl_path "path"
  xf_value : XFs K (cmOf mg) xl_value "value"
  d_law_bag : DefAt K mg "_law_bag" s_law_bag ["_law_script"]
  d_InvalidName_init : DefS K "__init__" "InvalidName.__init__" s_InvalidName_init
  bi_InvalidName : Binds K d_InvalidName_init.fd ["self", "value"] []
  xk_InvalidName : BmX4.XC K (cmOf mg "InvalidName") d_InvalidName_init.f
  xn_InvalidName : ∀ p ∈ fl_InvalidName, PySem.W.findIn K (.ref (cmOf mg "InvalidName")) p.1 = some none
  d_InvalidDeclaration_init : DefS K "__init__" "InvalidDeclaration.__init__" s_InvalidDeclaration_init
  bi_InvalidDeclaration : Binds K d_InvalidDeclaration_init.fd ["self", "at"] []
  xk_InvalidDeclaration : BmX4.XC K (cmOf mg "InvalidDeclaration") d_InvalidDeclaration_init.f
  xn_InvalidDeclaration : ∀ p ∈ fl_InvalidDeclaration, PySem.W.findIn K (.ref (cmOf mg "InvalidDeclaration")) p.1 = some none
  d_DuplicateName_init : DefS K "__init__" "DuplicateName.__init__" s_DuplicateName_init
  bi_DuplicateName : Binds K d_DuplicateName_init.fd ["self", "name"] []
  xk_DuplicateName : BmX4.XC K (cmOf mg "DuplicateName") d_DuplicateName_init.f
  xn_DuplicateName : ∀ p ∈ fl_DuplicateName, PySem.W.findIn K (.ref (cmOf mg "DuplicateName")) p.1 = some none
  d_Unlike_init : DefS K "__init__" "Unlike.__init__" s_Unlike_init
  bi_Unlike : Binds K d_Unlike_init.fd ["self", "low", "high"] []
  xk_Unlike : BmX4.XC K (cmOf mg "Unlike") d_Unlike_init.f
  xn_Unlike : ∀ p ∈ fl_Unlike, PySem.W.findIn K (.ref (cmOf mg "Unlike")) p.1 = some none
  d_Ring_init : DefS K "__init__" "Ring.__init__" s_Ring_init
  bi_Ring : Binds K d_Ring_init.fd ["self", "low", "high"] []
  xk_Ring : BmX4.XC K (cmOf mg "Ring") d_Ring_init.f
  xn_Ring : ∀ p ∈ fl_Ring, PySem.W.findIn K (.ref (cmOf mg "Ring")) p.1 = some none
  d_WrongSort_init : DefS K "__init__" "WrongSort.__init__" s_WrongSort_init
  bi_WrongSort : Binds K d_WrongSort_init.fd ["self", "path"] []
  xk_WrongSort : BmX4.XC K (cmOf mg "WrongSort") d_WrongSort_init.f
  xn_WrongSort : ∀ p ∈ fl_WrongSort, PySem.W.findIn K (.ref (cmOf mg "WrongSort")) p.1 = some none
  d_UnlikeSorts_init : DefS K "__init__" "UnlikeSorts.__init__" s_UnlikeSorts_init
  bi_UnlikeSorts : Binds K d_UnlikeSorts_init.fd ["self"] []
  xk_UnlikeSorts : BmX4.XC K (cmOf mg "UnlikeSorts") d_UnlikeSorts_init.f
  xn_UnlikeSorts : ∀ p ∈ fl_UnlikeSorts, PySem.W.findIn K (.ref (cmOf mg "UnlikeSorts")) p.1 = some none
  d_InvalidText_init : DefS K "__init__" "InvalidText.__init__" s_InvalidText_init
  bi_InvalidText : Binds K d_InvalidText_init.fd ["self", "value"] []
  xk_InvalidText : BmX4.XC K (cmOf mg "InvalidText") d_InvalidText_init.f
  xn_InvalidText : ∀ p ∈ fl_InvalidText, PySem.W.findIn K (.ref (cmOf mg "InvalidText")) p.1 = some none
  d_InvalidBoard_init : DefS K "__init__" "InvalidBoard.__init__" s_InvalidBoard_init
  bi_InvalidBoard : Binds K d_InvalidBoard_init.fd ["self", "name"] []
  xk_InvalidBoard : BmX4.XC K (cmOf mg "InvalidBoard") d_InvalidBoard_init.f
  xn_InvalidBoard : ∀ p ∈ fl_InvalidBoard, PySem.W.findIn K (.ref (cmOf mg "InvalidBoard")) p.1 = some none
  d_TooDeep_init : DefS K "__init__" "TooDeep.__init__" s_TooDeep_init
  bi_TooDeep : Binds K d_TooDeep_init.fd ["self", "most"] []
  xk_TooDeep : BmX4.XC K (cmOf mg "TooDeep") d_TooDeep_init.f
  xn_TooDeep : ∀ p ∈ fl_TooDeep, PySem.W.findIn K (.ref (cmOf mg "TooDeep")) p.1 = some none
  d_TooMany_init : DefS K "__init__" "TooMany.__init__" s_TooMany_init
  bi_TooMany : Binds K d_TooMany_init.fd ["self", "most"] []
  xk_TooMany : BmX4.XC K (cmOf mg "TooMany") d_TooMany_init.f
  xn_TooMany : ∀ p ∈ fl_TooMany, PySem.W.findIn K (.ref (cmOf mg "TooMany")) p.1 = some none
  d_NotBelow_init : DefS K "__init__" "NotBelow.__init__" s_NotBelow_init
  bi_NotBelow : Binds K d_NotBelow_init.fd ["self"] []
  xk_NotBelow : BmX4.XC K (cmOf mg "NotBelow") d_NotBelow_init.f
  xn_NotBelow : ∀ p ∈ fl_NotBelow, PySem.W.findIn K (.ref (cmOf mg "NotBelow")) p.1 = some none
  d_InUse_init : DefS K "__init__" "InUse.__init__" s_InUse_init
  bi_InUse : Binds K d_InUse_init.fd ["self", "name"] []
  xk_InUse : BmX4.XC K (cmOf mg "InUse") d_InUse_init.f
  xn_InUse : ∀ p ∈ fl_InUse, PySem.W.findIn K (.ref (cmOf mg "InUse")) p.1 = some none
  d_NotTold_init : DefS K "__init__" "NotTold.__init__" s_NotTold_init
  bi_NotTold : Binds K d_NotTold_init.fd ["self", "low", "high"] []
  xk_NotTold : BmX4.XC K (cmOf mg "NotTold") d_NotTold_init.f
  xn_NotTold : ∀ p ∈ fl_NotTold, PySem.W.findIn K (.ref (cmOf mg "NotTold")) p.1 = some none
  d_Full_init : DefS K "__init__" "Full.__init__" s_Full_init
  bi_Full : Binds K d_Full_init.fd ["self", "limit"] []
  xk_Full : BmX4.XC K (cmOf mg "Full") d_Full_init.f
  xn_Full : ∀ p ∈ fl_Full, PySem.W.findIn K (.ref (cmOf mg "Full")) p.1 = some none
  d_InvalidLimit_init : DefS K "__init__" "InvalidLimit.__init__" s_InvalidLimit_init
  bi_InvalidLimit : Binds K d_InvalidLimit_init.fd ["self", "value"] []
  xk_InvalidLimit : BmX4.XC K (cmOf mg "InvalidLimit") d_InvalidLimit_init.f
  xn_InvalidLimit : ∀ p ∈ fl_InvalidLimit, PySem.W.findIn K (.ref (cmOf mg "InvalidLimit")) p.1 = some none
  d_InvalidCommand_init : DefS K "__init__" "InvalidCommand.__init__" s_InvalidCommand_init
  bi_InvalidCommand : Binds K d_InvalidCommand_init.fd ["self", "at"] []
  xk_InvalidCommand : BmX4.XC K (cmOf mg "InvalidCommand") d_InvalidCommand_init.f
  xn_InvalidCommand : ∀ p ∈ fl_InvalidCommand, PySem.W.findIn K (.ref (cmOf mg "InvalidCommand")) p.1 = some none
  d_InvalidPage_init : DefS K "__init__" "InvalidPage.__init__" s_InvalidPage_init
  bi_InvalidPage : Binds K d_InvalidPage_init.fd ["self", "line"] []
  xk_InvalidPage : BmX4.XC K (cmOf mg "InvalidPage") d_InvalidPage_init.f
  xn_InvalidPage : ∀ p ∈ fl_InvalidPage, PySem.W.findIn K (.ref (cmOf mg "InvalidPage")) p.1 = some none
  d_law_errors_of : DefAt K mg "_law_errors_of" s_law_errors_of ["_law_a", "_law_b"]
  d_NothingLeft_init : DefS K "__init__" "NothingLeft.__init__" s_NothingLeft_init
  bi_NothingLeft : Binds K d_NothingLeft_init.fd ["self"] []
  xk_NothingLeft : BmX4.XC K (cmOf mg "NothingLeft") d_NothingLeft_init.f
  xn_NothingLeft : ∀ p ∈ fl_NothingLeft, PySem.W.findIn K (.ref (cmOf mg "NothingLeft")) p.1 = some none
  d_law_draw : DefAt K mg "_law_draw" s_law_draw ["_law_bag_here", "_law_many"]
  d_law_of : DefAt K mg "_law_of" s_law_of ["_law_bag_here", "_law_some"]
  d_law_same : DefAt K mg "_law_same" s_law_same ["_law_found", "_law_due"]
  d_law_kinds : DefAt K mg "_law_kinds" s_law_kinds ["_law_e"]
  d_UnknownName_init : DefS K "__init__" "UnknownName.__init__" s_UnknownName_init
  bi_UnknownName : Binds K d_UnknownName_init.fd ["self", "name"] []
  xk_UnknownName : BmX4.XC K (cmOf mg "UnknownName") d_UnknownName_init.f
  xn_UnknownName : ∀ p ∈ fl_UnknownName, PySem.W.findIn K (.ref (cmOf mg "UnknownName")) p.1 = some none
  d_UnknownClaim_init : DefS K "__init__" "UnknownClaim.__init__" s_UnknownClaim_init
  bi_UnknownClaim : Binds K d_UnknownClaim_init.fd ["self", "name"] []
  xk_UnknownClaim : BmX4.XC K (cmOf mg "UnknownClaim") d_UnknownClaim_init.f
  xn_UnknownClaim : ∀ p ∈ fl_UnknownClaim, PySem.W.findIn K (.ref (cmOf mg "UnknownClaim")) p.1 = some none
  d_law_field : DefAt K mg "_law_field" s_law_field ["_law_e"]
  d_law : DefAt K mg "law" s_law ["_law_script"]
  kb_InvalidName_init_value : KwB K d_InvalidName_init.fd 1 ["value"] ["self", "value"] [0]
  kb_InvalidDeclaration_init_at : KwB K d_InvalidDeclaration_init.fd 1 ["at"] ["self", "at"] [0]
  kb_DuplicateName_init_name : KwB K d_DuplicateName_init.fd 1 ["name"] ["self", "name"] [0]
  kb_Unlike_init_high_low : KwB K d_Unlike_init.fd 1 ["high", "low"] ["self", "low", "high"] [1, 0]
  kb_WrongSort_init_path : KwB K d_WrongSort_init.fd 1 ["path"] ["self", "path"] [0]
  kb_InvalidText_init_value : KwB K d_InvalidText_init.fd 1 ["value"] ["self", "value"] [0]
  kb_InvalidBoard_init_name : KwB K d_InvalidBoard_init.fd 1 ["name"] ["self", "name"] [0]
  kb_TooDeep_init_most : KwB K d_TooDeep_init.fd 1 ["most"] ["self", "most"] [0]
  kb_TooMany_init_most : KwB K d_TooMany_init.fd 1 ["most"] ["self", "most"] [0]
  kb_InUse_init_name : KwB K d_InUse_init.fd 1 ["name"] ["self", "name"] [0]
  kb_NotTold_init_high_low : KwB K d_NotTold_init.fd 1 ["high", "low"] ["self", "low", "high"] [1, 0]
  kb_Full_init_limit : KwB K d_Full_init.fd 1 ["limit"] ["self", "limit"] [0]
  kb_InvalidLimit_init_value : KwB K d_InvalidLimit_init.fd 1 ["value"] ["self", "value"] [0]
  kb_InvalidCommand_init_at : KwB K d_InvalidCommand_init.fd 1 ["at"] ["self", "at"] [0]
  kb_InvalidPage_init_line : KwB K d_InvalidPage_init.fd 1 ["line"] ["self", "line"] [0]
  kb_UnknownName_init_name : KwB K d_UnknownName_init.fd 1 ["name"] ["self", "name"] [0]
  kb_UnknownClaim_init_name : KwB K d_UnknownClaim_init.fd 1 ["name"] ["self", "name"] [0]
  n_IndexError : mg "IndexError" = none
  n_LookupError : mg "LookupError" = none
  n_ValueError : mg "ValueError" = none
  n_all : mg "all" = none
  n_bool : mg "bool" = none
  n_int : mg "int" = none
  n_isinstance : mg "isinstance" = none
  n_len : mg "len" = none
  n_list : mg "list" = none
  n_range : mg "range" = none
  n_str : mg "str" = none
  n_tuple : mg "tuple" = none
  n_zip : mg "zip" = none

theorem sc_law_bag : FnScope N_law_bag ["_law_script"] (defScope s_law_bag) := ⟨rfl, rfl, rfl, by decide +kernel, rfl, by decide +kernel, by decide +kernel⟩
theorem sc_InvalidName_init : FnScope N_InvalidName_init ["self", "value"] (defScope s_InvalidName_init) := ⟨rfl, rfl, rfl, by decide +kernel, rfl, by decide +kernel, by decide +kernel⟩
theorem sc_InvalidDeclaration_init : FnScope N_InvalidDeclaration_init ["self", "at"] (defScope s_InvalidDeclaration_init) := ⟨rfl, rfl, rfl, by decide +kernel, rfl, by decide +kernel, by decide +kernel⟩
theorem sc_DuplicateName_init : FnScope N_DuplicateName_init ["self", "name"] (defScope s_DuplicateName_init) := ⟨rfl, rfl, rfl, by decide +kernel, rfl, by decide +kernel, by decide +kernel⟩
theorem sc_Unlike_init : FnScope N_Unlike_init ["self", "low", "high"] (defScope s_Unlike_init) := ⟨rfl, rfl, rfl, by decide +kernel, rfl, by decide +kernel, by decide +kernel⟩
theorem sc_Ring_init : FnScope N_Ring_init ["self", "low", "high"] (defScope s_Ring_init) := ⟨rfl, rfl, rfl, by decide +kernel, rfl, by decide +kernel, by decide +kernel⟩
theorem sc_WrongSort_init : FnScope N_WrongSort_init ["self", "path"] (defScope s_WrongSort_init) := ⟨rfl, rfl, rfl, by decide +kernel, rfl, by decide +kernel, by decide +kernel⟩
theorem sc_UnlikeSorts_init : FnScope N_UnlikeSorts_init ["self"] (defScope s_UnlikeSorts_init) := ⟨rfl, rfl, rfl, by decide +kernel, rfl, by decide +kernel, by decide +kernel⟩
theorem sc_InvalidText_init : FnScope N_InvalidText_init ["self", "value"] (defScope s_InvalidText_init) := ⟨rfl, rfl, rfl, by decide +kernel, rfl, by decide +kernel, by decide +kernel⟩
theorem sc_InvalidBoard_init : FnScope N_InvalidBoard_init ["self", "name"] (defScope s_InvalidBoard_init) := ⟨rfl, rfl, rfl, by decide +kernel, rfl, by decide +kernel, by decide +kernel⟩
theorem sc_TooDeep_init : FnScope N_TooDeep_init ["self", "most"] (defScope s_TooDeep_init) := ⟨rfl, rfl, rfl, by decide +kernel, rfl, by decide +kernel, by decide +kernel⟩
theorem sc_TooMany_init : FnScope N_TooMany_init ["self", "most"] (defScope s_TooMany_init) := ⟨rfl, rfl, rfl, by decide +kernel, rfl, by decide +kernel, by decide +kernel⟩
theorem sc_NotBelow_init : FnScope N_NotBelow_init ["self"] (defScope s_NotBelow_init) := ⟨rfl, rfl, rfl, by decide +kernel, rfl, by decide +kernel, by decide +kernel⟩
theorem sc_InUse_init : FnScope N_InUse_init ["self", "name"] (defScope s_InUse_init) := ⟨rfl, rfl, rfl, by decide +kernel, rfl, by decide +kernel, by decide +kernel⟩
theorem sc_NotTold_init : FnScope N_NotTold_init ["self", "low", "high"] (defScope s_NotTold_init) := ⟨rfl, rfl, rfl, by decide +kernel, rfl, by decide +kernel, by decide +kernel⟩
theorem sc_Full_init : FnScope N_Full_init ["self", "limit"] (defScope s_Full_init) := ⟨rfl, rfl, rfl, by decide +kernel, rfl, by decide +kernel, by decide +kernel⟩
theorem sc_InvalidLimit_init : FnScope N_InvalidLimit_init ["self", "value"] (defScope s_InvalidLimit_init) := ⟨rfl, rfl, rfl, by decide +kernel, rfl, by decide +kernel, by decide +kernel⟩
theorem sc_InvalidCommand_init : FnScope N_InvalidCommand_init ["self", "at"] (defScope s_InvalidCommand_init) := ⟨rfl, rfl, rfl, by decide +kernel, rfl, by decide +kernel, by decide +kernel⟩
theorem sc_InvalidPage_init : FnScope N_InvalidPage_init ["self", "line"] (defScope s_InvalidPage_init) := ⟨rfl, rfl, rfl, by decide +kernel, rfl, by decide +kernel, by decide +kernel⟩
theorem sc_law_errors_of : FnScope N_law_errors_of ["_law_a", "_law_b"] (defScope s_law_errors_of) := ⟨rfl, rfl, rfl, by decide +kernel, rfl, by decide +kernel, by decide +kernel⟩
theorem sc_NothingLeft_init : FnScope N_NothingLeft_init ["self"] (defScope s_NothingLeft_init) := ⟨rfl, rfl, rfl, by decide +kernel, rfl, by decide +kernel, by decide +kernel⟩
theorem sc_law_draw : FnScope N_law_draw ["_law_bag_here", "_law_many"] (defScope s_law_draw) := ⟨rfl, rfl, rfl, by decide +kernel, rfl, by decide +kernel, by decide +kernel⟩
theorem sc_law_of : FnScope N_law_of ["_law_bag_here", "_law_some"] (defScope s_law_of) := ⟨rfl, rfl, rfl, by decide +kernel, rfl, by decide +kernel, by decide +kernel⟩
theorem sc_law_same : FnScope N_law_same ["_law_found", "_law_due"] (defScope s_law_same) := ⟨rfl, rfl, rfl, by decide +kernel, rfl, by decide +kernel, by decide +kernel⟩
theorem sc_law_kinds : FnScope N_law_kinds ["_law_e"] (defScope s_law_kinds) := ⟨rfl, rfl, rfl, by decide +kernel, rfl, by decide +kernel, by decide +kernel⟩
theorem sc_UnknownName_init : FnScope N_UnknownName_init ["self", "name"] (defScope s_UnknownName_init) := ⟨rfl, rfl, rfl, by decide +kernel, rfl, by decide +kernel, by decide +kernel⟩
theorem sc_UnknownClaim_init : FnScope N_UnknownClaim_init ["self", "name"] (defScope s_UnknownClaim_init) := ⟨rfl, rfl, rfl, by decide +kernel, rfl, by decide +kernel, by decide +kernel⟩
theorem sc_law_field : FnScope N_law_field ["_law_e"] (defScope s_law_field) := ⟨rfl, rfl, rfl, by decide +kernel, rfl, by decide +kernel, by decide +kernel⟩
theorem sc_law : FnScope N_law ["_law_script"] (defScope s_law) := ⟨rfl, rfl, rfl, by decide +kernel, rfl, by decide +kernel, by decide +kernel⟩
section
variable {P : Program} {w : World} {K : PySem.W.Frag} {mg : Str → Option Value} {base : Heap}
theorem ok_law_bag (Z : Txt K mg w) : FnOk P w K mg base (L2.CX P w) 1 Z.d_law_bag.f Z.d_law_bag.fd ["_law_script"] (spP K (cmOf mg) 1 f_law_bag) :=
  fn_P (k := 0) Z.d_law_bag.F sc_law_bag rfl rfl fun cdv A outer s H E hr =>
  (dss_cons (ds_set (i := 1) sc_law_bag.nd rfl (by first | exact .inl rfl | exact .inr rfl) de_int)
  (dss_cons (ds_for (passes_of rfl) rfl (di_list (de_sl (de_var 0) do_none (do_some de_int))) (dg_name sc_law_bag.nd rfl (by first | exact .inl rfl | exact .inr rfl)) (dss_one (ds_set (i := 1) sc_law_bag.nd rfl (by first | exact .inl rfl | exact .inr rfl) (de_mod (de_intc rfl Z.n_int (da_cons (de_plus (de_plus (de_mul (de_var 1) de_int) (de_mod (de_intc rfl Z.n_int (da_cons (de_var 2) da_nil)) de_int)) de_int) da_nil)) de_int))))
  (dss_one (ds_ret (de_lstM (da_cons (de_list rfl Z.n_list (da_cons (de_sl (de_var 0) do_none (do_some de_int)) da_nil)) (da_cons de_int (da_cons de_int (da_cons (de_var 1) (da_cons de_int da_nil))))))))))
theorem ok_InvalidName_init (Z : Txt K mg w) : FnOk P w K mg base (L2.CX P w) 1 Z.d_InvalidName_init.f Z.d_InvalidName_init.fd ["self", "value"] (spX K (cmOf mg "InvalidName") Z.d_InvalidName_init.f 1 fl_InvalidName) :=
  fn_X1 (k := 0) Z.d_InvalidName_init.F sc_InvalidName_init rfl rfl fun cdv A outer s H E =>
  (pss_cons (ps_ostX (pe_var (i := 0) rfl (by first | exact .inl rfl | exact .inr (.inl rfl))) (pe_var (i := 1) rfl (by first | exact .inl rfl | exact .inr (.inl rfl)))) (pss_one (ps_ostX (pe_var (i := 0) rfl (by first | exact .inl rfl | exact .inr (.inl rfl))) pe_str)))
theorem ok_InvalidDeclaration_init (Z : Txt K mg w) : FnOk P w K mg base (L2.CX P w) 1 Z.d_InvalidDeclaration_init.f Z.d_InvalidDeclaration_init.fd ["self", "at"] (spX K (cmOf mg "InvalidDeclaration") Z.d_InvalidDeclaration_init.f 1 fl_InvalidDeclaration) :=
  fn_X1 (k := 0) Z.d_InvalidDeclaration_init.F sc_InvalidDeclaration_init rfl rfl fun cdv A outer s H E =>
  (pss_cons (ps_ostX (pe_var (i := 0) rfl (by first | exact .inl rfl | exact .inr (.inl rfl))) (pe_var (i := 1) rfl (by first | exact .inl rfl | exact .inr (.inl rfl)))) (pss_one (ps_ostX (pe_var (i := 0) rfl (by first | exact .inl rfl | exact .inr (.inl rfl))) pe_str)))
theorem ok_DuplicateName_init (Z : Txt K mg w) : FnOk P w K mg base (L2.CX P w) 1 Z.d_DuplicateName_init.f Z.d_DuplicateName_init.fd ["self", "name"] (spX K (cmOf mg "DuplicateName") Z.d_DuplicateName_init.f 1 fl_DuplicateName) :=
  fn_X1 (k := 0) Z.d_DuplicateName_init.F sc_DuplicateName_init rfl rfl fun cdv A outer s H E =>
  (pss_cons (ps_ostX (pe_var (i := 0) rfl (by first | exact .inl rfl | exact .inr (.inl rfl))) (pe_var (i := 1) rfl (by first | exact .inl rfl | exact .inr (.inl rfl)))) (pss_one (ps_ostX (pe_var (i := 0) rfl (by first | exact .inl rfl | exact .inr (.inl rfl))) pe_str)))
theorem ok_Unlike_init (Z : Txt K mg w) : FnOk P w K mg base (L2.CX P w) 1 Z.d_Unlike_init.f Z.d_Unlike_init.fd ["self", "low", "high"] (spX K (cmOf mg "Unlike") Z.d_Unlike_init.f 2 fl_Unlike) :=
  fn_X2 (k := 0) Z.d_Unlike_init.F sc_Unlike_init rfl rfl fun cdv A outer s H E =>
  (pss_cons (ps_ostX (pe_var (i := 0) rfl (by first | exact .inl rfl | exact .inr (.inl rfl))) (pe_var (i := 1) rfl (by first | exact .inl rfl | exact .inr (.inl rfl)))) (pss_cons (ps_ostX (pe_var (i := 0) rfl (by first | exact .inl rfl | exact .inr (.inl rfl))) (pe_var (i := 2) rfl (by first | exact .inl rfl | exact .inr (.inl rfl)))) (pss_one (ps_ostX (pe_var (i := 0) rfl (by first | exact .inl rfl | exact .inr (.inl rfl))) pe_str))))
theorem ok_Ring_init (Z : Txt K mg w) : FnOk P w K mg base (L2.CX P w) 1 Z.d_Ring_init.f Z.d_Ring_init.fd ["self", "low", "high"] (spX K (cmOf mg "Ring") Z.d_Ring_init.f 2 fl_Ring) :=
  fn_X2 (k := 0) Z.d_Ring_init.F sc_Ring_init rfl rfl fun cdv A outer s H E =>
  (pss_cons (ps_ostX (pe_var (i := 0) rfl (by first | exact .inl rfl | exact .inr (.inl rfl))) (pe_var (i := 1) rfl (by first | exact .inl rfl | exact .inr (.inl rfl)))) (pss_cons (ps_ostX (pe_var (i := 0) rfl (by first | exact .inl rfl | exact .inr (.inl rfl))) (pe_var (i := 2) rfl (by first | exact .inl rfl | exact .inr (.inl rfl)))) (pss_one (ps_ostX (pe_var (i := 0) rfl (by first | exact .inl rfl | exact .inr (.inl rfl))) pe_str))))
theorem ok_WrongSort_init (Z : Txt K mg w) : FnOk P w K mg base (L2.CX P w) 1 Z.d_WrongSort_init.f Z.d_WrongSort_init.fd ["self", "path"] (spX K (cmOf mg "WrongSort") Z.d_WrongSort_init.f 1 fl_WrongSort) :=
  fn_X1 (k := 0) Z.d_WrongSort_init.F sc_WrongSort_init rfl rfl fun cdv A outer s H E =>
  (pss_cons (ps_ostX (pe_var (i := 0) rfl (by first | exact .inl rfl | exact .inr (.inl rfl))) (pe_var (i := 1) rfl (by first | exact .inl rfl | exact .inr (.inl rfl)))) (pss_one (ps_ostX (pe_var (i := 0) rfl (by first | exact .inl rfl | exact .inr (.inl rfl))) pe_str)))
theorem ok_UnlikeSorts_init (Z : Txt K mg w) : FnOk P w K mg base (L2.CX P w) 1 Z.d_UnlikeSorts_init.f Z.d_UnlikeSorts_init.fd ["self"] (spX K (cmOf mg "UnlikeSorts") Z.d_UnlikeSorts_init.f 0 fl_UnlikeSorts) :=
  fn_X0 (k := 0) Z.d_UnlikeSorts_init.F sc_UnlikeSorts_init rfl rfl fun cdv A outer s H E =>
  (pss_one (ps_ostX (pe_var (i := 0) rfl (by first | exact .inl rfl | exact .inr (.inl rfl))) pe_str))
theorem ok_InvalidText_init (Z : Txt K mg w) : FnOk P w K mg base (L2.CX P w) 1 Z.d_InvalidText_init.f Z.d_InvalidText_init.fd ["self", "value"] (spX K (cmOf mg "InvalidText") Z.d_InvalidText_init.f 1 fl_InvalidText) :=
  fn_X1 (k := 0) Z.d_InvalidText_init.F sc_InvalidText_init rfl rfl fun cdv A outer s H E =>
  (pss_cons (ps_ostX (pe_var (i := 0) rfl (by first | exact .inl rfl | exact .inr (.inl rfl))) (pe_var (i := 1) rfl (by first | exact .inl rfl | exact .inr (.inl rfl)))) (pss_one (ps_ostX (pe_var (i := 0) rfl (by first | exact .inl rfl | exact .inr (.inl rfl))) pe_str)))
theorem ok_InvalidBoard_init (Z : Txt K mg w) : FnOk P w K mg base (L2.CX P w) 1 Z.d_InvalidBoard_init.f Z.d_InvalidBoard_init.fd ["self", "name"] (spX K (cmOf mg "InvalidBoard") Z.d_InvalidBoard_init.f 1 fl_InvalidBoard) :=
  fn_X1 (k := 0) Z.d_InvalidBoard_init.F sc_InvalidBoard_init rfl rfl fun cdv A outer s H E =>
  (pss_cons (ps_ostX (pe_var (i := 0) rfl (by first | exact .inl rfl | exact .inr (.inl rfl))) (pe_var (i := 1) rfl (by first | exact .inl rfl | exact .inr (.inl rfl)))) (pss_one (ps_ostX (pe_var (i := 0) rfl (by first | exact .inl rfl | exact .inr (.inl rfl))) pe_str)))
theorem ok_TooDeep_init (Z : Txt K mg w) : FnOk P w K mg base (L2.CX P w) 1 Z.d_TooDeep_init.f Z.d_TooDeep_init.fd ["self", "most"] (spX K (cmOf mg "TooDeep") Z.d_TooDeep_init.f 1 fl_TooDeep) :=
  fn_X1 (k := 0) Z.d_TooDeep_init.F sc_TooDeep_init rfl rfl fun cdv A outer s H E =>
  (pss_cons (ps_ostX (pe_var (i := 0) rfl (by first | exact .inl rfl | exact .inr (.inl rfl))) (pe_var (i := 1) rfl (by first | exact .inl rfl | exact .inr (.inl rfl)))) (pss_one (ps_ostX (pe_var (i := 0) rfl (by first | exact .inl rfl | exact .inr (.inl rfl))) pe_str)))
theorem ok_TooMany_init (Z : Txt K mg w) : FnOk P w K mg base (L2.CX P w) 1 Z.d_TooMany_init.f Z.d_TooMany_init.fd ["self", "most"] (spX K (cmOf mg "TooMany") Z.d_TooMany_init.f 1 fl_TooMany) :=
  fn_X1 (k := 0) Z.d_TooMany_init.F sc_TooMany_init rfl rfl fun cdv A outer s H E =>
  (pss_cons (ps_ostX (pe_var (i := 0) rfl (by first | exact .inl rfl | exact .inr (.inl rfl))) (pe_var (i := 1) rfl (by first | exact .inl rfl | exact .inr (.inl rfl)))) (pss_one (ps_ostX (pe_var (i := 0) rfl (by first | exact .inl rfl | exact .inr (.inl rfl))) pe_str)))
theorem ok_NotBelow_init (Z : Txt K mg w) : FnOk P w K mg base (L2.CX P w) 1 Z.d_NotBelow_init.f Z.d_NotBelow_init.fd ["self"] (spX K (cmOf mg "NotBelow") Z.d_NotBelow_init.f 0 fl_NotBelow) :=
  fn_X0 (k := 0) Z.d_NotBelow_init.F sc_NotBelow_init rfl rfl fun cdv A outer s H E =>
  (pss_one (ps_ostX (pe_var (i := 0) rfl (by first | exact .inl rfl | exact .inr (.inl rfl))) pe_str))
theorem ok_InUse_init (Z : Txt K mg w) : FnOk P w K mg base (L2.CX P w) 1 Z.d_InUse_init.f Z.d_InUse_init.fd ["self", "name"] (spX K (cmOf mg "InUse") Z.d_InUse_init.f 1 fl_InUse) :=
  fn_X1 (k := 0) Z.d_InUse_init.F sc_InUse_init rfl rfl fun cdv A outer s H E =>
  (pss_cons (ps_ostX (pe_var (i := 0) rfl (by first | exact .inl rfl | exact .inr (.inl rfl))) (pe_var (i := 1) rfl (by first | exact .inl rfl | exact .inr (.inl rfl)))) (pss_one (ps_ostX (pe_var (i := 0) rfl (by first | exact .inl rfl | exact .inr (.inl rfl))) pe_str)))
theorem ok_NotTold_init (Z : Txt K mg w) : FnOk P w K mg base (L2.CX P w) 1 Z.d_NotTold_init.f Z.d_NotTold_init.fd ["self", "low", "high"] (spX K (cmOf mg "NotTold") Z.d_NotTold_init.f 2 fl_NotTold) :=
  fn_X2 (k := 0) Z.d_NotTold_init.F sc_NotTold_init rfl rfl fun cdv A outer s H E =>
  (pss_cons (ps_ostX (pe_var (i := 0) rfl (by first | exact .inl rfl | exact .inr (.inl rfl))) (pe_var (i := 1) rfl (by first | exact .inl rfl | exact .inr (.inl rfl)))) (pss_cons (ps_ostX (pe_var (i := 0) rfl (by first | exact .inl rfl | exact .inr (.inl rfl))) (pe_var (i := 2) rfl (by first | exact .inl rfl | exact .inr (.inl rfl)))) (pss_one (ps_ostX (pe_var (i := 0) rfl (by first | exact .inl rfl | exact .inr (.inl rfl))) pe_str))))
theorem ok_Full_init (Z : Txt K mg w) : FnOk P w K mg base (L2.CX P w) 1 Z.d_Full_init.f Z.d_Full_init.fd ["self", "limit"] (spX K (cmOf mg "Full") Z.d_Full_init.f 1 fl_Full) :=
  fn_X1 (k := 0) Z.d_Full_init.F sc_Full_init rfl rfl fun cdv A outer s H E =>
  (pss_cons (ps_ostX (pe_var (i := 0) rfl (by first | exact .inl rfl | exact .inr (.inl rfl))) (pe_var (i := 1) rfl (by first | exact .inl rfl | exact .inr (.inl rfl)))) (pss_one (ps_ostX (pe_var (i := 0) rfl (by first | exact .inl rfl | exact .inr (.inl rfl))) pe_str)))
theorem ok_InvalidLimit_init (Z : Txt K mg w) : FnOk P w K mg base (L2.CX P w) 1 Z.d_InvalidLimit_init.f Z.d_InvalidLimit_init.fd ["self", "value"] (spX K (cmOf mg "InvalidLimit") Z.d_InvalidLimit_init.f 1 fl_InvalidLimit) :=
  fn_X1 (k := 0) Z.d_InvalidLimit_init.F sc_InvalidLimit_init rfl rfl fun cdv A outer s H E =>
  (pss_cons (ps_ostX (pe_var (i := 0) rfl (by first | exact .inl rfl | exact .inr (.inl rfl))) (pe_var (i := 1) rfl (by first | exact .inl rfl | exact .inr (.inl rfl)))) (pss_one (ps_ostX (pe_var (i := 0) rfl (by first | exact .inl rfl | exact .inr (.inl rfl))) pe_str)))
theorem ok_InvalidCommand_init (Z : Txt K mg w) : FnOk P w K mg base (L2.CX P w) 1 Z.d_InvalidCommand_init.f Z.d_InvalidCommand_init.fd ["self", "at"] (spX K (cmOf mg "InvalidCommand") Z.d_InvalidCommand_init.f 1 fl_InvalidCommand) :=
  fn_X1 (k := 0) Z.d_InvalidCommand_init.F sc_InvalidCommand_init rfl rfl fun cdv A outer s H E =>
  (pss_cons (ps_ostX (pe_var (i := 0) rfl (by first | exact .inl rfl | exact .inr (.inl rfl))) (pe_var (i := 1) rfl (by first | exact .inl rfl | exact .inr (.inl rfl)))) (pss_one (ps_ostX (pe_var (i := 0) rfl (by first | exact .inl rfl | exact .inr (.inl rfl))) pe_str)))
theorem ok_InvalidPage_init (Z : Txt K mg w) : FnOk P w K mg base (L2.CX P w) 1 Z.d_InvalidPage_init.f Z.d_InvalidPage_init.fd ["self", "line"] (spX K (cmOf mg "InvalidPage") Z.d_InvalidPage_init.f 1 fl_InvalidPage) :=
  fn_X1 (k := 0) Z.d_InvalidPage_init.F sc_InvalidPage_init rfl rfl fun cdv A outer s H E =>
  (pss_cons (ps_ostX (pe_var (i := 0) rfl (by first | exact .inl rfl | exact .inr (.inl rfl))) (pe_var (i := 1) rfl (by first | exact .inl rfl | exact .inr (.inl rfl)))) (pss_one (ps_ostX (pe_var (i := 0) rfl (by first | exact .inl rfl | exact .inr (.inl rfl))) pe_str)))
theorem ok_law_errors_of (Z : Txt K mg w) : FnOk P w K mg base (L2.CX P w) 4 Z.d_law_errors_of.f Z.d_law_errors_of.fd ["_law_a", "_law_b"] (spP K (cmOf mg) 2 f_law_errors_of) :=
  fn_P (k := 3) Z.d_law_errors_of.F sc_law_errors_of rfl rfl fun cdv A outer s H E hr =>
  (dss_cons (ds_set (i := 2) sc_law_errors_of.nd rfl (by first | exact .inl rfl | exact .inr rfl) (de_lst (da_cons (de_tup (da_cons (de_mkXK ⟨Z.xk_InvalidName, Z.xn_InvalidName, by decide, by decide⟩ (ok_InvalidName_init Z) (hr.mono (by decide)) Z.kb_InvalidName_init_value rfl rfl Z.gm_InvalidName (dk_cons (de_var 0) dk_nil)) (da_cons de_str (da_cons (de_tup (da_cons (de_var 0) da_nil)) da_nil)))) (da_cons (de_tup (da_cons (de_mkXK ⟨Z.xk_InvalidDeclaration, Z.xn_InvalidDeclaration, by decide, by decide⟩ (ok_InvalidDeclaration_init Z) (hr.mono (by decide)) Z.kb_InvalidDeclaration_init_at rfl rfl Z.gm_InvalidDeclaration (dk_cons (de_var 0) dk_nil)) (da_cons de_str (da_cons (de_tup (da_cons (de_var 0) da_nil)) da_nil)))) da_nil))))
  (dss_cons (ds_set (i := 2) sc_law_errors_of.nd rfl (by first | exact .inl rfl | exact .inr rfl) (de_plus (de_var 2) (de_lst (da_cons (de_tup (da_cons (de_mkXK ⟨Z.xk_DuplicateName, Z.xn_DuplicateName, by decide, by decide⟩ (ok_DuplicateName_init Z) (hr.mono (by decide)) Z.kb_DuplicateName_init_name rfl rfl Z.gm_DuplicateName (dk_cons (de_var 1) dk_nil)) (da_cons de_str (da_cons (de_tup (da_cons (de_var 1) da_nil)) da_nil)))) (da_cons (de_tup (da_cons (de_mkXK ⟨Z.xk_Unlike, Z.xn_Unlike, by decide, by decide⟩ (ok_Unlike_init Z) (hr.mono (by decide)) Z.kb_Unlike_init_high_low rfl rfl Z.gm_Unlike (dk_cons (de_var 1) (dk_cons (de_var 0) dk_nil))) (da_cons de_str (da_cons (de_tup (da_cons (de_var 0) (da_cons (de_var 1) da_nil))) da_nil)))) (da_cons (de_tup (da_cons (de_mkX ⟨Z.xk_Ring, Z.xn_Ring, by decide, by decide⟩ (ok_Ring_init Z) (hr.mono (by decide)) Z.bi_Ring rfl (by decide) rfl Z.gm_Ring (da_cons (de_var 0) (da_cons (de_var 1) da_nil))) (da_cons de_str (da_cons (de_tup (da_cons (de_var 0) (da_cons (de_var 1) da_nil))) da_nil)))) da_nil))))))
  (dss_cons (ds_set (i := 2) sc_law_errors_of.nd rfl (by first | exact .inl rfl | exact .inr rfl) (de_plus (de_var 2) (de_lst (da_cons (de_tup (da_cons (de_mkXK ⟨Z.xk_WrongSort, Z.xn_WrongSort, by decide, by decide⟩ (ok_WrongSort_init Z) (hr.mono (by decide)) Z.kb_WrongSort_init_path rfl rfl Z.gm_WrongSort (dk_cons (de_var 0) dk_nil)) (da_cons de_str (da_cons (de_tup (da_cons (de_var 0) da_nil)) da_nil)))) (da_cons (de_tup (da_cons (de_mkX0 ⟨Z.xk_UnlikeSorts, Z.xn_UnlikeSorts, by decide, by decide⟩ (ok_UnlikeSorts_init Z) (hr.mono (by decide)) Z.bi_UnlikeSorts rfl rfl Z.gm_UnlikeSorts) (da_cons de_str (da_cons (de_tup da_nil) da_nil)))) (da_cons (de_tup (da_cons (de_mkXK ⟨Z.xk_InvalidText, Z.xn_InvalidText, by decide, by decide⟩ (ok_InvalidText_init Z) (hr.mono (by decide)) Z.kb_InvalidText_init_value rfl rfl Z.gm_InvalidText (dk_cons (de_var 1) dk_nil)) (da_cons de_str (da_cons (de_tup (da_cons (de_var 1) da_nil)) da_nil)))) da_nil))))))
  (dss_cons (ds_set (i := 2) sc_law_errors_of.nd rfl (by first | exact .inl rfl | exact .inr rfl) (de_plus (de_var 2) (de_lst (da_cons (de_tup (da_cons (de_mkXK ⟨Z.xk_InvalidBoard, Z.xn_InvalidBoard, by decide, by decide⟩ (ok_InvalidBoard_init Z) (hr.mono (by decide)) Z.kb_InvalidBoard_init_name rfl rfl Z.gm_InvalidBoard (dk_cons (de_var 0) dk_nil)) (da_cons de_str (da_cons (de_tup (da_cons (de_var 0) da_nil)) da_nil)))) (da_cons (de_tup (da_cons (de_mkXK ⟨Z.xk_TooDeep, Z.xn_TooDeep, by decide, by decide⟩ (ok_TooDeep_init Z) (hr.mono (by decide)) Z.kb_TooDeep_init_most rfl rfl Z.gm_TooDeep (dk_cons (de_var 0) dk_nil)) (da_cons de_str (da_cons (de_tup (da_cons (de_var 0) da_nil)) da_nil)))) (da_cons (de_tup (da_cons (de_mkXK ⟨Z.xk_TooMany, Z.xn_TooMany, by decide, by decide⟩ (ok_TooMany_init Z) (hr.mono (by decide)) Z.kb_TooMany_init_most rfl rfl Z.gm_TooMany (dk_cons (de_var 1) dk_nil)) (da_cons de_str (da_cons (de_tup (da_cons (de_var 1) da_nil)) da_nil)))) da_nil))))))
  (dss_cons (ds_set (i := 2) sc_law_errors_of.nd rfl (by first | exact .inl rfl | exact .inr rfl) (de_plus (de_var 2) (de_lst (da_cons (de_tup (da_cons (de_mkX0 ⟨Z.xk_NotBelow, Z.xn_NotBelow, by decide, by decide⟩ (ok_NotBelow_init Z) (hr.mono (by decide)) Z.bi_NotBelow rfl rfl Z.gm_NotBelow) (da_cons de_str (da_cons (de_tup da_nil) da_nil)))) (da_cons (de_tup (da_cons (de_mkXK ⟨Z.xk_InUse, Z.xn_InUse, by decide, by decide⟩ (ok_InUse_init Z) (hr.mono (by decide)) Z.kb_InUse_init_name rfl rfl Z.gm_InUse (dk_cons (de_var 1) dk_nil)) (da_cons de_str (da_cons (de_tup (da_cons (de_var 1) da_nil)) da_nil)))) (da_cons (de_tup (da_cons (de_mkXK ⟨Z.xk_NotTold, Z.xn_NotTold, by decide, by decide⟩ (ok_NotTold_init Z) (hr.mono (by decide)) Z.kb_NotTold_init_high_low rfl rfl Z.gm_NotTold (dk_cons (de_var 0) (dk_cons (de_var 1) dk_nil))) (da_cons de_str (da_cons (de_tup (da_cons (de_var 1) (da_cons (de_var 0) da_nil))) da_nil)))) (da_cons (de_tup (da_cons (de_mkXK ⟨Z.xk_Full, Z.xn_Full, by decide, by decide⟩ (ok_Full_init Z) (hr.mono (by decide)) Z.kb_Full_init_limit rfl rfl Z.gm_Full (dk_cons (de_var 0) dk_nil)) (da_cons de_str (da_cons (de_tup (da_cons (de_var 0) da_nil)) da_nil)))) da_nil)))))))
  (dss_one (ds_ret (de_plus (de_var 2) (de_lst (da_cons (de_tup (da_cons (de_mkXK ⟨Z.xk_InvalidLimit, Z.xn_InvalidLimit, by decide, by decide⟩ (ok_InvalidLimit_init Z) (hr.mono (by decide)) Z.kb_InvalidLimit_init_value rfl rfl Z.gm_InvalidLimit (dk_cons (de_var 0) dk_nil)) (da_cons de_str (da_cons (de_tup (da_cons (de_var 0) da_nil)) da_nil)))) (da_cons (de_tup (da_cons (de_mkXK ⟨Z.xk_InvalidCommand, Z.xn_InvalidCommand, by decide, by decide⟩ (ok_InvalidCommand_init Z) (hr.mono (by decide)) Z.kb_InvalidCommand_init_at rfl rfl Z.gm_InvalidCommand (dk_cons (de_var 1) dk_nil)) (da_cons de_str (da_cons (de_tup (da_cons (de_var 1) da_nil)) da_nil)))) (da_cons (de_tup (da_cons (de_mkXK ⟨Z.xk_InvalidPage, Z.xn_InvalidPage, by decide, by decide⟩ (ok_InvalidPage_init Z) (hr.mono (by decide)) Z.kb_InvalidPage_init_line rfl rfl Z.gm_InvalidPage (dk_cons (de_var 0) dk_nil)) (da_cons de_str (da_cons (de_tup (da_cons (de_var 0) da_nil)) da_nil)))) da_nil))))))))))))
theorem ok_NothingLeft_init (Z : Txt K mg w) : FnOk P w K mg base (L2.CX P w) 1 Z.d_NothingLeft_init.f Z.d_NothingLeft_init.fd ["self"] (spX K (cmOf mg "NothingLeft") Z.d_NothingLeft_init.f 0 fl_NothingLeft) :=
  fn_X0 (k := 0) Z.d_NothingLeft_init.F sc_NothingLeft_init rfl rfl fun cdv A outer s H E =>
  (pss_one (ps_ostX (pe_var (i := 0) rfl (by first | exact .inl rfl | exact .inr (.inl rfl))) pe_str))
theorem ok_law_draw (Z : Txt K mg w) : FnOk P w K mg base (L2.CX P w) 1 Z.d_law_draw.f Z.d_law_draw.fd ["_law_bag_here", "_law_many"] (spB K (cmOf mg) 2 f_law_draw) :=
  fn_B (k := 0) Z.d_law_draw.F sc_law_draw rfl rfl fun cdv A outer s H E hr =>
  (dss_cons (ds_asg (de_plus (de_ix (de_var 0) de_int (fun _ _ => rfl)) de_int) (dg_subM (de_var 0) de_int))
  (dss_cons (ds_if (dt_w (dw_and (dt_cmp (op_eqA hr.units) top_eq.d (de_ix (de_var 0) de_int (fun _ _ => rfl)) de_int (nomark _)) (dw_and1 (dt_cmp op_lt (top_I0 fun _ _ _ => rep_bl).d (de_ix (de_var 0) de_int (fun _ _ => rfl)) (de_len rfl Z.n_len (da_cons (de_ix (de_var 0) de_int (fun _ _ => rfl)) da_nil)) (nomark _))))) (dss_cons (ds_set (i := 2) sc_law_draw.nd rfl (by first | exact .inl rfl | exact .inr rfl) (de_ix (de_ix (de_var 0) de_int (fun _ _ => rfl)) (de_ix (de_var 0) de_int (fun _ _ => rfl)) (fun _ _ => rfl)))
  (dss_cons (ds_asg (de_plus (de_ix (de_var 0) de_int (fun _ _ => rfl)) de_int) (dg_subM (de_var 0) de_int))
  (dss_one (ds_if (dt_cmp op_ge (top_I0 fun _ _ _ => rep_bl).d (de_var 2) (de_pow de_int de_int) (nomark _)) (dss_one (ds_asg (de_var 2) (dg_subM (de_var 0) de_int))) (dss_one (ds_asg (de_mod (de_intc rfl Z.n_int (da_cons (de_plus (de_plus (de_mul (de_ix (de_var 0) de_int (fun _ _ => rfl)) de_int) (de_mul (de_mod (de_intc rfl Z.n_int (da_cons (de_var 2) da_nil)) de_int) de_int)) de_int) da_nil)) de_int) (dg_subM (de_var 0) de_int))))))) dss_nil)
  (dss_cons (ds_if (dt_cmp op_gt (top_I0 fun _ _ _ => rep_bl).d (de_ix (de_var 0) de_int (fun _ _ => rfl)) de_int (nomark _)) (dss_cons (ds_set (i := 3) sc_law_draw.nd rfl (by first | exact .inl rfl | exact .inr rfl) (de_mod (de_intc rfl Z.n_int (da_cons (de_ix (de_var 0) de_int (fun _ _ => rfl)) da_nil)) (de_var 1)))
  (dss_cons (ds_asg (de_fdiv (de_ix (de_var 0) de_int (fun _ _ => rfl)) (de_var 1)) (dg_subM (de_var 0) de_int))
  (dss_one (ds_ret (de_var 3))))) dss_nil)
  (dss_cons (ds_set (i := 4) sc_law_draw.nd rfl (by first | exact .inl rfl | exact .inr rfl) (de_intc rfl Z.n_int (da_cons (de_ix (de_var 0) de_int (fun _ _ => rfl)) da_nil)))
  (dss_cons (ds_asg (de_mod (de_intc rfl Z.n_int (da_cons (de_plus (de_plus (de_plus (de_pow (de_var 4) de_int) (de_mul (de_var 4) de_int)) (de_mul (de_ix (de_var 0) de_int (fun _ _ => rfl)) de_int)) de_int) da_nil)) de_int) (dg_subM (de_var 0) de_int))
  (dss_one (ds_ret (de_mod (de_intc rfl Z.n_int (da_cons (de_plus (de_fdiv (de_ix (de_var 0) de_int (fun _ _ => rfl)) de_int) (de_mul (de_mod (de_intc rfl Z.n_int (da_cons (de_ix (de_var 0) de_int (fun _ _ => rfl)) da_nil)) de_int) de_int)) da_nil)) (de_var 1)))))))))
theorem ok_law_of (Z : Txt K mg w) : FnOk P w K mg base (L2.CX P w) 4 Z.d_law_of.f Z.d_law_of.fd ["_law_bag_here", "_law_some"] (spB K (cmOf mg) 2 f_law_of) :=
  fn_B (k := 3) Z.d_law_of.F sc_law_of rfl rfl fun cdv A outer s H E hr =>
  (dss_one (ds_ret (de_ix (de_var 1) (de_callBag ((ok_law_draw Z)) (hr.mono (by decide)) rfl Z.d_law_draw.m Z.d_law_draw.F.kp Z.d_law_draw.b (lets_of (takes_of rfl rfl rfl rfl)) (da_cons (de_var 0) (da_cons (de_len rfl Z.n_len (da_cons (de_var 1) da_nil)) da_nil))) (fun _ _ => rfl))))
theorem ok_law_same (Z : Txt K mg w) : ∀ n, FnOk P w K mg base (L2.CX P w) (1 + n) Z.d_law_same.f Z.d_law_same.fd ["_law_found", "_law_due"] (spP K (cmOf mg) 2 (f_law_same n))
  | 0 => fn_P_fail rfl
  | n + 1 => by
    have ih := ok_law_same Z n
    exact fn_P (k := 1 + n) Z.d_law_same.F sc_law_same rfl rfl fun cdv A outer s H E hr =>
  (dss_cons (ds_if (dt_w (dw_or (dt_cmp op_isN top_isN.d (de_var 1) de_non (nomark _)) (dw_or1 (dt_cmp op_isN top_isN.d (de_var 0) de_non (nomark _))))) (dss_one (ds_ret (de_and (de_cmp op_isN top_isN.d (de_var 1) de_non (nomark _)) (de_one (de_cmp op_isN top_isN.d (de_var 0) de_non (nomark _)))))) dss_nil)
  (dss_cons (ds_if (dt_val (de_isi tabB_ok rfl Z.n_isinstance (da_cons (de_var 1) (da_cons (de_tup (da_cons (de_ty rfl Z.n_list Bm.boot_list) (da_cons (de_ty rfl Z.n_tuple Bm.boot_tuple) da_nil))) da_nil)))) (dss_cons (ds_if (dt_w (dw_or (dt_cmp (op_neA hr.units) top_ne.d (de_isi tabB_ok rfl Z.n_isinstance (da_cons (de_var 0) (da_cons (de_ty rfl Z.n_list Bm.boot_list) da_nil))) (de_isi tabB_ok rfl Z.n_isinstance (da_cons (de_var 1) (da_cons (de_ty rfl Z.n_list Bm.boot_list) da_nil))) (nomark _)) (dw_or1 (dt_cmp (op_neA hr.units) top_ne.d (de_isi tabB_ok rfl Z.n_isinstance (da_cons (de_var 0) (da_cons (de_ty rfl Z.n_tuple Bm.boot_tuple) da_nil))) (de_isi tabB_ok rfl Z.n_isinstance (da_cons (de_var 1) (da_cons (de_ty rfl Z.n_tuple Bm.boot_tuple) da_nil))) (nomark _))))) (dss_one (ds_ret de_bl)) dss_nil)
  (dss_one (ds_ret (de_and (de_cmp (op_eqA hr.units) top_eq.d (de_len rfl Z.n_len (da_cons (de_var 0) da_nil)) (de_len rfl Z.n_len (da_cons (de_var 1) da_nil)) (nomark _)) (de_one (de_all rfl rfl Z.n_all (da_cons (de_lc (own := [("_law_one", 2), ("_law_two", 3)]) rfl sc_law_same.nd (di_zip rfl Z.n_zip (da_cons (de_var 0) (da_cons (de_var 1) da_nil))) (blkOk_by (N := N_law_same) (sc := defScope s_law_same) (by decide +kernel)) (by decide) (fun _ _ _ _ _ => (dg_tup rfl (dgs_cons (dg_name sc_law_same.nd rfl (by first | exact .inl rfl | exact .inr rfl)) (dgs_cons (dg_name sc_law_same.nd rfl (by first | exact .inl rfl | exact .inr rfl)) dgs_nil)))) (fun _ _ _ _ _ => dts_nil) (fun _ _ _ _ _ => (de_call (ih) hr rfl Z.d_law_same.m Z.d_law_same.F.kp Z.d_law_same.b lets_blk (da_cons (de_var 2) (da_cons (de_var 3) da_nil))))) da_nil))))))) dss_nil)
  (dss_cons (ds_if (dt_w (dw_or (dt_cmp (op_neA hr.units) top_ne.d (de_isi tabB_ok rfl Z.n_isinstance (da_cons (de_var 0) (da_cons (de_ty rfl Z.n_bool Bm.boot_bool) da_nil))) (de_isi tabB_ok rfl Z.n_isinstance (da_cons (de_var 1) (da_cons (de_ty rfl Z.n_bool Bm.boot_bool) da_nil))) (nomark _)) (dw_or1 (dt_cmp (op_neA hr.units) top_ne.d (de_isi tabB_ok rfl Z.n_isinstance (da_cons (de_var 0) (da_cons (de_ty rfl Z.n_int Bm.boot_int) da_nil))) (de_isi tabB_ok rfl Z.n_isinstance (da_cons (de_var 1) (da_cons (de_ty rfl Z.n_int Bm.boot_int) da_nil))) (nomark _))))) (dss_one (ds_ret de_bl)) dss_nil)
  (dss_one (ds_ret (de_and (de_cmp (op_eqA hr.units) top_eq.d (de_isi tabB_ok rfl Z.n_isinstance (da_cons (de_var 0) (da_cons (de_ty rfl Z.n_str Bm.boot_str) da_nil))) (de_isi tabB_ok rfl Z.n_isinstance (da_cons (de_var 1) (da_cons (de_ty rfl Z.n_str Bm.boot_str) da_nil))) (nomark _)) (de_one (de_cmp (op_eqA hr.units) top_eq.d (de_var 0) (de_var 1) (nomark _)))))))))
theorem ok_law_kinds (Z : Txt K mg w) : FnOk P w K mg base (L2.CX P w) 1 Z.d_law_kinds.f Z.d_law_kinds.fd ["_law_e"] (spP K (cmOf mg) 1 f_law_kinds) :=
  fn_P (k := 0) Z.d_law_kinds.F sc_law_kinds rfl rfl fun cdv A outer s H E hr =>
  (dss_cons (ds_set (i := 1) sc_law_kinds.nd rfl (by first | exact .inl rfl | exact .inr rfl) (de_lst (da_cons (de_isx (xtab_ok Z.xa) rfl Z.n_isinstance (da_cons (de_var 0) (da_cons (de_gl rfl Z.gc_InvalidName) da_nil))) (da_cons (de_isx (xtab_ok Z.xa) rfl Z.n_isinstance (da_cons (de_var 0) (da_cons (de_gl rfl Z.gc_InvalidDeclaration) da_nil))) (da_cons (de_isx (xtab_ok Z.xa) rfl Z.n_isinstance (da_cons (de_var 0) (da_cons (de_gl rfl Z.gc_DuplicateName) da_nil))) (da_cons (de_isx (xtab_ok Z.xa) rfl Z.n_isinstance (da_cons (de_var 0) (da_cons (de_gl rfl Z.gc_Unlike) da_nil))) (da_cons (de_isx (xtab_ok Z.xa) rfl Z.n_isinstance (da_cons (de_var 0) (da_cons (de_gl rfl Z.gc_Ring) da_nil))) da_nil)))))))
  (dss_cons (ds_set (i := 1) sc_law_kinds.nd rfl (by first | exact .inl rfl | exact .inr rfl) (de_plus (de_var 1) (de_lst (da_cons (de_isx (xtab_ok Z.xa) rfl Z.n_isinstance (da_cons (de_var 0) (da_cons (de_gl rfl Z.gc_WrongSort) da_nil))) (da_cons (de_isx (xtab_ok Z.xa) rfl Z.n_isinstance (da_cons (de_var 0) (da_cons (de_gl rfl Z.gc_UnlikeSorts) da_nil))) (da_cons (de_isx (xtab_ok Z.xa) rfl Z.n_isinstance (da_cons (de_var 0) (da_cons (de_gl rfl Z.gc_InvalidText) da_nil))) (da_cons (de_isx (xtab_ok Z.xa) rfl Z.n_isinstance (da_cons (de_var 0) (da_cons (de_gl rfl Z.gc_InvalidBoard) da_nil))) (da_cons (de_isx (xtab_ok Z.xa) rfl Z.n_isinstance (da_cons (de_var 0) (da_cons (de_gl rfl Z.gc_TooDeep) da_nil))) da_nil))))))))
  (dss_cons (ds_set (i := 1) sc_law_kinds.nd rfl (by first | exact .inl rfl | exact .inr rfl) (de_plus (de_var 1) (de_lst (da_cons (de_isx (xtab_ok Z.xa) rfl Z.n_isinstance (da_cons (de_var 0) (da_cons (de_gl rfl Z.gc_TooMany) da_nil))) (da_cons (de_isx (xtab_ok Z.xa) rfl Z.n_isinstance (da_cons (de_var 0) (da_cons (de_gl rfl Z.gc_NotBelow) da_nil))) (da_cons (de_isx (xtab_ok Z.xa) rfl Z.n_isinstance (da_cons (de_var 0) (da_cons (de_gl rfl Z.gc_InUse) da_nil))) (da_cons (de_isx (xtab_ok Z.xa) rfl Z.n_isinstance (da_cons (de_var 0) (da_cons (de_gl rfl Z.gc_NotTold) da_nil))) (da_cons (de_isx (xtab_ok Z.xa) rfl Z.n_isinstance (da_cons (de_var 0) (da_cons (de_gl rfl Z.gc_Full) da_nil))) da_nil))))))))
  (dss_one (ds_ret (de_plus (de_var 1) (de_lst (da_cons (de_isx (xtab_ok Z.xa) rfl Z.n_isinstance (da_cons (de_var 0) (da_cons (de_gl rfl Z.gc_InvalidLimit) da_nil))) (da_cons (de_isx (xtab_ok Z.xa) rfl Z.n_isinstance (da_cons (de_var 0) (da_cons (de_gl rfl Z.gc_InvalidCommand) da_nil))) (da_cons (de_isx (xtab_ok Z.xa) rfl Z.n_isinstance (da_cons (de_var 0) (da_cons (de_gl rfl Z.gc_InvalidPage) da_nil))) (da_cons (de_isx (xtab_ok Z.xa) rfl Z.n_isinstance (da_cons (de_var 0) (da_cons (de_gl rfl Z.gc_UnknownName) da_nil))) (da_cons (de_isx (xtab_ok Z.xa) rfl Z.n_isinstance (da_cons (de_var 0) (da_cons (de_gl rfl Z.gc_UnknownClaim) da_nil))) (da_cons (de_isx (xtab_ok Z.xa) rfl Z.n_isinstance (da_cons (de_var 0) (da_cons (de_gl rfl Z.gc_NothingLeft) da_nil))) da_nil)))))))))))))
theorem ok_UnknownName_init (Z : Txt K mg w) : FnOk P w K mg base (L2.CX P w) 1 Z.d_UnknownName_init.f Z.d_UnknownName_init.fd ["self", "name"] (spX K (cmOf mg "UnknownName") Z.d_UnknownName_init.f 1 fl_UnknownName) :=
  fn_X1 (k := 0) Z.d_UnknownName_init.F sc_UnknownName_init rfl rfl fun cdv A outer s H E =>
  (pss_cons (ps_ostX (pe_var (i := 0) rfl (by first | exact .inl rfl | exact .inr (.inl rfl))) (pe_var (i := 1) rfl (by first | exact .inl rfl | exact .inr (.inl rfl)))) (pss_one (ps_ostX (pe_var (i := 0) rfl (by first | exact .inl rfl | exact .inr (.inl rfl))) pe_str)))
theorem ok_UnknownClaim_init (Z : Txt K mg w) : FnOk P w K mg base (L2.CX P w) 1 Z.d_UnknownClaim_init.f Z.d_UnknownClaim_init.fd ["self", "name"] (spX K (cmOf mg "UnknownClaim") Z.d_UnknownClaim_init.f 1 fl_UnknownClaim) :=
  fn_X1 (k := 0) Z.d_UnknownClaim_init.F sc_UnknownClaim_init rfl rfl fun cdv A outer s H E =>
  (pss_cons (ps_ostX (pe_var (i := 0) rfl (by first | exact .inl rfl | exact .inr (.inl rfl))) (pe_var (i := 1) rfl (by first | exact .inl rfl | exact .inr (.inl rfl)))) (pss_one (ps_ostX (pe_var (i := 0) rfl (by first | exact .inl rfl | exact .inr (.inl rfl))) pe_str)))
theorem ok_law_field (Z : Txt K mg w) : FnOk P w K mg base (L2.CX P w) 1 Z.d_law_field.f Z.d_law_field.fd ["_law_e"] (spP K (cmOf mg) 1 f_law_field) :=
  fn_P (k := 0) Z.d_law_field.F sc_law_field rfl rfl fun cdv A outer s H E hr =>
  (dss_cons (ds_if (dt_cmp op_inA top_in.d (de_xf Z.xf_code (de_var 0)) (de_tup (da_cons de_str (da_cons de_str (da_cons de_str da_nil)))) (by with_unfolding_all rfl)) (dss_one (ds_ret (de_tup (da_cons (de_xf Z.xf_value (de_var 0)) da_nil)))) dss_nil)
  (dss_cons (ds_if (dt_cmp op_inA top_in.d (de_xf Z.xf_code (de_var 0)) (de_tup (da_cons de_str (da_cons de_str da_nil))) (by with_unfolding_all rfl)) (dss_one (ds_ret (de_tup (da_cons (de_xf Z.xf_at (de_var 0)) da_nil)))) dss_nil)
  (dss_cons (ds_if (dt_cmp op_inA top_in.d (de_xf Z.xf_code (de_var 0)) (de_tup (da_cons de_str (da_cons de_str (da_cons de_str (da_cons de_str (da_cons de_str da_nil)))))) (by with_unfolding_all rfl)) (dss_one (ds_ret (de_tup (da_cons (de_xf Z.xf_name (de_var 0)) da_nil)))) dss_nil)
  (dss_cons (ds_if (dt_cmp op_inA top_in.d (de_xf Z.xf_code (de_var 0)) (de_tup (da_cons de_str (da_cons de_str (da_cons de_str da_nil)))) (by with_unfolding_all rfl)) (dss_one (ds_ret (de_tup (da_cons (de_xf Z.xf_low (de_var 0)) (da_cons (de_xf Z.xf_high (de_var 0)) da_nil))))) dss_nil)
  (dss_cons (ds_if (dt_cmp op_inA top_in.d (de_xf Z.xf_code (de_var 0)) (de_tup (da_cons de_str (da_cons de_str da_nil))) (by with_unfolding_all rfl)) (dss_one (ds_ret (de_tup (da_cons (de_xf Z.xf_most (de_var 0)) da_nil)))) dss_nil)
  (dss_cons (ds_if (dt_cmp (op_eqA hr.units) top_eq.d (de_xf Z.xf_code (de_var 0)) de_str (nomark _)) (dss_one (ds_ret (de_tup (da_cons (de_xf Z.xf_path (de_var 0)) da_nil)))) dss_nil)
  (dss_one (ds_ret (de_if (dt_cmp (op_eqA hr.units) top_eq.d (de_xf Z.xf_code (de_var 0)) de_str (nomark _)) (de_tup (da_cons (de_xf Z.xf_limit (de_var 0)) da_nil)) (de_if (dt_cmp (op_eqA hr.units) top_eq.d (de_xf Z.xf_code (de_var 0)) de_str (nomark _)) (de_tup (da_cons (de_xf Z.xf_line (de_var 0)) da_nil)) (de_tup da_nil)))))))))))
theorem ok_law (Z : Txt K mg w) : FnOk P w K mg base (L2.CX P w) 16 Z.d_law.f Z.d_law.fd ["_law_script"] (spP K (cmOf mg) 1 f_law) :=
  fn_P (k := 15) Z.d_law.F sc_law rfl rfl fun cdv A outer s H E hr =>
  (dss_cons (ds_set (i := 1) sc_law.nd rfl (by first | exact .inl rfl | exact .inr rfl) (de_callM ((ok_law_bag Z)) (hr.mono (by decide)) rfl Z.d_law_bag.m Z.d_law_bag.F.kp Z.d_law_bag.b (lets_of (takes_of rfl rfl rfl rfl)) (da_cons (de_var 0) da_nil)))
  (dss_cons (ds_set (i := 2) sc_law.nd rfl (by first | exact .inl rfl | exact .inr rfl) (de_lst (da_cons de_non (da_cons de_bl (da_cons de_bl (da_cons de_str (da_cons de_str (da_cons de_str (da_cons de_int (da_cons (de_neg de_int) (da_cons (de_plus (de_pow de_int de_int) (de_callBag ((ok_law_draw Z)) (hr.mono (by decide)) rfl Z.d_law_draw.m Z.d_law_draw.F.kp Z.d_law_draw.b (lets_of (takes_of rfl rfl rfl rfl)) (da_cons (de_var 1) (da_cons (de_pow de_int de_int) da_nil)))) (da_cons (de_tup da_nil) (da_cons (de_tup (da_cons de_str (da_cons de_str da_nil))) (da_cons (de_lst da_nil) (da_cons (de_lst (da_cons de_int (da_cons (de_tup (da_cons de_int da_nil)) da_nil))) (da_cons de_str da_nil))))))))))))))))
  (dss_cons (ds_par rfl sc_law.nd rfl rfl (by decide) rfl rfl (da_cons (de_callBag ((ok_law_of Z)) (hr.mono (by decide)) rfl Z.d_law_of.m Z.d_law_of.F.kp Z.d_law_of.b (lets_of (takes_of rfl rfl rfl rfl)) (da_cons (de_var 1) (da_cons (de_var 2) da_nil))) (da_cons (de_callBag ((ok_law_of Z)) (hr.mono (by decide)) rfl Z.d_law_of.m Z.d_law_of.F.kp Z.d_law_of.b (lets_of (takes_of rfl rfl rfl rfl)) (da_cons (de_var 1) (da_cons (de_var 2) da_nil))) da_nil)) (by rfl))
  (dss_cons (ds_set (i := 5) sc_law.nd rfl (by first | exact .inl rfl | exact .inr rfl) (de_call ((ok_law_errors_of Z)) (hr.mono (by decide)) rfl Z.d_law_errors_of.m Z.d_law_errors_of.F.kp Z.d_law_errors_of.b (lets_of (takes_of rfl rfl rfl rfl)) (da_cons (de_var 3) (da_cons (de_var 4) da_nil))))
  (dss_cons (ds_for (passes_of rfl) rfl (di_range1 rfl Z.n_range (da_cons (de_len rfl Z.n_len (da_cons (de_var 5) da_nil)) da_nil)) (dg_name sc_law.nd rfl (by first | exact .inl rfl | exact .inr rfl)) (dss_cons (ds_asg (de_ix (de_var 5) (de_var 6) (fun _ _ => rfl)) (dg_tup rfl (dgs_cons (dg_name sc_law.nd rfl (by first | exact .inl rfl | exact .inr rfl)) (dgs_cons (dg_name sc_law.nd rfl (by first | exact .inl rfl | exact .inr rfl)) (dgs_cons (dg_name sc_law.nd rfl (by first | exact .inl rfl | exact .inr rfl)) dgs_nil)))))
  (dss_cons (ds_if (dt_not (dt_val (de_call ((ok_law_same Z 12)) (hr.mono (by decide)) rfl Z.d_law_same.m Z.d_law_same.F.kp Z.d_law_same.b (lets_of (takes_of rfl rfl rfl rfl)) (da_cons (de_lst (da_cons (de_xf Z.xf_code (de_var 7)) (da_cons (de_call ((ok_law_field Z)) (hr.mono (by decide)) rfl Z.d_law_field.m Z.d_law_field.F.kp Z.d_law_field.b (lets_of (takes_of rfl rfl rfl rfl)) (da_cons (de_var 7) da_nil)) da_nil))) (da_cons (de_lst (da_cons (de_var 8) (da_cons (de_var 9) da_nil))) da_nil))))) (dss_one (ds_ret de_bl)) dss_nil)
  (dss_cons (ds_if (dt_cmp (op_neA hr.units) top_ne.d (de_call ((ok_law_kinds Z)) (hr.mono (by decide)) rfl Z.d_law_kinds.m Z.d_law_kinds.F.kp Z.d_law_kinds.b (lets_of (takes_of rfl rfl rfl rfl)) (da_cons (de_var 7) da_nil)) (de_lc (own := [("_law_k", 11)]) rfl sc_law.nd (di_range1 rfl Z.n_range (da_cons de_int da_nil)) (blkOk_by (N := N_law) (sc := defScope s_law) (by decide +kernel)) (by decide) (fun _ _ _ _ _ => (dg_name sc_law.nd rfl (by first | exact .inl rfl | exact .inr rfl))) (fun _ _ _ _ _ => dts_nil) (fun _ _ _ _ _ => (de_cmp (op_eqA hr.units) top_eq.d (de_var 11) (de_var 6) (nomark _)))) (nomark _)) (dss_one (ds_ret de_bl)) dss_nil)
  (dss_one (ds_if (dt_w (dw_or (dt_not (dt_val (de_isx (xtab_ok Z.xa) rfl Z.n_isinstance (da_cons (de_var 7) (da_cons (de_gl rfl Z.gc_MapError) da_nil))))) (dw_or (dt_not (dt_val (de_isx (xtab_ok Z.xa) rfl Z.n_isinstance (da_cons (de_var 7) (da_cons (de_ty rfl Z.n_ValueError Bm.boot_ValueError) da_nil))))) (dw_or (dt_val (de_isx (xtab_ok Z.xa) rfl Z.n_isinstance (da_cons (de_var 7) (da_cons (de_gl rfl Z.gc_Missing) da_nil)))) (dw_or1 (dt_val (de_isx (xtab_ok Z.xa) rfl Z.n_isinstance (da_cons (de_var 7) (da_cons (de_ty rfl Z.n_LookupError Bm.boot_LookupError) da_nil))))))))) (dss_one (ds_ret de_bl)) dss_nil))))))
  (dss_cons (ds_for (passes_of rfl) rfl (di_list (de_lst (da_cons (de_tup (da_cons (de_mkXK ⟨Z.xk_UnknownName, Z.xn_UnknownName, by decide, by decide⟩ (ok_UnknownName_init Z) (hr.mono (by decide)) Z.kb_UnknownName_init_name rfl rfl Z.gm_UnknownName (dk_cons (de_var 3) dk_nil)) (da_cons de_str (da_cons de_int da_nil)))) (da_cons (de_tup (da_cons (de_mkXK ⟨Z.xk_UnknownClaim, Z.xn_UnknownClaim, by decide, by decide⟩ (ok_UnknownClaim_init Z) (hr.mono (by decide)) Z.kb_UnknownClaim_init_name rfl rfl Z.gm_UnknownClaim (dk_cons (de_var 3) dk_nil)) (da_cons de_str (da_cons de_int da_nil)))) da_nil)))) (dg_tup rfl (dgs_cons (dg_name sc_law.nd rfl (by first | exact .inl rfl | exact .inr rfl)) (dgs_cons (dg_name sc_law.nd rfl (by first | exact .inl rfl | exact .inr rfl)) (dgs_cons (dg_name sc_law.nd rfl (by first | exact .inl rfl | exact .inr rfl)) dgs_nil)))) (dss_cons (ds_if (dt_w (dw_or (dt_not (dt_val (de_call ((ok_law_same Z 12)) (hr.mono (by decide)) rfl Z.d_law_same.m Z.d_law_same.F.kp Z.d_law_same.b (lets_of (takes_of rfl rfl rfl rfl)) (da_cons (de_lst (da_cons (de_xf Z.xf_code (de_var 7)) (da_cons (de_xf Z.xf_name (de_var 7)) da_nil))) (da_cons (de_lst (da_cons (de_var 8) (da_cons (de_var 3) da_nil))) da_nil))))) (dw_or1 (dt_cmp (op_neA hr.units) top_ne.d (de_call ((ok_law_kinds Z)) (hr.mono (by decide)) rfl Z.d_law_kinds.m Z.d_law_kinds.F.kp Z.d_law_kinds.b (lets_of (takes_of rfl rfl rfl rfl)) (da_cons (de_var 7) da_nil)) (de_lc (own := [("_law_k", 11)]) rfl sc_law.nd (di_range1 rfl Z.n_range (da_cons de_int da_nil)) (blkOk_by (N := N_law) (sc := defScope s_law) (by decide +kernel)) (by decide) (fun _ _ _ _ _ => (dg_name sc_law.nd rfl (by first | exact .inl rfl | exact .inr rfl))) (fun _ _ _ _ _ => dts_nil) (fun _ _ _ _ _ => (de_cmp (op_eqA hr.units) top_eq.d (de_var 11) (de_var 6) (nomark _)))) (nomark _))))) (dss_one (ds_ret de_bl)) dss_nil)
  (dss_one (ds_if (dt_w (dw_or (dt_not (dt_val (de_isx (xtab_ok Z.xa) rfl Z.n_isinstance (da_cons (de_var 7) (da_cons (de_gl rfl Z.gc_Missing) da_nil))))) (dw_or (dt_not (dt_val (de_isx (xtab_ok Z.xa) rfl Z.n_isinstance (da_cons (de_var 7) (da_cons (de_ty rfl Z.n_LookupError Bm.boot_LookupError) da_nil))))) (dw_or (dt_val (de_isx (xtab_ok Z.xa) rfl Z.n_isinstance (da_cons (de_var 7) (da_cons (de_gl rfl Z.gc_MapError) da_nil)))) (dw_or1 (dt_val (de_isx (xtab_ok Z.xa) rfl Z.n_isinstance (da_cons (de_var 7) (da_cons (de_ty rfl Z.n_ValueError Bm.boot_ValueError) da_nil))))))))) (dss_one (ds_ret de_bl)) dss_nil))))
  (dss_cons (ds_set (i := 10) sc_law.nd rfl (by first | exact .inl rfl | exact .inr rfl) (de_mkX0 ⟨Z.xk_NothingLeft, Z.xn_NothingLeft, by decide, by decide⟩ (ok_NothingLeft_init Z) (hr.mono (by decide)) Z.bi_NothingLeft rfl rfl Z.gm_NothingLeft))
  (dss_cons (ds_if (dt_w (dw_or (dt_cmp (op_neA hr.units) top_ne.d (de_xf Z.xf_code (de_var 10)) de_str (nomark _)) (dw_or1 (dt_cmp (op_neA hr.units) top_ne.d (de_call ((ok_law_kinds Z)) (hr.mono (by decide)) rfl Z.d_law_kinds.m Z.d_law_kinds.F.kp Z.d_law_kinds.b (lets_of (takes_of rfl rfl rfl rfl)) (da_cons (de_var 10) da_nil)) (de_lc (own := [("_law_k", 11)]) rfl sc_law.nd (di_range1 rfl Z.n_range (da_cons de_int da_nil)) (blkOk_by (N := N_law) (sc := defScope s_law) (by decide +kernel)) (by decide) (fun _ _ _ _ _ => (dg_name sc_law.nd rfl (by first | exact .inl rfl | exact .inr rfl))) (fun _ _ _ _ _ => dts_nil) (fun _ _ _ _ _ => (de_cmp (op_eqA hr.units) top_eq.d (de_var 11) de_int (nomark _)))) (nomark _))))) (dss_one (ds_ret de_bl)) dss_nil)
  (dss_one (ds_ret (de_and (de_isx (xtab_ok Z.xa) rfl Z.n_isinstance (da_cons (de_var 10) (da_cons (de_ty rfl Z.n_IndexError Bm.boot_IndexError) da_nil))) (de_and (de_not (de_isx (xtab_ok Z.xa) rfl Z.n_isinstance (da_cons (de_var 10) (da_cons (de_gl rfl Z.gc_MapError) da_nil)))) (de_one (de_not (de_isx (xtab_ok Z.xa) rfl Z.n_isinstance (da_cons (de_var 10) (da_cons (de_gl rfl Z.gc_Missing) da_nil)))))))))))))))))
end
end K01

/-! The plain functions by rewriting: one equation a construct. -/
namespace Bm
open PySem L2
theorem nr {α : Sort _} {a b : α} (h : a = b) : a = b := h
def rSeq (r : SRes) (g : FS) : SRes := match r with
  | .nx sl M => g sl M
  | r => r
section
variable {sl sl' : List (Option D)} {M M1 : List MO} {f g : FS} {F fa fb fc fo : FE} {fs fk : Fn (List D)} {d d0 d1 : D} {ds : List D} {t t1 : T} {ts us : List T} {k : Bool} {i j n : Nat}
theorem x_seq : sSeq f g sl M = rSeq (f sl M) g := by unfold sSeq rSeq; cases f sl M <;> rfl
theorem rSeq_nx : rSeq (.nx sl M) g = g sl M := nr rfl
theorem rSeq_rt : rSeq (.rt d M) g = .rt d M := nr rfl
theorem rSeq_bk : rSeq (.bk sl M) g = .bk sl M := nr rfl
theorem rSeq_ct : rSeq (.ct sl M) g = .ct sl M := nr rfl
theorem rSeq_exc {x : Xn} : rSeq (.exc x sl M) g = .exc x sl M := nr rfl
theorem rSeq_fail : rSeq .fail g = .fail := nr rfl
theorem bind_ok {α β : Type} {a : α} {q : α → List MO → Res β} : (Res.ok a M).bind q = q a M := nr rfl
theorem bind_exc {α β : Type} {x : Xn} {q : α → List MO → Res β} : (Res.exc x M : Res α).bind q = .exc x M := nr rfl
theorem bind_fail {α β : Type} {q : α → List MO → Res β} : (Res.fail : Res α).bind q = .fail := nr rfl
theorem toS_ok {α : Type} {a : α} {q : α → List MO → SRes} : (Res.ok a M).toS sl q = q a M := nr rfl
theorem toS_exc {α : Type} {x : Xn} {q : α → List MO → SRes} : (Res.exc x M : Res α).toS sl q = .exc x sl M := nr rfl
theorem toS_fail {α : Type} {q : α → List MO → SRes} : (Res.fail : Res α).toS sl q = .fail := nr rfl
def kSet (i : Nat) (sl : List (Option D)) (d : D) (M1 : List MO) : SRes := .nx (sl.set i (some d)) M1
theorem x_set : sSet i F sl M = (F sl M).toS sl (kSet i sl) := nr rfl
theorem y_set : kSet i sl d M = .nx (sl.set i (some d)) M := nr rfl
def kRet (d : D) (M1 : List MO) : SRes := .rt d M1
theorem x_ret : sRet F sl M = (F sl M).toS sl kRet := nr rfl
theorem y_ret : kRet d M = .rt d M := nr rfl
theorem x_retN : sRetN sl M = .rt (.t .non) M := nr rfl
def kExpr (sl : List (Option D)) (_d : D) (M1 : List MO) : SRes := .nx sl M1
theorem x_expr : sExpr F sl M = (F sl M).toS sl (kExpr sl) := nr rfl
theorem y_expr : kExpr sl d M = .nx sl M := nr rfl
theorem x_skip : sSkip sl M = .nx sl M := nr rfl
theorem x_pass : sPass sl M = .nx sl M := nr rfl
theorem x_break : sBreak sl M = .bk sl M := nr rfl
theorem x_cont : sCont sl M = .ct sl M := nr rfl
def kIfS (f g : FS) (sl : List (Option D)) (k : Bool) (M1 : List MO) : SRes := if k then f sl M1 else g sl M1
theorem x_if {tc : Fn Bool} : sIf tc f g sl M = (tc sl M).toS sl (kIfS f g sl) := nr rfl
theorem y_ifT : kIfS f g sl true M = f sl M := nr rfl
theorem y_ifF : kIfS f g sl false M = g sl M := nr rfl
theorem x_eB : eB F sl M = (F sl M).bind toB := nr rfl
theorem toB_bl : toB (.t (.bl k)) M = .ok k M := nr rfl
def kAndB (tb : Fn Bool) (sl : List (Option D)) (a : Bool) (M1 : List MO) : Res Bool := if a then tb sl M1 else .ok false M1
theorem x_bAnd {ta tb : Fn Bool} : bAnd ta tb sl M = (ta sl M).bind (kAndB tb sl) := nr rfl
theorem y_bAndT {tb : Fn Bool} : kAndB tb sl true M = tb sl M := nr rfl
theorem y_bAndF {tb : Fn Bool} : kAndB tb sl false M = .ok false M := nr rfl
def kOrB (tb : Fn Bool) (sl : List (Option D)) (a : Bool) (M1 : List MO) : Res Bool := if a then .ok true M1 else tb sl M1
theorem x_bOr {ta tb : Fn Bool} : bOr ta tb sl M = (ta sl M).bind (kOrB tb sl) := nr rfl
theorem y_bOrT {tb : Fn Bool} : kOrB tb sl true M = .ok true M := nr rfl
theorem y_bOrF {tb : Fn Bool} : kOrB tb sl false M = tb sl M := nr rfl
def kNotB (a : Bool) (M1 : List MO) : Res Bool := .ok (!a) M1
theorem x_bNot {ta : Fn Bool} : bNot ta sl M = (ta sl M).bind kNotB := nr rfl
theorem y_bNot : kNotB k M = .ok (!k) M := nr rfl
theorem x_bYes : bYes sl M = .ok true M := nr rfl
def kAndE (fb : FE) (sl : List (Option D)) (a : D) (M1 : List MO) : Res D := (toB a M1).bind fun k M2 => if k then fb sl M2 else .ok (.t (.bl false)) M2
theorem x_eAnd : eAnd fa fb sl M = (fa sl M).bind (kAndE fb sl) := nr rfl
theorem y_eAndT : kAndE fb sl (.t (.bl true)) M = fb sl M := nr rfl
theorem y_eAndF : kAndE fb sl (.t (.bl false)) M = .ok (.t (.bl false)) M := nr rfl
def kOrE (fb : FE) (sl : List (Option D)) (a : D) (M1 : List MO) : Res D := (toB a M1).bind fun k M2 => if k then .ok (.t (.bl true)) M2 else fb sl M2
theorem x_eOr : eOr fa fb sl M = (fa sl M).bind (kOrE fb sl) := nr rfl
theorem y_eOrT : kOrE fb sl (.t (.bl true)) M = .ok (.t (.bl true)) M := nr rfl
theorem y_eOrF : kOrE fb sl (.t (.bl false)) M = fb sl M := nr rfl
def kNotE (a : D) (M1 : List MO) : Res D := (toB a M1).bind fun k M2 => .ok (.t (.bl !k)) M2
theorem x_eNot : eNot fa sl M = (fa sl M).bind kNotE := nr rfl
theorem y_eNot : kNotE (.t (.bl k)) M = .ok (.t (.bl !k)) M := nr rfl
def kIfE (fa fb : FE) (sl : List (Option D)) (k : Bool) (M1 : List MO) : Res D := if k then fa sl M1 else fb sl M1
theorem x_eIf {tc : Fn Bool} : eIf tc fa fb sl M = (tc sl M).bind (kIfE fa fb sl) := nr rfl
theorem y_eIfT : kIfE fa fb sl true M = fa sl M := nr rfl
theorem y_eIfF : kIfE fa fb sl false M = fb sl M := nr rfl
theorem x_eC : eC t sl M = .ok (.t t) M := nr rfl
theorem x_var0 : eVar 0 (some d :: sl) M = .ok d M := nr rfl
theorem x_varS {o : Option D} : eVar (n + 1) (o :: sl) M = eVar n sl M := nr rfl
def kE2' (q : G2) (a b : D) (M2 : List MO) : Res D := q a b M2
def kE2 (q : G2) (fb : FE) (sl : List (Option D)) (a : D) (M1 : List MO) : Res D := (fb sl M1).bind (kE2' q a)
theorem x_e2 {q : G2} : e2 q fa fb sl M = (fa sl M).bind (kE2 q fb sl) := nr rfl
theorem y_e2 {q : G2} : kE2 q fb sl d M = (fb sl M).bind (kE2' q d) := nr rfl
theorem y_e2' {q : G2} : kE2' q d d1 M = q d d1 M := nr rfl
def kE3d (q' : G2) (b : D) (c : D) (M : List MO) : Res D := q' b c M
def kE3c (q' : G2) (b : D) (fc : FE) (sl : List (Option D)) (z : D) (M3 : List MO) : Res D := (toB z M3).bind fun k M4 => if k then (fc sl M4).bind (kE3d q' b) else .ok (.t (.bl false)) M4
def kE3b (q q' : G2) (a : D) (fc : FE) (sl : List (Option D)) (b : D) (M2 : List MO) : Res D := (q a b M2).bind (kE3c q' b fc sl)
def kE3a (q q' : G2) (fb fc : FE) (sl : List (Option D)) (a : D) (M1 : List MO) : Res D := (fb sl M1).bind (kE3b q q' a fc sl)
theorem x_e3 {q q' : G2} : e3 q q' fa fb fc sl M = (fa sl M).bind (kE3a q q' fb fc sl) := nr rfl
theorem y_e3a {q q' : G2} : kE3a q q' fb fc sl d M = (fb sl M).bind (kE3b q q' d fc sl) := nr rfl
theorem y_e3b {q q' : G2} : kE3b q q' d fc sl d1 M = (q d d1 M).bind (kE3c q' d1 fc sl) := nr rfl
theorem y_e3T {q' : G2} : kE3c q' d fc sl (.t (.bl true)) M = (fc sl M).bind (kE3d q' d) := nr rfl
theorem y_e3F {q' : G2} : kE3c q' d fc sl (.t (.bl false)) M = .ok (.t (.bl false)) M := nr rfl
theorem y_e3d {q' : G2} : kE3d q' d d1 M = q' d d1 M := nr rfl
theorem x_aNil : aNil sl M = .ok [] M := nr rfl
def kA2 (a : D) (as : List D) (M2 : List MO) : Res (List D) := .ok (a :: as) M2
def kA1 (fs : Fn (List D)) (sl : List (Option D)) (a : D) (M1 : List MO) : Res (List D) := (fs sl M1).bind (kA2 a)
theorem x_aCons : aCons fa fs sl M = (fa sl M).bind (kA1 fs sl) := nr rfl
theorem y_a1 : kA1 fs sl d M = (fs sl M).bind (kA2 d) := nr rfl
theorem y_a2 : kA2 d ds M = .ok (d :: ds) M := nr rfl
theorem x_eCB {q : GC} : eCB q fs sl M = (fs sl M).bind q := nr rfl
def kCK2 (q : List D → List D → List MO → Res D) (ds es : List D) (M2 : List MO) : Res D := q ds es M2
def kCK1 (q : List D → List D → List MO → Res D) (fk : Fn (List D)) (sl : List (Option D)) (ds : List D) (M1 : List MO) : Res D := (fk sl M1).bind (kCK2 q ds)
theorem x_eCK {q : List D → List D → List MO → Res D} : eCK q fs fk sl M = (fs sl M).bind (kCK1 q fk sl) := nr rfl
theorem y_ck1 {q : List D → List D → List MO → Res D} : kCK1 q fk sl ds M = (fk sl M).bind (kCK2 q ds) := nr rfl
theorem y_ck2 {q : List D → List D → List MO → Res D} {es : List D} : kCK2 q ds es M = q ds es M := nr rfl
def kNeg (d : D) (M1 : List MO) : Res D := match d with | .t (.int i) => .ok (.t (.int (-i))) M1 | _ => .fail
theorem x_eNeg : eNeg F sl M = (F sl M).bind kNeg := nr rfl
theorem y_neg {i : Int} : kNeg (.t (.int i)) M = .ok (.t (.int (-i))) M := nr rfl
theorem x_oNone : oNone sl M = .ok none M := nr rfl
def kSome (d : D) (M : List MO) : Res (Option Int) := match d with
  | .t (.int i) => .ok (some i) M
  | _ => .fail
theorem x_oSome : oSome F sl M = (F sl M).bind kSome := nr rfl
theorem kSome_int {i : Int} : kSome (.t (.int i)) M = .ok (some i) M := nr rfl
def kSl3 (a : D) (lo hi : Option Int) (M3 : List MO) : Res D := gSl a lo hi M3
def kSl2 (a : D) (fh : Fn (Option Int)) (sl : List (Option D)) (lo : Option Int) (M2 : List MO) : Res D := (fh sl M2).bind (kSl3 a lo)
def kSl1 (fl fh : Fn (Option Int)) (sl : List (Option D)) (a : D) (M1 : List MO) : Res D := (fl sl M1).bind (kSl2 a fh sl)
theorem x_eSl {fl fh : Fn (Option Int)} : eSl fa fl fh sl M = (fa sl M).bind (kSl1 fl fh sl) := nr rfl
theorem y_sl1 {fl fh : Fn (Option Int)} : kSl1 fl fh sl d M = (fl sl M).bind (kSl2 d fh sl) := nr rfl
theorem y_sl2 {fh : Fn (Option Int)} {lo : Option Int} : kSl2 d fh sl lo M = (fh sl M).bind (kSl3 d lo) := nr rfl
theorem y_sl3 {lo hi : Option Int} : kSl3 d lo hi M = gSl d lo hi M := nr rfl
/-! what is handed over -/
theorem frz_nil : frzL M [] = some ([], M) := nr rfl
def kFrz (t : T) : Option (List T × List MO) → Option (List T × List MO)
  | some (ts, M2) => some (t :: ts, M2)
  | none => none
theorem frz_t : frzL M (.t t :: ds) = kFrz t (frzL M ds) := by
  show (match frzL M ds with | some (ts, M2) => some (t :: ts, M2) | none => none) = kFrz t (frzL M ds)
  cases frzL M ds <;> rfl
theorem kFrz_some : kFrz t (some (ts, M)) = some (t :: ts, M) := nr rfl
theorem frz_m {k : Nat} (h : M[k]? = some (.lst us)) : frzL M (.m k :: ds) = kFrz (.lst us) (frzL (M.set k (.frz (.lst us))) ds) := by
  have e1 : frz1 M (.m k) = some (.lst us, M.set k (.frz (.lst us))) := by unfold frz1; simp only [h]
  show (match frz1 M (.m k) with | some (t, M1) => (match frzL M1 ds with | some (ts, M2) => some (t :: ts, M2) | none => none) | none => none) = _
  rw [e1]
  show (match frzL (M.set k (.frz (.lst us))) ds with | some (ts, M2) => some (T.lst us :: ts, M2) | none => none) = kFrz (.lst us) (frzL (M.set k (.frz (.lst us))) ds)
  cases frzL (M.set k (.frz (.lst us))) ds <;> rfl
theorem frz_mf {k : Nat} (h : M[k]? = some (.frz t)) : frzL M (.m k :: ds) = kFrz t (frzL M ds) := by
  have e1 : frz1 M (.m k) = some (t, M) := by unfold frz1; simp only [h]
  show (match frz1 M (.m k) with | some (t, M1) => (match frzL M1 ds with | some (ts, M2) => some (t :: ts, M2) | none => none) | none => none) = _
  rw [e1]
  show (match frzL M ds with | some (ts, M2) => some (t :: ts, M2) | none => none) = kFrz t (frzL M ds)
  cases frzL M ds <;> rfl
theorem frz1_t : frz1 M (.t t) = some (t, M) := nr rfl
def kTs (o : Option (List T × List MO)) (q : List T → List MO → Res D) : Res D := match o with
  | some (ts, M) => q ts M
  | none => .fail
theorem kTs_some {q : List T → List MO → Res D} : kTs (some (ts, M)) q = q ts M := nr rfl
def kIf (p : Prop) [Decidable p] (r : Res D) : Res D := if p then r else .fail
theorem kIf_pos {p : Prop} [Decidable p] {r : Res D} (h : p) : kIf p r = r := nr (if_pos h)
theorem kIf_true {r : Res D} : kIf True r = r := nr rfl
theorem w_eTup : eTup fs sl M = (fs sl M).bind fun ds M1 => kTs (frzL M1 ds) fun ts M2 => kIf (ts.length ≤ 16777216) (.ok (.t (.tup ts)) M2) := by
  show (fs sl M).bind _ = _
  have e : ∀ (ds : List D) (M1 : List MO), toTs (fun ts => if ts.length ≤ sizeLine then some (T.tup ts) else none) ds M1 = kTs (frzL M1 ds) fun ts M2 => kIf (ts.length ≤ 16777216) (.ok (.t (.tup ts)) M2) := fun ds M1 => by
    unfold toTs kTs kIf
    cases frzL M1 ds with
    | none => rfl
    | some p =>
      obtain ⟨ts, M2⟩ := p
      show (match (if ts.length ≤ sizeLine then some (T.tup ts) else none) with | some t => Res.ok (D.t t) M2 | none => Res.fail) = if ts.length ≤ 16777216 then Res.ok (D.t (T.tup ts)) M2 else Res.fail
      rw [sizeLine_eq]
      by_cases h : ts.length ≤ 16777216
      · rw [if_pos h, if_pos h]
      · rw [if_neg h, if_neg h]
  have e' := funext fun ds => funext (e ds)
  exact congrArg (fun q => (fs sl M).bind q) e'
def kTup2 (ts : List T) (M2 : List MO) : Res D := kIf (ts.length ≤ 16777216) (.ok (.t (.tup ts)) M2)
def kTup (ds : List D) (M1 : List MO) : Res D := kTs (frzL M1 ds) kTup2
theorem x_eTup : eTup fs sl M = (fs sl M).bind kTup := by rw [w_eTup]; rfl
theorem y_tup : kTup ds M = kTs (frzL M ds) kTup2 := nr rfl
theorem y_tup2 : kTup2 ts M = kIf (ts.length ≤ 16777216) (.ok (.t (.tup ts)) M) := nr rfl
theorem w_eLst : eLst fs sl M = (fs sl M).bind fun ds M1 => kTs (frzL M1 ds) fun ts M2 => kIf (ts.length ≤ 16777216) (.ok (.t (.lst ts)) M2) := by
  show (fs sl M).bind _ = _
  have e : ∀ (ds : List D) (M1 : List MO), toTs (fun ts => if ts.length ≤ sizeLine then some (T.lst ts) else none) ds M1 = kTs (frzL M1 ds) fun ts M2 => kIf (ts.length ≤ 16777216) (.ok (.t (.lst ts)) M2) := fun ds M1 => by
    unfold toTs kTs kIf
    cases frzL M1 ds with
    | none => rfl
    | some p =>
      obtain ⟨ts, M2⟩ := p
      show (match (if ts.length ≤ sizeLine then some (T.lst ts) else none) with | some t => Res.ok (D.t t) M2 | none => Res.fail) = if ts.length ≤ 16777216 then Res.ok (D.t (T.lst ts)) M2 else Res.fail
      rw [sizeLine_eq]
      by_cases h : ts.length ≤ 16777216
      · rw [if_pos h, if_pos h]
      · rw [if_neg h, if_neg h]
  have e' := funext fun ds => funext (e ds)
  exact congrArg (fun q => (fs sl M).bind q) e'
def kLst2 (ts : List T) (M2 : List MO) : Res D := kIf (ts.length ≤ 16777216) (.ok (.t (.lst ts)) M2)
def kLst (ds : List D) (M1 : List MO) : Res D := kTs (frzL M1 ds) kLst2
theorem x_eLst : eLst fs sl M = (fs sl M).bind kLst := by rw [w_eLst]; rfl
theorem y_lst : kLst ds M = kTs (frzL M ds) kLst2 := nr rfl
theorem y_lst2 : kLst2 ts M = kIf (ts.length ≤ 16777216) (.ok (.t (.lst ts)) M) := nr rfl
theorem w_eLstM : eLstM fs sl M = (fs sl M).bind fun ds M1 => kTs (frzL M1 ds) fun ts M2 => kIf (ts.length ≤ 16777216) (.ok (.m M2.length) (M2 ++ [.lst ts])) := by
  have e : ∀ (ds : List D) (M1 : List MO), (match frzL M1 ds with | some (ts, M2) => if ts.length ≤ sizeLine then Res.ok (D.m M2.length) (M2 ++ [MO.lst ts]) else Res.fail | none => Res.fail) = kTs (frzL M1 ds) fun ts M2 => kIf (ts.length ≤ 16777216) (.ok (.m M2.length) (M2 ++ [.lst ts])) := fun ds M1 => by
    unfold kTs kIf
    cases frzL M1 ds with
    | none => rfl
    | some p => obtain ⟨ts, M2⟩ := p; rw [sizeLine_eq]
  have e' := funext fun ds => funext (e ds)
  exact congrArg (fun q => (fs sl M).bind q) e'
def kLsM2 (ts : List T) (M2 : List MO) : Res D := kIf (ts.length ≤ 16777216) (.ok (.m M2.length) (M2 ++ [.lst ts]))
def kLsM (ds : List D) (M1 : List MO) : Res D := kTs (frzL M1 ds) kLsM2
theorem x_eLstM : eLstM fs sl M = (fs sl M).bind kLsM := by rw [w_eLstM]; rfl
theorem y_lsM : kLsM ds M = kTs (frzL M ds) kLsM2 := nr rfl
theorem y_lsM2 : kLsM2 ts M = kIf (ts.length ≤ 16777216) (.ok (.m M.length) (M ++ [.lst ts])) := nr rfl
/-! calls -/
theorem resP_val : resP M (.val t) = .ok (.t t) M := nr rfl
theorem resP_fresh : resP M (.fresh ts) = .ok (.t (.lst ts)) M := nr rfl
theorem resP_exc {x : Xn} : resP M (.exc x) = .exc x M := nr rfl
theorem resM_val : resM M (.val t) = .ok (.t t) M := nr rfl
theorem resM_fresh : resM M (.fresh ts) = .ok (.m M.length) (M ++ [.lst ts]) := nr rfl
theorem resM_exc {x : Xn} : resM M (.exc x) = .exc x M := nr rfl
theorem w_call {fp : List T → PR} : eCall n fp fs sl M = (fs sl M).bind fun ds M1 => kTs (frzL M1 ds) fun ts M2 => kIf (ts.length = n) (resP M2 (fp ts)) := by
  have e : ∀ (ds : List D) (M1 : List MO), (match frzL M1 ds with | some (ts, M2) => if ts.length = n then (match fp ts with | .val t => Res.ok (D.t t) M2 | .fresh us => .ok (.t (.lst us)) M2 | .exc x => .exc x M2 | .fail => .fail) else Res.fail | none => Res.fail) = kTs (frzL M1 ds) fun ts M2 => kIf (ts.length = n) (resP M2 (fp ts)) := fun ds M1 => by
    unfold kTs kIf
    cases frzL M1 ds with
    | none => rfl
    | some p => obtain ⟨ts, M2⟩ := p; unfold resP; rfl
  have e' := funext fun ds => funext (e ds)
  exact congrArg (fun q => (fs sl M).bind q) e'
def kCal2 (n : Nat) (fp : List T → PR) (ts : List T) (M2 : List MO) : Res D := kIf (ts.length = n) (resP M2 (fp ts))
def kCal (n : Nat) (fp : List T → PR) (ds : List D) (M1 : List MO) : Res D := kTs (frzL M1 ds) (kCal2 n fp)
theorem x_call {fp : List T → PR} : eCall n fp fs sl M = (fs sl M).bind (kCal n fp) := by rw [w_call]; rfl
theorem y_cal {fp : List T → PR} : kCal n fp ds M = kTs (frzL M ds) (kCal2 n fp) := nr rfl
theorem y_cal2 {fp : List T → PR} : kCal2 n fp ts M = kIf (ts.length = n) (resP M (fp ts)) := nr rfl
theorem w_callM {fp : List T → PR} : eCallM n fp fs sl M = (fs sl M).bind fun ds M1 => kTs (frzL M1 ds) fun ts M2 => kIf (ts.length = n) (resM M2 (fp ts)) := by
  have e : ∀ (ds : List D) (M1 : List MO), (match frzL M1 ds with | some (ts, M2) => if ts.length = n then (match fp ts with | .val t => Res.ok (D.t t) M2 | .fresh us => .ok (.m M2.length) (M2 ++ [.lst us]) | .exc x => .exc x M2 | .fail => .fail) else Res.fail | none => Res.fail) = kTs (frzL M1 ds) fun ts M2 => kIf (ts.length = n) (resM M2 (fp ts)) := fun ds M1 => by
    unfold kTs kIf
    cases frzL M1 ds with
    | none => rfl
    | some p => obtain ⟨ts, M2⟩ := p; unfold resM; rfl
  have e' := funext fun ds => funext (e ds)
  exact congrArg (fun q => (fs sl M).bind q) e'
def kCalM2 (n : Nat) (fp : List T → PR) (ts : List T) (M2 : List MO) : Res D := kIf (ts.length = n) (resM M2 (fp ts))
def kCalM (n : Nat) (fp : List T → PR) (ds : List D) (M1 : List MO) : Res D := kTs (frzL M1 ds) (kCalM2 n fp)
theorem x_callM {fp : List T → PR} : eCallM n fp fs sl M = (fs sl M).bind (kCalM n fp) := by rw [w_callM]; rfl
theorem y_calM {fp : List T → PR} : kCalM n fp ds M = kTs (frzL M ds) (kCalM2 n fp) := nr rfl
theorem y_calM2 {fp : List T → PR} : kCalM2 n fp ts M = kIf (ts.length = n) (resM M (fp ts)) := nr rfl
def kwP (fp : List T → PR) (π : List Nat) (ts : List T) : PR := fp (perm π ts)
theorem x_callK {fp : List T → PR} {π : List Nat} : eCallK n fp π fs = eCall n (kwP fp π) fs := nr rfl
theorem y_kwP {fp : List T → PR} {π : List Nat} : kwP fp π ts = fp (perm π ts) := nr rfl
theorem y_perm0 {a : T} : perm [0] [a] = [a] := nr rfl
theorem y_perm01 {a b : T} : perm [0, 1] [a, b] = [a, b] := nr rfl
theorem y_perm10 {a b : T} : perm [1, 0] [a, b] = [b, a] := nr rfl
theorem w_gCallR {fp : List T → PR} : gCallR fp ds M = kTs (frzL M ds) fun ts M2 => resP M2 (fp ts) := by unfold gCallR kTs; split <;> rename_i h <;> simp only [h]
def kCr (fp : List T → PR) (ts : List T) (M2 : List MO) : Res D := resP M2 (fp ts)
theorem x_gCallR {fp : List T → PR} : gCallR fp ds M = kTs (frzL M ds) (kCr fp) := by rw [w_gCallR]; rfl
theorem y_cr {fp : List T → PR} : kCr fp ts M = resP M (fp ts) := nr rfl
theorem w_gCallRM {fp : List T → PR} : gCallRM fp ds M = kTs (frzL M ds) fun ts M2 => resM M2 (fp ts) := by unfold gCallRM kTs; split <;> rename_i h <;> simp only [h]
def kCrM (fp : List T → PR) (ts : List T) (M2 : List MO) : Res D := resM M2 (fp ts)
theorem x_gCallRM {fp : List T → PR} : gCallRM fp ds M = kTs (frzL M ds) (kCrM fp) := by rw [w_gCallRM]; rfl
theorem y_crM {fp : List T → PR} : kCrM fp ts M = resM M (fp ts) := nr rfl
theorem x_many {fp : List T → PR} (h : ts.length = n) : many n fp ts = fp ts := nr (if_pos h)
theorem x_star0 {fp : List T → PR} : starF 1 fp [t] = fp [t, .tup []] := nr rfl
theorem x_star1 {fp : List T → PR} {a : T} : starF 1 fp [t, a] = fp [t, .tup [a]] := nr rfl
theorem x_star2 {fp : List T → PR} {a b : T} : starF 1 fp [t, a, b] = fp [t, .tup [a, b]] := nr rfl
theorem x_star3 {fp : List T → PR} {a b c : T} : starF 1 fp [t, a, b, c] = fp [t, .tup [a, b, c]] := nr rfl
def kMe3 (fp : List T → PR) (d : D) (ds : List D) (M2 : List MO) : Res D := gCallR fp (d :: ds) M2
def kMe2 (b : Bool) (fp : List T → PR) (d : D) (fs : Fn (List D)) (sl : List (Option D)) (M1 : List MO) : Res D := if b then (fs sl M1).bind (kMe3 fp d) else .fail
def kMe1 (c m : Str) (fp : List T → PR) (fs : Fn (List D)) (sl : List (Option D)) (d : D) (M1 : List MO) : Res D := kMe2 (isInsN c m d) fp d fs sl M1
theorem x_meth {c m : Str} {fp : List T → PR} : eMeth c m fp fo fs sl M = (fo sl M).bind (kMe1 c m fp fs sl) := nr rfl
theorem y_me1 {c m : Str} {fp : List T → PR} : kMe1 c m fp fs sl d M = kMe2 (isInsN c m d) fp d fs sl M := nr rfl
theorem y_me2 {fp : List T → PR} : kMe2 true fp d fs sl M = (fs sl M).bind (kMe3 fp d) := nr rfl
theorem y_me3 {fp : List T → PR} : kMe3 fp d ds M = gCallR fp (d :: ds) M := nr rfl
def kMeM3 (fp : List T → PR) (d : D) (ds : List D) (M2 : List MO) : Res D := gCallRM fp (d :: ds) M2
def kMeM2 (b : Bool) (fp : List T → PR) (d : D) (fs : Fn (List D)) (sl : List (Option D)) (M1 : List MO) : Res D := if b then (fs sl M1).bind (kMeM3 fp d) else .fail
def kMeM1 (c m : Str) (fp : List T → PR) (fs : Fn (List D)) (sl : List (Option D)) (d : D) (M1 : List MO) : Res D := kMeM2 (isInsN c m d) fp d fs sl M1
theorem x_methM {c m : Str} {fp : List T → PR} : eMethM c m fp fo fs sl M = (fo sl M).bind (kMeM1 c m fp fs sl) := nr rfl
theorem y_meM1 {c m : Str} {fp : List T → PR} : kMeM1 c m fp fs sl d M = kMeM2 (isInsN c m d) fp d fs sl M := nr rfl
theorem y_meM2 {fp : List T → PR} : kMeM2 true fp d fs sl M = (fs sl M).bind (kMeM3 fp d) := nr rfl
theorem y_meM3 {fp : List T → PR} : kMeM3 fp d ds M = gCallRM fp (d :: ds) M := nr rfl
def pPro (c : Str) (fp : List T → PR) (d : D) (M : List MO) : Res D := if isInsN c "" d then (match gCallR fp [d] M with
  | .ok a M2 => .ok a M2
  | _ => .fail) else .fail
theorem x_pro {c : Str} {fp : List T → PR} : ePro c fp fo sl M = (fo sl M).bind (pPro c fp) := nr rfl
theorem x_fld {c x : Str} : eFld c x fo sl M = (fo sl M).bind (gFld c x) := nr rfl
theorem x_stat {fp : List T → PR} : eStat fp fs sl M = (fs sl M).bind (gCallR fp) := nr rfl
def kwS (n : Nat) (fp : List T → PR) (π : List Nat) (ts : List T) : PR := if ts.length = n then fp (perm π ts) else .fail
theorem x_statK {fp : List T → PR} {π : List Nat} : eStatK n fp π fs sl M = (fs sl M).bind (gCallR (kwS n fp π)) := nr rfl
theorem y_kwS {fp : List T → PR} {π : List Nat} (h : ts.length = n) : kwS n fp π ts = fp (perm π ts) := nr (if_pos h)
def kwM (n : Nat) (fp : List T → PR) (π : List Nat) (ts : List T) : PR := match ts with | t :: us => if us.length = n then fp (t :: perm π us) else .fail | _ => .fail
theorem x_methK {c m : Str} {fp : List T → PR} {π : List Nat} : eMethK c m n fp π fo fs sl M = (fo sl M).bind (kMe1 c m (kwM n fp π) fs sl) := nr rfl
theorem y_kwM {fp : List T → PR} {π : List Nat} (h : us.length = n) : kwM n fp π (t :: us) = fp (t :: perm π us) := nr (if_pos h)
def resI (c : Str) (M : List MO) : IR → Res D
  | .made ns tt => .ok (.t (.ins c ns tt)) M
  | .exc x => .exc x M
  | .fail => .fail
theorem resI_made {c : Str} {ns : List Str} : resI c M (.made ns ts) = .ok (.t (.ins c ns ts)) M := nr rfl
theorem w_make {c : Str} {fi : List T → IR} : eMake c fi fs sl M = (fs sl M).bind fun ds M1 => kTs (frzL M1 ds) fun ts M2 => resI c M2 (fi ts) := by
  have e : ∀ (ds : List D) (M1 : List MO), gMake c fi ds M1 = kTs (frzL M1 ds) fun ts M2 => resI c M2 (fi ts) := fun ds M1 => by
    unfold kTs gMake
    cases frzL M1 ds with
    | none => rfl
    | some p => obtain ⟨ts, M2⟩ := p; unfold resI; rfl
  have e' := funext fun ds => funext (e ds)
  exact congrArg (fun q => (fs sl M).bind q) e'
def kMk2 (c : Str) (fi : List T → IR) (ts : List T) (M2 : List MO) : Res D := resI c M2 (fi ts)
def kMk (c : Str) (fi : List T → IR) (ds : List D) (M1 : List MO) : Res D := kTs (frzL M1 ds) (kMk2 c fi)
theorem x_make {c : Str} {fi : List T → IR} : eMake c fi fs sl M = (fs sl M).bind (kMk c fi) := by rw [w_make]; rfl
theorem y_mk {c : Str} {fi : List T → IR} : kMk c fi ds M = kTs (frzL M ds) (kMk2 c fi) := nr rfl
theorem y_mk2 {c : Str} {fi : List T → IR} : kMk2 c fi ts M = resI c M (fi ts) := nr rfl
/-! comprehensions, loops -/
def kLc (o : Option (List T × List MO)) : Res D := match o with
  | some (us, M2) => .ok (.t (.lst us)) M2
  | none => .fail
def kLcM (o : Option (List T × List MO)) : Res D := match o with
  | some (us, M2) => .ok (.m M2.length) (M2 ++ [.lst us])
  | none => .fail
def kLcM1 (vs : List Nat) (G : GG) (Tt : Fn Bool) (E : FE) (sl : List (Option D)) (ts : List T) (M1 : List MO) : Res D := kLcM (lcF vs G Tt E ts sl M1 [])
theorem x_lcM {Fi : Fn (List T)} {vs : List Nat} {G : GG} {Tt : Fn Bool} {E : FE} : eLcM Fi vs G Tt E sl M = (Fi sl M).bind (kLcM1 vs G Tt E sl) := nr rfl
theorem y_lcM {vs : List Nat} {G : GG} {Tt : Fn Bool} {E : FE} : kLcM1 vs G Tt E sl ts M = kLcM (lcF vs G Tt E ts sl M []) := nr rfl
theorem kLcM_some : kLcM (some (us, M)) = .ok (.m M.length) (M ++ [.lst us]) := nr rfl
def kLc1 (vs : List Nat) (G : GG) (Tt : Fn Bool) (E : FE) (sl : List (Option D)) (ts : List T) (M1 : List MO) : Res D := kLc (lcF vs G Tt E ts sl M1 [])
theorem x_lc {Fi : Fn (List T)} {vs : List Nat} {G : GG} {Tt : Fn Bool} {E : FE} : eLc Fi vs G Tt E sl M = (Fi sl M).bind (kLc1 vs G Tt E sl) := nr rfl
theorem y_lc {vs : List Nat} {G : GG} {Tt : Fn Bool} {E : FE} : kLc1 vs G Tt E sl ts M = kLc (lcF vs G Tt E ts sl M []) := nr rfl
theorem kLc_some : kLc (some (us, M)) = .ok (.t (.lst us)) M := nr rfl
theorem lc_nat {α : Type} {vs : List Nat} {G : GG} {Tt : Fn Bool} {E : FE} (f : α → T) (p : α → Bool) (g : α → T) : ∀ (xs : List α) (acc : List T), (∀ x ∈ xs, ∃ sl1, G (.t (f x)) (wipeS sl vs) M = .nx sl1 M ∧ Tt sl1 M = .ok (p x) M ∧ (p x = true → E sl1 M = .ok (.t (g x)) M)) → acc.length + xs.length ≤ 16777216 →
    lcF vs G Tt E (xs.map f) sl M acc = some (acc ++ (xs.filter p).map g, M)
  | [], acc, _, _ => by simp [lcF]
  | x :: xs, acc, h, hl => by
    obtain ⟨sl1, h1, h2, h3⟩ := h x (by simp)
    have hr := fun y hy => h y (List.mem_cons_of_mem x hy)
    rw [List.map_cons]
    unfold lcF
    rw [h1]
    simp only [h2]
    cases hp : p x with
    | true =>
      rw [h3 hp]
      have e : frz1 M (.t (g x)) = some (g x, M) := rfl
      simp only [e, if_true]
      rw [if_pos (by rw [sizeLine_eq]; simp at hl; omega)]
      rw [lc_nat f p g xs (acc ++ [g x]) hr (by simp at hl ⊢; omega)]
      simp [List.filter_cons, hp]
    | false =>
      rw [if_neg (by decide)]
      rw [lc_nat f p g xs acc hr (by simp at hl ⊢; omega)]
      simp [List.filter_cons, hp]
/-- without a test -/
theorem lc_nat1 {α : Type} {vs : List Nat} {G : GG} {E : FE} (f : α → T) (g : α → T) (xs : List α) (h : ∀ x ∈ xs, ∃ sl1, G (.t (f x)) (wipeS sl vs) M = .nx sl1 M ∧ E sl1 M = .ok (.t (g x)) M) (hl : xs.length ≤ 16777216) :
    lcF vs G bYes E (xs.map f) sl M [] = some (xs.map g, M) := by
  rw [lc_nat f (fun _ => true) g xs [] (fun x hx => by obtain ⟨sl1, h1, h2⟩ := h x hx; exact ⟨sl1, h1, rfl, fun _ => h2⟩) (by simpa using hl)]
  have e : xs.filter (fun _ => true) = xs := List.filter_eq_self.mpr fun _ _ => rfl
  rw [e, List.nil_append]
theorem x_il {F : FE} : iL F sl M = (F sl M).bind iLst := nr rfl
theorem iLst_t : iLst (.t (.lst ts)) M = .ok ts M := nr rfl
theorem iLst_m {k : Nat} (h : M[k]? = some (.lst ts)) : iLst (.m k) M = .ok ts (M.set k (.frz (.lst ts))) := by unfold iLst frz1; simp only [h]
theorem x_it {F : FE} : iT F sl M = (F sl M).bind iTp := nr rfl
theorem iTp_t : iTp (.t (.tup ts)) M = .ok ts M := nr rfl
theorem x_is {F : FE} : iS F sl M = (F sl M).bind iSt := nr rfl
theorem iSt_t {z : Str} : iSt (.t (.str z)) M = .ok (signsOf z) M := nr rfl
theorem x_ir1 : iR1 fs sl M = (fs sl M).bind iRg1 := nr rfl
theorem iRg1_int {n : Nat} (h : n < 4611686018427387904) : iRg1 [.t (.int (n : Int))] M = .ok (rangeT 0 n) M := by
  unfold iRg1
  simp only
  rw [if_pos ⟨by omega, by omega⟩, Int.toNat_natCast]
theorem x_ie1 : iE1 fs sl M = (fs sl M).bind iEn := nr rfl
theorem iEn_tup : iEn [.t (.tup ts)] M = .ok (enumT ts) M := nr rfl
theorem x_iz : iZ fs sl M = (fs sl M).bind iZp := nr rfl
theorem iZp_ll : iZp [.t (.lst ts), .t (.lst us)] M = .ok (zipT ts us) M := nr rfl
def kFor (G : GG) (B : FS) (sl : List (Option D)) (ts : List T) (M1 : List MO) : SRes := loopF G B ts sl M1
theorem x_for {Fi : Fn (List T)} {G : GG} {B : FS} : sFor Fi G B sl M = (Fi sl M).toS sl (kFor G B sl) := nr rfl
theorem y_for {G : GG} {B : FS} : kFor G B sl ts M = loopF G B ts sl M := nr rfl
theorem x_loop0 {G : GG} {B : FS} : loopF G B [] sl M = .nx sl M := nr rfl
theorem x_nm : gNm i d sl M = .nx (sl.set i (some d)) M := nr rfl
theorem x_tp2 {a b : T} : gTp 2 (gsCons (gNm i) (gsCons (gNm j) gsNil)) (.t (.tup [a, b])) sl M = .nx ((sl.set i (some (.t a))).set j (some (.t b))) M := nr rfl
theorem x_tp3 {a b c : T} : gTp 3 (gsCons (gNm i) (gsCons (gNm j) (gsCons (gNm n) gsNil))) (.t (.tup [a, b, c])) sl M = .nx (((sl.set i (some (.t a))).set j (some (.t b))).set n (some (.t c))) M := nr rfl
def kG (r : SRes) (sl : List (Option D)) : SRes := match r with
  | .nx sl2 M2 => .nx sl2 M2
  | .exc x sl2 M2 => .exc x sl2 M2
  | _ => .fail
theorem kG_nx : kG (.nx sl' M) sl = .nx sl' M := nr rfl
theorem w_asg {G : GG} : sAsg F G sl M = (F sl M).toS sl fun d M1 => kG (G d sl M1) sl := by
  have e : ∀ (d : D) (M1 : List MO), (match G d sl M1 with | .nx sl2 M2 => SRes.nx sl2 M2 | .exc x sl2 M2 => .exc x sl2 M2 | _ => .fail) = kG (G d sl M1) sl := fun d M1 => by unfold kG; cases G d sl M1 <;> rfl
  have e' := funext fun d => funext (e d)
  exact congrArg (fun q => (F sl M).toS sl q) e'
def kAsg (G : GG) (sl : List (Option D)) (d : D) (M1 : List MO) : SRes := kG (G d sl M1) sl
theorem x_asg {G : GG} : sAsg F G sl M = (F sl M).toS sl (kAsg G sl) := by rw [w_asg]; rfl
theorem y_asg {G : GG} : kAsg G sl d M = kG (G d sl M) sl := nr rfl
def kPar (i j : Nat) (sl : List (Option D)) (ds : List D) (M : List MO) : SRes := match ds with
  | [d, d'] => .nx ((sl.set i (some d)).set j (some d')) M
  | _ => .fail
theorem x_par : sPar i j fs sl M = (fs sl M).toS sl (kPar i j sl) := nr rfl
theorem kPar_2 : kPar i j sl [d0, d1] M = .nx ((sl.set i (some d0)).set j (some d1)) M := nr rfl
def kPar3 (i j l : Nat) (sl : List (Option D)) (ds : List D) (M : List MO) : SRes := match ds with
  | [d, d', d''] => .nx (((sl.set i (some d)).set j (some d')).set l (some d'')) M
  | _ => .fail
theorem x_par3 {l : Nat} : sPar3 i j l fs sl M = (fs sl M).toS sl (kPar3 i j l sl) := nr rfl
theorem kPar3_3 {l : Nat} {d2 : D} : kPar3 i j l sl [d0, d1, d2] M = .nx (((sl.set i (some d0)).set j (some d1)).set l (some d2)) M := nr rfl
/-! operators by values -/
theorem o_eqS {x y : Str} : g2 eqT (.t (.str x)) (.t (.str y)) M = .ok (.t (.bl (decide (x = y)))) M := nr rfl
theorem o_eqI {x y : Int} : g2 eqT (.t (.int x)) (.t (.int y)) M = .ok (.t (.bl (decide (x = y)))) M := nr rfl
theorem o_eqB {x y : Bool} : g2 eqT (.t (.bl x)) (.t (.bl y)) M = .ok (.t (.bl (decide (x = y)))) M := nr rfl
theorem o_neS {x y : Str} : g2 neT (.t (.str x)) (.t (.str y)) M = .ok (.t (.bl (!decide (x = y)))) M := nr rfl
theorem o_neI {x y : Int} : g2 neT (.t (.int x)) (.t (.int y)) M = .ok (.t (.bl (!decide (x = y)))) M := nr rfl
theorem o_neB {x y : Bool} : g2 neT (.t (.bl x)) (.t (.bl y)) M = .ok (.t (.bl (!decide (x = y)))) M := nr rfl
theorem o_lt {x y : Int} : g2 ltT (.t (.int x)) (.t (.int y)) M = .ok (.t (.bl (decide (x < y)))) M := nr rfl
theorem o_le {x y : Int} : g2 leT (.t (.int x)) (.t (.int y)) M = .ok (.t (.bl (decide (x ≤ y)))) M := nr rfl
theorem o_gt {x y : Int} : g2 gtT (.t (.int x)) (.t (.int y)) M = .ok (.t (.bl (decide (y < x)))) M := nr rfl
theorem o_ge {x y : Int} : g2 geT (.t (.int x)) (.t (.int y)) M = .ok (.t (.bl (decide (y ≤ x)))) M := nr rfl
theorem o_sub {x y : Int} : g2 subT (.t (.int x)) (.t (.int y)) M = .ok (.t (.int (x - y))) M := nr rfl
theorem o_addI {x y : Int} : gAdd (.t (.int x)) (.t (.int y)) M = .ok (.t (.int (x + y))) M := nr rfl
theorem o_addS {x y : Str} : gAdd (.t (.str x)) (.t (.str y)) M = kIf (x.cps.size + y.cps.size ≤ 16777216) (.ok (.t (.str (x ++ y))) M) := by
  unfold gAdd
  show g2 addT (.t (.str x)) (.t (.str y)) M = _
  unfold g2 addT kIf
  have e : int2 (fun _ _ => True) (fun i j => T.int (i + j)) (.str x) (.str y) = none := rfl
  simp only [e]
  have e2 : cat2 (.str x) (.str y) = if x.cps.size + y.cps.size ≤ 16777216 then some (.str (x ++ y)) else none := by
    show (if x.length + y.length ≤ sizeLine then _ else _) = _
    rw [sizeLine_eq]; rfl
  have e3 : catT2 (.str x) (.str y) = none := rfl
  rw [e2]
  by_cases h : x.cps.size + y.cps.size ≤ 16777216
  · simp only [h, if_true]
  · simp only [h, if_false, e3]
theorem o_addT {x y : List T} : gAdd (.t (.tup x)) (.t (.tup y)) M = kIf (x.length + y.length ≤ 16777216) (.ok (.t (.tup (x ++ y))) M) := by
  unfold gAdd
  show g2 addT (.t (.tup x)) (.t (.tup y)) M = _
  unfold g2 addT kIf
  have e : int2 (fun _ _ => True) (fun i j => T.int (i + j)) (.tup x) (.tup y) = none := rfl
  have e1 : cat2 (.tup x) (.tup y) = none := rfl
  simp only [e, e1]
  have e2 : catT2 (.tup x) (.tup y) = if x.length + y.length ≤ 16777216 then some (.tup (x ++ y)) else none := by
    show (if x.length + y.length ≤ sizeLine then _ else _) = _
    rw [sizeLine_eq]
  rw [e2]
  by_cases h : x.length + y.length ≤ 16777216
  · simp only [h, if_true]
  · simp only [h, if_false]
theorem o_addL {x y : List T} : gAdd (.t (.lst x)) (.t (.lst y)) M = kIf (x.length + y.length ≤ 16777216) (.ok (.t (.lst (x ++ y))) M) := by
  show (if x.length + y.length ≤ sizeLine then _ else _) = _
  rw [sizeLine_eq]; rfl
theorem o_ixT {i : Int} (h : atI ts i = some t) : gIx (.t (.tup ts)) (.t (.int i)) M = .ok (.t t) M := by
  show (match (some ts : Option (List T)) with | some ts => (match atI ts i with | some t => Res.ok (D.t t) M | none => .fail) | none => .fail) = _
  simp only [h]
theorem o_ixL {i : Int} (h : atI ts i = some t) : gIx (.t (.lst ts)) (.t (.int i)) M = .ok (.t t) M := by
  show (match (some ts : Option (List T)) with | some ts => (match atI ts i with | some t => Res.ok (D.t t) M | none => .fail) | none => .fail) = _
  simp only [h]
theorem o_ixT0 : gIx (.t (.tup (t :: ts))) (.t (.int 0)) M = .ok (.t t) M := o_ixT (atI_nat (j := 0) rfl)
theorem o_ixT1 : gIx (.t (.tup (t1 :: t :: ts))) (.t (.int 1)) M = .ok (.t t) M := o_ixT (atI_nat (j := 1) rfl)
theorem o_ixT2 {t2 : T} : gIx (.t (.tup (t2 :: t1 :: t :: ts))) (.t (.int 2)) M = .ok (.t t) M := o_ixT (atI_nat (j := 2) rfl)
theorem o_ixL0 : gIx (.t (.lst (t :: ts))) (.t (.int 0)) M = .ok (.t t) M := o_ixL (atI_nat (j := 0) rfl)
theorem o_ixL1 : gIx (.t (.lst (t1 :: t :: ts))) (.t (.int 1)) M = .ok (.t t) M := o_ixL (atI_nat (j := 1) rfl)
theorem o_ixL2 {t2 : T} : gIx (.t (.lst (t2 :: t1 :: t :: ts))) (.t (.int 2)) M = .ok (.t t) M := o_ixL (atI_nat (j := 2) rfl)
theorem o_lenS {z : Str} : gLen [.t (.str z)] M = kIf (z.cps.size ≤ 16777216) (.ok (.t (.int (z.cps.size : Int))) M) := by
  show (if z.length ≤ sizeLine then _ else _) = _
  rw [sizeLine_eq]; rfl
theorem o_lenL : gLen [.t (.lst ts)] M = .ok (.t (.int (ts.length : Int))) M := nr rfl
theorem o_lenT : gLen [.t (.tup ts)] M = .ok (.t (.int (ts.length : Int))) M := nr rfl
theorem o_listT : gList [.t (.tup ts)] M = .ok (.t (.lst ts)) M := nr rfl
theorem o_listL : gList [.t (.lst ts)] M = .ok (.t (.lst ts)) M := nr rfl
theorem o_listMT : gListM [.t (.tup ts)] M = .ok (.m M.length) (M ++ [.lst ts]) := nr rfl
theorem o_listML : gListM [.t (.lst ts)] M = .ok (.m M.length) (M ++ [.lst ts]) := nr rfl
theorem o_int {x : Int} : gInt [.t (.int x)] M = .ok (.t (.int x)) M := nr rfl
theorem o_max2 {x y : Int} : gMax2 [.t (.int x), .t (.int y)] M = .ok (.t (.int (max x y))) M := by
  show Res.ok (D.t (T.int (if y > x then y else x))) M = _
  congr 3
  rw [Int.max_def]
  split <;> split <;> omega
theorem intsOf_map : ∀ (xs : List Int), intsOf (xs.map T.int) = some xs
  | [] => rfl
  | x :: xs => by rw [List.map_cons]; unfold intsOf; rw [intsOf_map xs]
theorem o_sum {xs : List Int} : gSum [.t (.lst (xs.map T.int))] M = .ok (.t (.int xs.sum)) M := by
  show (match intsOf (xs.map T.int) with | some is => Res.ok (D.t (T.int is.sum)) M | none => .fail) = _
  rw [intsOf_map]
theorem o_maxD {xs : List Int} (h : xs ≠ []) : gMaxD [.t (.lst (xs.map T.int))] [d] M = .ok (.t (.int (maxI xs))) M := by
  show (match intsOf (xs.map T.int) with | some is => if is = [] then Res.ok d M else Res.ok (D.t (T.int (maxI is))) M | none => .fail) = _
  rw [intsOf_map]
  exact if_neg h
theorem o_maxD0 : gMaxD [.t (.lst [])] [d] M = .ok d M := nr rfl
theorem o_maxL {xs : List Int} (h : xs ≠ []) : gMaxL [.t (.lst (xs.map T.int))] M = .ok (.t (.int (maxI xs))) M := by
  show (match intsOf (xs.map T.int) with | some is => if is = [] then Res.fail else Res.ok (D.t (T.int (maxI is))) M | none => .fail) = _
  rw [intsOf_map]
  exact if_neg h
theorem o_fmt {y : Str} : gFmt (.t (.str y)) M = kIf (y.cps.size ≤ 16777216) (.ok (.t (.str y)) M) := nr rfl
theorem x_fmt : eFmt F sl M = (F sl M).bind gFmt := nr rfl
def kJs (fs : List FE) (acc : Str) (sl : List (Option D)) (d : D) (M1 : List MO) : Res D := match d with
  | .t (.str y) => if (acc ++ y).length ≤ 16777216 then jsF fs (acc ++ y) sl M1 else .fail
  | _ => .fail
theorem x_js {fs : List FE} : eJs fs sl M = jsF fs Str.empty sl M := nr rfl
theorem x_jsF {f : FE} {fs : List FE} {acc : Str} : jsF (f :: fs) acc sl M = (f sl M).bind (kJs fs acc sl) := nr rfl
theorem x_jsN {acc : Str} : jsF [] acc sl M = .ok (.t (.str acc)) M := nr rfl
theorem x_kJs {fs : List FE} {acc y : Str} : kJs fs acc sl (.t (.str y)) M = kIf ((acc ++ y).cps.size ≤ 16777216) (jsF fs (acc ++ y) sl M) := nr rfl
theorem x_revT : eRevT F sl M = (F sl M).bind gRevT := nr rfl
theorem o_revT : gRevT (.t (.tup ts)) M = .ok (.t (.tup ts.reverse)) M := nr rfl
def kE1 (f : T → Option T) (d : D) (M1 : List MO) : Res D := match d with
  | .t t => (match f t with
    | some u => .ok (.t u) M1
    | none => .fail)
  | _ => .fail
theorem x_e1 {f : T → Option T} : e1 f F sl M = (F sl M).bind (kE1 f) := nr rfl
theorem kE1_some {f : T → Option T} {u : T} (h : f t = some u) : kE1 f (.t t) M = .ok (.t u) M := by unfold kE1; simp only [h]
def kBm3 (q : GM) (d : D) (ds : List D) (M2 : List MO) : Res D := q d ds M2
def kBm2 (b : Bool) (q : GM) (d : D) (fs : Fn (List D)) (sl : List (Option D)) (M1 : List MO) : Res D := if b then (fs sl M1).bind (kBm3 q d) else .fail
def kBm1 (ty : D → List MO → Bool) (q : GM) (fs : Fn (List D)) (sl : List (Option D)) (d : D) (M1 : List MO) : Res D := kBm2 (ty d M1) q d fs sl M1
theorem x_bm {ty : D → List MO → Bool} {q : GM} : eBM ty q fo fs sl M = (fo sl M).bind (kBm1 ty q fs sl) := nr rfl
theorem y_bm1 {ty : D → List MO → Bool} {q : GM} : kBm1 ty q fs sl d M = kBm2 (ty d M) q d fs sl M := nr rfl
theorem y_bm2 {q : GM} : kBm2 true q d fs sl M = (fs sl M).bind (kBm3 q d) := nr rfl
theorem y_bm3 {q : GM} : kBm3 q d ds M = q d ds M := nr rfl
theorem ty_strD {z : Str} : isStrD (.t (.str z)) M = true := nr rfl
theorem bls_nat {α : Type} (g : α → Bool) : ∀ xs : List α, blsOf (xs.map fun x => T.bl (g x)) = some (xs.map g)
  | [] => rfl
  | x :: xs => by rw [List.map_cons]; unfold blsOf; rw [bls_nat g xs]; rfl
theorem o_bls {f : List Bool → Bool} {bs : List Bool} (h : blsOf ts = some bs) : gBls f [.t (.lst ts)] M = .ok (.t (.bl (f bs))) M := by
  show (match blsOf ts with | some bs => Res.ok (D.t (T.bl (f bs))) M | none => .fail) = _
  rw [h]
def kStar2 (ts : List T) (as : List D) (M2 : List MO) : Res (List D) := .ok (ts.map D.t ++ as) M2
theorem y_star2 {as : List D} : kStar2 ts as M = .ok (ts.map D.t ++ as) M := nr rfl
def kStar (fs : Fn (List D)) (sl : List (Option D)) (a : D) (M1 : List MO) : Res (List D) := match seqD M1 a with
  | some ts => (fs sl M1).bind (kStar2 ts)
  | none => .fail
theorem x_aStar : aStar fa fs sl M = (fa sl M).bind (kStar fs sl) := nr rfl
theorem kStar_t : kStar fs sl (.t (.tup ts)) M = (fs sl M).bind (kStar2 ts) := nr rfl
theorem kStar_l : kStar fs sl (.t (.lst ts)) M = (fs sl M).bind (kStar2 ts) := nr rfl
theorem x_setS {α : Type} {x a : α} {l : List α} : (a :: l).set (n + 1) x = a :: l.set n x := nr rfl
theorem x_set0 {α : Type} {x a : α} {l : List α} : (a :: l).set 0 x = x :: l := nr rfl
/-! a comprehension over a written list -/
abbrev LO := Option (List T × List MO)
def kL1 (r : SRes) (q : List (Option D) → List MO → LO) : LO := match r with
  | .nx sl1 M1 => q sl1 M1
  | _ => none
theorem kL1_nx {q : List (Option D) → List MO → LO} : kL1 (.nx sl M) q = q sl M := nr rfl
def kL2 (r : Res Bool) (q : Bool → List MO → LO) : LO := match r with
  | .ok a M1 => q a M1
  | _ => none
theorem kL2_ok {q : Bool → List MO → LO} : kL2 (.ok k M) q = q k M := nr rfl
def kL3 (r : Res D) (q : D → List MO → LO) : LO := match r with
  | .ok a M1 => q a M1
  | _ => none
theorem kL3_ok {q : D → List MO → LO} : kL3 (.ok d M) q = q d M := nr rfl
def kL4 (r : Option (T × List MO)) (q : T → List MO → LO) : LO := match r with
  | some (a, M1) => q a M1
  | _ => none
theorem kL4_some {q : T → List MO → LO} : kL4 (some (t, M)) q = q t M := nr rfl
def kL5 (p : Prop) [Decidable p] (r : LO) : LO := if p then r else none
theorem kL5_pos {p : Prop} [Decidable p] {r : LO} (h : p) : kL5 p r = r := nr (if_pos h)
theorem x_lcF0 {vs : List Nat} {G : GG} {Tt : Fn Bool} {E : FE} : lcF vs G Tt E [] sl M ts = some (ts, M) := nr rfl
theorem w_lcFc {vs : List Nat} {G : GG} {Tt : Fn Bool} {E : FE} : lcF vs G Tt E (t :: us) sl M ts = kL1 (G (.t t) (wipeS sl vs) M) fun sl1 M1 => kL2 (Tt sl1 M1) fun k M2 => if k then kL3 (E sl1 M2) fun d M3 => kL4 (frz1 M3 d) fun u M4 => kL5 (ts.length < 16777216) (lcF vs G Tt E us sl M4 (ts ++ [u])) else lcF vs G Tt E us sl M2 ts := by
  conv => lhs; unfold lcF
  unfold kL1
  cases G (.t t) (wipeS sl vs) M with
  | nx sl1 M1 =>
    simp only
    unfold kL2
    cases Tt sl1 M1 with
    | ok k M2 =>
      simp only
      cases k with
      | false => rfl
      | true =>
        simp only [if_true]
        unfold kL3
        cases E sl1 M2 with
        | ok d M3 =>
          simp only
          unfold kL4
          cases frz1 M3 d with
          | none => rfl
          | some p => obtain ⟨u, M4⟩ := p; simp only [sizeLine_eq]; rfl
        | exc x M => rfl
        | fail => rfl
    | exc x M => rfl
    | fail => rfl
  | _ => rfl
def kLd (vs : List Nat) (G : GG) (Tt : Fn Bool) (E : FE) (us : List T) (sl : List (Option D)) (acc : List T) (u : T) (M4 : List MO) : LO := kL5 (acc.length < 16777216) (lcF vs G Tt E us sl M4 (acc ++ [u]))
def kLcc (vs : List Nat) (G : GG) (Tt : Fn Bool) (E : FE) (us : List T) (sl : List (Option D)) (acc : List T) (d : D) (M3 : List MO) : LO := kL4 (frz1 M3 d) (kLd vs G Tt E us sl acc)
def kLb (vs : List Nat) (G : GG) (Tt : Fn Bool) (E : FE) (us : List T) (sl : List (Option D)) (acc : List T) (sl1 : List (Option D)) (k : Bool) (M2 : List MO) : LO := if k then kL3 (E sl1 M2) (kLcc vs G Tt E us sl acc) else lcF vs G Tt E us sl M2 acc
def kLa (vs : List Nat) (G : GG) (Tt : Fn Bool) (E : FE) (us : List T) (sl : List (Option D)) (acc : List T) (sl1 : List (Option D)) (M1 : List MO) : LO := kL2 (Tt sl1 M1) (kLb vs G Tt E us sl acc sl1)
section
variable {vs : List Nat} {G : GG} {Tt : Fn Bool} {E : FE} {acc : List T}
theorem x_lcFc : lcF vs G Tt E (t :: us) sl M acc = kL1 (G (.t t) (wipeS sl vs) M) (kLa vs G Tt E us sl acc) := by rw [w_lcFc]; rfl
theorem y_la : kLa vs G Tt E us sl acc sl' M = kL2 (Tt sl' M) (kLb vs G Tt E us sl acc sl') := nr rfl
theorem y_lbT : kLb vs G Tt E us sl acc sl' true M = kL3 (E sl' M) (kLcc vs G Tt E us sl acc) := nr rfl
theorem y_lbF : kLb vs G Tt E us sl acc sl' false M = lcF vs G Tt E us sl M acc := nr rfl
theorem y_lcc : kLcc vs G Tt E us sl acc d M = kL4 (frz1 M d) (kLd vs G Tt E us sl acc) := nr rfl
theorem y_ld : kLd vs G Tt E us sl acc t M = kL5 (acc.length < 16777216) (lcF vs G Tt E us sl M (acc ++ [t])) := nr rfl
end
/-! fields of a new instance -/
theorem insP_new {f : Str} : ∀ {ns : List Str} {ds : List D}, ns.contains f = false → ns.length = ds.length → insP f d ns ds = (ns ++ [f], ds ++ [d])
  | [], [], _, _ => rfl
  | n :: ns, e :: ds, h, hl => by
    rw [List.contains_cons, Bool.or_eq_false_iff] at h
    unfold insP
    rw [if_neg (fun q => by rw [q] at h; simp at h), insP_new h.2 (by simpa using hl)]
    rfl
def kFld (c f : Str) (sl : List (Option D)) (d o : D) (M2 : List MO) : SRes := match o with
  | .m k => (match (M2[k]? : Option MO) with
    | some (.ins c' ns ds) => if c' = c ∧ ns.length < 1000 then .nx sl (M2.set k (.ins c (insP f d ns ds).1 (insP f d ns ds).2)) else .fail
    | _ => .fail)
  | _ => .fail
def kSf2 (c x : Str) (sl : List (Option D)) (d o : D) (M2 : List MO) : SRes := kFld c x sl d o M2
def kSf1 (c x : Str) (fo : FE) (sl : List (Option D)) (d : D) (M1 : List MO) : SRes := (fo sl M1).toS sl (kSf2 c x sl d)
theorem x_sFld {c x : Str} {fv : FE} : sFldM c x fo fv sl M = (fv sl M).toS sl (kSf1 c x fo sl) := nr rfl
theorem y_sf1 {c x : Str} : kSf1 c x fo sl d M = (fo sl M).toS sl (kSf2 c x sl d) := nr rfl
theorem y_sf2 {c x : Str} : kSf2 c x sl d d1 M = kFld c x sl d d1 M := nr rfl
theorem kFld_new {c x : Str} {ns : List Str} {ds : List D} {R : List MO} (h : ns.contains x = false) (hl : ns.length = ds.length) (hs : ns.length < 1000) : kFld c x sl d (.m 0) (.ins c ns ds :: R) = .nx sl (.ins c (ns ++ [x]) (ds ++ [d]) :: R) := by
  show (if c = c ∧ ns.length < 1000 then SRes.nx sl (.ins c (insP x d ns ds).1 (insP x d ns ds).2 :: R) else .fail) = _
  rw [if_pos ⟨rfl, hs⟩, insP_new h hl]
/-! loops over a written list -/
def kLq (r : SRes) (q : FS) : SRes := match r with
  | .nx sl2 M2 => q sl2 M2
  | .ct sl2 M2 => q sl2 M2
  | .bk sl2 M2 => .nx sl2 M2
  | r => r
theorem kLq_nx {q : FS} : kLq (.nx sl M) q = q sl M := nr rfl
theorem kLq_ct {q : FS} : kLq (.ct sl M) q = q sl M := nr rfl
theorem kLq_bk {q : FS} : kLq (.bk sl M) q = .nx sl M := nr rfl
theorem kLq_rt {q : FS} : kLq (.rt d M) q = .rt d M := nr rfl
theorem kLq_exc {q : FS} {x : Xn} : kLq (.exc x sl M) q = .exc x sl M := nr rfl
def kLp (r : SRes) (q : FS) : SRes := match r with
  | .nx sl1 M1 => q sl1 M1
  | .exc x sl1 M1 => .exc x sl1 M1
  | _ => .fail
theorem kLp_nx {q : FS} : kLp (.nx sl M) q = q sl M := nr rfl
theorem w_loopc {G : GG} {B : FS} : loopF G B (t :: ts) sl M = kLp (G (.t t) sl M) fun sl1 M1 => kLq (B sl1 M1) (loopF G B ts) := by
  conv => lhs; unfold loopF
  unfold kLp
  cases G (.t t) sl M with
  | nx sl1 M1 => simp only; unfold kLq; cases B sl1 M1 <;> rfl
  | _ => rfl
def kLpB (G : GG) (B : FS) (ts : List T) (sl1 : List (Option D)) (M1 : List MO) : SRes := kLq (B sl1 M1) (loopF G B ts)
theorem x_loopc {G : GG} {B : FS} : loopF G B (t :: ts) sl M = kLp (G (.t t) sl M) (kLpB G B ts) := by rw [w_loopc]; rfl
theorem y_lpB {G : GG} {B : FS} : kLpB G B ts sl M = kLq (B sl M) (loopF G B ts) := nr rfl
theorem enum0 : enumT [] = [] := nr rfl
theorem enum1 : enumT [t] = [.tup [.int 0, t]] := nr rfl
theorem enum2 : enumT [t, t1] = [.tup [.int 0, t], .tup [.int 1, t1]] := nr rfl
theorem ty_lst0 {R : List MO} : isLst (.m 0) (.lst ts :: R) = true := nr rfl
theorem o_app0 {R : List MO} : gAppend (.m 0) [.t t] (.lst ts :: R) = kIf (ts.length < 16777216) (.ok (.t .non) (.lst (ts ++ [t]) :: R)) := by
  show (if ts.length < sizeLine then Res.ok (D.t T.non) (.lst (ts ++ [t]) :: R) else .fail) = _
  rw [sizeLine_eq]; rfl
/-! calls that change the bag, which stands first in the store -/
def resB (R : List MO) : BR → Res D
  | .val t b => .ok (.t t) (.lst b :: R)
  | .fresh us b => .ok (.t (.lst us)) (.lst b :: R)
  | .exc x b => .exc x (.lst b :: R)
  | .fail => .fail
section
variable {R : List MO} {fb : List T → List T → BR} {b : List T} {u v w : T}
theorem resB_val : resB R (.val t b) = .ok (.t t) (.lst b :: R) := nr rfl
theorem resB_fresh : resB R (.fresh us b) = .ok (.t (.lst us)) (.lst b :: R) := nr rfl
theorem x_callB : eCallB n fb fs sl M = (fs sl M).bind (gCallB n fb) := nr rfl
theorem o_gB0 : gCallB 1 fb [.m 0] (.lst b :: R) = resB R (fb b []) := by
  show (if 1 = 1 then (match fb b [] with | .val t b' => Res.ok (D.t t) (.lst b' :: R) | .fresh us b' => .ok (.t (.lst us)) (.lst b' :: R) | .exc x b' => .exc x (.lst b' :: R) | .fail => .fail) else Res.fail) = _
  rw [if_pos rfl]; cases fb b [] <;> rfl
theorem o_gB1 : gCallB 2 fb [.m 0, .t u] (.lst b :: R) = resB R (fb b [u]) := by
  show (if 2 = 2 then (match fb b [u] with | .val t b' => Res.ok (D.t t) (.lst b' :: R) | .fresh us b' => .ok (.t (.lst us)) (.lst b' :: R) | .exc x b' => .exc x (.lst b' :: R) | .fail => .fail) else Res.fail) = _
  rw [if_pos rfl]; cases fb b [u] <;> rfl
theorem o_gB2 : gCallB 3 fb [.m 0, .t u, .t v] (.lst b :: R) = resB R (fb b [u, v]) := by
  show (if 3 = 3 then (match fb b [u, v] with | .val t b' => Res.ok (D.t t) (.lst b' :: R) | .fresh us b' => .ok (.t (.lst us)) (.lst b' :: R) | .exc x b' => .exc x (.lst b' :: R) | .fail => .fail) else Res.fail) = _
  rw [if_pos rfl]; cases fb b [u, v] <;> rfl
theorem o_gB3 : gCallB 4 fb [.m 0, .t u, .t v, .t w] (.lst b :: R) = resB R (fb b [u, v, w]) := by
  show (if 4 = 4 then (match fb b [u, v, w] with | .val t b' => Res.ok (D.t t) (.lst b' :: R) | .fresh us b' => .ok (.t (.lst us)) (.lst b' :: R) | .exc x b' => .exc x (.lst b' :: R) | .fail => .fail) else Res.fail) = _
  rw [if_pos rfl]; cases fb b [u, v, w] <;> rfl
end
theorem beq_dec (a b : Str) : (a == b) = decide (a = b) := by
  by_cases h : a = b
  · rw [h]; simp
  · rw [decide_eq_false h]; simpa using h
theorem o_in2 {x a b : Str} : g2 (inT false) (.t (.str x)) (.t (.tup [.str a, .str b])) M = .ok (.t (.bl (decide (a = x) || decide (b = x)))) M := by
  show Res.ok (D.t (T.bl ((a == x) || ((b == x) || false)))) M = _
  rw [Bool.or_false, beq_dec, beq_dec]
theorem o_notin2 {x a b : Str} : g2 (inT true) (.t (.str x)) (.t (.tup [.str a, .str b])) M = .ok (.t (.bl (!(decide (a = x) || decide (b = x))))) M := by
  show Res.ok (D.t (T.bl (!((a == x) || ((b == x) || false))))) M = _
  rw [Bool.or_false, beq_dec, beq_dec]
theorem o_rg2 : iRg1 [.t (.int 2)] M = .ok [.int 0, .int 1] M := nr rfl
theorem o_rg3 : iRg1 [.t (.int 3)] M = .ok [.int 0, .int 1, .int 2] M := nr rfl
theorem o_rg4 : iRg1 [.t (.int 4)] M = .ok [.int 0, .int 1, .int 2, .int 3] M := nr rfl
theorem o_ixT3 {t2 t3 : T} : gIx (.t (.tup (t3 :: t2 :: t1 :: t :: ts))) (.t (.int 3)) M = .ok (.t t) M := o_ixT (atI_nat (j := 3) rfl)
theorem o_ixL3 {t2 t3 : T} : gIx (.t (.lst (t3 :: t2 :: t1 :: t :: ts))) (.t (.int 3)) M = .ok (.t t) M := o_ixL (atI_nat (j := 3) rfl)
theorem o_slL {lo hi : Option Int} : gSl (.t (.lst ts)) lo hi M = .ok (.t (.lst (cutT ts lo hi))) M := nr rfl
theorem o_slT {lo hi : Option Int} : gSl (.t (.tup ts)) lo hi M = .ok (.t (.tup (cutT ts lo hi))) M := nr rfl
theorem o_join {z : Str} {ys : List Str} : gJoin (.t (.str z)) [.t (.lst (ys.map T.str))] M = kIf ((ys.map Str.length).sum + ys.length * z.length ≤ 16777216) (.ok (.t (.str (Txt.join z ys))) M) := by
  have e : ∀ ys : List Str, strsOf (ys.map T.str) = some ys := fun ys => by
    induction ys with
    | nil => rfl
    | cons y ys ih => rw [List.map_cons]; unfold strsOf; rw [ih]
  show (match strsOf (ys.map T.str) with | some ys => if (ys.map Str.length).sum + ys.length * z.length ≤ 16777216 then Res.ok (D.t (T.str (Txt.join z ys))) M else Res.fail | none => Res.fail) = _
  rw [e]; rfl
theorem o_rc0 : iRg1 [.t (.int ((0 : Nat) : Int))] M = .ok [] M := nr rfl
theorem o_rc1 : iRg1 [.t (.int ((0 + 1 : Nat) : Int))] M = .ok [.int 0] M := nr rfl
theorem o_rc2 : iRg1 [.t (.int ((0 + 1 + 1 : Nat) : Int))] M = .ok [.int 0, .int 1] M := nr rfl
def kB0b (b : Bool) (q : GM0) (d : D) (M1 : List MO) : Res D := if b then q d M1 else .fail
def kB0 (ty : D → List MO → Bool) (q : GM0) (d : D) (M1 : List MO) : Res D := kB0b (ty d M1) q d M1
theorem x_bm0 {ty : D → List MO → Bool} {q : GM0} : eBM0 ty q fo sl M = (fo sl M).bind (kB0 ty q) := nr rfl
theorem y_bm0 {ty : D → List MO → Bool} {q : GM0} : kB0 ty q d M = kB0b (ty d M) q d M := nr rfl
theorem y_bm0b {q : GM0} : kB0b true q d M = q d M := nr rfl
section
variable {m0 : MO} {R : List MO} {u : T}
theorem at_end : (m0 :: (R ++ [.lst ts]))[R.length + 1]? = some (.lst ts) := by simp
theorem set_end {y : MO} : (m0 :: (R ++ [.lst ts])).set (R.length + 1) y = m0 :: (R ++ [y]) := by simp
theorem ty_lstE : isLst (.m (R.length + 1)) (m0 :: (R ++ [.lst ts])) = true := by
  unfold isLst lstOf; simp only [at_end]; rfl
theorem o_appE : gAppend (.m (R.length + 1)) [.t u] (m0 :: (R ++ [.lst ts])) = kIf (ts.length < 16777216) (.ok (.t .non) (m0 :: (R ++ [.lst (ts ++ [u])]))) := by
  show (match (m0 :: (R ++ [MO.lst ts]))[R.length + 1]? with | some (MO.lst ts') => if ts'.length < sizeLine then Res.ok (D.t T.non) ((m0 :: (R ++ [MO.lst ts])).set (R.length + 1) (MO.lst (ts' ++ [u]))) else .fail | _ => .fail) = _
  rw [at_end]
  simp only [set_end, sizeLine_eq]; rfl
theorem o_clearE : gClear (.m (R.length + 1)) (m0 :: (R ++ [.lst ts])) = .ok (.t .non) (m0 :: (R ++ [.lst []])) := by
  show (match (m0 :: (R ++ [MO.lst ts]))[R.length + 1]? with | some (MO.lst _) => Res.ok (D.t T.non) ((m0 :: (R ++ [MO.lst ts])).set (R.length + 1) (MO.lst [])) | _ => .fail) = _
  rw [at_end]
  simp only [set_end]
end
theorem flat_strs : ∀ l : List Str, (l.map T.str).all flatT = true
  | [] => rfl
  | _ :: l => by rw [List.map_cons, List.all_cons, flat_strs l]; rfl
theorem mem_strs (z : Str) : ∀ l : List Str, memT (.str z) (l.map T.str) = decide (z ∈ l)
  | [] => rfl
  | y :: l => by
    have ih := mem_strs z l
    unfold memT at ih ⊢
    rw [List.map_cons, List.any_cons, ih]
    show ((y == z) || decide (z ∈ l)) = _
    rw [beq_dec]
    by_cases h : y = z
    · subst h; simp
    · have h2 : ¬ z = y := fun e => h e.symm
      simp [h, h2]
theorem o_inL {neg : Bool} {z : Str} {l : List Str} : g2 (inT neg) (.t (.str z)) (.t (.lst (l.map T.str))) M = .ok (.t (.bl (if neg then !decide (z ∈ l) else decide (z ∈ l)))) M := by
  show (match (if flatT (.str z) = true ∧ (l.map T.str).all flatT = true then some (T.bl (if neg then !memT (.str z) (l.map T.str) else memT (.str z) (l.map T.str))) else none) with | some c => Res.ok (D.t c) M | none => Res.fail) = _
  rw [if_pos ⟨rfl, flat_strs l⟩, mem_strs]
/-! a list of the store, read and written at a place -/
def kSub2 (sl : List (Option D)) (d o i : D) (M2 : List MO) : SRes := match o, i with
  | .m k, .t (.int n) => (match M2[k]? with
    | some (.lst ts) => (match ixN ts.length n with
      | some j => (match frz1 M2 d with
        | some (t, M3) => (match M3[k]? with
          | some (.lst ts) => .nx sl (M3.set k (.lst (ts.set j t)))
          | _ => .fail)
        | none => .fail)
      | none => .fail)
    | _ => .fail)
  | _, _ => .fail
def kSub1 (fi : FE) (d : D) (sl : List (Option D)) (o : D) (M1 : List MO) : SRes := (fi sl M1).toS sl (kSub2 sl d o)
theorem x_gSubM {fi : FE} : gSubM fo fi d sl M = (fo sl M).toS sl (kSub1 fi d sl) := nr rfl
theorem y_sub1 {fi : FE} : kSub1 fi d sl d1 M = (fi sl M).toS sl (kSub2 sl d d1) := nr rfl
theorem y_sub2 {R : List MO} {u : T} {x : Int} {j : Nat} (h : ixN ts.length x = some j) : kSub2 sl (.t u) (.m 0) (.t (.int x)) (.lst ts :: R) = .nx sl (.lst (ts.set j u) :: R) := by
  show (match ixN ts.length x with | some j => SRes.nx sl ((MO.lst ts :: R).set 0 (.lst (ts.set j u))) | none => .fail) = _
  rw [h]; rfl
theorem o_ixM0 {R : List MO} {x : Int} (h : atI ts x = some t) : gIx (.m 0) (.t (.int x)) (.lst ts :: R) = .ok (.t t) (.lst ts :: R) := by
  show (match (some ts : Option (List T)) with | some ts => (match atI ts x with | some t => Res.ok (D.t t) (.lst ts :: R) | none => .fail) | none => .fail) = _
  simp only [h]
theorem kStar_m0 {R : List MO} : kStar fs sl (.m 0) (.lst ts :: R) = (fs sl (.lst ts :: R)).bind (kStar2 ts) := nr rfl
theorem o_lenCL {c : Str} {fp : List T → PR} : gLenC c fp [.t (.lst ts)] M = .ok (.t (.int (ts.length : Int))) M := nr rfl
theorem o_lenCT {c : Str} {fp : List T → PR} : gLenC c fp [.t (.tup ts)] M = .ok (.t (.int (ts.length : Int))) M := nr rfl
end
end Bm

namespace Bm
open PySem L2
theorem z_lp : ("(" : Str).cps.size = 1 := rfl
theorem z_rp : (")" : Str).cps.size = 1 := rfl
theorem z_sp : (" " : Str).cps.size = 1 := rfl
theorem z_bar : ("|" : Str).cps.size = 1 := rfl
theorem z_amp : ("&" : Str).cps.size = 1 := rfl
theorem z_sbar : (" | " : Str).cps.size = 3 := rfl
theorem z_samp : (" & " : Str).cps.size = 3 := rfl
theorem z_emp : ("" : Str).cps.size = 0 := rfl
theorem z_item : ("item" : Str).cps.size = 4 := rfl
theorem z_top : ("top" : Str).cps.size = 3 := rfl
theorem z_bottom : ("bottom" : Str).cps.size = 6 := rfl
theorem z_map : ("map" : Str).cps.size = 3 := rfl
theorem z_join : ("join" : Str).cps.size = 4 := rfl
theorem z_meet : ("meet" : Str).cps.size = 4 := rfl
theorem z_termlp : ("Term(" : Str).cps.size = 5 := rfl
theorem z_x : ("x" : Str).cps.size = 1 := rfl
theorem z_a : ("a" : Str).cps.size = 1 := rfl
theorem z_b : ("b" : Str).cps.size = 1 := rfl
theorem z_c : ("c" : Str).cps.size = 1 := rfl
theorem z_f : ("f" : Str).cps.size = 1 := rfl
theorem z_g : ("g" : Str).cps.size = 1 := rfl
theorem n_item_top : (("item" : Str) = "top") = False := eq_false (by decide +kernel)
theorem n_item_bottom : (("item" : Str) = "bottom") = False := eq_false (by decide +kernel)
theorem n_item_map : (("item" : Str) = "map") = False := eq_false (by decide +kernel)
theorem n_item_join : (("item" : Str) = "join") = False := eq_false (by decide +kernel)
theorem n_item_meet : (("item" : Str) = "meet") = False := eq_false (by decide +kernel)
theorem n_top_item : (("top" : Str) = "item") = False := eq_false (by decide +kernel)
theorem n_top_bottom : (("top" : Str) = "bottom") = False := eq_false (by decide +kernel)
theorem n_top_map : (("top" : Str) = "map") = False := eq_false (by decide +kernel)
theorem n_top_join : (("top" : Str) = "join") = False := eq_false (by decide +kernel)
theorem n_top_meet : (("top" : Str) = "meet") = False := eq_false (by decide +kernel)
theorem n_bottom_item : (("bottom" : Str) = "item") = False := eq_false (by decide +kernel)
theorem n_bottom_top : (("bottom" : Str) = "top") = False := eq_false (by decide +kernel)
theorem n_bottom_map : (("bottom" : Str) = "map") = False := eq_false (by decide +kernel)
theorem n_bottom_join : (("bottom" : Str) = "join") = False := eq_false (by decide +kernel)
theorem n_bottom_meet : (("bottom" : Str) = "meet") = False := eq_false (by decide +kernel)
theorem n_map_item : (("map" : Str) = "item") = False := eq_false (by decide +kernel)
theorem n_map_top : (("map" : Str) = "top") = False := eq_false (by decide +kernel)
theorem n_map_bottom : (("map" : Str) = "bottom") = False := eq_false (by decide +kernel)
theorem n_map_join : (("map" : Str) = "join") = False := eq_false (by decide +kernel)
theorem n_map_meet : (("map" : Str) = "meet") = False := eq_false (by decide +kernel)
theorem n_join_item : (("join" : Str) = "item") = False := eq_false (by decide +kernel)
theorem n_join_top : (("join" : Str) = "top") = False := eq_false (by decide +kernel)
theorem n_join_bottom : (("join" : Str) = "bottom") = False := eq_false (by decide +kernel)
theorem n_join_map : (("join" : Str) = "map") = False := eq_false (by decide +kernel)
theorem n_join_meet : (("join" : Str) = "meet") = False := eq_false (by decide +kernel)
theorem n_meet_item : (("meet" : Str) = "item") = False := eq_false (by decide +kernel)
theorem n_meet_top : (("meet" : Str) = "top") = False := eq_false (by decide +kernel)
theorem n_meet_bottom : (("meet" : Str) = "bottom") = False := eq_false (by decide +kernel)
theorem n_meet_map : (("meet" : Str) = "map") = False := eq_false (by decide +kernel)
theorem n_meet_join : (("meet" : Str) = "join") = False := eq_false (by decide +kernel)
end Bm

open PySem L2 Bm BmLaw in
local macro_rules
  | `(tactic| push_cast [$ls,*]) => `(tactic| simp (maxSteps := 2000000) (disch := first | assumption | omega | (decide +kernel) | (simp only [List.length_cons, List.length_nil]; done) | (simp only [size_app, z_lp, z_rp, z_sp, z_bar, z_amp, z_sbar, z_samp, z_emp, z_item, z_top, z_bottom, z_map, z_join, z_meet, z_termlp, z_x, z_a, z_b, z_c, z_f, z_g]; omega)) only [$ls,*, x_seq, rSeq_nx, rSeq_rt, rSeq_bk, rSeq_ct, rSeq_exc, bind_ok, bind_exc, toS_ok, toS_exc, y_set, y_ret, y_expr, y_ifT, y_ifF, y_bAndT, y_bAndF, y_bOrT, y_bOrF, y_bNot, y_eAndT, y_eAndF, y_eOrT, y_eOrF, y_eNot, y_eIfT, y_eIfF, y_e2, y_e2', y_e3a, y_e3b, y_e3T, y_e3F, y_e3d, y_a1, y_a2, y_ck1, y_ck2, y_neg, y_sl1, y_sl2, y_sl3, y_tup, y_tup2, y_lst, y_lst2, y_lsM, y_lsM2, y_cal, y_cal2, y_calM, y_calM2, y_kwP, y_perm0, y_perm01, y_perm10, y_cr, y_crM, y_me1, y_me2, y_me3, y_meM1, y_meM2, y_meM3, y_kwS, y_kwM, y_mk, y_mk2, y_lc, y_for, y_asg, y_bm1, y_bm2, y_bm3, y_star2, y_la, y_lbT, y_lbF, y_lcc, y_ld, y_sf1, y_sf2, y_lpB, y_bm0, y_bm0b, x_set, x_ret, x_retN, x_expr, x_skip, x_pass, x_break, x_cont, x_if, x_eB, toB_bl, x_bAnd, x_bOr, x_bNot, x_bYes, x_eAnd, x_eOr, x_eNot, x_eIf, x_eC, x_var0, x_varS, x_e2, x_e3, x_aNil, x_aCons, x_eCB, x_eCK, x_oNone, x_oSome, kSome_int, x_eSl, frz_nil, frz_t, kFrz_some, frz1_t, kTs_some, kIf_pos, kIf_true, x_eTup, x_eLst, x_eLstM, resP_val, resP_fresh, resP_exc, resM_val, resM_fresh, resM_exc, x_call, x_callM, x_callK, x_gCallR, x_gCallRM, x_many, x_star0, x_star1, x_star2, x_star3, x_meth, x_methM, x_pro, x_fld, x_stat, x_statK, x_methK, resI_made, x_make, x_lc, kLc_some, x_lcM, y_lcM, kLcM_some, x_lcF0, x_lcFc, kL1_nx, kL2_ok, kL3_ok, kL4_some, kL5_pos, x_sFld, kFld_new, x_il, iLst_t, x_it, iTp_t, x_is, iSt_t, x_ir1, x_ie1, iEn_tup, x_iz, iZp_ll, x_for, x_loop0, x_loopc, kLp_nx, kLq_nx, kLq_ct, kLq_bk, kLq_rt, kLq_exc, enum0, enum1, enum2, ty_lst0, o_app0, resB_val, resB_fresh, x_callB, o_gB0, o_gB1, o_gB2, o_gB3, o_in2, o_notin2, o_rg2, o_rg3, o_rg4, o_rc0, o_rc1, o_rc2, x_gSubM, y_sub1, kStar_m0, o_lenCL, o_lenCT, x_bm0, ty_lstE, o_appE, o_clearE, x_nm, x_tp2, x_tp3, kG_nx, x_asg, x_par, kPar_2, x_par3, kPar3_3, o_eqS, o_eqI, o_eqB, o_neS, o_neI, o_neB, o_lt, o_le, o_gt, o_ge, o_sub, o_addI, o_addS, o_addT, o_addL, o_ixT0, o_ixT1, o_ixT2, o_ixL0, o_ixL1, o_ixL2, o_ixT3, o_ixL3, o_slL, o_slT, o_lenS, o_lenL, o_lenT, o_listT, o_listL, o_listMT, o_listML, o_int, o_max2, o_sum, o_maxD0, o_fmt, x_fmt, x_js, x_jsF, x_jsN, x_kJs, x_revT, o_revT, x_e1, x_bm, ty_strD, x_aStar, kStar_t, kStar_l, x_set0, x_setS, wipeS, List.length_cons, List.length_nil, ↓reduceIte, Bool.not_true, Bool.not_false, Bool.false_eq_true, decide_true, decide_false, List.map_cons, List.map_nil, List.cons_append, List.nil_append, eq_self, Bool.and_true, Bool.true_and, Bool.or_false, Bool.false_or, n_item_top, n_item_bottom, n_item_map, n_item_join, n_item_meet, n_top_item, n_top_bottom, n_top_map, n_top_join, n_top_meet, n_bottom_item, n_bottom_top, n_bottom_map, n_bottom_join, n_bottom_meet, n_map_item, n_map_top, n_map_bottom, n_map_join, n_map_meet, n_join_item, n_join_top, n_join_bottom, n_join_map, n_join_meet, n_meet_item, n_meet_top, n_meet_bottom, n_meet_map, n_meet_join])
namespace BmTm
open PySem L2 Bm BmLaw BmT
/-! texts -/
theorem str_ext {x y : Str} (h : x.cps.toList = y.cps.toList) : x = y := by
  cases x; cases y
  simp only [Str.mk.injEq]
  exact Array.ext' h
theorem str_assoc (x y z : Str) : (x ++ y) ++ z = x ++ (y ++ z) := str_ext (by simp only [list_app, List.append_assoc])
theorem str_empty (x : Str) : Str.empty ++ x = x := str_ext (by rw [list_app]; rfl)
/-- a kind of a leaf -/
inductive LK where
  | item | top | bottom
inductive BK where
  | join | meet
def LK.s : LK → Str
  | .item => "item" | .top => "top" | .bottom => "bottom"
def BK.s : BK → Str
  | .join => "join" | .meet => "meet"
def BK.g : BK → Str
  | .join => "|" | .meet => "&"
/-- a term -/
inductive Tm where
  | leaf (k : LK) (z : Str) | map (z : Str) (t : Tm) | bin (k : BK) (a b : Tm)
namespace Tm
def kind : Tm → Str
  | leaf k _ => k.s | map _ _ => "map" | bin k _ _ => k.s
def head : Tm → Str
  | leaf _ z => z | map z _ => z | bin _ _ _ => ""
def parts : Tm → List Tm
  | leaf _ _ => [] | map _ t => [t] | bin _ a b => [a, b]
def depth : Tm → Nat
  | leaf _ _ => 1 | map _ t => 1 + t.depth | bin _ a b => 1 + max a.depth b.depth
def size : Tm → Nat
  | leaf _ _ => 1 | map _ t => 1 + t.size | bin _ a b => 1 + a.size + b.size
def text : Tm → Str
  | leaf .item z => z
  | leaf .top z => ("top" : Str) ++ ((" " : Str) ++ z)
  | leaf .bottom z => ("bottom" : Str) ++ ((" " : Str) ++ z)
  | map z t => z ++ ((" " : Str) ++ t.text)
  | bin k a b => ("(" : Str) ++ (a.text ++ ((" " : Str) ++ (k.g ++ ((" " : Str) ++ (b.text ++ (")" : Str))))))
/-- the instance -/
def ns : List Str := ["own_kind", "own_name", "own_parts", "own_depth", "own_text"]
def ins : Tm → T
  | leaf k z => .ins "Term" ns [.str k.s, .str z, .tup [], .int 1, .str (leaf k z).text]
  | map z t => .ins "Term" ns [.str "map", .str z, .tup [t.ins], .int ((map z t).depth : Int), .str (map z t).text]
  | bin k a b => .ins "Term" ns [.str k.s, .str "", .tup [a.ins, b.ins], .int ((bin k a b).depth : Int), .str (bin k a b).text]
theorem ins_eq (t : Tm) : t.ins = .ins "Term" ns [.str t.kind, .str t.head, .tup (t.parts.map ins), .int (t.depth : Int), .str t.text] := by
  cases t <;> rfl
/-- the law's tuple -/
def tree : Tm → T
  | leaf k z => .tup [.str k.s, .str z]
  | map z t => .tup [.str "map", .str z, t.tree]
  | bin k a b => .tup [.str k.s, a.tree, b.tree]
end Tm
/-! fields, properties -/
section
variable {t : Tm} {M : List MO}
theorem isIns {m : Str} (h : (Tm.ns.contains m) = false) : isInsN "Term" m (.t t.ins) = true := by
  rw [Tm.ins_eq]
  show (decide (("Term" : Str) = "Term") && !Tm.ns.contains m) = true
  rw [h]; simp
theorem i0 : isInsN "Term" "" (.t t.ins) = true := isIns (by decide +kernel)
theorem i_text : isInsN "Term" "text" (.t t.ins) = true := isIns (by decide +kernel)
theorem i_parts : isInsN "Term" "parts" (.t t.ins) = true := isIns (by decide +kernel)
theorem i_walked : isInsN "Term" "walked" (.t t.ins) = true := isIns (by decide +kernel)
theorem i_names : isInsN "Term" "names" (.t t.ins) = true := isIns (by decide +kernel)
theorem i_under : isInsN "Term" "under" (.t t.ins) = true := isIns (by decide +kernel)
theorem fl {f : Str} {u : T} (h : fldOf f Tm.ns [.str t.kind, .str t.head, .tup (t.parts.map Tm.ins), .int (t.depth : Int), .str t.text] = some u) : gFld "Term" f (.t t.ins) M = .ok (.t u) M := by
  rw [Tm.ins_eq]
  unfold gFld
  simp only [if_true, h]
theorem f_kind : gFld "Term" "own_kind" (.t t.ins) M = .ok (.t (.str t.kind)) M := fl (by unfold Tm.ns fldOf; rw [if_pos rfl])
theorem f_head : gFld "Term" "own_name" (.t t.ins) M = .ok (.t (.str t.head)) M := fl (by unfold Tm.ns fldOf; rw [if_neg (by decide +kernel)]; unfold fldOf; rw [if_pos rfl])
theorem f_parts : gFld "Term" "own_parts" (.t t.ins) M = .ok (.t (.tup (t.parts.map Tm.ins))) M := fl (by unfold Tm.ns fldOf; rw [if_neg (by decide +kernel)]; unfold fldOf; rw [if_neg (by decide +kernel)]; unfold fldOf; rw [if_pos rfl])
theorem f_depth : gFld "Term" "own_depth" (.t t.ins) M = .ok (.t (.int (t.depth : Int))) M := fl (by unfold Tm.ns; repeat (first | (unfold fldOf; rw [if_pos rfl]; done) | (unfold fldOf; rw [if_neg (by decide +kernel)])))
theorem f_text : gFld "Term" "own_text" (.t t.ins) M = .ok (.t (.str t.text)) M := fl (by unfold Tm.ns; repeat (first | (unfold fldOf; rw [if_pos rfl]; done) | (unfold fldOf; rw [if_neg (by decide +kernel)])))
end
theorem str_eta (x : Str) : (⟨x.cps⟩ : Str) = x := rfl
theorem get_isSome (z : Str) : ∀ tab : List (Str × T), (tabGet tab z).isSome = (tab.map (·.1)).contains z
  | [] => rfl
  | (k, t) :: r => by
    unfold tabGet
    rw [List.map_cons, List.contains_cons]
    by_cases h : k = z
    · rw [if_pos h, h]; simp
    · rw [if_neg h, get_isSome z r]
      have : (z == k) = false := by simpa using fun e => h e.symm
      rw [this, Bool.false_or]
theorem key_in {neg k : Bool} {z : Str} {tab : List (Str × T)} (h : (neg != (tab.map (·.1)).contains z) = k) : keyIn neg tab (.str z) = some (.bl k) := by
  show some (T.bl (neg != (tabGet tab z).isSome)) = _
  rw [get_isSome, h]
theorem get_hit {k z : Str} {t : T} {r : List (Str × T)} (h : k = z) : tabGet ((k, t) :: r) z = some t := by unfold tabGet; rw [if_pos h]
theorem get_miss {k z : Str} {t : T} {r : List (Str × T)} (h : ¬ k = z) : tabGet ((k, t) :: r) z = tabGet r z := by rw [tabGet, if_neg h]
theorem sign_at (k : BK) : keyAt c_SIGNS (.str k.s) = some (.str k.g) := by
  show tabGet c_SIGNS k.s = _
  unfold c_SIGNS
  cases k
  · exact get_hit rfl
  · rw [get_miss (by decide +kernel)]; exact get_hit rfl
theorem sign_in (k : BK) : keyIn false c_SIGNS (.str k.s) = some (.bl true) := by
  cases k <;> exact key_in (by decide +kernel)
/-! the body of a def as a call -/
theorem written_leaf (k : LK) (z : Str) (ts : List T) (h : z.cps.size ≤ 16000000) : f_written [.str k.s, .str z, .lst ts] = .val (.str (Tm.leaf k z).text) := by
  show ansP (F_written [some (.t (.str k.s)), some (.t (.str z)), some (.t (.lst ts))] []) = _
  unfold F_written
  have e1 : keyIn false c_SIGNS (.str "item") = some (.bl false) := key_in (by decide +kernel)
  have e2 : keyIn false c_SIGNS (.str "top") = some (.bl false) := key_in (by decide +kernel)
  have e3 : keyIn false c_SIGNS (.str "bottom") = some (.bl false) := key_in (by decide +kernel)
  cases k
  · push_cast [LK.s]
    rfl
  · push_cast [LK.s, kE1_some e2, str_empty, str_assoc]
    rfl
  · push_cast [LK.s, kE1_some e3, str_empty, str_assoc]
    rfl
theorem written_map (z : Str) (t : Tm) (h : z.cps.size + t.text.cps.size ≤ 16000000) : f_written [.str "map", .str z, .lst [.str t.text]] = .val (.str (Tm.map z t).text) := by
  show ansP (F_written [some (.t (.str "map")), some (.t (.str z)), some (.t (.lst [.str t.text]))] []) = _
  unfold F_written
  have e1 : keyIn false c_SIGNS (.str "map") = some (.bl false) := key_in (by decide +kernel)
  push_cast [kE1_some e1, str_empty, str_assoc]
  rfl
theorem written_bin (k : BK) (a b : Tm) (h : a.text.cps.size + b.text.cps.size ≤ 16000000) : f_written [.str k.s, .str "", .lst [.str a.text, .str b.text]] = .val (.str (Tm.bin k a b).text) := by
  show ansP (F_written [some (.t (.str k.s)), some (.t (.str "")), some (.t (.lst [.str a.text, .str b.text]))] []) = _
  unfold F_written
  have e0 : (k.s = "item") = False := by cases k <;> exact eq_false (by decide +kernel)
  have e1 : k.g.cps.size = 1 := by cases k <;> rfl
  push_cast [e0, kE1_some (sign_in k), kE1_some (sign_at k), str_empty, str_assoc]
  rfl
theorem ptext_ok (t : Tm) : f_Term_text [t.ins] = .val (.str t.text) := by
  show ansP (F_Term_text [some (.t t.ins)] []) = _
  unfold F_Term_text
  push_cast [f_text]
  rfl
theorem depth_ok (t : Tm) : f_Term_depth [t.ins] = .val (.int (t.depth : Int)) := by
  show ansP (F_Term_depth [some (.t t.ins)] []) = _
  unfold F_Term_depth
  push_cast [f_depth]
  rfl
theorem pdepth {t : Tm} {M : List MO} : pPro "Term" f_Term_depth (.t t.ins) M = .ok (.t (.int (t.depth : Int))) M := by
  unfold pPro
  rw [i0]
  push_cast [depth_ok]
theorem start5 (a b c : T) : start' 5 (D.m 0 :: ([a, b, c] : List T).map D.t) = [some (.m 0), some (.t a), some (.t b), some (.t c), none] := rfl
theorem make_leaf (k : LK) (z : Str) (h : z.cps.size ≤ 16000000) : i_Term [.str k.s, .str z] = .made Tm.ns [.str k.s, .str z, .tup [], .int 1, .str (Tm.leaf k z).text] := by
  show ansI "Term" (F_Term_init [some (.m 0), some (.t (.str k.s)), some (.t (.str z)), some (.t (.tup [])), none] [.ins "Term" [] []]) = _
  unfold F_Term_init
  push_cast [written_leaf k z [] h]
  rfl
theorem make_map (z : Str) (t : Tm) (h : z.cps.size + t.text.cps.size ≤ 16000000) : i_Term [.str "map", .str z, t.ins] = .made Tm.ns [.str "map", .str z, .tup [t.ins], .int ((Tm.map z t).depth : Int), .str (Tm.map z t).text] := by
  show ansI "Term" (F_Term_init [some (.m 0), some (.t (.str "map")), some (.t (.str z)), some (.t (.tup [t.ins])), none] [.ins "Term" [] []]) = _
  unfold F_Term_init
  have e : ∀ M, gMaxD [.t (.lst [.int (t.depth : Int)])] [.t (.int 0)] M = .ok (.t (.int (t.depth : Int))) M := fun M => o_maxD (xs := [(t.depth : Int)]) (by simp)
  push_cast [written_map z t h, pdepth, i_text, ptext_ok, e]
  rfl
theorem make_bin (k : BK) (a b : Tm) (h : a.text.cps.size + b.text.cps.size ≤ 16000000) : i_Term [.str k.s, .str "", a.ins, b.ins] = .made Tm.ns [.str k.s, .str "", .tup [a.ins, b.ins], .int ((Tm.bin k a b).depth : Int), .str (Tm.bin k a b).text] := by
  show ansI "Term" (F_Term_init [some (.m 0), some (.t (.str k.s)), some (.t (.str "")), some (.t (.tup [a.ins, b.ins])), none] [.ins "Term" [] []]) = _
  unfold F_Term_init
  have e : ∀ M, gMaxD [.t (.lst [.int (a.depth : Int), .int (b.depth : Int)])] [.t (.int 0)] M = .ok (.t (.int ((max a.depth b.depth : Nat) : Int))) M := fun M => by
    rw [show ([T.int (a.depth : Int), T.int (b.depth : Int)] : List T) = ([(a.depth : Int), (b.depth : Int)] : List Int).map T.int from rfl, o_maxD (by simp)]
    congr 3
    show (if (a.depth : Int) < b.depth then (b.depth : Int) else a.depth) = _
    split <;> omega
  push_cast [written_bin k a b h, pdepth, i_text, ptext_ok, e]
  rfl
end BmTm

namespace BmTm
open PySem L2 Bm BmLaw BmT
namespace Tm
/-- all names are names -/
def nm : Tm → Prop
  | leaf _ z => isNameZ z = true ∧ z.cps.size ≤ 8
  | map z t => (isNameZ z = true ∧ z.cps.size ≤ 8) ∧ t.nm
  | bin _ a b => a.nm ∧ b.nm
theorem size_pos : ∀ t : Tm, 0 < t.size
  | leaf _ _ => Nat.one_pos
  | map _ t => by show 0 < 1 + t.size; omega
  | bin _ a b => by show 0 < 1 + a.size + b.size; omega
theorem text_size : ∀ t : Tm, t.nm → t.text.cps.size ≤ 16 * t.size
  | leaf .item z, h => by have := h.2; show z.cps.size ≤ 16 * 1; omega
  | leaf .top z, h => by have := h.2; simp only [text, size_app, z_top, z_sp, size]; omega
  | leaf .bottom z, h => by have := h.2; simp only [text, size_app, z_bottom, z_sp, size]; omega
  | map z t, h => by have := h.1.2; have := text_size t h.2; simp only [text, size_app, z_sp, size]; omega
  | bin k a b, h => by
    have := text_size a h.1; have := text_size b h.2
    have e : k.g.cps.size = 1 := by cases k <;> rfl
    simp only [text, size_app, z_sp, z_lp, z_rp, e, size]; omega
theorem depth_size : ∀ t : Tm, t.depth ≤ t.size
  | leaf _ _ => Nat.le_refl _
  | map _ t => by have := depth_size t; show 1 + t.depth ≤ 1 + t.size; omega
  | bin _ a b => by have := depth_size a; have := depth_size b; show 1 + max a.depth b.depth ≤ 1 + a.size + b.size; omega
/-- the walk in preorder -/
def walk : Tm → List (List Nat × Tm)
  | leaf k z => [([], leaf k z)]
  | map z t => ([], map z t) :: t.walk.map fun p => (0 :: p.1, p.2)
  | bin k a b => ([], bin k a b) :: ((a.walk.map fun p => (0 :: p.1, p.2)) ++ b.walk.map fun p => (1 :: p.1, p.2))
theorem walk_len : ∀ t : Tm, t.walk.length = t.size
  | leaf _ _ => rfl
  | map _ t => by simp only [walk, size, List.length_cons, List.length_map, walk_len t]; omega
  | bin _ a b => by simp only [walk, size, List.length_cons, List.length_append, List.length_map, walk_len a, walk_len b]; omega
theorem walk_path : ∀ (t : Tm) (p : List Nat × Tm), p ∈ t.walk → p.1.length < t.depth
  | leaf _ _, p, h => by simp only [walk, List.mem_singleton] at h; subst h; exact Nat.one_pos
  | map _ t, p, h => by
    simp only [walk, List.mem_cons, List.mem_map] at h
    rcases h with rfl | ⟨q, hq, rfl⟩
    · show 0 < 1 + t.depth; omega
    · have := walk_path t q hq; show q.1.length + 1 < 1 + t.depth; omega
  | bin _ a b, p, h => by
    simp only [walk, List.mem_cons, List.mem_append, List.mem_map] at h
    rcases h with rfl | ⟨q, hq, rfl⟩ | ⟨q, hq, rfl⟩
    · show 0 < 1 + max a.depth b.depth; omega
    · have := walk_path a q hq; show q.1.length + 1 < 1 + max a.depth b.depth; omega
    · have := walk_path b q hq; show q.1.length + 1 < 1 + max a.depth b.depth; omega
end Tm
def pathT (p : List Nat) : T := .tup (p.map fun (i : Nat) => T.int (i : Int))
def pr (p : List Nat × Tm) : T := .tup [pathT p.1, p.2.ins]
/-! making -/
theorem leaf_ok (k : LK) (z : Str) (h : isNameZ z = true) (hz : z.cps.size ≤ 8) : f_leaf [.str k.s, .str z] = .val (Tm.leaf k z).ins := by
  show ansP (F_leaf [some (.t (.str k.s)), some (.t (.str z))] []) = _
  unfold F_leaf
  push_cast [name_str z (by omega), h, make_leaf k z (by omega)]
  rfl
theorem item_ok (z : Str) (h : isNameZ z = true) (hz : z.cps.size ≤ 8) : f_Term_item [.str z] = .val (Tm.leaf .item z).ins := by
  show ansP (F_Term_item [some (.t (.str z))] []) = _
  unfold F_Term_item
  push_cast [show f_leaf [.str "item", .str z] = _ from leaf_ok .item z h hz]
  rfl
theorem top_ok (z : Str) (h : isNameZ z = true) (hz : z.cps.size ≤ 8) : f_Term_top [.str z] = .val (Tm.leaf .top z).ins := by
  show ansP (F_Term_top [some (.t (.str z))] []) = _
  unfold F_Term_top
  push_cast [show f_leaf [.str "top", .str z] = _ from leaf_ok .top z h hz]
  rfl
theorem bottom_ok (z : Str) (h : isNameZ z = true) (hz : z.cps.size ≤ 8) : f_Term_bottom [.str z] = .val (Tm.leaf .bottom z).ins := by
  show ansP (F_Term_bottom [some (.t (.str z))] []) = _
  unfold F_Term_bottom
  push_cast [show f_leaf [.str "bottom", .str z] = _ from leaf_ok .bottom z h hz]
  rfl
/-! walked -/
theorem inner (s0 pt : D) (i : Nat) : ∀ (ws : List (List Nat × Tm)) (acc : List T) (x4 x5 : Option D), (∀ p ∈ ws, p.1.length ≤ 100000) → acc.length + ws.length ≤ 16000000 → ∃ y4 y5,
    loopF (gTp 2 (gsCons (gNm 4) (gsCons (gNm 5) gsNil))) (sExpr (eBM isLst gAppend (eVar 1) (aCons (eTup (aCons (eTup (aCons (eVar 2) (aStar (eVar 4) aNil))) (aCons (eVar 5) aNil))) aNil))) (ws.map pr) [some s0, some (.m 0), some (.t (.int (i : Int))), some pt, x4, x5] [.lst acc]
      = .nx [some s0, some (.m 0), some (.t (.int (i : Int))), some pt, y4, y5] [.lst (acc ++ ws.map fun p => pr (i :: p.1, p.2))]
  | [], acc, x4, x5, _, _ => ⟨x4, x5, by simp [loopF]⟩
  | w :: ws, acc, x4, x5, h, hl => by
    have h0 := h w (by simp)
    simp only [List.length_cons] at hl
    obtain ⟨y4, y5, e⟩ := inner s0 pt i ws (acc ++ [pr (i :: w.1, w.2)]) (some (.t (pathT w.1))) (some (.t w.2.ins)) (fun p hp => h p (by simp [hp])) (by simp only [List.length_append, List.length_cons, List.length_nil]; omega)
    refine ⟨y4, y5, ?_⟩
    rw [List.map_cons, List.map_cons]
    have e1 : pr w = .tup [pathT w.1, w.2.ins] := rfl
    have e2 : frzL [MO.lst acc] (w.1.map fun (j : Nat) => D.t (T.int (j : Int))) = some (w.1.map fun (j : Nat) => T.int (j : Int), [MO.lst acc]) := by
      generalize w.1 = l
      clear h0 e e1
      induction l with
      | nil => rfl
      | cons a l ih => rw [List.map_cons, frz_t, ih]; rfl
    have e3 : pathT w.1 = .tup (w.1.map fun (j : Nat) => T.int (j : Int)) := rfl
    have e4 : (acc ++ [pr (i :: w.1, w.2)]) ++ ws.map (fun p => pr (i :: p.1, p.2)) = acc ++ (pr (i :: w.1, w.2) :: ws.map fun p => pr (i :: p.1, p.2)) := by simp
    rw [e4] at e
    rw [← e]
    push_cast [e1]
    rw [e3]
    push_cast [List.map_map, Function.comp_def, List.append_nil, e2, List.length_map]
    rfl
theorem walked_ok : ∀ (t : Tm) (n : Nat), t.depth ≤ n → t.size ≤ 10000 → f_Term_walked n [t.ins] = .fresh (t.walk.map pr)
  | .leaf k z, 0, h, _ => by have : (Tm.leaf k z).depth = 1 := rfl; omega
  | .map z t, 0, h, _ => by have : (Tm.map z t).depth = 1 + t.depth := rfl; omega
  | .bin k a b, 0, h, _ => by have : (Tm.bin k a b).depth = 1 + max a.depth b.depth := rfl; omega
  | .leaf k z, n + 1, _, _ => by
    show ansP (F_Term_walked (f_Term_walked n) [some (.t (Tm.leaf k z).ins), none, none, none, none, none] []) = _
    unfold F_Term_walked
    push_cast [f_parts, show (Tm.leaf k z).parts = [] from rfl]
    rfl
  | .map z t, n + 1, h, hs => by
    have hd : t.depth ≤ n := by have : (Tm.map z t).depth = 1 + t.depth := rfl; omega
    have hz : t.size ≤ 10000 := by have : (Tm.map z t).size = 1 + t.size := rfl; omega
    have ih := walked_ok t n hd hz
    show ansP (F_Term_walked (f_Term_walked n) [some (.t (Tm.map z t).ins), none, none, none, none, none] []) = _
    unfold F_Term_walked
    have hl := Tm.walk_len t
    obtain ⟨y4, y5, e⟩ := inner (.t (Tm.map z t).ins) (.t t.ins) 0 t.walk [pr ([], .map z t)] none none (fun p hp => by have := Tm.walk_path t p hp; have := Tm.depth_size t; omega) (by simp only [List.length_cons, List.length_nil]; omega)
    simp only [List.cons_append, List.nil_append] at e
    have e0 : T.tup [.tup [], (Tm.map z t).ins] = pr ([], .map z t) := rfl
    have e : loopF _ _ _ [_, _, some (.t (.int 0)), _, _, _] _ = _ := e
    push_cast [f_parts, show (Tm.map z t).parts = [t] from rfl, i_walked, ih, e0, e]
    simp only [Tm.walk, List.map_cons, List.map_map]
    rfl
  | .bin k a b, n + 1, h, hs => by
    have hd : a.depth ≤ n ∧ b.depth ≤ n := by have : (Tm.bin k a b).depth = 1 + max a.depth b.depth := rfl; omega
    have hz : a.size + b.size ≤ 9999 := by have : (Tm.bin k a b).size = 1 + a.size + b.size := rfl; omega
    have iha := walked_ok a n hd.1 (by omega)
    have ihb := walked_ok b n hd.2 (by omega)
    show ansP (F_Term_walked (f_Term_walked n) [some (.t (Tm.bin k a b).ins), none, none, none, none, none] []) = _
    unfold F_Term_walked
    have hla := Tm.walk_len a
    have hlb := Tm.walk_len b
    obtain ⟨y4, y5, e⟩ := inner (.t (Tm.bin k a b).ins) (.t a.ins) 0 a.walk [pr ([], .bin k a b)] none none (fun p hp => by have := Tm.walk_path a p hp; have := Tm.depth_size a; omega) (by simp only [List.length_cons, List.length_nil]; omega)
    obtain ⟨z4, z5, e'⟩ := inner (.t (Tm.bin k a b).ins) (.t b.ins) 1 b.walk ([pr ([], .bin k a b)] ++ a.walk.map fun p => pr (0 :: p.1, p.2)) y4 y5 (fun p hp => by have := Tm.walk_path b p hp; have := Tm.depth_size b; omega) (by simp only [List.length_cons, List.length_nil, List.length_append, List.length_map]; omega)
    simp only [List.cons_append, List.nil_append] at e e'
    have e0 : T.tup [.tup [], (Tm.bin k a b).ins] = pr ([], .bin k a b) := rfl
    have e : loopF _ _ _ [_, _, some (.t (.int 0)), _, _, _] _ = _ := e
    have e' : loopF _ _ _ [_, _, some (.t (.int 1)), _, _, _] _ = _ := e'
    push_cast [f_parts, show (Tm.bin k a b).parts = [a, b] from rfl, i_walked, iha, ihb, e0, e, e']
    simp only [Tm.walk, List.map_cons, List.map_map, List.map_append]
    rfl
end BmTm

namespace BmTm
open PySem L2 Bm BmLaw BmT
theorem len_ok (t : Tm) (hd : t.depth ≤ 70) (hs : t.size ≤ 10000) : f_Term_len [t.ins] = .val (.int (t.size : Int)) := by
  show ansP (F_Term_len [some (.t t.ins)] []) = _
  unfold F_Term_len
  push_cast [i_walked, walked_ok t 70 hd hs, List.length_map, Tm.walk_len]
  rfl
theorem plen {t : Tm} {M : List MO} (hd : t.depth ≤ 70) (hs : t.size ≤ 10000) : gLenC "Term" (many 1 f_Term_len) [.t t.ins] M = .ok (.t (.int (t.size : Int))) M := by
  have e : isIns1 [.t t.ins] = true := by rw [Tm.ins_eq]; rfl
  unfold gLenC gLenI
  rw [e]
  simp only [if_true]
  rw [i0]
  push_cast [len_ok t hd hs]
  rw [if_pos ⟨by omega, by omega⟩]
theorem kind_ok (t : Tm) : f_Term_kind [t.ins] = .val (.str t.kind) := by
  show ansP (F_Term_kind [some (.t t.ins)] []) = _
  unfold F_Term_kind
  push_cast [f_kind]
  rfl
theorem head_ok (t : Tm) : f_Term_head [t.ins] = .val (.str t.head) := by
  show ansP (F_Term_head [some (.t t.ins)] []) = _
  unfold F_Term_head
  push_cast [f_head]
  rfl
theorem parts_ok (t : Tm) : f_Term_parts [t.ins] = .fresh (t.parts.map Tm.ins) := by
  show ansP (F_Term_parts [some (.t t.ins)] []) = _
  unfold F_Term_parts
  push_cast [f_parts]
  rfl
theorem pkind {t : Tm} {M : List MO} : pPro "Term" f_Term_kind (.t t.ins) M = .ok (.t (.str t.kind)) M := by
  unfold pPro; rw [i0]; push_cast [kind_ok]
theorem phead {t : Tm} {M : List MO} : pPro "Term" f_Term_head (.t t.ins) M = .ok (.t (.str t.head)) M := by
  unfold pPro; rw [i0]; push_cast [head_ok]
theorem isi_T {t : Tm} {M : List MO} : gP (isiT (tabC "Term")) [.t t.ins, .t (.cls "Term")] M = .ok (.t (.bl true)) M := by
  rw [Tm.ins_eq]
  have e : tabC "Term" (.inr "Term") (.inr "Term") = some true := by show (if ("Term" : Str) = "Term" ∧ ("Term" : Str) = "Term" then some true else none) = some true; rw [if_pos ⟨rfl, rfl⟩]
  unfold gP
  simp only [allT]
  have e2 : isiT (tabC "Term") [T.ins "Term" Tm.ns [.str t.kind, .str t.head, .tup (t.parts.map Tm.ins), .int (t.depth : Int), .str t.text], .cls "Term"] = some (.bl true) := by
    unfold isiT
    simp only [kdOf, tgt, e]
  simp only [e2]
theorem isi_scl {k : String} {u : T} {M : List MO} (hk : k ∈ kinds) (h : kdOf u = some (.inl k)) (hc : ∀ cs, u ≠ .cls cs) : gP (isiT (tabC "Term")) [.t u, .t (.cls "Term")] M = .ok (.t (.bl false)) M := by
  have e : tabC "Term" (.inl k) (.inr "Term") = some false := by show (if k ∈ kinds ∧ ("Term" : Str) = "Term" then some false else none) = some false; rw [if_pos ⟨hk, rfl⟩]
  unfold gP
  simp only [allT]
  have e2 : isiT (tabC "Term") [u, .cls "Term"] = some (.bl false) := by
    unfold isiT
    simp only [h, tgt, e]
  simp only [e2]
theorem eq_ok (a b : Tm) : f_Term_eq [a.ins, b.ins] = .val (.bl (decide (a.text = b.text))) := by
  show ansP (F_Term_eq [some (.t a.ins), some (.t b.ins)] []) = _
  unfold F_Term_eq
  push_cast [f_text, isi_T]
  rfl
theorem eq_scl (a : Tm) {k : String} {u : T} (hk : k ∈ kinds) (h : kdOf u = some (.inl k)) (hc : ∀ cs, u ≠ .cls cs) : f_Term_eq [a.ins, u] = .val (.bl false) := by
  show ansP (F_Term_eq [some (.t a.ins), some (.t u)] []) = _
  unfold F_Term_eq
  push_cast [f_text, isi_scl hk h hc]
  rfl
theorem peq {a b : Tm} {M : List MO} : gEqC "Term" (many 2 f_Term_eq) (.t a.ins) (.t b.ins) M = .ok (.t (.bl (decide (a.text = b.text)))) M := by
  have e : isInsD (.t a.ins) = true := by rw [Tm.ins_eq]; rfl
  unfold gEqC gOr2
  simp only [e, if_true]
  unfold gCmpI
  rw [i0, i0]
  push_cast [eq_ok]
  simp
theorem pne {a b : Tm} {M : List MO} : gNeC "Term" (many 2 f_Term_eq) (.t a.ins) (.t b.ins) M = .ok (.t (.bl (!decide (a.text = b.text)))) M := by
  have e : isInsD (.t a.ins) = true := by rw [Tm.ins_eq]; rfl
  unfold gNeC gOr2
  simp only [e, if_true]
  unfold gCmpI
  rw [i0, i0]
  push_cast [eq_ok]
  simp
theorem pne_scl {a : Tm} {k : String} {u : T} {M : List MO} (hk : k ∈ kinds) (h : kdOf u = some (.inl k)) (hc : ∀ cs, u ≠ .cls cs) (hs : sclD (.t u) = true) : gNeC "Term" (many 2 f_Term_eq) (.t a.ins) (.t u) M = .ok (.t (.bl true)) M := by
  have e : isInsD (.t a.ins) = true := by rw [Tm.ins_eq]; rfl
  unfold gNeC gOr2
  simp only [e, if_true]
  unfold gCmpI
  rw [i0, hs]
  push_cast [eq_scl a hk h hc]
  simp
theorem check_ok {i j : Int} (hi : i ≤ 500) (hj : j ≤ 60) : f_check_size [.int i, .int j] = .val .non := by
  show ansP (F_check_size [some (.t (.int i)), some (.t (.int j))] []) = _
  unfold F_check_size
  have e1 : decide (500 < i) = false := by simpa using hi
  have e2 : decide (60 < j) = false := by simpa using hj
  push_cast [e1, e2]
  rfl
theorem joined_ok (k : BK) (a b : Tm) (ha : a.nm) (hb : b.nm) (hs : 1 + a.size + b.size ≤ 500) (hd : 1 + max a.depth b.depth ≤ 60) : f_joined [.str k.s, a.ins, b.ins] = .val (Tm.bin k a b).ins := by
  show ansP (F_joined [some (.t (.str k.s)), some (.t a.ins), some (.t b.ins)] []) = _
  unfold F_joined
  have h1 := Tm.text_size a ha
  have h2 := Tm.text_size b hb
  have e : f_check_size [.int (1 + (a.size : Int) + (b.size : Int)), .int (1 + max (a.depth : Int) (b.depth : Int))] = .val .non := check_ok (by omega) (by omega)
  push_cast [plen (t := a) (M := []) (by omega) (by omega), plen (t := b) (M := []) (by omega) (by omega), pdepth, e, make_bin k a b (by omega)]
  rfl
theorem or_ok (a b : Tm) (ha : a.nm) (hb : b.nm) (hs : 1 + a.size + b.size ≤ 500) (hd : 1 + max a.depth b.depth ≤ 60) : f_Term_or [a.ins, b.ins] = .val (Tm.bin .join a b).ins := by
  show ansP (F_Term_or [some (.t a.ins), some (.t b.ins)] []) = _
  unfold F_Term_or
  push_cast [isi_T, show f_joined [.str "join", a.ins, b.ins] = _ from joined_ok .join a b ha hb hs hd]
  rfl
theorem and_ok (a b : Tm) (ha : a.nm) (hb : b.nm) (hs : 1 + a.size + b.size ≤ 500) (hd : 1 + max a.depth b.depth ≤ 60) : f_Term_and [a.ins, b.ins] = .val (Tm.bin .meet a b).ins := by
  show ansP (F_Term_and [some (.t a.ins), some (.t b.ins)] []) = _
  unfold F_Term_and
  push_cast [isi_T, show f_joined [.str "meet", a.ins, b.ins] = _ from joined_ok .meet a b ha hb hs hd]
  rfl
theorem por {a b : Tm} {M : List MO} (ha : a.nm) (hb : b.nm) (hs : 1 + a.size + b.size ≤ 500) (hd : 1 + max a.depth b.depth ≤ 60) : gOpI "Term" (many 2 f_Term_or) (.t a.ins) (.t b.ins) M = .ok (.t (Tm.bin .join a b).ins) M := by
  unfold gOpI
  rw [i0, i0]
  push_cast [or_ok a b ha hb hs hd]
  rfl
theorem pand {a b : Tm} {M : List MO} (ha : a.nm) (hb : b.nm) (hs : 1 + a.size + b.size ≤ 500) (hd : 1 + max a.depth b.depth ≤ 60) : gOpI "Term" (many 2 f_Term_and) (.t a.ins) (.t b.ins) M = .ok (.t (Tm.bin .meet a b).ins) M := by
  unfold gOpI
  rw [i0, i0]
  push_cast [and_ok a b ha hb hs hd]
  rfl
/-! under -/
def nmZ (z : Str) : Prop := isNameZ z = true ∧ z.cps.size ≤ 8
theorem names_loop (s0 s1 s3 : Option D) : ∀ (zs : List Str) (x2 : Option D), (∀ z ∈ zs, nmZ z) → ∃ y2,
    loopF (gNm 2) (sIf (bNot (eB (eCall 1 f_is_name (aCons (eVar 2) aNil)))) sNever sSkip) (zs.map T.str) [s0, s1, x2, s3] [] = .nx [s0, s1, y2, s3] []
  | [], x2, _ => ⟨x2, rfl⟩
  | z :: zs, x2, h => by
    obtain ⟨h1, h2⟩ := h z (by simp)
    obtain ⟨y2, e⟩ := names_loop s0 s1 s3 zs (some (.t (.str z))) fun y hy => h y (by simp [hy])
    refine ⟨y2, ?_⟩
    rw [List.map_cons]
    push_cast [name_str z (by omega), h1, e]
def under (t : Tm) (zs : List Str) : Tm := zs.foldl (fun t z => .map z t) t
theorem under_nm : ∀ (zs : List Str) (t : Tm), t.nm → (∀ z ∈ zs, nmZ z) → (under t zs).nm
  | [], t, h, _ => h
  | z :: zs, t, h, hz => under_nm zs (.map z t) ⟨hz z (by simp), h⟩ fun y hy => hz y (by simp [hy])
theorem under_size : ∀ (zs : List Str) (t : Tm), (under t zs).size = t.size + zs.length
  | [], t => rfl
  | z :: zs, t => by
    have := under_size zs (.map z t)
    show (under (.map z t) zs).size = _
    rw [this]; show 1 + t.size + zs.length = _; rw [List.length_cons]; omega
theorem under_depth : ∀ (zs : List Str) (t : Tm), (under t zs).depth = t.depth + zs.length
  | [], t => rfl
  | z :: zs, t => by
    have := under_depth zs (.map z t)
    show (under (.map z t) zs).depth = _
    rw [this]; show 1 + t.depth + zs.length = _; rw [List.length_cons]; omega
theorem under_loop (s0 s1 : Option D) : ∀ (zs : List Str) (t : Tm) (x2 : Option D), t.nm → (∀ z ∈ zs, nmZ z) → t.size + zs.length ≤ 1000 → ∃ y2,
    loopF (gNm 2) (sSet 3 (eMake "Term" i_Term (aCons (eC (.str "map")) (aCons (eVar 2) (aCons (eVar 3) aNil))))) (zs.map T.str) [s0, s1, x2, some (.t t.ins)] [] = .nx [s0, s1, y2, some (.t (under t zs).ins)] []
  | [], t, x2, _, _, _ => ⟨x2, rfl⟩
  | z :: zs, t, x2, hn, h, hs => by
    have hz := h z (by simp)
    have hz2 := hz.2
    have ht := Tm.text_size t hn
    rw [List.length_cons] at hs
    obtain ⟨y2, e⟩ := under_loop s0 s1 zs (.map z t) (some (.t (.str z))) ⟨hz, hn⟩ (fun y hy => h y (by simp [hy])) (by show 1 + t.size + zs.length ≤ 1000; omega)
    refine ⟨y2, ?_⟩
    rw [List.map_cons]
    have e0 : T.ins "Term" Tm.ns [.str "map", .str z, .tup [t.ins], .int ((Tm.map z t).depth : Int), .str (Tm.map z t).text] = (Tm.map z t).ins := rfl
    push_cast [make_map z t (by omega), e0, e]
    rfl
theorem under_ok (t : Tm) (zs : List Str) (hn : t.nm) (h : ∀ z ∈ zs, nmZ z) (hs : t.size + zs.length ≤ 500) (hd : t.depth + zs.length ≤ 60) : f_Term_under [t.ins, .tup (zs.map T.str)] = .val (under t zs.reverse).ins := by
  show ansP (F_Term_under [some (.t t.ins), some (.t (.tup (zs.map T.str))), none, none] []) = _
  unfold F_Term_under
  obtain ⟨y2, e1⟩ := names_loop (some (.t t.ins)) (some (.t (.tup (zs.map T.str)))) none zs none h
  obtain ⟨z2, e2⟩ := under_loop (some (.t t.ins)) (some (.t (.tup (zs.map T.str)))) zs.reverse t y2 hn (fun z hz => h z (by simpa using hz)) (by rw [List.length_reverse]; omega)
  rw [List.map_reverse] at e2
  have e : f_check_size [.int ((t.size : Int) + (zs.length : Int)), .int ((t.depth : Int) + (zs.length : Int))] = .val .non := check_ok (by omega) (by omega)
  push_cast [e1, e2, plen (t := t) (M := []) (by omega) (by omega), f_depth, List.length_map, e]
  rfl
end BmTm

namespace BmTm
open PySem L2 Bm BmLaw BmT
/-! draws -/
theorem draw_ex {b : Bag} (h : b.Ok) (n : Nat) (h0 : 0 < n) (h1 : n < 1073741824) : ∃ (k : Nat) (b' : Bag), b'.Ok ∧ k < n ∧ f_law_draw b.t [.int (n : Int)] = .val (.int (k : Int)) b'.t := by
  obtain ⟨q1, q2, q3⟩ := draw_b b h (n : Int) (by omega)
  refine ⟨(drawB b (n : Int)).1.toNat, (drawB b (n : Int)).2, q1, by omega, ?_⟩
  rw [draw_eq b h (n : Int) (by omega) (by omega)]
  congr 2; omega
theorem of_ex {b : Bag} (h : b.Ok) (xs : List T) (h0 : 0 < xs.length) (h1 : xs.length < 1073741824) : ∃ (t : T) (b' : Bag), b'.Ok ∧ t ∈ xs ∧ f_law_of b.t [.lst xs] = .val t b'.t := by
  obtain ⟨t, e1, e2⟩ := of_lst b h xs h0 h1
  exact ⟨t, _, (bagOf_lt b h h0).2, List.mem_of_getElem? e1, e2⟩
theorem of_strs {b : Bag} (h : b.Ok) (zs : List Str) (h0 : 0 < zs.length) (h1 : zs.length < 1073741824) : ∃ (z : Str) (b' : Bag), b'.Ok ∧ z ∈ zs ∧ f_law_of b.t [.lst (zs.map T.str)] = .val (.str z) b'.t := by
  obtain ⟨t, b', h2, h3, e⟩ := of_ex h (zs.map T.str) (by rw [List.length_map]; exact h0) (by rw [List.length_map]; exact h1)
  obtain ⟨z, hz, rfl⟩ := List.mem_map.mp h3
  exact ⟨z, b', h2, hz, e⟩
/-! the law's text -/
theorem bar_eq : (" | " : Str) = (" " : Str) ++ (("|" : Str) ++ (" " : Str)) := by decide +kernel
theorem amp_eq : (" & " : Str) = (" " : Str) ++ (("&" : Str) ++ (" " : Str)) := by decide +kernel
theorem ltext_ok : ∀ (t : Tm) (n : Nat), t.depth ≤ n → t.nm → t.size ≤ 10000 → f_law_text n [t.tree] = .val (.str t.text)
  | .leaf k z, 0, h, _, _ => by have : (Tm.leaf k z).depth = 1 := rfl; omega
  | .map z t, 0, h, _, _ => by have : (Tm.map z t).depth = 1 + t.depth := rfl; omega
  | .bin k a b, 0, h, _, _ => by have : (Tm.bin k a b).depth = 1 + max a.depth b.depth := rfl; omega
  | .leaf k z, n + 1, _, hn, _ => by
    show ansP (F_law_text (f_law_text n) [some (.t (.tup [.str k.s, .str z]))] []) = _
    unfold F_law_text
    have hz := hn.2
    cases k
    · push_cast [LK.s]; rfl
    · push_cast [LK.s, str_assoc]; rfl
    · push_cast [LK.s, str_assoc]; rfl
  | .map z t, n + 1, h, hn, hs => by
    have hd : t.depth ≤ n := by have : (Tm.map z t).depth = 1 + t.depth := rfl; omega
    have hz : t.size ≤ 10000 := by have : (Tm.map z t).size = 1 + t.size := rfl; omega
    have hn1 := hn.1.2
    have ht := Tm.text_size t hn.2
    have ih := ltext_ok t n hd hn.2 hz
    show ansP (F_law_text (f_law_text n) [some (.t (.tup [.str "map", .str z, t.tree]))] []) = _
    unfold F_law_text
    push_cast [ih, str_assoc]
    rfl
  | .bin k a b, n + 1, h, hn, hs => by
    have hd : a.depth ≤ n ∧ b.depth ≤ n := by have : (Tm.bin k a b).depth = 1 + max a.depth b.depth := rfl; omega
    have hz : a.size + b.size ≤ 9999 := by have : (Tm.bin k a b).size = 1 + a.size + b.size := rfl; omega
    have ha := Tm.text_size a hn.1
    have hb := Tm.text_size b hn.2
    have iha := ltext_ok a n hd.1 hn.1 (by omega)
    have ihb := ltext_ok b n hd.2 hn.2 (by omega)
    show ansP (F_law_text (f_law_text n) [some (.t (.tup [.str k.s, a.tree, b.tree]))] []) = _
    unfold F_law_text
    cases k
    · push_cast [BK.s, iha, ihb, bar_eq, str_assoc]; rfl
    · push_cast [BK.s, iha, ihb, amp_eq, str_assoc]; rfl
/-! the law's making -/
theorem lmade_ok : ∀ (t : Tm) (n : Nat), t.depth ≤ n → t.nm → t.size ≤ 500 → t.depth ≤ 60 → f_law_made n [t.tree] = .val t.ins
  | .leaf k z, 0, h, _, _, _ => by have : (Tm.leaf k z).depth = 1 := rfl; omega
  | .map z t, 0, h, _, _, _ => by have : (Tm.map z t).depth = 1 + t.depth := rfl; omega
  | .bin k a b, 0, h, _, _, _ => by have : (Tm.bin k a b).depth = 1 + max a.depth b.depth := rfl; omega
  | .leaf k z, n + 1, _, hn, _, _ => by
    show ansP (F_law_made (f_law_made n) [some (.t (.tup [.str k.s, .str z])), none, none] []) = _
    unfold F_law_made
    have hz := hn.2
    cases k
    · push_cast [LK.s, item_ok z hn.1 hn.2]; rfl
    · push_cast [LK.s, top_ok z hn.1 hn.2]; rfl
    · push_cast [LK.s, bottom_ok z hn.1 hn.2]; rfl
  | .map z t, n + 1, h, hn, hs, h60 => by
    have e1 : (Tm.map z t).depth = 1 + t.depth := rfl
    have e2 : (Tm.map z t).size = 1 + t.size := rfl
    have ih := lmade_ok t n (by omega) hn.2 (by omega) (by omega)
    show ansP (F_law_made (f_law_made n) [some (.t (.tup [.str "map", .str z, t.tree])), none, none] []) = _
    unfold F_law_made
    have u := under_ok t [z] hn.2 (fun y hy => by rw [List.mem_singleton] at hy; rw [hy]; exact hn.1) (by show t.size + 1 ≤ 500; omega) (by show t.depth + 1 ≤ 60; omega)
    have u : f_Term_under [t.ins, .tup [.str z]] = .val (Tm.map z t).ins := u
    push_cast [ih, i_under, u]
    rfl
  | .bin k a b, n + 1, h, hn, hs, h60 => by
    have e1 : (Tm.bin k a b).depth = 1 + max a.depth b.depth := rfl
    have e2 : (Tm.bin k a b).size = 1 + a.size + b.size := rfl
    have iha := lmade_ok a n (by omega) hn.1 (by omega) (by omega)
    have ihb := lmade_ok b n (by omega) hn.2 (by omega) (by omega)
    show ansP (F_law_made (f_law_made n) [some (.t (.tup [.str k.s, a.tree, b.tree])), none, none] []) = _
    unfold F_law_made
    cases k
    · push_cast [BK.s, iha, ihb, por (a := a) (b := b) (M := []) hn.1 hn.2 (by omega) (by omega)]; rfl
    · push_cast [BK.s, iha, ihb, pand (a := a) (b := b) (M := []) hn.1 hn.2 (by omega) (by omega)]; rfl
/-! drawn trees -/
/-- its names are among these -/
def Tm.inN (zs : List Str) : Tm → Prop
  | .leaf _ z => z ∈ zs
  | .map z t => z ∈ zs ∧ t.inN zs
  | .bin _ a b => a.inN zs ∧ b.inN zs
theorem Tm.inN_nm {zs : List Str} (h : ∀ z ∈ zs, nmZ z) : ∀ t : Tm, t.inN zs → t.nm
  | .leaf _ z, q => h z q
  | .map z t, q => ⟨h z q.1, inN_nm h t q.2⟩
  | .bin _ a b, q => ⟨inN_nm h a q.1, inN_nm h b q.2⟩
theorem Tm.size_pow : ∀ t : Tm, t.size + 1 ≤ 2 ^ t.depth
  | .leaf _ _ => by show 1 + 1 ≤ 2 ^ 1; decide
  | .map _ t => by
    have := size_pow t
    show 1 + t.size + 1 ≤ 2 ^ (1 + t.depth)
    rw [Nat.pow_add]; omega
  | .bin _ a b => by
    have h1 := size_pow a
    have h2 := size_pow b
    show 1 + a.size + b.size + 1 ≤ 2 ^ (1 + max a.depth b.depth)
    rw [Nat.pow_add]
    have h3 : 2 ^ a.depth ≤ 2 ^ max a.depth b.depth := Nat.pow_le_pow_right (by decide) (Nat.le_max_left _ _)
    have h4 : 2 ^ b.depth ≤ 2 ^ max a.depth b.depth := Nat.pow_le_pow_right (by decide) (Nat.le_max_right _ _)
    omega
theorem any_tree (zs : List Str) (h0 : 0 < zs.length) (h1 : zs.length < 1000) : ∀ (deep n : Nat) (b : Bag), b.Ok → deep < n → ∃ (t : Tm) (b' : Bag), b'.Ok ∧ t.inN zs ∧ t.depth ≤ deep + 1 ∧ f_law_any_tree n b.t [.lst (zs.map T.str), .int (deep : Int)] = .val t.tree b'.t := by
  intro deep
  induction deep with
  | zero =>
    intro n b hb hn
    obtain ⟨n, rfl⟩ : ∃ m, n = m + 1 := ⟨n - 1, by omega⟩
    obtain ⟨k, b1, hb1, hk, e1⟩ := draw_ex hb 6 (by decide) (by decide)
    obtain ⟨kd, b2, hb2, hkd, e2⟩ := of_ex hb1 [.str "item", .str "item", .str "item", .str "top", .str "bottom"] (by decide) (by decide)
    obtain ⟨z, b3, hb3, hz, e3⟩ := of_strs hb2 zs h0 (by omega)
    have e1 : f_law_draw b.t [.int 6] = _ := e1
    obtain ⟨k', rfl⟩ : ∃ k' : LK, kd = .str k'.s := by
      simp only [List.mem_cons, List.not_mem_nil, or_false] at hkd
      rcases hkd with rfl | rfl | rfl | rfl | rfl
      · exact ⟨.item, rfl⟩
      · exact ⟨.item, rfl⟩
      · exact ⟨.item, rfl⟩
      · exact ⟨.top, rfl⟩
      · exact ⟨.bottom, rfl⟩
    refine ⟨.leaf k' z, b3, hb3, hz, Nat.le_refl _, ?_⟩
    show ansB (F_law_any_tree (f_law_any_tree n) [some (.m 0), some (.t (.lst (zs.map T.str))), some (.t (.int 0)), none] [.lst b.t]) = _
    unfold F_law_any_tree
    push_cast [e1, e2, e3]
    rfl
  | succ deep ih =>
    intro n b hb hn
    obtain ⟨n, rfl⟩ : ∃ m, n = m + 1 := ⟨n - 1, by omega⟩
    obtain ⟨k, b1, hb1, hk, e1⟩ := draw_ex hb 6 (by decide) (by decide)
    have e1 : f_law_draw b.t [.int 6] = _ := e1
    have ed : decide (((deep + 1 : Nat) : Int) = 0) = false := by simp; omega
    have es : ((deep + 1 : Nat) : Int) - 1 = (deep : Int) := by omega
    by_cases hk0 : k = 0
    · subst hk0
      obtain ⟨kd, b2, hb2, hkd, e2⟩ := of_ex hb1 [.str "item", .str "item", .str "item", .str "top", .str "bottom"] (by decide) (by decide)
      obtain ⟨z, b3, hb3, hz, e3⟩ := of_strs hb2 zs h0 (by omega)
      obtain ⟨k', rfl⟩ : ∃ k' : LK, kd = .str k'.s := by
        simp only [List.mem_cons, List.not_mem_nil, or_false] at hkd
        rcases hkd with rfl | rfl | rfl | rfl | rfl
        · exact ⟨.item, rfl⟩
        · exact ⟨.item, rfl⟩
        · exact ⟨.item, rfl⟩
        · exact ⟨.top, rfl⟩
        · exact ⟨.bottom, rfl⟩
      refine ⟨.leaf k' z, b3, hb3, hz, by show 1 ≤ _; omega, ?_⟩
      show ansB (F_law_any_tree (f_law_any_tree n) [some (.m 0), some (.t (.lst (zs.map T.str))), some (.t (.int ((deep + 1 : Nat) : Int))), none] [.lst b.t]) = _
      unfold F_law_any_tree
      have e0 : decide (((0 : Nat) : Int) = 0) = true := by decide
      push_cast [e1, e2, e3, ed, e0]
      rfl
    · have ek : decide ((k : Int) = 0) = false := by simp; exact hk0
      by_cases hk4 : k < 4
      · obtain ⟨z, b2, hb2, hz, e2⟩ := of_strs hb1 zs h0 (by omega)
        obtain ⟨t, b3, hb3, ht, hd, e3⟩ := ih n b2 hb2 (by omega)
        refine ⟨.map z t, b3, hb3, ⟨hz, ht⟩, by show 1 + t.depth ≤ _; omega, ?_⟩
        show ansB (F_law_any_tree (f_law_any_tree n) [some (.m 0), some (.t (.lst (zs.map T.str))), some (.t (.int ((deep + 1 : Nat) : Int))), none] [.lst b.t]) = _
        unfold F_law_any_tree
        have e4 : decide ((k : Int) < 4) = true := by simp; omega
        push_cast [e1, e2, es, e3, ed, ek, e4]
        rfl
      · obtain ⟨kd, b2, hb2, hkd, e2⟩ := of_ex hb1 [.str "join", .str "meet"] (by decide) (by decide)
        obtain ⟨ta, b3, hb3, hta, hda, e3⟩ := ih n b2 hb2 (by omega)
        obtain ⟨tb, b4, hb4, htb, hdb, e5⟩ := ih n b3 hb3 (by omega)
        obtain ⟨k', rfl⟩ : ∃ k' : BK, kd = .str k'.s := by
          simp only [List.mem_cons, List.not_mem_nil, or_false] at hkd
          rcases hkd with rfl | rfl
          · exact ⟨.join, rfl⟩
          · exact ⟨.meet, rfl⟩
        refine ⟨.bin k' ta tb, b4, hb4, ⟨hta, htb⟩, by show 1 + max ta.depth tb.depth ≤ _; omega, ?_⟩
        show ansB (F_law_any_tree (f_law_any_tree n) [some (.m 0), some (.t (.lst (zs.map T.str))), some (.t (.int ((deep + 1 : Nat) : Int))), none] [.lst b.t]) = _
        unfold F_law_any_tree
        have e4 : decide ((k : Int) < 4) = false := by simp; omega
        push_cast [e1, e2, es, e3, e5, ed, ek, e4]
        rfl
end BmTm

namespace BmTm
open PySem L2 Bm BmLaw BmT
/-! brackets in texts: no bar stands outside of all brackets -/
def cd (c : Nat) : Int := if c = 40 then 1 else if c = 41 then -1 else 0
def dep : List Nat → Int
  | [] => 0
  | c :: l => cd c + dep l
theorem dep_app : ∀ (x y : List Nat), dep (x ++ y) = dep x + dep y
  | [], y => by simp [dep]
  | c :: x, y => by simp only [List.cons_append, dep, dep_app x y]; omega
def bars (k : Int) (x : List Nat) : Prop := ∀ u v, x = u ++ 124 :: v → 1 ≤ k + dep u
theorem bars_app {k : Int} {x y : List Nat} (hx : bars k x) (hy : bars (k + dep x) y) : bars k (x ++ y) := by
  intro u v e
  rcases List.append_eq_append_iff.mp e with ⟨a, h1, h2⟩ | ⟨a, h1, h2⟩
  · have := hy a v h2
    rw [h1, dep_app]; omega
  · cases a with
    | nil =>
      simp only [List.nil_append] at h2
      have := hy [] v (by rw [← h2]; rfl)
      simp only [List.append_nil] at h1
      rw [← h1]
      simp only [dep] at this; omega
    | cons c a =>
      rw [List.cons_append] at h2
      cases h2
      exact hx u a h1
theorem bars_none {k : Int} {x : List Nat} (h : ∀ c ∈ x, c ≠ 124) : bars k x := fun u v e => absurd rfl (h 124 (by rw [e]; simp))
theorem bars_mono {k l : Int} {x : List Nat} (h : bars k x) (hl : k ≤ l) : bars l x := fun u v e => by have := h u v e; omega
theorem dep_none {x : List Nat} (h : ∀ c ∈ x, c ≠ 40 ∧ c ≠ 41) : dep x = 0 := by
  induction x with
  | nil => rfl
  | cons c x ih =>
    have hc := h c (by simp)
    simp only [dep, cd, hc.1, hc.2, if_false, ih fun d hd => h d (by simp [hd])]; omega
theorem let_plain {c : Nat} (h : isLet c = true) : 97 ≤ c ∧ c ≤ 122 := by
  have h := of_decide_eq_true h
  have e : letters.cps.toList = (List.range 26).map fun i => 97 + i := by decide +kernel
  rw [e] at h
  obtain ⟨i, hi, rfl⟩ := List.mem_map.mp h
  have := List.mem_range.mp hi
  omega
def lt (z : Str) : List Nat := z.cps.toList
theorem name_let {z : Str} (h : isNameZ z = true) : ∀ c ∈ lt z, 97 ≤ c ∧ c ≤ 122 := by
  unfold isNameZ at h
  simp only [Bool.and_eq_true] at h
  exact fun c hc => let_plain (List.all_eq_true.mp h.2 c hc)
theorem name_pos {z : Str} (h : isNameZ z = true) : lt z ≠ [] := by
  unfold isNameZ at h
  simp only [Bool.and_eq_true, decide_eq_true_eq] at h
  intro e
  have := congrArg List.length e
  simp only [lt, Array.length_toList, List.length_nil] at this
  omega
/-- what holds of a text -/
structure Tx (x : List Nat) : Prop where
  d : dep x = 0
  b : bars 0 x
  l : ∃ y c, x = y ++ [c] ∧ c ≠ 32
theorem tx_word {x y : List Nat} (h : ∀ c ∈ x ++ y, 97 ≤ c ∧ c ≤ 122 ∨ c = 32) (hy : ∀ c ∈ y, 97 ≤ c ∧ c ≤ 122) (hn : y ≠ []) : Tx (x ++ y) := by
  refine ⟨dep_none fun c hc => by have := h c hc; omega, bars_none fun c hc => by have := h c hc; omega, ?_⟩
  obtain ⟨a, c, rfl⟩ : ∃ a c, y = a ++ [c] := ⟨y.dropLast, y.getLast hn, (List.dropLast_concat_getLast hn).symm⟩
  exact ⟨x ++ a, c, by rw [List.append_assoc], by have := hy c (by simp); omega⟩
theorem tx_text : ∀ t : Tm, t.nm → Tx (lt t.text)
  | .leaf .item z, h => by
    have := name_let h.1
    have e : lt (Tm.leaf .item z).text = [] ++ lt z := rfl
    rw [e]
    exact tx_word (fun c hc => .inl (this c hc)) this (name_pos h.1)
  | .leaf .top z, h => by
    have := name_let h.1
    have e : lt (Tm.leaf .top z).text = [116, 111, 112, 32] ++ lt z := by
      show lt (("top" : Str) ++ ((" " : Str) ++ z)) = _
      unfold lt; rw [list_app, list_app]; rfl
    rw [e]
    refine tx_word (fun c hc => ?_) this (name_pos h.1)
    rcases List.mem_append.mp hc with hc | hc
    · simp only [List.mem_cons, List.not_mem_nil, or_false] at hc; omega
    · exact .inl (this c hc)
  | .leaf .bottom z, h => by
    have := name_let h.1
    have e : lt (Tm.leaf .bottom z).text = [98, 111, 116, 116, 111, 109, 32] ++ lt z := by
      show lt (("bottom" : Str) ++ ((" " : Str) ++ z)) = _
      unfold lt; rw [list_app, list_app]; rfl
    rw [e]
    refine tx_word (fun c hc => ?_) this (name_pos h.1)
    rcases List.mem_append.mp hc with hc | hc
    · simp only [List.mem_cons, List.not_mem_nil, or_false] at hc; omega
    · exact .inl (this c hc)
  | .map z t, h => by
    have hz := name_let h.1.1
    have ih := tx_text t h.2
    have e : lt (Tm.map z t).text = (lt z ++ [32]) ++ lt t.text := by
      show lt (z ++ ((" " : Str) ++ t.text)) = _
      unfold lt; rw [list_app, list_app, List.append_assoc]; rfl
    have d0 : dep (lt z ++ [32]) = 0 := dep_none fun c hc => by
      rcases List.mem_append.mp hc with hc | hc
      · have := hz c hc; omega
      · rw [List.mem_singleton] at hc; omega
    rw [e]
    obtain ⟨y, c, hl, hc⟩ := ih.l
    refine ⟨by rw [dep_app, d0, ih.d]; rfl, bars_app (bars_none fun c hc => ?_) (by rw [d0]; exact ih.b), lt z ++ [32] ++ y, c, by rw [hl]; simp only [List.append_assoc], hc⟩
    rcases List.mem_append.mp hc with hc | hc
    · have := hz c hc; omega
    · rw [List.mem_singleton] at hc; omega
  | .bin k a b, h => by
    have ia := tx_text a h.1
    have ib := tx_text b h.2
    obtain ⟨g, hg, hg2⟩ : ∃ g, lt k.g = [g] ∧ cd g = 0 := by cases k <;> exact ⟨_, rfl, by decide⟩
    have e : lt (Tm.bin k a b).text = [40] ++ (lt a.text ++ ([32, g, 32] ++ (lt b.text ++ [41]))) := by
      show lt (("(" : Str) ++ (a.text ++ ((" " : Str) ++ (k.g ++ ((" " : Str) ++ (b.text ++ (")" : Str))))))) = _
      unfold lt at hg ⊢; rw [list_app, list_app, list_app, list_app, list_app, list_app, hg]; rfl
    rw [e]
    have d3 : dep [32, g, 32] = 0 := by simp only [dep, hg2]; decide
    refine ⟨?_, ?_, 40 :: (lt a.text ++ ([32, g, 32] ++ lt b.text)), 41, by simp, by decide⟩
    · rw [dep_app, dep_app, dep_app, dep_app, ia.d, ib.d, d3]; decide
    · have d1 : (0 : Int) + dep [40] = 1 := by decide
      refine bars_app (bars_none fun c hc => by rw [List.mem_singleton] at hc; omega) ?_
      rw [d1]
      refine bars_app (bars_mono ia.b (by omega)) ?_
      rw [ia.d]
      refine bars_app (fun u v q => ?_) ?_
      · have : dep u = 0 := by
          cases u with
          | nil => rfl
          | cons c1 u =>
            cases u with
            | nil => cases q; rfl
            | cons c2 u =>
              cases u with
              | nil => cases q
              | cons c3 u =>
                simp at q
        omega
      · rw [d3]
        refine bars_app (bars_mono ib.b (by omega)) ?_
        rw [ib.d]
        exact bars_none fun c hc => by rw [List.mem_singleton] at hc; omega
/-- a text is not the beginning of another one with a bar behind it -/
theorem no_start {x y r s : List Nat} (hx : Tx x) (hy : Tx y) (e : y ++ (32 :: 124 :: r) = x ++ s) : ¬ y.length < x.length := by
  intro hl
  obtain ⟨w, rfl⟩ : ∃ w, x = y ++ w := by
    rcases List.append_eq_append_iff.mp e with ⟨a, h1, h2⟩ | ⟨a, h1, h2⟩
    · exact ⟨a, h1⟩
    · have := congrArg List.length h1; rw [List.length_append] at this; omega
  rw [List.append_assoc] at e
  have e := List.append_cancel_left e
  cases w with
  | nil => simp at hl
  | cons c w =>
    rw [List.cons_append] at e
    cases w with
    | nil =>
      obtain ⟨z, d, h1, h2⟩ := hx.l
      have := (List.append_inj_right' h1 rfl)
      cases this
      cases e
      exact h2 rfl
    | cons c2 w =>
      rw [List.cons_append] at e
      cases e
      have := hx.b (y ++ [32]) w (by simp)
      rw [dep_app, hy.d] at this
      simp only [dep, cd] at this
      omega
theorem comm_lists {x y : List Nat} (hx : Tx x) (hy : Tx y) (e : x ++ (32 :: 124 :: 32 :: (y ++ [41])) = y ++ (32 :: 124 :: 32 :: (x ++ [41]))) : x = y := by
  have h1 : ¬ x.length < y.length := no_start hy hx e
  have h2 : ¬ y.length < x.length := no_start hx hy e.symm
  exact List.append_inj_left e (by omega)
theorem lt_inj {x y : Str} (h : lt x = lt y) : x = y := str_ext h
theorem bin_comm (a b : Tm) (ha : a.nm) (hb : b.nm) : ((Tm.bin .join a b).text = (Tm.bin .join b a).text) = (a.text = b.text) := by
  refine propext ⟨fun h => ?_, fun h => ?_⟩
  · have e := congrArg lt h
    have e1 : ∀ a b : Tm, lt (Tm.bin .join a b).text = 40 :: (lt a.text ++ (32 :: 124 :: 32 :: (lt b.text ++ [41]))) := fun a b => by
      show lt (("(" : Str) ++ (a.text ++ ((" " : Str) ++ (("|" : Str) ++ ((" " : Str) ++ (b.text ++ (")" : Str))))))) = _
      unfold lt; rw [list_app, list_app, list_app, list_app, list_app, list_app]; rfl
    rw [e1, e1] at e
    exact lt_inj (comm_lists (tx_text a ha) (tx_text b hb) (List.cons.inj e).2)
  · show ("(" : Str) ++ (a.text ++ ((" " : Str) ++ (("|" : Str) ++ ((" " : Str) ++ (b.text ++ (")" : Str)))))) = ("(" : Str) ++ (b.text ++ ((" " : Str) ++ (("|" : Str) ++ ((" " : Str) ++ (a.text ++ (")" : Str))))))
    rw [h]
theorem bin_commD (a b : Tm) (ha : a.nm) (hb : b.nm) : decide ((Tm.bin .join a b).text = (Tm.bin .join b a).text) = decide (a.text = b.text) := decide_eq_decide.mpr (iff_of_eq (bin_comm a b ha hb))
end BmTm

namespace BmTm
open PySem L2 Bm BmLaw BmT
/-! texts put together -/
def catS : List Str → Str
  | [] => ""
  | x :: xs => x ++ catS xs
theorem str_nil (x : Str) : x ++ ("" : Str) = x := str_ext (by rw [list_app]; show _ ++ [] = _; rw [List.append_nil])
theorem nil_str (x : Str) : ("" : Str) ++ x = x := str_ext (by rw [list_app]; rfl)
theorem joinL_nil : ∀ xs : List (List Nat), TL.joinL [] xs = xs.flatten
  | [] => rfl
  | [x] => by simp [TL.joinL]
  | x :: y :: r => by
    have := joinL_nil (y :: r)
    show x ++ ([] ++ TL.joinL [] (y :: r)) = _
    rw [this]; simp
theorem cat_list : ∀ ys : List Str, (catS ys).cps.toList = (ys.map fun y => y.cps.toList).flatten
  | [] => rfl
  | y :: ys => by show (y ++ catS ys).cps.toList = _; rw [list_app, cat_list ys]; rfl
theorem join_cat (ys : List Str) : Txt.join (("" : Str)) ys = catS ys := by
  refine str_ext ?_
  rw [TL.join_eq, cat_list]
  have e := TL.tl_join (("" : Str)) ys
  have e0 : TL.tl (("" : Str)) = [] := rfl
  rw [e0, joinL_nil] at e
  exact e
theorem len_cps (z : Str) : z.length = z.cps.size := rfl
theorem len_emp : (("" : Str)).length = 0 := rfl
variable {M : List MO}
theorem j_cat {ys : List Str} (h : (ys.map Str.length).sum ≤ 16777216) : gJoin (.t (.str "")) [.t (.lst (ys.map T.str))] M = .ok (.t (.str (catS ys))) M := by
  rw [o_join, len_emp, Nat.mul_zero, Nat.add_zero, kIf_pos h, join_cat]
theorem j0 : gJoin (.t (.str "")) [.t (.lst [])] M = .ok (.t (.str "")) M := j_cat (ys := []) (by decide)
theorem j1 {a : Str} (h : a.cps.size ≤ 16777216) : gJoin (.t (.str "")) [.t (.lst [.str a])] M = .ok (.t (.str a)) M := by
  have := j_cat (M := M) (ys := [a]) (by simp only [List.map_cons, List.map_nil, List.sum_cons, List.sum_nil, len_cps]; omega)
  rw [show catS [a] = a from str_nil a] at this
  exact this
theorem j2 {a b : Str} (h : a.cps.size + b.cps.size ≤ 16777216) : gJoin (.t (.str "")) [.t (.lst [.str a, .str b])] M = .ok (.t (.str (a ++ b))) M := by
  have := j_cat (M := M) (ys := [a, b]) (by simp only [List.map_cons, List.map_nil, List.sum_cons, List.sum_nil, len_cps]; omega)
  rw [show catS [a, b] = a ++ b from by show a ++ (b ++ "") = _; rw [str_nil]] at this
  exact this
theorem j3 {a b c : Str} (h : a.cps.size + b.cps.size + c.cps.size ≤ 16777216) : gJoin (.t (.str "")) [.t (.lst [.str a, .str b, .str c])] M = .ok (.t (.str (a ++ (b ++ c)))) M := by
  have := j_cat (M := M) (ys := [a, b, c]) (by simp only [List.map_cons, List.map_nil, List.sum_cons, List.sum_nil, len_cps]; omega)
  rw [show catS [a, b, c] = a ++ (b ++ c) from by show a ++ (b ++ (c ++ "")) = _; rw [str_nil]] at this
  exact this
theorem text_map (z : Str) (t : Tm) : (Tm.map z t).text = z ++ ((" " : Str) ++ t.text) := rfl
theorem text_bin (k : BK) (a b : Tm) : (Tm.bin k a b).text = ("(" : Str) ++ (a.text ++ ((" " : Str) ++ (k.g ++ ((" " : Str) ++ (b.text ++ (")" : Str)))))) := rfl
end BmTm

namespace BmTm
open PySem L2 Bm BmLaw BmT BmT2
/-! the law's looks at trees -/
theorem lparts_ok (t : Tm) : f_law_parts [t.tree] = .val (.lst (t.parts.map Tm.tree)) := by
  cases t with
  | leaf k z =>
    show ansP (F_law_parts [some (.t (.tup [.str k.s, .str z]))] []) = _
    unfold F_law_parts
    cases k <;> (push_cast [LK.s]; rfl)
  | map z t =>
    show ansP (F_law_parts [some (.t (.tup [.str "map", .str z, t.tree]))] []) = _
    unfold F_law_parts
    push_cast []
    rfl
  | bin k a b =>
    show ansP (F_law_parts [some (.t (.tup [.str k.s, a.tree, b.tree]))] []) = _
    unfold F_law_parts
    cases k <;> (push_cast [BK.s]; rfl)
theorem lsize_ok : ∀ (t : Tm) (n : Nat), t.depth ≤ n → f_law_size n [t.tree] = .val (.int (t.size : Int))
  | .leaf k z, 0, h => by have : (Tm.leaf k z).depth = 1 := rfl; omega
  | .map z t, 0, h => by have : (Tm.map z t).depth = 1 + t.depth := rfl; omega
  | .bin k a b, 0, h => by have : (Tm.bin k a b).depth = 1 + max a.depth b.depth := rfl; omega
  | .leaf k z, n + 1, _ => by
    show ansP (F_law_size (f_law_size n) [some (.t (Tm.leaf k z).tree), none] []) = _
    unfold F_law_size
    have e : ∀ M, gSum [.t (.lst [])] M = .ok (.t (.int 0)) M := fun M => o_sum (xs := [])
    push_cast [lparts_ok, show (Tm.leaf k z).parts = [] from rfl, e]
    rfl
  | .map z t, n + 1, h => by
    have hd : t.depth ≤ n := by have : (Tm.map z t).depth = 1 + t.depth := rfl; omega
    show ansP (F_law_size (f_law_size n) [some (.t (Tm.map z t).tree), none] []) = _
    unfold F_law_size
    have e : ∀ M, gSum [.t (.lst [.int (t.size : Int)])] M = .ok (.t (.int (t.size : Int))) M := fun M => by
      have := o_sum (M := M) (xs := [(t.size : Int)]); simpa using this
    push_cast [lparts_ok, show (Tm.map z t).parts = [t] from rfl, lsize_ok t n hd, e]
    show PR.val (.int (1 + (t.size : Int))) = _
    congr 2
  | .bin k a b, n + 1, h => by
    have hd : a.depth ≤ n ∧ b.depth ≤ n := by have : (Tm.bin k a b).depth = 1 + max a.depth b.depth := rfl; omega
    show ansP (F_law_size (f_law_size n) [some (.t (Tm.bin k a b).tree), none] []) = _
    unfold F_law_size
    have e : ∀ M, gSum [.t (.lst [.int (a.size : Int), .int (b.size : Int)])] M = .ok (.t (.int ((a.size : Int) + b.size))) M := fun M => by
      have := o_sum (M := M) (xs := [(a.size : Int), (b.size : Int)]); simpa using this
    push_cast [lparts_ok, show (Tm.bin k a b).parts = [a, b] from rfl, lsize_ok a n hd.1, lsize_ok b n hd.2, e]
    show PR.val (.int (1 + ((a.size : Int) + b.size))) = _
    congr 2
    show _ = ((1 + a.size + b.size : Nat) : Int)
    omega
theorem ldepth_ok : ∀ (t : Tm) (n : Nat), t.depth ≤ n → f_law_depth n [t.tree] = .val (.int (t.depth : Int))
  | .leaf k z, 0, h => by have : (Tm.leaf k z).depth = 1 := rfl; omega
  | .map z t, 0, h => by have : (Tm.map z t).depth = 1 + t.depth := rfl; omega
  | .bin k a b, 0, h => by have : (Tm.bin k a b).depth = 1 + max a.depth b.depth := rfl; omega
  | .leaf k z, n + 1, _ => by
    show ansP (F_law_depth (f_law_depth n) [some (.t (Tm.leaf k z).tree), none] []) = _
    unfold F_law_depth
    have e : ∀ M, gMaxL [.t (.lst [.int 0])] M = .ok (.t (.int 0)) M := fun M => o_maxL (xs := [0]) (by simp)
    push_cast [lparts_ok, show (Tm.leaf k z).parts = [] from rfl, e]
    rfl
  | .map z t, n + 1, h => by
    have hd : t.depth ≤ n := by have : (Tm.map z t).depth = 1 + t.depth := rfl; omega
    show ansP (F_law_depth (f_law_depth n) [some (.t (Tm.map z t).tree), none] []) = _
    unfold F_law_depth
    have e : ∀ M, gMaxL [.t (.lst [.int 0, .int (t.depth : Int)])] M = .ok (.t (.int (t.depth : Int))) M := fun M => by
      rw [show ([T.int 0, T.int (t.depth : Int)] : List T) = ([0, (t.depth : Int)] : List Int).map T.int from rfl, o_maxL (by simp)]
      congr 3
      show (if (0 : Int) < t.depth then (t.depth : Int) else 0) = _
      split <;> omega
    push_cast [lparts_ok, show (Tm.map z t).parts = [t] from rfl, ldepth_ok t n hd, e]
    show PR.val (.int (1 + (t.depth : Int))) = _
    congr 2
  | .bin k a b, n + 1, h => by
    have hd : a.depth ≤ n ∧ b.depth ≤ n := by have : (Tm.bin k a b).depth = 1 + max a.depth b.depth := rfl; omega
    show ansP (F_law_depth (f_law_depth n) [some (.t (Tm.bin k a b).tree), none] []) = _
    unfold F_law_depth
    have e : ∀ M, gMaxL [.t (.lst [.int 0, .int (a.depth : Int), .int (b.depth : Int)])] M = .ok (.t (.int ((max a.depth b.depth : Nat) : Int))) M := fun M => by
      rw [show ([T.int 0, T.int (a.depth : Int), T.int (b.depth : Int)] : List T) = ([0, (a.depth : Int), (b.depth : Int)] : List Int).map T.int from rfl, o_maxL (by simp)]
      congr 3
      show (if (if (0 : Int) < a.depth then (a.depth : Int) else 0) < b.depth then (b.depth : Int) else (if (0 : Int) < a.depth then (a.depth : Int) else 0)) = _
      split <;> split at * <;> omega
    push_cast [lparts_ok, show (Tm.bin k a b).parts = [a, b] from rfl, ldepth_ok a n hd.1, ldepth_ok b n hd.2, e]
    show PR.val (.int (1 + ((max a.depth b.depth : Nat) : Int))) = _
    congr 2
def prT (p : List Nat × Tm) : T := .tup [pathT p.1, p.2.tree]
theorem path_app (q : List Nat) (i : Nat) : gAdd (.t (pathT q)) (.t (.tup [.int (i : Int)])) M = kIf (q.length + 1 ≤ 16777216) (.ok (.t (pathT (q ++ [i]))) M) := by
  unfold pathT
  rw [o_addT, List.length_map, List.map_append]
  rfl
theorem lwalk_ok : ∀ (t : Tm) (n : Nat) (q : List Nat), t.depth ≤ n → t.size ≤ 10000 → q.length + t.depth ≤ 100000 → f_law_walk n [t.tree, pathT q] = .val (.lst (t.walk.map fun p => prT (q ++ p.1, p.2)))
  | .leaf k z, 0, _, h, _, _ => by have : (Tm.leaf k z).depth = 1 := rfl; omega
  | .map z t, 0, _, h, _, _ => by have : (Tm.map z t).depth = 1 + t.depth := rfl; omega
  | .bin k a b, 0, _, h, _, _ => by have : (Tm.bin k a b).depth = 1 + max a.depth b.depth := rfl; omega
  | .leaf k z, n + 1, q, _, _, _ => by
    show ansP (F_law_walk (f_law_walk n) [some (.t (Tm.leaf k z).tree), some (.t (pathT q)), none, none, none] []) = _
    unfold F_law_walk
    push_cast [lparts_ok, show (Tm.leaf k z).parts = [] from rfl]
    show PR.val (.lst [.tup [pathT q, _]]) = PR.val (.lst [prT (q ++ [], _)])
    rw [List.append_nil]; rfl
  | .map z t, n + 1, q, h, hs, hq => by
    have hd : t.depth + 1 ≤ n + 1 ∧ q.length + (t.depth + 1) ≤ 100000 := by have : (Tm.map z t).depth = 1 + t.depth := rfl; omega
    have hz : t.size ≤ 9999 := by have : (Tm.map z t).size = 1 + t.size := rfl; omega
    have hl := Tm.walk_len t
    have ih := lwalk_ok t n (q ++ [0]) (by omega) (by omega) (by rw [List.length_append, List.length_singleton]; omega)
    show ansP (F_law_walk (f_law_walk n) [some (.t (Tm.map z t).tree), some (.t (pathT q)), none, none, none] []) = _
    unfold F_law_walk
    have e : ∀ M, gAdd (.t (pathT q)) (.t (.tup [.int 0])) M = .ok (.t (pathT (q ++ [0]))) M := fun M => by rw [show (T.int 0) = T.int ((0 : Nat) : Int) from rfl, path_app, kIf_pos (by omega)]
    push_cast [lparts_ok, show (Tm.map z t).parts = [t] from rfl, e, ih, List.length_map]
    show PR.val (.lst (.tup [pathT q, _] :: _)) = PR.val (.lst ((([], Tm.map z t) :: t.walk.map fun p => (0 :: p.1, p.2)).map fun p => prT (q ++ p.1, p.2)))
    rw [List.map_cons, List.map_map, List.append_nil]
    congr 3
    refine List.map_congr_left fun p _ => ?_
    simp
  | .bin k a b, n + 1, q, h, hs, hq => by
    have hd : a.depth ≤ n ∧ b.depth ≤ n ∧ q.length + (a.depth + 1) ≤ 100000 ∧ q.length + (b.depth + 1) ≤ 100000 := by have : (Tm.bin k a b).depth = 1 + max a.depth b.depth := rfl; omega
    have hz : a.size + b.size ≤ 9999 := by have : (Tm.bin k a b).size = 1 + a.size + b.size := rfl; omega
    have hla := Tm.walk_len a
    have hlb := Tm.walk_len b
    have iha := lwalk_ok a n (q ++ [0]) (by omega) (by omega) (by rw [List.length_append, List.length_singleton]; omega)
    have ihb := lwalk_ok b n (q ++ [1]) (by omega) (by omega) (by rw [List.length_append, List.length_singleton]; omega)
    show ansP (F_law_walk (f_law_walk n) [some (.t (Tm.bin k a b).tree), some (.t (pathT q)), none, none, none] []) = _
    unfold F_law_walk
    have e : ∀ M, gAdd (.t (pathT q)) (.t (.tup [.int 0])) M = .ok (.t (pathT (q ++ [0]))) M := fun M => by rw [show (T.int 0) = T.int ((0 : Nat) : Int) from rfl, path_app, kIf_pos (by omega)]
    have e' : ∀ M, gAdd (.t (pathT q)) (.t (.tup [.int 1])) M = .ok (.t (pathT (q ++ [1]))) M := fun M => by rw [show (T.int 1) = T.int ((1 : Nat) : Int) from rfl, path_app, kIf_pos (by omega)]
    push_cast [lparts_ok, show (Tm.bin k a b).parts = [a, b] from rfl, e, e', iha, ihb, List.length_map, List.length_append]
    show PR.val (.lst (.tup [pathT q, _] :: _)) = PR.val (.lst ((([], Tm.bin k a b) :: ((a.walk.map fun p => (0 :: p.1, p.2)) ++ b.walk.map fun p => (1 :: p.1, p.2))).map fun p => prT (q ++ p.1, p.2)))
    rw [List.map_cons, List.map_append, List.map_map, List.map_map, List.append_nil]
    congr 3
    congr 1
    · refine List.map_congr_left fun p _ => ?_
      simp
    · refine List.map_congr_left fun p _ => ?_
      simp
/-! names -/
theorem Tm.walk_nm : ∀ (t : Tm), t.nm → ∀ p ∈ t.walk, p.2.nm
  | .leaf k z, h, p, hp => by simp only [walk, List.mem_singleton] at hp; subst hp; exact h
  | .map z t, h, p, hp => by
    simp only [walk, List.mem_cons, List.mem_map] at hp
    rcases hp with rfl | ⟨q, hq, rfl⟩
    · exact h
    · exact walk_nm t h.2 q hq
  | .bin k a b, h, p, hp => by
    simp only [walk, List.mem_cons, List.mem_append, List.mem_map] at hp
    rcases hp with rfl | ⟨q, hq, rfl⟩ | ⟨q, hq, rfl⟩
    · exact h
    · exact walk_nm a h.1 q hq
    · exact walk_nm b h.2 q hq
def Tm.names (t : Tm) : List Str := (t.walk.filter fun (p : List Nat × Tm) => !decide (p.2.head = ("" : Str))).map fun (p : List Nat × Tm) => p.2.head
theorem name_ne {z : Str} (h : isNameZ z = true) : decide (z = "") = false := decide_eq_false fun e => by subst e; revert h; decide +kernel
theorem names_ok (t : Tm) (hd : t.depth ≤ 70) (hs : t.size ≤ 10000) : f_Term_names [t.ins] = .fresh (t.names.map T.str) := by
  show ansP (F_Term_names [some (.t t.ins), none, none] []) = _
  unfold F_Term_names
  have hl := Tm.walk_len t
  have e := lc_nat (M := []) (vs := [1, 2]) (sl := [some (.t t.ins), none, none]) (G := gTp 2 (gsCons (gNm 1) (gsCons (gNm 2) gsNil))) (Tt := eB (e2 (g2 neT) (ePro "Term" f_Term_head (eVar 2)) (eC (.str "")))) (E := ePro "Term" f_Term_head (eVar 2))
    pr (fun p => !decide (p.2.head = ("" : Str))) (fun p => T.str p.2.head) t.walk [] (fun p _ => ⟨[some (.t t.ins), some (.t (pathT p.1)), some (.t p.2.ins)], rfl, by push_cast [phead], fun _ => by push_cast [phead]⟩) (by simp only [List.length_nil]; omega)
  rw [List.nil_append] at e
  push_cast [i_walked, walked_ok t 70 hd hs, e]
  show PR.fresh _ = PR.fresh (List.map _ (List.map _ _))
  rw [List.map_map]
  rfl
theorem bin_kind (t : Tm) (h : t.nm) : (decide (("join" : Str) = t.kind) || decide (("meet" : Str) = t.kind)) = decide (t.head = ("" : Str)) := by
  cases t with
  | leaf k z => rw [show (Tm.leaf k z).head = z from rfl, name_ne h.1]; cases k <;> push_cast [Tm.kind, LK.s]
  | map z t => rw [show (Tm.map z t).head = z from rfl, name_ne h.1.1]; push_cast [Tm.kind]
  | bin k a b => cases k <;> push_cast [Tm.kind, Tm.head, BK.s, Bool.true_or, Bool.or_true]
theorem tree_kind (t : Tm) : gIx (.t t.tree) (.t (.int 0)) M = .ok (.t (.str t.kind)) M := by cases t <;> exact o_ixT0
theorem tree_head (t : Tm) (h : decide (t.head = ("" : Str)) = false) : gIx (.t t.tree) (.t (.int 1)) M = .ok (.t (.str t.head)) M := by
  cases t with
  | leaf k z => exact o_ixT1
  | map z t => exact o_ixT1
  | bin k a b => simp [Tm.head] at h
theorem lheads_ok (t : Tm) (hd : t.depth ≤ 12) (hs : t.size ≤ 10000) (hn : t.nm) : f_law_heads [t.tree] = .val (.lst (t.names.map T.str)) := by
  show ansP (F_law_heads [some (.t t.tree), none, none] []) = _
  unfold F_law_heads
  have hl := Tm.walk_len t
  have e := lc_nat (M := []) (vs := [1, 2]) (sl := [some (.t t.tree), none, none]) (G := gTp 2 (gsCons (gNm 1) (gsCons (gNm 2) gsNil))) (Tt := eB (e2 (g2 (inT true)) (e2 gIx (eVar 2) (eC (.int 0))) (eTup (aCons (eC (.str "join")) (aCons (eC (.str "meet")) aNil))))) (E := e2 gIx (eVar 2) (eC (.int 1)))
    (fun p => prT (p.1, p.2)) (fun p => !decide (p.2.head = ("" : Str))) (fun p => T.str p.2.head) t.walk [] (fun p hp => ⟨[some (.t t.tree), some (.t (pathT p.1)), some (.t p.2.tree)], rfl, by push_cast [tree_kind, bin_kind p.2 (Tm.walk_nm t hn p hp)], fun h => by push_cast [tree_head p.2 (by simpa using h)]⟩) (by simp only [List.length_nil]; omega)
  rw [List.nil_append] at e
  have w : f_law_walk 12 [t.tree, .tup []] = _ := lwalk_ok t 12 [] hd hs (by rw [List.length_nil]; omega)
  push_cast [w, e]
  show PR.val (.lst _) = PR.val (.lst (List.map _ (List.map _ _)))
  rw [List.map_map]
  rfl
end BmTm

namespace BmTm
open PySem L2 Bm BmLaw BmT BmT2
variable {M : List MO}
theorem repr_ok (t : Tm) (h : t.text.cps.size ≤ 16000000) : f_Term_repr [t.ins] = .val (.str (("Term(" : Str) ++ (t.text ++ (")" : Str)))) := by
  show ansP (F_Term_repr [some (.t t.ins)] []) = _
  unfold F_Term_repr
  push_cast [f_text, str_empty, str_assoc]
  rfl
theorem prepr {t : Tm} (h : t.text.cps.size ≤ 16000000) : gReprI "Term" (many 1 f_Term_repr) [.t t.ins] M = .ok (.t (.str (("Term(" : Str) ++ (t.text ++ (")" : Str))))) M := by
  unfold gReprI
  simp only
  rw [i0]
  push_cast [repr_ok t h]
theorem bool_ok (t : Tm) : f_Term_bool [t.ins] = .val (.bl true) := by
  show ansP (F_Term_bool [some (.t t.ins)] []) = _
  unfold F_Term_bool
  push_cast []
  rfl
theorem pbool {t : Tm} : gBoolI "Term" (many 1 f_Term_bool) [.t t.ins] M = .ok (.t (.bl true)) M := by
  unfold gBoolI
  simp only
  rw [i0]
  push_cast [bool_ok t]
theorem okT_strs (n : Nat) (l : List Str) (h : l.length < 16777216) : okT (n + 2) (.lst (l.map T.str)) = true := by
  show (decide ((l.map T.str).length < 16777216) && (l.map T.str).all (okT (n + 1))) = true
  rw [List.length_map, decide_eq_true h, Bool.true_and, List.all_eq_true]
  intro u hu
  obtain ⟨z, _, rfl⟩ := List.mem_map.mp hu
  rfl
theorem same8 (a b : Str) (c d : Int) (e f : Str) (g : Bool) (l : List Str) (h : l.length < 16777216) : f_law_same 12 [.lst [.str a, .str b, .int c, .int d, .str e, .lst (l.map T.str), .str f, .bl g], .lst [.str a, .str b, .int c, .int d, .str e, .lst (l.map T.str), .str f, .bl g]] = .val (.bl true) := by
  refine same_refl 12 _ ?_
  show (decide (([.str a, .str b, .int c, .int d, .str e, .lst (l.map T.str), .str f, .bl g] : List T).length < 16777216) && (okT 11 (.str a) && (okT 11 (.str b) && (okT 11 (.int c) && (okT 11 (.int d) && (okT 11 (.str e) && (okT 11 (.lst (l.map T.str)) && (okT 11 (.str f) && (okT 11 (.bl g) && true))))))))) = true
  rw [okT_strs 9 l h]
  rfl
theorem sameL (l : List Str) (h : l.length < 16777216) : f_law_same 12 [.lst (l.map T.str), .lst (l.map T.str)] = .val (.bl true) := same_refl 12 _ (okT_strs 10 l h)
theorem Tm.names_len (t : Tm) : t.names.length ≤ t.size := by
  unfold Tm.names
  rw [List.length_map, ← Tm.walk_len]
  exact List.length_filter_le _ _
theorem Tm.part_ok (t : Tm) : ∀ s ∈ t.parts, (t.nm → s.nm) ∧ s.depth < t.depth ∧ s.size < t.size := by
  intro s hs
  cases t with
  | leaf k z => cases hs
  | map z t =>
    rw [show (Tm.map z t).parts = [t] from rfl, List.mem_singleton] at hs
    subst hs
    exact ⟨fun h => h.2, by show s.depth < 1 + s.depth; omega, by show s.size < 1 + s.size; omega⟩
  | bin k a b =>
    rw [show (Tm.bin k a b).parts = [a, b] from rfl] at hs
    simp only [List.mem_cons, List.not_mem_nil, or_false] at hs
    rcases hs with rfl | rfl
    · exact ⟨fun h => h.1, by show s.depth < 1 + max s.depth b.depth; omega, by show s.size < 1 + s.size + b.size; omega⟩
    · exact ⟨fun h => h.2, by show s.depth < 1 + max a.depth s.depth; omega, by show s.size < 1 + a.size + s.size; omega⟩
theorem Tm.parts_len (t : Tm) : t.parts.length ≤ 2 := by
  cases t with
  | leaf k z => exact Nat.zero_le _
  | map z t => exact Nat.le_succ _
  | bin k a b => exact Nat.le_refl _
theorem term_so (t : Tm) (hn : t.nm) (hd : t.depth ≤ 12) (hs : t.size ≤ 500) : f_law_term_so [t.ins, t.tree] = .val (.bl true) := by
  show ansP (F_law_term_so [some (.t t.ins), some (.t t.tree), none, none, none, none, none, none] []) = _
  have ht := Tm.text_size t hn
  have e1 := ltext_ok t 12 hd hn (by omega)
  have e2 := lheads_ok t hd (by omega) hn
  have e3 := names_ok t (by omega) (by omega)
  have e4 := ldepth_ok t 12 hd
  have e5 := lsize_ok t 12 hd
  have e6 : ∀ M, gLenC "Term" (many 1 f_Term_len) [.t t.ins] M = .ok (.t (.int (t.size : Int))) M := fun M => plen (by omega) (by omega)
  have e7 : ∀ M, gReprI "Term" (many 1 f_Term_repr) [.t t.ins] M = _ := fun M => prepr (t := t) (by omega)
  have e8 := same8 t.kind t.head (t.depth : Int) (t.size : Int) t.text (("Term(" : Str) ++ (t.text ++ (")" : Str))) true t.names (by have := Tm.names_len t; omega)
  have e9 : eIf (eB (Bm.e2 (g2 (inT false)) (Bm.e2 gIx (eVar 1) (eC (.int 0))) (eTup (aCons (eC (.str "join")) (aCons (eC (.str "meet")) aNil))))) (eC (.str "")) (Bm.e2 gIx (eVar 1) (eC (.int 1))) [some (.t t.ins), some (.t t.tree), none, none, none, none, none, none] [] = .ok (.t (.str t.head)) [] := by
    have b := bin_kind t hn
    cases hh : decide (t.head = ("" : Str)) with
    | true =>
      rw [hh] at b
      push_cast [tree_kind, b]
      rw [of_decide_eq_true hh]
    | false =>
      rw [hh] at b
      push_cast [tree_kind, b, tree_head t hh]
  obtain ⟨sl, hsl⟩ : ∃ sl : List (Option D), sl = [some (D.t t.ins), some (D.t t.tree), some (D.t (T.str t.head)), some (D.t (T.str t.text)), some (D.t (T.lst (t.names.map T.str))), some (D.t (.lst [.str t.kind, .str t.head, .int (t.depth : Int), .int (t.size : Int), .str t.text, .lst (t.names.map T.str), .str (("Term(" : Str) ++ (t.text ++ (")" : Str))), .bl true])), some (D.t (.lst [.str t.kind, .str t.head, .int (t.depth : Int), .int (t.size : Int), .str t.text, .lst (t.names.map T.str), .str (("Term(" : Str) ++ (t.text ++ (")" : Str))), .bl true])), none] := ⟨_, rfl⟩
  have hp := Tm.parts_len t
  have g1 : lcF [7] (gNm 7) bYes (eMeth "Term" "text" (many 1 f_Term_text) (eVar 7) aNil) (t.parts.map Tm.ins) sl [] [] = some (t.parts.map fun s => T.str s.text, []) := lc_nat1 Tm.ins (fun s => T.str s.text) t.parts (fun s _ => by rw [hsl]; exact ⟨_, rfl, by push_cast [i_text, ptext_ok]⟩) (by omega)
  have g2 : lcF [7] (gNm 7) bYes (eCall 1 (f_law_text 12) (aCons (eVar 7) aNil)) (t.parts.map Tm.tree) sl [] [] = some (t.parts.map fun s => T.str s.text, []) := lc_nat1 Tm.tree (fun s => T.str s.text) t.parts (fun s h => by
    obtain ⟨p1, p2, p3⟩ := Tm.part_ok t s h
    rw [hsl]; exact ⟨_, rfl, by push_cast [ltext_ok s 12 (by omega) (p1 hn) (by omega)]⟩) (by omega)
  rw [hsl] at g1 g2
  have g3 : f_law_same 12 [.lst (t.parts.map fun s => T.str s.text), .lst (t.parts.map fun s => T.str s.text)] = .val (.bl true) := by
    have := sameL (t.parts.map Tm.text) (by rw [List.length_map]; omega)
    rw [List.map_map] at this
    exact this
  unfold F_law_term_so
  push_cast [e9, e1, e2, e3, e4, e5, e6, e7, e8, pkind, phead, pdepth, pbool, i_text, ptext_ok, i_names, tree_kind, str_assoc, i_parts, parts_ok, lparts_ok, g1, g2, g3]
  rfl
/-! in -/
theorem isi_ty {k n : String} {u : T} (hk : k ∈ kinds) (hn : n ∈ kinds) (h : kdOf u = some (.inl k)) : gP (isiT (tabC "Term")) [.t u, .t (.ty n)] M = .ok (.t (.bl (k == n || (k == "bool" && n == "int")))) M := by
  have e : tabC "Term" (.inl k) (.inl n) = some (k == n || (k == "bool" && n == "int")) := by
    show (if k ∈ kinds ∧ n ∈ kinds then some (k == n || (k == "bool" && n == "int")) else none) = _
    rw [if_pos ⟨hk, hn⟩]
  unfold gP
  simp only [allT]
  have e2 : isiT (tabC "Term") [u, .ty n] = some (.bl (k == n || (k == "bool" && n == "int"))) := by
    unfold isiT
    simp only [h, tgt, e]
  simp only [e2]
theorem contains_str (t : Tm) (z : Str) (hz : decide (z = ("" : Str)) = false) (hd : t.depth ≤ 70) (hs : t.size ≤ 10000) : f_Term_contains [t.ins, .str z] = .val (.bl (decide (z ∈ t.names))) := by
  show ansP (F_Term_contains [some (.t t.ins), some (.t (.str z))] []) = _
  unfold F_Term_contains
  have e : ∀ M, gP (isiT (tabC "Term")) [.t (.str z), .t (.ty "str")] M = .ok (.t (.bl true)) M := fun M => isi_ty (k := "str") (n := "str") (by decide) (by decide) rfl
  push_cast [e, hz, i_names, names_ok t hd hs, o_inL]
  rfl
theorem contains_emp (t : Tm) : f_Term_contains [t.ins, .str ""] = .val (.bl false) := by
  show ansP (F_Term_contains [some (.t t.ins), some (.t (.str ""))] []) = _
  unfold F_Term_contains
  have e : ∀ M, gP (isiT (tabC "Term")) [.t (.str ""), .t (.ty "str")] M = .ok (.t (.bl true)) M := fun M => isi_ty (k := "str") (n := "str") (by decide) (by decide) rfl
  push_cast [e]
  rfl
theorem contains_odd (t : Tm) {k : String} {u : T} (hk : k ∈ kinds) (h : kdOf u = some (.inl k)) (hne : (k == "str" || (k == "bool" && "str" == "int")) = false) : f_Term_contains [t.ins, u] = .val (.bl false) := by
  show ansP (F_Term_contains [some (.t t.ins), some (.t u)] []) = _
  unfold F_Term_contains
  have e : ∀ M, gP (isiT (tabC "Term")) [.t u, .t (.ty "str")] M = .ok (.t (.bl false)) M := fun M => by rw [isi_ty hk (by decide) h, hne]
  push_cast [e]
  rfl
theorem pin {t : Tm} {neg k : Bool} {u : T} (h : f_Term_contains [t.ins, u] = .val (.bl k)) : gInC "Term" (many 2 f_Term_contains) neg (.t u) (.t t.ins) M = .ok (.t (.bl (neg != k))) M := by
  have e : isInsD (.t t.ins) = true := by rw [Tm.ins_eq]; rfl
  unfold gInC gOr2
  simp only [e, if_true]
  unfold gInI
  rw [i0]
  push_cast [h]
end BmTm

namespace BmTm
open PySem L2 Bm BmLaw BmT BmT2
variable {M : List MO}
/-! a list of truths equals itself -/
theorem toPd_bls : ∀ bs : List Bool, toPdL (bs.map T.bl) = some (bs.map PyData.bool)
  | [] => rfl
  | b :: bs => by rw [List.map_cons]; unfold toPdL; rw [toPd_bls bs]; rfl
theorem toPd_ints : ∀ bs : List Int, toPdL (bs.map T.int) = some (bs.map PyData.int)
  | [] => rfl
  | b :: bs => by rw [List.map_cons]; unfold toPdL; rw [toPd_ints bs]; rfl
theorem lay_bls : ∀ bs : List Bool, PyData.canLayAll0 (bs.map PyData.bool) = true
  | [] => rfl
  | b :: bs => by rw [List.map_cons]; unfold PyData.canLayAll0; rw [lay_bls bs]; rfl
theorem lay_ints : ∀ bs : List Int, PyData.canLayAll0 (bs.map PyData.int) = true
  | [] => rfl
  | b :: bs => by rw [List.map_cons]; unfold PyData.canLayAll0; rw [lay_ints bs]; rfl
theorem dep_bls : ∀ bs : List Bool, PyData.depthAll (bs.map PyData.bool) = 0
  | [] => rfl
  | b :: bs => by rw [List.map_cons]; unfold PyData.depthAll; rw [dep_bls bs]; rfl
theorem dep_ints : ∀ bs : List Int, PyData.depthAll (bs.map PyData.int) = 0
  | [] => rfl
  | b :: bs => by rw [List.map_cons]; unfold PyData.depthAll; rw [dep_ints bs]; rfl
theorem eqD_self {t : T} {d : PyData} (h : toPd t = some d) (h1 : d.canLay0 = true) (h2 : d.depth ≤ 64) : eqD t t = some true := by
  have hs : SeqAt.shaped d = true := by unfold SeqAt.shaped; rw [h1, decide_eq_true h2]; rfl
  unfold eqD
  rw [h]
  simp only [hs, and_self, if_true]
  exact congrArg some (SeqAt.eqv_refl d h1)
theorem toPd_lst {ts : List T} {ds : List PyData} (h : toPdL ts = some ds) : toPd (.lst ts) = some (.list ds) := by unfold toPd; rw [h]
theorem eq_bls (bs : List Bool) : eqD (.lst (bs.map T.bl)) (.lst (bs.map T.bl)) = some true := by
  refine eqD_self (toPd_lst (toPd_bls bs)) ?_ ?_
  · unfold PyData.canLay0; exact lay_bls bs
  · unfold PyData.depth; rw [dep_bls bs]; decide
theorem eq_ints (bs : List Int) : eqD (.lst (bs.map T.int)) (.lst (bs.map T.int)) = some true := by
  refine eqD_self (toPd_lst (toPd_ints bs)) ?_ ?_
  · unfold PyData.canLay0; exact lay_ints bs
  · unfold PyData.depth; rw [dep_ints bs]; decide
theorem o_neBls (bs : List Bool) : g2 neT (.t (.lst (bs.map T.bl))) (.t (.lst (bs.map T.bl))) M = .ok (.t (.bl false)) M := by
  have e : neT (.lst (bs.map T.bl)) (.lst (bs.map T.bl)) = some (.bl false) := by
    unfold neT
    have e0 : eqS (.lst (bs.map T.bl)) (.lst (bs.map T.bl)) = none := rfl
    rw [e0]; simp only [eq_bls]; rfl
  unfold g2; simp only [e]
theorem o_eqInts (bs : List Int) : g2 eqT (.t (.lst (bs.map T.int))) (.t (.lst (bs.map T.int))) M = .ok (.t (.bl true)) M := by
  have e : eqT (.lst (bs.map T.int)) (.lst (bs.map T.int)) = some (.bl true) := by
    unfold eqT
    have e0 : eqS (.lst (bs.map T.int)) (.lst (bs.map T.int)) = none := rfl
    rw [e0]; simp only [eq_ints]
  unfold g2; simp only [e]
theorem zipT_map {α : Type} (f g : α → T) : ∀ l : List α, zipT (l.map f) (l.map g) = l.map fun s => T.tup [f s, g s]
  | [] => rfl
  | x :: l => by
    have := zipT_map f g l
    unfold zipT at this ⊢
    rw [List.map_cons, List.map_cons, List.zip_cons_cons, List.map_cons, this]; rfl
theorem blsOf_true {α : Type} : ∀ l : List α, blsOf (l.map fun _ => T.bl true) = some (l.map fun _ => true)
  | [] => rfl
  | x :: l => by rw [List.map_cons]; unfold blsOf; rw [blsOf_true l]; rfl
theorem all_true_map {α : Type} : ∀ l : List α, (l.map fun _ => true).all id = true
  | [] => rfl
  | x :: l => by rw [List.map_cons, List.all_cons, all_true_map l]; rfl
theorem Tm.names_in {zs : List Str} : ∀ t : Tm, t.inN zs → ∀ p ∈ t.walk, p.2.inN zs
  | .leaf k z, h, p, hp => by simp only [walk, List.mem_singleton] at hp; subst hp; exact h
  | .map z t, h, p, hp => by
    simp only [walk, List.mem_cons, List.mem_map] at hp
    rcases hp with rfl | ⟨q, hq, rfl⟩
    · exact h
    · exact names_in t h.2 q hq
  | .bin k a b, h, p, hp => by
    simp only [walk, List.mem_cons, List.mem_append, List.mem_map] at hp
    rcases hp with rfl | ⟨q, hq, rfl⟩ | ⟨q, hq, rfl⟩
    · exact h
    · exact names_in a h.1 q hq
    · exact names_in b h.2 q hq
theorem Tm.name_nm (t : Tm) (hn : t.nm) : ∀ z ∈ t.names, nmZ z := by
  intro z hz
  unfold Tm.names at hz
  obtain ⟨p, hp, rfl⟩ := List.mem_map.mp hz
  obtain ⟨h1, h2⟩ := List.mem_filter.mp hp
  have := Tm.walk_nm t hn p h1
  cases q : p.2 with
  | leaf k z => rw [q] at this; exact this
  | map z t => rw [q] at this; exact this.1
  | bin k a b => rw [q] at h2; simp [Tm.head] at h2
theorem Tm.name_mem {zs : List Str} (t : Tm) (hn : t.nm) (hi : t.inN zs) : ∀ z ∈ t.names, z ∈ zs := by
  intro z hz
  unfold Tm.names at hz
  obtain ⟨p, hp, rfl⟩ := List.mem_map.mp hz
  obtain ⟨h1, h2⟩ := List.mem_filter.mp hp
  have := Tm.names_in t hi p h1
  cases q : p.2 with
  | leaf k z => rw [q] at this; exact this
  | map z t => rw [q] at this; exact this.1
  | bin k a b => rw [q] at h2; simp [Tm.head] at h2
theorem Tm.names_pos : ∀ (t : Tm), t.nm → t.names ≠ []
  | t, hn => by
    have key : ∀ t : Tm, ∃ k z q, (q, Tm.leaf k z) ∈ t.walk := fun t => by
      induction t with
      | leaf k z => exact ⟨k, z, [], by simp [Tm.walk]⟩
      | map z t ih => obtain ⟨k, y, q, h⟩ := ih; exact ⟨k, y, 0 :: q, by simp only [Tm.walk, List.mem_cons, List.mem_map]; exact .inr ⟨_, h, rfl⟩⟩
      | bin k a b ih _ => obtain ⟨k, y, q, h⟩ := ih; exact ⟨k, y, 0 :: q, by simp only [Tm.walk, List.mem_cons, List.mem_append, List.mem_map]; exact .inr (.inl ⟨_, h, rfl⟩)⟩
    obtain ⟨k, z, q, h⟩ := key t
    have hz := (Tm.walk_nm t hn _ h).1
    intro e
    have : z ∈ t.names := by
      unfold Tm.names
      exact List.mem_map.mpr ⟨(q, .leaf k z), List.mem_filter.mpr ⟨h, by
        show (!decide (z = ("" : Str))) = true
        rw [name_ne hz]; rfl⟩, rfl⟩
    rw [e] at this
    cases this
end BmTm

namespace BmTm
open PySem L2 Bm BmLaw BmT BmT2 BmT3
variable {M : List MO}
theorem peq_str {fp : List T → PR} {x y : Str} : gEqC "Term" fp (.t (.str x)) (.t (.str y)) M = .ok (.t (.bl (decide (x = y)))) M := rfl
theorem pne_str {fp : List T → PR} {x y : Str} : gNeC "Term" fp (.t (.str x)) (.t (.str y)) M = .ok (.t (.bl (!decide (x = y)))) M := rfl
theorem Tm.names_leaf (k : LK) (z : Str) (h : nmZ z) : (Tm.leaf k z).names = [z] := by
  have e : (Tm.leaf k z).head = z := rfl
  unfold Tm.names Tm.walk
  rw [List.filter_cons]
  simp only [e, name_ne h.1]
  rfl
theorem names_sh (i : Nat) (l : List (List Nat × Tm)) : ((l.map fun p => (i :: p.1, p.2)).filter fun (p : List Nat × Tm) => !decide (p.2.head = ("" : Str))).map (fun (p : List Nat × Tm) => p.2.head) = (l.filter fun (p : List Nat × Tm) => !decide (p.2.head = ("" : Str))).map fun (p : List Nat × Tm) => p.2.head := by
  rw [List.filter_map, List.map_map]
  rfl
theorem Tm.names_map (z : Str) (t : Tm) (h : nmZ z) : (Tm.map z t).names = z :: t.names := by
  have e : (Tm.map z t).head = z := rfl
  show (List.filter (fun (p : List Nat × Tm) => !decide (p.2.head = ("" : Str))) (([], Tm.map z t) :: t.walk.map fun p => (0 :: p.1, p.2))).map (fun (p : List Nat × Tm) => p.2.head) = z :: t.names
  rw [List.filter_cons]
  simp only [e, name_ne h.1, Bool.not_false, if_true]
  rw [List.map_cons, names_sh]
  rfl
theorem Tm.names_bin (k : BK) (a b : Tm) : (Tm.bin k a b).names = a.names ++ b.names := by
  have e : (Tm.bin k a b).head = "" := rfl
  show (List.filter (fun (p : List Nat × Tm) => !decide (p.2.head = ("" : Str))) (([], Tm.bin k a b) :: ((a.walk.map fun p => (0 :: p.1, p.2)) ++ b.walk.map fun p => (1 :: p.1, p.2)))).map (fun (p : List Nat × Tm) => p.2.head) = a.names ++ b.names
  rw [List.filter_cons]
  simp only [e, decide_true, Bool.not_true, Bool.false_eq_true, if_false]
  rw [List.filter_append, List.map_append, names_sh, names_sh]
  rfl
/-! renamed -/
def ren1 (o f z : Str) : Str := if z = o then f else z
def ren (o f : Str) : Tm → Tm
  | .leaf k z => .leaf k (ren1 o f z)
  | .map z t => .map (ren1 o f z) (ren o f t)
  | .bin k a b => .bin k (ren o f a) (ren o f b)
theorem ren1_nm {o f z : Str} (hz : nmZ z) (hf : nmZ f) : nmZ (ren1 o f z) := by unfold ren1; split <;> assumption
theorem ren_nm {o f : Str} (hf : nmZ f) : ∀ t : Tm, t.nm → (ren o f t).nm
  | .leaf k z, h => ren1_nm h hf
  | .map z t, h => ⟨ren1_nm h.1 hf, ren_nm hf t h.2⟩
  | .bin k a b, h => ⟨ren_nm hf a h.1, ren_nm hf b h.2⟩
theorem ren_size {o f : Str} : ∀ t : Tm, (ren o f t).size = t.size
  | .leaf k z => rfl
  | .map z t => by show 1 + (ren o f t).size = 1 + t.size; rw [ren_size t]
  | .bin k a b => by show 1 + (ren o f a).size + (ren o f b).size = 1 + a.size + b.size; rw [ren_size a, ren_size b]
theorem ren_depth {o f : Str} : ∀ t : Tm, (ren o f t).depth = t.depth
  | .leaf k z => rfl
  | .map z t => by show 1 + (ren o f t).depth = 1 + t.depth; rw [ren_depth t]
  | .bin k a b => by show 1 + max (ren o f a).depth (ren o f b).depth = 1 + max a.depth b.depth; rw [ren_depth a, ren_depth b]
theorem ren_names {o f : Str} (hf : nmZ f) : ∀ t : Tm, t.nm → (ren o f t).names = t.names.map (ren1 o f)
  | .leaf k z, h => by show (Tm.leaf k (ren1 o f z)).names = _; rw [Tm.names_leaf _ _ (ren1_nm h hf), Tm.names_leaf _ _ h]; rfl
  | .map z t, h => by show (Tm.map (ren1 o f z) (ren o f t)).names = _; rw [Tm.names_map _ _ (ren1_nm h.1 hf), Tm.names_map _ _ h.1, ren_names hf t h.2]; rfl
  | .bin k a b, h => by show (Tm.bin k (ren o f a) (ren o f b)).names = _; rw [Tm.names_bin, Tm.names_bin, ren_names hf a h.1, ren_names hf b h.2, List.map_append]
theorem ren_id {o f : Str} : ∀ (zs : List Str) (t : Tm), t.inN zs → o ∉ zs → ren o f t = t
  | zs, .leaf k z, h, ho => by
    have : ¬ z = o := fun e => ho (e ▸ h)
    show Tm.leaf k (ren1 o f z) = _; unfold ren1; rw [if_neg this]
  | zs, .map z t, h, ho => by
    have : ¬ z = o := fun e => ho (e ▸ h.1)
    show Tm.map (ren1 o f z) (ren o f t) = _; unfold ren1; rw [if_neg this, ren_id zs t h.2 ho]
  | zs, .bin k a b, h, ho => by show Tm.bin k (ren o f a) (ren o f b) = _; rw [ren_id zs a h.1 ho, ren_id zs b h.2 ho]
theorem ren_back {o f : Str} : ∀ (zs : List Str) (t : Tm), t.inN zs → f ∉ zs → ren f o (ren o f t) = t
  | zs, .leaf k z, h, ho => by
    have hz : ¬ z = f := fun e => ho (e ▸ h)
    show Tm.leaf k (ren1 f o (ren1 o f z)) = _
    have : ren1 f o (ren1 o f z) = z := by
      unfold ren1
      by_cases e : z = o
      · rw [if_pos e, if_pos rfl, e]
      · rw [if_neg e, if_neg hz]
    rw [this]
  | zs, .map z t, h, ho => by
    have hz : ¬ z = f := fun e => ho (e ▸ h.1)
    show Tm.map (ren1 f o (ren1 o f z)) (ren f o (ren o f t)) = _
    have : ren1 f o (ren1 o f z) = z := by
      unfold ren1
      by_cases e : z = o
      · rw [if_pos e, if_pos rfl, e]
      · rw [if_neg e, if_neg hz]
    rw [this, ren_back zs t h.2 ho]
  | zs, .bin k a b, h, ho => by show Tm.bin k (ren f o (ren o f a)) (ren f o (ren o f b)) = _; rw [ren_back zs a h.1 ho, ren_back zs b h.2 ho]
theorem i_renamed {t : Tm} : isInsN "Term" "renamed" (.t t.ins) = true := isIns (by decide +kernel)
theorem name_sw {o f : Str} {z : Str} (ho : nmZ o) {sl : List (Option D)} {t : Tm} (h : t.head = z) (hz : nmZ z) :
    eIf (bAnd (eB (e2 (g2 eqT) (eFld "Term" "own_name" (eVar 0)) (eVar 1))) (eB (e2 (g2 neT) (eVar 1) (eC (.str ""))))) (eVar 2) (eFld "Term" "own_name" (eVar 0)) (some (.t t.ins) :: some (.t (.str o)) :: some (.t (.str f)) :: sl) M = .ok (.t (.str (ren1 o f z))) M := by
  unfold ren1
  by_cases e : z = o
  · rw [if_pos e]
    push_cast [f_head, h, e, name_ne ho.1]
  · rw [if_neg e]
    push_cast [f_head, h, decide_eq_false e]
theorem renamed_ok {o f : Str} (ho : nmZ o) (hf : nmZ f) : ∀ (t : Tm) (n : Nat), t.depth ≤ n → t.nm → t.size ≤ 1000 → f_Term_renamed n [t.ins, .str o, .str f] = .val (ren o f t).ins
  | .leaf k z, 0, h, _, _ => by have : (Tm.leaf k z).depth = 1 := rfl; omega
  | .map z t, 0, h, _, _ => by have : (Tm.map z t).depth = 1 + t.depth := rfl; omega
  | .bin k a b, 0, h, _, _ => by have : (Tm.bin k a b).depth = 1 + max a.depth b.depth := rfl; omega
  | .leaf k z, n + 1, _, hn, _ => by
    show ansP (F_Term_renamed (f_Term_renamed n) [some (.t (Tm.leaf k z).ins), some (.t (.str o)), some (.t (.str f)), none, none, none] []) = _
    unfold F_Term_renamed
    have hz := (ren1_nm (o := o) hn hf).2
    have hf2 := hf.2
    push_cast [name_str f (by omega), hf.1, name_sw (M := []) (f := f) (z := z) (sl := [none, none, none]) ho (t := Tm.leaf k z) rfl hn, f_parts, show (Tm.leaf k z).parts = [] from rfl, f_kind, show (Tm.leaf k z).kind = k.s from rfl, make_leaf k (ren1 o f z) (by omega)]
    rfl
  | .map z t, n + 1, h, hn, hs => by
    have e1 : (Tm.map z t).depth = 1 + t.depth := rfl
    have e2 : (Tm.map z t).size = 1 + t.size := rfl
    have ih := renamed_ok ho hf t n (by omega) hn.2 (by omega)
    have hz := (ren1_nm (o := o) hn.1 hf).2
    have hf2 := hf.2
    have ht := Tm.text_size _ (ren_nm (o := o) hf t hn.2)
    rw [ren_size] at ht
    show ansP (F_Term_renamed (f_Term_renamed n) [some (.t (Tm.map z t).ins), some (.t (.str o)), some (.t (.str f)), none, none, none] []) = _
    unfold F_Term_renamed
    push_cast [name_str f (by omega), hf.1, name_sw (M := []) (f := f) (z := z) (sl := [none, none, none]) ho (t := Tm.map z t) rfl hn.1, f_parts, show (Tm.map z t).parts = [t] from rfl, i_renamed, ih, f_kind, show (Tm.map z t).kind = "map" from rfl, make_map (ren1 o f z) (ren o f t) (by omega)]
    rfl
  | .bin k a b, n + 1, h, hn, hs => by
    have e1 : (Tm.bin k a b).depth = 1 + max a.depth b.depth := rfl
    have e2 : (Tm.bin k a b).size = 1 + a.size + b.size := rfl
    have iha := renamed_ok ho hf a n (by omega) hn.1 (by omega)
    have ihb := renamed_ok ho hf b n (by omega) hn.2 (by omega)
    have hf2 := hf.2
    have hta := Tm.text_size _ (ren_nm (o := o) hf a hn.1)
    have htb := Tm.text_size _ (ren_nm (o := o) hf b hn.2)
    rw [ren_size] at hta htb
    have e3 : decide ((("" : Str)) = o) = false := decide_eq_false fun e => by have := name_ne ho.1; rw [← e] at this; simp at this
    show ansP (F_Term_renamed (f_Term_renamed n) [some (.t (Tm.bin k a b).ins), some (.t (.str o)), some (.t (.str f)), none, none, none] []) = _
    unfold F_Term_renamed
    push_cast [name_str f (by omega), hf.1, f_head, show (Tm.bin k a b).head = "" from rfl, e3, f_parts, show (Tm.bin k a b).parts = [a, b] from rfl, i_renamed, iha, ihb, f_kind, show (Tm.bin k a b).kind = k.s from rfl, make_bin k (ren o f a) (ren o f b) (by omega)]
    rfl
theorem lsw {o f z : Str} {u v : D} {sl : List (Option D)} (h : gIx u (.t (.int 1)) M = .ok (.t (.str z)) M) :
    eIf (eB (e2 (g2 eqT) (e2 gIx (eVar 0) (eC (.int 1))) (eVar 1))) (eVar 2) (e2 gIx (eVar 0) (eC (.int 1))) (some u :: some (.t (.str o)) :: some (.t (.str f)) :: sl) M = .ok (.t (.str (ren1 o f z))) M := by
  unfold ren1
  by_cases e : z = o
  · rw [if_pos e]
    push_cast [h, e]
  · rw [if_neg e]
    push_cast [h, decide_eq_false e]
theorem lnew_ok {o f : Str} : ∀ (t : Tm) (n : Nat), t.depth ≤ n → f_law_new_names n [t.tree, .str o, .str f] = .val (ren o f t).tree
  | .leaf k z, 0, h => by have : (Tm.leaf k z).depth = 1 := rfl; omega
  | .map z t, 0, h => by have : (Tm.map z t).depth = 1 + t.depth := rfl; omega
  | .bin k a b, 0, h => by have : (Tm.bin k a b).depth = 1 + max a.depth b.depth := rfl; omega
  | .leaf k z, n + 1, _ => by
    show ansP (F_law_new_names (f_law_new_names n) [some (.t (.tup [.str k.s, .str z])), some (.t (.str o)), some (.t (.str f)), none] []) = _
    unfold F_law_new_names
    have e := lsw (M := []) (o := o) (f := f) (sl := [none]) (u := .t (.tup [.str k.s, .str z])) (v := .t .non) o_ixT1
    cases k
    · have e : eIf _ _ _ [some (.t (.tup [.str "item", .str z])), _, _, _] _ = _ := e
      push_cast [LK.s, e]; rfl
    · have e : eIf _ _ _ [some (.t (.tup [.str "top", .str z])), _, _, _] _ = _ := e
      push_cast [LK.s, e]; rfl
    · have e : eIf _ _ _ [some (.t (.tup [.str "bottom", .str z])), _, _, _] _ = _ := e
      push_cast [LK.s, e]; rfl
  | .map z t, n + 1, h => by
    have e1 : (Tm.map z t).depth = 1 + t.depth := rfl
    have ih := lnew_ok (o := o) (f := f) t n (by omega)
    show ansP (F_law_new_names (f_law_new_names n) [some (.t (.tup [.str "map", .str z, t.tree])), some (.t (.str o)), some (.t (.str f)), none] []) = _
    unfold F_law_new_names
    have e := lsw (M := []) (o := o) (f := f) (sl := [none]) (u := .t (.tup [.str "map", .str z, t.tree])) (v := .t .non) o_ixT1
    push_cast [e, ih]
    rfl
  | .bin k a b, n + 1, h => by
    have e1 : (Tm.bin k a b).depth = 1 + max a.depth b.depth := rfl
    have iha := lnew_ok (o := o) (f := f) a n (by omega)
    have ihb := lnew_ok (o := o) (f := f) b n (by omega)
    show ansP (F_law_new_names (f_law_new_names n) [some (.t (.tup [.str k.s, a.tree, b.tree])), some (.t (.str o)), some (.t (.str f)), none] []) = _
    unfold F_law_new_names
    cases k
    · push_cast [BK.s, iha, ihb]; rfl
    · push_cast [BK.s, iha, ihb, Bool.or_true]; rfl
theorem sameTL (a : Str) (l : List Str) (h : l.length < 16777216) : f_law_same 12 [.lst [.str a, .lst (l.map T.str)], .lst [.str a, .lst (l.map T.str)]] = .val (.bl true) := by
  refine same_refl 12 _ ?_
  show (decide (([.str a, .lst (l.map T.str)] : List T).length < 16777216) && (okT 11 (.str a) && (okT 11 (.lst (l.map T.str)) && true))) = true
  rw [okT_strs 9 l h]
  rfl
end BmTm

namespace BmTm
open PySem L2 Bm BmLaw BmT BmT2 BmT3 BmT4
variable {M : List MO}
/-! paths -/
theorem eqv_ints : ∀ p q : List Nat, PyData.eqvAll (p.map fun (i : Nat) => PyData.int (i : Int)) (q.map fun (i : Nat) => PyData.int (i : Int)) = decide (p = q)
  | [], [] => rfl
  | [], _ :: _ => rfl
  | _ :: _, [] => rfl
  | i :: p, j :: q => by
    rw [List.map_cons, List.map_cons]
    show (PyData.eqv (.int (i : Int)) (.int (j : Int)) && PyData.eqvAll _ _) = _
    rw [eqv_ints p q]
    show (((i : Int) == (j : Int)) && decide (p = q)) = _
    by_cases h : i = j
    · subst h; by_cases h2 : p = q <;> simp [h2]
    · have h3 : ((i : Int) == (j : Int)) = false := by simp; omega
      rw [h3]; simp [h]
theorem toPd_path (p : List Nat) : toPd (pathT p) = some (.tuple (p.map fun (i : Nat) => PyData.int (i : Int))) := by
  have : ∀ p : List Nat, toPdL (p.map fun (i : Nat) => T.int (i : Int)) = some (p.map fun (i : Nat) => PyData.int (i : Int)) := fun p => by
    induction p with
    | nil => rfl
    | cons i p ih => rw [List.map_cons]; unfold toPdL; rw [ih]; rfl
  unfold pathT toPd
  rw [this]
theorem shaped_path (p : List Nat) : SeqAt.shaped (.tuple (p.map fun (i : Nat) => PyData.int (i : Int))) = true := by
  have h1 : ∀ p : List Nat, PyData.canLayAll0 (p.map fun (i : Nat) => PyData.int (i : Int)) = true := fun p => by
    induction p with
    | nil => rfl
    | cons i p ih => rw [List.map_cons]; unfold PyData.canLayAll0; rw [ih]; rfl
  have h2 : ∀ p : List Nat, PyData.depthAll (p.map fun (i : Nat) => PyData.int (i : Int)) = 0 := fun p => by
    induction p with
    | nil => rfl
    | cons i p ih => rw [List.map_cons]; unfold PyData.depthAll; rw [ih]; rfl
  unfold SeqAt.shaped
  rw [Bool.and_eq_true]
  exact ⟨by unfold PyData.canLay0; exact h1 p, by unfold PyData.depth; rw [h2 p]; decide⟩
theorem eqD_path (p q : List Nat) : eqD (pathT p) (pathT q) = some (decide (p = q)) := by
  unfold eqD
  rw [toPd_path, toPd_path]
  simp only [shaped_path, and_self, if_true]
  exact congrArg some (eqv_ints p q)
theorem o_eqP {p q : List Nat} : g2 eqT (.t (pathT p)) (.t (pathT q)) M = .ok (.t (.bl (decide (p = q)))) M := by
  have e : eqT (pathT p) (pathT q) = some (.bl (decide (p = q))) := by
    unfold eqT
    have e0 : eqS (pathT p) (pathT q) = none := rfl
    rw [e0]; simp only [eqD_path]
  unfold g2; simp only [e]
theorem o_eqP0 {p : List Nat} : g2 eqT (.t (pathT p)) (.t (.tup [])) M = .ok (.t (.bl (decide (p = [])))) M := o_eqP (q := [])
theorem o_neP {p q : List Nat} {fp : List T → PR} : gNeC "Term" fp (.t (pathT p)) (.t (pathT q)) M = .ok (.t (.bl (!decide (p = q)))) M := by
  show g2 neT (.t (pathT p)) (.t (pathT q)) M = _
  have e : neT (pathT p) (pathT q) = some (.bl (!decide (p = q))) := by
    unfold neT
    have e0 : eqS (pathT p) (pathT q) = none := rfl
    rw [e0]; simp only [eqD_path]
  unfold g2; simp only [e]
theorem o_ixP {i : Nat} {p : List Nat} : gIx (.t (pathT (i :: p))) (.t (.int 0)) M = .ok (.t (.int (i : Int))) M := o_ixT0
theorem o_slP1 {i : Nat} {p : List Nat} : gSl (.t (pathT (i :: p))) (some 1) none M = .ok (.t (pathT p)) M := by
  unfold pathT
  rw [o_slT, show (1 : Int) = ((1 : Nat) : Int) from rfl, cut_drop]
  rfl
theorem o_slPt {n : Nat} {p : List Nat} : gSl (.t (pathT p)) none (some (n : Int)) M = .ok (.t (pathT (p.take n))) M := by
  unfold pathT
  rw [o_slT, cut_take, List.map_take]
theorem o_lenP {p : List Nat} : gLen [.t (pathT p)] M = .ok (.t (.int (p.length : Int))) M := by
  unfold pathT
  rw [o_lenT, List.length_map]
theorem o_lenCP {p : List Nat} {c : Str} {fp : List T → PR} : gLenC c fp [.t (pathT p)] M = .ok (.t (.int (p.length : Int))) M := by
  unfold pathT
  rw [o_lenCT, List.length_map]
/-! parts at paths -/
namespace Tm
def sub : Tm → List Nat → Option Tm
  | t, [] => some t
  | map _ t, 0 :: p => t.sub p
  | bin _ a _, 0 :: p => a.sub p
  | bin _ _ b, 1 :: p => b.sub p
  | _, _ => none
def put : Tm → List Nat → Tm → Tm
  | _, [], u => u
  | map z t, 0 :: p, u => map z (t.put p u)
  | bin k a b, 0 :: p, u => bin k (a.put p u) b
  | bin k a b, 1 :: p, u => bin k a (b.put p u)
  | t, _, _ => t
theorem walk_sub : ∀ (t : Tm) (p : List Nat × Tm), p ∈ t.walk → t.sub p.1 = some p.2
  | leaf k z, p, h => by simp only [walk, List.mem_singleton] at h; subst h; rfl
  | map z t, p, h => by
    simp only [walk, List.mem_cons, List.mem_map] at h
    rcases h with rfl | ⟨q, hq, rfl⟩
    · rfl
    · exact walk_sub t q hq
  | bin k a b, p, h => by
    simp only [walk, List.mem_cons, List.mem_append, List.mem_map] at h
    rcases h with rfl | ⟨q, hq, rfl⟩ | ⟨q, hq, rfl⟩
    · rfl
    · exact walk_sub a q hq
    · exact walk_sub b q hq
/-- induction along a path -/
theorem sub_cases {t s : Tm} {i : Nat} {p : List Nat} (h : t.sub (i :: p) = some s) : (∃ z a, t = map z a ∧ i = 0 ∧ a.sub p = some s) ∨ (∃ k a b, t = bin k a b ∧ i = 0 ∧ a.sub p = some s) ∨ ∃ k a b, t = bin k a b ∧ i = 1 ∧ b.sub p = some s := by
  cases t with
  | leaf k z => simp [sub] at h
  | map z a =>
    cases i with
    | zero => exact .inl ⟨z, a, rfl, rfl, h⟩
    | succ i => simp [sub] at h
  | bin k a b =>
    cases i with
    | zero => exact .inr (.inl ⟨k, a, b, rfl, rfl, h⟩)
    | succ i =>
      cases i with
      | zero => exact .inr (.inr ⟨k, a, b, rfl, rfl, h⟩)
      | succ i => simp [sub] at h
theorem sub_nm : ∀ (p : List Nat) (t s : Tm), t.sub p = some s → t.nm → s.nm ∧ p.length + s.depth ≤ t.depth ∧ s.size ≤ t.size
  | [], t, s, h, hn => by cases (show some t = some s by cases t <;> exact h); exact ⟨hn, by simp, Nat.le_refl _⟩
  | i :: p, t, s, h, hn => by
    rcases sub_cases h with ⟨z, a, rfl, rfl, h⟩ | ⟨k, a, b, rfl, rfl, h⟩ | ⟨k, a, b, rfl, rfl, h⟩
    · obtain ⟨h1, h2, h3⟩ := sub_nm p a s h hn.2
      exact ⟨h1, by show p.length + 1 + s.depth ≤ 1 + a.depth; omega, by show s.size ≤ 1 + a.size; omega⟩
    · obtain ⟨h1, h2, h3⟩ := sub_nm p a s h hn.1
      exact ⟨h1, by show p.length + 1 + s.depth ≤ 1 + max a.depth b.depth; omega, by show s.size ≤ 1 + a.size + b.size; omega⟩
    · obtain ⟨h1, h2, h3⟩ := sub_nm p b s h hn.2
      exact ⟨h1, by show p.length + 1 + s.depth ≤ 1 + max a.depth b.depth; omega, by show s.size ≤ 1 + a.size + b.size; omega⟩
theorem put_nm : ∀ (p : List Nat) (t s u : Tm), t.sub p = some s → t.nm → u.nm → (t.put p u).nm ∧ (t.put p u).depth ≤ max t.depth (p.length + u.depth) ∧ (t.put p u).size ≤ t.size + u.size
  | [], t, s, u, h, hn, hu => by
    rw [show t.put [] u = u by cases t <;> rfl]
    exact ⟨hu, by simp; omega, by omega⟩
  | i :: p, t, s, u, h, hn, hu => by
    rcases sub_cases h with ⟨z, a, rfl, rfl, h⟩ | ⟨k, a, b, rfl, rfl, h⟩ | ⟨k, a, b, rfl, rfl, h⟩
    · obtain ⟨h1, h2, h3⟩ := put_nm p a s u h hn.2 hu
      exact ⟨⟨hn.1, h1⟩, by show 1 + (a.put p u).depth ≤ max (1 + a.depth) (p.length + 1 + u.depth); omega, by show 1 + (a.put p u).size ≤ 1 + a.size + u.size; omega⟩
    · obtain ⟨h1, h2, h3⟩ := put_nm p a s u h hn.1 hu
      exact ⟨⟨h1, hn.2⟩, by show 1 + max (a.put p u).depth b.depth ≤ max (1 + max a.depth b.depth) (p.length + 1 + u.depth); omega, by show 1 + (a.put p u).size + b.size ≤ 1 + a.size + b.size + u.size; omega⟩
    · obtain ⟨h1, h2, h3⟩ := put_nm p b s u h hn.2 hu
      exact ⟨⟨hn.1, h1⟩, by show 1 + max a.depth (b.put p u).depth ≤ max (1 + max a.depth b.depth) (p.length + 1 + u.depth); omega, by show 1 + a.size + (b.put p u).size ≤ 1 + a.size + b.size + u.size; omega⟩
theorem put_back : ∀ (p : List Nat) (t s u : Tm), t.sub p = some s → (t.put p u).put p s = t
  | [], t, s, u, h => by cases (show some t = some s by cases t <;> exact h); rw [show (t.put [] u).put [] t = t by cases t <;> cases u <;> rfl]
  | i :: p, t, s, u, h => by
    rcases sub_cases h with ⟨z, a, rfl, rfl, h⟩ | ⟨k, a, b, rfl, rfl, h⟩ | ⟨k, a, b, rfl, rfl, h⟩
    · show map z ((a.put p u).put p s) = _; rw [put_back p a s u h]
    · show bin k ((a.put p u).put p s) b = _; rw [put_back p a s u h]
    · show bin k a ((b.put p u).put p s) = _; rw [put_back p b s u h]
theorem sub_put : ∀ (p : List Nat) (t s u : Tm), t.sub p = some s → (t.put p u).sub p = some u
  | [], t, s, u, h => by rw [show t.put [] u = u by cases t <;> rfl]; cases u <;> rfl
  | i :: p, t, s, u, h => by
    rcases sub_cases h with ⟨z, a, rfl, rfl, h⟩ | ⟨k, a, b, rfl, rfl, h⟩ | ⟨k, a, b, rfl, rfl, h⟩
    · exact sub_put p a s u h
    · exact sub_put p a s u h
    · exact sub_put p b s u h
theorem sub_other : ∀ (p q : List Nat) (t s u v : Tm), t.sub p = some s → t.sub q = some v → q.take p.length ≠ p → p.take q.length ≠ q → (t.put p u).sub q = some v
  | [], q, t, s, u, v, h, hv, h1, h2 => absurd (by simp) h1
  | _ :: _, [], t, s, u, v, h, hv, h1, h2 => absurd (by simp) h2
  | i :: p, j :: q, t, s, u, v, h, hv, h1, h2 => by
    rw [List.length_cons, List.take_succ_cons] at h1 h2
    rcases sub_cases h with ⟨z, a, rfl, rfl, h⟩ | ⟨k, a, b, rfl, rfl, h⟩ | ⟨k, a, b, rfl, rfl, h⟩
    · rcases sub_cases hv with ⟨z', a', e, rfl, hv⟩ | ⟨k', a', b', e, rfl, hv⟩ | ⟨k', a', b', e, rfl, hv⟩ <;> cases e
      exact sub_other p q a s u v h hv (fun e => h1 (by rw [e])) (fun e => h2 (by rw [e]))
    · rcases sub_cases hv with ⟨z', a', e, rfl, hv⟩ | ⟨k', a', b', e, rfl, hv⟩ | ⟨k', a', b', e, rfl, hv⟩ <;> cases e
      · exact sub_other p q a s u v h hv (fun e => h1 (by rw [e])) (fun e => h2 (by rw [e]))
      · exact hv
    · rcases sub_cases hv with ⟨z', a', e, rfl, hv⟩ | ⟨k', a', b', e, rfl, hv⟩ | ⟨k', a', b', e, rfl, hv⟩ <;> cases e
      · exact hv
      · exact sub_other p q b s u v h hv (fun e => h1 (by rw [e])) (fun e => h2 (by rw [e]))
end Tm
theorem i_replaced {t : Tm} : isInsN "Term" "replaced" (.t t.ins) = true := isIns (by decide +kernel)
theorem i_changed {t : Tm} : isInsN "Term" "changed" (.t t.ins) = true := isIns (by decide +kernel)
theorem i_part_at {t : Tm} : isInsN "Term" "part_at" (.t t.ins) = true := isIns (by decide +kernel)
theorem replaced_ok : ∀ (p : List Nat) (t s u : Tm) (n : Nat), t.sub p = some s → p.length < n → t.nm → u.nm → t.size + u.size ≤ 1000 → f_Term_replaced n [t.ins, pathT p, u.ins] = .val (t.put p u).ins
  | p, t, s, u, 0, _, h, _, _, _ => absurd h (Nat.not_lt_zero _)
  | [], t, s, u, n + 1, _, _, _, _, _ => by
    show ansP (F_Term_replaced (f_Term_replaced n) [some (.t t.ins), some (.t (pathT [])), some (.t u.ins), none] []) = _
    unfold F_Term_replaced
    push_cast [o_eqP0]
    rw [show t.put [] u = u by cases t <;> rfl]
    rfl
  | i :: p, t, s, u, n + 1, h, hl, hn, hu, hs => by
    rw [List.length_cons] at hl
    have e0 : decide (i :: p = []) = false := by simp
    show ansP (F_Term_replaced (f_Term_replaced n) [some (.t t.ins), some (.t (pathT (i :: p))), some (.t u.ins), none] []) = _
    unfold F_Term_replaced
    rcases Tm.sub_cases h with ⟨z, a, rfl, rfl, h⟩ | ⟨k, a, b, rfl, rfl, h⟩ | ⟨k, a, b, rfl, rfl, h⟩
    · have e2 : (Tm.map z a).size = 1 + a.size := rfl
      have ih := replaced_ok p a s u n h (by omega) hn.2 hu (by omega)
      obtain ⟨q1, q2, q3⟩ := Tm.put_nm p a s u h hn.2 hu
      have qt := Tm.text_size _ q1
      have hz := hn.1.2
      have m1 : ∀ R, gIx (.m 0) (.t (.int 0)) (.lst [a.ins] :: R) = .ok (.t a.ins) (.lst [a.ins] :: R) := fun R => o_ixM0 rfl
      have m2 : ∀ sl (v : T) R, kSub2 sl (.t v) (.m 0) (.t (.int 0)) (.lst [a.ins] :: R) = .nx sl (.lst [v] :: R) := fun sl v R => y_sub2 (ts := [a.ins]) (j := 0) rfl
      push_cast [o_eqP0, e0, i_parts, parts_ok, show (Tm.map z a).parts = [a] from rfl, o_ixP, show ((0 : Nat) : Int) = 0 from rfl, m1, m2, i_replaced, o_slP1, ih, f_kind, f_head, show (Tm.map z a).kind = "map" from rfl, show (Tm.map z a).head = z from rfl, make_map z (a.put p u) (by omega)]
      rfl
    · have e2 : (Tm.bin k a b).size = 1 + a.size + b.size := rfl
      have ih := replaced_ok p a s u n h (by omega) hn.1 hu (by omega)
      obtain ⟨q1, q2, q3⟩ := Tm.put_nm p a s u h hn.1 hu
      have qt := Tm.text_size _ q1
      have qb := Tm.text_size _ hn.2
      have m1 : ∀ R, gIx (.m 0) (.t (.int 0)) (.lst [a.ins, b.ins] :: R) = .ok (.t a.ins) (.lst [a.ins, b.ins] :: R) := fun R => o_ixM0 rfl
      have m2 : ∀ sl (v : T) R, kSub2 sl (.t v) (.m 0) (.t (.int 0)) (.lst [a.ins, b.ins] :: R) = .nx sl (.lst [v, b.ins] :: R) := fun sl v R => y_sub2 (ts := [a.ins, b.ins]) (j := 0) rfl
      push_cast [o_eqP0, e0, i_parts, parts_ok, show (Tm.bin k a b).parts = [a, b] from rfl, o_ixP, show ((0 : Nat) : Int) = 0 from rfl, m1, m2, i_replaced, o_slP1, ih, f_kind, f_head, show (Tm.bin k a b).kind = k.s from rfl, show (Tm.bin k a b).head = "" from rfl, make_bin k (a.put p u) b (by omega)]
      rfl
    · have e2 : (Tm.bin k a b).size = 1 + a.size + b.size := rfl
      have ih := replaced_ok p b s u n h (by omega) hn.2 hu (by omega)
      obtain ⟨q1, q2, q3⟩ := Tm.put_nm p b s u h hn.2 hu
      have qt := Tm.text_size _ q1
      have qb := Tm.text_size _ hn.1
      have m1 : ∀ R, gIx (.m 0) (.t (.int 1)) (.lst [a.ins, b.ins] :: R) = .ok (.t b.ins) (.lst [a.ins, b.ins] :: R) := fun R => o_ixM0 rfl
      have m2 : ∀ sl (v : T) R, kSub2 sl (.t v) (.m 0) (.t (.int 1)) (.lst [a.ins, b.ins] :: R) = .nx sl (.lst [a.ins, v] :: R) := fun sl v R => y_sub2 (ts := [a.ins, b.ins]) (j := 1) rfl
      push_cast [o_eqP0, e0, i_parts, parts_ok, show (Tm.bin k a b).parts = [a, b] from rfl, o_ixP, show ((1 : Nat) : Int) = 1 from rfl, m1, m2, i_replaced, o_slP1, ih, f_kind, f_head, show (Tm.bin k a b).kind = k.s from rfl, show (Tm.bin k a b).head = "" from rfl, make_bin k a (b.put p u) (by omega)]
      rfl
theorem changed_ok (p : List Nat) (t s u : Tm) (h : t.sub p = some s) (hl : p.length < 70) (hn : t.nm) (hu : u.nm) (hs : t.size + u.size ≤ 500) (hd : (t.put p u).depth ≤ 60) : f_Term_changed [t.ins, pathT p, u.ins] = .val (t.put p u).ins := by
  obtain ⟨q1, q2, q3⟩ := Tm.put_nm p t s u h hn hu
  show ansP (F_Term_changed [some (.t t.ins), some (.t (pathT p)), some (.t u.ins), none] []) = _
  unfold F_Term_changed
  have e : f_check_size [.int ((t.put p u).size : Int), .int ((t.put p u).depth : Int)] = .val .non := check_ok (by omega) (by omega)
  push_cast [i_replaced, replaced_ok p t s u 70 h hl hn hu (by omega), plen (t := t.put p u) (M := []) (by omega) (by omega), pdepth, e]
  rfl
theorem tree_ix1 (z : Str) (t : Tm) : gIx (.t (Tm.map z t).tree) (.t (.int 2)) M = .ok (.t t.tree) M := o_ixT2
theorem lwith_ok : ∀ (p : List Nat) (t s u : Tm) (n : Nat), t.sub p = some s → p.length < n → f_law_with n [t.tree, pathT p, u.tree] = .val (t.put p u).tree
  | p, t, s, u, 0, _, h => absurd h (Nat.not_lt_zero _)
  | [], t, s, u, n + 1, _, _ => by
    show ansP (F_law_with (f_law_with n) [some (.t t.tree), some (.t (pathT [])), some (.t u.tree), none, none] []) = _
    unfold F_law_with
    push_cast [o_eqP0]
    rw [show t.put [] u = u by cases t <;> rfl]
    rfl
  | i :: p, t, s, u, n + 1, h, hl => by
    rw [List.length_cons] at hl
    have e0 : decide (i :: p = []) = false := by simp
    show ansP (F_law_with (f_law_with n) [some (.t t.tree), some (.t (pathT (i :: p))), some (.t u.tree), none, none] []) = _
    unfold F_law_with
    rcases Tm.sub_cases h with ⟨z, a, rfl, rfl, h⟩ | ⟨k, a, b, rfl, rfl, h⟩ | ⟨k, a, b, rfl, rfl, h⟩
    · have ih := lwith_ok p a s u n h (by omega)
      push_cast [o_eqP0, e0, show (Tm.map z a).tree = .tup [.str "map", .str z, a.tree] from rfl, o_slP1, ih]
      rfl
    · have ih := lwith_ok p a s u n h (by omega)
      have z0 : decide ((0 : Int) = 0) = true := by decide
      have z1 : decide ((1 : Int) = 0) = false := by decide
      cases k
      · push_cast [o_eqP0, e0, show (Tm.bin .join a b).tree = .tup [.str "join", a.tree, b.tree] from rfl, o_slP1, o_ixP, show ((0 : Nat) : Int) = 0 from rfl, z0, z1, show (0 : Int) + 1 = 1 from rfl, show (1 : Int) + 1 = 2 from rfl, ih]
        rfl
      · push_cast [o_eqP0, e0, show (Tm.bin .meet a b).tree = .tup [.str "meet", a.tree, b.tree] from rfl, o_slP1, o_ixP, show ((0 : Nat) : Int) = 0 from rfl, z0, z1, show (0 : Int) + 1 = 1 from rfl, show (1 : Int) + 1 = 2 from rfl, ih]
        rfl
    · have ih := lwith_ok p b s u n h (by omega)
      have z0 : decide ((0 : Int) = 1) = false := by decide
      have z1 : decide ((1 : Int) = 1) = true := by decide
      cases k
      · push_cast [o_eqP0, e0, show (Tm.bin .join a b).tree = .tup [.str "join", a.tree, b.tree] from rfl, o_slP1, o_ixP, show ((1 : Nat) : Int) = 1 from rfl, z0, z1, show (0 : Int) + 1 = 1 from rfl, show (1 : Int) + 1 = 2 from rfl, ih]
        rfl
      · push_cast [o_eqP0, e0, show (Tm.bin .meet a b).tree = .tup [.str "meet", a.tree, b.tree] from rfl, o_slP1, o_ixP, show ((1 : Nat) : Int) = 1 from rfl, z0, z1, show (0 : Int) + 1 = 1 from rfl, show (1 : Int) + 1 = 2 from rfl, ih]
        rfl
/-! part_at -/
theorem isiB {k n : String} {u : T} (hk : k ∈ kinds) (hn : n ∈ kinds) (h : kdOf u = some (.inl k)) : gP (isiT tabB) [.t u, .t (.ty n)] M = .ok (.t (.bl (k == n || (k == "bool" && n == "int")))) M := by
  have e : tabB (.inl k) (.inl n) = some (k == n || (k == "bool" && n == "int")) := by
    show (if k ∈ kinds ∧ n ∈ kinds then some (k == n || (k == "bool" && n == "int")) else none) = _
    rw [if_pos ⟨hk, hn⟩]
  unfold gP
  simp only [allT]
  have e2 : isiT tabB [u, .ty n] = some (.bl (k == n || (k == "bool" && n == "int"))) := by
    unfold isiT
    simp only [h, tgt, e]
  simp only [e2]
theorem whole_int (i : Int) : f_is_whole [.int i] = .val (.bl true) := by
  show ansP (F_is_whole [some (.t (.int i))] []) = _
  unfold F_is_whole
  have e1 : ∀ M, gP (isiT tabB) [.t (.int i), .t (.ty "int")] M = .ok (.t (.bl true)) M := fun M => isiB (k := "int") (n := "int") (by decide) (by decide) rfl
  have e2 : ∀ M, gP (isiT tabB) [.t (.int i), .t (.ty "bool")] M = .ok (.t (.bl false)) M := fun M => isiB (k := "int") (n := "bool") (by decide) (by decide) rfl
  push_cast [e1, e2]
  rfl
theorem whole_bl (b : Bool) : f_is_whole [.bl b] = .val (.bl false) := by
  show ansP (F_is_whole [some (.t (.bl b))] []) = _
  unfold F_is_whole
  have e1 : ∀ M, gP (isiT tabB) [.t (.bl b), .t (.ty "int")] M = .ok (.t (.bl true)) M := fun M => isiB (k := "bool") (n := "int") (by decide) (by decide) rfl
  have e2 : ∀ M, gP (isiT tabB) [.t (.bl b), .t (.ty "bool")] M = .ok (.t (.bl true)) M := fun M => isiB (k := "bool") (n := "bool") (by decide) (by decide) rfl
  push_cast [e1, e2]
  rfl
theorem whole_odd {k : String} {u : T} (hk : k ∈ kinds) (h : kdOf u = some (.inl k)) (hne : (k == "int" || (k == "bool" && "int" == "int")) = false) : f_is_whole [u] = .val (.bl false) := by
  show ansP (F_is_whole [some (.t u)] []) = _
  unfold F_is_whole
  have e1 : ∀ M, gP (isiT tabB) [.t u, .t (.ty "int")] M = .ok (.t (.bl false)) M := fun M => by rw [isiB hk (by decide) h, hne]
  push_cast [e1]
  rfl
theorem number_int (i a b : Int) : f_is_number [.int i, .int a, .int b] = .val (.bl (decide (a ≤ i) && decide (i ≤ b))) := by
  show ansP (F_is_number [some (.t (.int i)), some (.t (.int a)), some (.t (.int b))] []) = _
  unfold F_is_number
  cases h : decide (a ≤ i) with
  | true => push_cast [whole_int, h]; rfl
  | false => push_cast [whole_int, h]; rfl
theorem number_odd {u : T} (h : f_is_whole [u] = .val (.bl false)) (a b : T) : f_is_number [u, a, b] = .val (.bl false) := by
  show ansP (F_is_number [some (.t u), some (.t a), some (.t b)] []) = _
  unfold F_is_number
  push_cast [h]
  rfl
def PB : FS := (sSeq (sSet 4 (eMeth "Term" "parts" (many 1 f_Term_parts) (eVar 2) aNil))
  (sSeq (sIf (bNot (eB (eCall 3 f_is_number (aCons (eVar 3) (aCons (eC (.int 0)) (aCons (e2 (g2 subT) (eCB (gLenC "Term" (many 1 f_Term_len)) (aCons (eVar 4) aNil)) (eC (.int 1))) aNil)))))) (sRet (eC .non)) sSkip)
  (sSet 2 (e2 gIx (eVar 4) (eVar 3)))))
theorem part_loop (s0 s1 : Option D) : ∀ (p : List Nat) (t s : Tm) (x3 x4 : Option D), t.sub p = some s → ∃ y3 y4, loopF (gNm 3) PB (p.map fun (i : Nat) => T.int (i : Int)) [s0, s1, some (.t t.ins), x3, x4] [] = .nx [s0, s1, some (.t s.ins), y3, y4] []
  | [], t, s, x3, x4, h => by cases (show some t = some s by cases t <;> exact h); exact ⟨x3, x4, rfl⟩
  | i :: p, t, s, x3, x4, h => by
    obtain ⟨a, ha, hp⟩ : ∃ a, t.parts[i]? = some a ∧ a.sub p = some s := by
      rcases Tm.sub_cases h with ⟨z, a, rfl, rfl, h⟩ | ⟨k, a, b, rfl, rfl, h⟩ | ⟨k, a, b, rfl, rfl, h⟩
      · exact ⟨a, rfl, h⟩
      · exact ⟨a, rfl, h⟩
      · exact ⟨b, rfl, h⟩
    have hi := (List.getElem?_eq_some_iff.mp ha).1
    obtain ⟨y3, y4, e⟩ := part_loop s0 s1 p a s (some (.t (.int (i : Int)))) (some (.t (.lst (t.parts.map Tm.ins)))) hp
    refine ⟨y3, y4, ?_⟩
    rw [List.map_cons]
    have e1 : f_is_number [.int (i : Int), .int 0, .int ((t.parts.length : Int) - 1)] = .val (.bl true) := by
      rw [number_int, decide_eq_true (by omega), decide_eq_true (by omega)]; rfl
    have e2 : ∀ M, gIx (.t (.lst (t.parts.map Tm.ins))) (.t (.int (i : Int))) M = .ok (.t a.ins) M := fun M => o_ixL (atI_nat (by rw [List.getElem?_map, ha]; rfl))
    unfold PB at e ⊢
    push_cast [i_parts, parts_ok, List.length_map, e1, e2, e]
theorem part_at_ok (p : List Nat) (t s : Tm) (h : t.sub p = some s) : f_Term_part_at [t.ins, pathT p] = .val s.ins := by
  obtain ⟨y3, y4, e⟩ := part_loop (some (.t t.ins)) (some (.t (pathT p))) p t s none none h
  show ansP (F_Term_part_at [some (.t t.ins), some (.t (pathT p)), none, none, none] []) = _
  unfold F_Term_part_at
  have e1 : ∀ M, gP (isiT (tabC "Term")) [.t (pathT p), .t (.ty "tuple")] M = .ok (.t (.bl true)) M := fun M => isi_ty (k := "tuple") (n := "tuple") (by decide) (by decide) rfl
  have e2 : ∀ M, iTp (.t (pathT p)) M = .ok (p.map fun (i : Nat) => T.int (i : Int)) M := fun M => rfl
  unfold PB at e
  push_cast [e1, e2, e]
  rfl
end BmTm


namespace K01
open PySem L2 Bm BmLaw
def bits (i : Nat) : T := .lst ((List.range 21).map fun k => T.bl (decide (k = i)))
theorem seq_nx {A B : FS} {sl sl1 : Sl} {M M1 : List MO} (h : A sl M = .nx sl1 M1) : sSeq A B sl M = B sl1 M1 := by
  unfold sSeq; rw [h]
theorem turn_of {A S KL : FS} {sl sl1 : Sl} {M : List MO} (h1 : A sl M = .nx sl1 M) (h2 : S sl1 M = .nx sl1 M) (h3 : KL sl1 M = .nx sl1 M) : sSeq A (sSeq S KL) sl M = .nx sl1 M := by
  rw [seq_nx h1, seq_nx h2, h3]
theorem turn_of2 {S KL : FS} {sl : Sl} {M : List MO} (h2 : S sl M = .nx sl M) (h3 : KL sl M = .nx sl M) : sSeq S KL sl M = .nx sl M := by
  rw [seq_nx h2, h3]
theorem loop_nx {G : GG} {B : FS} {t : T} {ts : List T} {sl sl1 sl2 : Sl} {M : List MO} (h : G (.t t) sl M = .nx sl1 M) (h2 : B sl1 M = .nx sl2 M) : loopF G B (t :: ts) sl M = loopF G B ts sl2 M := by
  rw [loopF, h]; dsimp only; rw [h2]
theorem same_step {X Y : FE} {x : T} {R : FS} {sl : Sl} {M : List MO} (hx : X sl M = .ok (.t x) M) (hy : Y sl M = .ok (.t x) M) (hs : f_law_same 12 [x, x] = .val (.bl true)) : sIf (bNot (eB (eCall 2 (f_law_same 12) (aCons X (aCons Y aNil))))) R sSkip sl M = .nx sl M := by
  push_cast [hx, hy, hs]
theorem same_step2 {X Y : FE} {x : T} {R : FS} {Q : Fn Bool} {sl : Sl} {M : List MO} (hx : X sl M = .ok (.t x) M) (hy : Y sl M = .ok (.t x) M) (hs : f_law_same 12 [x, x] = .val (.bl true)) (hq : Q sl M = .ok false M) : sIf (bOr (bNot (eB (eCall 2 (f_law_same 12) (aCons X (aCons Y aNil))))) Q) R sSkip sl M = .nx sl M := by
  push_cast [hx, hy, hs, hq]

theorem same_ok {c : Str} (due : List T) (h : due.all (okT 10) = true) (hl : due.length < 16777216 := by simp) : f_law_same 12 [.lst [.str c, .tup due], .lst [.str c, .tup due]] = .val (.bl true) :=
  same_refl 12 _ (by
    show (true && (true && ((decide (due.length < 16777216) && due.all (okT 10)) && true))) = true
    rw [h, decide_eq_true hl]; rfl)
theorem same_ok2 {c : Str} {a : T} (h : okT 11 a = true) : f_law_same 12 [.lst [.str c, a], .lst [.str c, a]] = .val (.bl true) :=
  same_refl 12 _ (by
    show (true && (true && (okT 11 a && true))) = true
    rw [h]; rfl)

def rows (a b : T) : List T := [.tup [.exn "InvalidName" ["code", "value"] [.str "InvalidName", a], .str "InvalidName", .tup [a]], .tup [.exn "InvalidDeclaration" ["code", "at"] [.str "InvalidDeclaration", a], .str "InvalidDeclaration", .tup [a]], .tup [.exn "DuplicateName" ["code", "name"] [.str "DuplicateName", b], .str "DuplicateName", .tup [b]], .tup [.exn "Unlike" ["code", "high", "low"] [.str "Unlike", b, a], .str "Unlike", .tup [a, b]], .tup [.exn "Ring" ["code", "high", "low"] [.str "Ring", b, a], .str "Ring", .tup [a, b]], .tup [.exn "WrongSort" ["code", "path"] [.str "WrongSort", a], .str "WrongSort", .tup [a]], .tup [.exn "UnlikeSorts" ["code"] [.str "UnlikeSorts"], .str "UnlikeSorts", .tup []], .tup [.exn "InvalidText" ["code", "value"] [.str "InvalidText", b], .str "InvalidText", .tup [b]], .tup [.exn "InvalidBoard" ["code", "name"] [.str "InvalidBoard", a], .str "InvalidBoard", .tup [a]], .tup [.exn "TooDeep" ["code", "most"] [.str "TooDeep", a], .str "TooDeep", .tup [a]], .tup [.exn "TooMany" ["code", "most"] [.str "TooMany", b], .str "TooMany", .tup [b]], .tup [.exn "NotBelow" ["code"] [.str "NotBelow"], .str "NotBelow", .tup []], .tup [.exn "InUse" ["code", "name"] [.str "InUse", b], .str "InUse", .tup [b]], .tup [.exn "NotTold" ["code", "high", "low"] [.str "NotTold", a, b], .str "NotTold", .tup [b, a]], .tup [.exn "Full" ["code", "limit"] [.str "Full", a], .str "Full", .tup [a]], .tup [.exn "InvalidLimit" ["code", "value"] [.str "InvalidLimit", a], .str "InvalidLimit", .tup [a]], .tup [.exn "InvalidCommand" ["code", "at"] [.str "InvalidCommand", b], .str "InvalidCommand", .tup [b]], .tup [.exn "InvalidPage" ["code", "line"] [.str "InvalidPage", a], .str "InvalidPage", .tup [a]]]
theorem errs (a b : T) : f_law_errors_of [a, b] = .val (.lst (rows a b)) := by kernel_rfl
def B1 : FS := (sSeq (sAsg (e2 gIx (eVar 5) (eVar 6)) (gTp 3 (gsCons (gNm 7) (gsCons (gNm 8) (gsCons (gNm 9) gsNil)))))
  (sSeq (sIf (bNot (eB (eCall 2 (f_law_same 12) (aCons (eLst (aCons (eXf xl_code "code" (eVar 7)) (aCons (eCall 1 f_law_field (aCons (eVar 7) aNil)) aNil))) (aCons (eLst (aCons (eVar 8) (aCons (eVar 9) aNil))) aNil))))) (sRet (eC (.bl false))) sSkip)
  (sSeq (sIf (eB (e2 (g2 neT) (eCall 1 f_law_kinds (aCons (eVar 7) aNil)) (eLc (iR1 (aCons (eC (.int 21)) aNil)) [11] (gNm 11) bYes (e2 (g2 eqT) (eVar 11) (eVar 6))))) (sRet (eC (.bl false))) sSkip)
  (sIf (bOr (bNot (eB (eCB (gP (isxT (xtab xds xcs))) (aCons (eVar 7) (aCons (eC (.cls "MapError")) aNil))))) (bOr (bNot (eB (eCB (gP (isxT (xtab xds xcs))) (aCons (eVar 7) (aCons (eC (.ty "ValueError")) aNil))))) (bOr (eB (eCB (gP (isxT (xtab xds xcs))) (aCons (eVar 7) (aCons (eC (.cls "Missing")) aNil)))) (eB (eCB (gP (isxT (xtab xds xcs))) (aCons (eVar 7) (aCons (eC (.ty "LookupError")) aNil))))))) (sRet (eC (.bl false))) sSkip))))
def B2 : FS := (sSeq (sIf (bOr (bNot (eB (eCall 2 (f_law_same 12) (aCons (eLst (aCons (eXf xl_code "code" (eVar 7)) (aCons (eXf xl_name "name" (eVar 7)) aNil))) (aCons (eLst (aCons (eVar 8) (aCons (eVar 3) aNil))) aNil))))) (eB (e2 (g2 neT) (eCall 1 f_law_kinds (aCons (eVar 7) aNil)) (eLc (iR1 (aCons (eC (.int 21)) aNil)) [11] (gNm 11) bYes (e2 (g2 eqT) (eVar 11) (eVar 6)))))) (sRet (eC (.bl false))) sSkip)
  (sIf (bOr (bNot (eB (eCB (gP (isxT (xtab xds xcs))) (aCons (eVar 7) (aCons (eC (.cls "Missing")) aNil))))) (bOr (bNot (eB (eCB (gP (isxT (xtab xds xcs))) (aCons (eVar 7) (aCons (eC (.ty "LookupError")) aNil))))) (bOr (eB (eCB (gP (isxT (xtab xds xcs))) (aCons (eVar 7) (aCons (eC (.cls "MapError")) aNil)))) (eB (eCB (gP (isxT (xtab xds xcs))) (aCons (eVar 7) (aCons (eC (.ty "ValueError")) aNil))))))) (sRet (eC (.bl false))) sSkip))
theorem t1_0 (a b : T) (ha : okT 10 a = true) (hb : okT 10 b = true) (x0 x1 x2 x6 x7 x8 x9 x10 x11 : Option D) (M : List MO) (ts : List T) : loopF (gNm 6) B1 (.int 0 :: ts) [x0, x1, x2, some (.t a), some (.t b), some (.t (.lst (rows a b))), x6, x7, x8, x9, x10, x11] M = loopF (gNm 6) B1 ts [x0, x1, x2, some (.t a), some (.t b), some (.t (.lst (rows a b))), some (.t (.int 0)), some (.t (.exn "InvalidName" ["code", "value"] [.str "InvalidName", a])), some (.t (.str "InvalidName")), some (.t (.tup [a])), x10, x11] M :=
  loop_nx (sl1 := [x0, x1, x2, some (.t a), some (.t b), some (.t (.lst (rows a b))), some (.t (.int 0)), x7, x8, x9, x10, x11]) (sl2 := [x0, x1, x2, some (.t a), some (.t b), some (.t (.lst (rows a b))), some (.t (.int 0)), some (.t (.exn "InvalidName" ["code", "value"] [.str "InvalidName", a])), some (.t (.str "InvalidName")), some (.t (.tup [a])), x10, x11]) (by kernel_rfl) (turn_of (by kernel_rfl) (same_step (x := .lst [.str "InvalidName", .tup [a]]) (by kernel_rfl) (by kernel_rfl) (same_ok _ (by simp only [List.all_cons, List.all_nil, ha, hb, Bool.and_self]))) (by kernel_rfl))
theorem t1_1 (a b : T) (ha : okT 10 a = true) (hb : okT 10 b = true) (x0 x1 x2 x6 x7 x8 x9 x10 x11 : Option D) (M : List MO) (ts : List T) : loopF (gNm 6) B1 (.int 1 :: ts) [x0, x1, x2, some (.t a), some (.t b), some (.t (.lst (rows a b))), x6, x7, x8, x9, x10, x11] M = loopF (gNm 6) B1 ts [x0, x1, x2, some (.t a), some (.t b), some (.t (.lst (rows a b))), some (.t (.int 1)), some (.t (.exn "InvalidDeclaration" ["code", "at"] [.str "InvalidDeclaration", a])), some (.t (.str "InvalidDeclaration")), some (.t (.tup [a])), x10, x11] M :=
  loop_nx (sl1 := [x0, x1, x2, some (.t a), some (.t b), some (.t (.lst (rows a b))), some (.t (.int 1)), x7, x8, x9, x10, x11]) (sl2 := [x0, x1, x2, some (.t a), some (.t b), some (.t (.lst (rows a b))), some (.t (.int 1)), some (.t (.exn "InvalidDeclaration" ["code", "at"] [.str "InvalidDeclaration", a])), some (.t (.str "InvalidDeclaration")), some (.t (.tup [a])), x10, x11]) (by kernel_rfl) (turn_of (by kernel_rfl) (same_step (x := .lst [.str "InvalidDeclaration", .tup [a]]) (by kernel_rfl) (by kernel_rfl) (same_ok _ (by simp only [List.all_cons, List.all_nil, ha, hb, Bool.and_self]))) (by kernel_rfl))
theorem t1_2 (a b : T) (ha : okT 10 a = true) (hb : okT 10 b = true) (x0 x1 x2 x6 x7 x8 x9 x10 x11 : Option D) (M : List MO) (ts : List T) : loopF (gNm 6) B1 (.int 2 :: ts) [x0, x1, x2, some (.t a), some (.t b), some (.t (.lst (rows a b))), x6, x7, x8, x9, x10, x11] M = loopF (gNm 6) B1 ts [x0, x1, x2, some (.t a), some (.t b), some (.t (.lst (rows a b))), some (.t (.int 2)), some (.t (.exn "DuplicateName" ["code", "name"] [.str "DuplicateName", b])), some (.t (.str "DuplicateName")), some (.t (.tup [b])), x10, x11] M :=
  loop_nx (sl1 := [x0, x1, x2, some (.t a), some (.t b), some (.t (.lst (rows a b))), some (.t (.int 2)), x7, x8, x9, x10, x11]) (sl2 := [x0, x1, x2, some (.t a), some (.t b), some (.t (.lst (rows a b))), some (.t (.int 2)), some (.t (.exn "DuplicateName" ["code", "name"] [.str "DuplicateName", b])), some (.t (.str "DuplicateName")), some (.t (.tup [b])), x10, x11]) (by kernel_rfl) (turn_of (by kernel_rfl) (same_step (x := .lst [.str "DuplicateName", .tup [b]]) (by kernel_rfl) (by kernel_rfl) (same_ok _ (by simp only [List.all_cons, List.all_nil, ha, hb, Bool.and_self]))) (by kernel_rfl))
theorem t1_3 (a b : T) (ha : okT 10 a = true) (hb : okT 10 b = true) (x0 x1 x2 x6 x7 x8 x9 x10 x11 : Option D) (M : List MO) (ts : List T) : loopF (gNm 6) B1 (.int 3 :: ts) [x0, x1, x2, some (.t a), some (.t b), some (.t (.lst (rows a b))), x6, x7, x8, x9, x10, x11] M = loopF (gNm 6) B1 ts [x0, x1, x2, some (.t a), some (.t b), some (.t (.lst (rows a b))), some (.t (.int 3)), some (.t (.exn "Unlike" ["code", "high", "low"] [.str "Unlike", b, a])), some (.t (.str "Unlike")), some (.t (.tup [a, b])), x10, x11] M :=
  loop_nx (sl1 := [x0, x1, x2, some (.t a), some (.t b), some (.t (.lst (rows a b))), some (.t (.int 3)), x7, x8, x9, x10, x11]) (sl2 := [x0, x1, x2, some (.t a), some (.t b), some (.t (.lst (rows a b))), some (.t (.int 3)), some (.t (.exn "Unlike" ["code", "high", "low"] [.str "Unlike", b, a])), some (.t (.str "Unlike")), some (.t (.tup [a, b])), x10, x11]) (by kernel_rfl) (turn_of (by kernel_rfl) (same_step (x := .lst [.str "Unlike", .tup [a, b]]) (by kernel_rfl) (by kernel_rfl) (same_ok _ (by simp only [List.all_cons, List.all_nil, ha, hb, Bool.and_self]))) (by kernel_rfl))
theorem t1_4 (a b : T) (ha : okT 10 a = true) (hb : okT 10 b = true) (x0 x1 x2 x6 x7 x8 x9 x10 x11 : Option D) (M : List MO) (ts : List T) : loopF (gNm 6) B1 (.int 4 :: ts) [x0, x1, x2, some (.t a), some (.t b), some (.t (.lst (rows a b))), x6, x7, x8, x9, x10, x11] M = loopF (gNm 6) B1 ts [x0, x1, x2, some (.t a), some (.t b), some (.t (.lst (rows a b))), some (.t (.int 4)), some (.t (.exn "Ring" ["code", "high", "low"] [.str "Ring", b, a])), some (.t (.str "Ring")), some (.t (.tup [a, b])), x10, x11] M :=
  loop_nx (sl1 := [x0, x1, x2, some (.t a), some (.t b), some (.t (.lst (rows a b))), some (.t (.int 4)), x7, x8, x9, x10, x11]) (sl2 := [x0, x1, x2, some (.t a), some (.t b), some (.t (.lst (rows a b))), some (.t (.int 4)), some (.t (.exn "Ring" ["code", "high", "low"] [.str "Ring", b, a])), some (.t (.str "Ring")), some (.t (.tup [a, b])), x10, x11]) (by kernel_rfl) (turn_of (by kernel_rfl) (same_step (x := .lst [.str "Ring", .tup [a, b]]) (by kernel_rfl) (by kernel_rfl) (same_ok _ (by simp only [List.all_cons, List.all_nil, ha, hb, Bool.and_self]))) (by kernel_rfl))
theorem t1_5 (a b : T) (ha : okT 10 a = true) (hb : okT 10 b = true) (x0 x1 x2 x6 x7 x8 x9 x10 x11 : Option D) (M : List MO) (ts : List T) : loopF (gNm 6) B1 (.int 5 :: ts) [x0, x1, x2, some (.t a), some (.t b), some (.t (.lst (rows a b))), x6, x7, x8, x9, x10, x11] M = loopF (gNm 6) B1 ts [x0, x1, x2, some (.t a), some (.t b), some (.t (.lst (rows a b))), some (.t (.int 5)), some (.t (.exn "WrongSort" ["code", "path"] [.str "WrongSort", a])), some (.t (.str "WrongSort")), some (.t (.tup [a])), x10, x11] M :=
  loop_nx (sl1 := [x0, x1, x2, some (.t a), some (.t b), some (.t (.lst (rows a b))), some (.t (.int 5)), x7, x8, x9, x10, x11]) (sl2 := [x0, x1, x2, some (.t a), some (.t b), some (.t (.lst (rows a b))), some (.t (.int 5)), some (.t (.exn "WrongSort" ["code", "path"] [.str "WrongSort", a])), some (.t (.str "WrongSort")), some (.t (.tup [a])), x10, x11]) (by kernel_rfl) (turn_of (by kernel_rfl) (same_step (x := .lst [.str "WrongSort", .tup [a]]) (by kernel_rfl) (by kernel_rfl) (same_ok _ (by simp only [List.all_cons, List.all_nil, ha, hb, Bool.and_self]))) (by kernel_rfl))
theorem t1_6 (a b : T) (ha : okT 10 a = true) (hb : okT 10 b = true) (x0 x1 x2 x6 x7 x8 x9 x10 x11 : Option D) (M : List MO) (ts : List T) : loopF (gNm 6) B1 (.int 6 :: ts) [x0, x1, x2, some (.t a), some (.t b), some (.t (.lst (rows a b))), x6, x7, x8, x9, x10, x11] M = loopF (gNm 6) B1 ts [x0, x1, x2, some (.t a), some (.t b), some (.t (.lst (rows a b))), some (.t (.int 6)), some (.t (.exn "UnlikeSorts" ["code"] [.str "UnlikeSorts"])), some (.t (.str "UnlikeSorts")), some (.t (.tup [])), x10, x11] M :=
  loop_nx (sl1 := [x0, x1, x2, some (.t a), some (.t b), some (.t (.lst (rows a b))), some (.t (.int 6)), x7, x8, x9, x10, x11]) (sl2 := [x0, x1, x2, some (.t a), some (.t b), some (.t (.lst (rows a b))), some (.t (.int 6)), some (.t (.exn "UnlikeSorts" ["code"] [.str "UnlikeSorts"])), some (.t (.str "UnlikeSorts")), some (.t (.tup [])), x10, x11]) (by kernel_rfl) (turn_of (by kernel_rfl) (same_step (x := .lst [.str "UnlikeSorts", .tup []]) (by kernel_rfl) (by kernel_rfl) (same_ok _ (by simp only [List.all_cons, List.all_nil, ha, hb, Bool.and_self]))) (by kernel_rfl))
theorem t1_7 (a b : T) (ha : okT 10 a = true) (hb : okT 10 b = true) (x0 x1 x2 x6 x7 x8 x9 x10 x11 : Option D) (M : List MO) (ts : List T) : loopF (gNm 6) B1 (.int 7 :: ts) [x0, x1, x2, some (.t a), some (.t b), some (.t (.lst (rows a b))), x6, x7, x8, x9, x10, x11] M = loopF (gNm 6) B1 ts [x0, x1, x2, some (.t a), some (.t b), some (.t (.lst (rows a b))), some (.t (.int 7)), some (.t (.exn "InvalidText" ["code", "value"] [.str "InvalidText", b])), some (.t (.str "InvalidText")), some (.t (.tup [b])), x10, x11] M :=
  loop_nx (sl1 := [x0, x1, x2, some (.t a), some (.t b), some (.t (.lst (rows a b))), some (.t (.int 7)), x7, x8, x9, x10, x11]) (sl2 := [x0, x1, x2, some (.t a), some (.t b), some (.t (.lst (rows a b))), some (.t (.int 7)), some (.t (.exn "InvalidText" ["code", "value"] [.str "InvalidText", b])), some (.t (.str "InvalidText")), some (.t (.tup [b])), x10, x11]) (by kernel_rfl) (turn_of (by kernel_rfl) (same_step (x := .lst [.str "InvalidText", .tup [b]]) (by kernel_rfl) (by kernel_rfl) (same_ok _ (by simp only [List.all_cons, List.all_nil, ha, hb, Bool.and_self]))) (by kernel_rfl))
theorem t1_8 (a b : T) (ha : okT 10 a = true) (hb : okT 10 b = true) (x0 x1 x2 x6 x7 x8 x9 x10 x11 : Option D) (M : List MO) (ts : List T) : loopF (gNm 6) B1 (.int 8 :: ts) [x0, x1, x2, some (.t a), some (.t b), some (.t (.lst (rows a b))), x6, x7, x8, x9, x10, x11] M = loopF (gNm 6) B1 ts [x0, x1, x2, some (.t a), some (.t b), some (.t (.lst (rows a b))), some (.t (.int 8)), some (.t (.exn "InvalidBoard" ["code", "name"] [.str "InvalidBoard", a])), some (.t (.str "InvalidBoard")), some (.t (.tup [a])), x10, x11] M :=
  loop_nx (sl1 := [x0, x1, x2, some (.t a), some (.t b), some (.t (.lst (rows a b))), some (.t (.int 8)), x7, x8, x9, x10, x11]) (sl2 := [x0, x1, x2, some (.t a), some (.t b), some (.t (.lst (rows a b))), some (.t (.int 8)), some (.t (.exn "InvalidBoard" ["code", "name"] [.str "InvalidBoard", a])), some (.t (.str "InvalidBoard")), some (.t (.tup [a])), x10, x11]) (by kernel_rfl) (turn_of (by kernel_rfl) (same_step (x := .lst [.str "InvalidBoard", .tup [a]]) (by kernel_rfl) (by kernel_rfl) (same_ok _ (by simp only [List.all_cons, List.all_nil, ha, hb, Bool.and_self]))) (by kernel_rfl))
theorem t1_9 (a b : T) (ha : okT 10 a = true) (hb : okT 10 b = true) (x0 x1 x2 x6 x7 x8 x9 x10 x11 : Option D) (M : List MO) (ts : List T) : loopF (gNm 6) B1 (.int 9 :: ts) [x0, x1, x2, some (.t a), some (.t b), some (.t (.lst (rows a b))), x6, x7, x8, x9, x10, x11] M = loopF (gNm 6) B1 ts [x0, x1, x2, some (.t a), some (.t b), some (.t (.lst (rows a b))), some (.t (.int 9)), some (.t (.exn "TooDeep" ["code", "most"] [.str "TooDeep", a])), some (.t (.str "TooDeep")), some (.t (.tup [a])), x10, x11] M :=
  loop_nx (sl1 := [x0, x1, x2, some (.t a), some (.t b), some (.t (.lst (rows a b))), some (.t (.int 9)), x7, x8, x9, x10, x11]) (sl2 := [x0, x1, x2, some (.t a), some (.t b), some (.t (.lst (rows a b))), some (.t (.int 9)), some (.t (.exn "TooDeep" ["code", "most"] [.str "TooDeep", a])), some (.t (.str "TooDeep")), some (.t (.tup [a])), x10, x11]) (by kernel_rfl) (turn_of (by kernel_rfl) (same_step (x := .lst [.str "TooDeep", .tup [a]]) (by kernel_rfl) (by kernel_rfl) (same_ok _ (by simp only [List.all_cons, List.all_nil, ha, hb, Bool.and_self]))) (by kernel_rfl))
theorem t1_10 (a b : T) (ha : okT 10 a = true) (hb : okT 10 b = true) (x0 x1 x2 x6 x7 x8 x9 x10 x11 : Option D) (M : List MO) (ts : List T) : loopF (gNm 6) B1 (.int 10 :: ts) [x0, x1, x2, some (.t a), some (.t b), some (.t (.lst (rows a b))), x6, x7, x8, x9, x10, x11] M = loopF (gNm 6) B1 ts [x0, x1, x2, some (.t a), some (.t b), some (.t (.lst (rows a b))), some (.t (.int 10)), some (.t (.exn "TooMany" ["code", "most"] [.str "TooMany", b])), some (.t (.str "TooMany")), some (.t (.tup [b])), x10, x11] M :=
  loop_nx (sl1 := [x0, x1, x2, some (.t a), some (.t b), some (.t (.lst (rows a b))), some (.t (.int 10)), x7, x8, x9, x10, x11]) (sl2 := [x0, x1, x2, some (.t a), some (.t b), some (.t (.lst (rows a b))), some (.t (.int 10)), some (.t (.exn "TooMany" ["code", "most"] [.str "TooMany", b])), some (.t (.str "TooMany")), some (.t (.tup [b])), x10, x11]) (by kernel_rfl) (turn_of (by kernel_rfl) (same_step (x := .lst [.str "TooMany", .tup [b]]) (by kernel_rfl) (by kernel_rfl) (same_ok _ (by simp only [List.all_cons, List.all_nil, ha, hb, Bool.and_self]))) (by kernel_rfl))
theorem t1_11 (a b : T) (ha : okT 10 a = true) (hb : okT 10 b = true) (x0 x1 x2 x6 x7 x8 x9 x10 x11 : Option D) (M : List MO) (ts : List T) : loopF (gNm 6) B1 (.int 11 :: ts) [x0, x1, x2, some (.t a), some (.t b), some (.t (.lst (rows a b))), x6, x7, x8, x9, x10, x11] M = loopF (gNm 6) B1 ts [x0, x1, x2, some (.t a), some (.t b), some (.t (.lst (rows a b))), some (.t (.int 11)), some (.t (.exn "NotBelow" ["code"] [.str "NotBelow"])), some (.t (.str "NotBelow")), some (.t (.tup [])), x10, x11] M :=
  loop_nx (sl1 := [x0, x1, x2, some (.t a), some (.t b), some (.t (.lst (rows a b))), some (.t (.int 11)), x7, x8, x9, x10, x11]) (sl2 := [x0, x1, x2, some (.t a), some (.t b), some (.t (.lst (rows a b))), some (.t (.int 11)), some (.t (.exn "NotBelow" ["code"] [.str "NotBelow"])), some (.t (.str "NotBelow")), some (.t (.tup [])), x10, x11]) (by kernel_rfl) (turn_of (by kernel_rfl) (same_step (x := .lst [.str "NotBelow", .tup []]) (by kernel_rfl) (by kernel_rfl) (same_ok _ (by simp only [List.all_cons, List.all_nil, ha, hb, Bool.and_self]))) (by kernel_rfl))
theorem t1_12 (a b : T) (ha : okT 10 a = true) (hb : okT 10 b = true) (x0 x1 x2 x6 x7 x8 x9 x10 x11 : Option D) (M : List MO) (ts : List T) : loopF (gNm 6) B1 (.int 12 :: ts) [x0, x1, x2, some (.t a), some (.t b), some (.t (.lst (rows a b))), x6, x7, x8, x9, x10, x11] M = loopF (gNm 6) B1 ts [x0, x1, x2, some (.t a), some (.t b), some (.t (.lst (rows a b))), some (.t (.int 12)), some (.t (.exn "InUse" ["code", "name"] [.str "InUse", b])), some (.t (.str "InUse")), some (.t (.tup [b])), x10, x11] M :=
  loop_nx (sl1 := [x0, x1, x2, some (.t a), some (.t b), some (.t (.lst (rows a b))), some (.t (.int 12)), x7, x8, x9, x10, x11]) (sl2 := [x0, x1, x2, some (.t a), some (.t b), some (.t (.lst (rows a b))), some (.t (.int 12)), some (.t (.exn "InUse" ["code", "name"] [.str "InUse", b])), some (.t (.str "InUse")), some (.t (.tup [b])), x10, x11]) (by kernel_rfl) (turn_of (by kernel_rfl) (same_step (x := .lst [.str "InUse", .tup [b]]) (by kernel_rfl) (by kernel_rfl) (same_ok _ (by simp only [List.all_cons, List.all_nil, ha, hb, Bool.and_self]))) (by kernel_rfl))
theorem t1_13 (a b : T) (ha : okT 10 a = true) (hb : okT 10 b = true) (x0 x1 x2 x6 x7 x8 x9 x10 x11 : Option D) (M : List MO) (ts : List T) : loopF (gNm 6) B1 (.int 13 :: ts) [x0, x1, x2, some (.t a), some (.t b), some (.t (.lst (rows a b))), x6, x7, x8, x9, x10, x11] M = loopF (gNm 6) B1 ts [x0, x1, x2, some (.t a), some (.t b), some (.t (.lst (rows a b))), some (.t (.int 13)), some (.t (.exn "NotTold" ["code", "high", "low"] [.str "NotTold", a, b])), some (.t (.str "NotTold")), some (.t (.tup [b, a])), x10, x11] M :=
  loop_nx (sl1 := [x0, x1, x2, some (.t a), some (.t b), some (.t (.lst (rows a b))), some (.t (.int 13)), x7, x8, x9, x10, x11]) (sl2 := [x0, x1, x2, some (.t a), some (.t b), some (.t (.lst (rows a b))), some (.t (.int 13)), some (.t (.exn "NotTold" ["code", "high", "low"] [.str "NotTold", a, b])), some (.t (.str "NotTold")), some (.t (.tup [b, a])), x10, x11]) (by kernel_rfl) (turn_of (by kernel_rfl) (same_step (x := .lst [.str "NotTold", .tup [b, a]]) (by kernel_rfl) (by kernel_rfl) (same_ok _ (by simp only [List.all_cons, List.all_nil, ha, hb, Bool.and_self]))) (by kernel_rfl))
theorem t1_14 (a b : T) (ha : okT 10 a = true) (hb : okT 10 b = true) (x0 x1 x2 x6 x7 x8 x9 x10 x11 : Option D) (M : List MO) (ts : List T) : loopF (gNm 6) B1 (.int 14 :: ts) [x0, x1, x2, some (.t a), some (.t b), some (.t (.lst (rows a b))), x6, x7, x8, x9, x10, x11] M = loopF (gNm 6) B1 ts [x0, x1, x2, some (.t a), some (.t b), some (.t (.lst (rows a b))), some (.t (.int 14)), some (.t (.exn "Full" ["code", "limit"] [.str "Full", a])), some (.t (.str "Full")), some (.t (.tup [a])), x10, x11] M :=
  loop_nx (sl1 := [x0, x1, x2, some (.t a), some (.t b), some (.t (.lst (rows a b))), some (.t (.int 14)), x7, x8, x9, x10, x11]) (sl2 := [x0, x1, x2, some (.t a), some (.t b), some (.t (.lst (rows a b))), some (.t (.int 14)), some (.t (.exn "Full" ["code", "limit"] [.str "Full", a])), some (.t (.str "Full")), some (.t (.tup [a])), x10, x11]) (by kernel_rfl) (turn_of (by kernel_rfl) (same_step (x := .lst [.str "Full", .tup [a]]) (by kernel_rfl) (by kernel_rfl) (same_ok _ (by simp only [List.all_cons, List.all_nil, ha, hb, Bool.and_self]))) (by kernel_rfl))
theorem t1_15 (a b : T) (ha : okT 10 a = true) (hb : okT 10 b = true) (x0 x1 x2 x6 x7 x8 x9 x10 x11 : Option D) (M : List MO) (ts : List T) : loopF (gNm 6) B1 (.int 15 :: ts) [x0, x1, x2, some (.t a), some (.t b), some (.t (.lst (rows a b))), x6, x7, x8, x9, x10, x11] M = loopF (gNm 6) B1 ts [x0, x1, x2, some (.t a), some (.t b), some (.t (.lst (rows a b))), some (.t (.int 15)), some (.t (.exn "InvalidLimit" ["code", "value"] [.str "InvalidLimit", a])), some (.t (.str "InvalidLimit")), some (.t (.tup [a])), x10, x11] M :=
  loop_nx (sl1 := [x0, x1, x2, some (.t a), some (.t b), some (.t (.lst (rows a b))), some (.t (.int 15)), x7, x8, x9, x10, x11]) (sl2 := [x0, x1, x2, some (.t a), some (.t b), some (.t (.lst (rows a b))), some (.t (.int 15)), some (.t (.exn "InvalidLimit" ["code", "value"] [.str "InvalidLimit", a])), some (.t (.str "InvalidLimit")), some (.t (.tup [a])), x10, x11]) (by kernel_rfl) (turn_of (by kernel_rfl) (same_step (x := .lst [.str "InvalidLimit", .tup [a]]) (by kernel_rfl) (by kernel_rfl) (same_ok _ (by simp only [List.all_cons, List.all_nil, ha, hb, Bool.and_self]))) (by kernel_rfl))
theorem t1_16 (a b : T) (ha : okT 10 a = true) (hb : okT 10 b = true) (x0 x1 x2 x6 x7 x8 x9 x10 x11 : Option D) (M : List MO) (ts : List T) : loopF (gNm 6) B1 (.int 16 :: ts) [x0, x1, x2, some (.t a), some (.t b), some (.t (.lst (rows a b))), x6, x7, x8, x9, x10, x11] M = loopF (gNm 6) B1 ts [x0, x1, x2, some (.t a), some (.t b), some (.t (.lst (rows a b))), some (.t (.int 16)), some (.t (.exn "InvalidCommand" ["code", "at"] [.str "InvalidCommand", b])), some (.t (.str "InvalidCommand")), some (.t (.tup [b])), x10, x11] M :=
  loop_nx (sl1 := [x0, x1, x2, some (.t a), some (.t b), some (.t (.lst (rows a b))), some (.t (.int 16)), x7, x8, x9, x10, x11]) (sl2 := [x0, x1, x2, some (.t a), some (.t b), some (.t (.lst (rows a b))), some (.t (.int 16)), some (.t (.exn "InvalidCommand" ["code", "at"] [.str "InvalidCommand", b])), some (.t (.str "InvalidCommand")), some (.t (.tup [b])), x10, x11]) (by kernel_rfl) (turn_of (by kernel_rfl) (same_step (x := .lst [.str "InvalidCommand", .tup [b]]) (by kernel_rfl) (by kernel_rfl) (same_ok _ (by simp only [List.all_cons, List.all_nil, ha, hb, Bool.and_self]))) (by kernel_rfl))
theorem t1_17 (a b : T) (ha : okT 10 a = true) (hb : okT 10 b = true) (x0 x1 x2 x6 x7 x8 x9 x10 x11 : Option D) (M : List MO) (ts : List T) : loopF (gNm 6) B1 (.int 17 :: ts) [x0, x1, x2, some (.t a), some (.t b), some (.t (.lst (rows a b))), x6, x7, x8, x9, x10, x11] M = loopF (gNm 6) B1 ts [x0, x1, x2, some (.t a), some (.t b), some (.t (.lst (rows a b))), some (.t (.int 17)), some (.t (.exn "InvalidPage" ["code", "line"] [.str "InvalidPage", a])), some (.t (.str "InvalidPage")), some (.t (.tup [a])), x10, x11] M :=
  loop_nx (sl1 := [x0, x1, x2, some (.t a), some (.t b), some (.t (.lst (rows a b))), some (.t (.int 17)), x7, x8, x9, x10, x11]) (sl2 := [x0, x1, x2, some (.t a), some (.t b), some (.t (.lst (rows a b))), some (.t (.int 17)), some (.t (.exn "InvalidPage" ["code", "line"] [.str "InvalidPage", a])), some (.t (.str "InvalidPage")), some (.t (.tup [a])), x10, x11]) (by kernel_rfl) (turn_of (by kernel_rfl) (same_step (x := .lst [.str "InvalidPage", .tup [a]]) (by kernel_rfl) (by kernel_rfl) (same_ok _ (by simp only [List.all_cons, List.all_nil, ha, hb, Bool.and_self]))) (by kernel_rfl))
theorem t2_18 (a : T) (ha : okT 11 a = true) (x0 x1 x2 x4 x5 x6 x7 x8 x9 x10 x11 : Option D) (M : List MO) (ts : List T) : loopF (gTp 3 (gsCons (gNm 7) (gsCons (gNm 8) (gsCons (gNm 6) gsNil)))) B2 (.tup [.exn "UnknownName" ["code", "name"] [.str "UnknownName", a], .str "UnknownName", .int 18] :: ts) [x0, x1, x2, some (.t a), x4, x5, x6, x7, x8, x9, x10, x11] M = loopF (gTp 3 (gsCons (gNm 7) (gsCons (gNm 8) (gsCons (gNm 6) gsNil)))) B2 ts [x0, x1, x2, some (.t a), x4, x5, some (.t (.int 18)), some (.t (.exn "UnknownName" ["code", "name"] [.str "UnknownName", a])), some (.t (.str "UnknownName")), x9, x10, x11] M :=
  loop_nx (sl1 := [x0, x1, x2, some (.t a), x4, x5, some (.t (.int 18)), some (.t (.exn "UnknownName" ["code", "name"] [.str "UnknownName", a])), some (.t (.str "UnknownName")), x9, x10, x11]) (sl2 := [x0, x1, x2, some (.t a), x4, x5, some (.t (.int 18)), some (.t (.exn "UnknownName" ["code", "name"] [.str "UnknownName", a])), some (.t (.str "UnknownName")), x9, x10, x11]) (by kernel_rfl) (turn_of2 (same_step2 (x := .lst [.str "UnknownName", a]) (by kernel_rfl) (by kernel_rfl) (same_ok2 ha) (by kernel_rfl)) (by kernel_rfl))
theorem t2_19 (a : T) (ha : okT 11 a = true) (x0 x1 x2 x4 x5 x6 x7 x8 x9 x10 x11 : Option D) (M : List MO) (ts : List T) : loopF (gTp 3 (gsCons (gNm 7) (gsCons (gNm 8) (gsCons (gNm 6) gsNil)))) B2 (.tup [.exn "UnknownClaim" ["code", "name"] [.str "UnknownClaim", a], .str "UnknownClaim", .int 19] :: ts) [x0, x1, x2, some (.t a), x4, x5, x6, x7, x8, x9, x10, x11] M = loopF (gTp 3 (gsCons (gNm 7) (gsCons (gNm 8) (gsCons (gNm 6) gsNil)))) B2 ts [x0, x1, x2, some (.t a), x4, x5, some (.t (.int 19)), some (.t (.exn "UnknownClaim" ["code", "name"] [.str "UnknownClaim", a])), some (.t (.str "UnknownClaim")), x9, x10, x11] M :=
  loop_nx (sl1 := [x0, x1, x2, some (.t a), x4, x5, some (.t (.int 19)), some (.t (.exn "UnknownClaim" ["code", "name"] [.str "UnknownClaim", a])), some (.t (.str "UnknownClaim")), x9, x10, x11]) (sl2 := [x0, x1, x2, some (.t a), x4, x5, some (.t (.int 19)), some (.t (.exn "UnknownClaim" ["code", "name"] [.str "UnknownClaim", a])), some (.t (.str "UnknownClaim")), x9, x10, x11]) (by kernel_rfl) (turn_of2 (same_step2 (x := .lst [.str "UnknownClaim", a]) (by kernel_rfl) (by kernel_rfl) (same_ok2 ha) (by kernel_rfl)) (by kernel_rfl))
theorem for_nx {I : Fn (List T)} {G : GG} {B : FS} {ts : List T} {sl sl2 : Sl} {M : List MO} (h : I sl M = .ok ts M) (h2 : loopF G B ts sl M = .nx sl2 M) : sFor I G B sl M = .nx sl2 M := by
  unfold sFor; rw [h]; exact h2
theorem law_true (ns : List Int) (hns : ns.length ≤ 63) : f_law [.scr ns] = .val (.bl true) := by
  have q0 : f_law_bag [.scr ns] = .fresh (bag0 ns).t := bag_eq ns hns
  obtain ⟨k, b1, hb1, hk, q1⟩ := BmTm.draw_ex (bag0_ok ns) 1000000000 (by decide) (by decide)
  have q1 : f_law_draw (bag0 ns).t [.int 1000000000] = .val (.int (k : Int)) b1.t := q1
  obtain ⟨vs, hvs⟩ : ∃ vs : List T, vs = [.non, .bl true, .bl false, .str "", .str "top", .str "x", .int 0, .int (-3), .int (1000000000000 + (k : Int)), .tup [], .tup [.str "item", .str "x"], .lst [], .lst [.int 1, .tup [.int 2]], .str "a b"] := ⟨_, rfl⟩
  have hlen : vs.length = 14 := by rw [hvs]; rfl
  obtain ⟨a, b2, hb2, ha, q2⟩ := BmTm.of_ex hb1 vs (by omega) (by omega)
  obtain ⟨b, b3, hb3, hb, q3⟩ := BmTm.of_ex hb2 vs (by omega) (by omega)
  have ka : ∀ t ∈ vs, okT 10 t = true ∧ okT 11 t = true := by
    intro t ht
    rw [hvs] at ht
    simp only [List.mem_cons, List.not_mem_nil, or_false] at ht
    rcases ht with rfl | rfl | rfl | rfl | rfl | rfl | rfl | rfl | rfl | rfl | rfl | rfl | rfl | rfl <;> exact ⟨rfl, rfl⟩
  obtain ⟨a10, a11⟩ := ka a ha
  obtain ⟨b10, b11⟩ := ka b hb
  have eF : F_law = (sSeq (sSet 1 (eCallM 1 f_law_bag (aCons (eVar 0) aNil)))
  (sSeq (sSet 2 (eLst (aCons (eC .non) (aCons (eC (.bl true)) (aCons (eC (.bl false)) (aCons (eC (.str "")) (aCons (eC (.str "top")) (aCons (eC (.str "x")) (aCons (eC (.int 0)) (aCons (eNeg (eC (.int 3))) (aCons (e2 gAdd (e2 (g2 powT) (eC (.int 10)) (eC (.int 12))) (eCallB 2 f_law_draw (aCons (eVar 1) (aCons (e2 (g2 powT) (eC (.int 10)) (eC (.int 9))) aNil)))) (aCons (eTup aNil) (aCons (eTup (aCons (eC (.str "item")) (aCons (eC (.str "x")) aNil))) (aCons (eLst aNil) (aCons (eLst (aCons (eC (.int 1)) (aCons (eTup (aCons (eC (.int 2)) aNil)) aNil))) (aCons (eC (.str "a b")) aNil))))))))))))))))
  (sSeq (sPar 3 4 (aCons (eCallB 2 f_law_of (aCons (eVar 1) (aCons (eVar 2) aNil))) (aCons (eCallB 2 f_law_of (aCons (eVar 1) (aCons (eVar 2) aNil))) aNil)))
  (sSeq (sSet 5 (eCall 2 f_law_errors_of (aCons (eVar 3) (aCons (eVar 4) aNil))))
  (sSeq (sFor (iR1 (aCons (eCB gLen (aCons (eVar 5) aNil)) aNil)) (gNm 6) B1)
  (sSeq (sFor (iL (eLst (aCons (eTup (aCons (eMkX "UnknownName" 1 fl_UnknownName [0] (aCons (eVar 3) aNil)) (aCons (eC (.str "UnknownName")) (aCons (eC (.int 18)) aNil)))) (aCons (eTup (aCons (eMkX "UnknownClaim" 1 fl_UnknownClaim [0] (aCons (eVar 3) aNil)) (aCons (eC (.str "UnknownClaim")) (aCons (eC (.int 19)) aNil)))) aNil)))) (gTp 3 (gsCons (gNm 7) (gsCons (gNm 8) (gsCons (gNm 6) gsNil)))) B2)
  (sSeq (sSet 10 (eMkX "NothingLeft" 0 fl_NothingLeft (List.range 0) aNil))
  (sSeq (sIf (bOr (eB (e2 (g2 neT) (eXf xl_code "code" (eVar 10)) (eC (.str "NothingLeft")))) (eB (e2 (g2 neT) (eCall 1 f_law_kinds (aCons (eVar 10) aNil)) (eLc (iR1 (aCons (eC (.int 21)) aNil)) [11] (gNm 11) bYes (e2 (g2 eqT) (eVar 11) (eC (.int 20))))))) (sRet (eC (.bl false))) sSkip)
  (sRet (eAnd (eCB (gP (isxT (xtab xds xcs))) (aCons (eVar 10) (aCons (eC (.ty "IndexError")) aNil))) (eAnd (eNot (eCB (gP (isxT (xtab xds xcs))) (aCons (eVar 10) (aCons (eC (.cls "MapError")) aNil)))) (eNot (eCB (gP (isxT (xtab xds xcs))) (aCons (eVar 10) (aCons (eC (.cls "Missing")) aNil))))))))))))))) := rfl
  have s0 : (sSet 1 (eCallM 1 f_law_bag (aCons (eVar 0) aNil))) [some (.t (.scr ns)), none, none, none, none, none, none, none, none, none, none, none] [] = .nx [some (.t (.scr ns)), some (.m 0), none, none, none, none, none, none, none, none, none, none] [.lst (bag0 ns).t] := by
    push_cast [q0]
  have s1 : (sSet 2 (eLst (aCons (eC .non) (aCons (eC (.bl true)) (aCons (eC (.bl false)) (aCons (eC (.str "")) (aCons (eC (.str "top")) (aCons (eC (.str "x")) (aCons (eC (.int 0)) (aCons (eNeg (eC (.int 3))) (aCons (e2 gAdd (e2 (g2 powT) (eC (.int 10)) (eC (.int 12))) (eCallB 2 f_law_draw (aCons (eVar 1) (aCons (e2 (g2 powT) (eC (.int 10)) (eC (.int 9))) aNil)))) (aCons (eTup aNil) (aCons (eTup (aCons (eC (.str "item")) (aCons (eC (.str "x")) aNil))) (aCons (eLst aNil) (aCons (eLst (aCons (eC (.int 1)) (aCons (eTup (aCons (eC (.int 2)) aNil)) aNil))) (aCons (eC (.str "a b")) aNil)))))))))))))))) [some (.t (.scr ns)), some (.m 0), none, none, none, none, none, none, none, none, none, none] [.lst (bag0 ns).t] = .nx [some (.t (.scr ns)), some (.m 0), some (.t (.lst vs)), none, none, none, none, none, none, none, none, none] [.lst b1.t] := by
    rw [hvs]
    have p1 : ∀ sl M, eNeg (eC (.int 3)) sl M = .ok (.t (.int (-3))) M := fun sl M => rfl
    have p2 : ∀ M, g2 powT (.t (.int 10)) (.t (.int 12)) M = .ok (.t (.int 1000000000000)) M := fun M => by kernel_rfl
    have p3 : ∀ M, g2 powT (.t (.int 10)) (.t (.int 9)) M = .ok (.t (.int 1000000000)) M := fun M => by kernel_rfl
    push_cast [q1, p1, p2, p3]
  have s2 : (sPar 3 4 (aCons (eCallB 2 f_law_of (aCons (eVar 1) (aCons (eVar 2) aNil))) (aCons (eCallB 2 f_law_of (aCons (eVar 1) (aCons (eVar 2) aNil))) aNil))) [some (.t (.scr ns)), some (.m 0), some (.t (.lst vs)), none, none, none, none, none, none, none, none, none] [.lst b1.t] = .nx [some (.t (.scr ns)), some (.m 0), some (.t (.lst vs)), some (.t a), some (.t b), none, none, none, none, none, none, none] [.lst b3.t] := by
    push_cast [q2, q3]
  have s3 : (sSet 5 (eCall 2 f_law_errors_of (aCons (eVar 3) (aCons (eVar 4) aNil)))) [some (.t (.scr ns)), some (.m 0), some (.t (.lst vs)), some (.t a), some (.t b), none, none, none, none, none, none, none] [.lst b3.t] = .nx [some (.t (.scr ns)), some (.m 0), some (.t (.lst vs)), some (.t a), some (.t b), some (.t (.lst (rows a b))), none, none, none, none, none, none] [.lst b3.t] := by
    push_cast [errs]
  have s4 : ∃ x6 x7 x8 x9, (sFor (iR1 (aCons (eCB gLen (aCons (eVar 5) aNil)) aNil)) (gNm 6) B1) [some (.t (.scr ns)), some (.m 0), some (.t (.lst vs)), some (.t a), some (.t b), some (.t (.lst (rows a b))), none, none, none, none, none, none] [.lst b3.t] = .nx [some (.t (.scr ns)), some (.m 0), some (.t (.lst vs)), some (.t a), some (.t b), some (.t (.lst (rows a b))), x6, x7, x8, x9, none, none] [.lst b3.t] :=
    ⟨_, _, _, _, for_nx (ts := [.int 0, .int 1, .int 2, .int 3, .int 4, .int 5, .int 6, .int 7, .int 8, .int 9, .int 10, .int 11, .int 12, .int 13, .int 14, .int 15, .int 16, .int 17]) (by kernel_rfl) (by
      rw [t1_0 a b a10 b10, t1_1 a b a10 b10, t1_2 a b a10 b10, t1_3 a b a10 b10, t1_4 a b a10 b10, t1_5 a b a10 b10, t1_6 a b a10 b10, t1_7 a b a10 b10, t1_8 a b a10 b10, t1_9 a b a10 b10, t1_10 a b a10 b10, t1_11 a b a10 b10, t1_12 a b a10 b10, t1_13 a b a10 b10, t1_14 a b a10 b10, t1_15 a b a10 b10, t1_16 a b a10 b10, t1_17 a b a10 b10]
      rfl)⟩
  obtain ⟨x6, x7, x8, x9, s4⟩ := s4
  have s5 : ∃ y6 y7 y8, (sFor (iL (eLst (aCons (eTup (aCons (eMkX "UnknownName" 1 fl_UnknownName [0] (aCons (eVar 3) aNil)) (aCons (eC (.str "UnknownName")) (aCons (eC (.int 18)) aNil)))) (aCons (eTup (aCons (eMkX "UnknownClaim" 1 fl_UnknownClaim [0] (aCons (eVar 3) aNil)) (aCons (eC (.str "UnknownClaim")) (aCons (eC (.int 19)) aNil)))) aNil)))) (gTp 3 (gsCons (gNm 7) (gsCons (gNm 8) (gsCons (gNm 6) gsNil)))) B2) [some (.t (.scr ns)), some (.m 0), some (.t (.lst vs)), some (.t a), some (.t b), some (.t (.lst (rows a b))), x6, x7, x8, x9, none, none] [.lst b3.t] = .nx [some (.t (.scr ns)), some (.m 0), some (.t (.lst vs)), some (.t a), some (.t b), some (.t (.lst (rows a b))), y6, y7, y8, x9, none, none] [.lst b3.t] :=
    ⟨_, _, _, for_nx (ts := [.tup [.exn "UnknownName" ["code", "name"] [.str "UnknownName", a], .str "UnknownName", .int 18], .tup [.exn "UnknownClaim" ["code", "name"] [.str "UnknownClaim", a], .str "UnknownClaim", .int 19]]) (by kernel_rfl) (by
      rw [t2_18 a a11, t2_19 a a11]
      rfl)⟩
  obtain ⟨y6, y7, y8, s5⟩ := s5
  have s6 : (sSet 10 (eMkX "NothingLeft" 0 fl_NothingLeft (List.range 0) aNil)) [some (.t (.scr ns)), some (.m 0), some (.t (.lst vs)), some (.t a), some (.t b), some (.t (.lst (rows a b))), y6, y7, y8, x9, none, none] [.lst b3.t] = .nx [some (.t (.scr ns)), some (.m 0), some (.t (.lst vs)), some (.t a), some (.t b), some (.t (.lst (rows a b))), y6, y7, y8, x9, some (.t (.exn "NothingLeft" ["code"] [.str "NothingLeft"])), none] [.lst b3.t] := by kernel_rfl
  have s7 : (sIf (bOr (eB (e2 (g2 neT) (eXf xl_code "code" (eVar 10)) (eC (.str "NothingLeft")))) (eB (e2 (g2 neT) (eCall 1 f_law_kinds (aCons (eVar 10) aNil)) (eLc (iR1 (aCons (eC (.int 21)) aNil)) [11] (gNm 11) bYes (e2 (g2 eqT) (eVar 11) (eC (.int 20))))))) (sRet (eC (.bl false))) sSkip) [some (.t (.scr ns)), some (.m 0), some (.t (.lst vs)), some (.t a), some (.t b), some (.t (.lst (rows a b))), y6, y7, y8, x9, some (.t (.exn "NothingLeft" ["code"] [.str "NothingLeft"])), none] [.lst b3.t] = .nx [some (.t (.scr ns)), some (.m 0), some (.t (.lst vs)), some (.t a), some (.t b), some (.t (.lst (rows a b))), y6, y7, y8, x9, some (.t (.exn "NothingLeft" ["code"] [.str "NothingLeft"])), none] [.lst b3.t] := by kernel_rfl
  have s8 : (sRet (eAnd (eCB (gP (isxT (xtab xds xcs))) (aCons (eVar 10) (aCons (eC (.ty "IndexError")) aNil))) (eAnd (eNot (eCB (gP (isxT (xtab xds xcs))) (aCons (eVar 10) (aCons (eC (.cls "MapError")) aNil)))) (eNot (eCB (gP (isxT (xtab xds xcs))) (aCons (eVar 10) (aCons (eC (.cls "Missing")) aNil))))))) [some (.t (.scr ns)), some (.m 0), some (.t (.lst vs)), some (.t a), some (.t b), some (.t (.lst (rows a b))), y6, y7, y8, x9, some (.t (.exn "NothingLeft" ["code"] [.str "NothingLeft"])), none] [.lst b3.t] = .rt (.t (.bl true)) [.lst b3.t] := by kernel_rfl
  have all : F_law [some (.t (.scr ns)), none, none, none, none, none, none, none, none, none, none, none] [] = .rt (.t (.bl true)) [.lst b3.t] := by
    rw [eF, seq_nx s0, seq_nx s1, seq_nx s2, seq_nx s3, seq_nx s4, seq_nx s5, seq_nx s6, seq_nx s7]
    exact s8
  show runP 12 F_law [.scr ns] = _
  unfold runP
  show ansP (F_law [some (.t (.scr ns)), none, none, none, none, none, none, none, none, none, none, none] []) = _
  rw [all]
  rfl
end K01
namespace K01
open PySem L2 PyProof.Rows Bm BmLaw BmT BmT2 BmT3 BmT4
def spL (K : PySem.W.Frag) : Sp := fun vs H Q _ => ∃ (a : Addr) (ns : List Int), vs = [.ref a] ∧ SqL K H a (ns.map V.int) ∧ ns.length ≤ 63 ∧ ∀ H2, Q (.bl true) H2
theorem all_mk {l : PySem.W.OpenLaw} {w : World} {K : PySem.W.Frag} {h : Heap} {mg : Str → Option Value} {fa C_MapError C_Missing C_InvalidName C_InvalidDeclaration C_DuplicateName C_Unlike C_Ring C_WrongSort C_UnlikeSorts C_InvalidText C_InvalidBoard C_TooDeep C_TooMany C_NotBelow C_InUse C_NotTold C_Full C_InvalidLimit C_InvalidCommand C_InvalidPage C_UnknownName C_UnknownClaim C_NothingLeft f1 f2 f3 f4 f5 f6 f7 f8 f9 f10 f11 f12 f13 f14 f15 f16 f17 f18 f19 f20 f21 f22 f23 f24 f25 f26 f27 f28 f29 : Addr} (X : K.In h) (G : h.Ns mainGlobals mg) (hfa : mg "law" = some (.ref fa))
    {od1 an1 od2 an2 od3 an3 od4 an4 od5 an5 od6 an6 od7 an7 od8 an8 od9 an9 od10 an10 od11 an11 od12 an12 od13 an13 od14 an14 od15 an15 od16 an16 od17 an17 od18 an18 od19 an19 od20 an20 od21 an21 od22 an22 od23 an23 od24 an24 od25 an25 od26 an26 od27 an27 od28 an28 od29 an29 : Option Addr} {sl1 sl2 sl3 sl4 sl5 sl6 sl7 sl8 sl9 sl10 sl11 sl12 sl13 sl14 sl15 sl16 sl17 sl18 sl19 sl20 sl21 sl22 sl23 sl24 sl25 sl26 sl27 sl28 sl29 : Array (Option Value)} {oc1 kV1 dc1 pm1 cd1 ct1 oc2 kV2 dc2 pm2 cd2 ct2 oc3 kV3 dc3 pm3 cd3 ct3 oc4 kV4 dc4 pm4 cd4 ct4 oc5 kV5 dc5 pm5 cd5 ct5 oc6 kV6 dc6 pm6 cd6 ct6 oc7 kV7 dc7 pm7 cd7 ct7 oc8 kV8 dc8 pm8 cd8 ct8 oc9 kV9 dc9 pm9 cd9 ct9 oc10 kV10 dc10 pm10 cd10 ct10 oc11 kV11 dc11 pm11 cd11 ct11 oc12 kV12 dc12 pm12 cd12 ct12 oc13 kV13 dc13 pm13 cd13 ct13 oc14 kV14 dc14 pm14 cd14 ct14 oc15 kV15 dc15 pm15 cd15 ct15 oc16 kV16 dc16 pm16 cd16 ct16 oc17 kV17 dc17 pm17 cd17 ct17 oc18 kV18 dc18 pm18 cd18 ct18 oc19 kV19 dc19 pm19 cd19 ct19 oc20 kV20 dc20 pm20 cd20 ct20 oc21 kV21 dc21 pm21 cd21 ct21 oc22 kV22 dc22 pm22 cd22 ct22 oc23 kV23 dc23 pm23 cd23 ct23 oc24 kV24 dc24 pm24 cd24 ct24 oc25 kV25 dc25 pm25 cd25 ct25 oc26 kV26 dc26 pm26 cd26 ct26 oc27 kV27 dc27 pm27 cd27 ct27 oc28 kV28 dc28 pm28 cd28 ct28 oc29 kV29 dc29 pm29 cd29 ct29 : Value} {cd_MapError cd_Missing cd_InvalidName cd_InvalidDeclaration cd_DuplicateName cd_Unlike cd_Ring cd_WrongSort cd_UnlikeSorts cd_InvalidText cd_InvalidBoard cd_TooDeep cd_TooMany cd_NotBelow cd_InUse cd_NotTold cd_Full cd_InvalidLimit cd_InvalidCommand cd_InvalidPage cd_UnknownName cd_UnknownClaim cd_NothingLeft : ClassData}
    (xs1 : PySem.W.specialIn K (.builtin "object.__class__") "__get__" = some (some (.builtin "getset_descriptor.__get__")))
    (xs2 : PySem.W.takesIn K (.builtin "object.__class__") = some true)
    (aC_MapError : PySem.W.nsIn K mainGlobals "MapError" = some (some (.ref C_MapError)))
    (xc_MapError : PySem.W.clsIn K C_MapError = some cd_MapError)
    (xt_MapError : PySem.W.typeIn K (.ref C_MapError) = some (.type "type"))
    (aC_Missing : PySem.W.nsIn K mainGlobals "Missing" = some (some (.ref C_Missing)))
    (xc_Missing : PySem.W.clsIn K C_Missing = some cd_Missing)
    (xt_Missing : PySem.W.typeIn K (.ref C_Missing) = some (.type "type"))
    (aC_InvalidName : PySem.W.nsIn K mainGlobals "InvalidName" = some (some (.ref C_InvalidName)))
    (xc_InvalidName : PySem.W.clsIn K C_InvalidName = some cd_InvalidName)
    (xt_InvalidName : PySem.W.typeIn K (.ref C_InvalidName) = some (.type "type"))
    (aC_InvalidDeclaration : PySem.W.nsIn K mainGlobals "InvalidDeclaration" = some (some (.ref C_InvalidDeclaration)))
    (xc_InvalidDeclaration : PySem.W.clsIn K C_InvalidDeclaration = some cd_InvalidDeclaration)
    (xt_InvalidDeclaration : PySem.W.typeIn K (.ref C_InvalidDeclaration) = some (.type "type"))
    (aC_DuplicateName : PySem.W.nsIn K mainGlobals "DuplicateName" = some (some (.ref C_DuplicateName)))
    (xc_DuplicateName : PySem.W.clsIn K C_DuplicateName = some cd_DuplicateName)
    (xt_DuplicateName : PySem.W.typeIn K (.ref C_DuplicateName) = some (.type "type"))
    (aC_Unlike : PySem.W.nsIn K mainGlobals "Unlike" = some (some (.ref C_Unlike)))
    (xc_Unlike : PySem.W.clsIn K C_Unlike = some cd_Unlike)
    (xt_Unlike : PySem.W.typeIn K (.ref C_Unlike) = some (.type "type"))
    (aC_Ring : PySem.W.nsIn K mainGlobals "Ring" = some (some (.ref C_Ring)))
    (xc_Ring : PySem.W.clsIn K C_Ring = some cd_Ring)
    (xt_Ring : PySem.W.typeIn K (.ref C_Ring) = some (.type "type"))
    (aC_WrongSort : PySem.W.nsIn K mainGlobals "WrongSort" = some (some (.ref C_WrongSort)))
    (xc_WrongSort : PySem.W.clsIn K C_WrongSort = some cd_WrongSort)
    (xt_WrongSort : PySem.W.typeIn K (.ref C_WrongSort) = some (.type "type"))
    (aC_UnlikeSorts : PySem.W.nsIn K mainGlobals "UnlikeSorts" = some (some (.ref C_UnlikeSorts)))
    (xc_UnlikeSorts : PySem.W.clsIn K C_UnlikeSorts = some cd_UnlikeSorts)
    (xt_UnlikeSorts : PySem.W.typeIn K (.ref C_UnlikeSorts) = some (.type "type"))
    (aC_InvalidText : PySem.W.nsIn K mainGlobals "InvalidText" = some (some (.ref C_InvalidText)))
    (xc_InvalidText : PySem.W.clsIn K C_InvalidText = some cd_InvalidText)
    (xt_InvalidText : PySem.W.typeIn K (.ref C_InvalidText) = some (.type "type"))
    (aC_InvalidBoard : PySem.W.nsIn K mainGlobals "InvalidBoard" = some (some (.ref C_InvalidBoard)))
    (xc_InvalidBoard : PySem.W.clsIn K C_InvalidBoard = some cd_InvalidBoard)
    (xt_InvalidBoard : PySem.W.typeIn K (.ref C_InvalidBoard) = some (.type "type"))
    (aC_TooDeep : PySem.W.nsIn K mainGlobals "TooDeep" = some (some (.ref C_TooDeep)))
    (xc_TooDeep : PySem.W.clsIn K C_TooDeep = some cd_TooDeep)
    (xt_TooDeep : PySem.W.typeIn K (.ref C_TooDeep) = some (.type "type"))
    (aC_TooMany : PySem.W.nsIn K mainGlobals "TooMany" = some (some (.ref C_TooMany)))
    (xc_TooMany : PySem.W.clsIn K C_TooMany = some cd_TooMany)
    (xt_TooMany : PySem.W.typeIn K (.ref C_TooMany) = some (.type "type"))
    (aC_NotBelow : PySem.W.nsIn K mainGlobals "NotBelow" = some (some (.ref C_NotBelow)))
    (xc_NotBelow : PySem.W.clsIn K C_NotBelow = some cd_NotBelow)
    (xt_NotBelow : PySem.W.typeIn K (.ref C_NotBelow) = some (.type "type"))
    (aC_InUse : PySem.W.nsIn K mainGlobals "InUse" = some (some (.ref C_InUse)))
    (xc_InUse : PySem.W.clsIn K C_InUse = some cd_InUse)
    (xt_InUse : PySem.W.typeIn K (.ref C_InUse) = some (.type "type"))
    (aC_NotTold : PySem.W.nsIn K mainGlobals "NotTold" = some (some (.ref C_NotTold)))
    (xc_NotTold : PySem.W.clsIn K C_NotTold = some cd_NotTold)
    (xt_NotTold : PySem.W.typeIn K (.ref C_NotTold) = some (.type "type"))
    (aC_Full : PySem.W.nsIn K mainGlobals "Full" = some (some (.ref C_Full)))
    (xc_Full : PySem.W.clsIn K C_Full = some cd_Full)
    (xt_Full : PySem.W.typeIn K (.ref C_Full) = some (.type "type"))
    (aC_InvalidLimit : PySem.W.nsIn K mainGlobals "InvalidLimit" = some (some (.ref C_InvalidLimit)))
    (xc_InvalidLimit : PySem.W.clsIn K C_InvalidLimit = some cd_InvalidLimit)
    (xt_InvalidLimit : PySem.W.typeIn K (.ref C_InvalidLimit) = some (.type "type"))
    (aC_InvalidCommand : PySem.W.nsIn K mainGlobals "InvalidCommand" = some (some (.ref C_InvalidCommand)))
    (xc_InvalidCommand : PySem.W.clsIn K C_InvalidCommand = some cd_InvalidCommand)
    (xt_InvalidCommand : PySem.W.typeIn K (.ref C_InvalidCommand) = some (.type "type"))
    (aC_InvalidPage : PySem.W.nsIn K mainGlobals "InvalidPage" = some (some (.ref C_InvalidPage)))
    (xc_InvalidPage : PySem.W.clsIn K C_InvalidPage = some cd_InvalidPage)
    (xt_InvalidPage : PySem.W.typeIn K (.ref C_InvalidPage) = some (.type "type"))
    (aC_UnknownName : PySem.W.nsIn K mainGlobals "UnknownName" = some (some (.ref C_UnknownName)))
    (xc_UnknownName : PySem.W.clsIn K C_UnknownName = some cd_UnknownName)
    (xt_UnknownName : PySem.W.typeIn K (.ref C_UnknownName) = some (.type "type"))
    (aC_UnknownClaim : PySem.W.nsIn K mainGlobals "UnknownClaim" = some (some (.ref C_UnknownClaim)))
    (xc_UnknownClaim : PySem.W.clsIn K C_UnknownClaim = some cd_UnknownClaim)
    (xt_UnknownClaim : PySem.W.typeIn K (.ref C_UnknownClaim) = some (.type "type"))
    (aC_NothingLeft : PySem.W.nsIn K mainGlobals "NothingLeft" = some (some (.ref C_NothingLeft)))
    (xc_NothingLeft : PySem.W.clsIn K C_NothingLeft = some cd_NothingLeft)
    (xt_NothingLeft : PySem.W.typeIn K (.ref C_NothingLeft) = some (.type "type"))
    (xm_InvalidName : cd_InvalidName.mro = [.ref C_InvalidName, .ref C_MapError, .type "ValueError", .type "Exception", .type "BaseException", .type "object"])
    (xg_InvalidName : PySem.W.findIn K (.ref C_InvalidName) "__getattribute__" = some (some (.builtin "BaseException.__getattribute__")))
    (xh_InvalidName : PySem.W.findIn K (.ref C_InvalidName) "__getattr__" = some none)
    (xe_InvalidName : PySem.W.subIn K (.ref C_InvalidName) (.type "BaseException") = some true)
    (xd_InvalidName : PySem.W.hasDictIn K C_InvalidName = true)
    (xq_InvalidName : PySem.W.findIn K (.ref C_InvalidName) "__class__" = some (some (.builtin "object.__class__")))
    (xo_InvalidName : PySem.W.mroIn K C_InvalidName (.type "object") = some true)
    (xsa_InvalidName : PySem.W.findIn K (.ref C_InvalidName) "__setattr__" = some (some (.builtin "object.__setattr__")))
    (xkc_InvalidName : PySem.W.keepIn K (.ref C_InvalidName) = true)
    (xi_InvalidName : PySem.W.excInitIn K C_InvalidName [.type "ValueError", .type "Exception", .type "BaseException", .type "object"] "ValueError.__new__" = true)
    (xv_InvalidName : PySem.W.excOver K C_InvalidName [.type "ValueError", .type "Exception", .type "BaseException", .type "object"] = true)
    (xn_InvalidName_value : PySem.W.findIn K (.ref C_InvalidName) "value" = some none)
    (xn_InvalidName_code : PySem.W.findIn K (.ref C_InvalidName) "code" = some none)
    (xm_InvalidDeclaration : cd_InvalidDeclaration.mro = [.ref C_InvalidDeclaration, .ref C_MapError, .type "ValueError", .type "Exception", .type "BaseException", .type "object"])
    (xg_InvalidDeclaration : PySem.W.findIn K (.ref C_InvalidDeclaration) "__getattribute__" = some (some (.builtin "BaseException.__getattribute__")))
    (xh_InvalidDeclaration : PySem.W.findIn K (.ref C_InvalidDeclaration) "__getattr__" = some none)
    (xe_InvalidDeclaration : PySem.W.subIn K (.ref C_InvalidDeclaration) (.type "BaseException") = some true)
    (xd_InvalidDeclaration : PySem.W.hasDictIn K C_InvalidDeclaration = true)
    (xq_InvalidDeclaration : PySem.W.findIn K (.ref C_InvalidDeclaration) "__class__" = some (some (.builtin "object.__class__")))
    (xo_InvalidDeclaration : PySem.W.mroIn K C_InvalidDeclaration (.type "object") = some true)
    (xsa_InvalidDeclaration : PySem.W.findIn K (.ref C_InvalidDeclaration) "__setattr__" = some (some (.builtin "object.__setattr__")))
    (xkc_InvalidDeclaration : PySem.W.keepIn K (.ref C_InvalidDeclaration) = true)
    (xi_InvalidDeclaration : PySem.W.excInitIn K C_InvalidDeclaration [.type "ValueError", .type "Exception", .type "BaseException", .type "object"] "ValueError.__new__" = true)
    (xv_InvalidDeclaration : PySem.W.excOver K C_InvalidDeclaration [.type "ValueError", .type "Exception", .type "BaseException", .type "object"] = true)
    (xn_InvalidDeclaration_at : PySem.W.findIn K (.ref C_InvalidDeclaration) "at" = some none)
    (xn_InvalidDeclaration_code : PySem.W.findIn K (.ref C_InvalidDeclaration) "code" = some none)
    (xm_DuplicateName : cd_DuplicateName.mro = [.ref C_DuplicateName, .ref C_MapError, .type "ValueError", .type "Exception", .type "BaseException", .type "object"])
    (xg_DuplicateName : PySem.W.findIn K (.ref C_DuplicateName) "__getattribute__" = some (some (.builtin "BaseException.__getattribute__")))
    (xh_DuplicateName : PySem.W.findIn K (.ref C_DuplicateName) "__getattr__" = some none)
    (xe_DuplicateName : PySem.W.subIn K (.ref C_DuplicateName) (.type "BaseException") = some true)
    (xd_DuplicateName : PySem.W.hasDictIn K C_DuplicateName = true)
    (xq_DuplicateName : PySem.W.findIn K (.ref C_DuplicateName) "__class__" = some (some (.builtin "object.__class__")))
    (xo_DuplicateName : PySem.W.mroIn K C_DuplicateName (.type "object") = some true)
    (xsa_DuplicateName : PySem.W.findIn K (.ref C_DuplicateName) "__setattr__" = some (some (.builtin "object.__setattr__")))
    (xkc_DuplicateName : PySem.W.keepIn K (.ref C_DuplicateName) = true)
    (xi_DuplicateName : PySem.W.excInitIn K C_DuplicateName [.type "ValueError", .type "Exception", .type "BaseException", .type "object"] "ValueError.__new__" = true)
    (xv_DuplicateName : PySem.W.excOver K C_DuplicateName [.type "ValueError", .type "Exception", .type "BaseException", .type "object"] = true)
    (xn_DuplicateName_name : PySem.W.findIn K (.ref C_DuplicateName) "name" = some none)
    (xn_DuplicateName_code : PySem.W.findIn K (.ref C_DuplicateName) "code" = some none)
    (xm_Unlike : cd_Unlike.mro = [.ref C_Unlike, .ref C_MapError, .type "ValueError", .type "Exception", .type "BaseException", .type "object"])
    (xg_Unlike : PySem.W.findIn K (.ref C_Unlike) "__getattribute__" = some (some (.builtin "BaseException.__getattribute__")))
    (xh_Unlike : PySem.W.findIn K (.ref C_Unlike) "__getattr__" = some none)
    (xe_Unlike : PySem.W.subIn K (.ref C_Unlike) (.type "BaseException") = some true)
    (xd_Unlike : PySem.W.hasDictIn K C_Unlike = true)
    (xq_Unlike : PySem.W.findIn K (.ref C_Unlike) "__class__" = some (some (.builtin "object.__class__")))
    (xo_Unlike : PySem.W.mroIn K C_Unlike (.type "object") = some true)
    (xsa_Unlike : PySem.W.findIn K (.ref C_Unlike) "__setattr__" = some (some (.builtin "object.__setattr__")))
    (xkc_Unlike : PySem.W.keepIn K (.ref C_Unlike) = true)
    (xi_Unlike : PySem.W.excInitIn K C_Unlike [.type "ValueError", .type "Exception", .type "BaseException", .type "object"] "ValueError.__new__" = true)
    (xv_Unlike : PySem.W.excOver K C_Unlike [.type "ValueError", .type "Exception", .type "BaseException", .type "object"] = true)
    (xn_Unlike_low : PySem.W.findIn K (.ref C_Unlike) "low" = some none)
    (xn_Unlike_high : PySem.W.findIn K (.ref C_Unlike) "high" = some none)
    (xn_Unlike_code : PySem.W.findIn K (.ref C_Unlike) "code" = some none)
    (xm_Ring : cd_Ring.mro = [.ref C_Ring, .ref C_MapError, .type "ValueError", .type "Exception", .type "BaseException", .type "object"])
    (xg_Ring : PySem.W.findIn K (.ref C_Ring) "__getattribute__" = some (some (.builtin "BaseException.__getattribute__")))
    (xh_Ring : PySem.W.findIn K (.ref C_Ring) "__getattr__" = some none)
    (xe_Ring : PySem.W.subIn K (.ref C_Ring) (.type "BaseException") = some true)
    (xd_Ring : PySem.W.hasDictIn K C_Ring = true)
    (xq_Ring : PySem.W.findIn K (.ref C_Ring) "__class__" = some (some (.builtin "object.__class__")))
    (xo_Ring : PySem.W.mroIn K C_Ring (.type "object") = some true)
    (xsa_Ring : PySem.W.findIn K (.ref C_Ring) "__setattr__" = some (some (.builtin "object.__setattr__")))
    (xkc_Ring : PySem.W.keepIn K (.ref C_Ring) = true)
    (xi_Ring : PySem.W.excInitIn K C_Ring [.type "ValueError", .type "Exception", .type "BaseException", .type "object"] "ValueError.__new__" = true)
    (xv_Ring : PySem.W.excOver K C_Ring [.type "ValueError", .type "Exception", .type "BaseException", .type "object"] = true)
    (xn_Ring_low : PySem.W.findIn K (.ref C_Ring) "low" = some none)
    (xn_Ring_high : PySem.W.findIn K (.ref C_Ring) "high" = some none)
    (xn_Ring_code : PySem.W.findIn K (.ref C_Ring) "code" = some none)
    (xm_WrongSort : cd_WrongSort.mro = [.ref C_WrongSort, .ref C_MapError, .type "ValueError", .type "Exception", .type "BaseException", .type "object"])
    (xg_WrongSort : PySem.W.findIn K (.ref C_WrongSort) "__getattribute__" = some (some (.builtin "BaseException.__getattribute__")))
    (xh_WrongSort : PySem.W.findIn K (.ref C_WrongSort) "__getattr__" = some none)
    (xe_WrongSort : PySem.W.subIn K (.ref C_WrongSort) (.type "BaseException") = some true)
    (xd_WrongSort : PySem.W.hasDictIn K C_WrongSort = true)
    (xq_WrongSort : PySem.W.findIn K (.ref C_WrongSort) "__class__" = some (some (.builtin "object.__class__")))
    (xo_WrongSort : PySem.W.mroIn K C_WrongSort (.type "object") = some true)
    (xsa_WrongSort : PySem.W.findIn K (.ref C_WrongSort) "__setattr__" = some (some (.builtin "object.__setattr__")))
    (xkc_WrongSort : PySem.W.keepIn K (.ref C_WrongSort) = true)
    (xi_WrongSort : PySem.W.excInitIn K C_WrongSort [.type "ValueError", .type "Exception", .type "BaseException", .type "object"] "ValueError.__new__" = true)
    (xv_WrongSort : PySem.W.excOver K C_WrongSort [.type "ValueError", .type "Exception", .type "BaseException", .type "object"] = true)
    (xn_WrongSort_path : PySem.W.findIn K (.ref C_WrongSort) "path" = some none)
    (xn_WrongSort_code : PySem.W.findIn K (.ref C_WrongSort) "code" = some none)
    (xm_UnlikeSorts : cd_UnlikeSorts.mro = [.ref C_UnlikeSorts, .ref C_MapError, .type "ValueError", .type "Exception", .type "BaseException", .type "object"])
    (xg_UnlikeSorts : PySem.W.findIn K (.ref C_UnlikeSorts) "__getattribute__" = some (some (.builtin "BaseException.__getattribute__")))
    (xh_UnlikeSorts : PySem.W.findIn K (.ref C_UnlikeSorts) "__getattr__" = some none)
    (xe_UnlikeSorts : PySem.W.subIn K (.ref C_UnlikeSorts) (.type "BaseException") = some true)
    (xd_UnlikeSorts : PySem.W.hasDictIn K C_UnlikeSorts = true)
    (xq_UnlikeSorts : PySem.W.findIn K (.ref C_UnlikeSorts) "__class__" = some (some (.builtin "object.__class__")))
    (xo_UnlikeSorts : PySem.W.mroIn K C_UnlikeSorts (.type "object") = some true)
    (xsa_UnlikeSorts : PySem.W.findIn K (.ref C_UnlikeSorts) "__setattr__" = some (some (.builtin "object.__setattr__")))
    (xkc_UnlikeSorts : PySem.W.keepIn K (.ref C_UnlikeSorts) = true)
    (xi_UnlikeSorts : PySem.W.excInitIn K C_UnlikeSorts [.type "ValueError", .type "Exception", .type "BaseException", .type "object"] "ValueError.__new__" = true)
    (xv_UnlikeSorts : PySem.W.excOver K C_UnlikeSorts [.type "ValueError", .type "Exception", .type "BaseException", .type "object"] = true)
    (xn_UnlikeSorts_code : PySem.W.findIn K (.ref C_UnlikeSorts) "code" = some none)
    (xm_InvalidText : cd_InvalidText.mro = [.ref C_InvalidText, .ref C_MapError, .type "ValueError", .type "Exception", .type "BaseException", .type "object"])
    (xg_InvalidText : PySem.W.findIn K (.ref C_InvalidText) "__getattribute__" = some (some (.builtin "BaseException.__getattribute__")))
    (xh_InvalidText : PySem.W.findIn K (.ref C_InvalidText) "__getattr__" = some none)
    (xe_InvalidText : PySem.W.subIn K (.ref C_InvalidText) (.type "BaseException") = some true)
    (xd_InvalidText : PySem.W.hasDictIn K C_InvalidText = true)
    (xq_InvalidText : PySem.W.findIn K (.ref C_InvalidText) "__class__" = some (some (.builtin "object.__class__")))
    (xo_InvalidText : PySem.W.mroIn K C_InvalidText (.type "object") = some true)
    (xsa_InvalidText : PySem.W.findIn K (.ref C_InvalidText) "__setattr__" = some (some (.builtin "object.__setattr__")))
    (xkc_InvalidText : PySem.W.keepIn K (.ref C_InvalidText) = true)
    (xi_InvalidText : PySem.W.excInitIn K C_InvalidText [.type "ValueError", .type "Exception", .type "BaseException", .type "object"] "ValueError.__new__" = true)
    (xv_InvalidText : PySem.W.excOver K C_InvalidText [.type "ValueError", .type "Exception", .type "BaseException", .type "object"] = true)
    (xn_InvalidText_value : PySem.W.findIn K (.ref C_InvalidText) "value" = some none)
    (xn_InvalidText_code : PySem.W.findIn K (.ref C_InvalidText) "code" = some none)
    (xm_InvalidBoard : cd_InvalidBoard.mro = [.ref C_InvalidBoard, .ref C_MapError, .type "ValueError", .type "Exception", .type "BaseException", .type "object"])
    (xg_InvalidBoard : PySem.W.findIn K (.ref C_InvalidBoard) "__getattribute__" = some (some (.builtin "BaseException.__getattribute__")))
    (xh_InvalidBoard : PySem.W.findIn K (.ref C_InvalidBoard) "__getattr__" = some none)
    (xe_InvalidBoard : PySem.W.subIn K (.ref C_InvalidBoard) (.type "BaseException") = some true)
    (xd_InvalidBoard : PySem.W.hasDictIn K C_InvalidBoard = true)
    (xq_InvalidBoard : PySem.W.findIn K (.ref C_InvalidBoard) "__class__" = some (some (.builtin "object.__class__")))
    (xo_InvalidBoard : PySem.W.mroIn K C_InvalidBoard (.type "object") = some true)
    (xsa_InvalidBoard : PySem.W.findIn K (.ref C_InvalidBoard) "__setattr__" = some (some (.builtin "object.__setattr__")))
    (xkc_InvalidBoard : PySem.W.keepIn K (.ref C_InvalidBoard) = true)
    (xi_InvalidBoard : PySem.W.excInitIn K C_InvalidBoard [.type "ValueError", .type "Exception", .type "BaseException", .type "object"] "ValueError.__new__" = true)
    (xv_InvalidBoard : PySem.W.excOver K C_InvalidBoard [.type "ValueError", .type "Exception", .type "BaseException", .type "object"] = true)
    (xn_InvalidBoard_name : PySem.W.findIn K (.ref C_InvalidBoard) "name" = some none)
    (xn_InvalidBoard_code : PySem.W.findIn K (.ref C_InvalidBoard) "code" = some none)
    (xm_TooDeep : cd_TooDeep.mro = [.ref C_TooDeep, .ref C_MapError, .type "ValueError", .type "Exception", .type "BaseException", .type "object"])
    (xg_TooDeep : PySem.W.findIn K (.ref C_TooDeep) "__getattribute__" = some (some (.builtin "BaseException.__getattribute__")))
    (xh_TooDeep : PySem.W.findIn K (.ref C_TooDeep) "__getattr__" = some none)
    (xe_TooDeep : PySem.W.subIn K (.ref C_TooDeep) (.type "BaseException") = some true)
    (xd_TooDeep : PySem.W.hasDictIn K C_TooDeep = true)
    (xq_TooDeep : PySem.W.findIn K (.ref C_TooDeep) "__class__" = some (some (.builtin "object.__class__")))
    (xo_TooDeep : PySem.W.mroIn K C_TooDeep (.type "object") = some true)
    (xsa_TooDeep : PySem.W.findIn K (.ref C_TooDeep) "__setattr__" = some (some (.builtin "object.__setattr__")))
    (xkc_TooDeep : PySem.W.keepIn K (.ref C_TooDeep) = true)
    (xi_TooDeep : PySem.W.excInitIn K C_TooDeep [.type "ValueError", .type "Exception", .type "BaseException", .type "object"] "ValueError.__new__" = true)
    (xv_TooDeep : PySem.W.excOver K C_TooDeep [.type "ValueError", .type "Exception", .type "BaseException", .type "object"] = true)
    (xn_TooDeep_most : PySem.W.findIn K (.ref C_TooDeep) "most" = some none)
    (xn_TooDeep_code : PySem.W.findIn K (.ref C_TooDeep) "code" = some none)
    (xm_TooMany : cd_TooMany.mro = [.ref C_TooMany, .ref C_MapError, .type "ValueError", .type "Exception", .type "BaseException", .type "object"])
    (xg_TooMany : PySem.W.findIn K (.ref C_TooMany) "__getattribute__" = some (some (.builtin "BaseException.__getattribute__")))
    (xh_TooMany : PySem.W.findIn K (.ref C_TooMany) "__getattr__" = some none)
    (xe_TooMany : PySem.W.subIn K (.ref C_TooMany) (.type "BaseException") = some true)
    (xd_TooMany : PySem.W.hasDictIn K C_TooMany = true)
    (xq_TooMany : PySem.W.findIn K (.ref C_TooMany) "__class__" = some (some (.builtin "object.__class__")))
    (xo_TooMany : PySem.W.mroIn K C_TooMany (.type "object") = some true)
    (xsa_TooMany : PySem.W.findIn K (.ref C_TooMany) "__setattr__" = some (some (.builtin "object.__setattr__")))
    (xkc_TooMany : PySem.W.keepIn K (.ref C_TooMany) = true)
    (xi_TooMany : PySem.W.excInitIn K C_TooMany [.type "ValueError", .type "Exception", .type "BaseException", .type "object"] "ValueError.__new__" = true)
    (xv_TooMany : PySem.W.excOver K C_TooMany [.type "ValueError", .type "Exception", .type "BaseException", .type "object"] = true)
    (xn_TooMany_most : PySem.W.findIn K (.ref C_TooMany) "most" = some none)
    (xn_TooMany_code : PySem.W.findIn K (.ref C_TooMany) "code" = some none)
    (xm_NotBelow : cd_NotBelow.mro = [.ref C_NotBelow, .ref C_MapError, .type "ValueError", .type "Exception", .type "BaseException", .type "object"])
    (xg_NotBelow : PySem.W.findIn K (.ref C_NotBelow) "__getattribute__" = some (some (.builtin "BaseException.__getattribute__")))
    (xh_NotBelow : PySem.W.findIn K (.ref C_NotBelow) "__getattr__" = some none)
    (xe_NotBelow : PySem.W.subIn K (.ref C_NotBelow) (.type "BaseException") = some true)
    (xd_NotBelow : PySem.W.hasDictIn K C_NotBelow = true)
    (xq_NotBelow : PySem.W.findIn K (.ref C_NotBelow) "__class__" = some (some (.builtin "object.__class__")))
    (xo_NotBelow : PySem.W.mroIn K C_NotBelow (.type "object") = some true)
    (xsa_NotBelow : PySem.W.findIn K (.ref C_NotBelow) "__setattr__" = some (some (.builtin "object.__setattr__")))
    (xkc_NotBelow : PySem.W.keepIn K (.ref C_NotBelow) = true)
    (xi_NotBelow : PySem.W.excInitIn K C_NotBelow [.type "ValueError", .type "Exception", .type "BaseException", .type "object"] "ValueError.__new__" = true)
    (xv_NotBelow : PySem.W.excOver K C_NotBelow [.type "ValueError", .type "Exception", .type "BaseException", .type "object"] = true)
    (xn_NotBelow_code : PySem.W.findIn K (.ref C_NotBelow) "code" = some none)
    (xm_InUse : cd_InUse.mro = [.ref C_InUse, .ref C_MapError, .type "ValueError", .type "Exception", .type "BaseException", .type "object"])
    (xg_InUse : PySem.W.findIn K (.ref C_InUse) "__getattribute__" = some (some (.builtin "BaseException.__getattribute__")))
    (xh_InUse : PySem.W.findIn K (.ref C_InUse) "__getattr__" = some none)
    (xe_InUse : PySem.W.subIn K (.ref C_InUse) (.type "BaseException") = some true)
    (xd_InUse : PySem.W.hasDictIn K C_InUse = true)
    (xq_InUse : PySem.W.findIn K (.ref C_InUse) "__class__" = some (some (.builtin "object.__class__")))
    (xo_InUse : PySem.W.mroIn K C_InUse (.type "object") = some true)
    (xsa_InUse : PySem.W.findIn K (.ref C_InUse) "__setattr__" = some (some (.builtin "object.__setattr__")))
    (xkc_InUse : PySem.W.keepIn K (.ref C_InUse) = true)
    (xi_InUse : PySem.W.excInitIn K C_InUse [.type "ValueError", .type "Exception", .type "BaseException", .type "object"] "ValueError.__new__" = true)
    (xv_InUse : PySem.W.excOver K C_InUse [.type "ValueError", .type "Exception", .type "BaseException", .type "object"] = true)
    (xn_InUse_name : PySem.W.findIn K (.ref C_InUse) "name" = some none)
    (xn_InUse_code : PySem.W.findIn K (.ref C_InUse) "code" = some none)
    (xm_NotTold : cd_NotTold.mro = [.ref C_NotTold, .ref C_MapError, .type "ValueError", .type "Exception", .type "BaseException", .type "object"])
    (xg_NotTold : PySem.W.findIn K (.ref C_NotTold) "__getattribute__" = some (some (.builtin "BaseException.__getattribute__")))
    (xh_NotTold : PySem.W.findIn K (.ref C_NotTold) "__getattr__" = some none)
    (xe_NotTold : PySem.W.subIn K (.ref C_NotTold) (.type "BaseException") = some true)
    (xd_NotTold : PySem.W.hasDictIn K C_NotTold = true)
    (xq_NotTold : PySem.W.findIn K (.ref C_NotTold) "__class__" = some (some (.builtin "object.__class__")))
    (xo_NotTold : PySem.W.mroIn K C_NotTold (.type "object") = some true)
    (xsa_NotTold : PySem.W.findIn K (.ref C_NotTold) "__setattr__" = some (some (.builtin "object.__setattr__")))
    (xkc_NotTold : PySem.W.keepIn K (.ref C_NotTold) = true)
    (xi_NotTold : PySem.W.excInitIn K C_NotTold [.type "ValueError", .type "Exception", .type "BaseException", .type "object"] "ValueError.__new__" = true)
    (xv_NotTold : PySem.W.excOver K C_NotTold [.type "ValueError", .type "Exception", .type "BaseException", .type "object"] = true)
    (xn_NotTold_low : PySem.W.findIn K (.ref C_NotTold) "low" = some none)
    (xn_NotTold_high : PySem.W.findIn K (.ref C_NotTold) "high" = some none)
    (xn_NotTold_code : PySem.W.findIn K (.ref C_NotTold) "code" = some none)
    (xm_Full : cd_Full.mro = [.ref C_Full, .ref C_MapError, .type "ValueError", .type "Exception", .type "BaseException", .type "object"])
    (xg_Full : PySem.W.findIn K (.ref C_Full) "__getattribute__" = some (some (.builtin "BaseException.__getattribute__")))
    (xh_Full : PySem.W.findIn K (.ref C_Full) "__getattr__" = some none)
    (xe_Full : PySem.W.subIn K (.ref C_Full) (.type "BaseException") = some true)
    (xd_Full : PySem.W.hasDictIn K C_Full = true)
    (xq_Full : PySem.W.findIn K (.ref C_Full) "__class__" = some (some (.builtin "object.__class__")))
    (xo_Full : PySem.W.mroIn K C_Full (.type "object") = some true)
    (xsa_Full : PySem.W.findIn K (.ref C_Full) "__setattr__" = some (some (.builtin "object.__setattr__")))
    (xkc_Full : PySem.W.keepIn K (.ref C_Full) = true)
    (xi_Full : PySem.W.excInitIn K C_Full [.type "ValueError", .type "Exception", .type "BaseException", .type "object"] "ValueError.__new__" = true)
    (xv_Full : PySem.W.excOver K C_Full [.type "ValueError", .type "Exception", .type "BaseException", .type "object"] = true)
    (xn_Full_limit : PySem.W.findIn K (.ref C_Full) "limit" = some none)
    (xn_Full_code : PySem.W.findIn K (.ref C_Full) "code" = some none)
    (xm_InvalidLimit : cd_InvalidLimit.mro = [.ref C_InvalidLimit, .ref C_MapError, .type "ValueError", .type "Exception", .type "BaseException", .type "object"])
    (xg_InvalidLimit : PySem.W.findIn K (.ref C_InvalidLimit) "__getattribute__" = some (some (.builtin "BaseException.__getattribute__")))
    (xh_InvalidLimit : PySem.W.findIn K (.ref C_InvalidLimit) "__getattr__" = some none)
    (xe_InvalidLimit : PySem.W.subIn K (.ref C_InvalidLimit) (.type "BaseException") = some true)
    (xd_InvalidLimit : PySem.W.hasDictIn K C_InvalidLimit = true)
    (xq_InvalidLimit : PySem.W.findIn K (.ref C_InvalidLimit) "__class__" = some (some (.builtin "object.__class__")))
    (xo_InvalidLimit : PySem.W.mroIn K C_InvalidLimit (.type "object") = some true)
    (xsa_InvalidLimit : PySem.W.findIn K (.ref C_InvalidLimit) "__setattr__" = some (some (.builtin "object.__setattr__")))
    (xkc_InvalidLimit : PySem.W.keepIn K (.ref C_InvalidLimit) = true)
    (xi_InvalidLimit : PySem.W.excInitIn K C_InvalidLimit [.type "ValueError", .type "Exception", .type "BaseException", .type "object"] "ValueError.__new__" = true)
    (xv_InvalidLimit : PySem.W.excOver K C_InvalidLimit [.type "ValueError", .type "Exception", .type "BaseException", .type "object"] = true)
    (xn_InvalidLimit_value : PySem.W.findIn K (.ref C_InvalidLimit) "value" = some none)
    (xn_InvalidLimit_code : PySem.W.findIn K (.ref C_InvalidLimit) "code" = some none)
    (xm_InvalidCommand : cd_InvalidCommand.mro = [.ref C_InvalidCommand, .ref C_MapError, .type "ValueError", .type "Exception", .type "BaseException", .type "object"])
    (xg_InvalidCommand : PySem.W.findIn K (.ref C_InvalidCommand) "__getattribute__" = some (some (.builtin "BaseException.__getattribute__")))
    (xh_InvalidCommand : PySem.W.findIn K (.ref C_InvalidCommand) "__getattr__" = some none)
    (xe_InvalidCommand : PySem.W.subIn K (.ref C_InvalidCommand) (.type "BaseException") = some true)
    (xd_InvalidCommand : PySem.W.hasDictIn K C_InvalidCommand = true)
    (xq_InvalidCommand : PySem.W.findIn K (.ref C_InvalidCommand) "__class__" = some (some (.builtin "object.__class__")))
    (xo_InvalidCommand : PySem.W.mroIn K C_InvalidCommand (.type "object") = some true)
    (xsa_InvalidCommand : PySem.W.findIn K (.ref C_InvalidCommand) "__setattr__" = some (some (.builtin "object.__setattr__")))
    (xkc_InvalidCommand : PySem.W.keepIn K (.ref C_InvalidCommand) = true)
    (xi_InvalidCommand : PySem.W.excInitIn K C_InvalidCommand [.type "ValueError", .type "Exception", .type "BaseException", .type "object"] "ValueError.__new__" = true)
    (xv_InvalidCommand : PySem.W.excOver K C_InvalidCommand [.type "ValueError", .type "Exception", .type "BaseException", .type "object"] = true)
    (xn_InvalidCommand_at : PySem.W.findIn K (.ref C_InvalidCommand) "at" = some none)
    (xn_InvalidCommand_code : PySem.W.findIn K (.ref C_InvalidCommand) "code" = some none)
    (xm_InvalidPage : cd_InvalidPage.mro = [.ref C_InvalidPage, .ref C_MapError, .type "ValueError", .type "Exception", .type "BaseException", .type "object"])
    (xg_InvalidPage : PySem.W.findIn K (.ref C_InvalidPage) "__getattribute__" = some (some (.builtin "BaseException.__getattribute__")))
    (xh_InvalidPage : PySem.W.findIn K (.ref C_InvalidPage) "__getattr__" = some none)
    (xe_InvalidPage : PySem.W.subIn K (.ref C_InvalidPage) (.type "BaseException") = some true)
    (xd_InvalidPage : PySem.W.hasDictIn K C_InvalidPage = true)
    (xq_InvalidPage : PySem.W.findIn K (.ref C_InvalidPage) "__class__" = some (some (.builtin "object.__class__")))
    (xo_InvalidPage : PySem.W.mroIn K C_InvalidPage (.type "object") = some true)
    (xsa_InvalidPage : PySem.W.findIn K (.ref C_InvalidPage) "__setattr__" = some (some (.builtin "object.__setattr__")))
    (xkc_InvalidPage : PySem.W.keepIn K (.ref C_InvalidPage) = true)
    (xi_InvalidPage : PySem.W.excInitIn K C_InvalidPage [.type "ValueError", .type "Exception", .type "BaseException", .type "object"] "ValueError.__new__" = true)
    (xv_InvalidPage : PySem.W.excOver K C_InvalidPage [.type "ValueError", .type "Exception", .type "BaseException", .type "object"] = true)
    (xn_InvalidPage_line : PySem.W.findIn K (.ref C_InvalidPage) "line" = some none)
    (xn_InvalidPage_code : PySem.W.findIn K (.ref C_InvalidPage) "code" = some none)
    (xm_NothingLeft : cd_NothingLeft.mro = [.ref C_NothingLeft, .type "IndexError", .type "LookupError", .type "Exception", .type "BaseException", .type "object"])
    (xg_NothingLeft : PySem.W.findIn K (.ref C_NothingLeft) "__getattribute__" = some (some (.builtin "BaseException.__getattribute__")))
    (xh_NothingLeft : PySem.W.findIn K (.ref C_NothingLeft) "__getattr__" = some none)
    (xe_NothingLeft : PySem.W.subIn K (.ref C_NothingLeft) (.type "BaseException") = some true)
    (xd_NothingLeft : PySem.W.hasDictIn K C_NothingLeft = true)
    (xq_NothingLeft : PySem.W.findIn K (.ref C_NothingLeft) "__class__" = some (some (.builtin "object.__class__")))
    (xo_NothingLeft : PySem.W.mroIn K C_NothingLeft (.type "object") = some true)
    (xsa_NothingLeft : PySem.W.findIn K (.ref C_NothingLeft) "__setattr__" = some (some (.builtin "object.__setattr__")))
    (xkc_NothingLeft : PySem.W.keepIn K (.ref C_NothingLeft) = true)
    (xi_NothingLeft : PySem.W.excInitIn K C_NothingLeft [.type "IndexError", .type "LookupError", .type "Exception", .type "BaseException", .type "object"] "IndexError.__new__" = true)
    (xv_NothingLeft : PySem.W.excOver K C_NothingLeft [.type "IndexError", .type "LookupError", .type "Exception", .type "BaseException", .type "object"] = true)
    (xn_NothingLeft_code : PySem.W.findIn K (.ref C_NothingLeft) "code" = some none)
    (xm_UnknownName : cd_UnknownName.mro = [.ref C_UnknownName, .ref C_Missing, .type "LookupError", .type "Exception", .type "BaseException", .type "object"])
    (xg_UnknownName : PySem.W.findIn K (.ref C_UnknownName) "__getattribute__" = some (some (.builtin "BaseException.__getattribute__")))
    (xh_UnknownName : PySem.W.findIn K (.ref C_UnknownName) "__getattr__" = some none)
    (xe_UnknownName : PySem.W.subIn K (.ref C_UnknownName) (.type "BaseException") = some true)
    (xd_UnknownName : PySem.W.hasDictIn K C_UnknownName = true)
    (xq_UnknownName : PySem.W.findIn K (.ref C_UnknownName) "__class__" = some (some (.builtin "object.__class__")))
    (xo_UnknownName : PySem.W.mroIn K C_UnknownName (.type "object") = some true)
    (xsa_UnknownName : PySem.W.findIn K (.ref C_UnknownName) "__setattr__" = some (some (.builtin "object.__setattr__")))
    (xkc_UnknownName : PySem.W.keepIn K (.ref C_UnknownName) = true)
    (xi_UnknownName : PySem.W.excInitIn K C_UnknownName [.type "LookupError", .type "Exception", .type "BaseException", .type "object"] "LookupError.__new__" = true)
    (xv_UnknownName : PySem.W.excOver K C_UnknownName [.type "LookupError", .type "Exception", .type "BaseException", .type "object"] = true)
    (xn_UnknownName_name : PySem.W.findIn K (.ref C_UnknownName) "name" = some none)
    (xn_UnknownName_code : PySem.W.findIn K (.ref C_UnknownName) "code" = some none)
    (xm_UnknownClaim : cd_UnknownClaim.mro = [.ref C_UnknownClaim, .ref C_Missing, .type "LookupError", .type "Exception", .type "BaseException", .type "object"])
    (xg_UnknownClaim : PySem.W.findIn K (.ref C_UnknownClaim) "__getattribute__" = some (some (.builtin "BaseException.__getattribute__")))
    (xh_UnknownClaim : PySem.W.findIn K (.ref C_UnknownClaim) "__getattr__" = some none)
    (xe_UnknownClaim : PySem.W.subIn K (.ref C_UnknownClaim) (.type "BaseException") = some true)
    (xd_UnknownClaim : PySem.W.hasDictIn K C_UnknownClaim = true)
    (xq_UnknownClaim : PySem.W.findIn K (.ref C_UnknownClaim) "__class__" = some (some (.builtin "object.__class__")))
    (xo_UnknownClaim : PySem.W.mroIn K C_UnknownClaim (.type "object") = some true)
    (xsa_UnknownClaim : PySem.W.findIn K (.ref C_UnknownClaim) "__setattr__" = some (some (.builtin "object.__setattr__")))
    (xkc_UnknownClaim : PySem.W.keepIn K (.ref C_UnknownClaim) = true)
    (xi_UnknownClaim : PySem.W.excInitIn K C_UnknownClaim [.type "LookupError", .type "Exception", .type "BaseException", .type "object"] "LookupError.__new__" = true)
    (xv_UnknownClaim : PySem.W.excOver K C_UnknownClaim [.type "LookupError", .type "Exception", .type "BaseException", .type "object"] = true)
    (xn_UnknownClaim_name : PySem.W.findIn K (.ref C_UnknownClaim) "name" = some none)
    (xn_UnknownClaim_code : PySem.W.findIn K (.ref C_UnknownClaim) "code" = some none)
    (xnd : ([C_MapError, C_Missing, C_InvalidName, C_InvalidDeclaration, C_DuplicateName, C_Unlike, C_Ring, C_WrongSort, C_UnlikeSorts, C_InvalidText, C_InvalidBoard, C_TooDeep, C_TooMany, C_NotBelow, C_InUse, C_NotTold, C_Full, C_InvalidLimit, C_InvalidCommand, C_InvalidPage, C_UnknownName, C_UnknownClaim, C_NothingLeft] : List Addr).Nodup)
    (a1 : PySem.W.nsIn K mainGlobals "_law_bag" = some (some (.ref f1)))
    (l1 : K.lookup f1 = some ⟨oc1, od1, .func (PySem.W.fnOf "_law_bag" "_law_bag" (defArgs s_law_bag) (defBody s_law_bag) (defScope s_law_bag) .none kV1 dc1 pm1 an1 cd1 ct1), sl1⟩)
    (e1 : PySem.W.codeIn K cd1 "_law_bag" = true)
    (k1 : PySem.W.keepIn K (.ref f1) = true)
    (a2 : PySem.W.findIn K (.ref C_InvalidName) "__init__" = some (some (.ref f2)))
    (ti2 : PySem.W.typeIn K (.ref f2) = some (.type "function"))
    (l2 : K.lookup f2 = some ⟨oc2, od2, .func (PySem.W.fnOf "__init__" "InvalidName.__init__" (defArgs s_InvalidName_init) (defBody s_InvalidName_init) (defScope s_InvalidName_init) .none kV2 dc2 pm2 an2 cd2 ct2), sl2⟩)
    (e2 : PySem.W.codeIn K cd2 "InvalidName.__init__" = true)
    (k2 : PySem.W.keepIn K (.ref f2) = true)
    (a3 : PySem.W.findIn K (.ref C_InvalidDeclaration) "__init__" = some (some (.ref f3)))
    (ti3 : PySem.W.typeIn K (.ref f3) = some (.type "function"))
    (l3 : K.lookup f3 = some ⟨oc3, od3, .func (PySem.W.fnOf "__init__" "InvalidDeclaration.__init__" (defArgs s_InvalidDeclaration_init) (defBody s_InvalidDeclaration_init) (defScope s_InvalidDeclaration_init) .none kV3 dc3 pm3 an3 cd3 ct3), sl3⟩)
    (e3 : PySem.W.codeIn K cd3 "InvalidDeclaration.__init__" = true)
    (k3 : PySem.W.keepIn K (.ref f3) = true)
    (a4 : PySem.W.findIn K (.ref C_DuplicateName) "__init__" = some (some (.ref f4)))
    (ti4 : PySem.W.typeIn K (.ref f4) = some (.type "function"))
    (l4 : K.lookup f4 = some ⟨oc4, od4, .func (PySem.W.fnOf "__init__" "DuplicateName.__init__" (defArgs s_DuplicateName_init) (defBody s_DuplicateName_init) (defScope s_DuplicateName_init) .none kV4 dc4 pm4 an4 cd4 ct4), sl4⟩)
    (e4 : PySem.W.codeIn K cd4 "DuplicateName.__init__" = true)
    (k4 : PySem.W.keepIn K (.ref f4) = true)
    (a5 : PySem.W.findIn K (.ref C_Unlike) "__init__" = some (some (.ref f5)))
    (ti5 : PySem.W.typeIn K (.ref f5) = some (.type "function"))
    (l5 : K.lookup f5 = some ⟨oc5, od5, .func (PySem.W.fnOf "__init__" "Unlike.__init__" (defArgs s_Unlike_init) (defBody s_Unlike_init) (defScope s_Unlike_init) .none kV5 dc5 pm5 an5 cd5 ct5), sl5⟩)
    (e5 : PySem.W.codeIn K cd5 "Unlike.__init__" = true)
    (k5 : PySem.W.keepIn K (.ref f5) = true)
    (a6 : PySem.W.findIn K (.ref C_Ring) "__init__" = some (some (.ref f6)))
    (ti6 : PySem.W.typeIn K (.ref f6) = some (.type "function"))
    (l6 : K.lookup f6 = some ⟨oc6, od6, .func (PySem.W.fnOf "__init__" "Ring.__init__" (defArgs s_Ring_init) (defBody s_Ring_init) (defScope s_Ring_init) .none kV6 dc6 pm6 an6 cd6 ct6), sl6⟩)
    (e6 : PySem.W.codeIn K cd6 "Ring.__init__" = true)
    (k6 : PySem.W.keepIn K (.ref f6) = true)
    (a7 : PySem.W.findIn K (.ref C_WrongSort) "__init__" = some (some (.ref f7)))
    (ti7 : PySem.W.typeIn K (.ref f7) = some (.type "function"))
    (l7 : K.lookup f7 = some ⟨oc7, od7, .func (PySem.W.fnOf "__init__" "WrongSort.__init__" (defArgs s_WrongSort_init) (defBody s_WrongSort_init) (defScope s_WrongSort_init) .none kV7 dc7 pm7 an7 cd7 ct7), sl7⟩)
    (e7 : PySem.W.codeIn K cd7 "WrongSort.__init__" = true)
    (k7 : PySem.W.keepIn K (.ref f7) = true)
    (a8 : PySem.W.findIn K (.ref C_UnlikeSorts) "__init__" = some (some (.ref f8)))
    (ti8 : PySem.W.typeIn K (.ref f8) = some (.type "function"))
    (l8 : K.lookup f8 = some ⟨oc8, od8, .func (PySem.W.fnOf "__init__" "UnlikeSorts.__init__" (defArgs s_UnlikeSorts_init) (defBody s_UnlikeSorts_init) (defScope s_UnlikeSorts_init) .none kV8 dc8 pm8 an8 cd8 ct8), sl8⟩)
    (e8 : PySem.W.codeIn K cd8 "UnlikeSorts.__init__" = true)
    (k8 : PySem.W.keepIn K (.ref f8) = true)
    (a9 : PySem.W.findIn K (.ref C_InvalidText) "__init__" = some (some (.ref f9)))
    (ti9 : PySem.W.typeIn K (.ref f9) = some (.type "function"))
    (l9 : K.lookup f9 = some ⟨oc9, od9, .func (PySem.W.fnOf "__init__" "InvalidText.__init__" (defArgs s_InvalidText_init) (defBody s_InvalidText_init) (defScope s_InvalidText_init) .none kV9 dc9 pm9 an9 cd9 ct9), sl9⟩)
    (e9 : PySem.W.codeIn K cd9 "InvalidText.__init__" = true)
    (k9 : PySem.W.keepIn K (.ref f9) = true)
    (a10 : PySem.W.findIn K (.ref C_InvalidBoard) "__init__" = some (some (.ref f10)))
    (ti10 : PySem.W.typeIn K (.ref f10) = some (.type "function"))
    (l10 : K.lookup f10 = some ⟨oc10, od10, .func (PySem.W.fnOf "__init__" "InvalidBoard.__init__" (defArgs s_InvalidBoard_init) (defBody s_InvalidBoard_init) (defScope s_InvalidBoard_init) .none kV10 dc10 pm10 an10 cd10 ct10), sl10⟩)
    (e10 : PySem.W.codeIn K cd10 "InvalidBoard.__init__" = true)
    (k10 : PySem.W.keepIn K (.ref f10) = true)
    (a11 : PySem.W.findIn K (.ref C_TooDeep) "__init__" = some (some (.ref f11)))
    (ti11 : PySem.W.typeIn K (.ref f11) = some (.type "function"))
    (l11 : K.lookup f11 = some ⟨oc11, od11, .func (PySem.W.fnOf "__init__" "TooDeep.__init__" (defArgs s_TooDeep_init) (defBody s_TooDeep_init) (defScope s_TooDeep_init) .none kV11 dc11 pm11 an11 cd11 ct11), sl11⟩)
    (e11 : PySem.W.codeIn K cd11 "TooDeep.__init__" = true)
    (k11 : PySem.W.keepIn K (.ref f11) = true)
    (a12 : PySem.W.findIn K (.ref C_TooMany) "__init__" = some (some (.ref f12)))
    (ti12 : PySem.W.typeIn K (.ref f12) = some (.type "function"))
    (l12 : K.lookup f12 = some ⟨oc12, od12, .func (PySem.W.fnOf "__init__" "TooMany.__init__" (defArgs s_TooMany_init) (defBody s_TooMany_init) (defScope s_TooMany_init) .none kV12 dc12 pm12 an12 cd12 ct12), sl12⟩)
    (e12 : PySem.W.codeIn K cd12 "TooMany.__init__" = true)
    (k12 : PySem.W.keepIn K (.ref f12) = true)
    (a13 : PySem.W.findIn K (.ref C_NotBelow) "__init__" = some (some (.ref f13)))
    (ti13 : PySem.W.typeIn K (.ref f13) = some (.type "function"))
    (l13 : K.lookup f13 = some ⟨oc13, od13, .func (PySem.W.fnOf "__init__" "NotBelow.__init__" (defArgs s_NotBelow_init) (defBody s_NotBelow_init) (defScope s_NotBelow_init) .none kV13 dc13 pm13 an13 cd13 ct13), sl13⟩)
    (e13 : PySem.W.codeIn K cd13 "NotBelow.__init__" = true)
    (k13 : PySem.W.keepIn K (.ref f13) = true)
    (a14 : PySem.W.findIn K (.ref C_InUse) "__init__" = some (some (.ref f14)))
    (ti14 : PySem.W.typeIn K (.ref f14) = some (.type "function"))
    (l14 : K.lookup f14 = some ⟨oc14, od14, .func (PySem.W.fnOf "__init__" "InUse.__init__" (defArgs s_InUse_init) (defBody s_InUse_init) (defScope s_InUse_init) .none kV14 dc14 pm14 an14 cd14 ct14), sl14⟩)
    (e14 : PySem.W.codeIn K cd14 "InUse.__init__" = true)
    (k14 : PySem.W.keepIn K (.ref f14) = true)
    (a15 : PySem.W.findIn K (.ref C_NotTold) "__init__" = some (some (.ref f15)))
    (ti15 : PySem.W.typeIn K (.ref f15) = some (.type "function"))
    (l15 : K.lookup f15 = some ⟨oc15, od15, .func (PySem.W.fnOf "__init__" "NotTold.__init__" (defArgs s_NotTold_init) (defBody s_NotTold_init) (defScope s_NotTold_init) .none kV15 dc15 pm15 an15 cd15 ct15), sl15⟩)
    (e15 : PySem.W.codeIn K cd15 "NotTold.__init__" = true)
    (k15 : PySem.W.keepIn K (.ref f15) = true)
    (a16 : PySem.W.findIn K (.ref C_Full) "__init__" = some (some (.ref f16)))
    (ti16 : PySem.W.typeIn K (.ref f16) = some (.type "function"))
    (l16 : K.lookup f16 = some ⟨oc16, od16, .func (PySem.W.fnOf "__init__" "Full.__init__" (defArgs s_Full_init) (defBody s_Full_init) (defScope s_Full_init) .none kV16 dc16 pm16 an16 cd16 ct16), sl16⟩)
    (e16 : PySem.W.codeIn K cd16 "Full.__init__" = true)
    (k16 : PySem.W.keepIn K (.ref f16) = true)
    (a17 : PySem.W.findIn K (.ref C_InvalidLimit) "__init__" = some (some (.ref f17)))
    (ti17 : PySem.W.typeIn K (.ref f17) = some (.type "function"))
    (l17 : K.lookup f17 = some ⟨oc17, od17, .func (PySem.W.fnOf "__init__" "InvalidLimit.__init__" (defArgs s_InvalidLimit_init) (defBody s_InvalidLimit_init) (defScope s_InvalidLimit_init) .none kV17 dc17 pm17 an17 cd17 ct17), sl17⟩)
    (e17 : PySem.W.codeIn K cd17 "InvalidLimit.__init__" = true)
    (k17 : PySem.W.keepIn K (.ref f17) = true)
    (a18 : PySem.W.findIn K (.ref C_InvalidCommand) "__init__" = some (some (.ref f18)))
    (ti18 : PySem.W.typeIn K (.ref f18) = some (.type "function"))
    (l18 : K.lookup f18 = some ⟨oc18, od18, .func (PySem.W.fnOf "__init__" "InvalidCommand.__init__" (defArgs s_InvalidCommand_init) (defBody s_InvalidCommand_init) (defScope s_InvalidCommand_init) .none kV18 dc18 pm18 an18 cd18 ct18), sl18⟩)
    (e18 : PySem.W.codeIn K cd18 "InvalidCommand.__init__" = true)
    (k18 : PySem.W.keepIn K (.ref f18) = true)
    (a19 : PySem.W.findIn K (.ref C_InvalidPage) "__init__" = some (some (.ref f19)))
    (ti19 : PySem.W.typeIn K (.ref f19) = some (.type "function"))
    (l19 : K.lookup f19 = some ⟨oc19, od19, .func (PySem.W.fnOf "__init__" "InvalidPage.__init__" (defArgs s_InvalidPage_init) (defBody s_InvalidPage_init) (defScope s_InvalidPage_init) .none kV19 dc19 pm19 an19 cd19 ct19), sl19⟩)
    (e19 : PySem.W.codeIn K cd19 "InvalidPage.__init__" = true)
    (k19 : PySem.W.keepIn K (.ref f19) = true)
    (a20 : PySem.W.nsIn K mainGlobals "_law_errors_of" = some (some (.ref f20)))
    (l20 : K.lookup f20 = some ⟨oc20, od20, .func (PySem.W.fnOf "_law_errors_of" "_law_errors_of" (defArgs s_law_errors_of) (defBody s_law_errors_of) (defScope s_law_errors_of) .none kV20 dc20 pm20 an20 cd20 ct20), sl20⟩)
    (e20 : PySem.W.codeIn K cd20 "_law_errors_of" = true)
    (k20 : PySem.W.keepIn K (.ref f20) = true)
    (a21 : PySem.W.findIn K (.ref C_NothingLeft) "__init__" = some (some (.ref f21)))
    (ti21 : PySem.W.typeIn K (.ref f21) = some (.type "function"))
    (l21 : K.lookup f21 = some ⟨oc21, od21, .func (PySem.W.fnOf "__init__" "NothingLeft.__init__" (defArgs s_NothingLeft_init) (defBody s_NothingLeft_init) (defScope s_NothingLeft_init) .none kV21 dc21 pm21 an21 cd21 ct21), sl21⟩)
    (e21 : PySem.W.codeIn K cd21 "NothingLeft.__init__" = true)
    (k21 : PySem.W.keepIn K (.ref f21) = true)
    (a22 : PySem.W.nsIn K mainGlobals "_law_draw" = some (some (.ref f22)))
    (l22 : K.lookup f22 = some ⟨oc22, od22, .func (PySem.W.fnOf "_law_draw" "_law_draw" (defArgs s_law_draw) (defBody s_law_draw) (defScope s_law_draw) .none kV22 dc22 pm22 an22 cd22 ct22), sl22⟩)
    (e22 : PySem.W.codeIn K cd22 "_law_draw" = true)
    (k22 : PySem.W.keepIn K (.ref f22) = true)
    (a23 : PySem.W.nsIn K mainGlobals "_law_of" = some (some (.ref f23)))
    (l23 : K.lookup f23 = some ⟨oc23, od23, .func (PySem.W.fnOf "_law_of" "_law_of" (defArgs s_law_of) (defBody s_law_of) (defScope s_law_of) .none kV23 dc23 pm23 an23 cd23 ct23), sl23⟩)
    (e23 : PySem.W.codeIn K cd23 "_law_of" = true)
    (k23 : PySem.W.keepIn K (.ref f23) = true)
    (a24 : PySem.W.nsIn K mainGlobals "_law_same" = some (some (.ref f24)))
    (l24 : K.lookup f24 = some ⟨oc24, od24, .func (PySem.W.fnOf "_law_same" "_law_same" (defArgs s_law_same) (defBody s_law_same) (defScope s_law_same) .none kV24 dc24 pm24 an24 cd24 ct24), sl24⟩)
    (e24 : PySem.W.codeIn K cd24 "_law_same" = true)
    (k24 : PySem.W.keepIn K (.ref f24) = true)
    (a25 : PySem.W.nsIn K mainGlobals "_law_kinds" = some (some (.ref f25)))
    (l25 : K.lookup f25 = some ⟨oc25, od25, .func (PySem.W.fnOf "_law_kinds" "_law_kinds" (defArgs s_law_kinds) (defBody s_law_kinds) (defScope s_law_kinds) .none kV25 dc25 pm25 an25 cd25 ct25), sl25⟩)
    (e25 : PySem.W.codeIn K cd25 "_law_kinds" = true)
    (k25 : PySem.W.keepIn K (.ref f25) = true)
    (a26 : PySem.W.findIn K (.ref C_UnknownName) "__init__" = some (some (.ref f26)))
    (ti26 : PySem.W.typeIn K (.ref f26) = some (.type "function"))
    (l26 : K.lookup f26 = some ⟨oc26, od26, .func (PySem.W.fnOf "__init__" "UnknownName.__init__" (defArgs s_UnknownName_init) (defBody s_UnknownName_init) (defScope s_UnknownName_init) .none kV26 dc26 pm26 an26 cd26 ct26), sl26⟩)
    (e26 : PySem.W.codeIn K cd26 "UnknownName.__init__" = true)
    (k26 : PySem.W.keepIn K (.ref f26) = true)
    (a27 : PySem.W.findIn K (.ref C_UnknownClaim) "__init__" = some (some (.ref f27)))
    (ti27 : PySem.W.typeIn K (.ref f27) = some (.type "function"))
    (l27 : K.lookup f27 = some ⟨oc27, od27, .func (PySem.W.fnOf "__init__" "UnknownClaim.__init__" (defArgs s_UnknownClaim_init) (defBody s_UnknownClaim_init) (defScope s_UnknownClaim_init) .none kV27 dc27 pm27 an27 cd27 ct27), sl27⟩)
    (e27 : PySem.W.codeIn K cd27 "UnknownClaim.__init__" = true)
    (k27 : PySem.W.keepIn K (.ref f27) = true)
    (a28 : PySem.W.nsIn K mainGlobals "_law_field" = some (some (.ref f28)))
    (l28 : K.lookup f28 = some ⟨oc28, od28, .func (PySem.W.fnOf "_law_field" "_law_field" (defArgs s_law_field) (defBody s_law_field) (defScope s_law_field) .none kV28 dc28 pm28 an28 cd28 ct28), sl28⟩)
    (e28 : PySem.W.codeIn K cd28 "_law_field" = true)
    (k28 : PySem.W.keepIn K (.ref f28) = true)
    (a29 : PySem.W.nsIn K mainGlobals "law" = some (some (.ref f29)))
    (l29 : K.lookup f29 = some ⟨oc29, od29, .func (PySem.W.fnOf "law" "law" (defArgs s_law) (defBody s_law) (defScope s_law) .none kV29 dc29 pm29 an29 cd29 ct29), sl29⟩)
    (e29 : PySem.W.codeIn K cd29 "law" = true)
    (k29 : PySem.W.keepIn K (.ref f29) = true)
    (z_IndexError : PySem.W.nsIn K mainGlobals "IndexError" = some none)
    (z_LookupError : PySem.W.nsIn K mainGlobals "LookupError" = some none)
    (z_ValueError : PySem.W.nsIn K mainGlobals "ValueError" = some none)
    (z_all : PySem.W.nsIn K mainGlobals "all" = some none)
    (z_bool : PySem.W.nsIn K mainGlobals "bool" = some none)
    (z_int : PySem.W.nsIn K mainGlobals "int" = some none)
    (z_isinstance : PySem.W.nsIn K mainGlobals "isinstance" = some none)
    (z_len : PySem.W.nsIn K mainGlobals "len" = some none)
    (z_list : PySem.W.nsIn K mainGlobals "list" = some none)
    (z_range : PySem.W.nsIn K mainGlobals "range" = some none)
    (z_str : PySem.W.nsIn K mainGlobals "str" = some none)
    (z_tuple : PySem.W.nsIn K mainGlobals "tuple" = some none)
    (z_zip : PySem.W.nsIn K mainGlobals "zip" = some none)
    : ∃ fd : FuncData, (∀ (s : Shared) (v : Value), BindsTo s fd ⟨[v], []⟩ [("_law_script", v)]) ∧ ∀ base : Heap, K.In base → base.Ns mainGlobals mg → FnOk l.prog w K mg base (L2.CX l.prog w) 16 fa fd ["_law_script"] (spL K) := by
  have e := hfa.symm.trans (PySem.W.mg_of X G a29)
  cases e
  have eC_MapError : cmOf mg "MapError" = C_MapError := by unfold cmOf; rw [PySem.W.mg_of X G aC_MapError]
  have eC_Missing : cmOf mg "Missing" = C_Missing := by unfold cmOf; rw [PySem.W.mg_of X G aC_Missing]
  have eC_InvalidName : cmOf mg "InvalidName" = C_InvalidName := by unfold cmOf; rw [PySem.W.mg_of X G aC_InvalidName]
  have eC_InvalidDeclaration : cmOf mg "InvalidDeclaration" = C_InvalidDeclaration := by unfold cmOf; rw [PySem.W.mg_of X G aC_InvalidDeclaration]
  have eC_DuplicateName : cmOf mg "DuplicateName" = C_DuplicateName := by unfold cmOf; rw [PySem.W.mg_of X G aC_DuplicateName]
  have eC_Unlike : cmOf mg "Unlike" = C_Unlike := by unfold cmOf; rw [PySem.W.mg_of X G aC_Unlike]
  have eC_Ring : cmOf mg "Ring" = C_Ring := by unfold cmOf; rw [PySem.W.mg_of X G aC_Ring]
  have eC_WrongSort : cmOf mg "WrongSort" = C_WrongSort := by unfold cmOf; rw [PySem.W.mg_of X G aC_WrongSort]
  have eC_UnlikeSorts : cmOf mg "UnlikeSorts" = C_UnlikeSorts := by unfold cmOf; rw [PySem.W.mg_of X G aC_UnlikeSorts]
  have eC_InvalidText : cmOf mg "InvalidText" = C_InvalidText := by unfold cmOf; rw [PySem.W.mg_of X G aC_InvalidText]
  have eC_InvalidBoard : cmOf mg "InvalidBoard" = C_InvalidBoard := by unfold cmOf; rw [PySem.W.mg_of X G aC_InvalidBoard]
  have eC_TooDeep : cmOf mg "TooDeep" = C_TooDeep := by unfold cmOf; rw [PySem.W.mg_of X G aC_TooDeep]
  have eC_TooMany : cmOf mg "TooMany" = C_TooMany := by unfold cmOf; rw [PySem.W.mg_of X G aC_TooMany]
  have eC_NotBelow : cmOf mg "NotBelow" = C_NotBelow := by unfold cmOf; rw [PySem.W.mg_of X G aC_NotBelow]
  have eC_InUse : cmOf mg "InUse" = C_InUse := by unfold cmOf; rw [PySem.W.mg_of X G aC_InUse]
  have eC_NotTold : cmOf mg "NotTold" = C_NotTold := by unfold cmOf; rw [PySem.W.mg_of X G aC_NotTold]
  have eC_Full : cmOf mg "Full" = C_Full := by unfold cmOf; rw [PySem.W.mg_of X G aC_Full]
  have eC_InvalidLimit : cmOf mg "InvalidLimit" = C_InvalidLimit := by unfold cmOf; rw [PySem.W.mg_of X G aC_InvalidLimit]
  have eC_InvalidCommand : cmOf mg "InvalidCommand" = C_InvalidCommand := by unfold cmOf; rw [PySem.W.mg_of X G aC_InvalidCommand]
  have eC_InvalidPage : cmOf mg "InvalidPage" = C_InvalidPage := by unfold cmOf; rw [PySem.W.mg_of X G aC_InvalidPage]
  have eC_UnknownName : cmOf mg "UnknownName" = C_UnknownName := by unfold cmOf; rw [PySem.W.mg_of X G aC_UnknownName]
  have eC_UnknownClaim : cmOf mg "UnknownClaim" = C_UnknownClaim := by unfold cmOf; rw [PySem.W.mg_of X G aC_UnknownClaim]
  have eC_NothingLeft : cmOf mg "NothingLeft" = C_NothingLeft := by unfold cmOf; rw [PySem.W.mg_of X G aC_NothingLeft]
  have F1 := fun_mk (st := s_law_bag) l1 e1 k1
  have b1 := F1.binds (ps := ["_law_script"]) fun _ _ _ _ _ _ us hl => match us, hl with | [_], _ => rfl
  have F2 := fun_mk (st := s_InvalidName_init) l2 e2 k2
  have b2 := F2.binds (ps := ["self", "value"]) fun _ _ _ _ _ _ us hl => match us, hl with | [_, _], _ => rfl
  have F3 := fun_mk (st := s_InvalidDeclaration_init) l3 e3 k3
  have b3 := F3.binds (ps := ["self", "at"]) fun _ _ _ _ _ _ us hl => match us, hl with | [_, _], _ => rfl
  have F4 := fun_mk (st := s_DuplicateName_init) l4 e4 k4
  have b4 := F4.binds (ps := ["self", "name"]) fun _ _ _ _ _ _ us hl => match us, hl with | [_, _], _ => rfl
  have F5 := fun_mk (st := s_Unlike_init) l5 e5 k5
  have b5 := F5.binds (ps := ["self", "low", "high"]) fun _ _ _ _ _ _ us hl => match us, hl with | [_, _, _], _ => rfl
  have F6 := fun_mk (st := s_Ring_init) l6 e6 k6
  have b6 := F6.binds (ps := ["self", "low", "high"]) fun _ _ _ _ _ _ us hl => match us, hl with | [_, _, _], _ => rfl
  have F7 := fun_mk (st := s_WrongSort_init) l7 e7 k7
  have b7 := F7.binds (ps := ["self", "path"]) fun _ _ _ _ _ _ us hl => match us, hl with | [_, _], _ => rfl
  have F8 := fun_mk (st := s_UnlikeSorts_init) l8 e8 k8
  have b8 := F8.binds (ps := ["self"]) fun _ _ _ _ _ _ us hl => match us, hl with | [_], _ => rfl
  have F9 := fun_mk (st := s_InvalidText_init) l9 e9 k9
  have b9 := F9.binds (ps := ["self", "value"]) fun _ _ _ _ _ _ us hl => match us, hl with | [_, _], _ => rfl
  have F10 := fun_mk (st := s_InvalidBoard_init) l10 e10 k10
  have b10 := F10.binds (ps := ["self", "name"]) fun _ _ _ _ _ _ us hl => match us, hl with | [_, _], _ => rfl
  have F11 := fun_mk (st := s_TooDeep_init) l11 e11 k11
  have b11 := F11.binds (ps := ["self", "most"]) fun _ _ _ _ _ _ us hl => match us, hl with | [_, _], _ => rfl
  have F12 := fun_mk (st := s_TooMany_init) l12 e12 k12
  have b12 := F12.binds (ps := ["self", "most"]) fun _ _ _ _ _ _ us hl => match us, hl with | [_, _], _ => rfl
  have F13 := fun_mk (st := s_NotBelow_init) l13 e13 k13
  have b13 := F13.binds (ps := ["self"]) fun _ _ _ _ _ _ us hl => match us, hl with | [_], _ => rfl
  have F14 := fun_mk (st := s_InUse_init) l14 e14 k14
  have b14 := F14.binds (ps := ["self", "name"]) fun _ _ _ _ _ _ us hl => match us, hl with | [_, _], _ => rfl
  have F15 := fun_mk (st := s_NotTold_init) l15 e15 k15
  have b15 := F15.binds (ps := ["self", "low", "high"]) fun _ _ _ _ _ _ us hl => match us, hl with | [_, _, _], _ => rfl
  have F16 := fun_mk (st := s_Full_init) l16 e16 k16
  have b16 := F16.binds (ps := ["self", "limit"]) fun _ _ _ _ _ _ us hl => match us, hl with | [_, _], _ => rfl
  have F17 := fun_mk (st := s_InvalidLimit_init) l17 e17 k17
  have b17 := F17.binds (ps := ["self", "value"]) fun _ _ _ _ _ _ us hl => match us, hl with | [_, _], _ => rfl
  have F18 := fun_mk (st := s_InvalidCommand_init) l18 e18 k18
  have b18 := F18.binds (ps := ["self", "at"]) fun _ _ _ _ _ _ us hl => match us, hl with | [_, _], _ => rfl
  have F19 := fun_mk (st := s_InvalidPage_init) l19 e19 k19
  have b19 := F19.binds (ps := ["self", "line"]) fun _ _ _ _ _ _ us hl => match us, hl with | [_, _], _ => rfl
  have F20 := fun_mk (st := s_law_errors_of) l20 e20 k20
  have b20 := F20.binds (ps := ["_law_a", "_law_b"]) fun _ _ _ _ _ _ us hl => match us, hl with | [_, _], _ => rfl
  have F21 := fun_mk (st := s_NothingLeft_init) l21 e21 k21
  have b21 := F21.binds (ps := ["self"]) fun _ _ _ _ _ _ us hl => match us, hl with | [_], _ => rfl
  have F22 := fun_mk (st := s_law_draw) l22 e22 k22
  have b22 := F22.binds (ps := ["_law_bag_here", "_law_many"]) fun _ _ _ _ _ _ us hl => match us, hl with | [_, _], _ => rfl
  have F23 := fun_mk (st := s_law_of) l23 e23 k23
  have b23 := F23.binds (ps := ["_law_bag_here", "_law_some"]) fun _ _ _ _ _ _ us hl => match us, hl with | [_, _], _ => rfl
  have F24 := fun_mk (st := s_law_same) l24 e24 k24
  have b24 := F24.binds (ps := ["_law_found", "_law_due"]) fun _ _ _ _ _ _ us hl => match us, hl with | [_, _], _ => rfl
  have F25 := fun_mk (st := s_law_kinds) l25 e25 k25
  have b25 := F25.binds (ps := ["_law_e"]) fun _ _ _ _ _ _ us hl => match us, hl with | [_], _ => rfl
  have F26 := fun_mk (st := s_UnknownName_init) l26 e26 k26
  have b26 := F26.binds (ps := ["self", "name"]) fun _ _ _ _ _ _ us hl => match us, hl with | [_, _], _ => rfl
  have F27 := fun_mk (st := s_UnknownClaim_init) l27 e27 k27
  have b27 := F27.binds (ps := ["self", "name"]) fun _ _ _ _ _ _ us hl => match us, hl with | [_, _], _ => rfl
  have F28 := fun_mk (st := s_law_field) l28 e28 k28
  have b28 := F28.binds (ps := ["_law_e"]) fun _ _ _ _ _ _ us hl => match us, hl with | [_], _ => rfl
  have F29 := fun_mk (st := s_law) l29 e29 k29
  have b29 := F29.binds (ps := ["_law_script"]) fun _ _ _ _ _ _ us hl => match us, hl with | [_], _ => rfl
  let Z : Txt K mg w := {
    gm_MapError := by rw [eC_MapError]; exact PySem.W.mg_of X G aC_MapError
    gc_MapError := ⟨_, .ref C_MapError, PySem.W.mg_of X G aC_MapError, rfl, fun I => by unfold RepT; rw [eC_MapError]⟩
    gm_Missing := by rw [eC_Missing]; exact PySem.W.mg_of X G aC_Missing
    gc_Missing := ⟨_, .ref C_Missing, PySem.W.mg_of X G aC_Missing, rfl, fun I => by unfold RepT; rw [eC_Missing]⟩
    gm_InvalidName := by rw [eC_InvalidName]; exact PySem.W.mg_of X G aC_InvalidName
    gc_InvalidName := ⟨_, .ref C_InvalidName, PySem.W.mg_of X G aC_InvalidName, rfl, fun I => by unfold RepT; rw [eC_InvalidName]⟩
    gm_InvalidDeclaration := by rw [eC_InvalidDeclaration]; exact PySem.W.mg_of X G aC_InvalidDeclaration
    gc_InvalidDeclaration := ⟨_, .ref C_InvalidDeclaration, PySem.W.mg_of X G aC_InvalidDeclaration, rfl, fun I => by unfold RepT; rw [eC_InvalidDeclaration]⟩
    gm_DuplicateName := by rw [eC_DuplicateName]; exact PySem.W.mg_of X G aC_DuplicateName
    gc_DuplicateName := ⟨_, .ref C_DuplicateName, PySem.W.mg_of X G aC_DuplicateName, rfl, fun I => by unfold RepT; rw [eC_DuplicateName]⟩
    gm_Unlike := by rw [eC_Unlike]; exact PySem.W.mg_of X G aC_Unlike
    gc_Unlike := ⟨_, .ref C_Unlike, PySem.W.mg_of X G aC_Unlike, rfl, fun I => by unfold RepT; rw [eC_Unlike]⟩
    gm_Ring := by rw [eC_Ring]; exact PySem.W.mg_of X G aC_Ring
    gc_Ring := ⟨_, .ref C_Ring, PySem.W.mg_of X G aC_Ring, rfl, fun I => by unfold RepT; rw [eC_Ring]⟩
    gm_WrongSort := by rw [eC_WrongSort]; exact PySem.W.mg_of X G aC_WrongSort
    gc_WrongSort := ⟨_, .ref C_WrongSort, PySem.W.mg_of X G aC_WrongSort, rfl, fun I => by unfold RepT; rw [eC_WrongSort]⟩
    gm_UnlikeSorts := by rw [eC_UnlikeSorts]; exact PySem.W.mg_of X G aC_UnlikeSorts
    gc_UnlikeSorts := ⟨_, .ref C_UnlikeSorts, PySem.W.mg_of X G aC_UnlikeSorts, rfl, fun I => by unfold RepT; rw [eC_UnlikeSorts]⟩
    gm_InvalidText := by rw [eC_InvalidText]; exact PySem.W.mg_of X G aC_InvalidText
    gc_InvalidText := ⟨_, .ref C_InvalidText, PySem.W.mg_of X G aC_InvalidText, rfl, fun I => by unfold RepT; rw [eC_InvalidText]⟩
    gm_InvalidBoard := by rw [eC_InvalidBoard]; exact PySem.W.mg_of X G aC_InvalidBoard
    gc_InvalidBoard := ⟨_, .ref C_InvalidBoard, PySem.W.mg_of X G aC_InvalidBoard, rfl, fun I => by unfold RepT; rw [eC_InvalidBoard]⟩
    gm_TooDeep := by rw [eC_TooDeep]; exact PySem.W.mg_of X G aC_TooDeep
    gc_TooDeep := ⟨_, .ref C_TooDeep, PySem.W.mg_of X G aC_TooDeep, rfl, fun I => by unfold RepT; rw [eC_TooDeep]⟩
    gm_TooMany := by rw [eC_TooMany]; exact PySem.W.mg_of X G aC_TooMany
    gc_TooMany := ⟨_, .ref C_TooMany, PySem.W.mg_of X G aC_TooMany, rfl, fun I => by unfold RepT; rw [eC_TooMany]⟩
    gm_NotBelow := by rw [eC_NotBelow]; exact PySem.W.mg_of X G aC_NotBelow
    gc_NotBelow := ⟨_, .ref C_NotBelow, PySem.W.mg_of X G aC_NotBelow, rfl, fun I => by unfold RepT; rw [eC_NotBelow]⟩
    gm_InUse := by rw [eC_InUse]; exact PySem.W.mg_of X G aC_InUse
    gc_InUse := ⟨_, .ref C_InUse, PySem.W.mg_of X G aC_InUse, rfl, fun I => by unfold RepT; rw [eC_InUse]⟩
    gm_NotTold := by rw [eC_NotTold]; exact PySem.W.mg_of X G aC_NotTold
    gc_NotTold := ⟨_, .ref C_NotTold, PySem.W.mg_of X G aC_NotTold, rfl, fun I => by unfold RepT; rw [eC_NotTold]⟩
    gm_Full := by rw [eC_Full]; exact PySem.W.mg_of X G aC_Full
    gc_Full := ⟨_, .ref C_Full, PySem.W.mg_of X G aC_Full, rfl, fun I => by unfold RepT; rw [eC_Full]⟩
    gm_InvalidLimit := by rw [eC_InvalidLimit]; exact PySem.W.mg_of X G aC_InvalidLimit
    gc_InvalidLimit := ⟨_, .ref C_InvalidLimit, PySem.W.mg_of X G aC_InvalidLimit, rfl, fun I => by unfold RepT; rw [eC_InvalidLimit]⟩
    gm_InvalidCommand := by rw [eC_InvalidCommand]; exact PySem.W.mg_of X G aC_InvalidCommand
    gc_InvalidCommand := ⟨_, .ref C_InvalidCommand, PySem.W.mg_of X G aC_InvalidCommand, rfl, fun I => by unfold RepT; rw [eC_InvalidCommand]⟩
    gm_InvalidPage := by rw [eC_InvalidPage]; exact PySem.W.mg_of X G aC_InvalidPage
    gc_InvalidPage := ⟨_, .ref C_InvalidPage, PySem.W.mg_of X G aC_InvalidPage, rfl, fun I => by unfold RepT; rw [eC_InvalidPage]⟩
    gm_UnknownName := by rw [eC_UnknownName]; exact PySem.W.mg_of X G aC_UnknownName
    gc_UnknownName := ⟨_, .ref C_UnknownName, PySem.W.mg_of X G aC_UnknownName, rfl, fun I => by unfold RepT; rw [eC_UnknownName]⟩
    gm_UnknownClaim := by rw [eC_UnknownClaim]; exact PySem.W.mg_of X G aC_UnknownClaim
    gc_UnknownClaim := ⟨_, .ref C_UnknownClaim, PySem.W.mg_of X G aC_UnknownClaim, rfl, fun I => by unfold RepT; rw [eC_UnknownClaim]⟩
    gm_NothingLeft := by rw [eC_NothingLeft]; exact PySem.W.mg_of X G aC_NothingLeft
    gc_NothingLeft := ⟨_, .ref C_NothingLeft, PySem.W.mg_of X G aC_NothingLeft, rfl, fun I => by unfold RepT; rw [eC_NothingLeft]⟩
    xa := ⟨(by simp only [xds, List.map_cons, List.map_nil, eC_MapError, eC_Missing, eC_InvalidName, eC_InvalidDeclaration, eC_DuplicateName, eC_Unlike, eC_Ring, eC_WrongSort, eC_UnlikeSorts, eC_InvalidText, eC_InvalidBoard, eC_TooDeep, eC_TooMany, eC_NotBelow, eC_InUse, eC_NotTold, eC_Full, eC_InvalidLimit, eC_InvalidCommand, eC_InvalidPage, eC_UnknownName, eC_UnknownClaim, eC_NothingLeft]; exact xnd), (all_c (by (try dsimp only); rw [eC_MapError]; exact ⟨by rw [xc_MapError]; rfl, xt_MapError⟩) (all_c (by (try dsimp only); rw [eC_Missing]; exact ⟨by rw [xc_Missing]; rfl, xt_Missing⟩) (all_c (by (try dsimp only); rw [eC_InvalidName]; exact ⟨by rw [xc_InvalidName]; rfl, xt_InvalidName⟩) (all_c (by (try dsimp only); rw [eC_InvalidDeclaration]; exact ⟨by rw [xc_InvalidDeclaration]; rfl, xt_InvalidDeclaration⟩) (all_c (by (try dsimp only); rw [eC_DuplicateName]; exact ⟨by rw [xc_DuplicateName]; rfl, xt_DuplicateName⟩) (all_c (by (try dsimp only); rw [eC_Unlike]; exact ⟨by rw [xc_Unlike]; rfl, xt_Unlike⟩) (all_c (by (try dsimp only); rw [eC_Ring]; exact ⟨by rw [xc_Ring]; rfl, xt_Ring⟩) (all_c (by (try dsimp only); rw [eC_WrongSort]; exact ⟨by rw [xc_WrongSort]; rfl, xt_WrongSort⟩) (all_c (by (try dsimp only); rw [eC_UnlikeSorts]; exact ⟨by rw [xc_UnlikeSorts]; rfl, xt_UnlikeSorts⟩) (all_c (by (try dsimp only); rw [eC_InvalidText]; exact ⟨by rw [xc_InvalidText]; rfl, xt_InvalidText⟩) (all_c (by (try dsimp only); rw [eC_InvalidBoard]; exact ⟨by rw [xc_InvalidBoard]; rfl, xt_InvalidBoard⟩) (all_c (by (try dsimp only); rw [eC_TooDeep]; exact ⟨by rw [xc_TooDeep]; rfl, xt_TooDeep⟩) (all_c (by (try dsimp only); rw [eC_TooMany]; exact ⟨by rw [xc_TooMany]; rfl, xt_TooMany⟩) (all_c (by (try dsimp only); rw [eC_NotBelow]; exact ⟨by rw [xc_NotBelow]; rfl, xt_NotBelow⟩) (all_c (by (try dsimp only); rw [eC_InUse]; exact ⟨by rw [xc_InUse]; rfl, xt_InUse⟩) (all_c (by (try dsimp only); rw [eC_NotTold]; exact ⟨by rw [xc_NotTold]; rfl, xt_NotTold⟩) (all_c (by (try dsimp only); rw [eC_Full]; exact ⟨by rw [xc_Full]; rfl, xt_Full⟩) (all_c (by (try dsimp only); rw [eC_InvalidLimit]; exact ⟨by rw [xc_InvalidLimit]; rfl, xt_InvalidLimit⟩) (all_c (by (try dsimp only); rw [eC_InvalidCommand]; exact ⟨by rw [xc_InvalidCommand]; rfl, xt_InvalidCommand⟩) (all_c (by (try dsimp only); rw [eC_InvalidPage]; exact ⟨by rw [xc_InvalidPage]; rfl, xt_InvalidPage⟩) (all_c (by (try dsimp only); rw [eC_UnknownName]; exact ⟨by rw [xc_UnknownName]; rfl, xt_UnknownName⟩) (all_c (by (try dsimp only); rw [eC_UnknownClaim]; exact ⟨by rw [xc_UnknownClaim]; rfl, xt_UnknownClaim⟩) (all_c (by (try dsimp only); rw [eC_NothingLeft]; exact ⟨by rw [xc_NothingLeft]; rfl, xt_NothingLeft⟩) all_n))))))))))))))))))))))), (all_c ⟨cd_InvalidName, (by (try dsimp only); rw [eC_InvalidName]; exact xc_InvalidName), (by simp only [mroX, eC_InvalidName, eC_MapError, List.cons_append, List.nil_append, List.map_cons, List.map_nil]; exact xm_InvalidName)⟩ (all_c ⟨cd_InvalidDeclaration, (by (try dsimp only); rw [eC_InvalidDeclaration]; exact xc_InvalidDeclaration), (by simp only [mroX, eC_InvalidDeclaration, eC_MapError, List.cons_append, List.nil_append, List.map_cons, List.map_nil]; exact xm_InvalidDeclaration)⟩ (all_c ⟨cd_DuplicateName, (by (try dsimp only); rw [eC_DuplicateName]; exact xc_DuplicateName), (by simp only [mroX, eC_DuplicateName, eC_MapError, List.cons_append, List.nil_append, List.map_cons, List.map_nil]; exact xm_DuplicateName)⟩ (all_c ⟨cd_Unlike, (by (try dsimp only); rw [eC_Unlike]; exact xc_Unlike), (by simp only [mroX, eC_Unlike, eC_MapError, List.cons_append, List.nil_append, List.map_cons, List.map_nil]; exact xm_Unlike)⟩ (all_c ⟨cd_Ring, (by (try dsimp only); rw [eC_Ring]; exact xc_Ring), (by simp only [mroX, eC_Ring, eC_MapError, List.cons_append, List.nil_append, List.map_cons, List.map_nil]; exact xm_Ring)⟩ (all_c ⟨cd_WrongSort, (by (try dsimp only); rw [eC_WrongSort]; exact xc_WrongSort), (by simp only [mroX, eC_WrongSort, eC_MapError, List.cons_append, List.nil_append, List.map_cons, List.map_nil]; exact xm_WrongSort)⟩ (all_c ⟨cd_UnlikeSorts, (by (try dsimp only); rw [eC_UnlikeSorts]; exact xc_UnlikeSorts), (by simp only [mroX, eC_UnlikeSorts, eC_MapError, List.cons_append, List.nil_append, List.map_cons, List.map_nil]; exact xm_UnlikeSorts)⟩ (all_c ⟨cd_InvalidText, (by (try dsimp only); rw [eC_InvalidText]; exact xc_InvalidText), (by simp only [mroX, eC_InvalidText, eC_MapError, List.cons_append, List.nil_append, List.map_cons, List.map_nil]; exact xm_InvalidText)⟩ (all_c ⟨cd_InvalidBoard, (by (try dsimp only); rw [eC_InvalidBoard]; exact xc_InvalidBoard), (by simp only [mroX, eC_InvalidBoard, eC_MapError, List.cons_append, List.nil_append, List.map_cons, List.map_nil]; exact xm_InvalidBoard)⟩ (all_c ⟨cd_TooDeep, (by (try dsimp only); rw [eC_TooDeep]; exact xc_TooDeep), (by simp only [mroX, eC_TooDeep, eC_MapError, List.cons_append, List.nil_append, List.map_cons, List.map_nil]; exact xm_TooDeep)⟩ (all_c ⟨cd_TooMany, (by (try dsimp only); rw [eC_TooMany]; exact xc_TooMany), (by simp only [mroX, eC_TooMany, eC_MapError, List.cons_append, List.nil_append, List.map_cons, List.map_nil]; exact xm_TooMany)⟩ (all_c ⟨cd_NotBelow, (by (try dsimp only); rw [eC_NotBelow]; exact xc_NotBelow), (by simp only [mroX, eC_NotBelow, eC_MapError, List.cons_append, List.nil_append, List.map_cons, List.map_nil]; exact xm_NotBelow)⟩ (all_c ⟨cd_InUse, (by (try dsimp only); rw [eC_InUse]; exact xc_InUse), (by simp only [mroX, eC_InUse, eC_MapError, List.cons_append, List.nil_append, List.map_cons, List.map_nil]; exact xm_InUse)⟩ (all_c ⟨cd_NotTold, (by (try dsimp only); rw [eC_NotTold]; exact xc_NotTold), (by simp only [mroX, eC_NotTold, eC_MapError, List.cons_append, List.nil_append, List.map_cons, List.map_nil]; exact xm_NotTold)⟩ (all_c ⟨cd_Full, (by (try dsimp only); rw [eC_Full]; exact xc_Full), (by simp only [mroX, eC_Full, eC_MapError, List.cons_append, List.nil_append, List.map_cons, List.map_nil]; exact xm_Full)⟩ (all_c ⟨cd_InvalidLimit, (by (try dsimp only); rw [eC_InvalidLimit]; exact xc_InvalidLimit), (by simp only [mroX, eC_InvalidLimit, eC_MapError, List.cons_append, List.nil_append, List.map_cons, List.map_nil]; exact xm_InvalidLimit)⟩ (all_c ⟨cd_InvalidCommand, (by (try dsimp only); rw [eC_InvalidCommand]; exact xc_InvalidCommand), (by simp only [mroX, eC_InvalidCommand, eC_MapError, List.cons_append, List.nil_append, List.map_cons, List.map_nil]; exact xm_InvalidCommand)⟩ (all_c ⟨cd_InvalidPage, (by (try dsimp only); rw [eC_InvalidPage]; exact xc_InvalidPage), (by simp only [mroX, eC_InvalidPage, eC_MapError, List.cons_append, List.nil_append, List.map_cons, List.map_nil]; exact xm_InvalidPage)⟩ (all_c ⟨cd_NothingLeft, (by (try dsimp only); rw [eC_NothingLeft]; exact xc_NothingLeft), (by simp only [mroX, eC_NothingLeft, List.cons_append, List.nil_append, List.map_cons, List.map_nil]; exact xm_NothingLeft)⟩ (all_c ⟨cd_UnknownName, (by (try dsimp only); rw [eC_UnknownName]; exact xc_UnknownName), (by simp only [mroX, eC_UnknownName, eC_Missing, List.cons_append, List.nil_append, List.map_cons, List.map_nil]; exact xm_UnknownName)⟩ (all_c ⟨cd_UnknownClaim, (by (try dsimp only); rw [eC_UnknownClaim]; exact xc_UnknownClaim), (by simp only [mroX, eC_UnknownClaim, eC_Missing, List.cons_append, List.nil_append, List.map_cons, List.map_nil]; exact xm_UnknownClaim)⟩ all_n))))))))))))))))))))), (all_c (by (try dsimp only); rw [eC_InvalidName]; exact ⟨xg_InvalidName, xh_InvalidName, xe_InvalidName, xd_InvalidName, xq_InvalidName, xs1, xs2, xo_InvalidName⟩) (all_c (by (try dsimp only); rw [eC_InvalidDeclaration]; exact ⟨xg_InvalidDeclaration, xh_InvalidDeclaration, xe_InvalidDeclaration, xd_InvalidDeclaration, xq_InvalidDeclaration, xs1, xs2, xo_InvalidDeclaration⟩) (all_c (by (try dsimp only); rw [eC_DuplicateName]; exact ⟨xg_DuplicateName, xh_DuplicateName, xe_DuplicateName, xd_DuplicateName, xq_DuplicateName, xs1, xs2, xo_DuplicateName⟩) (all_c (by (try dsimp only); rw [eC_Unlike]; exact ⟨xg_Unlike, xh_Unlike, xe_Unlike, xd_Unlike, xq_Unlike, xs1, xs2, xo_Unlike⟩) (all_c (by (try dsimp only); rw [eC_Ring]; exact ⟨xg_Ring, xh_Ring, xe_Ring, xd_Ring, xq_Ring, xs1, xs2, xo_Ring⟩) (all_c (by (try dsimp only); rw [eC_WrongSort]; exact ⟨xg_WrongSort, xh_WrongSort, xe_WrongSort, xd_WrongSort, xq_WrongSort, xs1, xs2, xo_WrongSort⟩) (all_c (by (try dsimp only); rw [eC_UnlikeSorts]; exact ⟨xg_UnlikeSorts, xh_UnlikeSorts, xe_UnlikeSorts, xd_UnlikeSorts, xq_UnlikeSorts, xs1, xs2, xo_UnlikeSorts⟩) (all_c (by (try dsimp only); rw [eC_InvalidText]; exact ⟨xg_InvalidText, xh_InvalidText, xe_InvalidText, xd_InvalidText, xq_InvalidText, xs1, xs2, xo_InvalidText⟩) (all_c (by (try dsimp only); rw [eC_InvalidBoard]; exact ⟨xg_InvalidBoard, xh_InvalidBoard, xe_InvalidBoard, xd_InvalidBoard, xq_InvalidBoard, xs1, xs2, xo_InvalidBoard⟩) (all_c (by (try dsimp only); rw [eC_TooDeep]; exact ⟨xg_TooDeep, xh_TooDeep, xe_TooDeep, xd_TooDeep, xq_TooDeep, xs1, xs2, xo_TooDeep⟩) (all_c (by (try dsimp only); rw [eC_TooMany]; exact ⟨xg_TooMany, xh_TooMany, xe_TooMany, xd_TooMany, xq_TooMany, xs1, xs2, xo_TooMany⟩) (all_c (by (try dsimp only); rw [eC_NotBelow]; exact ⟨xg_NotBelow, xh_NotBelow, xe_NotBelow, xd_NotBelow, xq_NotBelow, xs1, xs2, xo_NotBelow⟩) (all_c (by (try dsimp only); rw [eC_InUse]; exact ⟨xg_InUse, xh_InUse, xe_InUse, xd_InUse, xq_InUse, xs1, xs2, xo_InUse⟩) (all_c (by (try dsimp only); rw [eC_NotTold]; exact ⟨xg_NotTold, xh_NotTold, xe_NotTold, xd_NotTold, xq_NotTold, xs1, xs2, xo_NotTold⟩) (all_c (by (try dsimp only); rw [eC_Full]; exact ⟨xg_Full, xh_Full, xe_Full, xd_Full, xq_Full, xs1, xs2, xo_Full⟩) (all_c (by (try dsimp only); rw [eC_InvalidLimit]; exact ⟨xg_InvalidLimit, xh_InvalidLimit, xe_InvalidLimit, xd_InvalidLimit, xq_InvalidLimit, xs1, xs2, xo_InvalidLimit⟩) (all_c (by (try dsimp only); rw [eC_InvalidCommand]; exact ⟨xg_InvalidCommand, xh_InvalidCommand, xe_InvalidCommand, xd_InvalidCommand, xq_InvalidCommand, xs1, xs2, xo_InvalidCommand⟩) (all_c (by (try dsimp only); rw [eC_InvalidPage]; exact ⟨xg_InvalidPage, xh_InvalidPage, xe_InvalidPage, xd_InvalidPage, xq_InvalidPage, xs1, xs2, xo_InvalidPage⟩) (all_c (by (try dsimp only); rw [eC_NothingLeft]; exact ⟨xg_NothingLeft, xh_NothingLeft, xe_NothingLeft, xd_NothingLeft, xq_NothingLeft, xs1, xs2, xo_NothingLeft⟩) (all_c (by (try dsimp only); rw [eC_UnknownName]; exact ⟨xg_UnknownName, xh_UnknownName, xe_UnknownName, xd_UnknownName, xq_UnknownName, xs1, xs2, xo_UnknownName⟩) (all_c (by (try dsimp only); rw [eC_UnknownClaim]; exact ⟨xg_UnknownClaim, xh_UnknownClaim, xe_UnknownClaim, xd_UnknownClaim, xq_UnknownClaim, xs1, xs2, xo_UnknownClaim⟩) all_n)))))))))))))))))))))⟩
    xf_at := ⟨(all_c (by (try dsimp only); rw [eC_InvalidDeclaration]; exact ⟨xg_InvalidDeclaration, xh_InvalidDeclaration, xe_InvalidDeclaration, xd_InvalidDeclaration⟩) (all_c (by (try dsimp only); rw [eC_InvalidCommand]; exact ⟨xg_InvalidCommand, xh_InvalidCommand, xe_InvalidCommand, xd_InvalidCommand⟩) all_n)), (all_c (by (try dsimp only); rw [eC_InvalidDeclaration]; exact xn_InvalidDeclaration_at) (all_c (by (try dsimp only); rw [eC_InvalidCommand]; exact xn_InvalidCommand_at) all_n))⟩
    xf_code := ⟨(all_c (by (try dsimp only); rw [eC_InvalidName]; exact ⟨xg_InvalidName, xh_InvalidName, xe_InvalidName, xd_InvalidName⟩) (all_c (by (try dsimp only); rw [eC_InvalidDeclaration]; exact ⟨xg_InvalidDeclaration, xh_InvalidDeclaration, xe_InvalidDeclaration, xd_InvalidDeclaration⟩) (all_c (by (try dsimp only); rw [eC_DuplicateName]; exact ⟨xg_DuplicateName, xh_DuplicateName, xe_DuplicateName, xd_DuplicateName⟩) (all_c (by (try dsimp only); rw [eC_Unlike]; exact ⟨xg_Unlike, xh_Unlike, xe_Unlike, xd_Unlike⟩) (all_c (by (try dsimp only); rw [eC_Ring]; exact ⟨xg_Ring, xh_Ring, xe_Ring, xd_Ring⟩) (all_c (by (try dsimp only); rw [eC_WrongSort]; exact ⟨xg_WrongSort, xh_WrongSort, xe_WrongSort, xd_WrongSort⟩) (all_c (by (try dsimp only); rw [eC_UnlikeSorts]; exact ⟨xg_UnlikeSorts, xh_UnlikeSorts, xe_UnlikeSorts, xd_UnlikeSorts⟩) (all_c (by (try dsimp only); rw [eC_InvalidText]; exact ⟨xg_InvalidText, xh_InvalidText, xe_InvalidText, xd_InvalidText⟩) (all_c (by (try dsimp only); rw [eC_InvalidBoard]; exact ⟨xg_InvalidBoard, xh_InvalidBoard, xe_InvalidBoard, xd_InvalidBoard⟩) (all_c (by (try dsimp only); rw [eC_TooDeep]; exact ⟨xg_TooDeep, xh_TooDeep, xe_TooDeep, xd_TooDeep⟩) (all_c (by (try dsimp only); rw [eC_TooMany]; exact ⟨xg_TooMany, xh_TooMany, xe_TooMany, xd_TooMany⟩) (all_c (by (try dsimp only); rw [eC_NotBelow]; exact ⟨xg_NotBelow, xh_NotBelow, xe_NotBelow, xd_NotBelow⟩) (all_c (by (try dsimp only); rw [eC_InUse]; exact ⟨xg_InUse, xh_InUse, xe_InUse, xd_InUse⟩) (all_c (by (try dsimp only); rw [eC_NotTold]; exact ⟨xg_NotTold, xh_NotTold, xe_NotTold, xd_NotTold⟩) (all_c (by (try dsimp only); rw [eC_Full]; exact ⟨xg_Full, xh_Full, xe_Full, xd_Full⟩) (all_c (by (try dsimp only); rw [eC_InvalidLimit]; exact ⟨xg_InvalidLimit, xh_InvalidLimit, xe_InvalidLimit, xd_InvalidLimit⟩) (all_c (by (try dsimp only); rw [eC_InvalidCommand]; exact ⟨xg_InvalidCommand, xh_InvalidCommand, xe_InvalidCommand, xd_InvalidCommand⟩) (all_c (by (try dsimp only); rw [eC_InvalidPage]; exact ⟨xg_InvalidPage, xh_InvalidPage, xe_InvalidPage, xd_InvalidPage⟩) (all_c (by (try dsimp only); rw [eC_NothingLeft]; exact ⟨xg_NothingLeft, xh_NothingLeft, xe_NothingLeft, xd_NothingLeft⟩) (all_c (by (try dsimp only); rw [eC_UnknownName]; exact ⟨xg_UnknownName, xh_UnknownName, xe_UnknownName, xd_UnknownName⟩) (all_c (by (try dsimp only); rw [eC_UnknownClaim]; exact ⟨xg_UnknownClaim, xh_UnknownClaim, xe_UnknownClaim, xd_UnknownClaim⟩) all_n))))))))))))))))))))), (all_c (by (try dsimp only); rw [eC_InvalidName]; exact xn_InvalidName_code) (all_c (by (try dsimp only); rw [eC_InvalidDeclaration]; exact xn_InvalidDeclaration_code) (all_c (by (try dsimp only); rw [eC_DuplicateName]; exact xn_DuplicateName_code) (all_c (by (try dsimp only); rw [eC_Unlike]; exact xn_Unlike_code) (all_c (by (try dsimp only); rw [eC_Ring]; exact xn_Ring_code) (all_c (by (try dsimp only); rw [eC_WrongSort]; exact xn_WrongSort_code) (all_c (by (try dsimp only); rw [eC_UnlikeSorts]; exact xn_UnlikeSorts_code) (all_c (by (try dsimp only); rw [eC_InvalidText]; exact xn_InvalidText_code) (all_c (by (try dsimp only); rw [eC_InvalidBoard]; exact xn_InvalidBoard_code) (all_c (by (try dsimp only); rw [eC_TooDeep]; exact xn_TooDeep_code) (all_c (by (try dsimp only); rw [eC_TooMany]; exact xn_TooMany_code) (all_c (by (try dsimp only); rw [eC_NotBelow]; exact xn_NotBelow_code) (all_c (by (try dsimp only); rw [eC_InUse]; exact xn_InUse_code) (all_c (by (try dsimp only); rw [eC_NotTold]; exact xn_NotTold_code) (all_c (by (try dsimp only); rw [eC_Full]; exact xn_Full_code) (all_c (by (try dsimp only); rw [eC_InvalidLimit]; exact xn_InvalidLimit_code) (all_c (by (try dsimp only); rw [eC_InvalidCommand]; exact xn_InvalidCommand_code) (all_c (by (try dsimp only); rw [eC_InvalidPage]; exact xn_InvalidPage_code) (all_c (by (try dsimp only); rw [eC_NothingLeft]; exact xn_NothingLeft_code) (all_c (by (try dsimp only); rw [eC_UnknownName]; exact xn_UnknownName_code) (all_c (by (try dsimp only); rw [eC_UnknownClaim]; exact xn_UnknownClaim_code) all_n)))))))))))))))))))))⟩
    xf_high := ⟨(all_c (by (try dsimp only); rw [eC_Unlike]; exact ⟨xg_Unlike, xh_Unlike, xe_Unlike, xd_Unlike⟩) (all_c (by (try dsimp only); rw [eC_Ring]; exact ⟨xg_Ring, xh_Ring, xe_Ring, xd_Ring⟩) (all_c (by (try dsimp only); rw [eC_NotTold]; exact ⟨xg_NotTold, xh_NotTold, xe_NotTold, xd_NotTold⟩) all_n))), (all_c (by (try dsimp only); rw [eC_Unlike]; exact xn_Unlike_high) (all_c (by (try dsimp only); rw [eC_Ring]; exact xn_Ring_high) (all_c (by (try dsimp only); rw [eC_NotTold]; exact xn_NotTold_high) all_n)))⟩
    xf_limit := ⟨(all_c (by (try dsimp only); rw [eC_Full]; exact ⟨xg_Full, xh_Full, xe_Full, xd_Full⟩) all_n), (all_c (by (try dsimp only); rw [eC_Full]; exact xn_Full_limit) all_n)⟩
    xf_line := ⟨(all_c (by (try dsimp only); rw [eC_InvalidPage]; exact ⟨xg_InvalidPage, xh_InvalidPage, xe_InvalidPage, xd_InvalidPage⟩) all_n), (all_c (by (try dsimp only); rw [eC_InvalidPage]; exact xn_InvalidPage_line) all_n)⟩
    xf_low := ⟨(all_c (by (try dsimp only); rw [eC_Unlike]; exact ⟨xg_Unlike, xh_Unlike, xe_Unlike, xd_Unlike⟩) (all_c (by (try dsimp only); rw [eC_Ring]; exact ⟨xg_Ring, xh_Ring, xe_Ring, xd_Ring⟩) (all_c (by (try dsimp only); rw [eC_NotTold]; exact ⟨xg_NotTold, xh_NotTold, xe_NotTold, xd_NotTold⟩) all_n))), (all_c (by (try dsimp only); rw [eC_Unlike]; exact xn_Unlike_low) (all_c (by (try dsimp only); rw [eC_Ring]; exact xn_Ring_low) (all_c (by (try dsimp only); rw [eC_NotTold]; exact xn_NotTold_low) all_n)))⟩
    xf_most := ⟨(all_c (by (try dsimp only); rw [eC_TooDeep]; exact ⟨xg_TooDeep, xh_TooDeep, xe_TooDeep, xd_TooDeep⟩) (all_c (by (try dsimp only); rw [eC_TooMany]; exact ⟨xg_TooMany, xh_TooMany, xe_TooMany, xd_TooMany⟩) all_n)), (all_c (by (try dsimp only); rw [eC_TooDeep]; exact xn_TooDeep_most) (all_c (by (try dsimp only); rw [eC_TooMany]; exact xn_TooMany_most) all_n))⟩
    xf_name := ⟨(all_c (by (try dsimp only); rw [eC_DuplicateName]; exact ⟨xg_DuplicateName, xh_DuplicateName, xe_DuplicateName, xd_DuplicateName⟩) (all_c (by (try dsimp only); rw [eC_InvalidBoard]; exact ⟨xg_InvalidBoard, xh_InvalidBoard, xe_InvalidBoard, xd_InvalidBoard⟩) (all_c (by (try dsimp only); rw [eC_InUse]; exact ⟨xg_InUse, xh_InUse, xe_InUse, xd_InUse⟩) (all_c (by (try dsimp only); rw [eC_UnknownName]; exact ⟨xg_UnknownName, xh_UnknownName, xe_UnknownName, xd_UnknownName⟩) (all_c (by (try dsimp only); rw [eC_UnknownClaim]; exact ⟨xg_UnknownClaim, xh_UnknownClaim, xe_UnknownClaim, xd_UnknownClaim⟩) all_n))))), (all_c (by (try dsimp only); rw [eC_DuplicateName]; exact xn_DuplicateName_name) (all_c (by (try dsimp only); rw [eC_InvalidBoard]; exact xn_InvalidBoard_name) (all_c (by (try dsimp only); rw [eC_InUse]; exact xn_InUse_name) (all_c (by (try dsimp only); rw [eC_UnknownName]; exact xn_UnknownName_name) (all_c (by (try dsimp only); rw [eC_UnknownClaim]; exact xn_UnknownClaim_name) all_n)))))⟩
    xf_path := ⟨(all_c (by (try dsimp only); rw [eC_WrongSort]; exact ⟨xg_WrongSort, xh_WrongSort, xe_WrongSort, xd_WrongSort⟩) all_n), (all_c (by (try dsimp only); rw [eC_WrongSort]; exact xn_WrongSort_path) all_n)⟩
    xf_value := ⟨(all_c (by (try dsimp only); rw [eC_InvalidName]; exact ⟨xg_InvalidName, xh_InvalidName, xe_InvalidName, xd_InvalidName⟩) (all_c (by (try dsimp only); rw [eC_InvalidText]; exact ⟨xg_InvalidText, xh_InvalidText, xe_InvalidText, xd_InvalidText⟩) (all_c (by (try dsimp only); rw [eC_InvalidLimit]; exact ⟨xg_InvalidLimit, xh_InvalidLimit, xe_InvalidLimit, xd_InvalidLimit⟩) all_n))), (all_c (by (try dsimp only); rw [eC_InvalidName]; exact xn_InvalidName_value) (all_c (by (try dsimp only); rw [eC_InvalidText]; exact xn_InvalidText_value) (all_c (by (try dsimp only); rw [eC_InvalidLimit]; exact xn_InvalidLimit_value) all_n)))⟩
    d_law_bag := ⟨_, _, F1, PySem.W.mg_of X G a1, b1⟩
    d_InvalidName_init := ⟨_, _, F2⟩
    bi_InvalidName := b2
    xk_InvalidName := by rw [eC_InvalidName]; exact ⟨⟨_, _, _, _, PySem.F.excBase_ValueError, PySem.F.store_ValueError, xi_InvalidName, xv_InvalidName⟩, xd_InvalidName, xsa_InvalidName, xe_InvalidName, xt_InvalidName, xkc_InvalidName, a2, ti2⟩
    xn_InvalidName := (all_c (by (try dsimp only); rw [eC_InvalidName]; exact xn_InvalidName_code) (all_c (by (try dsimp only); rw [eC_InvalidName]; exact xn_InvalidName_value) all_n))
    d_InvalidDeclaration_init := ⟨_, _, F3⟩
    bi_InvalidDeclaration := b3
    xk_InvalidDeclaration := by rw [eC_InvalidDeclaration]; exact ⟨⟨_, _, _, _, PySem.F.excBase_ValueError, PySem.F.store_ValueError, xi_InvalidDeclaration, xv_InvalidDeclaration⟩, xd_InvalidDeclaration, xsa_InvalidDeclaration, xe_InvalidDeclaration, xt_InvalidDeclaration, xkc_InvalidDeclaration, a3, ti3⟩
    xn_InvalidDeclaration := (all_c (by (try dsimp only); rw [eC_InvalidDeclaration]; exact xn_InvalidDeclaration_code) (all_c (by (try dsimp only); rw [eC_InvalidDeclaration]; exact xn_InvalidDeclaration_at) all_n))
    d_DuplicateName_init := ⟨_, _, F4⟩
    bi_DuplicateName := b4
    xk_DuplicateName := by rw [eC_DuplicateName]; exact ⟨⟨_, _, _, _, PySem.F.excBase_ValueError, PySem.F.store_ValueError, xi_DuplicateName, xv_DuplicateName⟩, xd_DuplicateName, xsa_DuplicateName, xe_DuplicateName, xt_DuplicateName, xkc_DuplicateName, a4, ti4⟩
    xn_DuplicateName := (all_c (by (try dsimp only); rw [eC_DuplicateName]; exact xn_DuplicateName_code) (all_c (by (try dsimp only); rw [eC_DuplicateName]; exact xn_DuplicateName_name) all_n))
    d_Unlike_init := ⟨_, _, F5⟩
    bi_Unlike := b5
    xk_Unlike := by rw [eC_Unlike]; exact ⟨⟨_, _, _, _, PySem.F.excBase_ValueError, PySem.F.store_ValueError, xi_Unlike, xv_Unlike⟩, xd_Unlike, xsa_Unlike, xe_Unlike, xt_Unlike, xkc_Unlike, a5, ti5⟩
    xn_Unlike := (all_c (by (try dsimp only); rw [eC_Unlike]; exact xn_Unlike_code) (all_c (by (try dsimp only); rw [eC_Unlike]; exact xn_Unlike_high) (all_c (by (try dsimp only); rw [eC_Unlike]; exact xn_Unlike_low) all_n)))
    d_Ring_init := ⟨_, _, F6⟩
    bi_Ring := b6
    xk_Ring := by rw [eC_Ring]; exact ⟨⟨_, _, _, _, PySem.F.excBase_ValueError, PySem.F.store_ValueError, xi_Ring, xv_Ring⟩, xd_Ring, xsa_Ring, xe_Ring, xt_Ring, xkc_Ring, a6, ti6⟩
    xn_Ring := (all_c (by (try dsimp only); rw [eC_Ring]; exact xn_Ring_code) (all_c (by (try dsimp only); rw [eC_Ring]; exact xn_Ring_high) (all_c (by (try dsimp only); rw [eC_Ring]; exact xn_Ring_low) all_n)))
    d_WrongSort_init := ⟨_, _, F7⟩
    bi_WrongSort := b7
    xk_WrongSort := by rw [eC_WrongSort]; exact ⟨⟨_, _, _, _, PySem.F.excBase_ValueError, PySem.F.store_ValueError, xi_WrongSort, xv_WrongSort⟩, xd_WrongSort, xsa_WrongSort, xe_WrongSort, xt_WrongSort, xkc_WrongSort, a7, ti7⟩
    xn_WrongSort := (all_c (by (try dsimp only); rw [eC_WrongSort]; exact xn_WrongSort_code) (all_c (by (try dsimp only); rw [eC_WrongSort]; exact xn_WrongSort_path) all_n))
    d_UnlikeSorts_init := ⟨_, _, F8⟩
    bi_UnlikeSorts := b8
    xk_UnlikeSorts := by rw [eC_UnlikeSorts]; exact ⟨⟨_, _, _, _, PySem.F.excBase_ValueError, PySem.F.store_ValueError, xi_UnlikeSorts, xv_UnlikeSorts⟩, xd_UnlikeSorts, xsa_UnlikeSorts, xe_UnlikeSorts, xt_UnlikeSorts, xkc_UnlikeSorts, a8, ti8⟩
    xn_UnlikeSorts := (all_c (by (try dsimp only); rw [eC_UnlikeSorts]; exact xn_UnlikeSorts_code) all_n)
    d_InvalidText_init := ⟨_, _, F9⟩
    bi_InvalidText := b9
    xk_InvalidText := by rw [eC_InvalidText]; exact ⟨⟨_, _, _, _, PySem.F.excBase_ValueError, PySem.F.store_ValueError, xi_InvalidText, xv_InvalidText⟩, xd_InvalidText, xsa_InvalidText, xe_InvalidText, xt_InvalidText, xkc_InvalidText, a9, ti9⟩
    xn_InvalidText := (all_c (by (try dsimp only); rw [eC_InvalidText]; exact xn_InvalidText_code) (all_c (by (try dsimp only); rw [eC_InvalidText]; exact xn_InvalidText_value) all_n))
    d_InvalidBoard_init := ⟨_, _, F10⟩
    bi_InvalidBoard := b10
    xk_InvalidBoard := by rw [eC_InvalidBoard]; exact ⟨⟨_, _, _, _, PySem.F.excBase_ValueError, PySem.F.store_ValueError, xi_InvalidBoard, xv_InvalidBoard⟩, xd_InvalidBoard, xsa_InvalidBoard, xe_InvalidBoard, xt_InvalidBoard, xkc_InvalidBoard, a10, ti10⟩
    xn_InvalidBoard := (all_c (by (try dsimp only); rw [eC_InvalidBoard]; exact xn_InvalidBoard_code) (all_c (by (try dsimp only); rw [eC_InvalidBoard]; exact xn_InvalidBoard_name) all_n))
    d_TooDeep_init := ⟨_, _, F11⟩
    bi_TooDeep := b11
    xk_TooDeep := by rw [eC_TooDeep]; exact ⟨⟨_, _, _, _, PySem.F.excBase_ValueError, PySem.F.store_ValueError, xi_TooDeep, xv_TooDeep⟩, xd_TooDeep, xsa_TooDeep, xe_TooDeep, xt_TooDeep, xkc_TooDeep, a11, ti11⟩
    xn_TooDeep := (all_c (by (try dsimp only); rw [eC_TooDeep]; exact xn_TooDeep_code) (all_c (by (try dsimp only); rw [eC_TooDeep]; exact xn_TooDeep_most) all_n))
    d_TooMany_init := ⟨_, _, F12⟩
    bi_TooMany := b12
    xk_TooMany := by rw [eC_TooMany]; exact ⟨⟨_, _, _, _, PySem.F.excBase_ValueError, PySem.F.store_ValueError, xi_TooMany, xv_TooMany⟩, xd_TooMany, xsa_TooMany, xe_TooMany, xt_TooMany, xkc_TooMany, a12, ti12⟩
    xn_TooMany := (all_c (by (try dsimp only); rw [eC_TooMany]; exact xn_TooMany_code) (all_c (by (try dsimp only); rw [eC_TooMany]; exact xn_TooMany_most) all_n))
    d_NotBelow_init := ⟨_, _, F13⟩
    bi_NotBelow := b13
    xk_NotBelow := by rw [eC_NotBelow]; exact ⟨⟨_, _, _, _, PySem.F.excBase_ValueError, PySem.F.store_ValueError, xi_NotBelow, xv_NotBelow⟩, xd_NotBelow, xsa_NotBelow, xe_NotBelow, xt_NotBelow, xkc_NotBelow, a13, ti13⟩
    xn_NotBelow := (all_c (by (try dsimp only); rw [eC_NotBelow]; exact xn_NotBelow_code) all_n)
    d_InUse_init := ⟨_, _, F14⟩
    bi_InUse := b14
    xk_InUse := by rw [eC_InUse]; exact ⟨⟨_, _, _, _, PySem.F.excBase_ValueError, PySem.F.store_ValueError, xi_InUse, xv_InUse⟩, xd_InUse, xsa_InUse, xe_InUse, xt_InUse, xkc_InUse, a14, ti14⟩
    xn_InUse := (all_c (by (try dsimp only); rw [eC_InUse]; exact xn_InUse_code) (all_c (by (try dsimp only); rw [eC_InUse]; exact xn_InUse_name) all_n))
    d_NotTold_init := ⟨_, _, F15⟩
    bi_NotTold := b15
    xk_NotTold := by rw [eC_NotTold]; exact ⟨⟨_, _, _, _, PySem.F.excBase_ValueError, PySem.F.store_ValueError, xi_NotTold, xv_NotTold⟩, xd_NotTold, xsa_NotTold, xe_NotTold, xt_NotTold, xkc_NotTold, a15, ti15⟩
    xn_NotTold := (all_c (by (try dsimp only); rw [eC_NotTold]; exact xn_NotTold_code) (all_c (by (try dsimp only); rw [eC_NotTold]; exact xn_NotTold_high) (all_c (by (try dsimp only); rw [eC_NotTold]; exact xn_NotTold_low) all_n)))
    d_Full_init := ⟨_, _, F16⟩
    bi_Full := b16
    xk_Full := by rw [eC_Full]; exact ⟨⟨_, _, _, _, PySem.F.excBase_ValueError, PySem.F.store_ValueError, xi_Full, xv_Full⟩, xd_Full, xsa_Full, xe_Full, xt_Full, xkc_Full, a16, ti16⟩
    xn_Full := (all_c (by (try dsimp only); rw [eC_Full]; exact xn_Full_code) (all_c (by (try dsimp only); rw [eC_Full]; exact xn_Full_limit) all_n))
    d_InvalidLimit_init := ⟨_, _, F17⟩
    bi_InvalidLimit := b17
    xk_InvalidLimit := by rw [eC_InvalidLimit]; exact ⟨⟨_, _, _, _, PySem.F.excBase_ValueError, PySem.F.store_ValueError, xi_InvalidLimit, xv_InvalidLimit⟩, xd_InvalidLimit, xsa_InvalidLimit, xe_InvalidLimit, xt_InvalidLimit, xkc_InvalidLimit, a17, ti17⟩
    xn_InvalidLimit := (all_c (by (try dsimp only); rw [eC_InvalidLimit]; exact xn_InvalidLimit_code) (all_c (by (try dsimp only); rw [eC_InvalidLimit]; exact xn_InvalidLimit_value) all_n))
    d_InvalidCommand_init := ⟨_, _, F18⟩
    bi_InvalidCommand := b18
    xk_InvalidCommand := by rw [eC_InvalidCommand]; exact ⟨⟨_, _, _, _, PySem.F.excBase_ValueError, PySem.F.store_ValueError, xi_InvalidCommand, xv_InvalidCommand⟩, xd_InvalidCommand, xsa_InvalidCommand, xe_InvalidCommand, xt_InvalidCommand, xkc_InvalidCommand, a18, ti18⟩
    xn_InvalidCommand := (all_c (by (try dsimp only); rw [eC_InvalidCommand]; exact xn_InvalidCommand_code) (all_c (by (try dsimp only); rw [eC_InvalidCommand]; exact xn_InvalidCommand_at) all_n))
    d_InvalidPage_init := ⟨_, _, F19⟩
    bi_InvalidPage := b19
    xk_InvalidPage := by rw [eC_InvalidPage]; exact ⟨⟨_, _, _, _, PySem.F.excBase_ValueError, PySem.F.store_ValueError, xi_InvalidPage, xv_InvalidPage⟩, xd_InvalidPage, xsa_InvalidPage, xe_InvalidPage, xt_InvalidPage, xkc_InvalidPage, a19, ti19⟩
    xn_InvalidPage := (all_c (by (try dsimp only); rw [eC_InvalidPage]; exact xn_InvalidPage_code) (all_c (by (try dsimp only); rw [eC_InvalidPage]; exact xn_InvalidPage_line) all_n))
    d_law_errors_of := ⟨_, _, F20, PySem.W.mg_of X G a20, b20⟩
    d_NothingLeft_init := ⟨_, _, F21⟩
    bi_NothingLeft := b21
    xk_NothingLeft := by rw [eC_NothingLeft]; exact ⟨⟨_, _, _, _, PySem.F.excBase_IndexError, PySem.F.store_IndexError, xi_NothingLeft, xv_NothingLeft⟩, xd_NothingLeft, xsa_NothingLeft, xe_NothingLeft, xt_NothingLeft, xkc_NothingLeft, a21, ti21⟩
    xn_NothingLeft := (all_c (by (try dsimp only); rw [eC_NothingLeft]; exact xn_NothingLeft_code) all_n)
    d_law_draw := ⟨_, _, F22, PySem.W.mg_of X G a22, b22⟩
    d_law_of := ⟨_, _, F23, PySem.W.mg_of X G a23, b23⟩
    d_law_same := ⟨_, _, F24, PySem.W.mg_of X G a24, b24⟩
    d_law_kinds := ⟨_, _, F25, PySem.W.mg_of X G a25, b25⟩
    d_UnknownName_init := ⟨_, _, F26⟩
    bi_UnknownName := b26
    xk_UnknownName := by rw [eC_UnknownName]; exact ⟨⟨_, _, _, _, PySem.F.excBase_LookupError, PySem.F.store_LookupError, xi_UnknownName, xv_UnknownName⟩, xd_UnknownName, xsa_UnknownName, xe_UnknownName, xt_UnknownName, xkc_UnknownName, a26, ti26⟩
    xn_UnknownName := (all_c (by (try dsimp only); rw [eC_UnknownName]; exact xn_UnknownName_code) (all_c (by (try dsimp only); rw [eC_UnknownName]; exact xn_UnknownName_name) all_n))
    d_UnknownClaim_init := ⟨_, _, F27⟩
    bi_UnknownClaim := b27
    xk_UnknownClaim := by rw [eC_UnknownClaim]; exact ⟨⟨_, _, _, _, PySem.F.excBase_LookupError, PySem.F.store_LookupError, xi_UnknownClaim, xv_UnknownClaim⟩, xd_UnknownClaim, xsa_UnknownClaim, xe_UnknownClaim, xt_UnknownClaim, xkc_UnknownClaim, a27, ti27⟩
    xn_UnknownClaim := (all_c (by (try dsimp only); rw [eC_UnknownClaim]; exact xn_UnknownClaim_code) (all_c (by (try dsimp only); rw [eC_UnknownClaim]; exact xn_UnknownClaim_name) all_n))
    d_law_field := ⟨_, _, F28, PySem.W.mg_of X G a28, b28⟩
    d_law := ⟨_, _, F29, PySem.W.mg_of X G a29, b29⟩
    kb_InvalidName_init_value := fun s os ws _ h1 h2 => match os, h1, ws, h2 with | [_], _, [_], _ => .of_eq rfl
    kb_InvalidDeclaration_init_at := fun s os ws _ h1 h2 => match os, h1, ws, h2 with | [_], _, [_], _ => .of_eq rfl
    kb_DuplicateName_init_name := fun s os ws _ h1 h2 => match os, h1, ws, h2 with | [_], _, [_], _ => .of_eq rfl
    kb_Unlike_init_high_low := fun s os ws _ h1 h2 => match os, h1, ws, h2 with | [_], _, [_, _], _ => .of_eq rfl
    kb_WrongSort_init_path := fun s os ws _ h1 h2 => match os, h1, ws, h2 with | [_], _, [_], _ => .of_eq rfl
    kb_InvalidText_init_value := fun s os ws _ h1 h2 => match os, h1, ws, h2 with | [_], _, [_], _ => .of_eq rfl
    kb_InvalidBoard_init_name := fun s os ws _ h1 h2 => match os, h1, ws, h2 with | [_], _, [_], _ => .of_eq rfl
    kb_TooDeep_init_most := fun s os ws _ h1 h2 => match os, h1, ws, h2 with | [_], _, [_], _ => .of_eq rfl
    kb_TooMany_init_most := fun s os ws _ h1 h2 => match os, h1, ws, h2 with | [_], _, [_], _ => .of_eq rfl
    kb_InUse_init_name := fun s os ws _ h1 h2 => match os, h1, ws, h2 with | [_], _, [_], _ => .of_eq rfl
    kb_NotTold_init_high_low := fun s os ws _ h1 h2 => match os, h1, ws, h2 with | [_], _, [_, _], _ => .of_eq rfl
    kb_Full_init_limit := fun s os ws _ h1 h2 => match os, h1, ws, h2 with | [_], _, [_], _ => .of_eq rfl
    kb_InvalidLimit_init_value := fun s os ws _ h1 h2 => match os, h1, ws, h2 with | [_], _, [_], _ => .of_eq rfl
    kb_InvalidCommand_init_at := fun s os ws _ h1 h2 => match os, h1, ws, h2 with | [_], _, [_], _ => .of_eq rfl
    kb_InvalidPage_init_line := fun s os ws _ h1 h2 => match os, h1, ws, h2 with | [_], _, [_], _ => .of_eq rfl
    kb_UnknownName_init_name := fun s os ws _ h1 h2 => match os, h1, ws, h2 with | [_], _, [_], _ => .of_eq rfl
    kb_UnknownClaim_init_name := fun s os ws _ h1 h2 => match os, h1, ws, h2 with | [_], _, [_], _ => .of_eq rfl
    n_IndexError := PySem.W.mg_none_of X G z_IndexError
    n_LookupError := PySem.W.mg_none_of X G z_LookupError
    n_ValueError := PySem.W.mg_none_of X G z_ValueError
    n_all := PySem.W.mg_none_of X G z_all
    n_bool := PySem.W.mg_none_of X G z_bool
    n_int := PySem.W.mg_none_of X G z_int
    n_isinstance := PySem.W.mg_none_of X G z_isinstance
    n_len := PySem.W.mg_none_of X G z_len
    n_list := PySem.W.mg_none_of X G z_list
    n_range := PySem.W.mg_none_of X G z_range
    n_str := PySem.W.mg_none_of X G z_str
    n_tuple := PySem.W.mg_none_of X G z_tuple
    n_zip := PySem.W.mg_none_of X G z_zip
  }
  refine ⟨_, fun s v => .of_eq rfl, fun base _ _ => (ok_law Z).imp fun vs H Q E q => ?_⟩
  obtain ⟨a, ns, rfl, h1, h2, h3⟩ := q
  refine ⟨H, [.scr ns], Ex.refl _, RepTL.cons (by unfold RepT; exact ⟨a, rfl, h1⟩) RepTL.nil, rfl, ?_⟩
  rw [law_true ns h2]
  intro I2 H2 v _ r
  unfold RepT at r
  subst r
  exact h3 H2
theorem walk {l : PySem.W.OpenLaw} {q : Program} {loose : List Str} {XP : (Str → Option Value) → Heap → Prop} {YP : World → Heap → Prop} {d : DefRec} {K : Params → PySem.W.Frag} (hn : l.most = some 63) (hdf : d.params.defaults = [])
    (hY : ∀ (w : World) (h : Heap), YP w h → (K w.params).In h)
    (F : ∀ (w : World) (mg : Str → Option Value) (fa : Addr) (h : Heap), (K w.params).In h → h.Ns mainGlobals mg → mg d.name = some (.ref fa) →
      ∃ fd : FuncData, (∀ (s : Shared) (u : Value), BindsTo s fd ⟨[u], []⟩ [("_law_script", u)]) ∧ ∀ base : Heap, (K w.params).In base → base.Ns mainGlobals mg → FnOk l.prog w (K w.params) mg base (L2.CX l.prog w) 16 fa fd ["_law_script"] (spL (K w.params))) :
    PySem.W.WalkO q loose XP YP l.row.toRowW d [] (fun f vs => PySem.call f vs) :=
  L2.walk_of (n := 63) (k := 16) (x := "_law_script") (CX := fun w => L2.CX l.prog w) (sp := fun w => spL (K w.params)) hn (by decide) hdf ⟨rfl, by decide, by decide⟩ hY F (fun _ _ a ns hl _ hS => ⟨a, ns, rfl, hS, hl, fun _ => rfl⟩) fun _ _ _ _ _ z => by
    obtain ⟨_, _, _, _, _, z⟩ := z
    exact z.2.2.2.2.2.2.2.elim
end K01
open PySem PySem.W PyProof.Rows
set_option maxRecDepth 100000 in
set_option maxHeartbeats 0 in
theorem PySem.Challenge.cw_betweenmaps_k01_errors_by_themselves_holds : PySem.Challenge.rw_betweenmaps_k01_errors_by_themselves.Holds := by
  w_on; o_law; k_head; (case hw => w_witness2)
  k_fill
  refine K01.walk (l := PySem.Challenge.rw_betweenmaps_k01_errors_by_themselves) rfl rfl (fun w h Y => PySem.W.kIn_of Y) ?F
  case F =>
    intro w mg fa h KX G hmg
    refine' K01.all_mk KX G hmg ?xs1 ?xs2 ?aC_MapError ?xc_MapError ?xt_MapError ?aC_Missing ?xc_Missing ?xt_Missing ?aC_InvalidName ?xc_InvalidName ?xt_InvalidName ?aC_InvalidDeclaration ?xc_InvalidDeclaration ?xt_InvalidDeclaration ?aC_DuplicateName ?xc_DuplicateName ?xt_DuplicateName ?aC_Unlike ?xc_Unlike ?xt_Unlike ?aC_Ring ?xc_Ring ?xt_Ring ?aC_WrongSort ?xc_WrongSort ?xt_WrongSort ?aC_UnlikeSorts ?xc_UnlikeSorts ?xt_UnlikeSorts ?aC_InvalidText ?xc_InvalidText ?xt_InvalidText ?aC_InvalidBoard ?xc_InvalidBoard ?xt_InvalidBoard ?aC_TooDeep ?xc_TooDeep ?xt_TooDeep ?aC_TooMany ?xc_TooMany ?xt_TooMany ?aC_NotBelow ?xc_NotBelow ?xt_NotBelow ?aC_InUse ?xc_InUse ?xt_InUse ?aC_NotTold ?xc_NotTold ?xt_NotTold ?aC_Full ?xc_Full ?xt_Full ?aC_InvalidLimit ?xc_InvalidLimit ?xt_InvalidLimit ?aC_InvalidCommand ?xc_InvalidCommand ?xt_InvalidCommand ?aC_InvalidPage ?xc_InvalidPage ?xt_InvalidPage ?aC_UnknownName ?xc_UnknownName ?xt_UnknownName ?aC_UnknownClaim ?xc_UnknownClaim ?xt_UnknownClaim ?aC_NothingLeft ?xc_NothingLeft ?xt_NothingLeft ?xm_InvalidName ?xg_InvalidName ?xh_InvalidName ?xe_InvalidName ?xd_InvalidName ?xq_InvalidName ?xo_InvalidName ?xsa_InvalidName ?xkc_InvalidName ?xi_InvalidName ?xv_InvalidName ?xn_InvalidName_value ?xn_InvalidName_code ?xm_InvalidDeclaration ?xg_InvalidDeclaration ?xh_InvalidDeclaration ?xe_InvalidDeclaration ?xd_InvalidDeclaration ?xq_InvalidDeclaration ?xo_InvalidDeclaration ?xsa_InvalidDeclaration ?xkc_InvalidDeclaration ?xi_InvalidDeclaration ?xv_InvalidDeclaration ?xn_InvalidDeclaration_at ?xn_InvalidDeclaration_code ?xm_DuplicateName ?xg_DuplicateName ?xh_DuplicateName ?xe_DuplicateName ?xd_DuplicateName ?xq_DuplicateName ?xo_DuplicateName ?xsa_DuplicateName ?xkc_DuplicateName ?xi_DuplicateName ?xv_DuplicateName ?xn_DuplicateName_name ?xn_DuplicateName_code ?xm_Unlike ?xg_Unlike ?xh_Unlike ?xe_Unlike ?xd_Unlike ?xq_Unlike ?xo_Unlike ?xsa_Unlike ?xkc_Unlike ?xi_Unlike ?xv_Unlike ?xn_Unlike_low ?xn_Unlike_high ?xn_Unlike_code ?xm_Ring ?xg_Ring ?xh_Ring ?xe_Ring ?xd_Ring ?xq_Ring ?xo_Ring ?xsa_Ring ?xkc_Ring ?xi_Ring ?xv_Ring ?xn_Ring_low ?xn_Ring_high ?xn_Ring_code ?xm_WrongSort ?xg_WrongSort ?xh_WrongSort ?xe_WrongSort ?xd_WrongSort ?xq_WrongSort ?xo_WrongSort ?xsa_WrongSort ?xkc_WrongSort ?xi_WrongSort ?xv_WrongSort ?xn_WrongSort_path ?xn_WrongSort_code ?xm_UnlikeSorts ?xg_UnlikeSorts ?xh_UnlikeSorts ?xe_UnlikeSorts ?xd_UnlikeSorts ?xq_UnlikeSorts ?xo_UnlikeSorts ?xsa_UnlikeSorts ?xkc_UnlikeSorts ?xi_UnlikeSorts ?xv_UnlikeSorts ?xn_UnlikeSorts_code ?xm_InvalidText ?xg_InvalidText ?xh_InvalidText ?xe_InvalidText ?xd_InvalidText ?xq_InvalidText ?xo_InvalidText ?xsa_InvalidText ?xkc_InvalidText ?xi_InvalidText ?xv_InvalidText ?xn_InvalidText_value ?xn_InvalidText_code ?xm_InvalidBoard ?xg_InvalidBoard ?xh_InvalidBoard ?xe_InvalidBoard ?xd_InvalidBoard ?xq_InvalidBoard ?xo_InvalidBoard ?xsa_InvalidBoard ?xkc_InvalidBoard ?xi_InvalidBoard ?xv_InvalidBoard ?xn_InvalidBoard_name ?xn_InvalidBoard_code ?xm_TooDeep ?xg_TooDeep ?xh_TooDeep ?xe_TooDeep ?xd_TooDeep ?xq_TooDeep ?xo_TooDeep ?xsa_TooDeep ?xkc_TooDeep ?xi_TooDeep ?xv_TooDeep ?xn_TooDeep_most ?xn_TooDeep_code ?xm_TooMany ?xg_TooMany ?xh_TooMany ?xe_TooMany ?xd_TooMany ?xq_TooMany ?xo_TooMany ?xsa_TooMany ?xkc_TooMany ?xi_TooMany ?xv_TooMany ?xn_TooMany_most ?xn_TooMany_code ?xm_NotBelow ?xg_NotBelow ?xh_NotBelow ?xe_NotBelow ?xd_NotBelow ?xq_NotBelow ?xo_NotBelow ?xsa_NotBelow ?xkc_NotBelow ?xi_NotBelow ?xv_NotBelow ?xn_NotBelow_code ?xm_InUse ?xg_InUse ?xh_InUse ?xe_InUse ?xd_InUse ?xq_InUse ?xo_InUse ?xsa_InUse ?xkc_InUse ?xi_InUse ?xv_InUse ?xn_InUse_name ?xn_InUse_code ?xm_NotTold ?xg_NotTold ?xh_NotTold ?xe_NotTold ?xd_NotTold ?xq_NotTold ?xo_NotTold ?xsa_NotTold ?xkc_NotTold ?xi_NotTold ?xv_NotTold ?xn_NotTold_low ?xn_NotTold_high ?xn_NotTold_code ?xm_Full ?xg_Full ?xh_Full ?xe_Full ?xd_Full ?xq_Full ?xo_Full ?xsa_Full ?xkc_Full ?xi_Full ?xv_Full ?xn_Full_limit ?xn_Full_code ?xm_InvalidLimit ?xg_InvalidLimit ?xh_InvalidLimit ?xe_InvalidLimit ?xd_InvalidLimit ?xq_InvalidLimit ?xo_InvalidLimit ?xsa_InvalidLimit ?xkc_InvalidLimit ?xi_InvalidLimit ?xv_InvalidLimit ?xn_InvalidLimit_value ?xn_InvalidLimit_code ?xm_InvalidCommand ?xg_InvalidCommand ?xh_InvalidCommand ?xe_InvalidCommand ?xd_InvalidCommand ?xq_InvalidCommand ?xo_InvalidCommand ?xsa_InvalidCommand ?xkc_InvalidCommand ?xi_InvalidCommand ?xv_InvalidCommand ?xn_InvalidCommand_at ?xn_InvalidCommand_code ?xm_InvalidPage ?xg_InvalidPage ?xh_InvalidPage ?xe_InvalidPage ?xd_InvalidPage ?xq_InvalidPage ?xo_InvalidPage ?xsa_InvalidPage ?xkc_InvalidPage ?xi_InvalidPage ?xv_InvalidPage ?xn_InvalidPage_line ?xn_InvalidPage_code ?xm_NothingLeft ?xg_NothingLeft ?xh_NothingLeft ?xe_NothingLeft ?xd_NothingLeft ?xq_NothingLeft ?xo_NothingLeft ?xsa_NothingLeft ?xkc_NothingLeft ?xi_NothingLeft ?xv_NothingLeft ?xn_NothingLeft_code ?xm_UnknownName ?xg_UnknownName ?xh_UnknownName ?xe_UnknownName ?xd_UnknownName ?xq_UnknownName ?xo_UnknownName ?xsa_UnknownName ?xkc_UnknownName ?xi_UnknownName ?xv_UnknownName ?xn_UnknownName_name ?xn_UnknownName_code ?xm_UnknownClaim ?xg_UnknownClaim ?xh_UnknownClaim ?xe_UnknownClaim ?xd_UnknownClaim ?xq_UnknownClaim ?xo_UnknownClaim ?xsa_UnknownClaim ?xkc_UnknownClaim ?xi_UnknownClaim ?xv_UnknownClaim ?xn_UnknownClaim_name ?xn_UnknownClaim_code ?xnd ?a1 ?l1 ?e1 ?k1 ?a2 ?ti2 ?l2 ?e2 ?k2 ?a3 ?ti3 ?l3 ?e3 ?k3 ?a4 ?ti4 ?l4 ?e4 ?k4 ?a5 ?ti5 ?l5 ?e5 ?k5 ?a6 ?ti6 ?l6 ?e6 ?k6 ?a7 ?ti7 ?l7 ?e7 ?k7 ?a8 ?ti8 ?l8 ?e8 ?k8 ?a9 ?ti9 ?l9 ?e9 ?k9 ?a10 ?ti10 ?l10 ?e10 ?k10 ?a11 ?ti11 ?l11 ?e11 ?k11 ?a12 ?ti12 ?l12 ?e12 ?k12 ?a13 ?ti13 ?l13 ?e13 ?k13 ?a14 ?ti14 ?l14 ?e14 ?k14 ?a15 ?ti15 ?l15 ?e15 ?k15 ?a16 ?ti16 ?l16 ?e16 ?k16 ?a17 ?ti17 ?l17 ?e17 ?k17 ?a18 ?ti18 ?l18 ?e18 ?k18 ?a19 ?ti19 ?l19 ?e19 ?k19 ?a20 ?l20 ?e20 ?k20 ?a21 ?ti21 ?l21 ?e21 ?k21 ?a22 ?l22 ?e22 ?k22 ?a23 ?l23 ?e23 ?k23 ?a24 ?l24 ?e24 ?k24 ?a25 ?l25 ?e25 ?k25 ?a26 ?ti26 ?l26 ?e26 ?k26 ?a27 ?ti27 ?l27 ?e27 ?k27 ?a28 ?l28 ?e28 ?k28 ?a29 ?l29 ?e29 ?k29 ?z_IndexError ?z_LookupError ?z_ValueError ?z_all ?z_bool ?z_int ?z_isinstance ?z_len ?z_list ?z_range ?z_str ?z_tuple ?z_zip
    (case xs1 => k_is)
    (case xs2 => k_is)
    (case aC_MapError => k_is)
    (case xc_MapError => k_is)
    (case xt_MapError => k_is)
    (case aC_Missing => k_is)
    (case xc_Missing => k_is)
    (case xt_Missing => k_is)
    (case aC_InvalidName => k_is)
    (case xc_InvalidName => k_is)
    (case xt_InvalidName => k_is)
    (case aC_InvalidDeclaration => k_is)
    (case xc_InvalidDeclaration => k_is)
    (case xt_InvalidDeclaration => k_is)
    (case aC_DuplicateName => k_is)
    (case xc_DuplicateName => k_is)
    (case xt_DuplicateName => k_is)
    (case aC_Unlike => k_is)
    (case xc_Unlike => k_is)
    (case xt_Unlike => k_is)
    (case aC_Ring => k_is)
    (case xc_Ring => k_is)
    (case xt_Ring => k_is)
    (case aC_WrongSort => k_is)
    (case xc_WrongSort => k_is)
    (case xt_WrongSort => k_is)
    (case aC_UnlikeSorts => k_is)
    (case xc_UnlikeSorts => k_is)
    (case xt_UnlikeSorts => k_is)
    (case aC_InvalidText => k_is)
    (case xc_InvalidText => k_is)
    (case xt_InvalidText => k_is)
    (case aC_InvalidBoard => k_is)
    (case xc_InvalidBoard => k_is)
    (case xt_InvalidBoard => k_is)
    (case aC_TooDeep => k_is)
    (case xc_TooDeep => k_is)
    (case xt_TooDeep => k_is)
    (case aC_TooMany => k_is)
    (case xc_TooMany => k_is)
    (case xt_TooMany => k_is)
    (case aC_NotBelow => k_is)
    (case xc_NotBelow => k_is)
    (case xt_NotBelow => k_is)
    (case aC_InUse => k_is)
    (case xc_InUse => k_is)
    (case xt_InUse => k_is)
    (case aC_NotTold => k_is)
    (case xc_NotTold => k_is)
    (case xt_NotTold => k_is)
    (case aC_Full => k_is)
    (case xc_Full => k_is)
    (case xt_Full => k_is)
    (case aC_InvalidLimit => k_is)
    (case xc_InvalidLimit => k_is)
    (case xt_InvalidLimit => k_is)
    (case aC_InvalidCommand => k_is)
    (case xc_InvalidCommand => k_is)
    (case xt_InvalidCommand => k_is)
    (case aC_InvalidPage => k_is)
    (case xc_InvalidPage => k_is)
    (case xt_InvalidPage => k_is)
    (case aC_UnknownName => k_is)
    (case xc_UnknownName => k_is)
    (case xt_UnknownName => k_is)
    (case aC_UnknownClaim => k_is)
    (case xc_UnknownClaim => k_is)
    (case xt_UnknownClaim => k_is)
    (case aC_NothingLeft => k_is)
    (case xc_NothingLeft => k_is)
    (case xt_NothingLeft => k_is)
    (case xm_InvalidName => rfl)
    (case xg_InvalidName => k_is)
    (case xh_InvalidName => k_is)
    (case xe_InvalidName => k_is)
    (case xd_InvalidName => k_is)
    (case xq_InvalidName => k_is)
    (case xo_InvalidName => k_is)
    (case xsa_InvalidName => k_is)
    (case xkc_InvalidName => k_is)
    (case xi_InvalidName => kx_is)
    (case xv_InvalidName => kx_is)
    (case xn_InvalidName_value => k_is)
    (case xn_InvalidName_code => k_is)
    (case xm_InvalidDeclaration => rfl)
    (case xg_InvalidDeclaration => k_is)
    (case xh_InvalidDeclaration => k_is)
    (case xe_InvalidDeclaration => k_is)
    (case xd_InvalidDeclaration => k_is)
    (case xq_InvalidDeclaration => k_is)
    (case xo_InvalidDeclaration => k_is)
    (case xsa_InvalidDeclaration => k_is)
    (case xkc_InvalidDeclaration => k_is)
    (case xi_InvalidDeclaration => kx_is)
    (case xv_InvalidDeclaration => kx_is)
    (case xn_InvalidDeclaration_at => k_is)
    (case xn_InvalidDeclaration_code => k_is)
    (case xm_DuplicateName => rfl)
    (case xg_DuplicateName => k_is)
    (case xh_DuplicateName => k_is)
    (case xe_DuplicateName => k_is)
    (case xd_DuplicateName => k_is)
    (case xq_DuplicateName => k_is)
    (case xo_DuplicateName => k_is)
    (case xsa_DuplicateName => k_is)
    (case xkc_DuplicateName => k_is)
    (case xi_DuplicateName => kx_is)
    (case xv_DuplicateName => kx_is)
    (case xn_DuplicateName_name => k_is)
    (case xn_DuplicateName_code => k_is)
    (case xm_Unlike => rfl)
    (case xg_Unlike => k_is)
    (case xh_Unlike => k_is)
    (case xe_Unlike => k_is)
    (case xd_Unlike => k_is)
    (case xq_Unlike => k_is)
    (case xo_Unlike => k_is)
    (case xsa_Unlike => k_is)
    (case xkc_Unlike => k_is)
    (case xi_Unlike => kx_is)
    (case xv_Unlike => kx_is)
    (case xn_Unlike_low => k_is)
    (case xn_Unlike_high => k_is)
    (case xn_Unlike_code => k_is)
    (case xm_Ring => rfl)
    (case xg_Ring => k_is)
    (case xh_Ring => k_is)
    (case xe_Ring => k_is)
    (case xd_Ring => k_is)
    (case xq_Ring => k_is)
    (case xo_Ring => k_is)
    (case xsa_Ring => k_is)
    (case xkc_Ring => k_is)
    (case xi_Ring => kx_is)
    (case xv_Ring => kx_is)
    (case xn_Ring_low => k_is)
    (case xn_Ring_high => k_is)
    (case xn_Ring_code => k_is)
    (case xm_WrongSort => rfl)
    (case xg_WrongSort => k_is)
    (case xh_WrongSort => k_is)
    (case xe_WrongSort => k_is)
    (case xd_WrongSort => k_is)
    (case xq_WrongSort => k_is)
    (case xo_WrongSort => k_is)
    (case xsa_WrongSort => k_is)
    (case xkc_WrongSort => k_is)
    (case xi_WrongSort => kx_is)
    (case xv_WrongSort => kx_is)
    (case xn_WrongSort_path => k_is)
    (case xn_WrongSort_code => k_is)
    (case xm_UnlikeSorts => rfl)
    (case xg_UnlikeSorts => k_is)
    (case xh_UnlikeSorts => k_is)
    (case xe_UnlikeSorts => k_is)
    (case xd_UnlikeSorts => k_is)
    (case xq_UnlikeSorts => k_is)
    (case xo_UnlikeSorts => k_is)
    (case xsa_UnlikeSorts => k_is)
    (case xkc_UnlikeSorts => k_is)
    (case xi_UnlikeSorts => kx_is)
    (case xv_UnlikeSorts => kx_is)
    (case xn_UnlikeSorts_code => k_is)
    (case xm_InvalidText => rfl)
    (case xg_InvalidText => k_is)
    (case xh_InvalidText => k_is)
    (case xe_InvalidText => k_is)
    (case xd_InvalidText => k_is)
    (case xq_InvalidText => k_is)
    (case xo_InvalidText => k_is)
    (case xsa_InvalidText => k_is)
    (case xkc_InvalidText => k_is)
    (case xi_InvalidText => kx_is)
    (case xv_InvalidText => kx_is)
    (case xn_InvalidText_value => k_is)
    (case xn_InvalidText_code => k_is)
    (case xm_InvalidBoard => rfl)
    (case xg_InvalidBoard => k_is)
    (case xh_InvalidBoard => k_is)
    (case xe_InvalidBoard => k_is)
    (case xd_InvalidBoard => k_is)
    (case xq_InvalidBoard => k_is)
    (case xo_InvalidBoard => k_is)
    (case xsa_InvalidBoard => k_is)
    (case xkc_InvalidBoard => k_is)
    (case xi_InvalidBoard => kx_is)
    (case xv_InvalidBoard => kx_is)
    (case xn_InvalidBoard_name => k_is)
    (case xn_InvalidBoard_code => k_is)
    (case xm_TooDeep => rfl)
    (case xg_TooDeep => k_is)
    (case xh_TooDeep => k_is)
    (case xe_TooDeep => k_is)
    (case xd_TooDeep => k_is)
    (case xq_TooDeep => k_is)
    (case xo_TooDeep => k_is)
    (case xsa_TooDeep => k_is)
    (case xkc_TooDeep => k_is)
    (case xi_TooDeep => kx_is)
    (case xv_TooDeep => kx_is)
    (case xn_TooDeep_most => k_is)
    (case xn_TooDeep_code => k_is)
    (case xm_TooMany => rfl)
    (case xg_TooMany => k_is)
    (case xh_TooMany => k_is)
    (case xe_TooMany => k_is)
    (case xd_TooMany => k_is)
    (case xq_TooMany => k_is)
    (case xo_TooMany => k_is)
    (case xsa_TooMany => k_is)
    (case xkc_TooMany => k_is)
    (case xi_TooMany => kx_is)
    (case xv_TooMany => kx_is)
    (case xn_TooMany_most => k_is)
    (case xn_TooMany_code => k_is)
    (case xm_NotBelow => rfl)
    (case xg_NotBelow => k_is)
    (case xh_NotBelow => k_is)
    (case xe_NotBelow => k_is)
    (case xd_NotBelow => k_is)
    (case xq_NotBelow => k_is)
    (case xo_NotBelow => k_is)
    (case xsa_NotBelow => k_is)
    (case xkc_NotBelow => k_is)
    (case xi_NotBelow => kx_is)
    (case xv_NotBelow => kx_is)
    (case xn_NotBelow_code => k_is)
    (case xm_InUse => rfl)
    (case xg_InUse => k_is)
    (case xh_InUse => k_is)
    (case xe_InUse => k_is)
    (case xd_InUse => k_is)
    (case xq_InUse => k_is)
    (case xo_InUse => k_is)
    (case xsa_InUse => k_is)
    (case xkc_InUse => k_is)
    (case xi_InUse => kx_is)
    (case xv_InUse => kx_is)
    (case xn_InUse_name => k_is)
    (case xn_InUse_code => k_is)
    (case xm_NotTold => rfl)
    (case xg_NotTold => k_is)
    (case xh_NotTold => k_is)
    (case xe_NotTold => k_is)
    (case xd_NotTold => k_is)
    (case xq_NotTold => k_is)
    (case xo_NotTold => k_is)
    (case xsa_NotTold => k_is)
    (case xkc_NotTold => k_is)
    (case xi_NotTold => kx_is)
    (case xv_NotTold => kx_is)
    (case xn_NotTold_low => k_is)
    (case xn_NotTold_high => k_is)
    (case xn_NotTold_code => k_is)
    (case xm_Full => rfl)
    (case xg_Full => k_is)
    (case xh_Full => k_is)
    (case xe_Full => k_is)
    (case xd_Full => k_is)
    (case xq_Full => k_is)
    (case xo_Full => k_is)
    (case xsa_Full => k_is)
    (case xkc_Full => k_is)
    (case xi_Full => kx_is)
    (case xv_Full => kx_is)
    (case xn_Full_limit => k_is)
    (case xn_Full_code => k_is)
    (case xm_InvalidLimit => rfl)
    (case xg_InvalidLimit => k_is)
    (case xh_InvalidLimit => k_is)
    (case xe_InvalidLimit => k_is)
    (case xd_InvalidLimit => k_is)
    (case xq_InvalidLimit => k_is)
    (case xo_InvalidLimit => k_is)
    (case xsa_InvalidLimit => k_is)
    (case xkc_InvalidLimit => k_is)
    (case xi_InvalidLimit => kx_is)
    (case xv_InvalidLimit => kx_is)
    (case xn_InvalidLimit_value => k_is)
    (case xn_InvalidLimit_code => k_is)
    (case xm_InvalidCommand => rfl)
    (case xg_InvalidCommand => k_is)
    (case xh_InvalidCommand => k_is)
    (case xe_InvalidCommand => k_is)
    (case xd_InvalidCommand => k_is)
    (case xq_InvalidCommand => k_is)
    (case xo_InvalidCommand => k_is)
    (case xsa_InvalidCommand => k_is)
    (case xkc_InvalidCommand => k_is)
    (case xi_InvalidCommand => kx_is)
    (case xv_InvalidCommand => kx_is)
    (case xn_InvalidCommand_at => k_is)
    (case xn_InvalidCommand_code => k_is)
    (case xm_InvalidPage => rfl)
    (case xg_InvalidPage => k_is)
    (case xh_InvalidPage => k_is)
    (case xe_InvalidPage => k_is)
    (case xd_InvalidPage => k_is)
    (case xq_InvalidPage => k_is)
    (case xo_InvalidPage => k_is)
    (case xsa_InvalidPage => k_is)
    (case xkc_InvalidPage => k_is)
    (case xi_InvalidPage => kx_is)
    (case xv_InvalidPage => kx_is)
    (case xn_InvalidPage_line => k_is)
    (case xn_InvalidPage_code => k_is)
    (case xm_NothingLeft => rfl)
    (case xg_NothingLeft => k_is)
    (case xh_NothingLeft => k_is)
    (case xe_NothingLeft => k_is)
    (case xd_NothingLeft => k_is)
    (case xq_NothingLeft => k_is)
    (case xo_NothingLeft => k_is)
    (case xsa_NothingLeft => k_is)
    (case xkc_NothingLeft => k_is)
    (case xi_NothingLeft => kx_is)
    (case xv_NothingLeft => kx_is)
    (case xn_NothingLeft_code => k_is)
    (case xm_UnknownName => rfl)
    (case xg_UnknownName => k_is)
    (case xh_UnknownName => k_is)
    (case xe_UnknownName => k_is)
    (case xd_UnknownName => k_is)
    (case xq_UnknownName => k_is)
    (case xo_UnknownName => k_is)
    (case xsa_UnknownName => k_is)
    (case xkc_UnknownName => k_is)
    (case xi_UnknownName => kx_is)
    (case xv_UnknownName => kx_is)
    (case xn_UnknownName_name => k_is)
    (case xn_UnknownName_code => k_is)
    (case xm_UnknownClaim => rfl)
    (case xg_UnknownClaim => k_is)
    (case xh_UnknownClaim => k_is)
    (case xe_UnknownClaim => k_is)
    (case xd_UnknownClaim => k_is)
    (case xq_UnknownClaim => k_is)
    (case xo_UnknownClaim => k_is)
    (case xsa_UnknownClaim => k_is)
    (case xkc_UnknownClaim => k_is)
    (case xi_UnknownClaim => kx_is)
    (case xv_UnknownClaim => kx_is)
    (case xn_UnknownClaim_name => k_is)
    (case xn_UnknownClaim_code => k_is)
    (case xnd => decide +kernel)
    (case a1 => k_is)
    (case l1 => k_is)
    (case e1 => k_is)
    (case k1 => k_is)
    (case a2 => k_is)
    (case ti2 => k_is)
    (case l2 => k_is)
    (case e2 => k_is)
    (case k2 => k_is)
    (case a3 => k_is)
    (case ti3 => k_is)
    (case l3 => k_is)
    (case e3 => k_is)
    (case k3 => k_is)
    (case a4 => k_is)
    (case ti4 => k_is)
    (case l4 => k_is)
    (case e4 => k_is)
    (case k4 => k_is)
    (case a5 => k_is)
    (case ti5 => k_is)
    (case l5 => k_is)
    (case e5 => k_is)
    (case k5 => k_is)
    (case a6 => k_is)
    (case ti6 => k_is)
    (case l6 => k_is)
    (case e6 => k_is)
    (case k6 => k_is)
    (case a7 => k_is)
    (case ti7 => k_is)
    (case l7 => k_is)
    (case e7 => k_is)
    (case k7 => k_is)
    (case a8 => k_is)
    (case ti8 => k_is)
    (case l8 => k_is)
    (case e8 => k_is)
    (case k8 => k_is)
    (case a9 => k_is)
    (case ti9 => k_is)
    (case l9 => k_is)
    (case e9 => k_is)
    (case k9 => k_is)
    (case a10 => k_is)
    (case ti10 => k_is)
    (case l10 => k_is)
    (case e10 => k_is)
    (case k10 => k_is)
    (case a11 => k_is)
    (case ti11 => k_is)
    (case l11 => k_is)
    (case e11 => k_is)
    (case k11 => k_is)
    (case a12 => k_is)
    (case ti12 => k_is)
    (case l12 => k_is)
    (case e12 => k_is)
    (case k12 => k_is)
    (case a13 => k_is)
    (case ti13 => k_is)
    (case l13 => k_is)
    (case e13 => k_is)
    (case k13 => k_is)
    (case a14 => k_is)
    (case ti14 => k_is)
    (case l14 => k_is)
    (case e14 => k_is)
    (case k14 => k_is)
    (case a15 => k_is)
    (case ti15 => k_is)
    (case l15 => k_is)
    (case e15 => k_is)
    (case k15 => k_is)
    (case a16 => k_is)
    (case ti16 => k_is)
    (case l16 => k_is)
    (case e16 => k_is)
    (case k16 => k_is)
    (case a17 => k_is)
    (case ti17 => k_is)
    (case l17 => k_is)
    (case e17 => k_is)
    (case k17 => k_is)
    (case a18 => k_is)
    (case ti18 => k_is)
    (case l18 => k_is)
    (case e18 => k_is)
    (case k18 => k_is)
    (case a19 => k_is)
    (case ti19 => k_is)
    (case l19 => k_is)
    (case e19 => k_is)
    (case k19 => k_is)
    (case a20 => k_is)
    (case l20 => k_is)
    (case e20 => k_is)
    (case k20 => k_is)
    (case a21 => k_is)
    (case ti21 => k_is)
    (case l21 => k_is)
    (case e21 => k_is)
    (case k21 => k_is)
    (case a22 => k_is)
    (case l22 => k_is)
    (case e22 => k_is)
    (case k22 => k_is)
    (case a23 => k_is)
    (case l23 => k_is)
    (case e23 => k_is)
    (case k23 => k_is)
    (case a24 => k_is)
    (case l24 => k_is)
    (case e24 => k_is)
    (case k24 => k_is)
    (case a25 => k_is)
    (case l25 => k_is)
    (case e25 => k_is)
    (case k25 => k_is)
    (case a26 => k_is)
    (case ti26 => k_is)
    (case l26 => k_is)
    (case e26 => k_is)
    (case k26 => k_is)
    (case a27 => k_is)
    (case ti27 => k_is)
    (case l27 => k_is)
    (case e27 => k_is)
    (case k27 => k_is)
    (case a28 => k_is)
    (case l28 => k_is)
    (case e28 => k_is)
    (case k28 => k_is)
    (case a29 => k_is)
    (case l29 => k_is)
    (case e29 => k_is)
    (case k29 => k_is)
    (case z_IndexError => k_is)
    (case z_LookupError => k_is)
    (case z_ValueError => k_is)
    (case z_all => k_is)
    (case z_bool => k_is)
    (case z_int => k_is)
    (case z_isinstance => k_is)
    (case z_len => k_is)
    (case z_list => k_is)
    (case z_range => k_is)
    (case z_str => k_is)
    (case z_tuple => k_is)
    (case z_zip => k_is)
#print axioms PySem.Challenge.cw_betweenmaps_k01_errors_by_themselves_holds
