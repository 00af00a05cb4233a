import PyProof.Rows.All
import HandS.ForMost
import HandS.ForExc
import HandS.IsInst
import HandS.TryMany
import HandS.HotCalls
import HandS.ExcIs
import HandS.Wide
import HandS.TupSets
import HandS.SortInts
import HandS.Walk
import HandS.Style
import HandS.Flow
import HandS.TupAny
import HandS.TupMul
import HandS.Deep
import HandS.CallLocal
import HandS.Zip
import HandS.Conv
import KE.GoesMore
import KE.SortData
import PyProof.TupleOfSeq
import HandS.SetFor
import HandS.Text
import KE.DataMinMax
import PySem.Challenge.RW_shelfhouse_k00_rising_and_falling
set_option Elab.async false
set_option linter.all false
set_option maxRecDepth 100000
set_option maxHeartbeats 4000000
namespace Sh
open PySem PySem.Spec PyProof.Rows L2

/-! ### values as plain data -/
inductive D where
  | non | bl (b : Bool) | int (i : Int) | str (x : Str)
  | tup (xs : List D) | lst (xs : List D)
  /-- the script: read alone -/
  | scr (xs : List Int)
  /-- a dict: keys, values -/
  | dct (ks vs : List D)
  /-- a set of ints -/
  | iset (xs : List Int)
  /-- a def or a class of the text, by its name -/
  | fn (x : Str)
  /-- a caught exception of the class -/
  | exc (x : Str)

inductive R (α : Type) where
  | ok (a : α) | raise (c : Str) | stuck
def R.bind {α β : Type} (r : R α) (k : α → R β) : R β := match r with
  | .ok a => k a
  | .raise c => .raise c
  | .stuck => .stuck

/-! ### how data lies in the abstract heap -/
section
variable (K : PySem.W.Frag) (mg : Str → Option Value)
mutual
inductive RepV (H : Hp) (A : Addr → Prop) : D → V → Prop
  | non : RepV H A .non .non
  | bl (b : Bool) : RepV H A (.bl b) (.bl b)
  | int (i : Int) : RepV H A (.int i) (.int i)
  | str (x : Str) : RepV H A (.str x) (.str x)
  | tup {a : Addr} {ds : List D} {vs : List V} : ((H a = some (.tup vs) ∧ ¬ A a) ∨ (∀ H', SqT K H' a vs)) → RepL H A ds vs → RepV H A (.tup ds) (.ref a)
  | lst {a : Addr} {ds : List D} {vs : List V} : ¬ A a → H a = some (.lst vs) → RepL H A ds vs → RepV H A (.lst ds) (.ref a)
  | scr {a : Addr} {ns : List Int} : ((Rd H a (.lst (ns.map V.int)) ∧ ¬ A a) ∨ (∀ H', SqL K H' a (ns.map V.int))) → RepV H A (.scr ns) (.ref a)
  | dctK {a : Addr} {ks vs : List D} {kvs : List (Key × V)} : ¬ A a → H a = some (.dK kvs) → RepL H A ks (kvs.map fun p => kV p.1) → RepL H A vs (kvs.map (·.2)) → RepV H A (.dct ks vs) (.ref a)
  | iset {a : Addr} {ns : List Int} {S : Int → Bool} {n : Nat} : ¬ A a → H a = some (.set S n) → (∀ i, S i = true ↔ i ∈ ns) → ns.Nodup → n = ns.length → RepV H A (.iset ns) (.ref a)
  | fn {x : Str} {a : Addr} : mg x = some (.ref a) → RepV H A (.fn x) (.ref a)
inductive RepL (H : Hp) (A : Addr → Prop) : List D → List V → Prop
  | nil : RepL H A [] []
  | cons {d : D} {ds : List D} {v : V} {vs : List V} : RepV H A d v → RepL H A ds vs → RepL H A (d :: ds) (v :: vs)
end
end

/-- what is tracked and not set apart stays, and is not set apart -/
def Mv (A : Addr → Prop) (H : Hp) (A' : Addr → Prop) (H' : Hp) : Prop := ∀ b o, H b = some o → ¬ A b → H' b = some o ∧ ¬ A' b
theorem Mv.refl (A : Addr → Prop) (H : Hp) : Mv A H A H := fun _ _ h n => ⟨h, n⟩
theorem Mv.trans {A A1 A2 : Addr → Prop} {H H1 H2 : Hp} (a : Mv A H A1 H1) (b : Mv A1 H1 A2 H2) : Mv A H A2 H2 := fun c o h n => b c o (a c o h n).1 (a c o h n).2
theorem Mv.same {A : Addr → Prop} {H H' : Hp} (s : Same H H') : Mv A H A H' := fun b o h n => ⟨s b o h, n⟩

section
variable {K : PySem.W.Frag} {mg : Str → Option Value} {H H' : Hp} {A A' : Addr → Prop}
mutual
theorem RepV.mv (m : Mv A H A' H') : ∀ {d : D} {v : V}, RepV K mg H A d v → RepV K mg H' A' d v
  | _, _, .non => .non
  | _, _, .bl b => .bl b
  | _, _, .int i => .int i
  | _, _, .str x => .str x
  | _, _, .tup (.inl ⟨h, n⟩) r => .tup (.inl (m _ _ h n)) (RepL.mv m r)
  | _, _, .tup (.inr h) r => .tup (.inr h) (RepL.mv m r)
  | _, _, .lst n h r => .lst (m _ _ h n).2 (m _ _ h n).1 (RepL.mv m r)
  | _, _, .scr (.inl ⟨.inl h, n⟩) => .scr (.inl ⟨.inl (m _ _ h n).1, (m _ _ h n).2⟩)
  | _, _, .scr (.inl ⟨.inr ⟨o, h⟩, n⟩) => .scr (.inl ⟨.inr ⟨o, (m _ _ h n).1⟩, (m _ _ h n).2⟩)
  | _, _, .scr (.inr h) => .scr (.inr h)
  | _, _, .dctK n h r q => .dctK (m _ _ h n).2 (m _ _ h n).1 (RepL.mv m r) (RepL.mv m q)
  | _, _, .iset n h a b c => .iset (m _ _ h n).2 (m _ _ h n).1 a b c
  | _, _, .fn h => .fn h
theorem RepL.mv (m : Mv A H A' H') : ∀ {ds : List D} {vs : List V}, RepL K mg H A ds vs → RepL K mg H' A' ds vs
  | _, _, .nil => .nil
  | _, _, .cons r t => .cons (RepV.mv m r) (RepL.mv m t)
end
theorem RepV.same (s : Same H H') {d : D} {v : V} (r : RepV K mg H A d v) : RepV K mg H' A d v := r.mv (.same s)
theorem RepL.same (s : Same H H') {ds : List D} {vs : List V} (r : RepL K mg H A ds vs) : RepL K mg H' A ds vs := r.mv (.same s)
theorem RepL.len : ∀ {ds : List D} {vs : List V}, RepL K mg H A ds vs → ds.length = vs.length
  | _, _, .nil => rfl
  | _, _, .cons _ t => by simp [RepL.len t]
theorem RepL.get : ∀ {ds : List D} {vs : List V} {i : Nat} {d : D}, RepL K mg H A ds vs → ds[i]? = some d → ∃ v, vs[i]? = some v ∧ RepV K mg H A d v
  | _, _, _, _, .nil, e => by simp at e
  | _, _, 0, _, .cons r _, e => by simp at e; subst e; exact ⟨_, rfl, r⟩
  | _, _, i + 1, _, .cons _ t, e => by
    obtain ⟨v, h1, h2⟩ := RepL.get (i := i) t (by simpa using e)
    exact ⟨v, by simpa using h1, h2⟩
theorem RepL.getV : ∀ {ds : List D} {vs : List V} {i : Nat} {v : V}, RepL K mg H A ds vs → vs[i]? = some v → ∃ d, ds[i]? = some d ∧ RepV K mg H A d v
  | _, _, _, _, .nil, e => by simp at e
  | _, _, 0, _, .cons r _, e => by simp at e; subst e; exact ⟨_, rfl, r⟩
  | _, _, i + 1, _, .cons _ t, e => by
    obtain ⟨v, h1, h2⟩ := RepL.getV (i := i) t (by simpa using e)
    exact ⟨v, by simpa using h1, h2⟩
theorem RepL.append : ∀ {ds es : List D} {vs ws : List V}, RepL K mg H A ds vs → RepL K mg H A es ws → RepL K mg H A (ds ++ es) (vs ++ ws)
  | _, _, _, _, .nil, s => s
  | _, _, _, _, .cons r t, s => .cons r (RepL.append t s)
theorem RepL.set : ∀ {ds : List D} {vs : List V} {d : D} {v : V} (i : Nat), RepL K mg H A ds vs → RepV K mg H A d v → RepL K mg H A (ds.set i d) (vs.set i v)
  | _, _, _, _, _, .nil, _ => .nil
  | _, _, _, _, 0, .cons _ t, r => .cons r t
  | _, _, _, _, i + 1, .cons q t, r => .cons q (RepL.set i t r)
theorem RepL.take : ∀ {ds : List D} {vs : List V} (n : Nat), RepL K mg H A ds vs → RepL K mg H A (ds.take n) (vs.take n)
  | _, _, 0, _ => .nil
  | _, _, _ + 1, .nil => .nil
  | _, _, n + 1, .cons r t => .cons r (RepL.take n t)
theorem RepL.drop : ∀ {ds : List D} {vs : List V} (n : Nat), RepL K mg H A ds vs → RepL K mg H A (ds.drop n) (vs.drop n)
  | _, _, 0, r => r
  | _, _, _ + 1, .nil => .nil
  | _, _, n + 1, .cons _ t => RepL.drop n t
theorem RepL.reverse {ds : List D} {vs : List V} (h : RepL K mg H A ds vs) : RepL K mg H A ds.reverse vs.reverse := by
  induction h using RepL.rec (motive_1 := fun _ _ _ => True) <;> try trivial
  case nil => exact .nil
  case cons r _ _ ih => simp only [List.reverse_cons]; exact ih.append (.cons r .nil)
theorem RepL.rep {ds : List D} {vs : List V} (h : RepL K mg H A ds vs) : ∀ k : Nat, RepL K mg H A (List.replicate k ds).flatten (List.replicate k vs).flatten
  | 0 => .nil
  | k + 1 => by simp only [List.replicate_succ, List.flatten_cons]; exact h.append (h.rep k)
theorem RepL.eraseIdx : ∀ {ds : List D} {vs : List V} (i : Nat), RepL K mg H A ds vs → RepL K mg H A (ds.eraseIdx i) (vs.eraseIdx i)
  | _, _, _, .nil => .nil
  | _, _, 0, .cons _ t => t
  | _, _, i + 1, .cons r t => .cons r (RepL.eraseIdx i t)
theorem RepL.ints : ∀ {ns : List Int} {vs : List V}, RepL K mg H A (ns.map D.int) vs → vs = ns.map V.int
  | [], _, .nil => rfl
  | _ :: _, _, .cons r t => by cases r; rw [RepL.ints t]; rfl
theorem RepL.of_ints : ∀ (ns : List Int), RepL K mg H A (ns.map D.int) (ns.map V.int)
  | [] => .nil
  | n :: r => .cons (.int n) (RepL.of_ints r)
end
end Sh

namespace Sh
open PySem PySem.Spec PyProof.Rows L2

/-! ### the slots as plain data -/
abbrev St := L2.St
abbrev Rho := List (Option D)
abbrev Al := Nat → Option Addr
def AA (Ao : Addr → Prop) (α : Al) : Addr → Prop := fun b => Ao b ∨ ∃ i, α i = some b
def isBox : D → Bool
  | .lst _ => true
  | .dct _ _ => true
  | .iset _ => true
  | _ => false
section
variable (K : PySem.W.Frag) (mg : Str → Option Value)
/-- a box at its own address -/
def TopR (H : Hp) (A : Addr → Prop) (d : D) (a : Addr) : Prop := match d with
  | .lst ds => ∃ vs, H a = some (.lst vs) ∧ RepL K mg H A ds vs
  | .dct ks ws => ∃ kvs : List (Key × V), H a = some (.dK kvs) ∧ RepL K mg H A ks (kvs.map fun p => kV p.1) ∧ RepL K mg H A ws (kvs.map (·.2))
  | .iset ns => ∃ (S : Int → Bool) (n : Nat), H a = some (.set S n) ∧ (∀ i, S i = true ↔ i ∈ ns) ∧ ns.Nodup ∧ n = ns.length
  | _ => False
/-- a value that is read: as data, or a box at its own address -/
def RepT (H : Hp) (A : Addr → Prop) (d : D) (v : V) : Prop := RepV K mg H A d v ∨ ∃ a, v = .ref a ∧ TopR K mg H A d a
end
structure Fx where
  Ao : Addr → Prop
  H0 : Hp
structure EnvR (K : PySem.W.Frag) (mg : Str → Option Value) (Z : Fx) (own : List Nat) (α : Al) (ρ : Rho) (σ : St) (H : Hp) : Prop where
  len : ρ.length = σ.length
  same : Same Z.H0 H
  sh : ∀ i d, ρ[i]? = some (some d) → (i ∉ own ∨ isBox d = false) → ∃ v, σ[i]? = some (some v) ∧ RepV K mg H (AA Z.Ao α) d v
  ow : ∀ i d, ρ[i]? = some (some d) → i ∈ own → isBox d = true → ∃ a, α i = some a ∧ σ[i]? = some (some (.ref a)) ∧ TopR K mg H (AA Z.Ao α) d a
  dom : ∀ b, AA Z.Ao α b → ∃ o, H b = some o
  new : ∀ i a, α i = some a → Z.H0 a = none
  inj : ∀ i j a, α i = some a → α j = some a → i = j
  out : ∀ b, Z.Ao b → ∃ o, Z.H0 b = some o
  fin : ∃ n, ∀ i, n ≤ i → α i = none

section
variable {K : PySem.W.Frag} {mg : Str → Option Value} {H H' : Hp} {A A' : Addr → Prop}
theorem TopR.mv (m : Mv A H A' H') {d : D} {a : Addr} (r : TopR K mg H A d a) (e : ∀ o, H a = some o → H' a = some o) : TopR K mg H' A' d a := by
  cases d with
  | lst ds => obtain ⟨vs, h, q⟩ := r; exact ⟨vs, e _ h, q.mv m⟩
  | dct ks ws => obtain ⟨kvs, h, q, q2⟩ := r; exact ⟨kvs, e _ h, q.mv m, q2.mv m⟩
  | iset ns => obtain ⟨S, n, h, q⟩ := r; exact ⟨S, n, e _ h, q⟩
  | _ => exact r.elim
theorem TopR.same (s : Same H H') {d : D} {a : Addr} (r : TopR K mg H A d a) : TopR K mg H' A d a := r.mv (.same s) (fun o h => s _ _ h)
theorem RepT.same (s : Same H H') {d : D} {v : V} (r : RepT K mg H A d v) : RepT K mg H' A d v := by
  rcases r with r | ⟨a, e, r⟩
  · exact .inl (r.same s)
  · exact .inr ⟨a, e, r.same s⟩
theorem TopR.box {d : D} {a : Addr} (r : TopR K mg H A d a) : isBox d = true := by
  cases d <;> first | rfl | exact r.elim
/-- a box by itself becomes data -/
theorem TopR.rep {d : D} {a : Addr} (r : TopR K mg H (fun b => A b ∨ b = a) d a) (n : ¬ A a) : RepV K mg H A d (.ref a) := by
  have m : Mv (fun b => A b ∨ b = a) H A H := fun b o h q => ⟨h, fun z => q (.inl z)⟩
  cases d with
  | lst ds => obtain ⟨vs, h, q⟩ := r; exact .lst n h (q.mv m)
  | dct ks ws => obtain ⟨kvs, h, q, q2⟩ := r; exact .dctK n h (q.mv m) (q2.mv m)
  | iset ns => obtain ⟨S, k, h, q1, q2, q3⟩ := r; exact .iset n h q1 q2 q3
  | _ => exact r.elim
theorem TopR.rep' {d : D} {a : Addr} (r : TopR K mg H A d a) (n : ¬ A a) : RepV K mg H A d (.ref a) := by
  cases d with
  | lst ds => obtain ⟨vs, h, q⟩ := r; exact .lst n h q
  | dct ks ws => obtain ⟨kvs, h, q, q2⟩ := r; exact .dctK n h q q2
  | iset ns => obtain ⟨S, k, h, q1, q2, q3⟩ := r; exact .iset n h q1 q2 q3
  | _ => exact r.elim
/-- data of no box -/
theorem RepT.val {d : D} {v : V} (r : RepT K mg H A d v) (n : isBox d = false) : RepV K mg H A d v := by
  rcases r with r | ⟨a, e, r⟩
  · exact r
  · rw [r.box] at n; cases n
variable {Z : Fx} {own : List Nat} {α : Al} {ρ : Rho} {σ : St}
theorem EnvR.mono (E : EnvR K mg Z own α ρ σ H) (s : Same H H') : EnvR K mg Z own α ρ σ H' :=
  ⟨E.len, E.same.trans s, fun i d e n => let ⟨v, h, r⟩ := E.sh i d e n; ⟨v, h, r.same s⟩, fun i d e n b => let ⟨a, h, h2, r⟩ := E.ow i d e n b; ⟨a, h, h2, r.same s⟩,
    fun b h => let ⟨o, q⟩ := E.dom b h; ⟨o, s _ _ q⟩, E.new, E.inj, E.out, E.fin⟩
theorem EnvR.nA (E : EnvR K mg Z own α ρ σ H) {p : Addr} (h : H p = none) : ¬ AA Z.Ao α p := fun z => by
  obtain ⟨o, q⟩ := E.dom p z
  rw [h] at q; cases q
end

/-! ### judgements -/
abbrev FE := Rho → R D
abbrev FT := Rho → R Bool
section
variable (K : PySem.W.Frag) (mg : Str → Option Value) (Z : Fx) (own : List Nat) (W : WX)
/-- what a new value gives -/
def FQ (A : Addr → Prop) (H : Hp) (d : D) (Q : VK) : Prop :=
  if isBox d = true then ∀ p H', Same H H' → H p = none → TopR K mg H' (fun b => A b ∨ b = p) d p → Q (.ref p) H' else ∀ v H', Same H H' → RepV K mg H' A d v → Q v H'
/-- the ends of an expression: q tells what is asked of a value -/
def ESt (q : D → VK → Prop) (σ : St) (H : Hp) (r : R D) (Q : VK) : Prop := match r with
  | .ok d => q d Q
  | .raise c => ∀ C H', mg c = some (.ref C) → Same H H' → W (.ref C) none σ H'
  | .stuck => False
/-- data, away from what is set apart -/
def tE (f : FE) : TE := fun σ H Q => ∃ α ρ, EnvR K mg Z own α ρ σ H ∧ ESt mg W (fun d Q => ∀ v H', Same H H' → RepV K mg H' (AA Z.Ao α) d v → Q v H') σ H (f ρ) Q
/-- data that may be a set apart box, to be read -/
def tR (f : FE) : TE := fun σ H Q => ∃ α ρ, EnvR K mg Z own α ρ σ H ∧ ESt mg W (fun d Q => ∀ v H', Same H H' → RepT K mg H' (AA Z.Ao α) d v → Q v H') σ H (f ρ) Q
/-- data; a box is new -/
def tF (f : FE) : TE := fun σ H Q => ∃ α ρ, EnvR K mg Z own α ρ σ H ∧ ESt mg W (fun d Q => FQ K mg (AA Z.Ao α) H d Q) σ H (f ρ) Q
def tT (f : FT) : TT := fun σ H Q => ∃ α ρ, EnvR K mg Z own α ρ σ H ∧ match f ρ with
  | .ok b => ∀ H', Same H H' → Q b H'
  | .raise c => ∀ C H', mg c = some (.ref C) → Same H H' → W (.ref C) none σ H'
  | .stuck => False
end
def DE (X : Cx) (Z : Fx) (own : List Nat) (W : WX) (e : Expr) (f : FE) : Prop := PE X e (tE X.K X.mg Z own W f)
def DR (X : Cx) (Z : Fx) (own : List Nat) (W : WX) (e : Expr) (f : FE) : Prop := PE X e (tR X.K X.mg Z own W f)
def DF (X : Cx) (Z : Fx) (own : List Nat) (W : WX) (e : Expr) (f : FE) : Prop := PE X e (tF X.K X.mg Z own W f)
def DT (X : Cx) (Z : Fx) (own : List Nat) (W : WX) (e : Expr) (f : FT) : Prop := PT X e (tT X.K X.mg Z own W f)

theorem PE_imp {X : Cx} {e : Expr} {t t' : TE} (h : PE X e t) (i : ∀ σ H Q, t' σ H Q → t σ H Q) : PE X e t' := ⟨fun pins s σ H Q I w => h.run pins s σ H Q I (i σ H Q w)⟩
theorem PT_imp {X : Cx} {e : Expr} {t t' : TT} (h : PT X e t) (i : ∀ σ H Q, t' σ H Q → t σ H Q) : PT X e t' := ⟨fun pins s σ H Q I w => h.run pins s σ H Q I (i σ H Q w)⟩
section
variable {X : Cx} {Z : Fx} {own : List Nat} {W : WX} {e : Expr} {f : FE}
theorem ESt.imp {mg : Str → Option Value} {q q' : D → VK → Prop} {σ : St} {H : Hp} {r : R D} {Q Q' : VK} (h : ESt mg W q σ H r Q) (i : ∀ d, r = .ok d → q d Q → q' d Q') : ESt mg W q' σ H r Q' := by
  cases r with
  | ok d => exact i d rfl h
  | raise c => exact h
  | stuck => exact h
theorem FQ.imp {K : PySem.W.Frag} {mg : Str → Option Value} {A : Addr → Prop} {H : Hp} {d : D} {Q : VK} (h : FQ K mg A H d Q) {v : V} {H' : Hp} (s : Same H H') (b : isBox d = false) (r : RepV K mg H' A d v) : Q v H' := by
  unfold FQ at h
  rw [b, if_neg Bool.false_ne_true] at h
  exact h v H' s r
theorem FQ.new {K : PySem.W.Frag} {mg : Str → Option Value} {A : Addr → Prop} {H : Hp} {d : D} {Q : VK} (h : FQ K mg A H d Q) {p : Addr} {H' : Hp} (s : Same H H') (n : H p = none) (r : TopR K mg H' (fun b => A b ∨ b = p) d p) : Q (.ref p) H' := by
  unfold FQ at h
  rw [r.box, if_pos rfl] at h
  exact h p H' s n r
theorem FQ.of {K : PySem.W.Frag} {mg : Str → Option Value} {A : Addr → Prop} {H : Hp} {d : D} {Q : VK} (hA : ∀ p, H p = none → ¬ A p) (h : ∀ v H', Same H H' → RepV K mg H' A d v → Q v H') : FQ K mg A H d Q := by
  unfold FQ
  split
  · exact fun p H' s n r => h _ _ s (r.rep (hA p n))
  · exact h
theorem DF.toE (h : DF X Z own W e f) : DE X Z own W e f := PE_imp h fun σ H Q ⟨α, ρ, E, q⟩ => ⟨α, ρ, E, q.imp fun d _ q => FQ.of (fun p n => E.nA n) q⟩
theorem DE.toR (h : DE X Z own W e f) : DR X Z own W e f := PE_imp h fun σ H Q ⟨α, ρ, E, q⟩ => ⟨α, ρ, E, q.imp fun d _ q v H' s r => q v H' s (.inl r)⟩
theorem DF.toR (h : DF X Z own W e f) : DR X Z own W e f := h.toE.toR
end

/-! ### running parts one behind another -/
section
variable {K : PySem.W.Frag} {mg : Str → Option Value} {Z : Fx} {own : List Nat} {W : WX} {σ : St} {H H1 : Hp} {α : Al} {ρ : Rho} {Q : VK}
theorem Same.new {H : Hp} {p : Addr} {o : HO} (h : H p = none) : Same H (upd H p o) := fun b x e => by
  rw [upd_ne (ne_of_none e h)]; exact e
theorem FQ.mono {A : Addr → Prop} {d : D} (s : Same H H1) (h : FQ K mg A H d Q) : FQ K mg A H1 d Q := by
  unfold FQ at h ⊢
  split at h
  · rename_i b
    rw [if_pos b]
    exact fun p H' s' n r => h p H' (s.trans s') (s.free n) r
  · rename_i b
    rw [if_neg b]
    exact fun v H' s' r => h v H' (s.trans s') r
/-- what is asked may be asked later -/
def Later (q : Hp → D → VK → Prop) : Prop := ∀ H H1 d Q, Same H H1 → q H d Q → q H1 d Q
abbrev qE (K : PySem.W.Frag) (mg : Str → Option Value) (A : Addr → Prop) : Hp → D → VK → Prop := fun H d Q => ∀ v H', Same H H' → RepV K mg H' A d v → Q v H'
abbrev qR (K : PySem.W.Frag) (mg : Str → Option Value) (A : Addr → Prop) : Hp → D → VK → Prop := fun H d Q => ∀ v H', Same H H' → RepT K mg H' A d v → Q v H'
abbrev qF (K : PySem.W.Frag) (mg : Str → Option Value) (A : Addr → Prop) : Hp → D → VK → Prop := fun H d Q => FQ K mg A H d Q
theorem later_E {A : Addr → Prop} : Later (qE K mg A) := fun H H1 d Q s h v H' s' r => h v H' (s.trans s') r
theorem later_R {A : Addr → Prop} : Later (qR K mg A) := fun H H1 d Q s h v H' s' r => h v H' (s.trans s') r
theorem later_F {A : Addr → Prop} : Later (qF K mg A) := fun H H1 d Q s h => h.mono s
theorem ESt.later {q : Hp → D → VK → Prop} (l : Later q) (s : Same H H1) {r : R D} (h : ESt mg W (q H) σ H r Q) : ESt mg W (q H1) σ H1 r Q := by
  cases r with
  | ok d => exact l _ _ _ _ s h
  | raise c => exact fun C H' e s' => h C H' e (s.trans s')
  | stuck => exact h
theorem run_E {q : Hp → D → VK → Prop} (l : Later q) (E : EnvR K mg Z own α ρ σ H) {f : FE} {k : D → R D} (h : ESt mg W (q H) σ H ((f ρ).bind k) Q) :
    tE K mg Z own W f σ H (fun v H1 => ∃ d, f ρ = .ok d ∧ Same H H1 ∧ RepV K mg H1 (AA Z.Ao α) d v ∧ EnvR K mg Z own α ρ σ H1 ∧ ESt mg W (q H1) σ H1 (k d) Q) := by
  refine ⟨α, ρ, E, ?_⟩
  cases e : f ρ with
  | ok d => rw [e] at h; exact fun v H' s r => ⟨d, rfl, s, r, E.mono s, ESt.later l s h⟩
  | raise c => rw [e] at h; exact h
  | stuck => rw [e] at h; exact h
theorem run_R {q : Hp → D → VK → Prop} (l : Later q) (E : EnvR K mg Z own α ρ σ H) {f : FE} {k : D → R D} (h : ESt mg W (q H) σ H ((f ρ).bind k) Q) :
    tR K mg Z own W f σ H (fun v H1 => ∃ d, f ρ = .ok d ∧ Same H H1 ∧ RepT K mg H1 (AA Z.Ao α) d v ∧ EnvR K mg Z own α ρ σ H1 ∧ ESt mg W (q H1) σ H1 (k d) Q) := by
  refine ⟨α, ρ, E, ?_⟩
  cases e : f ρ with
  | ok d => rw [e] at h; exact fun v H' s r => ⟨d, rfl, s, r, E.mono s, ESt.later l s h⟩
  | raise c => rw [e] at h; exact h
  | stuck => rw [e] at h; exact h
theorem run_T {q : Hp → D → VK → Prop} (l : Later q) (E : EnvR K mg Z own α ρ σ H) {f : FT} {k : Bool → R D} (h : ESt mg W (q H) σ H ((f ρ).bind k) Q) :
    tT K mg Z own W f σ H (fun b H1 => Same H H1 ∧ EnvR K mg Z own α ρ σ H1 ∧ ESt mg W (q H1) σ H1 (k b) Q) := by
  refine ⟨α, ρ, E, ?_⟩
  cases e : f ρ with
  | ok d => rw [e] at h; exact fun H' s => ⟨s, E.mono s, ESt.later l s h⟩
  | raise c => rw [e] at h; exact h
  | stuck => rw [e] at h; exact h
/-- tests -/
def TSt (mg : Str → Option Value) (W : WX) (σ : St) (H : Hp) (r : R Bool) (Q : Bool → Hp → Prop) : Prop := match r with
  | .ok b => ∀ H', Same H H' → Q b H'
  | .raise c => ∀ C H', mg c = some (.ref C) → Same H H' → W (.ref C) none σ H'
  | .stuck => False
theorem TSt.later (s : Same H H1) {r : R Bool} {Q : Bool → Hp → Prop} (h : TSt mg W σ H r Q) : TSt mg W σ H1 r Q := by
  cases r with
  | ok d => exact fun H' s' => h H' (s.trans s')
  | raise c => exact fun C H' e s' => h C H' e (s.trans s')
  | stuck => exact h
theorem runT_R (E : EnvR K mg Z own α ρ σ H) {f : FE} {k : D → R Bool} {Q : Bool → Hp → Prop} (h : TSt mg W σ H ((f ρ).bind k) Q) :
    tR K mg Z own W f σ H (fun v H1 => ∃ d, f ρ = .ok d ∧ Same H H1 ∧ RepT K mg H1 (AA Z.Ao α) d v ∧ EnvR K mg Z own α ρ σ H1 ∧ TSt mg W σ H1 (k d) Q) := by
  refine ⟨α, ρ, E, ?_⟩
  cases e : f ρ with
  | ok d => rw [e] at h; exact fun v H' s r => ⟨d, rfl, s, r, E.mono s, h.later s⟩
  | raise c => rw [e] at h; exact h
  | stuck => rw [e] at h; exact h
theorem runT_E (E : EnvR K mg Z own α ρ σ H) {f : FE} {k : D → R Bool} {Q : Bool → Hp → Prop} (h : TSt mg W σ H ((f ρ).bind k) Q) :
    tE K mg Z own W f σ H (fun v H1 => ∃ d, f ρ = .ok d ∧ Same H H1 ∧ RepV K mg H1 (AA Z.Ao α) d v ∧ EnvR K mg Z own α ρ σ H1 ∧ TSt mg W σ H1 (k d) Q) := by
  refine ⟨α, ρ, E, ?_⟩
  cases e : f ρ with
  | ok d => rw [e] at h; exact fun v H' s r => ⟨d, rfl, s, r, E.mono s, h.later s⟩
  | raise c => rw [e] at h; exact h
  | stuck => rw [e] at h; exact h
theorem runT_T (E : EnvR K mg Z own α ρ σ H) {f : FT} {k : Bool → R Bool} {Q : Bool → Hp → Prop} (h : TSt mg W σ H ((f ρ).bind k) Q) :
    tT K mg Z own W f σ H (fun b H1 => Same H H1 ∧ EnvR K mg Z own α ρ σ H1 ∧ TSt mg W σ H1 (k b) Q) := by
  refine ⟨α, ρ, E, ?_⟩
  cases e : f ρ with
  | ok d => rw [e] at h; exact fun H' s => ⟨s, E.mono s, h.later s⟩
  | raise c => rw [e] at h; exact h
  | stuck => rw [e] at h; exact h
end
end Sh

namespace Sh
open PySem PySem.Spec PyProof.Rows L2
theorem sl_eq : (sizeLine : Nat) = 16777216 := sizeLine_eq
section
variable {K : PySem.W.Frag} {mg : Str → Option Value} {H H' : Hp} {A A' : Addr → Prop}
/-! ### data read back -/
theorem RepT.int {i : Int} {v : V} (r : RepT K mg H A (.int i) v) : v = .int i := by
  rcases r with r | ⟨a, _, r⟩
  · cases r; rfl
  · exact r.elim
theorem RepT.bl {i : Bool} {v : V} (r : RepT K mg H A (.bl i) v) : v = .bl i := by
  rcases r with r | ⟨a, _, r⟩
  · cases r; rfl
  · exact r.elim
theorem RepT.str {i : Str} {v : V} (r : RepT K mg H A (.str i) v) : v = .str i := by
  rcases r with r | ⟨a, _, r⟩
  · cases r; rfl
  · exact r.elim
theorem RepT.non {v : V} (r : RepT K mg H A .non v) : v = .non := by
  rcases r with r | ⟨a, _, r⟩
  · cases r; rfl
  · exact r.elim
theorem RepT.tup {ds : List D} {v : V} (r : RepT K mg H A (.tup ds) v) : ∃ a vs, v = .ref a ∧ SqT K H a vs ∧ RepL K mg H A ds vs := by
  rcases r with r | ⟨a, _, r⟩
  · cases r with
    | tup h q =>
      rcases h with ⟨h, _⟩ | h
      · exact ⟨_, _, rfl, SqT.of h, q⟩
      · exact ⟨_, _, rfl, h _, q⟩
  · exact r.elim
theorem RepT.lst {ds : List D} {v : V} (r : RepT K mg H A (.lst ds) v) : ∃ a vs, v = .ref a ∧ H a = some (.lst vs) ∧ RepL K mg H A ds vs := by
  rcases r with r | ⟨a, rfl, r⟩
  · cases r with
    | lst n h q => exact ⟨_, _, rfl, h, q⟩
  · obtain ⟨vs, h, q⟩ := r
    exact ⟨a, vs, rfl, h, q⟩
theorem RepT.scr {ns : List Int} {v : V} (r : RepT K mg H A (.scr ns) v) : ∃ a, v = .ref a ∧ SqL K H a (ns.map V.int) := by
  rcases r with r | ⟨a, rfl, r⟩
  · cases r with
    | scr h =>
      rcases h with ⟨h, _⟩ | h
      · exact ⟨_, rfl, .inl h⟩
      · exact ⟨_, rfl, h _⟩
  · exact r.elim
theorem RepT.fn {x : Str} {v : V} (r : RepT K mg H A (.fn x) v) : ∃ a, v = .ref a ∧ mg x = some (.ref a) := by
  rcases r with r | ⟨a, rfl, r⟩
  · cases r with
    | fn h => exact ⟨_, rfl, h⟩
  · exact r.elim
theorem RepT.dct {ks ws : List D} {v : V} (r : RepT K mg H A (.dct ks ws) v) : ∃ a kvs, v = .ref a ∧ H a = some (.dK kvs) ∧ RepL K mg H A ks (kvs.map fun p => kV p.1) ∧ RepL K mg H A ws (kvs.map (·.2)) := by
  rcases r with r | ⟨a, rfl, r⟩
  · cases r with
    | dctK n h q q2 => exact ⟨_, _, rfl, h, q, q2⟩
  · obtain ⟨kvs, h, q, q2⟩ := r
    exact ⟨a, kvs, rfl, h, q, q2⟩
/-- a new tuple -/
theorem RepV.newTup {p : Addr} {ds : List D} {vs : List V} (h : RepL K mg H A ds vs) (n : H p = none) (hA : ¬ A p) : RepV K mg (upd H p (.tup vs)) A (.tup ds) (.ref p) :=
  .tup (.inl ⟨upd_same, hA⟩) (h.same (Same.new n))
/-- a new list -/
theorem TopR.newLst {p : Addr} {ds : List D} {vs : List V} (h : RepL K mg H A ds vs) (n : H p = none) : TopR K mg (upd H p (.lst vs)) (fun b => A b ∨ b = p) (.lst ds) p :=
  ⟨vs, upd_same, h.mv fun b o e na => ⟨by rw [upd_ne (ne_of_none e n)]; exact e, fun z => z.elim na (ne_of_none e n)⟩⟩
theorem FQ.newLst {Q : VK} {ds : List D} {vs : List V} (h : FQ K mg A H (.lst ds) Q) (r : RepL K mg H A ds vs) {p : Addr} (n : H p = none) : Q (.ref p) (upd H p (.lst vs)) :=
  h.new (Same.new n) n (TopR.newLst r n)
theorem FQ.newTup {Q : VK} {ds : List D} {vs : List V} (h : FQ K mg A H (.tup ds) Q) (r : RepL K mg H A ds vs) (hA : ∀ p, H p = none → ¬ A p) {p : Addr} (n : H p = none) : Q (.ref p) (upd H p (.tup vs)) :=
  h.imp (Same.new n) rfl (RepV.newTup r n (hA p n))
theorem FQ.tupAt {Q : VK} {ds : List D} {v : V} (h : FQ K mg A H (.tup ds) Q) (r : RepT K mg H A (.tup ds) v) : Q v H := h.imp (Same.refl H) rfl (r.val rfl)
end

/-! ### operators by data -/
section
variable (K : PySem.W.Frag) (mg : Str → Option Value)
def rD (op : D → D → R D) : R2 := fun x y H Q => ∃ A dx dy d, (∀ p, H p = none → ¬ A p) ∧ RepT K mg H A dx x ∧ RepT K mg H A dy y ∧ op dx dy = .ok d ∧ FQ K mg A H d Q
inductive RepTL (H : Hp) (A : Addr → Prop) : List D → List V → Prop
  | nil : RepTL H A [] []
  | cons {d : D} {ds : List D} {v : V} {vs : List V} : RepT K mg H A d v → RepTL H A ds vs → RepTL H A (d :: ds) (v :: vs)
def rCD (op : List D → R D) : List V → Hp → VK → Prop := fun xs H Q => ∃ A ds d, (∀ p, H p = none → ¬ A p) ∧ RepTL K mg H A ds xs ∧ op ds = .ok d ∧ FQ K mg A H d Q
end
def OpD (X : Cx) (f : Value → Value → Sem Value) (op : D → D → R D) : Prop := OpR X f (rD X.K X.mg op)
def CallD (X : Cx) (f : Value) (op : List D → R D) : Prop := CallR X f (rCD X.K X.mg op)
theorem RepTL.same {K : PySem.W.Frag} {mg : Str → Option Value} {H H' : Hp} {A : Addr → Prop} (s : Same H H') : ∀ {ds : List D} {vs : List V}, RepTL K mg H A ds vs → RepTL K mg H' A ds vs
  | _, _, .nil => .nil
  | _, _, .cons r t => .cons (r.same s) (t.same s)

def CMulB (a b : Int) : Bool := (decide (-(2 ^ 64) < a) && decide (a < 2 ^ 64)) || (decide (-(2 ^ 64) < b) && decide (b < 2 ^ 64))
def addD : D → D → R D
  | .int a, .int b => .ok (.int (a + b))
  | .str x, .str y => if x.length + y.length ≤ 16777216 then .ok (.str (x ++ y)) else .stuck
  | .lst x, .lst y => if x.length + y.length ≤ 16777216 then .ok (.lst (x ++ y)) else .stuck
  | .tup x, .tup y => if x.length + y.length ≤ 16777216 then .ok (.tup (x ++ y)) else .stuck
  | _, _ => .stuck
def subD : D → D → R D
  | .int a, .int b => .ok (.int (a - b))
  | _, _ => .stuck
def mulD : D → D → R D
  | .int a, .int b => if CMulB a b = true then .ok (.int (a * b)) else .stuck
  | .lst x, .int k => if -(2 ^ 63) ≤ k ∧ k < 2 ^ 63 ∧ x.length * k.toNat ≤ 16777216 then .ok (.lst (List.replicate k.toNat x).flatten) else .stuck
  | .tup x, .int k => if x ≠ [] ∧ 2 ≤ k ∧ k ≤ 1000 ∧ x.length ≤ 1000 then .ok (.tup (List.replicate k.toNat x).flatten) else .stuck
  | _, _ => .stuck
def fdivD : D → D → R D
  | .int a, .int b => if 0 < b ∧ b < 1073741824 then .ok (.int (a / b)) else .stuck
  | _, _ => .stuck
def modD : D → D → R D
  | .int a, .int b => if 0 < b then .ok (.int (a % b)) else .stuck
  | _, _ => .stuck
def powD : D → D → R D
  | .int a, .int b => if 0 ≤ b ∧ b ≤ 1000000 ∧ a.natAbs < 2 ^ 64 then .ok (.int (a ^ b.toNat)) else .stuck
  | _, _ => .stuck
def orD : D → D → R D
  | .int a, .int b => .ok (.int (Builtin.bitOr a b))
  | _, _ => .stuck
def andD : D → D → R D
  | .int a, .int b => .ok (.int (Builtin.bitAnd a b))
  | _, _ => .stuck
section
variable {X : Cx}
theorem od_add : OpD X (binaryOp .Add) addD := by
  intro pins s σ H x y v u Q I rx ry ⟨A, dx, dy, d, hA, h1, h2, e, q⟩
  unfold addD at e
  split at e
  · cases e; cases h1.int; cases h2.int
    exact op_add pins s σ H _ _ v u Q I rx ry ⟨_, _, rfl, rfl, q.imp (Same.refl H) rfl (.int _)⟩
  · split at e
    · rename_i hl; cases e; cases h1.str; cases h2.str
      exact op_add_str pins s σ H _ _ v u Q I rx ry ⟨_, _, rfl, rfl, by rw [sl_eq]; exact hl, q.imp (Same.refl H) rfl (.str _)⟩
    · cases e
  · split at e
    · rename_i hl; cases e
      obtain ⟨a, vs, rfl, g1, r1⟩ := h1.lst
      obtain ⟨b, ws, rfl, g2, r2⟩ := h2.lst
      exact op_cat pins s σ H _ _ v u Q I rx ry ⟨_, _, _, _, rfl, rfl, g1, g2, by rw [sl_eq, ← r1.len, ← r2.len]; exact hl, fun p n => q.newLst (r1.append r2) n⟩
    · cases e
  · split at e
    · rename_i hl; cases e
      obtain ⟨a, vs, rfl, g1, r1⟩ := id h1.tup
      obtain ⟨b, ws, rfl, g2, r2⟩ := id h2.tup
      refine op_catA pins s σ H _ _ v u Q I rx ry ⟨_, _, _, _, rfl, rfl, g1, g2, by rw [sl_eq, ← r1.len, ← r2.len]; exact hl, fun e1 => ?_, fun _ e2 => ?_, fun _ _ p n => q.newTup (r1.append r2) hA n⟩
      · subst e1; cases r1
        exact q.tupAt h2
      · subst e2; cases r2
        rw [List.append_nil] at q
        exact q.tupAt h1
    · cases e
  · cases e
theorem od_sub : OpD X (binaryOp .Sub) subD := by
  intro pins s σ H x y v u Q I rx ry ⟨A, dx, dy, d, hA, h1, h2, e, q⟩
  unfold subD at e
  split at e
  · cases e; cases h1.int; cases h2.int
    exact op_sub pins s σ H _ _ v u Q I rx ry ⟨_, _, rfl, rfl, q.imp (Same.refl H) rfl (.int _)⟩
  · cases e
theorem od_mul : OpD X (binaryOp .Mult) mulD := by
  intro pins s σ H x y v u Q I rx ry ⟨A, dx, dy, d, hA, h1, h2, e, q⟩
  unfold mulD at e
  split at e
  · split at e
    · rename_i hc; cases e; cases h1.int; cases h2.int
      unfold CMulB at hc
      simp only [Bool.or_eq_true, Bool.and_eq_true, decide_eq_true_eq] at hc
      exact op_mul pins s σ H _ _ v u Q I rx ry ⟨_, _, rfl, rfl, hc, q.imp (Same.refl H) rfl (.int _)⟩
    · cases e
  · split at e
    · rename_i hl; cases e; cases h2.int
      obtain ⟨a, vs, rfl, g1, r1⟩ := h1.lst
      exact op_rep pins s σ H _ _ v u Q I rx ry ⟨_, _, _, rfl, rfl, g1, hl.1, hl.2.1, by rw [sl_eq, ← r1.len]; exact hl.2.2, fun p n => q.newLst (r1.rep _) n⟩
    · cases e
  · split at e
    · rename_i hl; cases e; cases h2.int
      obtain ⟨a, vs, rfl, g1, r1⟩ := h1.tup
      have hne : vs ≠ [] := fun z => by subst z; exact hl.1 (List.eq_nil_of_length_eq_zero r1.len)
      exact op_repT pins s σ H _ _ v u Q I rx ry ⟨_, _, _, rfl, rfl, g1, hne, hl.2.1, hl.2.2.1, by rw [← r1.len]; exact hl.2.2.2, fun p n => q.newTup (r1.rep _) hA n⟩
    · cases e
  · cases e
theorem od_fdiv : OpD X (binaryOp .FloorDiv) fdivD := by
  intro pins s σ H x y v u Q I rx ry ⟨A, dx, dy, d, hA, h1, h2, e, q⟩
  unfold fdivD at e
  split at e
  · split at e
    · rename_i hc; cases e; cases h1.int; cases h2.int
      exact op_fdiv pins s σ H _ _ v u Q I rx ry ⟨_, _, rfl, rfl, hc, q.imp (Same.refl H) rfl (.int _)⟩
    · cases e
  · cases e
theorem od_mod : OpD X (binaryOp .Mod) modD := by
  intro pins s σ H x y v u Q I rx ry ⟨A, dx, dy, d, hA, h1, h2, e, q⟩
  unfold modD at e
  split at e
  · split at e
    · rename_i hc; cases e; cases h1.int; cases h2.int
      exact op_mod pins s σ H _ _ v u Q I rx ry ⟨_, _, rfl, rfl, hc, q.imp (Same.refl H) rfl (.int _)⟩
    · cases e
  · cases e
theorem od_pow : OpD X (binaryOp .Pow) powD := by
  intro pins s σ H x y v u Q I rx ry ⟨A, dx, dy, d, hA, h1, h2, e, q⟩
  unfold powD at e
  split at e
  · split at e
    · rename_i hc; cases e; cases h1.int; cases h2.int
      exact op_pow pins s σ H _ _ v u Q I rx ry ⟨_, _, rfl, rfl, hc, q.imp (Same.refl H) rfl (.int _)⟩
    · cases e
  · cases e
theorem od_or : OpD X (binaryOp .BitOr) orD := by
  intro pins s σ H x y v u Q I rx ry ⟨A, dx, dy, d, hA, h1, h2, e, q⟩
  unfold orD at e
  split at e
  · cases e; cases h1.int; cases h2.int
    exact op_or pins s σ H _ _ v u Q I rx ry ⟨_, _, rfl, rfl, q.imp (Same.refl H) rfl (.int _)⟩
  · cases e
theorem od_and : OpD X (binaryOp .BitAnd) andD := by
  intro pins s σ H x y v u Q I rx ry ⟨A, dx, dy, d, hA, h1, h2, e, q⟩
  unfold andD at e
  split at e
  · cases e; cases h1.int; cases h2.int
    exact op_and pins s σ H _ _ v u Q I rx ry ⟨_, _, rfl, rfl, q.imp (Same.refl H) rfl (.int _)⟩
  · cases e
end

/-! ### comparisons -/
mutual
def toPy : D → Option PyData
  | .non => some .none
  | .bl b => some (.bool b)
  | .int i => some (.int i)
  | .str x => some (.str x)
  | .tup xs => (toPyL xs).map .tuple
  | .lst xs => (toPyL xs).map .list
  | _ => none
def toPyL : List D → Option (List PyData)
  | [] => some []
  | x :: xs => match toPy x, toPyL xs with
    | some y, some ys => some (y :: ys)
    | _, _ => none
end
section
variable {K : PySem.W.Frag} {mg : Str → Option Value} {H : Hp} {A : Addr → Prop}
mutual
theorem dp_of : ∀ {d : D} {v : V} {p : PyData}, RepV K mg H A d v → toPy d = some p → Dp K H v p
  | _, _, _, .non, e => by simp only [toPy] at e; cases e; exact .non
  | _, _, _, .bl b, e => by simp only [toPy] at e; cases e; exact .bl b
  | _, _, _, .int i, e => by simp only [toPy] at e; cases e; exact .int i
  | _, _, _, .str i, e => by simp only [toPy] at e; cases e; exact .str i
  | .tup xs, _, p, .tup h r, e => by
    simp only [toPy] at e
    cases q : toPyL xs with
    | none => rw [q] at e; cases e
    | some ys =>
      rw [q] at e; cases e
      rcases h with ⟨h, _⟩ | h
      · exact .tup (SqT.of h) (dpL_of r q)
      · exact .tup (h _) (dpL_of r q)
  | .lst xs, _, p, .lst n h r, e => by
    simp only [toPy] at e
    cases q : toPyL xs with
    | none => rw [q] at e; cases e
    | some ys =>
      rw [q] at e; cases e
      exact .lst (SqL.of h) (dpL_of r q)
  | _, _, _, .scr _, e => by simp only [toPy] at e; cases e
  | _, _, _, .dctK _ _ _ _, e => by simp only [toPy] at e; cases e
  | _, _, _, .iset _ _ _ _ _, e => by simp only [toPy] at e; cases e
  | _, _, _, .fn _, e => by simp only [toPy] at e; cases e
theorem dpL_of : ∀ {ds : List D} {vs : List V} {ps : List PyData}, RepL K mg H A ds vs → toPyL ds = some ps → DpAll K H vs ps
  | _, _, _, .nil, e => by simp only [toPyL] at e; cases e; exact .nil
  | d :: ds, _, ps, .cons r t, e => by
    simp only [toPyL] at e
    cases q : toPy d with
    | none => rw [q] at e; cases e
    | some y =>
      cases q2 : toPyL ds with
      | none => rw [q, q2] at e; cases e
      | some ys =>
        rw [q, q2] at e; cases e
        exact .cons (dp_of r q) (dpL_of t q2)
end
theorem dpT_of {d : D} {v : V} {p : PyData} (r : RepT K mg H A d v) (e : toPy d = some p) : Dp K H v p := by
  rcases r with r | ⟨a, rfl, r⟩
  · exact dp_of r e
  · cases d with
    | lst xs =>
      obtain ⟨vs, h, r⟩ := r
      simp only [toPy] at e
      cases q : toPyL xs with
      | none => rw [q] at e; cases e
      | some ys =>
        rw [q] at e; cases e
        exact .lst (SqL.of h) (dpL_of r q)
    | dct ks vs => simp only [toPy] at e; cases e
    | iset ns => simp only [toPy] at e; cases e
    | _ => exact r.elim
end
def eqB (a b : D) : R Bool := match toPy a, toPy b with
  | some p, some q => if (SeqAt.shaped p && SeqAt.shaped q) = true then .ok (PyData.eqv p q) else .stuck
  | _, _ => .stuck
def eqD (a b : D) : R D := (eqB a b).bind fun k => .ok (.bl k)
def neD (a b : D) : R D := (eqB a b).bind fun k => .ok (.bl (!k))
def ltI : List D → Option (List Int)
  | [] => some []
  | .int i :: r => (ltI r).map (i :: ·)
  | _ => none
def ltB : D → D → R Bool
  | .int a, .int b => .ok (decide (a < b))
  | .str a, .str b => .ok (decide (a.cps.toList < b.cps.toList))
  | .tup a, .tup b => match ltI a, ltI b with
    | some ns, some ms => .ok (HT.lexLt ns ms)
    | _, _ => .stuck
  | _, _ => .stuck
def leB : D → D → R Bool
  | .int a, .int b => .ok (decide (a ≤ b))
  | .str a, .str b => .ok (!decide (b.cps.toList < a.cps.toList))
  | _, _ => .stuck
def gtB : D → D → R Bool
  | .int a, .int b => .ok (decide (b < a))
  | .str a, .str b => .ok (decide (b.cps.toList < a.cps.toList))
  | _, _ => .stuck
def geB : D → D → R Bool
  | .int a, .int b => .ok (decide (b ≤ a))
  | .str a, .str b => .ok (!decide (a.cps.toList < b.cps.toList))
  | _, _ => .stuck
def blD (f : D → D → R Bool) (a b : D) : R D := (f a b).bind fun k => .ok (.bl k)
def isNonD : D → Bool
  | .non => true
  | _ => false
def isD : D → D → R D
  | a, .non => .ok (.bl (isNonD a))
  | .bl a, .bl b => .ok (.bl (decide (a = b)))
  | _, _ => .stuck
def isNotD : D → D → R D
  | a, .non => .ok (.bl (!isNonD a))
  | .bl a, .bl b => .ok (.bl (!decide (a = b)))
  | _, _ => .stuck
def flatD : D → Bool
  | .non => true | .bl _ => true | .int _ => true | .str _ => true
  | _ => false
end Sh

namespace Sh
open PySem PySem.Spec PyProof.Rows L2
section
variable {X : Cx}
theorem eqB_at {a b : D} {k : Bool} (e : eqB a b = .ok k) : ∃ p q, toPy a = some p ∧ toPy b = some q ∧ SeqAt.shaped p = true ∧ SeqAt.shaped q = true ∧ k = PyData.eqv p q := by
  unfold eqB at e
  split at e
  · rename_i p q h1 h2
    split at e
    · rename_i hs; cases e
      simp only [Bool.and_eq_true] at hs
      exact ⟨p, q, h1, h2, hs.1, hs.2, rfl⟩
    · cases e
  · cases e
theorem bl_bind {r : R Bool} {g : Bool → Bool} {d : D} (e : (r.bind fun k => R.ok (D.bl (g k))) = .ok d) : ∃ k, r = .ok k ∧ d = .bl (g k) := by
  cases r with
  | ok k => simp only [R.bind] at e; cases e; exact ⟨k, rfl, rfl⟩
  | raise c => cases e
  | stuck => cases e
theorem od_eq (hu : X.A.units + 64 < cLine) : OpD X (compareOp .Eq) eqD := by
  intro pins s σ H x y v u Q I rx ry ⟨A, dx, dy, d, hA, h1, h2, e, q⟩
  obtain ⟨k, e1, rfl⟩ := bl_bind (g := id) e
  obtain ⟨p, p2, e2, e3, s1, s2, rfl⟩ := eqB_at e1
  exact op_eqD hu pins s σ H _ _ v u Q I rx ry ⟨p, p2, dpT_of h1 e2, dpT_of h2 e3, s1, s2, q.imp (Same.refl H) rfl (.bl _)⟩
theorem od_ne (hu : X.A.units + 64 < cLine) : OpD X (compareOp .NotEq) neD := by
  intro pins s σ H x y v u Q I rx ry ⟨A, dx, dy, d, hA, h1, h2, e, q⟩
  obtain ⟨k, e1, rfl⟩ := bl_bind (g := fun k => !k) e
  obtain ⟨p, p2, e2, e3, s1, s2, rfl⟩ := eqB_at e1
  exact op_neD hu pins s σ H _ _ v u Q I rx ry ⟨p, p2, dpT_of h1 e2, dpT_of h2 e3, s1, s2, q.imp (Same.refl H) rfl (.bl _)⟩
theorem ltI_at : ∀ {ds : List D} {ns : List Int}, ltI ds = some ns → ds = ns.map D.int
  | [], _, e => by simp only [ltI] at e; cases e; rfl
  | .int i :: r, ns, e => by
    simp only [ltI] at e
    cases q : ltI r with
    | none => rw [q] at e; cases e
    | some ms => rw [q] at e; cases e; rw [ltI_at q]; rfl
  | .non :: _, _, e => by simp only [ltI] at e; cases e
  | .bl _ :: _, _, e => by simp only [ltI] at e; cases e
  | .str _ :: _, _, e => by simp only [ltI] at e; cases e
  | .tup _ :: _, _, e => by simp only [ltI] at e; cases e
  | .lst _ :: _, _, e => by simp only [ltI] at e; cases e
  | .scr _ :: _, _, e => by simp only [ltI] at e; cases e
  | .dct _ _ :: _, _, e => by simp only [ltI] at e; cases e
  | .iset _ :: _, _, e => by simp only [ltI] at e; cases e
  | .fn _ :: _, _, e => by simp only [ltI] at e; cases e
  | .exc _ :: _, _, e => by simp only [ltI] at e; cases e
theorem od_lt (hu : X.A.units + 64 < cLine) : OpD X (compareOp .Lt) (blD ltB) := by
  intro pins s σ H x y v u Q I rx ry ⟨A, dx, dy, d, hA, h1, h2, e, q⟩
  obtain ⟨k, e1, rfl⟩ := bl_bind (g := id) e
  unfold ltB at e1
  split at e1
  · cases e1; cases h1.int; cases h2.int
    exact op_lt pins s σ H _ _ v u Q I rx ry ⟨_, _, rfl, rfl, q.imp (Same.refl H) rfl (.bl _)⟩
  · cases e1; cases h1.str; cases h2.str
    exact op_lt_str pins s σ H _ _ v u Q I rx ry ⟨_, _, rfl, rfl, q.imp (Same.refl H) rfl (.bl _)⟩
  · split at e1
    · rename_i ns ms n1 n2; cases e1
      cases ltI_at n1; cases ltI_at n2
      obtain ⟨a, vs, rfl, g1, r1⟩ := h1.tup
      obtain ⟨b, ws, rfl, g2, r2⟩ := h2.tup
      rw [r1.ints] at g1
      rw [r2.ints] at g2
      exact op_ltT (by omega) pins s σ H _ _ v u Q I rx ry ⟨_, _, _, _, rfl, rfl, g1, g2, q.imp (Same.refl H) rfl (.bl _)⟩
    · cases e1
  · cases e1
theorem od_le : OpD X (compareOp .LtE) (blD leB) := by
  intro pins s σ H x y v u Q I rx ry ⟨A, dx, dy, d, hA, h1, h2, e, q⟩
  obtain ⟨k, e1, rfl⟩ := bl_bind (g := id) e
  unfold leB at e1
  split at e1
  · cases e1; cases h1.int; cases h2.int
    exact op_le pins s σ H _ _ v u Q I rx ry ⟨_, _, rfl, rfl, q.imp (Same.refl H) rfl (.bl _)⟩
  · cases e1; cases h1.str; cases h2.str
    exact op_le_str pins s σ H _ _ v u Q I rx ry ⟨_, _, rfl, rfl, q.imp (Same.refl H) rfl (.bl _)⟩
  · cases e1
theorem od_gt : OpD X (compareOp .Gt) (blD gtB) := by
  intro pins s σ H x y v u Q I rx ry ⟨A, dx, dy, d, hA, h1, h2, e, q⟩
  obtain ⟨k, e1, rfl⟩ := bl_bind (g := id) e
  unfold gtB at e1
  split at e1
  · cases e1; cases h1.int; cases h2.int
    exact op_gt pins s σ H _ _ v u Q I rx ry ⟨_, _, rfl, rfl, q.imp (Same.refl H) rfl (.bl _)⟩
  · cases e1; cases h1.str; cases h2.str
    exact op_gt_str pins s σ H _ _ v u Q I rx ry ⟨_, _, rfl, rfl, q.imp (Same.refl H) rfl (.bl _)⟩
  · cases e1
theorem od_ge : OpD X (compareOp .GtE) (blD geB) := by
  intro pins s σ H x y v u Q I rx ry ⟨A, dx, dy, d, hA, h1, h2, e, q⟩
  obtain ⟨k, e1, rfl⟩ := bl_bind (g := id) e
  unfold geB at e1
  split at e1
  · cases e1; cases h1.int; cases h2.int
    exact op_ge pins s σ H _ _ v u Q I rx ry ⟨_, _, rfl, rfl, q.imp (Same.refl H) rfl (.bl _)⟩
  · cases e1; cases h1.str; cases h2.str
    exact op_ge_str pins s σ H _ _ v u Q I rx ry ⟨_, _, rfl, rfl, q.imp (Same.refl H) rfl (.bl _)⟩
  · cases e1
theorem RepT.isNon {K : PySem.W.Frag} {mg : Str → Option Value} {H : Hp} {A : Addr → Prop} {d : D} {v : V} (r : RepT K mg H A d v) : decide (v = .non) = isNonD d := by
  rcases r with r | ⟨a, rfl, r⟩
  · cases r <;> rfl
  · cases d <;> first | rfl | exact r.elim
theorem od_is : OpD X (compareOp .Is) isD := by
  intro pins s σ H x y v u Q I rx ry ⟨A, dx, dy, d, hA, h1, h2, e, q⟩
  unfold isD at e
  split at e
  · cases e; cases h2.non
    refine op_isN pins s σ H _ _ v u Q I rx ry ⟨rfl, ?_⟩
    rw [h1.isNon]
    exact q.imp (Same.refl H) rfl (.bl _)
  · cases e; cases h1.bl; cases h2.bl
    exact op_isBl pins s σ H _ _ v u Q I rx ry ⟨_, _, rfl, rfl, q.imp (Same.refl H) rfl (.bl _)⟩
  · cases e
theorem od_isnot : OpD X (compareOp .IsNot) isNotD := by
  intro pins s σ H x y v u Q I rx ry ⟨A, dx, dy, d, hA, h1, h2, e, q⟩
  unfold isNotD at e
  split at e
  · cases e; cases h2.non
    refine op_notN pins s σ H _ _ v u Q I rx ry ⟨rfl, ?_⟩
    rw [h1.isNon]
    exact q.imp (Same.refl H) rfl (.bl _)
  · cases e; cases h1.bl; cases h2.bl
    exact op_notBl pins s σ H _ _ v u Q I rx ry ⟨_, _, rfl, rfl, q.imp (Same.refl H) rfl (.bl _)⟩
  · cases e
/-! ### in -/
def flatEq : D → D → Bool
  | .non, .non => true
  | .bl a, .bl b => a == b
  | .bl a, .int b => (if a then 1 else 0) == b
  | .int a, .bl b => a == (if b then 1 else 0)
  | .int a, .int b => a == b
  | .str a, .str b => a == b
  | _, _ => false
theorem flat_v {K : PySem.W.Frag} {mg : Str → Option Value} {H : Hp} {A : Addr → Prop} {d : D} {v : V} (r : RepT K mg H A d v) (f : flatD d = true) : flatV v = true := by
  cases d with
  | non => cases r.non; rfl
  | bl b => cases r.bl; rfl
  | int b => cases r.int; rfl
  | str b => cases r.str; rfl
  | _ => exact absurd f Bool.false_ne_true
theorem flat_vs {K : PySem.W.Frag} {mg : Str → Option Value} {H : Hp} {A : Addr → Prop} : ∀ {ds : List D} {vs : List V}, RepL K mg H A ds vs → ds.all flatD = true → vs.all flatV = true
  | _, _, .nil, _ => rfl
  | _, _, .cons r t, f => by
    simp only [List.all_cons, Bool.and_eq_true] at f ⊢
    exact ⟨flat_v (.inl r) f.1, flat_vs t f.2⟩
theorem eqV_of {K : PySem.W.Frag} {mg : Str → Option Value} {H : Hp} {A : Addr → Prop} {d e : D} {v u : V} (r : RepT K mg H A d v) (q : RepT K mg H A e u) (f : flatD d = true) (g : flatD e = true) : eqV v u = flatEq d e := by
  cases d <;> first
    | exact absurd f Bool.false_ne_true
    | (cases e <;> first
        | exact absurd g Bool.false_ne_true
        | (first | cases r.non | cases r.bl | cases r.int | cases r.str
           first | cases q.non | cases q.bl | cases q.int | cases q.str
           rfl))
theorem inV_of {K : PySem.W.Frag} {mg : Str → Option Value} {H : Hp} {A : Addr → Prop} {e : D} {u : V} (q : RepT K mg H A e u) (g : flatD e = true) : ∀ {ds : List D} {vs : List V}, RepL K mg H A ds vs → ds.all flatD = true → inV u vs = ds.any fun d => flatEq d e
  | _, _, .nil, _ => rfl
  | _, _, .cons r t, f => by
    simp only [List.all_cons, Bool.and_eq_true] at f
    show (eqV _ u || inV u _) = _
    rw [inV_of q g t f.2, eqV_of (.inl r) q f.1 g]
    rfl
def inB : D → D → R Bool
  | .str x, .str y => .ok (!(Builtin.Str.occurrences y x 0 y.length 1).isEmpty)
  | x, .lst ys => if (flatD x && ys.all flatD) = true then .ok (ys.any fun d => flatEq d x) else
      match toPy x, toPyL ys with
      | some p, some qs => if (SeqAt.shaped p && SeqAt.shaped (.list qs)) = true then .ok (qs.any fun z => PyData.eqv z p) else .stuck
      | _, _ => .stuck
  | x, .tup ys => if (flatD x && ys.all flatD) = true then .ok (ys.any fun d => flatEq d x) else .stuck
  | _, _ => .stuck
theorem od_in (hu : X.A.units + 65 < cLine) : OpD X (compareOp .In) (blD inB) := by
  intro pins s σ H x y v u Q I rx ry ⟨A, dx, dy, d, hA, h1, h2, e, q⟩
  obtain ⟨k, e1, rfl⟩ := bl_bind (g := id) e
  unfold inB at e1
  split at e1
  · cases e1; cases h1.str; cases h2.str
    exact op_in_str pins s σ H _ _ v u Q I rx ry ⟨_, _, rfl, rfl, q.imp (Same.refl H) rfl (.bl _)⟩
  · split at e1
    · rename_i f; cases e1
      simp only [Bool.and_eq_true] at f
      obtain ⟨b, ws, rfl, g2, r2⟩ := h2.lst
      refine op_in_seq pins s σ H _ _ v u Q I rx ry ⟨b, ws, rfl, .inl (SqL.of g2), flat_v h1 f.1, flat_vs r2 f.2, ?_⟩
      rw [inV_of h1 f.1 r2 f.2]
      exact q.imp (Same.refl H) rfl (.bl _)
    · split at e1
      · rename_i p qs p1 p2
        split at e1
        · rename_i hs; cases e1
          simp only [Bool.and_eq_true] at hs
          refine op_inD hu pins s σ H _ _ v u Q I rx ry ⟨p, qs, dpT_of h1 p1, dpT_of h2 (by simp only [toPy, p2]; rfl), hs.1, hs.2, q.imp (Same.refl H) rfl (.bl _)⟩
        · cases e1
      · cases e1
  · split at e1
    · rename_i f; cases e1
      simp only [Bool.and_eq_true] at f
      obtain ⟨b, ws, rfl, g2, r2⟩ := h2.tup
      refine op_in_seq pins s σ H _ _ v u Q I rx ry ⟨b, ws, rfl, .inr g2, flat_v h1 f.1, flat_vs r2 f.2, ?_⟩
      rw [inV_of h1 f.1 r2 f.2]
      exact q.imp (Same.refl H) rfl (.bl _)
    · cases e1
  · cases e1
def notInD (a b : D) : R D := (inB a b).bind fun k => .ok (.bl (!k))
theorem od_notin (hu : X.A.units + 65 < cLine) : OpD X (compareOp .NotIn) notInD := by
  intro pins s σ H x y v u Q I rx ry ⟨A, dx, dy, d, hA, h1, h2, e, q⟩
  obtain ⟨k, e1, rfl⟩ := bl_bind (g := fun k => !k) e
  unfold inB at e1
  split at e1
  · cases e1; cases h1.str; cases h2.str
    exact op_notin_str pins s σ H _ _ v u Q I rx ry ⟨_, _, rfl, rfl, q.imp (Same.refl H) rfl (.bl _)⟩
  · split at e1
    · rename_i f; cases e1
      simp only [Bool.and_eq_true] at f
      obtain ⟨b, ws, rfl, g2, r2⟩ := h2.lst
      refine op_notIn_seq pins s σ H _ _ v u Q I rx ry ⟨b, ws, rfl, .inl (SqL.of g2), flat_v h1 f.1, flat_vs r2 f.2, ?_⟩
      rw [inV_of h1 f.1 r2 f.2]
      exact q.imp (Same.refl H) rfl (.bl _)
    · split at e1
      · rename_i p qs p1 p2
        split at e1
        · rename_i hs; cases e1
          simp only [Bool.and_eq_true] at hs
          refine op_notInD hu pins s σ H _ _ v u Q I rx ry ⟨p, qs, dpT_of h1 p1, dpT_of h2 (by simp only [toPy, p2]; rfl), hs.1, hs.2, q.imp (Same.refl H) rfl (.bl _)⟩
        · cases e1
      · cases e1
  · split at e1
    · rename_i f; cases e1
      simp only [Bool.and_eq_true] at f
      obtain ⟨b, ws, rfl, g2, r2⟩ := h2.tup
      refine op_notIn_seq pins s σ H _ _ v u Q I rx ry ⟨b, ws, rfl, .inr g2, flat_v h1 f.1, flat_vs r2 f.2, ?_⟩
      rw [inV_of h1 f.1 r2 f.2]
      exact q.imp (Same.refl H) rfl (.bl _)
    · cases e1
  · cases e1
end

/-! ### expressions -/
section
variable {X : Cx} {Z : Fx} {own : List Nat} {W : WX} {a b c e : Expr} {pos : Pos}
def fVar (i : Nat) : FE := fun ρ => match ρ[i]? with
  | some (some d) => .ok d
  | _ => .stuck
def fC (d : D) : FE := fun _ => .ok d
theorem fVar_ok {ρ : Rho} {i : Nat} {d : D} (e : fVar i ρ = .ok d) : ρ[i]? = some (some d) := by
  unfold fVar at e
  split at e
  · cases e; assumption
  · cases e
theorem d_var (i : Nat) {x : Str} (hi : i ∉ own := by decide) (hN : X.N[i]? = some x := by rfl) (hv : Vis X.env.scope x := by first | exact Or.inl rfl | exact Or.inr (Or.inl rfl) | exact Or.inr (Or.inr rfl)) (hd : (x == ("__debug__" : Str)) = false := by decide)
    (hcd : (x == ("__classdict__" : Str)) = false := by decide) : DE X Z own W (.Name x pos) (fVar i) := PE_imp (pe_var hN hv hd hcd) fun σ H Q ⟨α, ρ, E, q⟩ => by
  unfold fVar at q
  split at q
  · rename_i d e
    obtain ⟨v, h1, h2⟩ := E.sh i d e (.inl hi)
    exact ⟨v, h1, q v H (Same.refl H) h2⟩
  · exact q.elim
theorem d_own (i : Nat) {x : Str} (hN : X.N[i]? = some x := by rfl) (hv : Vis X.env.scope x := by first | exact Or.inl rfl | exact Or.inr (Or.inl rfl) | exact Or.inr (Or.inr rfl)) (hd : (x == ("__debug__" : Str)) = false := by decide)
    (hcd : (x == ("__classdict__" : Str)) = false := by decide) : DR X Z own W (.Name x pos) (fVar i) := PE_imp (pe_var hN hv hd hcd) fun σ H Q ⟨α, ρ, E, q⟩ => by
  unfold fVar at q
  split at q
  · rename_i d e
    by_cases hi : i ∈ own ∧ isBox d = true
    · obtain ⟨p, h1, h2, h3⟩ := E.ow i d e hi.1 hi.2
      exact ⟨.ref p, h2, q _ H (Same.refl H) (.inr ⟨p, rfl, h3⟩)⟩
    · obtain ⟨v, h1, h2⟩ := E.sh i d e (by by_cases h : i ∈ own; exact .inr (by cases z : isBox d; rfl; exact absurd ⟨h, z⟩ hi); exact .inl h)
      exact ⟨v, h1, q v H (Same.refl H) (.inl h2)⟩
  · exact q.elim
theorem d_int {i : Int} {j : Nat} : DF X Z own W (.Constant (.int i) j pos) (fC (.int i)) := PE_imp pe_int fun σ H Q ⟨α, ρ, E, q⟩ => (show FQ X.K X.mg (AA Z.Ao α) H _ Q from q).imp (Same.refl H) rfl (.int i)
theorem d_bl {i : Bool} {j : Nat} : DF X Z own W (.Constant (.bool i) j pos) (fC (.bl i)) := PE_imp pe_bl fun σ H Q ⟨α, ρ, E, q⟩ => (show FQ X.K X.mg (AA Z.Ao α) H _ Q from q).imp (Same.refl H) rfl (.bl i)
theorem d_non {j : Nat} : DF X Z own W (.Constant .none j pos) (fC .non) := PE_imp pe_non fun σ H Q ⟨α, ρ, E, q⟩ => (show FQ X.K X.mg (AA Z.Ao α) H _ Q from q).imp (Same.refl H) rfl .non
theorem d_str {i : Str} {j : Nat} : DF X Z own W (.Constant (.str i) j pos) (fC (.str i)) := PE_imp pe_str fun σ H Q ⟨α, ρ, E, q⟩ => (show FQ X.K X.mg (AA Z.Ao α) H _ Q from q).imp (Same.refl H) rfl (.str i)
/-- a module's constant -/
theorem d_glob {x : Str} {v : V} {u : Value} {d : D} (hm : X.mg x = some u) (r : RelV v u) (rep : ∀ H A, RepV X.K X.mg H A d v) (hb : isBox d = false := by rfl) (hg : Gl X x := by rfl) (hd : (x == ("__debug__" : Str)) = false := by decide) : DF X Z own W (.Name x pos) (fC d) :=
  PE_imp (pe_glob hg hm r hd) fun σ H Q ⟨α, ρ, E, q⟩ => (show FQ X.K X.mg (AA Z.Ao α) H _ Q from q).imp (Same.refl H) hb (rep H _)
/-- the name of a def or a class as a value -/
theorem d_fn {x : Str} {f : Addr} (hm : X.mg x = some (.ref f)) (hg : Gl X x := by rfl) (hd : (x == ("__debug__" : Str)) = false := by decide) : DF X Z own W (.Name x pos) (fC (.fn x)) :=
  PE_imp (pe_glob (v := .ref f) hg hm rfl hd) fun σ H Q ⟨α, ρ, E, q⟩ => (show FQ X.K X.mg (AA Z.Ao α) H _ Q from q).imp (Same.refl H) rfl (.fn hm)

/-- two expressions, an operation on their values -/
def f2 (op : D → D → R D) (fa fb : FE) : FE := fun ρ => (fa ρ).bind fun x => (fb ρ).bind fun y => op x y
theorem tOp_of {K : PySem.W.Frag} {mg : Str → Option Value} {op : D → D → R D} {fa fb : FE} {σ : St} {H : Hp} {Q : VK} (h : tF K mg Z own W (f2 op fa fb) σ H Q) (hr : ∀ x y c, op x y ≠ .raise c) :
    tOp (rD K mg op) (tR K mg Z own W fa) (tR K mg Z own W fb) σ H Q := by
  obtain ⟨α, ρ, E, q⟩ := h
  have h1 := run_R (q := qF K mg (AA Z.Ao α)) later_F E (k := fun x => (fb ρ).bind fun y => op x y) q
  show tR K mg Z own W fa σ H _
  obtain ⟨α', ρ', E', q'⟩ := h1
  refine ⟨α', ρ', E', q'.imp fun d _ k v H1 s r => ?_⟩
  obtain ⟨d1, e1, s1, r1, E1, q1⟩ := k v H1 s r
  have h2 := run_R (q := qF K mg (AA Z.Ao α)) later_F E1 (k := fun y => op d1 y) q1
  obtain ⟨α2, ρ2, E2, q2⟩ := h2
  refine ⟨α2, ρ2, E2, q2.imp fun d2 _ k2 u H2 s2 r2 => ?_⟩
  obtain ⟨d3, e3, s3, r3, E3, q3⟩ := k2 u H2 s2 r2
  cases ho : op d1 d3 with
  | ok d => rw [ho] at q3; exact ⟨AA Z.Ao α, d1, d3, d, fun p n => E3.nA n, r1.same s3, r3, ho, q3⟩
  | raise c => exact absurd ho (hr _ _ _)
  | stuck => rw [ho] at q3; exact q3.elim
def NoR2 (op : D → D → R D) : Prop := ∀ x y c, op x y ≠ .raise c
theorem d_bin {op : Operator} {f : D → D → R D} {fa fb : FE} (ho : OpD X (binaryOp op) f) (n : NoR2 f) (ha : DR X Z own W a fa) (hb : DR X Z own W b fb) : DF X Z own W (.BinOp a op b pos) (f2 f fa fb) :=
  PE_imp (pe_op ho ha hb) fun σ H Q h => tOp_of h n
theorem d_cmp {op : CmpOp} {f : D → D → R D} {fa fb : FE} (ho : OpD X (compareOp op) f) (n : NoR2 f) (ha : DR X Z own W a fa) (hb : DR X Z own W b fb) (hm : behindInMarks op b = false := by first | exact nomark _ | rfl) : DF X Z own W (.Compare a [op] [b] pos) (f2 f fa fb) :=
  PE_imp (pe_cmpR ho ha hb hm) fun σ H Q h => tOp_of h n
/-! truth -/
def truthD : D → R Bool
  | .non => .ok false
  | .bl b => .ok b
  | .int i => .ok (i != 0)
  | .str x => if x.length ≤ 16777216 then .ok ((x.length : Int) != 0) else .stuck
  | .tup xs => .ok (!xs.isEmpty)
  | .lst xs => .ok (!xs.isEmpty)
  | .dct ks _ => .ok (!ks.isEmpty)
  | _ => .stuck
theorem RepL.emp {K : PySem.W.Frag} {mg : Str → Option Value} {H : Hp} {A : Addr → Prop} {ds : List D} {vs : List V} (r : RepL K mg H A ds vs) : vs.isEmpty = ds.isEmpty := by cases r <;> rfl
theorem truth_of {K : PySem.W.Frag} {mg : Str → Option Value} {H : Hp} {A : Addr → Prop} {d : D} {v : V} {k : Bool} (r : RepT K mg H A d v) (e : truthD d = .ok k) : TruV K v H k := by
  unfold truthD at e
  split at e
  · cases e; cases r.non; rfl
  · cases e; cases r.bl; rfl
  · cases e; cases r.int; rfl
  · split at e
    · rename_i h; cases e; cases r.str; exact ⟨by rw [sl_eq]; exact h, rfl⟩
    · cases e
  · cases e
    obtain ⟨a, vs, rfl, g, q⟩ := r.tup
    exact .inr (.inl ⟨vs, g, by rw [q.emp]⟩)
  · cases e
    obtain ⟨a, vs, rfl, g, q⟩ := r.lst
    exact .inl ⟨vs, SqL.of g, by rw [q.emp]⟩
  · cases e
    obtain ⟨a, kvs, rfl, g, q, _⟩ := r.dct
    refine .inr (.inr ⟨kvs, g, ?_⟩)
    have := q.emp
    cases kvs <;> simp_all
  · cases e
def fTru (f : FE) : FT := fun ρ => (f ρ).bind truthD
theorem truthD_nr {d : D} {c : Str} : truthD d ≠ .raise c := by
  intro z
  cases d with
  | str x =>
    simp only [truthD] at z
    split at z
    · cases z
    · cases z
  | _ => cases z
theorem tru_of {K : PySem.W.Frag} {mg : Str → Option Value} {f : FE} {σ : St} {H : Hp} {Q : Bool → Hp → Prop} (h : tT K mg Z own W (fTru f) σ H Q) : tR K mg Z own W f σ H fun x H1 => ∃ k, TruV K x H1 k ∧ Q k H1 := by
  obtain ⟨α, ρ, E, q⟩ := h
  obtain ⟨α', ρ', E', q'⟩ := runT_R E (f := f) (k := truthD) q
  refine ⟨α', ρ', E', q'.imp fun d _ k v H1 s r => ?_⟩
  obtain ⟨d1, e1, s1, r1, E1, q1⟩ := k v H1 s r
  cases ht : truthD d1 with
  | ok b => rw [ht] at q1; exact ⟨b, truth_of r1 ht, q1 H1 (Same.refl H1)⟩
  | raise c => exact absurd ht truthD_nr
  | stuck => rw [ht] at q1; exact q1.elim
theorem dt_tru {f : FE} (h : DR X Z own W e f) (he : ∀ whole, isTrue e X.env whole = (do let v ← whole; standAt e.pos; holding [v] (truthy v)) := by intro _; rfl) : DT X Z own W e (fTru f) :=
  PT_imp (pt_truth h he) fun σ H Q q => tru_of q
def fNotT (f : FT) : FT := fun ρ => (f ρ).bind fun b => .ok (!b)
theorem dt_not {f : FT} (h : DT X Z own W a f) : DT X Z own W (.UnaryOp .Not a pos) (fNotT f) := PT_imp (pt_not h) fun σ H Q ⟨α, ρ, E, q⟩ => by
  obtain ⟨α', ρ', E', q'⟩ := runT_T E (f := f) (k := fun b => .ok (!b)) q
  refine ⟨α', ρ', E', ?_⟩
  cases r : f ρ' with
  | ok b => rw [r] at q'; exact fun H' s => (q' H' s).2.2 H' (Same.refl H')
  | raise c => rw [r] at q'; exact q'
  | stuck => rw [r] at q'; exact q'
/-- a test of a written comparison -/
def asB : D → R Bool
  | .bl b => .ok b
  | _ => .stuck
def fB (f : FE) : FT := fun ρ => (f ρ).bind asB
theorem tTest_of {K : PySem.W.Frag} {mg : Str → Option Value} {f : FE} {t : TE} {σ : St} {H : Hp} {Q : Bool → Hp → Prop} (i : ∀ Q, tF K mg Z own W f σ H Q → t σ H Q) (h : tT K mg Z own W (fB f) σ H Q) : tTest t σ H Q := by
  obtain ⟨α, ρ, E, q⟩ := h
  refine i _ ⟨α, ρ, E, ?_⟩
  unfold fB at q
  cases r : f ρ with
  | ok d =>
    rw [r] at q
    cases d with
    | bl b =>
      show FQ K mg (AA Z.Ao α) H (.bl b) _
      exact FQ.of (fun p n => E.nA n) fun v H' s r => by cases r; exact ⟨b, rfl, q H' s⟩
    | _ => exact q.elim
  | raise c => rw [r] at q; exact q
  | stuck => rw [r] at q; exact q
theorem dt_cmp {op : CmpOp} {f : D → D → R D} {fa fb : FE} (ho : OpD X (compareOp op) f) (n : NoR2 f) (ha : DR X Z own W a fa) (hb : DR X Z own W b fb) (hm : behindInMarks op b = false := by first | exact nomark _ | rfl) : DT X Z own W (.Compare a [op] [b] pos) (fB (f2 f fa fb)) :=
  PT_imp (pt_cmpR ho ha hb hm) fun σ H Q h => tTest_of (fun Q q => tOp_of q n) h
end
end Sh

namespace Sh
open PySem PySem.Spec PyProof.Rows L2

/-! ### parts in general -/
def RSt {β : Type} (mg : Str → Option Value) (W : WX) (σ : St) (H : Hp) (r : R β) (k : β → Prop) : Prop := match r with
  | .ok b => k b
  | .raise c => ∀ C H', mg c = some (.ref C) → Same H H' → W (.ref C) none σ H'
  | .stuck => False
section
variable {K : PySem.W.Frag} {mg : Str → Option Value} {Z : Fx} {own : List Nat} {W : WX} {σ : St} {H H1 : Hp} {α : Al} {ρ : Rho} {Q : VK}
theorem ESt.g {q : D → VK → Prop} {r : R D} (h : ESt mg W q σ H r Q) : RSt mg W σ H r fun d => q d Q := by cases r <;> exact h
theorem RSt.e {q : D → VK → Prop} {r : R D} (h : RSt mg W σ H r fun d => q d Q) : ESt mg W q σ H r Q := by cases r <;> exact h
theorem RSt.imp {β : Type} {r : R β} {k k' : β → Prop} (h : RSt mg W σ H r k) (i : ∀ b, r = .ok b → k b → k' b) : RSt mg W σ H r k' := by
  cases r with
  | ok b => exact i b rfl h
  | raise c => exact h
  | stuck => exact h
theorem RSt.later {β : Type} {P : Hp → β → Prop} (l : ∀ H H1 b, Same H H1 → P H b → P H1 b) (s : Same H H1) {r : R β} (h : RSt mg W σ H r (P H)) : RSt mg W σ H1 r (P H1) := by
  cases r with
  | ok d => exact l _ _ _ s h
  | raise c => exact fun C H' e s' => h C H' e (s.trans s')
  | stuck => exact h
theorem g_R {β : Type} {P : Hp → β → Prop} (l : ∀ H H1 b, Same H H1 → P H b → P H1 b) (E : EnvR K mg Z own α ρ σ H) {f : FE} {k : D → R β} (h : RSt mg W σ H ((f ρ).bind k) (P H)) :
    tR K mg Z own W f σ H (fun v H1 => ∃ d, f ρ = .ok d ∧ Same H H1 ∧ RepT K mg H1 (AA Z.Ao α) d v ∧ EnvR K mg Z own α ρ σ H1 ∧ RSt mg W σ H1 (k d) (P H1)) := by
  refine ⟨α, ρ, E, ?_⟩
  cases e : f ρ with
  | ok d => rw [e] at h; exact fun v H' s r => ⟨d, rfl, s, r, E.mono s, RSt.later l s h⟩
  | raise c => rw [e] at h; exact h
  | stuck => rw [e] at h; exact h
theorem g_E {β : Type} {P : Hp → β → Prop} (l : ∀ H H1 b, Same H H1 → P H b → P H1 b) (E : EnvR K mg Z own α ρ σ H) {f : FE} {k : D → R β} (h : RSt mg W σ H ((f ρ).bind k) (P H)) :
    tE K mg Z own W f σ H (fun v H1 => ∃ d, f ρ = .ok d ∧ Same H H1 ∧ RepV K mg H1 (AA Z.Ao α) d v ∧ EnvR K mg Z own α ρ σ H1 ∧ RSt mg W σ H1 (k d) (P H1)) := by
  refine ⟨α, ρ, E, ?_⟩
  cases e : f ρ with
  | ok d => rw [e] at h; exact fun v H' s r => ⟨d, rfl, s, r, E.mono s, RSt.later l s h⟩
  | raise c => rw [e] at h; exact h
  | stuck => rw [e] at h; exact h
theorem g_T {β : Type} {P : Hp → β → Prop} (l : ∀ H H1 b, Same H H1 → P H b → P H1 b) (E : EnvR K mg Z own α ρ σ H) {f : FT} {k : Bool → R β} (h : RSt mg W σ H ((f ρ).bind k) (P H)) :
    tT K mg Z own W f σ H (fun b H1 => Same H H1 ∧ EnvR K mg Z own α ρ σ H1 ∧ RSt mg W σ H1 (k b) (P H1)) := by
  refine ⟨α, ρ, E, ?_⟩
  cases e : f ρ with
  | ok d => rw [e] at h; exact fun H' s => ⟨s, E.mono s, RSt.later l s h⟩
  | raise c => rw [e] at h; exact h
  | stuck => rw [e] at h; exact h
/-- what follows a value that has come -/
theorem tR.imp {f : FE} {Q Q' : VK} (h : tR K mg Z own W f σ H Q) (i : ∀ v H', Q v H' → Q' v H') : tR K mg Z own W f σ H Q' := by
  obtain ⟨α, ρ, E, q⟩ := h
  exact ⟨α, ρ, E, q.imp fun d _ k v H1 s r => i v H1 (k v H1 s r)⟩
theorem tE.imp {f : FE} {Q Q' : VK} (h : tE K mg Z own W f σ H Q) (i : ∀ v H', Q v H' → Q' v H') : tE K mg Z own W f σ H Q' := by
  obtain ⟨α, ρ, E, q⟩ := h
  exact ⟨α, ρ, E, q.imp fun d _ k v H1 s r => i v H1 (k v H1 s r)⟩
theorem tT.imp {f : FT} {Q Q' : Bool → Hp → Prop} (h : tT K mg Z own W f σ H Q) (i : ∀ v H', Q v H' → Q' v H') : tT K mg Z own W f σ H Q' := by
  obtain ⟨α, ρ, E, q⟩ := h
  refine ⟨α, ρ, E, ?_⟩
  cases r : f ρ with
  | ok b => rw [r] at q; exact fun H' s => i b H' (q H' s)
  | raise c => rw [r] at q; exact q
  | stuck => rw [r] at q; exact q
end

/-! ### arguments -/
abbrev FA := Rho → R (List D)
section
variable (K : PySem.W.Frag) (mg : Str → Option Value) (Z : Fx) (own : List Nat) (W : WX)
def tA (f : FA) : TA := fun σ H Q => ∃ α ρ, EnvR K mg Z own α ρ σ H ∧ RSt mg W σ H (f ρ) fun ds => ∀ vs H', Same H H' → RepTL K mg H' (AA Z.Ao α) ds vs → Q vs H'
def tAe (f : FA) : TA := fun σ H Q => ∃ α ρ, EnvR K mg Z own α ρ σ H ∧ RSt mg W σ H (f ρ) fun ds => ∀ vs H', Same H H' → RepL K mg H' (AA Z.Ao α) ds vs → Q vs H'
end
def DA (X : Cx) (Z : Fx) (own : List Nat) (W : WX) (es : List Expr) (f : FA) : Prop := PA X es (tA X.K X.mg Z own W f) ∧ ∀ ρ xs, f ρ = .ok xs → xs.length = es.length
def DAe (X : Cx) (Z : Fx) (own : List Nat) (W : WX) (es : List Expr) (f : FA) : Prop := PA X es (tAe X.K X.mg Z own W f) ∧ ∀ ρ xs, f ρ = .ok xs → xs.length = es.length
theorem PA_imp {X : Cx} {es : List Expr} {t t' : TA} (h : PA X es t) (i : ∀ σ H Q, t' σ H Q → t σ H Q) : PA X es t' := ⟨fun pos pins s σ H Q I w => h.run pos pins s σ H Q I (i σ H Q w)⟩
def fNil : FA := fun _ => .ok []
def fCons (f : FE) (g : FA) : FA := fun ρ => (f ρ).bind fun x => (g ρ).bind fun xs => .ok (x :: xs)
section
variable {X : Cx} {Z : Fx} {own : List Nat} {W : WX} {a b c e : Expr} {es : List Expr} {pos p : Pos} {K : PySem.W.Frag} {mg : Str → Option Value} {σ : St} {H H1 : Hp} {α : Al} {ρ : Rho}
theorem g_A {β : Type} {P : Hp → β → Prop} (l : ∀ H H1 b, Same H H1 → P H b → P H1 b) (E : EnvR K mg Z own α ρ σ H) {f : FA} {k : List D → R β} (h : RSt mg W σ H ((f ρ).bind k) (P H)) :
    tA K mg Z own W f σ H (fun vs H1 => ∃ ds, f ρ = .ok ds ∧ Same H H1 ∧ RepTL K mg H1 (AA Z.Ao α) ds vs ∧ EnvR K mg Z own α ρ σ H1 ∧ RSt mg W σ H1 (k ds) (P H1)) := by
  refine ⟨α, ρ, E, ?_⟩
  cases e : f ρ with
  | ok d => rw [e] at h; exact fun v H' s r => ⟨d, rfl, s, r, E.mono s, RSt.later l s h⟩
  | raise c => rw [e] at h; exact h
  | stuck => rw [e] at h; exact h
theorem g_Ae {β : Type} {P : Hp → β → Prop} (l : ∀ H H1 b, Same H H1 → P H b → P H1 b) (E : EnvR K mg Z own α ρ σ H) {f : FA} {k : List D → R β} (h : RSt mg W σ H ((f ρ).bind k) (P H)) :
    tAe K mg Z own W f σ H (fun vs H1 => ∃ ds, f ρ = .ok ds ∧ Same H H1 ∧ RepL K mg H1 (AA Z.Ao α) ds vs ∧ EnvR K mg Z own α ρ σ H1 ∧ RSt mg W σ H1 (k ds) (P H1)) := by
  refine ⟨α, ρ, E, ?_⟩
  cases e : f ρ with
  | ok d => rw [e] at h; exact fun v H' s r => ⟨d, rfl, s, r, E.mono s, RSt.later l s h⟩
  | raise c => rw [e] at h; exact h
  | stuck => rw [e] at h; exact h
theorem tA.imp {f : FA} {Q Q' : List V → Hp → Prop} (h : tA K mg Z own W f σ H Q) (i : ∀ v H', Q v H' → Q' v H') : tA K mg Z own W f σ H Q' := by
  obtain ⟨α, ρ, E, q⟩ := h
  exact ⟨α, ρ, E, q.imp fun d _ k v H1 s r => i v H1 (k v H1 s r)⟩
theorem tAe.imp {f : FA} {Q Q' : List V → Hp → Prop} (h : tAe K mg Z own W f σ H Q) (i : ∀ v H', Q v H' → Q' v H') : tAe K mg Z own W f σ H Q' := by
  obtain ⟨α, ρ, E, q⟩ := h
  exact ⟨α, ρ, E, q.imp fun d _ k v H1 s r => i v H1 (k v H1 s r)⟩
theorem fNil_len : ∀ ρ xs, fNil ρ = .ok xs → xs.length = ([] : List Expr).length := fun ρ xs e => by cases e; rfl
theorem fCons_len {f : FE} {g : FA} (h : ∀ ρ xs, g ρ = .ok xs → xs.length = es.length) : ∀ ρ xs, fCons f g ρ = .ok xs → xs.length = (e :: es).length := fun ρ xs q => by
  unfold fCons at q
  cases q1 : f ρ with
  | ok d =>
    cases q2 : g ρ with
    | ok ds => rw [q1] at q; simp only [R.bind, q2] at q; cases q; simp [h ρ ds q2]
    | raise c => rw [q1] at q; simp only [R.bind, q2] at q; cases q
    | stuck => rw [q1] at q; simp only [R.bind, q2] at q; cases q
  | raise c => rw [q1] at q; cases q
  | stuck => rw [q1] at q; cases q
theorem da_nil : DA X Z own W [] fNil := ⟨PA_imp pa_nil fun σ H Q ⟨α, ρ, E, q⟩ => q [] H (Same.refl H) .nil, fNil_len⟩
theorem dae_nil : DAe X Z own W [] fNil := ⟨PA_imp pa_nil fun σ H Q ⟨α, ρ, E, q⟩ => q [] H (Same.refl H) .nil, fNil_len⟩
theorem da_cons {f : FE} {g : FA} (h : DR X Z own W e f) (r : DA X Z own W es g) (hs : starEach (e :: es) X.env = (false, eval e X.env) :: starEach es X.env := by rfl) : DA X Z own W (e :: es) (fCons f g) :=
  ⟨PA_imp (pa_cons h r.1 hs) fun σ H Q ⟨α, ρ, E, q⟩ => by
    refine (g_R (P := fun H ds => ∀ vs H', Same H H' → RepTL X.K X.mg H' (AA Z.Ao α) ds vs → Q vs H') (fun H H1 ds s h vs H' s' => h vs H' (s.trans s')) E q).imp fun v H1 ⟨d, e1, s1, r1, E1, q1⟩ => ?_
    refine (g_A (P := fun H ds => ∀ vs H', Same H H' → RepTL X.K X.mg H' (AA Z.Ao α) ds vs → Q vs H') (fun H H1 ds s h vs H' s' => h vs H' (s.trans s')) E1 q1).imp fun vs H2 ⟨ds, e2, s2, r2, E2, q2⟩ => ?_
    exact q2 (v :: vs) H2 (Same.refl H2) (.cons (r1.same s2) r2), fCons_len r.2⟩
theorem dae_cons {f : FE} {g : FA} (h : DE X Z own W e f) (r : DAe X Z own W es g) (hs : starEach (e :: es) X.env = (false, eval e X.env) :: starEach es X.env := by rfl) : DAe X Z own W (e :: es) (fCons f g) :=
  ⟨PA_imp (pa_cons h r.1 hs) fun σ H Q ⟨α, ρ, E, q⟩ => by
    refine (g_E (P := fun H ds => ∀ vs H', Same H H' → RepL X.K X.mg H' (AA Z.Ao α) ds vs → Q vs H') (fun H H1 ds s h vs H' s' => h vs H' (s.trans s')) E q).imp fun v H1 ⟨d, e1, s1, r1, E1, q1⟩ => ?_
    refine (g_Ae (P := fun H ds => ∀ vs H', Same H H' → RepL X.K X.mg H' (AA Z.Ao α) ds vs → Q vs H') (fun H H1 ds s h vs H' s' => h vs H' (s.trans s')) E1 q1).imp fun vs H2 ⟨ds, e2, s2, r2, E2, q2⟩ => ?_
    exact q2 (v :: vs) H2 (Same.refl H2) (.cons (r1.same s2) r2), fCons_len r.2⟩

/-! ### calls of builtins -/
def fCall (op : List D → R D) (f : FA) : FE := fun ρ => (f ρ).bind op
def NoR (op : List D → R D) : Prop := ∀ xs c, op xs ≠ .raise c
theorem tCB_of {op : List D → R D} {f : FA} {Q : VK} (n : NoR op) (h : tF K mg Z own W (fCall op f) σ H Q) : tCB (rCD K mg op) (tA K mg Z own W f) σ H Q := by
  obtain ⟨α, ρ, E, q⟩ := h
  refine (g_A (P := fun H d => FQ K mg (AA Z.Ao α) H d Q) (fun H H1 d s h => h.mono s) E q.g).imp fun vs H1 ⟨ds, e1, s1, r1, E1, q1⟩ => ?_
  cases ho : op ds with
  | ok d => rw [ho] at q1; exact ⟨AA Z.Ao α, ds, d, fun p n => E1.nA n, r1, ho, q1⟩
  | raise c => exact absurd ho (n _ _)
  | stuck => rw [ho] at q1; exact q1.elim
theorem d_blt {id : String} {x : Str} {op : List D → R D} {f : FA} (hc : CallD X (.builtin id) op) (n : NoR op) (hm : X.mg x = none) (hv : bootBuiltins x = some (.builtin id)) (ha : DA X Z own W (e :: es) f) (hg : Gl X x := by rfl) (hn : x ≠ "__name__" := by decide) (hdb : (x == ("__debug__" : Str)) = false := by decide)
    (he : starEach (e :: es) X.env = (false, eval e X.env) :: starEach es X.env := by rfl) (hpl : (backTo pos (starEach es X.env)).any (·.1) = false := by rfl) : DF X Z own W (.Call (.Name x p) (e :: es) [] pos) (fCall op f) :=
  PE_imp (pe_callB hc hg hm hv ha.1 hn hdb he hpl) fun σ H Q h => tCB_of n h
theorem d_ty {T : String} {x : Str} {op : List D → R D} {f : FA} (hc : CallD X (.type T) op) (n : NoR op) (hm : X.mg x = none) (hv : bootBuiltins x = some (.type T)) (ha : DA X Z own W (e :: es) f) (hg : Gl X x := by rfl) (hn : x ≠ "__name__" := by decide) (hdb : (x == ("__debug__" : Str)) = false := by decide)
    (he : starEach (e :: es) X.env = (false, eval e X.env) :: starEach es X.env := by rfl) (hpl : (backTo pos (starEach es X.env)).any (·.1) = false := by rfl) : DF X Z own W (.Call (.Name x p) (e :: es) [] pos) (fCall op f) :=
  PE_imp (pe_callTy hc hg hm hv ha.1 hn hdb he hpl) fun σ H Q h => tCB_of n h
/-! ### displays -/
def fTup (f : FA) : FE := fun ρ => (f ρ).bind fun xs => .ok (.tup xs)
def fLst (f : FA) : FE := fun ρ => (f ρ).bind fun xs => .ok (.lst xs)
theorem d_tup {k : Nat} {f : FA} (h : DAe X Z own W es f) (hl : es.length ≤ 16777216 := by decide) : DF X Z own W (.Tuple es k pos) (fTup f) :=
  PE_imp (pe_tup h.1) fun σ H Q ⟨α, ρ, E, q⟩ => by
    refine (g_Ae (P := fun H d => FQ X.K X.mg (AA Z.Ao α) H d Q) (fun H H1 d s h => h.mono s) E q.g).imp fun vs H1 ⟨ds, e1, s1, r1, E1, q1⟩ => ?_
    have q1 : FQ X.K X.mg (AA Z.Ao α) H1 (.tup ds) Q := q1
    exact ⟨by rw [sl_eq, ← r1.len, h.2 _ _ e1]; exact hl, fun p n => q1.newTup r1 (fun p n => E1.nA n) n⟩
theorem d_lst {f : FA} (h : DAe X Z own W es f) (hl : es.length ≤ 16777216 := by decide) : DF X Z own W (.List es pos) (fLst f) :=
  PE_imp (pe_lst h.1) fun σ H Q ⟨α, ρ, E, q⟩ => by
    refine (g_Ae (P := fun H d => FQ X.K X.mg (AA Z.Ao α) H d Q) (fun H H1 d s h => h.mono s) E q.g).imp fun vs H1 ⟨ds, e1, s1, r1, E1, q1⟩ => ?_
    have q1 : FQ X.K X.mg (AA Z.Ao α) H1 (.lst ds) Q := q1
    exact ⟨by rw [sl_eq, ← r1.len, h.2 _ _ e1]; exact hl, fun p n => q1.newLst r1 n⟩

/-! ### subscripts and slices -/
def idxD : D → D → R D
  | .tup xs, .int i => match atI xs i with
    | some d => .ok d
    | none => .stuck
  | .lst xs, .int i => match atI xs i with
    | some d => .ok d
    | none => .stuck
  | .scr xs, .int i => match atI xs i with
    | some d => .ok (.int d)
    | none => .stuck
  | .str x, .int i => if x.length ≤ 16777216 then match atI x.cps.toList i with
      | some c => .ok (.str ⟨#[c]⟩)
      | none => .stuck
    else .stuck
  | _, _ => .stuck
theorem atI_rep {ds : List D} {vs : List V} {A : Addr → Prop} (r : RepL K mg H A ds vs) {i : Int} {d : D} (e : atI ds i = some d) : ∃ v, atI vs i = some v ∧ RepV K mg H A d v := by
  unfold atI at e ⊢
  rw [← r.len]
  cases q : ixN ds.length i with
  | none => rw [q] at e; cases e
  | some j => rw [q] at e; exact r.get e
theorem atI_map {α β : Type} {g : α → β} {xs : List α} {i : Int} {x : α} (e : atI xs i = some x) : atI (xs.map g) i = some (g x) := by
  unfold atI at e ⊢
  rw [List.length_map]
  cases q : ixN xs.length i with
  | none => rw [q] at e; cases e
  | some j => rw [q] at e; simp only [Option.bind_some] at e ⊢; rw [List.getElem?_map, e]; rfl
theorem NoR2.idx : NoR2 idxD := by
  intro x y c e
  unfold idxD at e
  split at e
  · split at e <;> cases e
  · split at e <;> cases e
  · split at e <;> cases e
  · split at e
    · split at e <;> cases e
    · cases e
  · cases e
/-- a subscript by data -/
def rIxD (K : PySem.W.Frag) (mg : Str → Option Value) : R2 := fun x y H Q => ∃ A dx dy d, RepT K mg H A dx x ∧ RepT K mg H A dy y ∧ idxD dx dy = .ok d ∧ ∀ v, RepV K mg H A d v → Q v H
theorem ix_D : IxR X (rIxD X.K X.mg) := by
  intro value slice pins s σ H x y v u Q I rx ry ⟨A, dx, dy, d, h1, h2, e, q⟩ hs
  unfold idxD at e
  split at e
  · split at e
    · rename_i d' e'; cases e
      cases h2.int
      obtain ⟨a, vs, rfl, g, r⟩ := h1.tup
      obtain ⟨w, e2, r2⟩ := atI_rep r e'
      exact ix_tup value slice pins s σ H _ _ v u Q I rx ry ⟨a, vs, _, w, rfl, rfl, g, e2, q w r2⟩ hs
    · cases e
  · split at e
    · rename_i d' e'; cases e
      cases h2.int
      obtain ⟨a, vs, rfl, g, r⟩ := h1.lst
      obtain ⟨w, e2, r2⟩ := atI_rep r e'
      exact ix_list value slice pins s σ H _ _ v u Q I rx ry ⟨a, vs, _, w, rfl, rfl, SqL.of g, e2, q w r2⟩ hs
    · cases e
  · split at e
    · rename_i d' e'; cases e
      cases h2.int
      obtain ⟨a, rfl, g⟩ := h1.scr
      exact ix_list value slice pins s σ H _ _ v u Q I rx ry ⟨a, _, _, _, rfl, rfl, g, atI_map e', q _ (.int _)⟩ hs
    · cases e
  · split at e
    · rename_i hl
      split at e
      · rename_i c e'; cases e
        cases h2.int; cases h1.str
        exact ix_str value slice pins s σ H _ _ v u Q I rx ry ⟨_, _, _, rfl, rfl, by rw [sl_eq]; exact hl, e', q _ (.str _)⟩ hs
      · cases e
    · cases e
  · cases e
theorem d_ix {fa fb : FE} (ha : DR X Z own W a fa) (hb : DR X Z own W b fb) (hs : PlainIx b := by exact fun _ _ => rfl) : DE X Z own W (.Subscript a b pos) (f2 idxD fa fb) :=
  PE_imp (pe_ix ix_D ha hb hs) fun σ H Q ⟨α, ρ, E, q⟩ => by
    refine (g_R (P := fun H d => ∀ v H', Same H H' → RepV X.K X.mg H' (AA Z.Ao α) d v → Q v H') (fun H H1 ds s h vs H' s' => h vs H' (s.trans s')) E q.g).imp fun v H1 ⟨d, e1, s1, r1, E1, q1⟩ => ?_
    refine (g_R (P := fun H d => ∀ v H', Same H H' → RepV X.K X.mg H' (AA Z.Ao α) d v → Q v H') (fun H H1 ds s h vs H' s' => h vs H' (s.trans s')) E1 q1).imp fun u H2 ⟨d2, e2, s2, r2, E2, q2⟩ => ?_
    cases ho : idxD d d2 with
    | ok x => rw [ho] at q2; exact ⟨AA Z.Ao α, d, d2, x, r1.same s2, r2, ho, fun w r => q2 w H2 (Same.refl H2) r⟩
    | raise c => exact absurd ho (NoR2.idx _ _ _)
    | stuck => rw [ho] at q2; exact q2.elim
def cutD {α : Type} (xs : List α) (lo hi : Option Int) : List α := (xs.drop (HT.sIx xs.length 0 lo)).take (HT.sIx xs.length xs.length hi - HT.sIx xs.length 0 lo)
theorem cut_rep {ds : List D} {vs : List V} {A : Addr → Prop} (r : RepL K mg H A ds vs) (lo hi : Option Int) : RepL K mg H A (cutD ds lo hi) (cutV vs lo hi) := by
  unfold cutD cutV
  rw [← r.len]
  exact (r.drop _).take _
end
/-- a slice's part -/
abbrev FO := Rho → R (Option Int)
def fO0 : FO := fun _ => .ok none
def fO1 (f : FE) : FO := fun ρ => (f ρ).bind fun
  | .int i => .ok (some i)
  | _ => .stuck
def tO (K : PySem.W.Frag) (mg : Str → Option Value) (Z : Fx) (own : List Nat) (W : WX) (f : FO) : TO := fun σ H Q => ∃ α ρ, EnvR K mg Z own α ρ σ H ∧ RSt mg W σ H (f ρ) fun o => ∀ H', Same H H' → Q o H'
def DO (X : Cx) (Z : Fx) (own : List Nat) (W : WX) (e : Option Expr) (f : FO) : Prop := PO X e (tO X.K X.mg Z own W f)
theorem PO_imp {X : Cx} {e : Option Expr} {t t' : TO} (h : PO X e t) (i : ∀ σ H Q, t' σ H Q → t σ H Q) : PO X e t' := ⟨fun pins s σ H Q I w => h.run pins s σ H Q I (i σ H Q w)⟩
def cutR (lo hi : Option Int) : D → R D
  | .lst xs => .ok (.lst (cutD xs lo hi))
  | .tup xs => .ok (.tup (cutD xs lo hi))
  | .str x => if x.length ≤ 16777216 then .ok (.str (cutS x lo hi)) else .stuck
  | _ => .stuck
def fSl (fa : FE) (fl fh : FO) : FE := fun ρ => (fa ρ).bind fun x => (fl ρ).bind fun l => (fh ρ).bind fun h => cutR l h x
section
variable {X : Cx} {Z : Fx} {own : List Nat} {W : WX} {a b c e : Expr} {es : List Expr} {pos p p2 : Pos} {K : PySem.W.Frag} {mg : Str → Option Value} {σ : St} {H H1 : Hp} {α : Al} {ρ : Rho} {lo hi : Option Expr}
theorem do_none : DO X Z own W none fO0 := PO_imp po_none fun σ H Q ⟨α, ρ, E, q⟩ => q H (Same.refl H)
theorem do_some {f : FE} (h : DR X Z own W e f) : DO X Z own W (some e) (fO1 f) := PO_imp (po_some h) fun σ H Q ⟨α, ρ, E, q⟩ => by
  refine (g_R (P := fun H o => ∀ H', Same H H' → Q o H') (fun H H1 o s h H' s' => h H' (s.trans s')) E q).imp fun v H1 ⟨d, e1, s1, r1, E1, q1⟩ => ?_
  cases d with
  | int i => exact ⟨i, r1.int, q1 H1 (Same.refl H1)⟩
  | _ => exact q1.elim
theorem g_O {β : Type} {P : Hp → β → Prop} (l : ∀ H H1 b, Same H H1 → P H b → P H1 b) (E : EnvR K mg Z own α ρ σ H) {f : FO} {k : Option Int → R β} (h : RSt mg W σ H ((f ρ).bind k) (P H)) :
    tO K mg Z own W f σ H (fun o H1 => Same H H1 ∧ EnvR K mg Z own α ρ σ H1 ∧ RSt mg W σ H1 (k o) (P H1)) := by
  refine ⟨α, ρ, E, ?_⟩
  cases e : f ρ with
  | ok d => rw [e] at h; exact fun H' s => ⟨s, E.mono s, RSt.later l s h⟩
  | raise c => rw [e] at h; exact h
  | stuck => rw [e] at h; exact h
theorem tO.imp {f : FO} {Q Q' : Option Int → Hp → Prop} (h : tO K mg Z own W f σ H Q) (i : ∀ v H', Q v H' → Q' v H') : tO K mg Z own W f σ H Q' := by
  obtain ⟨α, ρ, E, q⟩ := h
  exact ⟨α, ρ, E, q.imp fun d _ k H1 s => i d H1 (k H1 s)⟩
def rSlD (K : PySem.W.Frag) (mg : Str → Option Value) : V → Option Int → Option Int → Hp → VK → Prop := fun x lo hi H Q => ∃ A dx d, (∀ p, H p = none → ¬ A p) ∧ RepT K mg H A dx x ∧ cutR lo hi dx = .ok d ∧ FQ K mg A H d Q
theorem cutD_whole {α : Type} {xs : List α} {lo hi : Option Int} (h : HT.sIx xs.length 0 lo = 0 ∧ HT.sIx xs.length xs.length hi = xs.length) : cutD xs lo hi = xs := by
  unfold cutD
  rw [h.1, h.2, Nat.sub_zero, List.drop_zero, List.take_length]
theorem sl_D : SlR X (rSlD X.K X.mg) := by
  intro pins s σ H x v vl vu lo hi sl Q I rx hs pl pu ⟨A, dx, d, hA, h1, e, q⟩
  unfold cutR at e
  split at e
  · cases e
    obtain ⟨a, vs, rfl, g, r⟩ := h1.lst
    exact sl_list pins s σ H _ v vl vu lo hi sl Q I rx hs pl pu ⟨a, vs, rfl, SqL.of g, fun p n => q.newLst (cut_rep r lo hi) n⟩
  · rename_i xs; cases e
    obtain ⟨a, vs, rfl, g, r⟩ := id h1.tup
    refine sl_tupA pins s σ H _ v vl vu lo hi sl Q I rx hs pl pu ⟨a, vs, rfl, g, fun z => ?_, fun _ p n => q.newTup (cut_rep r lo hi) hA n⟩
    rw [← r.len] at z
    rw [cutD_whole z] at q
    exact q.tupAt h1
  · split at e
    · rename_i hl; cases e; cases h1.str
      exact sl_str pins s σ H _ v vl vu lo hi sl Q I rx hs pl pu ⟨_, rfl, by rw [sl_eq]; exact hl, q.imp (Same.refl H) rfl (.str _)⟩
    · cases e
  · cases e
theorem d_slice {fa : FE} {fl fh : FO} (ha : DR X Z own W a fa) (hl : DO X Z own W lo fl) (hh : DO X Z own W hi fh) : DF X Z own W (.Subscript a (.Slice lo hi none p2) pos) (fSl fa fl fh) :=
  PE_imp (pe_slice sl_D ha hl hh) fun σ H Q ⟨α, ρ, E, q⟩ => by
    refine (g_R (P := fun H d => FQ X.K X.mg (AA Z.Ao α) H d Q) (fun H H1 d s h => h.mono s) E q.g).imp fun v H1 ⟨d, e1, s1, r1, E1, q1⟩ => ?_
    refine (g_O (P := fun H d => FQ X.K X.mg (AA Z.Ao α) H d Q) (fun H H1 d s h => h.mono s) E1 q1).imp fun l H2 ⟨s2, E2, q2⟩ => ?_
    refine (g_O (P := fun H d => FQ X.K X.mg (AA Z.Ao α) H d Q) (fun H H1 d s h => h.mono s) E2 q2).imp fun h H3 ⟨s3, E3, q3⟩ => ?_
    cases ho : cutR l h d with
    | ok x => rw [ho] at q3; exact ⟨AA Z.Ao α, d, x, fun p n => E3.nA n, (r1.same s2).same s3, ho, q3⟩
    | raise c =>
      unfold cutR at ho
      split at ho
      · cases ho
      · cases ho
      · split at ho <;> cases ho
      · cases ho
    | stuck => rw [ho] at q3; exact q3.elim
end
end Sh

namespace Sh
open PySem PySem.Spec PyProof.Rows L2
section
variable {X : Cx} {Z : Fx} {own : List Nat} {W : WX} {a b c e : Expr} {es rest : List Expr} {pos p : Pos} {σ : St} {H H1 : Hp} {α : Al} {ρ : Rho}
theorem PE_or {t t' : TE} (h : PE X e t) (h' : PE X e t') : PE X e (fun σ H Q => t σ H Q ∨ t' σ H Q) := ⟨fun pins s σ H Q I w => w.elim (h.run pins s σ H Q I) (h'.run pins s σ H Q I)⟩
abbrev laterE (K : PySem.W.Frag) (mg : Str → Option Value) (A : Addr → Prop) (Q : VK) : ∀ (H H1 : Hp) (d : D), Same H H1 → (∀ v H', Same H H' → RepV K mg H' A d v → Q v H') → (∀ v H', Same H1 H' → RepV K mg H' A d v → Q v H') := fun _ _ _ s h v H' s' => h v H' (s.trans s')
abbrev laterF (K : PySem.W.Frag) (mg : Str → Option Value) (A : Addr → Prop) (Q : VK) : ∀ (H H1 : Hp) (d : D), Same H H1 → FQ K mg A H d Q → FQ K mg A H1 d Q := fun _ _ _ s h => h.mono s
/-! ### and, or, not, if as values -/
def fOr (fa fb : FE) : FE := fun ρ => (fa ρ).bind fun x => (truthD x).bind fun k => if k = true then .ok x else fb ρ
def fAnd (fa fb : FE) : FE := fun ρ => (fa ρ).bind fun x => (truthD x).bind fun k => if k = true then fb ρ else .ok x
theorem d_one {op : BoolOp} {f : FE} (h : DE X Z own W a f) : DE X Z own W (.BoolOp op [a] pos) f := pe_one h
theorem d_or {fa fb : FE} (ha : DE X Z own W a fa) (hb : DE X Z own W (.BoolOp .Or (b :: rest) pos) fb) : DE X Z own W (.BoolOp .Or (a :: b :: rest) pos) (fOr fa fb) :=
  PE_imp (pe_orT ha hb) fun σ H Q ⟨α, ρ, E, q⟩ => by
    refine (g_E (laterE X.K X.mg (AA Z.Ao α) Q) E q.g).imp fun v H1 ⟨d, e1, s1, r1, E1, q1⟩ => ?_
    cases ht : truthD d with
    | ok k =>
      rw [ht] at q1
      refine ⟨k, truth_of (.inl r1) ht, ?_⟩
      cases k with
      | true => rw [if_pos rfl]; exact q1 v H1 (Same.refl H1) r1
      | false => rw [if_neg Bool.false_ne_true]; exact ⟨α, ρ, E1, RSt.e q1⟩
    | raise c => exact absurd ht truthD_nr
    | stuck => rw [ht] at q1; exact q1.elim
theorem d_and {fa fb : FE} (ha : DE X Z own W a fa) (hb : DE X Z own W (.BoolOp .And (b :: rest) pos) fb) : DE X Z own W (.BoolOp .And (a :: b :: rest) pos) (fAnd fa fb) :=
  PE_imp (pe_andT ha hb) fun σ H Q ⟨α, ρ, E, q⟩ => by
    refine (g_E (laterE X.K X.mg (AA Z.Ao α) Q) E q.g).imp fun v H1 ⟨d, e1, s1, r1, E1, q1⟩ => ?_
    cases ht : truthD d with
    | ok k =>
      rw [ht] at q1
      refine ⟨k, truth_of (.inl r1) ht, ?_⟩
      cases k with
      | true => rw [if_pos rfl]; exact ⟨α, ρ, E1, RSt.e q1⟩
      | false => rw [if_neg Bool.false_ne_true]; exact q1 v H1 (Same.refl H1) r1
    | raise c => exact absurd ht truthD_nr
    | stuck => rw [ht] at q1; exact q1.elim
def fNot (fa : FE) : FE := fun ρ => (fa ρ).bind fun x => (truthD x).bind fun k => .ok (.bl (!k))
theorem d_not {fa : FE} (ha : DR X Z own W a fa) : DF X Z own W (.UnaryOp .Not a pos) (fNot fa) :=
  PE_imp (pe_notT ha) fun σ H Q ⟨α, ρ, E, q⟩ => by
    refine (g_R (laterF X.K X.mg (AA Z.Ao α) Q) E q.g).imp fun v H1 ⟨d, e1, s1, r1, E1, q1⟩ => ?_
    cases ht : truthD d with
    | ok k =>
      rw [ht] at q1
      have q1 : FQ X.K X.mg (AA Z.Ao α) H1 (.bl (!k)) Q := q1
      exact ⟨k, truth_of r1 ht, q1.imp (Same.refl H1) rfl (.bl _)⟩
    | raise c => exact absurd ht truthD_nr
    | stuck => rw [ht] at q1; exact q1.elim
def fIf (fc : FT) (fa fb : FE) : FE := fun ρ => (fc ρ).bind fun k => if k = true then fa ρ else fb ρ
theorem d_ife {fc : FT} {fa fb : FE} (hc : DT X Z own W c fc) (ha : DE X Z own W a fa) (hb : DE X Z own W b fb) : DE X Z own W (.IfExp c a b pos) (fIf fc fa fb) :=
  PE_imp (pe_ifExp hc ha hb) fun σ H Q ⟨α, ρ, E, q⟩ => by
    refine (g_T (laterE X.K X.mg (AA Z.Ao α) Q) E q.g).imp fun k H1 ⟨s1, E1, q1⟩ => ?_
    cases k with
    | true => rw [if_pos rfl]; exact ⟨α, ρ, E1, RSt.e q1⟩
    | false => rw [if_neg Bool.false_ne_true]; exact ⟨α, ρ, E1, RSt.e q1⟩
/-- where both ends are new -/
theorem d_ifeF {fc : FT} {fa fb : FE} (hc : DT X Z own W c fc) (ha : DF X Z own W a fa) (hb : DF X Z own W b fb) : DF X Z own W (.IfExp c a b pos) (fIf fc fa fb) :=
  PE_imp (pe_ifExp hc ha hb) fun σ H Q ⟨α, ρ, E, q⟩ => by
    refine (g_T (laterF X.K X.mg (AA Z.Ao α) Q) E q.g).imp fun k H1 ⟨s1, E1, q1⟩ => ?_
    cases k with
    | true => rw [if_pos rfl]; exact ⟨α, ρ, E1, RSt.e q1⟩
    | false => rw [if_neg Bool.false_ne_true]; exact ⟨α, ρ, E1, RSt.e q1⟩
/-! ### tests of and, or -/
def DW (X : Cx) (Z : Fx) (own : List Nat) (W : WX) (e : Expr) (f : FT) : Prop := PW X e (tT X.K X.mg Z own W f)
theorem PW_imp {t t' : TT} (h : PW X e t) (i : ∀ σ H Q, t' σ H Q → t σ H Q) : PW X e t' := ⟨fun wh pins s σ H Q I w => h.run wh pins s σ H Q I (i σ H Q w)⟩
def fAndT (fa fb : FT) : FT := fun ρ => (fa ρ).bind fun k => if k = true then fb ρ else .ok false
def fOrT (fa fb : FT) : FT := fun ρ => (fa ρ).bind fun k => if k = true then .ok true else fb ρ
theorem RSt.t {mg : Str → Option Value} {Q : Bool → Hp → Prop} : ∀ {r : R Bool}, (RSt mg W σ H r fun b => ∀ H', Same H H' → Q b H') → match r with
  | .ok b => ∀ H', Same H H' → Q b H'
  | .raise c => ∀ C H', mg c = some (.ref C) → Same H H' → W (.ref C) none σ H'
  | .stuck => False := by intro r h; cases r <;> exact h
theorem RSt.ot {r : R Bool} {Q : Bool → Hp → Prop} {mg : Str → Option Value} (h : match r with
  | .ok b => ∀ H', Same H H' → Q b H'
  | .raise c => ∀ C H', mg c = some (.ref C) → Same H H' → W (.ref C) none σ H'
  | .stuck => False) : RSt mg W σ H r fun b => ∀ H', Same H H' → Q b H' := by cases r <;> exact h
abbrev laterT (Q : Bool → Hp → Prop) : ∀ (H H1 : Hp) (b : Bool), Same H H1 → (∀ H', Same H H' → Q b H') → (∀ H', Same H1 H' → Q b H') := fun _ _ _ s h H' s' => h H' (s.trans s')
theorem dw_and1 {f : FT} (h : DT X Z own W a f) : DW X Z own W (.BoolOp .And [a] pos) f := pw_and1 h
theorem dw_or1 {f : FT} (h : DT X Z own W a f) : DW X Z own W (.BoolOp .Or [a] pos) f := pw_or1 h
theorem dw_and {fa fb : FT} (ha : DT X Z own W a fa) (hb : DW X Z own W (.BoolOp .And (b :: rest) pos) fb) : DW X Z own W (.BoolOp .And (a :: b :: rest) pos) (fAndT fa fb) :=
  PW_imp (pw_and ha hb) fun σ H Q ⟨α, ρ, E, q⟩ => by
    refine (g_T (laterT Q) E (RSt.ot q)).imp fun k H1 ⟨s1, E1, q1⟩ => ?_
    cases k with
    | true =>
      rw [if_pos rfl]
      have q1 : RSt X.mg W σ H1 (fb ρ) (fun b => ∀ H', Same H1 H' → Q b H') := q1
      exact ⟨α, ρ, E1, q1.t⟩
    | false => rw [if_neg Bool.false_ne_true]; exact q1 H1 (Same.refl H1)
theorem dw_or {fa fb : FT} (ha : DT X Z own W a fa) (hb : DW X Z own W (.BoolOp .Or (b :: rest) pos) fb) : DW X Z own W (.BoolOp .Or (a :: b :: rest) pos) (fOrT fa fb) :=
  PW_imp (pw_or ha hb) fun σ H Q ⟨α, ρ, E, q⟩ => by
    refine (g_T (laterT Q) E (RSt.ot q)).imp fun k H1 ⟨s1, E1, q1⟩ => ?_
    cases k with
    | false =>
      rw [if_neg Bool.false_ne_true]
      have q1 : RSt X.mg W σ H1 (fb ρ) (fun b => ∀ H', Same H1 H' → Q b H') := q1
      exact ⟨α, ρ, E1, q1.t⟩
    | true => rw [if_pos rfl]; exact q1 H1 (Same.refl H1)
theorem DW.t {f : FT} (h : DW X Z own W a f) : DT X Z own W a f := PW.pt h
/-! ### two comparisons -/
def fCh (op op' : D → D → R D) (fa fb fc : FE) : FE := fun ρ => (fa ρ).bind fun x => (fb ρ).bind fun y => (op x y).bind fun z => (asB z).bind fun k => if k = true then (fc ρ).bind fun z => op' y z else .ok (.bl false)
theorem tCh_of {K : PySem.W.Frag} {mg : Str → Option Value} {op op' : D → D → R D} {fa fb fc : FE} {Q : VK} (n : NoR2 op) (n' : NoR2 op') (h : tF K mg Z own W (fCh op op' fa fb fc) σ H Q) :
    tChain (rD K mg op) (rD K mg op') (tR K mg Z own W fa) (tR K mg Z own W fb) (tR K mg Z own W fc) σ H Q := by
  obtain ⟨α, ρ, E, q⟩ := h
  refine (g_R (laterF K mg (AA Z.Ao α) Q) E q.g).imp fun v H1 ⟨d, e1, s1, r1, E1, q1⟩ => ?_
  refine (g_R (laterF K mg (AA Z.Ao α) Q) E1 q1).imp fun u H2 ⟨d2, e2, s2, r2, E2, q2⟩ => ?_
  cases ho : op d d2 with
  | ok x =>
    rw [ho] at q2
    refine ⟨AA Z.Ao α, d, d2, x, fun p n => E2.nA n, r1.same s2, r2, ho, ?_⟩
    cases x with
    | bl k =>
      refine FQ.of (fun p n => E2.nA n) fun z H3 s3 r3 => ?_
      cases r3
      refine ⟨k, rfl, ?_⟩
      have E3 := E2.mono s3
      cases k with
      | true =>
        rw [if_pos rfl]
        have q3 : RSt mg W σ H3 ((fc ρ).bind fun z => op' d2 z) fun d => FQ K mg (AA Z.Ao α) H3 d Q := RSt.later (laterF K mg (AA Z.Ao α) Q) s3 q2
        refine (g_R (laterF K mg (AA Z.Ao α) Q) E3 q3).imp fun w H4 ⟨d4, e4, s4, r4, E4, q4⟩ => ?_
        cases ho2 : op' d2 d4 with
        | ok x => rw [ho2] at q4; exact ⟨AA Z.Ao α, d2, d4, x, fun p n => E4.nA n, (r2.same s3).same s4, r4, ho2, q4⟩
        | raise c => exact absurd ho2 (n' _ _ _)
        | stuck => rw [ho2] at q4; exact q4.elim
      | false =>
        rw [if_neg Bool.false_ne_true]
        have q2 : FQ K mg (AA Z.Ao α) H2 (.bl false) Q := q2
        exact q2.imp s3 rfl (.bl _)
    | _ => exact q2.elim
  | raise c => exact absurd ho (n _ _ _)
  | stuck => rw [ho] at q2; exact q2.elim
theorem d_chain {op op' : CmpOp} {f f' : D → D → R D} {fa fb fc : FE} (ho : OpD X (compareOp op) f) (n : NoR2 f) (ho' : OpD X (compareOp op') f') (n' : NoR2 f') (ha : DR X Z own W a fa) (hb : DR X Z own W b fb) (hc : DR X Z own W c fc)
    (hm : lastMarks [op, op'] [b, c] = false := by with_unfolding_all rfl) : DF X Z own W (.Compare a [op, op'] [b, c] pos) (fCh f f' fa fb fc) := PE_imp (pe_chain ho ho' ha hb hc hm) fun σ H Q h => tCh_of n n' h
theorem dt_chain {op op' : CmpOp} {f f' : D → D → R D} {fa fb fc : FE} (ho : OpD X (compareOp op) f) (n : NoR2 f) (ho' : OpD X (compareOp op') f') (n' : NoR2 f') (ha : DR X Z own W a fa) (hb : DR X Z own W b fb) (hc : DR X Z own W c fc)
    (hm : lastMarks [op, op'] [b, c] = false := by with_unfolding_all rfl) : DT X Z own W (.Compare a [op, op'] [b, c] pos) (fB (fCh f f' fa fb fc)) :=
  PT_imp (pt_chain ho ho' ha hb hc hm) fun σ H Q h => tTest_of (fun Q q => tCh_of n n' q) h
/-! ### - -/
def fNeg (fa : FE) : FE := fun ρ => (fa ρ).bind fun
  | .int i => .ok (.int (-i))
  | _ => .stuck
theorem d_neg {fa : FE} (ha : DR X Z own W a fa) : DF X Z own W (.UnaryOp .USub a pos) (fNeg fa) :=
  PE_imp (pe_un un_neg ha) fun σ H Q ⟨α, ρ, E, q⟩ => by
    refine (g_R (laterF X.K X.mg (AA Z.Ao α) Q) E q.g).imp fun v H1 ⟨d, e1, s1, r1, E1, q1⟩ => ?_
    cases d with
    | int i =>
      have q1 : FQ X.K X.mg (AA Z.Ao α) H1 (.int (-i)) Q := q1
      exact ⟨i, r1.int, q1.imp (Same.refl H1) rfl (.int _)⟩
    | _ => exact q1.elim
end

/-! ### a def's promise by data -/
def spD (K : PySem.W.Frag) (mg : Str → Option Value) (n : Nat) (m : List D → R D) : Sp := fun vs H Q E => vs.length = n ∧ ∃ (Ao : Addr → Prop) (ds : List D), (∀ b, Ao b → ∃ o, H b = some o) ∧ RepL K mg H Ao ds vs ∧
  match m ds with
  | .ok d => ∀ v H', Same H H' → RepV K mg H' Ao d v → Q v H'
  | .raise c => ∀ C H', mg c = some (.ref C) → Same H H' → E (.ref C) none H'
  | .stuck => False
section
variable {X : Cx} {Z : Fx} {own : List Nat} {W : WX} {a b c e : Expr} {es rest : List Expr} {pos p : Pos} {σ : St} {H H1 : Hp} {α : Al} {ρ : Rho} {k : Nat} {f : Addr} {fd : FuncData} {ps : List Str} {m : List D → R D} {x : Str}
theorem sp_at {fa : FA} {Q : VK} {t : TA} (E : EnvR X.K X.mg Z own α ρ σ H) (n : ∀ xs, fa ρ = .ok xs → xs.length = ps.length) (q : RSt X.mg W σ H ((fa ρ).bind m) fun d => ∀ v H', Same H H' → RepV X.K X.mg H' (AA Z.Ao α) d v → Q v H') :
    tAe X.K X.mg Z own W fa σ H fun vs H1 => spD X.K X.mg ps.length m vs H1 Q (WE W σ) := by
  refine (g_Ae (laterE X.K X.mg (AA Z.Ao α) Q) E q).imp fun vs H1 ⟨ds, e1, s1, r1, E1, q1⟩ => ?_
  refine ⟨by rw [← r1.len]; exact n ds e1, AA Z.Ao α, ds, E1.dom, r1, ?_⟩
  cases ho : m ds with
  | ok d => rw [ho] at q1; exact q1
  | raise c => rw [ho] at q1; exact q1
  | stuck => rw [ho] at q1; exact q1.elim
/-- f(..) of a def of the text -/
theorem d_call {fa : FA} (tk : L2N.Takes X W) (F : FnOk X.prog X.w X.K X.mg X.base (L2N.CX X.prog X.w) k f fd ps (spD X.K X.mg ps.length m)) (hr : Room k X.A) (hm : X.mg x = some (.ref f)) (hk : PySem.W.keepIn X.K (.ref f) = true) (hb : Binds X.K fd ps [])
    (ha : DAe X Z own W (e :: es) fa) (hl : (e :: es).length = ps.length := by rfl) (hg : Gl X x := by rfl) (hdb : (x == ("__debug__" : Str)) = false := by decide) (he : starEach (e :: es) X.env = (false, eval e X.env) :: starEach es X.env := by rfl) (hpl : (backTo pos (starEach es X.env)).any (·.1) = false := by rfl) :
    DE X Z own W (.Call (.Name x p) (e :: es) [] pos) (fCall m fa) :=
  PE_imp (pe_callS F hr hg hm hk hb (fun σ => L2N.passAt tk σ) ha.1 hdb he hpl) fun σ H Q ⟨α, ρ, E, q⟩ => sp_at (t := fun _ _ _ => True) E (fun xs h => (ha.2 _ _ h).trans hl) q.g
/-- the i-th slot holds the def at f -/
theorem pe_slotS {i : Nat} {sp : Sp} {Eσ : St → XK} {t : TA} (F : FnOk X.prog X.w X.K X.mg X.base (L2N.CX X.prog X.w) k f fd ps sp) (hr : Room k X.A) (hN : X.N[i]? = some x) (hv : Vis X.env.scope x) (hk : PySem.W.keepIn X.K (.ref f) = true) (hb : Binds X.K fd ps []) (hx : ∀ σ, PassesAt (L2N.CX X.prog X.w) X σ (Eσ σ))
    (ha : PA X (e :: es) t) (hdb : (x == ("__debug__" : Str)) = false := by decide) (hcd : (x == ("__classdict__" : Str)) = false := by decide) (he : starEach (e :: es) X.env = (false, eval e X.env) :: starEach es X.env := by rfl) (hpl : (backTo pos (starEach es X.env)).any (·.1) = false := by rfl) :
    PE X (.Call (.Name x p) (e :: es) [] pos) (fun σ H Q => σ[i]? = some (some (.ref f)) ∧ t σ H fun vs H1 => sp vs H1 Q (Eσ σ)) := by
  constructor
  intro pins s σ H Q I w
  have h0 := (pe_var (pos := p) hN hv hdb hcd).run pins s σ H (fun v H1 => v = .ref f ∧ H1 = H) I ⟨.ref f, w.1, rfl, rfl⟩
  refine wpAny_Call_Name_kw (thn h0 ?_)
  intro u s1 hq
  obtain ⟨v, H2, I1, r1, hv', hH⟩ := hq
  subst hv' hH
  cases r1
  have h1 := ha.run pos pins s1 σ _ _ I1 w.2
  refine PySem.W.callWith_K (h₀ := X.base) I.ok.mod.kin hk (thn h1 ?_) he hpl
  intro us s2 hz
  obtain ⟨vs, H3, I2, r, q⟩ := hz
  exact ⟨I2.kIn, run_fnS F hr hb (hx σ) I2 r q⟩
/-- a table of defs that a slot may hold -/
structure Tbl (X : Cx) (k n : Nat) (T : List (Str × (List D → R D))) : Prop where
  ok : ∀ y m, T.lookup y = some m → ∃ (f : Addr) (fd : FuncData) (ps : List Str), ps.length = n ∧ X.mg y = some (.ref f) ∧ PySem.W.keepIn X.K (.ref f) = true ∧ Binds X.K fd ps [] ∧ FnOk X.prog X.w X.K X.mg X.base (L2N.CX X.prog X.w) k f fd ps (spD X.K X.mg n m)
def fCallV (T : List (Str × (List D → R D))) (i : Nat) (fa : FA) : FE := fun ρ => (fVar i ρ).bind fun
  | .fn y => match T.lookup y with
    | some m => (fa ρ).bind m
    | none => .stuck
  | _ => .stuck
theorem d_callv {fa : FA} {T : List (Str × (List D → R D))} {n : Nat} (i : Nat) (tk : L2N.Takes X W) (B : Tbl X k n T) (hr : Room k X.A) (ha : DAe X Z own W (e :: es) fa) (hl2 : (e :: es).length = n := by rfl) (hi : i ∉ own := by decide) (hN : X.N[i]? = some x := by rfl) (hv : Vis X.env.scope x := by first | exact Or.inl rfl | exact Or.inr (Or.inl rfl) | exact Or.inr (Or.inr rfl))
    (hdb : (x == ("__debug__" : Str)) = false := by decide) (hcd : (x == ("__classdict__" : Str)) = false := by decide) (he : starEach (e :: es) X.env = (false, eval e X.env) :: starEach es X.env := by rfl) (hpl : (backTo pos (starEach es X.env)).any (·.1) = false := by rfl) :
    DE X Z own W (.Call (.Name x p) (e :: es) [] pos) (fCallV T i fa) := by
  subst hl2
  constructor
  intro pins s σ H Q I ⟨α, ρ, E, q⟩
  unfold fCallV at q
  cases h1 : fVar i ρ with
  | ok d =>
    rw [h1] at q
    cases d with
    | fn y =>
      have q : ESt X.mg W _ σ H (match T.lookup y with | some m => (fa ρ).bind m | none => .stuck) Q := q
      cases h2 : T.lookup y with
      | some m =>
        rw [h2] at q
        obtain ⟨f, fd, ps, hl, gm, hk, hb, F⟩ := B.ok y m h2
        obtain ⟨v, hv1, hv2⟩ := E.sh i _ (fVar_ok h1) (.inl hi)
        obtain ⟨a, rfl, ga⟩ := (show RepT X.K X.mg H _ (.fn y) v from .inl hv2).fn
        rw [gm] at ga; cases ga
        refine (pe_slotS F hr hN hv hk hb (fun σ => L2N.passAt tk σ) ha.1 hdb hcd he hpl).run pins s σ H Q I ⟨hv1, ?_⟩
        have := sp_at (ps := ps) (m := m) (t := fun _ _ _ => True) E (fun xs h => (ha.2 _ _ h).trans hl.symm) q.g
        rw [hl] at this
        exact this
      | none => rw [h2] at q; exact q.elim
    | _ => exact q.elim
  | raise c =>
    unfold fVar at h1
    split at h1 <;> cases h1
  | stuck => rw [h1] at q; exact q.elim
end
end Sh

namespace Sh
open PySem PySem.Spec PyProof.Rows L2

/-! ### what a statement leaves -/
structure Post (Z : Fx) (lk : List Nat) (α : Al) (H : Hp) (α' : Al) (H' : Hp) : Prop where
  mv : Mv (AA Z.Ao α) H (AA Z.Ao α') H'
  lock : ∀ i ∈ lk, α' i = α i ∧ ∀ a, α i = some a → H' a = H a
theorem Post.refl {Z : Fx} {lk : List Nat} {α : Al} {H : Hp} : Post Z lk α H α H := ⟨.refl _ _, fun _ _ => ⟨rfl, fun _ _ => rfl⟩⟩
theorem Post.trans {Z : Fx} {lk : List Nat} {α α1 α2 : Al} {H H1 H2 : Hp} (a : Post Z lk α H α1 H1) (b : Post Z lk α1 H1 α2 H2) : Post Z lk α H α2 H2 :=
  ⟨a.mv.trans b.mv, fun i hi => ⟨(b.lock i hi).1.trans (a.lock i hi).1, fun p e => ((b.lock i hi).2 p ((a.lock i hi).1.trans e)).trans ((a.lock i hi).2 p e)⟩⟩
theorem Post.mono {Z : Fx} {lk lk' : List Nat} {α α1 : Al} {H H1 : Hp} (a : Post Z lk α H α1 H1) (s : ∀ i ∈ lk', i ∈ lk) : Post Z lk' α H α1 H1 := ⟨a.mv, fun i hi => a.lock i (s i hi)⟩
theorem EnvR.post {K : PySem.W.Frag} {mg : Str → Option Value} {Z : Fx} {own lk : List Nat} {α : Al} {ρ : Rho} {σ : St} {H H1 : Hp} (E : EnvR K mg Z own α ρ σ H) (s : Same H H1) : Post Z lk α H α H1 :=
  ⟨.same s, fun i _ => ⟨rfl, fun a e => by
    obtain ⟨o, q⟩ := E.dom a (.inr ⟨i, e⟩)
    rw [q, s _ _ q]⟩⟩

/-! ### slots stored -/
section
variable {K : PySem.W.Frag} {mg : Str → Option Value} {Z : Fx} {own : List Nat} {α : Al} {ρ : Rho} {σ : St} {H H' : Hp}
theorem EnvR.setSh (E : EnvR K mg Z own α ρ σ H) {i : Nat} {d : D} {v : V} (hi : i ∉ own ∨ isBox d = false) (r : RepV K mg H (AA Z.Ao α) d v) : EnvR K mg Z own α (ρ.set i (some d)) (σ.set i (some v)) H := by
  refine ⟨by rw [List.length_set, List.length_set]; exact E.len, E.same, fun j x e n => ?_, fun j x e n b => ?_, E.dom, E.new, E.inj, E.out, E.fin⟩
  · by_cases hj : i = j
    · subst hj
      have hlt : i < ρ.length := by
        have := (List.getElem?_eq_some_iff.mp e).1
        rw [List.length_set] at this
        exact this
      rw [List.getElem?_set_self hlt] at e
      cases e
      exact ⟨v, by rw [List.getElem?_set_self (by rw [← E.len]; exact hlt)], r⟩
    · rw [List.getElem?_set_ne hj] at e ⊢
      exact E.sh j x e n
  · by_cases hj : i = j
    · subst hj
      have hlt : i < ρ.length := by
        have := (List.getElem?_eq_some_iff.mp e).1
        rw [List.length_set] at this
        exact this
      rw [List.getElem?_set_self hlt] at e
      cases e
      rcases hi with hi | hi
      · exact absurd n hi
      · rw [hi] at b; cases b
    · rw [List.getElem?_set_ne hj] at e ⊢
      exact E.ow j x e n b
def setA (α : Al) (i : Nat) (p : Addr) : Al := fun j => if j = i then some p else α j
theorem setA_same {i : Nat} {p : Addr} : setA α i p i = some p := by unfold setA; rw [if_pos rfl]
theorem setA_ne {i j : Nat} {p : Addr} (h : j ≠ i) : setA α i p j = α j := by unfold setA; rw [if_neg h]
/-- a new box goes to a slot of its own -/
theorem EnvR.setOw (E : EnvR K mg Z own α ρ σ H) {i : Nat} {d : D} {p : Addr} (hi : i ∈ own) (s : Same H H') (n : H p = none) (r : TopR K mg H' (fun b => AA Z.Ao α b ∨ b = p) d p) :
    EnvR K mg Z own (setA α i p) (ρ.set i (some d)) (σ.set i (some (.ref p))) H' ∧ Mv (AA Z.Ao α) H (AA Z.Ao (setA α i p)) H' := by
  have sub : ∀ b, AA Z.Ao (setA α i p) b → AA Z.Ao α b ∨ b = p := fun b h => by
    rcases h with h | ⟨j, h⟩
    · exact .inl (.inl h)
    · by_cases hj : j = i
      · subst hj; rw [setA_same] at h; cases h; exact .inr rfl
      · rw [setA_ne hj] at h; exact .inl (.inr ⟨j, h⟩)
  have M : Mv (AA Z.Ao α) H (AA Z.Ao (setA α i p)) H' := fun b o e na => ⟨s _ _ e, fun z => (sub b z).elim na fun q => by subst q; rw [n] at e; cases e⟩
  have m2 : Mv (fun b => AA Z.Ao α b ∨ b = p) H' (AA Z.Ao (setA α i p)) H' := fun b o e na => ⟨e, fun z => na (sub b z)⟩
  have hp : ∃ o, H' p = some o := by
    cases d with
    | lst ds => obtain ⟨_, h, _⟩ := r; exact ⟨_, h⟩
    | dct ks ws => obtain ⟨_, h, _⟩ := r; exact ⟨_, h⟩
    | iset ns => obtain ⟨_, _, h, _⟩ := r; exact ⟨_, h⟩
    | _ => exact r.elim
  refine ⟨⟨by rw [List.length_set, List.length_set]; exact E.len, E.same.trans s, fun j x e c => ?_, fun j x e c b => ?_, fun b h => ?_, fun j a h => ?_, fun j k a h1 h2 => ?_, E.out, let ⟨n, hn⟩ := E.fin; ⟨n + i + 1, fun j hj => by rw [setA_ne (by omega)]; exact hn j (by omega)⟩⟩, M⟩
  · by_cases hj : i = j
    · subst hj
      have hlt : i < ρ.length := by
        have := (List.getElem?_eq_some_iff.mp e).1
        rw [List.length_set] at this
        exact this
      rw [List.getElem?_set_self hlt] at e
      cases e
      rcases c with c | c
      · exact absurd hi c
      · rw [r.box] at c; cases c
    · rw [List.getElem?_set_ne hj] at e ⊢
      obtain ⟨v, h1, h2⟩ := E.sh j x e c
      exact ⟨v, h1, h2.mv M⟩
  · by_cases hj : i = j
    · subst hj
      have hlt : i < ρ.length := by
        have := (List.getElem?_eq_some_iff.mp e).1
        rw [List.length_set] at this
        exact this
      rw [List.getElem?_set_self hlt] at e
      cases e
      exact ⟨p, setA_same, by rw [List.getElem?_set_self (by rw [← E.len]; exact hlt)], r.mv m2 fun o h => h⟩
    · rw [List.getElem?_set_ne hj] at e ⊢
      obtain ⟨a, h1, h2, h3⟩ := E.ow j x e c b
      exact ⟨a, by rw [setA_ne (Ne.symm hj)]; exact h1, h2, h3.mv M fun o h => s _ _ h⟩
  · rcases sub b h with h | rfl
    · obtain ⟨o, q⟩ := E.dom b h
      exact ⟨o, s _ _ q⟩
    · exact hp
  · by_cases hj : j = i
    · subst hj; rw [setA_same] at h; cases h; exact E.same.free n
    · rw [setA_ne hj] at h; exact E.new j a h
  · by_cases hj : j = i
    · by_cases hk : k = i
      · rw [hj, hk]
      · subst hj; rw [setA_same] at h1; cases h1
        rw [setA_ne hk] at h2
        obtain ⟨o, q⟩ := E.dom p (.inr ⟨k, h2⟩)
        rw [n] at q; cases q
    · by_cases hk : k = i
      · subst hk; rw [setA_same] at h2; cases h2
        rw [setA_ne hj] at h1
        obtain ⟨o, q⟩ := E.dom p (.inr ⟨j, h1⟩)
        rw [n] at q; cases q
      · rw [setA_ne hj] at h1; rw [setA_ne hk] at h2
        exact E.inj j k a h1 h2
end
end Sh

namespace Sh
open PySem PySem.Spec PyProof.Rows L2

/-! ### statements -/
inductive RS where
  | nx (ρ : Rho) | rt (d : D) | raise (c : Str) (ρ : Rho) | stuck
abbrev FS := Rho → RS
section
variable (K : PySem.W.Frag) (mg : Str → Option Value) (Z : Fx) (own lk : List Nat) (W : WX)
def SSt (α : Al) (H : Hp) (r : RS) (D : Ends) : Prop := match r with
  | .nx ρ' => ∀ α' σ' H', EnvR K mg Z own α' ρ' σ' H' → Post Z lk α H α' H' → D.nx σ' H'
  | .rt d => ∀ v H', Same Z.H0 H' → RepV K mg H' Z.Ao d v → D.rt v H'
  | .raise c ρ' => ∀ C α' σ' H', mg c = some (.ref C) → EnvR K mg Z own α' ρ' σ' H' → Post Z lk α H α' H' → W (.ref C) none σ' H'
  | .stuck => False
def tS (f : FS) : TS := fun D σ H => ∃ α ρ, EnvR K mg Z own α ρ σ H ∧ SSt K mg Z own lk W α H (f ρ) D
end
def DS (X : Cx) (Z : Fx) (own lk : List Nat) (W : WX) (st : Stmt) (f : FS) : Prop := PS X st (tS X.K X.mg Z own lk W f)
def DSs (X : Cx) (Z : Fx) (own lk : List Nat) (W : WX) (st : List Stmt) (f : FS) : Prop := PSs X st (tS X.K X.mg Z own lk W f)
theorem PS_imp {X : Cx} {st : Stmt} {t t' : TS} (h : PS X st t) (i : ∀ D σ H, t' D σ H → t D σ H) : PS X st t' := ⟨fun pins s σ H D I w => h.run pins s σ H D I (i D σ H w)⟩
theorem PSs_imp {X : Cx} {st : List Stmt} {t t' : TS} (h : PSs X st t) (i : ∀ D σ H, t' D σ H → t D σ H) : PSs X st t' := ⟨fun pins s σ H D I w => h.run pins s σ H D I (i D σ H w)⟩
section
variable {X : Cx} {Z : Fx} {own lk : List Nat} {W : WX} {st : Stmt} {rest : List Stmt} {e a b c : Expr} {pos pos' : Pos} {K : PySem.W.Frag} {mg : Str → Option Value} {σ : St} {H H1 : Hp} {α α1 : Al} {ρ : Rho}
theorem SSt.later {r : RS} {D : Ends} (p : Post Z lk α H α1 H1) (h : SSt K mg Z own lk W α H r D) : SSt K mg Z own lk W α1 H1 r D := by
  cases r with
  | nx ρ' => exact fun α' σ' H' E p' => h α' σ' H' E (p.trans p')
  | rt d => exact h
  | raise c ρ' => exact fun C α' σ' H' g E p' => h C α' σ' H' g E (p.trans p')
  | stuck => exact h
def fSkip : FS := fun ρ => .nx ρ
def fSeq (f g : FS) : FS := fun ρ => match f ρ with
  | .nx ρ' => g ρ'
  | r => r
theorem dss_nil : DSs X Z own lk W [] fSkip := PSs_imp pss_nil fun D σ H ⟨α, ρ, E, q⟩ => q α σ H E .refl
theorem seq_of {f g : FS} {D : Ends} (h : tS K mg Z own lk W (fSeq f g) D σ H) : tSeq (tS K mg Z own lk W f) (tS K mg Z own lk W g) D σ H := by
  obtain ⟨α, ρ, E, q⟩ := h
  refine ⟨α, ρ, E, ?_⟩
  unfold fSeq at q
  cases r : f ρ with
  | nx ρ' => rw [r] at q; exact fun α' σ' H' E' p => ⟨α', ρ', E', q.later p⟩
  | rt d => rw [r] at q; exact q
  | raise c ρ' => rw [r] at q; exact q
  | stuck => rw [r] at q; exact q
theorem dss_cons {f g : FS} (h1 : DS X Z own lk W st f) (h2 : DSs X Z own lk W rest g) : DSs X Z own lk W (st :: rest) (fSeq f g) := PSs_imp (pss_cons h1 h2) fun D σ H h => seq_of h
theorem dss_one {f : FS} (h1 : DS X Z own lk W st f) : DSs X Z own lk W [st] f := pss_one h1
theorem ds_pass : DS X Z own lk W (.Pass pos) fSkip := PS_imp ps_pass fun D σ H ⟨α, ρ, E, q⟩ => q α σ H E .refl
/-- a value's ends as a statement's -/
def toS {β : Type} (r : R β) (ρ : Rho) (k : β → RS) : RS := match r with
  | .ok d => k d
  | .raise c => .raise c ρ
  | .stuck => .stuck
theorem toS_g {β : Type} {r : R β} {k : β → RS} {D : Ends} (E : EnvR K mg Z own α ρ σ H) (h : SSt K mg Z own lk W α H (toS r ρ k) D) : RSt mg W σ H r fun d => SSt K mg Z own lk W α H (k d) D := by
  cases r with
  | ok d => exact h
  | raise c => exact fun C H' g s => h C α σ H' g (E.mono s) (E.post s)
  | stuck => exact h
theorem SSt.same {r : RS} {D : Ends} (E : EnvR K mg Z own α ρ σ H) (s : Same H H1) (h : SSt K mg Z own lk W α H r D) : SSt K mg Z own lk W α H1 r D := h.later (E.post s)
/-- a statement's end with what it takes to be asked later -/
def PD (K : PySem.W.Frag) (mg : Str → Option Value) (Z : Fx) (own lk : List Nat) (W : WX) (α : Al) {β : Type} (k : β → RS) (D : Ends) : Hp → β → Prop := fun H d => (∀ i a, α i = some a → ∃ o, H a = some o) ∧ SSt K mg Z own lk W α H (k d) D
theorem PD.later {β : Type} {k : β → RS} {D : Ends} : ∀ H H1 (d : β), Same H H1 → PD K mg Z own lk W α k D H d → PD K mg Z own lk W α k D H1 d := fun H H1 d s h =>
  ⟨fun i a e => let ⟨o, q⟩ := h.1 i a e; ⟨o, s _ _ q⟩, h.2.later ⟨.same s, fun i _ => ⟨rfl, fun a e => by
    obtain ⟨o, q⟩ := h.1 i a e
    rw [q, s _ _ q]⟩⟩⟩
theorem toS_pd {β : Type} {r : R β} {k : β → RS} {D : Ends} (E : EnvR K mg Z own α ρ σ H) (h : SSt K mg Z own lk W α H (toS r ρ k) D) : RSt mg W σ H r (PD K mg Z own lk W α k D H) :=
  (toS_g E h).imp fun d _ q => ⟨fun i a e => E.dom a (.inr ⟨i, e⟩), q⟩
/-! name = value -/
def fSet (i : Nat) (f : FE) : FS := fun ρ => toS (f ρ) ρ fun d => .nx (ρ.set i (some d))
theorem set_sh {i : Nat} {f : FE} {D : Ends} (hi : i ∉ own) (h : tS K mg Z own lk W (fSet i f) D σ H) : tAsg (tE K mg Z own W f) (gName i) D σ H := by
  obtain ⟨α, ρ, E, q⟩ := h
  refine ⟨α, ρ, E, RSt.e ((toS_g E q).imp fun d _ q v H1 s r => ?_)⟩
  exact q α _ H1 ((E.mono s).setSh (.inl hi) r) (E.post s)
theorem set_ow {i : Nat} {f : FE} {D : Ends} (hi : i ∈ own) (hl : i ∉ lk) (h : tS K mg Z own lk W (fSet i f) D σ H) : tAsg (tF K mg Z own W f) (gName i) D σ H := by
  obtain ⟨α, ρ, E, q⟩ := h
  refine ⟨α, ρ, E, RSt.e ((toS_g E q).imp fun d _ q => ?_)⟩
  show FQ K mg (AA Z.Ao α) H d _
  unfold FQ
  split
  · intro p H1 s n r
    obtain ⟨E1, M⟩ := E.setOw hi s n r
    exact q _ _ H1 E1 ⟨M, fun j hj => ⟨setA_ne (fun z => hl (z ▸ hj)), fun x ex => by
      obtain ⟨o, eo⟩ := E.dom x (.inr ⟨j, ex⟩)
      rw [eo, s _ _ eo]⟩⟩
  · rename_i nb
    exact fun v H1 s r => q α _ H1 ((E.mono s).setSh (.inr (by simpa using nb)) r) (E.post s)
theorem ds_set (i : Nat) {x : Str} {f : FE} (he : DE X Z own W e f) (hi : i ∉ own := by decide) (hN : X.N.Nodup) (hx1 : X.N[i]? = some x := by rfl) (hx : Loc X.env.scope x := by first | exact Or.inl rfl | exact Or.inr rfl) (hs : swapsWith e (some (.Name x pos')) pos.line X.env = pure false := by rfl)
    (hf : X.fn x = true ∨ X.env.scope.names.lookup x = some .local := by first | exact .inl rfl | exact .inr rfl) : DS X Z own lk W (.Assign [.Name x pos'] e pos) (fSet i f) :=
  PS_imp (ps_set hN hx1 hx he hs hf) fun D σ H h => set_sh hi h
theorem ds_setO (i : Nat) {x : Str} {f : FE} (he : DF X Z own W e f) (hN : X.N.Nodup) (hi : i ∈ own := by decide) (hl : i ∉ lk := by decide) (hx1 : X.N[i]? = some x := by rfl) (hx : Loc X.env.scope x := by first | exact Or.inl rfl | exact Or.inr rfl) (hs : swapsWith e (some (.Name x pos')) pos.line X.env = pure false := by rfl)
    (hf : X.fn x = true ∨ X.env.scope.names.lookup x = some .local := by first | exact .inl rfl | exact .inr rfl) : DS X Z own lk W (.Assign [.Name x pos'] e pos) (fSet i f) :=
  PS_imp (ps_set hN hx1 hx he hs hf) fun D σ H h => set_ow hi hl h
/-! name op= value -/
def fAug (i : Nat) (op : D → D → R D) (f : FE) : FS := fun ρ => toS ((fVar i ρ).bind fun x => (f ρ).bind fun y => op x y) ρ fun d => .nx (ρ.set i (some d))
theorem ds_aug (i : Nat) {x : Str} {op : Operator} {g : D → D → R D} {f : FE} (ho : OpD X (inplaceOp op) g) (n : NoR2 g) (he : DR X Z own W e f) (hN : X.N.Nodup) (hi : i ∉ own := by decide) (hx1 : X.N[i]? = some x := by rfl) (hx : Loc X.env.scope x := by first | exact Or.inl rfl | exact Or.inr rfl)
    (hf : X.fn x = true ∨ X.env.scope.names.lookup x = some .local := by first | exact .inl rfl | exact .inr rfl) : DS X Z own lk W (.AugAssign (.Name x pos') op e pos) (fAug i g f) :=
  PS_imp (ps_aug (ti := rD X.K X.mg g) hN hx1 hx he ho hf) fun D σ H ⟨α, ρ, E, q⟩ => by
    have q := toS_pd E q
    unfold fVar at q
    split at q
    · rename_i d ed
      obtain ⟨v, hv1, hv2⟩ := E.sh i d ed (.inl hi)
      refine ⟨v, hv1, ?_⟩
      refine (g_R PD.later E (k := fun y => g d y) q).imp fun u H1 ⟨d2, e2, s2, r2, E2, q2⟩ => ?_
      cases ho : g d d2 with
      | ok x =>
        rw [ho] at q2
        have q2 : PD X.K X.mg Z own lk W α (fun d => .nx (ρ.set i (some d))) D H1 x := q2
        refine ⟨AA Z.Ao α, d, d2, x, fun p n => E2.nA n, .inl (hv2.same s2), r2, ho, FQ.of (fun p n => E2.nA n) fun w H3 s3 r3 => ?_⟩
        exact (PD.later H1 H3 x s3 q2).2 α _ H3 ((E2.mono s3).setSh (.inl hi) r3) .refl
      | raise c => exact absurd ho (n _ _ _)
      | stuck => rw [ho] at q2; exact q2.elim
    · exact q.elim
end
end Sh

namespace Sh
open PySem PySem.Spec PyProof.Rows L2
section
variable {X : Cx} {Z : Fx} {own lk : List Nat} {W : WX} {st : Stmt} {body rest : List Stmt} {e a b c : Expr} {pos pos' : Pos} {K : PySem.W.Frag} {mg : Str → Option Value} {σ : St} {H H1 : Hp} {α α1 : Al} {ρ : Rho}
/-! ### return -/
def fRet (f : FE) : FS := fun ρ => toS (f ρ) ρ fun d => .rt d
theorem RepV.out (r : RepV K mg H (AA Z.Ao α) d v) : RepV K mg H Z.Ao d v := r.mv fun b o h n => ⟨h, fun z => n (.inl z)⟩
theorem ds_ret {f : FE} (he : DE X Z own W e f) : DS X Z own lk W (.Return (some e) pos) (fRet f) := PS_imp (ps_ret he) fun D σ H ⟨α, ρ, E, q⟩ =>
  ⟨α, ρ, E, RSt.e ((toS_g E q).imp fun d _ q v H1 s r => q v H1 (E.same.trans s) r.out)⟩
def fRetV (i : Nat) : FS := fRet (fVar i)
theorem ds_retO (i : Nat) {x : Str} {p : Pos} (hN : X.N[i]? = some x := by rfl) (hv : Vis X.env.scope x := by first | exact Or.inl rfl | exact Or.inr (Or.inl rfl) | exact Or.inr (Or.inr rfl)) (hd : (x == ("__debug__" : Str)) = false := by decide)
    (hcd : (x == ("__classdict__" : Str)) = false := by decide) : DS X Z own lk W (.Return (some (.Name x p)) pos) (fRet (fVar i)) := PS_imp (ps_ret (pe_var hN hv hd hcd)) fun D σ H ⟨α, ρ, E, q⟩ => by
  unfold fRet fVar at q
  split at q
  · rename_i d e
    have q : ∀ v H', Same Z.H0 H' → RepV X.K X.mg H' Z.Ao d v → D.rt v H' := q
    by_cases hi : i ∈ own ∧ isBox d = true
    · obtain ⟨p, h1, h2, h3⟩ := E.ow i d e hi.1 hi.2
      have nA : ¬ Z.Ao p := fun z => by
        obtain ⟨o, ho⟩ := E.out p z
        rw [E.new i p h1] at ho; cases ho
      refine ⟨.ref p, h2, q _ H E.same ((h3.mv (A' := Z.Ao) (fun b o h n => ⟨h, fun z => n (.inl z)⟩) fun o h => h).rep' nA)⟩
    · obtain ⟨v, h1, h2⟩ := E.sh i d e (by by_cases h : i ∈ own; exact .inr (by cases z : isBox d; rfl; exact absurd ⟨h, z⟩ hi); exact .inl h)
      exact ⟨v, h1, q v H E.same h2.out⟩
  · exact q.elim
def fRetN : FS := fun _ => .rt .non
theorem ds_retN : DS X Z own lk W (.Return none pos) fRetN := PS_imp ps_retN fun D σ H ⟨α, ρ, E, q⟩ => q _ H E.same .non
/-! ### if, an expression alone -/
def fIfS (c : FT) (f g : FS) : FS := fun ρ => toS (c ρ) ρ fun k => if k = true then f ρ else g ρ
theorem ds_if {fc : FT} {f g : FS} {p q : List Stmt} (hc : DT X Z own W c fc) (h1 : DSs X Z own lk W p f) (h2 : DSs X Z own lk W q g) : DS X Z own lk W (.If c p q pos) (fIfS fc f g) := PS_imp (ps_if hc h1 h2) fun D σ H ⟨α, ρ, E, q⟩ => by
  refine (g_T PD.later E (k := fun k => R.ok k) (P := PD X.K X.mg Z own lk W α (fun k => if k = true then f ρ else g ρ) D) (by have := toS_pd E q; cases r : fc ρ <;> rw [r] at this <;> exact this)).imp fun k H1 ⟨s1, E1, q1⟩ => ?_
  have q1 : PD X.K X.mg Z own lk W α (fun k => if k = true then f ρ else g ρ) D H1 k := q1
  cases k with
  | true => rw [if_pos rfl]; exact ⟨α, ρ, E1, q1.2⟩
  | false => rw [if_neg Bool.false_ne_true]; exact ⟨α, ρ, E1, q1.2⟩
def fExpr (f : FE) : FS := fun ρ => toS (f ρ) ρ fun _ => .nx ρ
theorem ds_expr {f : FE} (he : DR X Z own W e f) (hs : swapsWith e none pos.line X.env = pure false := by rfl) : DS X Z own lk W (.Expr e pos) (fExpr f) := PS_imp (ps_expr he hs) fun D σ H ⟨α, ρ, E, q⟩ =>
  ⟨α, ρ, E, RSt.e ((toS_g E q).imp fun d _ q v H1 s r => q α σ H1 (E.mono s) (E.post s))⟩
/-! ### boxes changed -/
theorem EnvR.updL (E : EnvR K mg Z own α ρ σ H) {i : Nat} {p : Addr} {ds : List D} {vs vs0 : List V} (hi : i ∈ own) (hl : i ∉ lk) (hα : α i = some p) (h0 : H p = some (.lst vs0)) (hσ : σ[i]? = some (some (.ref p))) (r : RepL K mg H (AA Z.Ao α) ds vs) :
    EnvR K mg Z own α (ρ.set i (some (.lst ds))) σ (upd H p (.lst vs)) ∧ Post Z lk α H α (upd H p (.lst vs)) := by
  have ap : AA Z.Ao α p := .inr ⟨i, hα⟩
  have M : Mv (AA Z.Ao α) H (AA Z.Ao α) (L2.upd H p (.lst vs)) := fun b o h n => ⟨by rw [upd_ne (by intro z; rw [z] at n; exact n ap)]; exact h, n⟩
  refine ⟨⟨by rw [List.length_set]; exact E.len, fun b o h => ?_, fun j x e c => ?_, fun j x e c bx => ?_, fun b h => ?_, E.new, E.inj, E.out, E.fin⟩, M, fun j hj => ⟨rfl, fun q e => ?_⟩⟩
  · rw [upd_ne (fun z => by subst z; rw [E.new i _ hα] at h; cases h)]
    exact E.same b o h
  · by_cases hj : i = j
    · subst hj
      have hlt : i < ρ.length := by
        have := (List.getElem?_eq_some_iff.mp e).1
        rw [List.length_set] at this
        exact this
      rw [List.getElem?_set_self hlt] at e
      cases e
      rcases c with c | c
      · exact absurd hi c
      · cases c
    · rw [List.getElem?_set_ne hj] at e
      obtain ⟨v, h1, h2⟩ := E.sh j x e c
      exact ⟨v, h1, h2.mv M⟩
  · by_cases hj : i = j
    · subst hj
      have hlt : i < ρ.length := by
        have := (List.getElem?_eq_some_iff.mp e).1
        rw [List.length_set] at this
        exact this
      rw [List.getElem?_set_self hlt] at e
      cases e
      exact ⟨p, hα, hσ, vs, upd_same, r.mv M⟩
    · rw [List.getElem?_set_ne hj] at e
      obtain ⟨q, h1, h2, h3⟩ := E.ow j x e c bx
      exact ⟨q, h1, h2, h3.mv M fun o ho => by rw [upd_ne (by intro z; rw [z] at h1; exact hj (E.inj i j p hα h1))]; exact ho⟩
  · by_cases hb : b = p
    · subst hb; exact ⟨_, upd_same⟩
    · rw [upd_ne hb]; exact E.dom b h
  · rw [upd_ne (by intro z; rw [z] at e; rw [E.inj i j p hα e] at hl; exact hl hj)]
/-- the list in a slot of its own -/
theorem EnvR.lstAt (E : EnvR K mg Z own α ρ σ H) {i : Nat} {ds : List D} (hi : i ∈ own) (e : ρ[i]? = some (some (.lst ds))) : ∃ p vs, α i = some p ∧ σ[i]? = some (some (.ref p)) ∧ H p = some (.lst vs) ∧ RepL K mg H (AA Z.Ao α) ds vs := by
  obtain ⟨p, h1, h2, vs, h3, h4⟩ := E.ow i _ e hi rfl
  exact ⟨p, vs, h1, h2, h3, h4⟩
def asLst : D → R (List D)
  | .lst xs => .ok xs
  | _ => .stuck
/-- x.append(e) -/
def fApp (i : Nat) (f : FE) : FS := fun ρ => toS ((fVar i ρ).bind fun x => (asLst x).bind fun xs => (f ρ).bind fun y => if xs.length < 16777216 then .ok (xs ++ [y]) else .stuck) ρ fun xs => .nx (ρ.set i (some (.lst xs)))
theorem var_lst {β : Type} {i : Nat} {k : List D → R β} {P : β → Prop} (h : RSt mg W σ H ((fVar i ρ).bind fun x => (asLst x).bind k) P) : ∃ xs, ρ[i]? = some (some (.lst xs)) ∧ RSt mg W σ H (k xs) P := by
  cases r : fVar i ρ with
  | ok d =>
    rw [r] at h
    cases d with
    | lst xs => exact ⟨xs, fVar_ok r, h⟩
    | _ => exact h.elim
  | raise c =>
    unfold fVar at r
    split at r <;> cases r
  | stuck => rw [r] at h; exact h.elim
theorem ds_append (i : Nat) {x : Str} {p apos : Pos} {f : FE} (he : DE X Z own W e f) (hi : i ∈ own := by decide) (hl : i ∉ lk := by decide) (hN : X.N[i]? = some x := by rfl) (hv : Vis X.env.scope x := by first | exact Or.inl rfl | exact Or.inr (Or.inl rfl) | exact Or.inr (Or.inr rfl)) (hd : (x == ("__debug__" : Str)) = false := by decide)
    (hcd : (x == ("__classdict__" : Str)) = false := by decide) (hline : (apos.endLine == pos'.line) = true := by rfl) (hs1 : starEach [e] X.env = (false, eval e X.env) :: starEach [] X.env := by rfl)
    (hfew : ((backTo pos' (starEach [e] X.env)).all (fun x => !x.1) && (backToKw pos' (keywordEach [] X.env)).all (fun x => x.1.isSome) && decide ([e].length + ([] : List Keyword).length + (if ([] : List Keyword).isEmpty then 0 else 1) < 30)) = true := by rfl)
    (hs : swapsWith (.Call (.Attribute (.Name x p) "append" apos) [e] [] pos') none pos.line X.env = pure false := by rfl) :
    DS X Z own lk W (.Expr (.Call (.Attribute (.Name x p) "append" apos) [e] [] pos') pos) (fApp i f) :=
  PS_imp (ps_expr (pe_bm PySem.F.plainAttrs_list PySem.F.slot_list_append PySem.F.type_list_append mt_append (pe_var hN hv hd hcd) (pa_cons he pa_nil hs1) rfl hfew hline hs1 rfl) hs) fun D σ H ⟨α, ρ, E, q⟩ => by
    obtain ⟨xs, hx, q⟩ := var_lst (toS_pd E q)
    obtain ⟨l, vs, h1, h2, h3, h4⟩ := E.lstAt hi hx
    refine ⟨.ref l, h2, .inl ⟨rfl, vs, SqL.of h3⟩, ?_⟩
    refine (g_E PD.later E (k := fun y => if xs.length < 16777216 then .ok (xs ++ [y]) else .stuck) q).imp fun v H1 ⟨d, e1, s1, r1, E1, q1⟩ => ?_
    by_cases hlen : xs.length < 16777216
    · rw [if_pos hlen] at q1
      have q1 : PD X.K X.mg Z own lk W α (fun xs => .nx (ρ.set i (some (.lst xs)))) D H1 (xs ++ [d]) := q1
      refine ⟨l, vs, v, rfl, rfl, s1 _ _ h3, by rw [sl_eq, ← h4.len]; exact hlen, ?_⟩
      obtain ⟨E2, P2⟩ := E1.updL (lk := lk) hi hl h1 (s1 _ _ h3) h2 ((h4.same s1).append (.cons r1 .nil))
      exact q1.2 _ _ _ E2 P2
    · rw [if_neg hlen] at q1; exact q1.elim
/-- x[k] = e -/
def setL (xs : List D) (k y : D) : R (List D) := match k with
  | .int i => match ixN xs.length i with
    | some j => .ok (xs.set j y)
    | none => .stuck
  | _ => .stuck
def fSetI (i : Nat) (fk f : FE) : FS := fun ρ => toS ((f ρ).bind fun y => (fVar i ρ).bind fun x => (asLst x).bind fun xs => (fk ρ).bind fun k => setL xs k y) ρ fun xs => .nx (ρ.set i (some (.lst xs)))
theorem setL_at {xs ys : List D} {k y : D} (h : setL xs k y = .ok ys) : ∃ i j, k = .int i ∧ ixN xs.length i = some j ∧ ys = xs.set j y := by
  unfold setL at h
  split at h
  · split at h
    · rename_i j hj; cases h; exact ⟨_, j, rfl, hj, rfl⟩
    · cases h
  · cases h
theorem setL_nr {xs : List D} {k y : D} {c : Str} : setL xs k y ≠ .raise c := by
  intro z
  unfold setL at z
  split at z
  · split at z <;> cases z
  · cases z
theorem ds_setI (i : Nat) {x : Str} {p p2 : Pos} {fk f : FE} (hk : DR X Z own W b fk) (he : DE X Z own W e f) (hi : i ∈ own := by decide) (hl : i ∉ lk := by decide) (hN : X.N[i]? = some x := by rfl) (hv : Vis X.env.scope x := by first | exact Or.inl rfl | exact Or.inr (Or.inl rfl) | exact Or.inr (Or.inr rfl)) (hd : (x == ("__debug__" : Str)) = false := by decide)
    (hcd : (x == ("__classdict__" : Str)) = false := by decide) (ha : ∀ v, assign (.Subscript (.Name x p) b p2) X.env v = (do
      let ov ← holding [v] (eval (.Name x p) X.env)
      let iv ← holding [v, ov] (eval b X.env)
      standAt p2
      holding [v, ov, iv] (setItem ov iv v)
      release [v, ov, iv] []) := by intro _; rfl)
    (hs : swapsWithSole [.Subscript (.Name x p) b p2] e pos.line X.env = pure false := by rfl) (hw : swappedStores [.Subscript (.Name x p) b p2] e X.env = pure none := by rfl)
    (h1 : (assignEach [.Subscript (.Name x p) b p2] X.env).map (·.2) = [assign (.Subscript (.Name x p) b p2) X.env] := by rfl) :
    DS X Z own lk W (.Assign [.Subscript (.Name x p) b p2] e pos) (fSetI i fk f) :=
  PS_imp (ps_asg he (pg_sub (pe_var hN hv hd hcd) hk set_list ha) hs hw h1) fun D σ H ⟨α, ρ, E, q⟩ => by
    refine (g_E PD.later E (k := fun y => (fVar i ρ).bind fun x => (asLst x).bind fun xs => (fk ρ).bind fun k => setL xs k y) (toS_pd E q)).imp fun v H1 ⟨d, e1, s1, r1, E1, q1⟩ => ?_
    obtain ⟨xs, hx, q1⟩ := var_lst q1
    obtain ⟨l, vs, h1, h2, h3, h4⟩ := E1.lstAt hi hx
    refine ⟨.ref l, h2, ?_⟩
    refine (g_R PD.later E1 (k := fun k => setL xs k d) q1).imp fun u H2 ⟨d2, e2, s2, r2, E2, q2⟩ => ?_
    cases ho : setL xs d2 d with
    | ok ys =>
      rw [ho] at q2
      have q2 : PD X.K X.mg Z own lk W α (fun xs => .nx (ρ.set i (some (.lst xs)))) D H2 ys := q2
      obtain ⟨k, j, rfl, hj, rfl⟩ := setL_at ho
      refine ⟨l, vs, k, j, rfl, r2.int, s2 _ _ h3, by rw [← h4.len]; exact hj, ?_⟩
      obtain ⟨E3, P3⟩ := E2.updL (lk := lk) hi hl h1 (s2 _ _ h3) h2 ((h4.same s2).set j (r1.same s2))
      exact q2.2 _ _ _ E3 P3
    | raise c => exact absurd ho setL_nr
    | stuck => rw [ho] at q2; exact q2.elim
/-- o[i] of a list, by values -/
theorem get_L : PGet X (rIxL X.K) := by
  intro pins s σ H o i ov iv Q I ro ri ⟨p, xs, k, z, e1, e2, hq, he, q⟩
  subst e1 e2
  cases ro
  obtain ⟨t, e3⟩ := ri
  subst e3
  obtain ⟨its, r, pl, hz⟩ := I.list hq
  obtain ⟨j, g1, g2, g3, g4, g5⟩ := atI_get he
  obtain ⟨w, ew, rw'⟩ := r.get g2
  have hlen := r.length
  have big := line63
  have fin : EP X pins σ Q w s := ⟨z, H, I, rw', q⟩
  by_cases h0 : 0 ≤ k
  · rw [seqIndex_of h0 g5] at g1
    have hj : k.toNat = j := Option.some.inj g1
    exact wpAny_getItem_list pl.isList h0 (by omega) (by rw [hj]; simpa using ew) fin
  · rw [seqIndex_neg (by omega) g4] at g1
    refine wpAny_getItem_list_neg pl.isList (by omega) (by rw [List.size_toArray]; omega) (by omega) ?_ fin
    rw [List.size_toArray, ← hlen, Option.some.inj g1]
    simpa using ew
/-- x[k] op= e -/
def getL (xs : List D) (k : D) : R D := match k with
  | .int i => match atI xs i with
    | some d => .ok d
    | none => .stuck
  | _ => .stuck
def fAugI (i : Nat) (op : D → D → R D) (fk f : FE) : FS := fun ρ => toS ((fVar i ρ).bind fun x => (asLst x).bind fun xs => (fk ρ).bind fun k => (getL xs k).bind fun o => (f ρ).bind fun y => (op o y).bind fun z => setL xs k z) ρ fun xs => .nx (ρ.set i (some (.lst xs)))
theorem getL_at {xs : List D} {k y : D} (h : getL xs k = .ok y) : ∃ i, k = .int i ∧ atI xs i = some y := by
  unfold getL at h
  split at h
  · split at h
    · rename_i d hd; cases h; exact ⟨_, rfl, hd⟩
    · cases h
  · cases h
theorem getL_nr {xs : List D} {k : D} {c : Str} : getL xs k ≠ .raise c := by
  intro z
  unfold getL at z
  split at z
  · split at z <;> cases z
  · cases z
theorem ds_augI (i : Nat) {x : Str} {op : Operator} {g : D → D → R D} {p p2 : Pos} {fk f : FE} (ho : OpD X (inplaceOp op) g) (n : NoR2 g) (hk : DR X Z own W b fk) (he : DR X Z own W e f) (hi : i ∈ own := by decide) (hl : i ∉ lk := by decide) (hN : X.N[i]? = some x := by rfl) (hv : Vis X.env.scope x := by first | exact Or.inl rfl | exact Or.inr (Or.inl rfl) | exact Or.inr (Or.inr rfl)) (hd : (x == ("__debug__" : Str)) = false := by decide)
    (hcd : (x == ("__classdict__" : Str)) = false := by decide) (ha : ∀ ov iv new, augStore b ov iv new = (do holding [new, ov, iv] (setItem ov iv new); release [new, ov, iv] []; pure .next) := by intros; rfl) :
    DS X Z own lk W (.AugAssign (.Subscript (.Name x p) b p2) op e pos) (fAugI i g fk f) :=
  PS_imp (ps_augS (tip := rD X.K X.mg g) (pe_var hN hv hd hcd) hk get_L he ho set_list ha) fun D σ H ⟨α, ρ, E, q⟩ => by
    obtain ⟨xs, hx, q⟩ := var_lst (toS_pd E q)
    obtain ⟨l, vs, h1, h2, h3, h4⟩ := E.lstAt hi hx
    refine ⟨.ref l, h2, ?_⟩
    refine (g_R PD.later E (k := fun k => (getL xs k).bind fun o => (f ρ).bind fun y => (g o y).bind fun z => setL xs k z) q).imp fun u H1 ⟨d1, e1, s1, r1, E1, q1⟩ => ?_
    cases hg : getL xs d1 with
    | ok o =>
      rw [hg] at q1
      obtain ⟨k, rfl, hk⟩ := getL_at hg
      obtain ⟨w, hw1, hw2⟩ := atI_rep (h4.same s1) hk
      refine ⟨l, vs, k, w, rfl, r1.int, SqL.of (s1 _ _ h3), hw1, ?_⟩
      refine (g_R PD.later E1 (k := fun y => (g o y).bind fun z => setL xs (.int k) z) q1).imp fun t H2 ⟨d2, e2, s2, r2, E2, q2⟩ => ?_
      cases hz : g o d2 with
      | ok z =>
        rw [hz] at q2
        refine ⟨AA Z.Ao α, o, d2, z, fun p n => E2.nA n, .inl (hw2.same s2), r2, hz, FQ.of (fun p n => E2.nA n) fun zv H3 s3 r3 => ?_⟩
        have q3 := RSt.later PD.later s3 q2
        have E3 := E2.mono s3
        have q3 : RSt X.mg W σ H3 (setL xs (.int k) z) _ := q3
        cases hs : setL xs (.int k) z with
        | ok ys =>
          rw [hs] at q3
          have q3 : PD X.K X.mg Z own lk W α (fun xs => .nx (ρ.set i (some (.lst xs)))) D H3 ys := q3
          obtain ⟨k', j, ek, hj, rfl⟩ := setL_at hs
          cases ek
          refine ⟨l, vs, k, j, rfl, r1.int, s3 _ _ (s2 _ _ (s1 _ _ h3)), by rw [← h4.len]; exact hj, ?_⟩
          obtain ⟨E4, P4⟩ := E3.updL (lk := lk) hi hl h1 (s3 _ _ (s2 _ _ (s1 _ _ h3))) h2 ((((h4.same s1).same s2).same s3).set j r3)
          exact q3.2 _ _ _ E4 P4
        | raise c => exact absurd hs setL_nr
        | stuck => rw [hs] at q3; exact q3.elim
      | raise c => exact absurd hz (n _ _ _)
      | stuck => rw [hz] at q2; exact q2.elim
    | raise c => exact absurd hg getL_nr
    | stuck => rw [hg] at q1; exact q1.elim
end
end Sh

namespace Sh
open PySem PySem.Spec PyProof.Rows L2
/-! ### targets -/
section
variable (K : PySem.W.Frag) (mg : Str → Option Value) (Z : Fx) (own : List Nat)
def tG (ts : List Nat) (g : D → Rho → R Rho) : TG := fun v σ H Q => ∃ α ρ d, EnvR K mg Z own α ρ σ H ∧ RepV K mg H (AA Z.Ao α) d v ∧ ∃ ρ', g d ρ = .ok ρ' ∧
  ∀ σ' H', EnvR K mg Z own α ρ' σ' H' → Same H H' → σ'.length = σ.length → (∀ j, j ∉ ts → σ'[j]? = σ[j]?) → Q σ' H'
def tGs (ts : List Nat) (g : List D → Rho → R Rho) : TGs := fun vs σ H Q => ∃ α ρ ds, EnvR K mg Z own α ρ σ H ∧ RepL K mg H (AA Z.Ao α) ds vs ∧ ∃ ρ', g ds ρ = .ok ρ' ∧
  ∀ σ' H', EnvR K mg Z own α ρ' σ' H' → Same H H' → σ'.length = σ.length → (∀ j, j ∉ ts → σ'[j]? = σ[j]?) → Q σ' H'
end
def DG (X : Cx) (Z : Fx) (own : List Nat) (ts : List Nat) (tg : Expr) (g : D → Rho → R Rho) : Prop := PG X tg (tG X.K X.mg Z own ts g)
def DGs (X : Cx) (Z : Fx) (own : List Nat) (ts : List Nat) (tg : List Expr) (g : List D → Rho → R Rho) : Prop := PGs X tg (tGs X.K X.mg Z own ts g)
theorem PG_imp {X : Cx} {e : Expr} {t t' : TG} (h : PG X e t) (i : ∀ v σ H Q, t' v σ H Q → t v σ H Q) : PG X e t' := ⟨fun pins s σ H v u Q I r w => h.run pins s σ H v u Q I r (i v σ H Q w)⟩
theorem PGs_imp {X : Cx} {e : List Expr} {t t' : TGs} (h : PGs X e t) (i : ∀ v σ H Q, t' v σ H Q → t v σ H Q) : PGs X e t' := ⟨fun pins s σ H v u Q I r w => h.run pins s σ H v u Q I r (i v σ H Q w)⟩
def gfName (i : Nat) : D → Rho → R Rho := fun d ρ => .ok (ρ.set i (some d))
def gfNil : List D → Rho → R Rho := fun ds ρ => match ds with
  | [] => .ok ρ
  | _ => .stuck
def gfCons (g : D → Rho → R Rho) (gs : List D → Rho → R Rho) : List D → Rho → R Rho := fun ds ρ => match ds with
  | d :: r => (g d ρ).bind fun ρ' => gs r ρ'
  | _ => .stuck
def gfTup (n : Nat) (gs : List D → Rho → R Rho) : D → Rho → R Rho := fun d ρ => match d with
  | .tup ds => if ds.length = n then gs ds ρ else .stuck
  | _ => .stuck
section
variable {X : Cx} {Z : Fx} {own lk : List Nat} {W : WX} {e : Expr} {es : List Expr} {pos : Pos} {ts : List Nat}
theorem dg_name (i : Nat) {x : Str} (hN : X.N.Nodup) (hm : i ∈ ts := by decide) (hi : i ∉ own := by decide) (hx1 : X.N[i]? = some x := by rfl) (hx : Loc X.env.scope x := by first | exact Or.inl rfl | exact Or.inr rfl) (hf : X.fn x = true ∨ X.env.scope.names.lookup x = some .local := by first | exact .inl rfl | exact .inr rfl) :
    DG X Z own ts (.Name x pos) (gfName i) := PG_imp (pg_name hN hx1 hx hf) fun v σ H Q ⟨α, ρ, d, E, r, ρ', e, q⟩ => by
  cases e
  exact q _ H (E.setSh (.inl hi) r) (Same.refl H) (List.length_set ..) fun j hj => List.getElem?_set_ne (by intro z; rw [z] at hm; exact hj hm)
theorem dgs_nil : DGs X Z own ts [] gfNil := PGs_imp pgs_nil fun vs σ H Q ⟨α, ρ, ds, E, r, ρ', e, q⟩ => by
  cases ds with
  | nil => cases r; cases e; exact ⟨rfl, q σ H E (Same.refl H) rfl fun _ _ => rfl⟩
  | cons d r => cases e
theorem dgs_cons {g : D → Rho → R Rho} {gs : List D → Rho → R Rho} (h1 : DG X Z own ts e g) (h2 : DGs X Z own ts es gs) (hs : (assignEach (e :: es) X.env).map (·.2) = assign e X.env :: (assignEach es X.env).map (·.2) := by rfl) :
    DGs X Z own ts (e :: es) (gfCons g gs) := PGs_imp (pgs_cons h1 h2 hs) fun vs σ H Q ⟨α, ρ, ds, E, r, ρ', e, q⟩ => by
  cases r with
  | nil => cases e
  | @cons d ds v vs r t =>
    unfold gfCons at e
    cases e1 : g d ρ with
    | ok ρ1 =>
      have e : gs ds ρ1 = .ok ρ' := by simp only [e1, R.bind] at e; exact e
      exact ⟨v, vs, rfl, α, ρ, d, E, r, ρ1, e1, fun σ1 H1 E1 s1 l1 k1 => ⟨α, ρ1, ds, E1, t.same s1, ρ', e, fun σ2 H2 E2 s2 l2 k2 => q σ2 H2 E2 (s1.trans s2) (l2.trans l1) fun j hj => (k2 j hj).trans (k1 j hj)⟩⟩
    | raise c => simp only [e1, R.bind] at e; cases e
    | stuck => simp only [e1, R.bind] at e; cases e
theorem dg_tup {k n : Nat} {gs : List D → Rho → R Rho} (hc : X.calm = true) (h : DGs X Z own ts es gs) (hn : (assignEach es X.env).length = n := by rfl) (hst : (assignEach es X.env).findIdx? (·.1) = none := by rfl) :
    DG X Z own ts (.Tuple es k pos) (gfTup n gs) := PG_imp (pg_tup hc h hn hst) fun v σ H Q ⟨α, ρ, d, E, r, ρ', e, q⟩ => by
  unfold gfTup at e
  split at e
  · split at e
    · rename_i ds hl
      obtain ⟨a, vs, rfl, g, rl⟩ := RepT.tup (.inl r)
      exact ⟨a, vs, rfl, g, by rw [← rl.len]; exact hl, α, ρ, ds, E, rl, ρ', e, q⟩
    · cases e
  · cases e
/-- target = value, any target -/
def fAsg (g : D → Rho → R Rho) (f : FE) : FS := fun ρ => toS ((f ρ).bind fun d => g d ρ) ρ fun ρ' => .nx ρ'
theorem ds_asg {tg : Expr} {g : D → Rho → R Rho} {f : FE} (he : DE X Z own W e f) (hg : DG X Z own ts tg g) (hs : swapsWithSole [tg] e pos.line X.env = pure false := by rfl) (hw : swappedStores [tg] e X.env = pure none := by rfl)
    (h1 : (assignEach [tg] X.env).map (·.2) = [assign tg X.env] := by rfl) (nr : ∀ d ρ c, g d ρ ≠ .raise c) : DS X Z own lk W (.Assign [tg] e pos) (fAsg g f) :=
  PS_imp (ps_asg he hg hs hw h1) fun D σ H ⟨α, ρ, E, q⟩ => by
    refine (g_E PD.later E (k := fun d => g d ρ) (toS_pd E q)).imp fun v H1 ⟨d, e1, s1, r1, E1, q1⟩ => ?_
    cases hg : g d ρ with
    | ok ρ' =>
      rw [hg] at q1
      have q1 : PD X.K X.mg Z own lk W α (fun ρ' => .nx ρ') D H1 ρ' := q1
      exact ⟨α, ρ, d, E1, r1, ρ', hg, fun σ' H' E' s' _ _ => q1.2 α σ' H' E' (E1.post s')⟩
    | raise c => exact absurd hg (nr _ _ _)
    | stuck => rw [hg] at q1; exact q1.elim
end

/-! ### what is walked -/
abbrev FI := Rho → R (List D)
def YD (K : PySem.W.Frag) (mg : Str → Option Value) (A : Addr → Prop) (ds : List D) : Nat → Hp → V → Hp → Prop := fun i H v H' => Same H H' ∧ ∃ d, ds[i]? = some d ∧ RepV K mg H' A d v
/-- G: what of the state the walk leans on -/
structure Wk (K : PySem.W.Frag) (mg : Str → Option Value) (Z : Fx) (lk : List Nat) (J : It) (ds : List D) (G : Al → Hp → Prop) : Prop where
  st : ∀ α H α' H', Post Z lk α H α' H' → G α H → G α' H'
  wk : ∀ α, Walk J ds.length (fun H => G α H ∧ ∀ b, AA Z.Ao α b → ∃ o, H b = some o) (YD K mg (AA Z.Ao α) ds)
def tI (K : PySem.W.Frag) (mg : Str → Option Value) (Z : Fx) (own lk : List Nat) (W : WX) (f : FI) : TI := fun σ H R => ∃ α ρ, EnvR K mg Z own α ρ σ H ∧
  RSt mg W σ H (f ρ) fun ds => ∀ J H1 G, Same H H1 → Wk K mg Z lk J ds G → G α H1 → R J H1
def DI (X : Cx) (Z : Fx) (own lk : List Nat) (W : WX) (tg iter : Expr) (f : FI) : Prop := PI X tg iter (tI X.K X.mg Z own lk W f)
theorem PI_imp {X : Cx} {tg e : Expr} {t t' : TI} (h : PI X tg e t) (i : ∀ σ H R, t' σ H R → t σ H R) : PI X tg e t' := ⟨fun pins s σ H R I w => h.run pins s σ H R I (i σ H R w)⟩
theorem PI_or {X : Cx} {tg e : Expr} {t t' : TI} (h : PI X tg e t) (h' : PI X tg e t') : PI X tg e (fun σ H R => t σ H R ∨ t' σ H R) := ⟨fun pins s σ H R I w => w.elim (h.run pins s σ H R I) (h'.run pins s σ H R I)⟩
def seqOf : D → R (List D)
  | .tup xs => .ok xs
  | .lst xs => .ok xs
  | .scr xs => .ok (xs.map .int)
  | .str x => .ok (x.cps.toList.map fun c => .str ⟨#[c]⟩)
  | _ => .stuck
def fSeqOf (f : FE) : FI := fun ρ => (f ρ).bind seqOf
section
variable {X : Cx} {Z : Fx} {own lk : List Nat} {W : WX} {e tg a b : Expr} {es : List Expr} {pos p : Pos} {K : PySem.W.Frag} {mg : Str → Option Value}
theorem RepL.of_map {H : Hp} {A : Addr → Prop} : ∀ {ns : List Int}, RepL K mg H A (ns.map D.int) (ns.map V.int)
  | [] => .nil
  | n :: r => .cons (.int n) RepL.of_map
theorem wk_list {a : Addr} {ds : List D} {vs : List V} : Wk K mg Z lk (Itl K a) ds (fun α H => (H a = some (.lst vs) ∧ ¬ AA Z.Ao α a) ∧ RepL K mg H (AA Z.Ao α) ds vs) := by
  refine ⟨fun α H α' H' p g => ⟨p.mv _ _ g.1.1 g.1.2, g.2.mv p.mv⟩, fun α => ⟨fun i H hi g => ?_, fun H g => ⟨vs, SqL.of g.1.1.1, by rw [← g.1.2.len]; exact Nat.le_refl _⟩, fun i H x H' hi g y => ?_⟩⟩
  · have hi' : i < vs.length := by rw [← g.1.2.len]; exact hi
    exact ⟨vs, vs[i], SqL.of g.1.1.1, by simp [hi']⟩
  · obtain ⟨d, h1, h2⟩ := g.1.2.getV (y.2 vs (SqL.of g.1.1.1))
    rw [y.1]
    exact ⟨Same.refl H, d, h1, h2⟩
theorem wk_listK {a : Addr} {ns : List Int} : Wk K mg Z lk (Itl K a) (ns.map D.int) (fun α H => SqL K H a (ns.map V.int) ∧ ((Rd H a (.lst (ns.map V.int)) ∧ ¬ AA Z.Ao α a) ∨ ∀ H', SqL K H' a (ns.map V.int))) := by
  refine ⟨fun α H α' H' p g => ?_, fun α => ⟨fun i H hi g => ?_, fun H g => ⟨_, g.1.1, by simp⟩, fun i H x H' hi g y => ?_⟩⟩
  · rcases g.2 with ⟨h | ⟨o, h⟩, n⟩ | h
    · obtain ⟨h1, h2⟩ := p.mv _ _ h n
      exact ⟨SqL.of h1, .inl ⟨.inl h1, h2⟩⟩
    · obtain ⟨h1, h2⟩ := p.mv _ _ h n
      exact ⟨.inl (.inr ⟨o, h1⟩), .inl ⟨.inr ⟨o, h1⟩, h2⟩⟩
    · exact ⟨h _, .inr h⟩
  · have hi' : i < ns.length := by simpa using hi
    exact ⟨_, .int ns[i], g.1.1, by simp [hi']⟩
  · have hi' : i < ns.length := by simpa using hi
    have := y.2 _ g.1.1
    rw [List.getElem?_map, List.getElem?_eq_getElem hi'] at this
    cases this
    rw [y.1]
    exact ⟨Same.refl H, .int ns[i], by simp [hi'], .int _⟩
theorem wk_tup {a : Addr} {ds : List D} {vs : List V} : Wk K mg Z lk (Itt K a) ds (fun α H => (SqT K H a vs ∧ ((H a = some (.tup vs) ∧ ¬ AA Z.Ao α a) ∨ (∀ H', SqT K H' a vs))) ∧ RepL K mg H (AA Z.Ao α) ds vs) := by
  refine ⟨fun α H α' H' p g => ⟨?_, g.2.mv p.mv⟩, fun α => ⟨fun i H hi g => ?_, fun H g => ⟨vs, g.1.1.1, by rw [← g.1.2.len]; exact Nat.le_refl _⟩, fun i H x H' hi g y => ?_⟩⟩
  · rcases g.1.2 with ⟨h, n⟩ | h
    · obtain ⟨h1, h2⟩ := p.mv _ _ h n
      exact ⟨SqT.of h1, .inl ⟨h1, h2⟩⟩
    · exact ⟨h _, .inr h⟩
  · have hi' : i < vs.length := by rw [← g.1.2.len]; exact hi
    exact ⟨vs, vs[i], g.1.1.1, by simp [hi']⟩
  · obtain ⟨d, h1, h2⟩ := g.1.2.getV (y.2 vs g.1.1.1)
    rw [y.1]
    exact ⟨Same.refl H, d, h1, h2⟩
theorem wk_str {x : Str} : Wk K mg Z lk (Its x) (x.cps.toList.map fun c => D.str ⟨#[c]⟩) (fun _ _ => True) := by
  refine ⟨fun _ _ _ _ _ _ => trivial, fun α => ⟨fun i H hi g => by show i < x.cps.size; simpa using hi, fun H g => by show x.cps.size ≤ _; simp, fun i H v H' hi g y => ?_⟩⟩
  obtain ⟨rfl, c, h, rfl⟩ := y
  exact ⟨Same.refl _, .str ⟨#[c]⟩, by simp [h], .str _⟩
/-- over a value -/
theorem di_seq {f : FE} (h : DE X Z own W e f) : DI X Z own lk W tg e (fSeqOf f) :=
  PI_imp (PI_or (PI_or (pi_list h) (pi_tup h)) (pi_str h)) fun σ H Rr ⟨α, ρ, E, q⟩ => by
    unfold fSeqOf at q
    cases r : f ρ with
    | ok d =>
      rw [r] at q
      cases d with
      | lst ds =>
        refine .inl (.inl ⟨α, ρ, E, ?_⟩)
        rw [r]
        intro v H1 s rv
        cases rv with
        | lst n hv rl => exact ⟨_, rfl, ⟨_, SqL.of hv⟩, q _ H1 _ s wk_list ⟨⟨hv, n⟩, rl⟩⟩
      | scr ns =>
        refine .inl (.inl ⟨α, ρ, E, ?_⟩)
        rw [r]
        intro v H1 s rv
        obtain ⟨a, rfl, hs⟩ := RepT.scr (.inl rv)
        refine ⟨a, rfl, ⟨_, hs⟩, q _ H1 _ s wk_listK ⟨hs, ?_⟩⟩
        cases rv with
        | scr h => exact h
      | tup ds =>
        refine .inl (.inr ⟨α, ρ, E, ?_⟩)
        rw [r]
        intro v H1 s rv
        obtain ⟨a, vs, ea, hs, rl⟩ := RepT.tup (.inl rv)
        cases rv with
        | tup h rl =>
          cases ea
          rcases h with ⟨h, n⟩ | h
          · exact ⟨_, rfl, ⟨_, SqT.of h⟩, q _ H1 _ s wk_tup ⟨⟨SqT.of h, .inl ⟨h, n⟩⟩, rl⟩⟩
          · exact ⟨_, rfl, ⟨_, h _⟩, q _ H1 _ s wk_tup ⟨⟨h _, .inr h⟩, rl⟩⟩
      | str x =>
        refine .inr ⟨α, ρ, E, ?_⟩
        rw [r]
        intro v H1 s rv
        cases rv
        exact ⟨x, rfl, q _ H1 _ s wk_str trivial⟩
      | _ => exact q.elim
    | raise c => rw [r] at q; exact .inl (.inl ⟨α, ρ, E, by rw [r]; exact q⟩)
    | stuck => rw [r] at q; exact q.elim
/-- over the list of a slot of its own, locked while it is walked -/
theorem wk_own {a : Addr} {i : Nat} {ds : List D} {vs : List V} (hl : i ∈ lk) : Wk K mg Z lk (Itl K a) ds (fun α H => (H a = some (.lst vs) ∧ α i = some a) ∧ RepL K mg H (AA Z.Ao α) ds vs) := by
  refine ⟨fun α H α' H' p g => ⟨⟨((p.lock i hl).2 a g.1.2).trans g.1.1, (p.lock i hl).1.trans g.1.2⟩, g.2.mv p.mv⟩, fun α => ⟨fun i H hi g => ?_, fun H g => ⟨vs, SqL.of g.1.1.1, by rw [← g.1.2.len]; exact Nat.le_refl _⟩, fun i H x H' hi g y => ?_⟩⟩
  · have hi' : i < vs.length := by rw [← g.1.2.len]; exact hi
    exact ⟨vs, vs[i], SqL.of g.1.1.1, by simp [hi']⟩
  · obtain ⟨d, h1, h2⟩ := g.1.2.getV (y.2 vs (SqL.of g.1.1.1))
    rw [y.1]
    exact ⟨Same.refl H, d, h1, h2⟩
def fLstOf (i : Nat) : FI := fun ρ => (fVar i ρ).bind asLst
theorem di_own (i : Nat) {x : Str} (hi : i ∈ own := by decide) (hl : i ∈ lk := by decide) (hN : X.N[i]? = some x := by rfl) (hv : Vis X.env.scope x := by first | exact Or.inl rfl | exact Or.inr (Or.inl rfl) | exact Or.inr (Or.inr rfl)) (hd : (x == ("__debug__" : Str)) = false := by decide)
    (hcd : (x == ("__classdict__" : Str)) = false := by decide) : DI X Z own lk W tg (.Name x pos) (fLstOf i) :=
  PI_imp (pi_list (pe_var hN hv hd hcd)) fun σ H Rr ⟨α, ρ, E, q⟩ => by
    have q : RSt X.mg W σ H ((fVar i ρ).bind fun x => (asLst x).bind fun xs => .ok xs) (fun ds => ∀ (J : It) (H1 : Hp) (G : Al → Hp → Prop), Same H H1 → Wk X.K X.mg Z lk J ds G → G α H1 → Rr J H1) := by
      unfold fLstOf at q
      cases r : fVar i ρ with
      | ok d => rw [r] at q; cases d <;> exact q
      | raise c => rw [r] at q; exact q
      | stuck => rw [r] at q; exact q
    obtain ⟨xs, hx, q⟩ := var_lst q
    obtain ⟨l, vs, h1, h2, h3, h4⟩ := E.lstAt hi hx
    exact ⟨.ref l, h2, l, rfl, ⟨vs, SqL.of h3⟩, q _ H _ (Same.refl H) (wk_own hl) ⟨⟨h3, h1⟩, h4⟩⟩
/-! ranges -/
def rngL (lo : Int) (n : Nat) : List D := (List.range n).map fun (k : Nat) => D.int (lo + (k : Int))
def rng1 : List D → R (List D)
  | [.int j] => if -(2 ^ 62) ≤ j ∧ j < 2 ^ 62 then .ok (rngL 0 j.toNat) else .stuck
  | _ => .stuck
def rng2 : List D → R (List D)
  | [.int i, .int j] => if -(2 ^ 62) ≤ i ∧ i < 2 ^ 62 ∧ -(2 ^ 62) ≤ j ∧ j < 2 ^ 62 then .ok (rngL i (j - i).toNat) else .stuck
  | _ => .stuck
def fRng (r : List D → R (List D)) (f : FA) : FI := fun ρ => (f ρ).bind r
theorem wk_range {lo : Int} {n : Nat} : Wk K mg Z lk (Itr lo n) (rngL lo n) (fun _ _ => True) := by
  have hl : (rngL lo n).length = n := by simp [rngL]
  refine ⟨fun _ _ _ _ _ _ => trivial, fun α => ⟨fun i H hi g => by rw [hl] at hi; exact hi, fun H g => by rw [hl]; exact Nat.le_refl n, fun i H v H' hi g y => ?_⟩⟩
  rw [hl] at hi
  rw [y.1, y.2]
  exact ⟨Same.refl _, .int (lo + i), by simp [rngL, hi], .int _⟩
theorem RepTL.one {H : Hp} {A : Addr → Prop} {d : D} {vs : List V} (r : RepTL K mg H A [d] vs) : ∃ v, vs = [v] ∧ RepT K mg H A d v := by
  cases r with
  | cons r t => cases t; exact ⟨_, rfl, r⟩
theorem RepTL.two {H : Hp} {A : Addr → Prop} {d d2 : D} {vs : List V} (r : RepTL K mg H A [d, d2] vs) : ∃ v v2, vs = [v, v2] ∧ RepT K mg H A d v ∧ RepT K mg H A d2 v2 := by
  cases r with
  | cons r t => obtain ⟨v2, rfl, h2⟩ := t.one; exact ⟨_, _, rfl, r, h2⟩
theorem PIlater {α : Al} {Rr : It → Hp → Prop} : ∀ (H H1 : Hp) (ds : List D), Same H H1 → (∀ J H2 G, Same H H2 → Wk K mg Z lk J ds G → G α H2 → Rr J H2) → (∀ J H2 G, Same H1 H2 → Wk K mg Z lk J ds G → G α H2 → Rr J H2) := fun H H1 ds s h J H2 G s' => h J H2 G (s.trans s')
theorem di_range1 {f : FA} (hm : X.mg "range" = none) (ha : DA X Z own W [a] f) (hg : Gl X "range" := by rfl) (hs : starEach [a] X.env = [(false, eval a X.env)] := by rfl) : DI X Z own lk W tg (.Call (.Name "range" p) [a] [] pos) (fRng rng1 f) :=
  PI_imp (pi_range1 hg hm ha.1 hs) fun σ H Rr ⟨α, ρ, E, q⟩ => by
    refine (g_A PIlater E (k := rng1) q).imp fun vs H1 ⟨ds, e1, s1, r1, E1, q1⟩ => ?_
    unfold rng1 at q1
    split at q1
    · obtain ⟨v, rfl, hv⟩ := r1.one
      split at q1
      · rename_i hb
        exact ⟨_, by rw [hv.int], hb.1, hb.2, q1 _ H1 _ (Same.refl H1) wk_range trivial⟩
      · exact q1.elim
    · exact q1.elim
theorem di_range2 {f : FA} (hm : X.mg "range" = none) (ha : DA X Z own W [a, b] f) (hg : Gl X "range" := by rfl) (hs : starEach [a, b] X.env = [(false, eval a X.env), (false, eval b X.env)] := by rfl) (hs2 : starEach [b] X.env = [(false, eval b X.env)] := by rfl) :
    DI X Z own lk W tg (.Call (.Name "range" p) [a, b] [] pos) (fRng rng2 f) :=
  PI_imp (pi_range2 hg hm ha.1 hs hs2) fun σ H Rr ⟨α, ρ, E, q⟩ => by
    refine (g_A PIlater E (k := rng2) q).imp fun vs H1 ⟨ds, e1, s1, r1, E1, q1⟩ => ?_
    unfold rng2 at q1
    split at q1
    · obtain ⟨v, v2, rfl, hv, hv2⟩ := r1.two
      split at q1
      · rename_i hb
        exact ⟨_, _, by rw [hv.int, hv2.int], hb, q1 _ H1 _ (Same.refl H1) wk_range trivial⟩
      · exact q1.elim
    · exact q1.elim
/-! ### for -/
def forF (g : D → Rho → R Rho) (fb : FS) : List D → Rho → RS
  | [], ρ => .nx ρ
  | d :: ds, ρ => toS (g d ρ) ρ fun ρ1 => match fb ρ1 with
    | .nx ρ2 => forF g fb ds ρ2
    | r => r
def fFor (fi : FI) (g : D → Rho → R Rho) (fb : FS) : FS := fun ρ => toS (fi ρ) ρ fun ds => forF g fb ds ρ
def NoRG (g : D → Rho → R Rho) : Prop := ∀ d ρ c, g d ρ ≠ .raise c
theorem NoRG.name (i : Nat) : NoRG (gfName i) := fun d ρ c z => nomatch z
theorem ds_for {iter : Expr} {body : List Stmt} {fi : FI} {g : D → Rho → R Rho} {fb : FS} (lk2 : List Nat) (hp : PassesOwn (model X.prog X.w) X.A X.env X.xe) (hc : X.calm = true) (hi : DI X Z own lk2 W tg iter fi) (hg : DG X Z own ts tg g) (nr : NoRG g) (hb : DSs X Z own lk2 W body fb) (hsub : ∀ i ∈ lk, i ∈ lk2 := by decide)
    (hs : ∀ x, foldedSetIterable iter X.env x = pure x := by intro _; rfl) : DS X Z own lk W (.For tg iter body [] pos) (fFor fi g fb) :=
  PS_imp (ps_for hp hc hi hg hb hs) fun D σ H ⟨α, ρ, E, q⟩ => by
    refine ⟨α, ρ, E, (toS_pd E q).imp fun ds _ q1 J H1 G s1 wk g1 => ?_⟩
    have E1 := E.mono s1
    have q2 := (PD.later H H1 ds s1 q1).2
    -- the invariant: what is left of the items still gives what is wanted
    have key : ∃ W' : Nat → Nat → St → Hp → Prop, (∃ m, W' 0 m σ H1) ∧ ∀ i m σ H, W' i m σ H →
        (J.stop i H ∧ D.nx σ H) ∨ (J.go i H ∧ ∃ N : St → Hp → Prop, (∀ σ' H', N σ' H' → ∃ m', m' < m ∧ W' (i + 1) m' σ' H') ∧ ∀ x H', J.yld i H x H' → tG X.K X.mg Z own ts g x σ H' fun σ2 H2 => tS X.K X.mg Z own lk2 W fb { D with nx := N, ct := N, bk := D.nx } σ2 H2) := by
      refine ⟨fun i m σ H => m = ds.length - i ∧ i ≤ ds.length ∧ ∃ α ρ, EnvR X.K X.mg Z own α ρ σ H ∧ G α H ∧ SSt X.K X.mg Z own lk W α H (forF g fb (ds.drop i) ρ) D, ⟨_, rfl, Nat.zero_le _, α, ρ, E1, g1, by rw [List.drop_zero]; exact q2⟩, ?_⟩
      rintro i m σ H ⟨rfl, hi, α, ρ, E, gg, q⟩
      by_cases hlt : i < ds.length
      · refine .inr ⟨(wk.wk α).goes i H hlt ⟨gg, E.dom⟩, _, fun σ' H' (p : i + 1 ≤ ds.length ∧ ∃ α ρ, EnvR X.K X.mg Z own α ρ σ' H' ∧ G α H' ∧ SSt X.K X.mg Z own lk W α H' (forF g fb (ds.drop (i + 1)) ρ) D) => ⟨ds.length - (i + 1), by omega, rfl, p.1, p.2⟩, fun x H' y => ?_⟩
        obtain ⟨s2, d, hd, rd⟩ := (wk.wk α).yields i H x H' hlt ⟨gg, E.dom⟩ y
        have ed : ds.drop i = d :: ds.drop (i + 1) := by
          rw [List.drop_eq_getElem_cons hlt]
          rw [List.getElem?_eq_getElem hlt] at hd
          cases hd; rfl
        rw [ed] at q
        unfold forF at q
        have E2 := E.mono s2
        have q := SSt.later (E.post (lk := lk) s2) q
        cases hg : g d ρ with
        | ok ρ1 =>
          rw [hg] at q
          refine ⟨α, ρ, d, E2, rd, ρ1, hg, fun σ3 H3 E3 s3 _ _ => ⟨α, ρ1, E3, ?_⟩⟩
          have q := SSt.later (E2.post (lk := lk) s3) q
          have g3 : G α H3 := wk.st _ _ _ _ (E2.post s3) (wk.st _ _ _ _ (E.post s2) gg)
          have q : SSt X.K X.mg Z own lk W α H3 (match fb ρ1 with | .nx ρ2 => forF g fb (ds.drop (i + 1)) ρ2 | r => r) D := q
          cases hb : fb ρ1 with
          | nx ρ2 => rw [hb] at q; exact fun α4 σ4 H4 E4 p4 => ⟨hlt, α4, ρ2, E4, wk.st _ _ _ _ p4 g3, q.later (p4.mono hsub)⟩
          | rt d => rw [hb] at q; exact q
          | raise c ρ2 => rw [hb] at q; exact fun C α4 σ4 H4 gC E4 p4 => q C α4 σ4 H4 gC E4 (p4.mono hsub)
          | stuck => rw [hb] at q; exact q
        | raise c => exact absurd hg (nr _ _ _)
        | stuck => rw [hg] at q; exact q.elim
      · have e : i = ds.length := by omega
        subst e
        rw [List.drop_length] at q
        exact .inl ⟨(wk.wk α).stops H ⟨gg, E.dom⟩, q α σ H E .refl⟩
    exact key
/-! ### while -/
def whileN (fc : FT) (fb : FS) : Nat → Rho → RS
  | 0, _ => .stuck
  | n + 1, ρ => toS (fc ρ) ρ fun k => if k = true then (match fb ρ with
    | .nx ρ' => whileN fc fb n ρ'
    | r => r) else .nx ρ
open Classical in
noncomputable def fWhile (fc : FT) (fb : FS) : FS := fun ρ => if h : ∃ n, whileN fc fb n ρ ≠ .stuck then whileN fc fb h.choose ρ else .stuck
theorem whileN_mono {fc : FT} {fb : FS} : ∀ {n : Nat} {ρ : Rho} {r : RS}, whileN fc fb n ρ = r → r ≠ .stuck → whileN fc fb (n + 1) ρ = r
  | 0, ρ, r, e, h => absurd e.symm h
  | n + 1, ρ, r, e, h => by
    unfold whileN at e ⊢
    cases hc : fc ρ with
    | ok k =>
      rw [hc] at e
      cases k with
      | true =>
        simp only [toS, if_pos] at e ⊢
        cases hb : fb ρ with
        | nx ρ' => rw [hb] at e; exact whileN_mono e h
        | rt d => rw [hb] at e; exact e
        | raise c ρ' => rw [hb] at e; exact e
        | stuck => rw [hb] at e; exact e
      | false => exact e
    | raise c => rw [hc] at e; exact e
    | stuck => rw [hc] at e; exact e
theorem whileN_le {fc : FT} {fb : FS} {n m : Nat} {ρ : Rho} {r : RS} (e : whileN fc fb n ρ = r) (h : r ≠ .stuck) (l : n ≤ m) : whileN fc fb m ρ = r := by
  induction m with
  | zero => cases Nat.le_zero.mp l; exact e
  | succ m ih =>
    by_cases q : n = m + 1
    · rw [← q]; exact e
    · exact whileN_mono (ih (by omega)) h
theorem fWhile_of {fc : FT} {fb : FS} {n : Nat} {ρ : Rho} {r : RS} (e : whileN fc fb n ρ = r) (h : r ≠ .stuck) : fWhile fc fb ρ = r := by
  have ex : ∃ n, whileN fc fb n ρ ≠ .stuck := ⟨n, by rw [e]; exact h⟩
  unfold fWhile
  rw [dif_pos ex]
  by_cases l : n ≤ ex.choose
  · exact whileN_le e h l
  · have := whileN_le (m := n) rfl ex.choose_spec (by omega)
    rw [← this]; exact e
theorem fWhile_ex {fc : FT} {fb : FS} {ρ : Rho} {r : RS} (e : fWhile fc fb ρ = r) (h : r ≠ .stuck) : ∃ n, whileN fc fb n ρ = r := by
  unfold fWhile at e
  split at e
  · exact ⟨_, e⟩
  · exact absurd e.symm h
theorem fWhile_eq {fc : FT} {fb : FS} {ρ : Rho} : fWhile fc fb ρ = toS (fc ρ) ρ fun k => if k = true then (match fb ρ with
    | .nx ρ' => fWhile fc fb ρ'
    | r => r) else .nx ρ := by
  by_cases h : ∃ n, whileN fc fb n ρ ≠ .stuck
  · obtain ⟨n, hn⟩ := h
    have e := fWhile_of (n := n) rfl hn
    rw [e]
    cases n with
    | zero => exact absurd rfl hn
    | succ n =>
      unfold whileN at hn ⊢
      cases hc : fc ρ with
      | ok k =>
        rw [hc] at hn
        cases k with
        | true =>
          simp only [toS, if_pos] at hn ⊢
          cases hb : fb ρ with
          | nx ρ' => rw [hb] at hn; exact (fWhile_of (n := n) rfl hn).symm
          | _ => rfl
        | false => rfl
      | raise c => rfl
      | stuck => rfl
  · have e : fWhile fc fb ρ = .stuck := by unfold fWhile; rw [dif_neg h]
    rw [e]
    cases hc : fc ρ with
    | ok k =>
      cases k with
      | true =>
        simp only [toS, if_pos]
        cases hb : fb ρ with
        | nx ρ' =>
          by_cases h2 : fWhile fc fb ρ' = .stuck
          · exact h2.symm
          · obtain ⟨n, hn⟩ := fWhile_ex rfl h2
            exact absurd ⟨n + 1, by unfold whileN; rw [hc]; simp only [toS, if_pos, hb]; rw [hn]; exact h2⟩ h
        | rt d => exact absurd ⟨1, by unfold whileN; rw [hc]; simp only [toS, if_pos, hb]; exact fun z => nomatch z⟩ h
        | raise c ρ' => exact absurd ⟨1, by unfold whileN; rw [hc]; simp only [toS, if_pos, hb]; exact fun z => nomatch z⟩ h
        | stuck => rfl
      | false => exact absurd ⟨1, by unfold whileN; rw [hc]; simp only [toS]; exact fun z => nomatch z⟩ h
    | raise c => exact absurd ⟨1, by unfold whileN; rw [hc]; exact fun z => nomatch z⟩ h
    | stuck => rfl
theorem ds_while {c : Expr} {body : List Stmt} {fc : FT} {fb : FS} (hp : PassesOwn (model X.prog X.w) X.A X.env X.xe) (hc : DT X Z own W c fc) (hb : DSs X Z own lk W body fb) : DS X Z own lk W (.While c body [] pos) (fWhile fc fb) :=
  PS_imp (ps_while hp hc hb) fun D σ H ⟨α, ρ, E, q⟩ => by
    have q0 : fWhile fc fb ρ ≠ .stuck := fun z => by rw [z] at q; exact q
    obtain ⟨n, hn⟩ := fWhile_ex rfl q0
    refine ⟨fun m σ H => ∃ α ρ, EnvR X.K X.mg Z own α ρ σ H ∧ SSt X.K X.mg Z own lk W α H (whileN fc fb m ρ) D, ⟨n, α, ρ, E, by rw [hn]; exact q⟩, ?_⟩
    rintro m σ H ⟨α, ρ, E, q⟩
    cases m with
    | zero => exact q.elim
    | succ m =>
      unfold whileN at q
      refine (g_T PD.later E (k := fun k => R.ok k) (P := PD X.K X.mg Z own lk W α (fun k => if k = true then (match fb ρ with | .nx ρ' => whileN fc fb m ρ' | r => r) else .nx ρ) D) (by have := toS_pd E q; cases r : fc ρ <;> rw [r] at this <;> exact this)).imp fun k H1 ⟨s1, E1, q1⟩ => ?_
      have q1 := (show PD X.K X.mg Z own lk W α (fun k => if k = true then (match fb ρ with | .nx ρ' => whileN fc fb m ρ' | r => r) else .nx ρ) D H1 k from q1).2
      cases k with
      | true =>
        rw [if_pos rfl]
        simp only [if_pos] at q1
        refine ⟨fun σ' H' => ∃ α ρ, EnvR X.K X.mg Z own α ρ σ' H' ∧ SSt X.K X.mg Z own lk W α H' (whileN fc fb m ρ) D, fun σ' H' z => ⟨m, Nat.lt_succ_self m, z⟩, α, ρ, E1, ?_⟩
        cases hb : fb ρ with
        | nx ρ' => rw [hb] at q1; exact fun α' σ' H' E' p => ⟨α', ρ', E', q1.later p⟩
        | rt d => rw [hb] at q1; exact q1
        | raise c ρ' => rw [hb] at q1; exact q1
        | stuck => rw [hb] at q1; exact q1
      | false =>
        rw [if_neg Bool.false_ne_true]
        exact q1 α σ H1 E1 .refl
end
end Sh

namespace Sh
open PySem PySem.Spec PyProof.Rows L2
/-! ### comprehensions -/
def wipeD (ρ : Rho) : List Nat → Rho
  | [] => ρ
  | v :: vs => (wipeD ρ vs).set v none
abbrev WF : WX := fun _ _ _ _ => False
section
variable {K : PySem.W.Frag} {mg : Str → Option Value} {Z : Fx} {own lk : List Nat} {α : Al} {ρ : Rho} {σ : St} {H H' : Hp}
theorem EnvR.wipe1 (E : EnvR K mg Z own α ρ σ H) (i : Nat) : EnvR K mg Z own α (ρ.set i none) (σ.set i none) H := by
  have sub : ∀ j (d : D), (ρ.set i none)[j]? = some (some d) → ρ[j]? = some (some d) ∧ i ≠ j := fun j d e => by
    by_cases hj : i = j
    · subst hj
      by_cases hl : i < ρ.length
      · rw [List.getElem?_set_self hl] at e; cases e
      · rw [List.getElem?_eq_none (by simpa using hl)] at e; cases e
    · rw [List.getElem?_set_ne hj] at e
      exact ⟨e, hj⟩
  refine ⟨by rw [List.length_set, List.length_set]; exact E.len, E.same, fun j d e c => ?_, fun j d e c b => ?_, E.dom, E.new, E.inj, E.out, E.fin⟩
  · obtain ⟨e1, n⟩ := sub j d e
    rw [List.getElem?_set_ne n]
    exact E.sh j d e1 c
  · obtain ⟨e1, n⟩ := sub j d e
    rw [List.getElem?_set_ne n]
    exact E.ow j d e1 c b
theorem EnvR.wipe (E : EnvR K mg Z own α ρ σ H) : ∀ vs : List Nat, EnvR K mg Z own α (wipeD ρ vs) (L2.wipe σ vs) H
  | [] => E
  | v :: vs => (E.wipe vs).wipe1 v
theorem wipe_same {σ σ' : St} (hl : σ'.length = σ.length) : ∀ {vs : List Nat}, (∀ j, j ∉ vs → σ'[j]? = σ[j]?) → L2.wipe σ' vs = L2.wipe σ vs := by
  intro vs k
  apply List.ext_getElem?
  intro j
  by_cases hj : j ∈ vs
  · have z : ∀ τ : St, ∀ vs : List Nat, j ∈ vs → (L2.wipe τ vs)[j]? = if j < τ.length then some none else none := by
      intro τ vs
      induction vs with
      | nil => intro h; cases h
      | cons v vs ih =>
        intro h
        unfold L2.wipe
        by_cases hv : v = j
        · subst hv
          by_cases hlt : v < τ.length
          · rw [List.getElem?_set_self (by rw [wipe_length]; exact hlt), if_pos hlt]
          · rw [List.getElem?_eq_none (by rw [List.length_set, wipe_length]; omega), if_neg hlt]
        · rw [List.getElem?_set_ne hv]
          exact ih ((List.mem_cons.mp h).resolve_left (Ne.symm hv))
    rw [z σ' vs hj, z σ vs hj, hl]
  · rw [wipe_out hj, wipe_out hj]
    exact k j hj
end
/-- the list that is being made, as a slot's own that there is not -/
theorem EnvR.virt {K : PySem.W.Frag} {mg : Str → Option Value} {Z : Fx} {own : List Nat} {α : Al} {ρ : Rho} {σ : St} {H : Hp} {D : Addr} (E : EnvR K mg Z own α ρ σ H) (hD : H D = none) :
    ∃ α' : Al, (∀ b, AA Z.Ao α' b ↔ AA Z.Ao α b ∨ b = D) ∧ EnvR K mg Z own α' ρ σ (upd H D (.lst [])) ∧ Mv (AA Z.Ao α) H (AA Z.Ao α') (upd H D (.lst [])) ∧ ∀ H', EnvR K mg Z own α' ρ σ H' → ∀ xs, EnvR K mg Z own α' ρ σ (upd H' D (.lst xs)) := by
  obtain ⟨n, hn⟩ := E.fin
  have hA : ∀ b, AA Z.Ao (setA α (n + ρ.length) D) b ↔ AA Z.Ao α b ∨ b = D := fun b => by
    constructor
    · rintro (h | ⟨j, h⟩)
      · exact .inl (.inl h)
      · by_cases hj : j = n + ρ.length
        · rw [hj, setA_same] at h; cases h; exact .inr rfl
        · rw [setA_ne hj] at h; exact .inl (.inr ⟨j, h⟩)
    · rintro ((h | ⟨j, h⟩) | h)
      · exact .inl h
      · exact .inr ⟨j, by rw [setA_ne (by intro z; rw [z, hn _ (by omega)] at h; cases h)]; exact h⟩
      · rw [h]; exact .inr ⟨_, setA_same⟩
  have M : Mv (AA Z.Ao α) H (AA Z.Ao (setA α (n + ρ.length) D)) (upd H D (.lst [])) := fun b o h nb => ⟨by rw [upd_ne (ne_of_none h hD)]; exact h, fun z => ((hA b).mp z).elim nb (ne_of_none h hD)⟩
  have s := Same.new hD (o := .lst [])
  refine ⟨setA α (n + ρ.length) D, hA, ⟨E.len, E.same.trans s, fun i d e c => ?_, fun i d e c b => ?_, fun b h => ?_, fun i a h => ?_, fun i j a h1 h2 => ?_, E.out, n + ρ.length + 1, fun i hi => ?_⟩, M, fun H' E' xs => ?_⟩
  · obtain ⟨v, h1, h2⟩ := E.sh i d e c
    exact ⟨v, h1, h2.mv M⟩
  · obtain ⟨a, h1, h2, h3⟩ := E.ow i d e c b
    have hl := (List.getElem?_eq_some_iff.mp e).1
    exact ⟨a, by rw [setA_ne (by omega)]; exact h1, h2, h3.mv M fun o h => s _ _ h⟩
  · rcases (hA b).mp h with h | h
    · obtain ⟨o, q⟩ := E.dom b h; exact ⟨o, s _ _ q⟩
    · rw [h]; exact ⟨_, upd_same⟩
  · by_cases hj : i = n + ρ.length
    · rw [hj, setA_same] at h; cases h; exact E.same.free hD
    · rw [setA_ne hj] at h; exact E.new i a h
  · by_cases hi : i = n + ρ.length
    · by_cases hj : j = n + ρ.length
      · rw [hi, hj]
      · rw [hi, setA_same] at h1; cases h1
        rw [setA_ne hj] at h2
        obtain ⟨o, q⟩ := E.dom D (.inr ⟨j, h2⟩)
        rw [hD] at q; cases q
    · by_cases hj : j = n + ρ.length
      · rw [hj, setA_same] at h2; cases h2
        rw [setA_ne hi] at h1
        obtain ⟨o, q⟩ := E.dom D (.inr ⟨i, h1⟩)
        rw [hD] at q; cases q
      · rw [setA_ne hi] at h1; rw [setA_ne hj] at h2
        exact E.inj i j a h1 h2
  · rw [setA_ne (by omega)]; exact hn i (by omega)
  · have aD : AA Z.Ao (setA α (n + ρ.length) D) D := (hA D).mpr (.inr rfl)
    have M' : Mv (AA Z.Ao (setA α (n + ρ.length) D)) H' (AA Z.Ao (setA α (n + ρ.length) D)) (upd H' D (.lst xs)) := fun b o h nb => ⟨by rw [upd_ne (by intro z; rw [z] at nb; exact nb aD)]; exact h, nb⟩
    have n0 : Z.H0 D = none := E'.new (n + ρ.length) D setA_same
    refine ⟨E'.len, fun b o h => ?_, fun i d e c => ?_, fun i d e c b => ?_, fun b h => ?_, E'.new, E'.inj, E'.out, E'.fin⟩
    · rw [upd_ne (ne_of_none h n0)]; exact E'.same b o h
    · obtain ⟨v, h1, h2⟩ := E'.sh i d e c
      exact ⟨v, h1, h2.mv M'⟩
    · obtain ⟨a, h1, h2, h3⟩ := E'.ow i d e c b
      have hl := (List.getElem?_eq_some_iff.mp e).1
      have na : a ≠ D := by
        intro z
        rw [z] at h1
        have := E'.inj i (n + ρ.length) D h1 setA_same
        omega
      exact ⟨a, h1, h2, h3.mv M' fun o h => by rw [upd_ne na]; exact h⟩
    · by_cases hb : b = D
      · rw [hb]; exact ⟨_, upd_same⟩
      · rw [upd_ne hb]; exact E'.dom b h
/-- a turn -/
def lcStep (g : D → Rho → R Rho) (ft : FT) (fe : FE) (ρ : Rho) (d : D) : R (Option D) := (g d ρ).bind fun ρ1 => (ft ρ1).bind fun k => if k = true then (fe ρ1).bind fun y => .ok (some y) else .ok none
def lcF (step : D → R (Option D)) : List D → R (List D)
  | [] => .ok []
  | d :: ds => match step d with
    | .ok o => match lcF step ds with
      | .ok ys => .ok (o.toList ++ ys)
      | _ => .stuck
    | _ => .stuck
def fLc (fi : FI) (g : D → Rho → R Rho) (ft : FT) (fe : FE) (vs : List Nat) : FE := fun ρ => (fi ρ).bind fun ds => if ds.length ≤ 16777216 then (lcF (lcStep g ft fe (wipeD ρ vs)) ds).bind fun ys => .ok (.lst ys) else .stuck
def DTs (X : Cx) (Z : Fx) (own : List Nat) (W : WX) (ifs : List Expr) (f : FT) : Prop := PTs X ifs (tT X.K X.mg Z own W f)
def fYes : FT := fun _ => .ok true
theorem PTs_imp {X : Cx} {e : List Expr} {t t' : TT} (h : PTs X e t) (i : ∀ σ H Q, t' σ H Q → t σ H Q) : PTs X e t' := ⟨fun pins s σ H Q I w => h.run pins s σ H Q I (i σ H Q w)⟩
section
variable {X : Cx} {Z : Fx} {own lk : List Nat} {W : WX} {e tg a b : Expr} {es : List Expr} {pos p : Pos} {K : PySem.W.Frag} {mg : Str → Option Value}
theorem dts_nil : DTs X Z own W [] fYes := PTs_imp pts_nil fun σ H Q ⟨α, ρ, E, q⟩ => q H (Same.refl H)
theorem dts_one {f : FT} (h : DT X Z own W e f) : DTs X Z own W [e] f := pts_one h
theorem lcF_ok {step : D → R (Option D)} {d : D} {ds ys : List D} (e : lcF step (d :: ds) = .ok ys) : ∃ o r, step d = .ok o ∧ lcF step ds = .ok r ∧ ys = o.toList ++ r := by
  unfold lcF at e
  cases h : step d with
  | ok o =>
    rw [h] at e
    cases h2 : lcF step ds with
    | ok r => simp only [h2] at e; cases e; exact ⟨o, r, rfl, rfl, rfl⟩
    | raise c => simp only [h2] at e; cases e
    | stuck => simp only [h2] at e; cases e
  | raise c => rw [h] at e; cases e
  | stuck => rw [h] at e; cases e
theorem lcF_nr {step : D → R (Option D)} : ∀ {ds : List D} {c : Str}, lcF step ds ≠ .raise c
  | [], _, z => nomatch z
  | d :: ds, c, z => by
    unfold lcF at z
    split at z
    · split at z <;> cases z
    · cases z
/-- the loop of a comprehension -/
theorem tLc_of {iter elt : Expr} {fi : FI} {g : D → Rho → R Rho} {ft : FT} {fe : FE} {vs ts : List Nat} (hd : ∀ j ∈ ts, j ∈ vs) {σ : St} {H : Hp} {Q : VK} (h : tF K mg Z own W (fLc fi g ft fe vs) σ H Q) :
    tLc (tI K mg Z own [] W fi) (tG K mg Z own ts g) (tT K mg Z own WF ft) (tE K mg Z own WF fe) vs σ H Q := by
  obtain ⟨α, ρ, E, q⟩ := h
  unfold fLc at q
  refine ⟨α, ρ, E, ?_⟩
  cases hi : fi ρ with
  | raise c => rw [hi] at q; exact q
  | stuck => rw [hi] at q; exact q
  | ok ds =>
    rw [hi] at q
    intro J H1 G s1 wk g1 D hD
    by_cases hsz : ds.length ≤ 16777216
    · have q : ESt mg W (fun d Q => FQ K mg (AA Z.Ao α) H d Q) σ H ((lcF (lcStep g ft fe (wipeD ρ vs)) ds).bind fun ys => .ok (.lst ys)) Q := by
        have : ESt mg W (fun d Q => FQ K mg (AA Z.Ao α) H d Q) σ H (if ds.length ≤ 16777216 then (lcF (lcStep g ft fe (wipeD ρ vs)) ds).bind fun ys => .ok (.lst ys) else .stuck) Q := q
        rw [if_pos hsz] at this
        exact this
      cases hl : lcF (lcStep g ft fe (wipeD ρ vs)) ds with
      | raise c => exact absurd hl lcF_nr
      | stuck => rw [hl] at q; exact q.elim
      | ok all =>
        rw [hl] at q
        have q : FQ K mg (AA Z.Ao α) H (.lst all) Q := q
        have E1 := E.mono s1
        obtain ⟨α', hA, E1', M1, vu⟩ := E1.virt hD
        have gA : G α' (upd H1 D (.lst [])) := wk.st α H1 α' _ ⟨M1, fun _ z => nomatch z⟩ g1
        -- behind i turns: what is made so far, and what the rest makes
        refine lc_it (wk.wk α') (fun i Hh => i ≤ ds.length ∧ ∃ (acc : List V) (da rest : List Sh.D), EnvR K mg Z own α' ρ σ Hh ∧ Same H1 Hh ∧ G α' Hh ∧ Hh D = some (.lst acc) ∧ RepL K mg Hh (AA Z.Ao α') da acc ∧ acc.length ≤ i ∧ lcF (lcStep g ft fe (wipeD ρ vs)) (ds.drop i) = .ok rest ∧ all = da ++ rest) ?_ ?_ ?_ ?_
        · exact ⟨Nat.zero_le _, [], [], all, E1', Same.new hD, gA, upd_same, .nil, Nat.zero_le _, by rw [List.drop_zero]; exact hl, rfl⟩
        · rintro i Hh - ⟨_, acc, da, rest, E2, _, gg, _⟩
          exact ⟨gg, E2.dom⟩
        · rintro i x Hh Hy hlt ⟨_, acc, da, rest, E2, s2, gg, hDl, ra, hla, hr, rfl⟩ ⟨s4, d, hd', rd⟩
          have ed : ds.drop i = d :: ds.drop (i + 1) := by
            rw [List.drop_eq_getElem_cons hlt]
            rw [List.getElem?_eq_getElem hlt] at hd'
            cases hd'; rfl
          rw [ed] at hr
          obtain ⟨o, r, hs, hr2, rfl⟩ := lcF_ok hr
          have E2y := E2.mono s4
          have E3 := E2y.wipe vs
          unfold lcStep at hs
          cases hg : g d (wipeD ρ vs) with
          | raise c => rw [hg] at hs; cases hs
          | stuck => rw [hg] at hs; cases hs
          | ok ρ1 =>
            rw [hg] at hs
            refine ⟨α', wipeD ρ vs, d, E3, rd, ρ1, hg, fun σ5 H5 E5 s5 l5 k5 => ⟨wipe_same (l5.trans (wipe_length σ vs)) fun j hj => ?_, α', ρ1, E5, ?_⟩⟩
            · rw [k5 j (fun z => hj (hd j z))]
              exact wipe_out hj
            · have hs : ((ft ρ1).bind fun k => if k = true then (fe ρ1).bind fun y => R.ok (some y) else R.ok none) = .ok o := hs
              cases ht : ft ρ1 with
              | raise c => rw [ht] at hs; cases hs
              | stuck => rw [ht] at hs; cases hs
              | ok k =>
                rw [ht] at hs
                intro H6 s6
                have s46 := s4.trans (s5.trans s6)
                cases k with
                | false =>
                  simp only [R.bind] at hs
                  cases hs
                  rw [if_neg Bool.false_ne_true]
                  exact ⟨hlt, acc, da, r, E2.mono s46, s2.trans s46, wk.st _ _ _ _ (E2.post s46) gg, s46 _ _ hDl, ra.same s46, Nat.le_succ_of_le hla, hr2, rfl⟩
                | true =>
                  simp only [R.bind] at hs
                  rw [if_pos rfl]
                  have hs : ((fe ρ1).bind fun y => R.ok (some y)) = .ok o := hs
                  cases hy : fe ρ1 with
                  | raise c => rw [hy] at hs; cases hs
                  | stuck => rw [hy] at hs; cases hs
                  | ok y =>
                    rw [hy] at hs
                    cases hs
                    refine ⟨α', ρ1, E5.mono s6, ?_⟩
                    rw [hy]
                    intro v H7 s7 r7
                    have s47 := s46.trans s7
                    refine ⟨acc, s47 _ _ hDl, by rw [sl_eq]; omega, ?_⟩
                    have aD : AA Z.Ao α' D := (hA D).mpr (.inr rfl)
                    have M7 : Mv (AA Z.Ao α') H7 (AA Z.Ao α') (upd H7 D (.lst (acc ++ [v]))) := fun b x hb nb => ⟨by rw [upd_ne (by intro z; rw [z] at nb; exact nb aD)]; exact hb, nb⟩
                    refine ⟨hlt, acc ++ [v], da ++ [y], r, vu _ (E2.mono s47) _, fun b x hb => ?_, wk.st _ _ _ _ ⟨M7, fun _ z => nomatch z⟩ (wk.st _ _ _ _ (E2.post s47) gg), upd_same, ((ra.same s47).append (.cons r7 .nil)).mv M7, by rw [List.length_append]; exact Nat.succ_le_succ hla, hr2, by rw [List.append_assoc]; rfl⟩
                    rw [upd_ne (ne_of_none hb hD)]
                    exact s47 _ _ (s2 _ _ hb)
        · rintro Hh ⟨_, acc, da, rest, E2, s2, gg, hDl, ra, hla, hr, rfl⟩
          rw [List.drop_length] at hr
          cases hr
          rw [List.append_nil] at q
          refine q.new (s1.trans s2) ((s1).free hD) ⟨acc, hDl, ra.mv fun b o hb nb => ⟨hb, fun z => nb ((hA b).mpr z)⟩⟩
    · have : ESt mg W (fun d Q => FQ K mg (AA Z.Ao α) H d Q) σ H (if ds.length ≤ 16777216 then (lcF (lcStep g ft fe (wipeD ρ vs)) ds).bind fun ys => .ok (.lst ys) else .stuck) Q := q
      rw [if_neg hsz] at this
      exact this.elim
end
end Sh

namespace Sh
open PySem PySem.Spec PyProof.Rows L2
section
variable {X : Cx} {Z : Fx} {own lk : List Nat} {W : WX} {e tg a b : Expr} {es : List Expr} {pos p : Pos} {K : PySem.W.Frag} {mg : Str → Option Value}
/-- [elt for tg in iter if ..] -/
theorem d_lc {iter elt : Expr} {ifs : List Expr} {scope : Scope} (ownp : List (Str × Nat)) {fi : FI} {g : D → Rho → R Rho} {ft : FT} {fe : FE} {ts : List Nat} (hc : X.calm = true) (hN : X.N.Nodup) (hi : DI X Z own [] W tg iter fi) (ok : BlkOk X.N X.env.scope scope ownp)
    (hg : ∀ (s : Shared) (H : Hp) (C : Addr) (cl : List (Str × Addr)) (fp : List Addr), DG (X.blk s H scope (compEnvC scope cl C X.env) fp) Z own ts tg g) (ht : ∀ (s : Shared) (H : Hp) (C : Addr) (cl : List (Str × Addr)) (fp : List Addr), DTs (X.blk s H scope (compEnvC scope cl C X.env) fp) Z own WF ifs ft)
    (he : ∀ (s : Shared) (H : Hp) (C : Addr) (cl : List (Str × Addr)) (fp : List Addr), DE (X.blk s H scope (compEnvC scope cl C X.env) fp) Z own WF elt fe) (hd : ∀ j ∈ ts, j ∈ ownp.map (·.2) := by decide) (hs : ∀ x, foldedSetIterable iter X.env x = pure x := by intro _; rfl) :
    DF X Z own W (.ListComp elt [⟨tg, iter, ifs, 0⟩] scope pos) (fLc fi g ft fe (ownp.map (·.2))) :=
  PE_imp (pe_lc (g := tG X.K X.mg Z own ts g) (tt := tT X.K X.mg Z own WF ft) (te := tE X.K X.mg Z own WF fe) hc hN hi ok hg ht he hs) fun σ H Q h => tLc_of (iter := iter) (elt := elt) hd h
/-- name = [..] -/
theorem ds_setLc {iter elt : Expr} {ifs : List Expr} {scope : Scope} (i : Nat) (ownp : List (Str × Nat)) {fi : FI} {g : D → Rho → R Rho} {ft : FT} {fe : FE} {ts : List Nat} {y : Str} {py spos : Pos} (hc : X.calm = true) (hN : X.N.Nodup) (hsw : swapsWith (.ListComp elt [⟨tg, iter, ifs, 0⟩] scope pos) (some (.Name y py)) spos.line X.env = pure true) (hi : DI X Z own [] W tg iter fi) (ok : BlkOk X.N X.env.scope scope ownp)
    (hg : ∀ (s : Shared) (H : Hp) (C : Addr) (cl : List (Str × Addr)) (fp : List Addr), DG (X.blk s H scope (compEnvC scope cl C X.env) fp) Z own ts tg g) (ht : ∀ (s : Shared) (H : Hp) (C : Addr) (cl : List (Str × Addr)) (fp : List Addr), DTs (X.blk s H scope (compEnvC scope cl C X.env) fp) Z own WF ifs ft)
    (he : ∀ (s : Shared) (H : Hp) (C : Addr) (cl : List (Str × Addr)) (fp : List Addr), DE (X.blk s H scope (compEnvC scope cl C X.env) fp) Z own WF elt fe) (hio : i ∉ own := by decide) (hy : X.N[i]? = some y := by rfl) (hyl : X.env.scope.names.lookup y = some .local := by rfl) (hd : ∀ j ∈ ts, j ∈ ownp.map (·.2) := by decide) (hs : ∀ x, foldedSetIterable iter X.env x = pure x := by intro _; rfl) :
    DS X Z own lk W (.Assign [.Name y py] (.ListComp elt [⟨tg, iter, ifs, 0⟩] scope pos) spos) (fSet i (fLc fi g ft fe (ownp.map (·.2)))) :=
  PS_imp (ps_setLc (g := tG X.K X.mg Z own ts g) (tt := tT X.K X.mg Z own WF ft) (te := tE X.K X.mg Z own WF fe) hc hN hy hyl hsw hi ok hg ht he hs) fun D σ H h => by
    obtain ⟨α, ρ, E, q⟩ := h
    refine tLc_of (iter := iter) (elt := elt) (W := W) hd ⟨α, ρ, E, RSt.e ((toS_g E q).imp fun d _ q => ?_)⟩
    exact FQ.of (fun p n => E.nA n) fun v H1 s r => q α _ H1 ((E.mono s).setSh (.inl hio) r) (E.post s)
theorem ds_setLcO {iter elt : Expr} {ifs : List Expr} {scope : Scope} (i : Nat) (ownp : List (Str × Nat)) {fi : FI} {g : D → Rho → R Rho} {ft : FT} {fe : FE} {ts : List Nat} {y : Str} {py spos : Pos} (hc : X.calm = true) (hN : X.N.Nodup) (hsw : swapsWith (.ListComp elt [⟨tg, iter, ifs, 0⟩] scope pos) (some (.Name y py)) spos.line X.env = pure true) (hi : DI X Z own [] W tg iter fi) (ok : BlkOk X.N X.env.scope scope ownp)
    (hg : ∀ (s : Shared) (H : Hp) (C : Addr) (cl : List (Str × Addr)) (fp : List Addr), DG (X.blk s H scope (compEnvC scope cl C X.env) fp) Z own ts tg g) (ht : ∀ (s : Shared) (H : Hp) (C : Addr) (cl : List (Str × Addr)) (fp : List Addr), DTs (X.blk s H scope (compEnvC scope cl C X.env) fp) Z own WF ifs ft)
    (he : ∀ (s : Shared) (H : Hp) (C : Addr) (cl : List (Str × Addr)) (fp : List Addr), DE (X.blk s H scope (compEnvC scope cl C X.env) fp) Z own WF elt fe) (hio : i ∈ own := by decide) (hl : i ∉ lk := by decide) (hy : X.N[i]? = some y := by rfl) (hyl : X.env.scope.names.lookup y = some .local := by rfl) (hd : ∀ j ∈ ts, j ∈ ownp.map (·.2) := by decide) (hs : ∀ x, foldedSetIterable iter X.env x = pure x := by intro _; rfl) :
    DS X Z own lk W (.Assign [.Name y py] (.ListComp elt [⟨tg, iter, ifs, 0⟩] scope pos) spos) (fSet i (fLc fi g ft fe (ownp.map (·.2)))) :=
  PS_imp (ps_setLc (g := tG X.K X.mg Z own ts g) (tt := tT X.K X.mg Z own WF ft) (te := tE X.K X.mg Z own WF fe) hc hN hy hyl hsw hi ok hg ht he hs) fun D σ H h => by
    obtain ⟨α, ρ, E, q⟩ := set_ow hio hl h
    exact tLc_of (iter := iter) (elt := elt) (W := W) hd ⟨α, ρ, E, q⟩
end
/-! ### raise -/
section
variable {X : Cx} {Z : Fx} {own lk : List Nat} {W : WX}
theorem pmk_own0 {C : Addr} {bmB : List Value} {B newId initId : String} {x : Str} {p pos : Pos} (F : ExcBaseFacts B newId initId bmB) (q : PySem.W.excIn X.K C bmB newId = true) (gC : X.mg x = some (.ref C)) (kC : PySem.W.keepIn X.K (.ref C) = true) (r : Raises X (.ref C)) (hg : Gl X x) (hdb : (x == ("__debug__" : Str)) = false := by decide) :
    L2N.PMk X (.Call (.Name x p) [] [] pos) (fun _ H Q => Q (.ref C) none H) := by
  intro pins s σ H Q I h
  have go : wpAny (model X.prog X.w) X.A (call (.ref C) ([] : List Value)) (L2N.MkP X pins σ Q) X.xe s := by
    obtain ⟨bm, N, nm, qn, bs, hdct, sn, sub, ab, col, dd, k0, k1, k2, k3, k5, mN, hC, hN, hni, T⟩ := exc_obj I.kIn q
    exact wpAny_call_exc_subT F T hC hN hni (fun h' e hm => L2N.mk_of I hm r h (I.hok.gone hm.new)) (Nat.zero_le _)
  exact wpAny_Call_Name_kw (ld_glob I hg gC (PySem.W.callWith_K0 I.kIn kC go) hdb)
/-- what is known of an exception's class -/
structure ExcK (K : PySem.W.Frag) (mg : Str → Option Value) (x : Str) : Prop where
  ex : ∃ C : Addr, mg x = some (.ref C) ∧ PySem.W.excIn K C [.type "ValueError", .type "Exception", .type "BaseException", .type "object"] "ValueError.__new__" = true ∧ PySem.W.keepIn K (.ref C) = true ∧ PySem.W.subIn K (.ref C) (.type "BaseException") = some true ∧ PySem.W.typeIn K (.ref C) = some (.type "type")
def fRaise (x : Str) : FS := fun ρ => .raise x ρ
theorem ds_raise {x : Str} {p pos pos' : Pos} (hc : X.calm = true) (tk : L2N.Takes X W) (k : ExcK X.K X.mg x) (hg : Gl X x := by rfl) (hdb : (x == ("__debug__" : Str)) = false := by decide) : DS X Z own lk W (.Raise (some (.Call (.Name x p) [] [] pos)) none pos') (fRaise x) := by
  obtain ⟨C, gC, h1, h2, h3, h4⟩ := k.ex
  exact PS_imp (L2N.ps_raise hc tk (pmk_own0 PySem.F.excBase_ValueError h1 gC h2 (raises_own h3 h4) hg hdb)) fun D σ H ⟨α, ρ, E, q⟩ => q C α σ H gC E .refl
end
/-! ### a def by its body -/
def initD (N : List Str) (ds : List D) : Rho := ds.map some ++ List.replicate (N.length - ds.length) none
def runD (n : Nat) (N : List Str) (f : FS) : List D → R D := fun ds => if ds.length = n then match f (initD N ds) with
  | .nx _ => .ok .non
  | .rt d => .ok d
  | .raise c _ => .raise c
  | .stuck => .stuck else .stuck
section
variable {P : Program} {w : World} {K : PySem.W.Frag} {mg : Str → Option Value} {base : Heap}
theorem env_start {N : List Str} {Ao : Addr → Prop} {own : List Nat} {H : Hp} : ∀ {ds : List D} {vs : List V}, RepL K mg H Ao ds vs → (∀ b, Ao b → ∃ o, H b = some o) → (∀ i ∈ own, ds.length ≤ i) → EnvR K mg ⟨Ao, H⟩ own (fun _ => none) (initD N ds) (L2.start N vs) H := by
  intro ds vs r hA ho
  have hl := r.len
  have A1 : ∀ b o, H b = some o → ¬ Ao b → H b = some o ∧ ¬ AA Ao (fun _ => none) b := fun b o h n => ⟨h, fun z => z.elim n fun ⟨_, q⟩ => by cases q⟩
  have get : ∀ i d, (initD N ds)[i]? = some (some d) → ds[i]? = some d := fun i d e => by
    unfold initD at e
    by_cases hi : i < ds.length
    · rw [List.getElem?_append_left (by simpa using hi), List.getElem?_map, List.getElem?_eq_getElem hi] at e
      rw [List.getElem?_eq_getElem hi]
      cases e; rfl
    · rw [List.getElem?_append_right (by simpa using hi), List.getElem?_replicate] at e
      split at e <;> cases e
  refine ⟨?_, Same.refl H, fun i d e c => ?_, fun i d e c b => ?_, fun b h => ?_, fun i a e => (nomatch e), fun i j a e => (nomatch e), hA, 0, fun _ _ => rfl⟩
  · unfold initD L2.start
    simp [hl]
  · obtain ⟨v, h1, h2⟩ := r.get (get i d e)
    refine ⟨v, ?_, h2.mv A1⟩
    unfold L2.start
    have hi := (List.getElem?_eq_some_iff.mp h1).1
    rw [List.getElem?_append_left (by simpa using hi), List.getElem?_map, h1]
    rfl
  · have hi := (List.getElem?_eq_some_iff.mp (get i d e)).1
    have := ho i c
    omega
  · rcases h with h | ⟨_, h⟩
    · exact hA b h
    · cases h
abbrev WFn (E : XK) : WX := fun cls d _ H => E cls d H
/-- THE RULE: a def keeps the promise of its body's meaning -/
theorem fn_ok {x qual : Str} {st : Stmt} {f : Addr} {fd : FuncData} {N ps : List Str} {k : Nat} {g : FS} (own : List Nat) (F : Fun K x qual st f fd) (S : FnScope N ps (defScope st)) (ho : ∀ i ∈ own, ps.length ≤ i)
    (hb : ∀ (Z : Fx) (cdv : Value) (A : Around) (outer : List Env) (s : Shared) (H : Hp) (E : XK), Room k (A.deeper (envOfC qual (defScope st) s.heap.objs.size f cdv)) → L2N.Takes (cxOf (L2N.CX P w) P w K mg base N qual (defScope st) f cdv A outer s H E) (WFn E) →
      PassesOwn (model P w) (A.deeper (envOfC qual (defScope st) s.heap.objs.size f cdv)) (envOfC qual (defScope st) s.heap.objs.size f cdv) (cxOf (L2N.CX P w) P w K mg base N qual (defScope st) f cdv A outer s H E).xe →
      DSs (cxOf (L2N.CX P w) P w K mg base N qual (defScope st) f cdv A outer s H E) Z own [] (WFn E) (defBody st) g) :
    FnOk P w K mg base (L2N.CX P w) (k + 1) f fd ps (spD K mg ps.length (runD ps.length N g)) := by
  obtain ⟨oc, od, kV, doc, pm, an, cdv, ct, osl, rfl, lk, hcd⟩ := F.ex
  refine fn_of lk hcd S (fun vs H Q E h => h.1) fun A outer s H vs Q E hr h => ?_
  obtain ⟨hlen, Ao, ds, hA, r, h⟩ := h
  refine ⟨_, hb ⟨Ao, H⟩ cdv A outer s H E hr (L2N.takes_of rfl rfl rfl rfl) (L2.passes_of rfl), ?_⟩
  have hl : ds.length = ps.length := r.len.trans hlen
  refine ⟨fun _ => none, initD N ds, env_start r hA (fun i hi => by rw [hl]; exact ho i hi), ?_⟩
  unfold runD at h
  rw [if_pos hl] at h
  cases hg : g (initD N ds) with
  | nx ρ' =>
    rw [hg] at h
    intro α' σ' H' E' p
    exact h .non H' E'.same .non
  | rt d => rw [hg] at h; exact fun v H' s r => h v H' s r
  | raise c ρ' => rw [hg] at h; exact fun C α' σ' H' gC E' _ => h C H' gC E'.same
  | stuck => rw [hg] at h; exact h
end
end Sh

namespace Sh
open PySem PySem.Spec PyProof.Rows L2
theorem RepTL.one' {K : PySem.W.Frag} {mg : Str → Option Value} {H : Hp} {A : Addr → Prop} {d : D} {vs : List V} (r : RepTL K mg H A [d] vs) : ∃ v, vs = [v] ∧ RepT K mg H A d v := r.one
/-! ### built-in functions by data -/
def lenD : List D → R D
  | [.tup xs] => .ok (.int (xs.length : Nat))
  | [.lst xs] => .ok (.int (xs.length : Nat))
  | [.scr xs] => .ok (.int (xs.length : Nat))
  | [.str x] => if x.length ≤ 16777216 then .ok (.int (x.length : Nat)) else .stuck
  | _ => .stuck
def absD : List D → R D
  | [.int i] => .ok (.int (if i < 0 then -i else i))
  | _ => .stuck
def intD : List D → R D
  | [.int i] => .ok (.int i)
  | [.bl k] => .ok (.int (if k then 1 else 0))
  | _ => .stuck
def strD : List D → R D
  | [.int i] => if i.natAbs.log2 < 1920 then .ok (.str (toString i : String)) else .stuck
  | _ => .stuck
def max2D : List D → R D
  | [.int i, .int j] => .ok (.int (if j > i then j else i))
  | _ => .stuck
def min2D : List D → R D
  | [.int i, .int j] => .ok (.int (if j < i then j else i))
  | _ => .stuck
def toBl : List D → Option (List Bool)
  | [] => some []
  | .bl b :: r => (toBl r).map (b :: ·)
  | _ => none
def allD : List D → R D
  | [.lst xs] => match toBl xs with
    | some bs => .ok (.bl (bs.all id))
    | none => .stuck
  | _ => .stuck
def anyD : List D → R D
  | [.lst xs] => match toBl xs with
    | some bs => .ok (.bl (bs.any id))
    | none => .stuck
  | _ => .stuck
def sumD : List D → R D
  | [.lst xs] => match ltI xs with
    | some ns => .ok (.int ns.sum)
    | none => .stuck
  | _ => .stuck
def tupleD : List D → R D
  | [.lst xs] => .ok (.tup xs)
  | [.tup xs] => .ok (.tup xs)
  | _ => .stuck
def listD : List D → R D
  | [.lst xs] => .ok (.lst xs)
  | [.tup xs] => .ok (.lst xs)
  | _ => .stuck
def sortI (ns : List Int) : List Int := ns.mergeSort (fun a b => decide (a ≤ b))
def sortedD : List D → R D
  | [.lst xs] => match ltI xs with
    | some ns => .ok (.lst ((sortI ns).map .int))
    | none => .stuck
  | _ => .stuck
def maxI : List Int → Int
  | [] => 0
  | a :: r => r.foldl max a
def minI : List Int → Int
  | [] => 0
  | a :: r => r.foldl min a
def maxD : List D → R D
  | [.lst xs] => match ltI xs with
    | some (a :: r) => .ok (.int (maxI (a :: r)))
    | _ => .stuck
  | _ => .stuck
def minD : List D → R D
  | [.lst xs] => match ltI xs with
    | some (a :: r) => .ok (.int (minI (a :: r)))
    | _ => .stuck
  | _ => .stuck
theorem foldl_max_ge : ∀ (r : List Int) (a : Int), a ≤ r.foldl max a ∧ ∀ x ∈ r, x ≤ r.foldl max a
  | [], a => ⟨Int.le_refl a, fun _ h => nomatch h⟩
  | b :: r, a => by
    obtain ⟨h1, h2⟩ := foldl_max_ge r (max a b)
    refine ⟨Int.le_trans (by omega) h1, fun x hx => ?_⟩
    rcases List.mem_cons.mp hx with rfl | hx
    · exact Int.le_trans (by omega) h1
    · exact h2 x hx
theorem foldl_max_mem : ∀ (r : List Int) (a : Int), r.foldl max a ∈ a :: r
  | [], a => List.mem_cons_self
  | b :: r, a => by
    have := foldl_max_mem r (max a b)
    show r.foldl max (max a b) ∈ _
    rcases List.mem_cons.mp this with h | h
    · rw [h]
      by_cases c : a ≤ b
      · rw [Int.max_eq_right c]; simp
      · rw [Int.max_eq_left (by omega)]; simp
    · simp [h]
theorem foldl_min_le : ∀ (r : List Int) (a : Int), r.foldl min a ≤ a ∧ ∀ x ∈ r, r.foldl min a ≤ x
  | [], a => ⟨Int.le_refl a, fun _ h => nomatch h⟩
  | b :: r, a => by
    obtain ⟨h1, h2⟩ := foldl_min_le r (min a b)
    refine ⟨Int.le_trans h1 (by omega), fun x hx => ?_⟩
    rcases List.mem_cons.mp hx with rfl | hx
    · exact Int.le_trans h1 (by omega)
    · exact h2 x hx
theorem foldl_min_mem : ∀ (r : List Int) (a : Int), r.foldl min a ∈ a :: r
  | [], a => List.mem_cons_self
  | b :: r, a => by
    have := foldl_min_mem r (min a b)
    show r.foldl min (min a b) ∈ _
    rcases List.mem_cons.mp this with h | h
    · rw [h]
      by_cases c : a ≤ b
      · rw [Int.min_eq_left c]; simp
      · rw [Int.min_eq_right (by omega)]; simp
    · simp [h]
theorem maxI_is {ns : List Int} {m : Int} (h : m ∈ ns) (g : ∀ y ∈ ns, y ≤ m) : maxI ns = m := by
  cases ns with
  | nil => cases h
  | cons a r =>
    have h1 := foldl_max_ge r a
    have h2 := g _ (foldl_max_mem r a)
    refine Int.le_antisymm h2 ?_
    rcases List.mem_cons.mp h with rfl | h
    · exact h1.1
    · exact h1.2 m h
theorem minI_is {ns : List Int} {m : Int} (h : m ∈ ns) (g : ∀ y ∈ ns, m ≤ y) : minI ns = m := by
  cases ns with
  | nil => cases h
  | cons a r =>
    have h1 := foldl_min_le r a
    have h2 := g _ (foldl_min_mem r a)
    refine Int.le_antisymm ?_ h2
    rcases List.mem_cons.mp h with rfl | h
    · exact h1.1
    · exact h1.2 m h
theorem sortI_perm (ns : List Int) : (sortI ns).Perm ns := List.mergeSort_perm _ _
theorem sortI_sorted (ns : List Int) : (sortI ns).Pairwise (· ≤ ·) := by
  have := List.pairwise_mergeSort (le := fun a b : Int => decide (a ≤ b)) (fun a b c h1 h2 => by simp only [decide_eq_true_eq] at *; omega) (fun a b => by simp only [Bool.or_eq_true, decide_eq_true_eq]; omega) ns
  exact this.imp fun h => by simpa using h
theorem sortI_is {ns ms : List Int} (p : ms.Perm ns) (s : ms.Pairwise (· ≤ ·)) : ms = sortI ns := (p.trans (sortI_perm ns).symm).eq_of_pairwise (fun x y _ _ h1 h2 => Int.le_antisymm h1 h2) s (sortI_sorted ns)
theorem toBl_at : ∀ {ds : List D} {bs : List Bool}, toBl ds = some bs → ds = bs.map D.bl
  | [], _, e => by simp only [toBl] at e; cases e; rfl
  | .bl i :: r, ns, e => by
    simp only [toBl] at e
    cases q : toBl r with
    | none => rw [q] at e; cases e
    | some ms => rw [q] at e; cases e; rw [toBl_at q]; rfl
  | .non :: _, _, e => by simp only [toBl] at e; cases e
  | .int _ :: _, _, e => by simp only [toBl] at e; cases e
  | .str _ :: _, _, e => by simp only [toBl] at e; cases e
  | .tup _ :: _, _, e => by simp only [toBl] at e; cases e
  | .lst _ :: _, _, e => by simp only [toBl] at e; cases e
  | .scr _ :: _, _, e => by simp only [toBl] at e; cases e
  | .dct _ _ :: _, _, e => by simp only [toBl] at e; cases e
  | .iset _ :: _, _, e => by simp only [toBl] at e; cases e
  | .fn _ :: _, _, e => by simp only [toBl] at e; cases e
  | .exc _ :: _, _, e => by simp only [toBl] at e; cases e
theorem RepL.bls {K : PySem.W.Frag} {mg : Str → Option Value} {H : Hp} {A : Addr → Prop} : ∀ {bs : List Bool} {vs : List V}, RepL K mg H A (bs.map D.bl) vs → vs = bs.map V.bl
  | [], _, .nil => rfl
  | _ :: _, _, .cons r t => by cases r; rw [RepL.bls t]; rfl
section
variable {X : Cx}
theorem cd_len : CallD X (.builtin "len") lenD := by
  intro pins s σ H xs us Q I r ⟨A, ds, d, hA, rt, e, q⟩
  unfold lenD at e
  split at e
  · cases e
    obtain ⟨v, rfl, h⟩ := rt.one
    obtain ⟨a, vs, rfl, g, rl⟩ := h.tup
    exact call_len_seq pins s σ H _ us Q I r ⟨a, vs, rfl, .inr g, by rw [← rl.len]; exact q.imp (Same.refl H) rfl (.int _)⟩
  · cases e
    obtain ⟨v, rfl, h⟩ := rt.one
    obtain ⟨a, vs, rfl, g, rl⟩ := h.lst
    exact call_len_seq pins s σ H _ us Q I r ⟨a, vs, rfl, .inl (SqL.of g), by rw [← rl.len]; exact q.imp (Same.refl H) rfl (.int _)⟩
  · rename_i xs; cases e
    obtain ⟨v, rfl, h⟩ := rt.one
    obtain ⟨a, rfl, g⟩ := h.scr
    exact call_len_seq pins s σ H _ us Q I r ⟨a, _, rfl, .inl g, by rw [List.length_map]; exact q.imp (Same.refl H) rfl (.int _)⟩
  · split at e
    · rename_i hl; cases e
      obtain ⟨v, rfl, h⟩ := rt.one
      cases h.str
      exact call_len_str pins s σ H _ us Q I r ⟨_, rfl, by rw [sl_eq]; exact hl, q.imp (Same.refl H) rfl (.int _)⟩
    · cases e
  · cases e
theorem nr_len : NoR lenD := fun xs c z => by
  unfold lenD at z
  split at z
  · cases z
  · cases z
  · cases z
  · split at z <;> cases z
  · cases z
theorem cd_abs : CallD X (.builtin "abs") absD := by
  intro pins s σ H xs us Q I r ⟨A, ds, d, hA, rt, e, q⟩
  unfold absD at e
  split at e
  · cases e
    obtain ⟨v, rfl, h⟩ := rt.one
    cases h.int
    exact call_abs pins s σ H _ us Q I r ⟨_, rfl, q.imp (Same.refl H) rfl (.int _)⟩
  · cases e
theorem nr_abs : NoR absD := fun xs c z => by unfold absD at z; split at z <;> cases z
theorem cd_int : CallD X (.type "int") intD := by
  intro pins s σ H xs us Q I r ⟨A, ds, d, hA, rt, e, q⟩
  unfold intD at e
  split at e
  · cases e
    obtain ⟨v, rfl, h⟩ := rt.one
    cases h.int
    exact call_int1 pins s σ H _ us Q I r (.inl ⟨_, rfl, q.imp (Same.refl H) rfl (.int _)⟩)
  · cases e
    obtain ⟨v, rfl, h⟩ := rt.one
    cases h.bl
    exact call_int1 pins s σ H _ us Q I r (.inr ⟨_, rfl, q.imp (Same.refl H) rfl (.int _)⟩)
  · cases e
theorem nr_int : NoR intD := fun xs c z => by unfold intD at z; split at z <;> cases z
theorem cd_str : CallD X (.type "str") strD := by
  intro pins s σ H xs us Q I r ⟨A, ds, d, hA, rt, e, q⟩
  unfold strD at e
  split at e
  · split at e
    · rename_i hl; cases e
      obtain ⟨v, rfl, h⟩ := rt.one
      cases h.int
      exact call_str_int pins s σ H _ us Q I r ⟨_, rfl, hl, q.imp (Same.refl H) rfl (.str _)⟩
    · cases e
  · cases e
theorem nr_str : NoR strD := fun xs c z => by
  unfold strD at z
  split at z
  · split at z <;> cases z
  · cases z
theorem cd_max2 (hc : X.calm = true) : CallD X (.builtin "max") max2D := by
  intro pins s σ H xs us Q I r ⟨A, ds, d, hA, rt, e, q⟩
  unfold max2D at e
  split at e
  · cases e
    obtain ⟨v, v2, rfl, h, h2⟩ := rt.two
    cases h.int; cases h2.int
    exact call_max2 hc pins s σ H _ us Q I r ⟨_, _, rfl, q.imp (Same.refl H) rfl (.int _)⟩
  · cases e
theorem nr_max2 : NoR max2D := fun xs c z => by unfold max2D at z; split at z <;> cases z
theorem cd_min2 (hc : X.calm = true) : CallD X (.builtin "min") min2D := by
  intro pins s σ H xs us Q I r ⟨A, ds, d, hA, rt, e, q⟩
  unfold min2D at e
  split at e
  · cases e
    obtain ⟨v, v2, rfl, h, h2⟩ := rt.two
    cases h.int; cases h2.int
    exact call_min2 hc pins s σ H _ us Q I r ⟨_, _, rfl, q.imp (Same.refl H) rfl (.int _)⟩
  · cases e
theorem nr_min2 : NoR min2D := fun xs c z => by unfold min2D at z; split at z <;> cases z
theorem cd_all (hc : X.calm = true) : CallD X (.builtin "all") allD := by
  intro pins s σ H xs us Q I r ⟨A, ds, d, hA, rt, e, q⟩
  unfold allD at e
  split at e
  · split at e
    · rename_i xs bs hb; cases e
      cases toBl_at hb
      obtain ⟨v, rfl, h⟩ := rt.one
      obtain ⟨a, vs, rfl, g, rl⟩ := h.lst
      exact cr_all hc pins s σ H _ us Q I r ⟨a, bs, rfl, by rw [← rl.bls]; exact SqL.of g, q.imp (Same.refl H) rfl (.bl _)⟩
    · cases e
  · cases e
theorem nr_all : NoR allD := fun xs c z => by
  unfold allD at z
  split at z
  · split at z <;> cases z
  · cases z
theorem cd_any (hc : X.calm = true) : CallD X (.builtin "any") anyD := by
  intro pins s σ H xs us Q I r ⟨A, ds, d, hA, rt, e, q⟩
  unfold anyD at e
  split at e
  · split at e
    · rename_i xs bs hb; cases e
      cases toBl_at hb
      obtain ⟨v, rfl, h⟩ := rt.one
      obtain ⟨a, vs, rfl, g, rl⟩ := h.lst
      exact cr_any hc pins s σ H _ us Q I r ⟨a, bs, rfl, by rw [← rl.bls]; exact SqL.of g, q.imp (Same.refl H) rfl (.bl _)⟩
    · cases e
  · cases e
theorem nr_any : NoR anyD := fun xs c z => by
  unfold anyD at z
  split at z
  · split at z <;> cases z
  · cases z
theorem cd_sum (hc : X.calm = true) : CallD X (.builtin "sum") sumD := by
  intro pins s σ H xs us Q I r ⟨A, ds, d, hA, rt, e, q⟩
  unfold sumD at e
  split at e
  · split at e
    · rename_i xs ns hb; cases e
      cases ltI_at hb
      obtain ⟨v, rfl, h⟩ := rt.one
      obtain ⟨a, vs, rfl, g, rl⟩ := h.lst
      exact cr_sum hc pins s σ H _ us Q I r ⟨a, ns, rfl, by rw [← rl.ints]; exact SqL.of g, q.imp (Same.refl H) rfl (.int _)⟩
    · cases e
  · cases e
theorem nr_sum : NoR sumD := fun xs c z => by
  unfold sumD at z
  split at z
  · split at z <;> cases z
  · cases z
theorem cd_max (hc : X.calm = true) : CallD X (.builtin "max") maxD := by
  intro pins s σ H xs us Q I r ⟨A, ds, d, hA, rt, e, q⟩
  unfold maxD at e
  split at e
  · split at e
    · rename_i xs x y hb; cases e
      cases ltI_at hb
      obtain ⟨v, rfl, h⟩ := rt.one
      obtain ⟨a, vs, rfl, g, rl⟩ := h.lst
      refine cr_max hc pins s σ H _ us Q I r ⟨a, x :: y, rfl, by rw [← rl.ints]; exact SqL.of g, by simp, fun m hm hle => ?_⟩
      rw [← maxI_is hm hle]
      exact q.imp (Same.refl H) rfl (.int _)
    · cases e
  · cases e
theorem nr_max : NoR maxD := fun xs c z => by
  unfold maxD at z
  split at z
  · split at z <;> cases z
  · cases z
theorem cd_min (hc : X.calm = true) : CallD X (.builtin "min") minD := by
  intro pins s σ H xs us Q I r ⟨A, ds, d, hA, rt, e, q⟩
  unfold minD at e
  split at e
  · split at e
    · rename_i xs x y hb; cases e
      cases ltI_at hb
      obtain ⟨v, rfl, h⟩ := rt.one
      obtain ⟨a, vs, rfl, g, rl⟩ := h.lst
      refine cr_min hc pins s σ H _ us Q I r ⟨a, x :: y, rfl, by rw [← rl.ints]; exact SqL.of g, by simp, fun m hm hle => ?_⟩
      rw [← minI_is hm hle]
      exact q.imp (Same.refl H) rfl (.int _)
    · cases e
  · cases e
theorem nr_min : NoR minD := fun xs c z => by
  unfold minD at z
  split at z
  · split at z <;> cases z
  · cases z
theorem cd_sorted : CallD X (.builtin "sorted") sortedD := by
  intro pins s σ H xs us Q I r ⟨A, ds, d, hA, rt, e, q⟩
  unfold sortedD at e
  split at e
  · split at e
    · rename_i xs ns hb; cases e
      cases ltI_at hb
      obtain ⟨v, rfl, h⟩ := rt.one
      obtain ⟨a, vs, rfl, g, rl⟩ := h.lst
      refine cr_sortedI pins s σ H _ us Q I r ⟨a, ns, rfl, by rw [← rl.ints]; exact SqL.of g, fun ms p hp hs hn => ?_⟩
      rw [sortI_is hp hs]
      exact q.newLst (RepL.of_ints _) hn
    · cases e
  · cases e
theorem nr_sorted : NoR sortedD := fun xs c z => by
  unfold sortedD at z
  split at z
  · split at z <;> cases z
  · cases z
theorem cd_tuple : CallD X (.type "tuple") tupleD := by
  intro pins s σ H xs us Q I r ⟨A, ds, d, hA, rt, e, q⟩
  unfold tupleD at e
  split at e
  · cases e
    obtain ⟨v, rfl, h⟩ := rt.one
    obtain ⟨a, vs, rfl, g, rl⟩ := h.lst
    exact call_tuple_of pins s σ H _ us Q I r ⟨a, vs, rfl, .inl ⟨SqL.of g, fun l n => q.newTup rl hA n⟩⟩
  · cases e
    obtain ⟨v, rfl, h⟩ := rt.one
    obtain ⟨a, vs, rfl, g, rl⟩ := id h.tup
    exact call_tuple_of pins s σ H _ us Q I r ⟨a, vs, rfl, .inr ⟨g, q.tupAt h⟩⟩
  · cases e
theorem nr_tuple : NoR tupleD := fun xs c z => by unfold tupleD at z; split at z <;> cases z
theorem cd_list : CallD X (.type "list") listD := by
  intro pins s σ H xs us Q I r ⟨A, ds, d, hA, rt, e, q⟩
  unfold listD at e
  split at e
  · cases e
    obtain ⟨v, rfl, h⟩ := rt.one
    obtain ⟨a, vs, rfl, g, rl⟩ := h.lst
    exact call_list_of pins s σ H _ us Q I r ⟨a, vs, rfl, .inl (SqL.of g), fun l n => q.newLst rl n⟩
  · cases e
    obtain ⟨v, rfl, h⟩ := rt.one
    obtain ⟨a, vs, rfl, g, rl⟩ := h.tup
    exact call_list_of pins s σ H _ us Q I r ⟨a, vs, rfl, .inr g, fun l n => q.newLst rl n⟩
  · cases e
theorem nr_list : NoR listD := fun xs c z => by unfold listD at z; split at z <;> cases z
/-! isinstance -/
def tyName : D → Option String
  | .non => some "NoneType"
  | .bl _ => some "bool"
  | .int _ => some "int"
  | .str _ => some "str"
  | .tup _ => some "tuple"
  | .lst _ => some "list"
  | .scr _ => some "list"
  | .dct _ _ => some "dict"
  | .iset _ => some "set"
  | _ => none
def subT (a b : String) : Bool := a == b || (a == "bool" && b == "int")
def isiD (T : String) (d : D) : R D := match tyName d with
  | some t => .ok (.bl (subT t T))
  | none => .stuck
theorem RepT.ty {K : PySem.W.Frag} {mg : Str → Option Value} {H : Hp} {A : Addr → Prop} {d : D} {v : V} {t : String} (r : RepT K mg H A d v) (e : tyName d = some t) : TyX K H v (.type t) := by
  have kt : ∀ a vs, (∀ H', SqT K H' a vs) → TyX K H (.ref a) (.type "tuple") := fun a vs h => by
    rcases h (fun _ => none) with h | ⟨o, _, _, hk, hc, _⟩
    · rcases h with h | ⟨o, h⟩ <;> cases h
    · exact .kTuple hk hc
  rcases r with r | ⟨a, rfl, r⟩
  · cases r with
    | non => cases e; exact .base .non
    | bl b => cases e; exact .base (.bl b)
    | int i => cases e; exact .base (.int i)
    | str x => cases e; exact .base (.str x)
    | tup h _ =>
      cases e
      rcases h with ⟨h, _⟩ | h
      · exact .base (.tup h)
      · exact kt _ _ h
    | lst _ h _ => cases e; exact .base (.lst h)
    | scr h =>
      cases e
      rcases h with ⟨h | ⟨o, h⟩, _⟩ | h
      · exact .base (.lst h)
      · exact .base (.frz h)
      · rcases h (fun _ => none) with h | ⟨o, _, _, hk, hc, _⟩
        · rcases h with h | ⟨o, h⟩ <;> cases h
        · exact .kList hk hc
    | dctK _ h _ _ => cases e; exact .base (.dK h)
    | iset _ h _ _ _ => cases e; exact .set h
    | fn _ => cases e
  · cases d with
    | lst ds => cases e; obtain ⟨vs, h, _⟩ := r; exact .base (.lst h)
    | dct ks ws => cases e; obtain ⟨vs, h, _⟩ := r; exact .base (.dK h)
    | iset ns => cases e; obtain ⟨S, n, h, _⟩ := r; exact .set h
    | _ => exact r.elim
variable {Z : Fx} {own lk : List Nat} {W : WX} {e : Expr} {pos p p2 : Pos}
theorem kit_all : (["NoneType", "bool", "int", "str", "tuple", "list", "dict", "set"].all fun a => ["bool", "int", "str", "tuple", "list", "dict"].all fun b => decide (kitB a b = some (subT a b))) = true := by decide +kernel
theorem kit_sub {K : PySem.W.Frag} {d : D} {t T : String} (e : tyName d = some t) (hT : T ∈ ["bool", "int", "str", "tuple", "list", "dict"]) : PySem.W.kitOne K (.type t) (.type T) = some (subT t T) := by
  have h := kit_all
  simp only [List.all_eq_true, decide_eq_true_eq] at h
  refine kit_ty (h t ?_ T hT)
  cases d <;> cases e <;> decide
def fIsi (T : String) (f : FE) : FE := fun ρ => (f ρ).bind (isiD T)
theorem d_isi {x : Str} {T : String} {f : FE} (he : DR X Z own W e f) (hm : X.mg "isinstance" = none) (hx : X.mg x = none) (hv : bootBuiltins x = some (.type T)) (hT : T ∈ ["bool", "int", "str", "tuple", "list", "dict"] := by decide) (hg : Gl X "isinstance" := by rfl) (hg2 : Gl X x := by rfl) (hn : x ≠ "__name__" := by decide) (hdb : (x == ("__debug__" : Str)) = false := by decide)
    (hs : starEach [e, .Name x p2] X.env = (false, eval e X.env) :: starEach [.Name x p2] X.env := by rfl) (hs2 : starEach [.Name x p2] X.env = (false, eval (.Name x p2) X.env) :: starEach [] X.env := by rfl) (hpl : (backTo pos (starEach [.Name x p2] X.env)).any (·.1) = false := by rfl) :
    DF X Z own W (.Call (.Name "isinstance" p) [e, .Name x p2] [] pos) (fIsi T f) :=
  PE_imp (pe_callB (x := "isinstance") call_isi hg hm (by decide +kernel) (pa_cons he (pa_cons (pe_bltn (v := .ty T) hg2 hx hv rfl hn hdb) pa_nil hs2) hs) (by decide) (by decide) hs hpl) fun σ H Q ⟨α, ρ, E, q⟩ => by
    refine (g_R (laterF X.K X.mg (AA Z.Ao α) Q) E q.g).imp fun v H1 ⟨d, e1, s1, r1, E1, q1⟩ => ?_
    unfold isiD at q1
    cases ht : tyName d with
    | none => rw [ht] at q1; exact q1.elim
    | some t =>
      rw [ht] at q1
      have q1 : FQ X.K X.mg (AA Z.Ao α) H1 (.bl (subT t T)) Q := q1
      exact ⟨v, .ty T, .type t, .type T, _, rfl, .ty T, r1.ty ht, kit_sub ht hT, q1.imp (Same.refl H1) rfl (.bl _)⟩
end
end Sh

namespace Sh
open PySem PySem.Spec PyProof.Rows L2
/-! ### a def called within an except suite, told which exception is pinned -/
structure FnHp (P : Program) (w : World) (K : PySem.W.Frag) (mg : Str → Option Value) (base : Heap) (k : Nat) (f : Addr) (fd : FuncData) (ps : List Str) (p : Addr × Obj) (sp : List V → Hp → VK → Prop) : Prop where
  len : ∀ vs H Q, sp vs H Q → vs.length = ps.length
  run : ∀ (A : Around) (outer : List Env) (s : Shared) (H : Hp) (args : Args) (us : List Value) (vs : List V) (Q : VK), L2H.RoomH k A → L2H.Hot1 A p → L2H.PinOk outer H s p → Env0 P w K mg base A outer s H → BindsTo s fd args (ps.zip us) → Vals vs us → sp vs H Q →
    codeAny (model P w) A (.call (.ref f) args) (CR CX0 outer P w H s Q E0) s
theorem fn_ofHp {P : Program} {w : World} {K : PySem.W.Frag} {mg : Str → Option Value} {base : Heap} {x qual : Str} {st : Stmt} {f : Addr} {fd : FuncData} {N ps : List Str} {k : Nat} {p : Addr × Obj} {sp : List V → Hp → VK → Prop} (F : Fun K x qual st f fd) (S : FnScope N ps (defScope st)) (len : ∀ vs H Q, sp vs H Q → vs.length = ps.length)
    (hb : ∀ (cdv : Value) (A : Around) (outer : List Env) (s : Shared) (H : Hp) (vs : List V) (Q : VK), sp vs H Q →
      ∃ t, PSs (L2H.cxH CX0 P w K mg base N qual (defScope st) f cdv A outer s H E0 p) (defBody st) t ∧ t { nx := fun _ H' => Q .non H', rt := Q } (L2.start N vs) H) : FnHp P w K mg base (k + 1) f fd ps p sp := by
  obtain ⟨oc, od, kV, doc, pm, an, cdv, ct, osl, rfl, lk, hcd⟩ := F.ex
  -- the promise under the premise that the pinned one is p
  refine ⟨len, fun A outer s H args us vs Q hr hot hpin e0 hbd r hsp => ?_⟩
  have hl := len _ _ _ hsp
  have KX : K.In s.heap := e0.mod.kin.keeps fun b o e => (e0.bs b o e).1
  have lim : s.heap.NoLimit := e0.mod.nolimit.keeps fun b o e => (e0.bs b o e).1
  have hkind : ∀ y ∈ ps.zip us, (defScope st).names.lookup y.1 = some .local ∨ ((defScope st).names.lookup y.1 = some .cell ∧ ((cellsFrom (s.heap.objs.size + 1) (defScope st).names []).lookup y.1).isSome = true) := by
    intro y hy
    rcases S.par y.1 (List.of_mem_zip hy).1 with q | q
    · exact .inl q
    · exact .inr ⟨q, PySem.W.cellsFrom_some _ _ _ (.inl q)⟩
  refine codeAny_call_function hr.depth (KX _ _ lk) rfl S.co S.gen rfl (PySem.W.codeRec_of KX hcd) (hbd _ _ _ _ ?_)
  refine wpAny_newFunctionEnv_cells S.kind hkind ?_
  intro env he s1 x
  subst he
  refine ⟨lim.keeps x.toInCall.keep, codeAny_func ?_⟩
  obtain ⟨t, ht, hq⟩ := hb cdv A outer s H vs Q hsp
  have I := L2H.inv_startH (CX := CX0) (E := E0) (f := f) (cd := cdv) S hpin e0 hl r x
  refine wpAny_mono (ht.run [] s1 _ H _ I hq) ?_ (fun e s' hs => hs)
  intro fl s' hs
  cases fl with
  | ret u => obtain ⟨v, σ', H', J, rv, q⟩ := hs; exact ⟨v, H', J.os, J.bare, J.base, J.hok, rv, q⟩
  | next => obtain ⟨σ', H', J, q⟩ := hs; exact ⟨V.non, H', J.os, J.bare, J.base, J.hok, rfl, q⟩
  | brk => obtain ⟨_, _, _, q⟩ := hs; exact q.elim
  | cont => obtain ⟨_, _, _, q⟩ := hs; exact q.elim
section
variable {X : Cx} {k : Nat} {f : Addr} {fd : FuncData} {ps : List Str} {p : Addr × Obj} {sp : List V → Hp → VK → Prop} {x : Str} {q pos : Pos} {e : Expr} {es : List Expr} {t : TA}
theorem pe_callHp (F : FnHp X.prog X.w X.K X.mg X.base k f fd ps p sp) (hr : L2H.RoomH k X.A) (hot : L2H.Hot1 X.A p) (hp : p ∈ X.pn) (hg : Gl X x) (hm : X.mg x = some (.ref f)) (hk : PySem.W.keepIn X.K (.ref f) = true) (hb : Binds X.K fd ps [])
    (ha : PA X (e :: es) t) (hdb : (x == ("__debug__" : Str)) = false := by decide) (he : starEach (e :: es) X.env = (false, eval e X.env) :: starEach es X.env := by rfl) (hpl : (backTo pos (starEach es X.env)).any (·.1) = false := by rfl) :
    PE X (.Call (.Name x q) (e :: es) [] pos) (fun σ H Q => t σ H fun vs H1 => sp vs H1 Q) := by
  constructor
  intro pins s σ H Q I h
  have h1 := ha.run pos pins s σ H _ I h
  refine wpAny_Call_Name_kw (ld_glob I hg hm (PySem.W.callWith_K (h₀ := X.base) I.ok.mod.kin hk (thn h1 ?_) he hpl) hdb)
  intro us s1 hz
  obtain ⟨vs, H1, I1, r, hsp⟩ := hz
  refine ⟨I1.kIn, ?_⟩
  have hl : us.length = ps.length := r.length.symm.trans (F.len _ _ _ hsp)
  have b := hb s1 us I1.kIn (by rw [List.append_nil]; exact hl)
  rw [List.append_nil] at b
  have P1 := I1.pin p (List.mem_append_left _ hp)
  have hpin : L2H.PinOk X.stack H1 s1 p := ⟨P1.1, P1.2.1, fun hm => (List.mem_cons.mp (I1.stkSub p.1 hm)).elim P1.2.2.1 P1.2.2.2.1, P1.2.2.2.2⟩
  show wpAny _ _ (call (.ref f) us) _ _ _
  refine wpAny_call (codeAny_mono (F.run X.A X.stack s1 H1 ⟨us, []⟩ us vs Q hr hot hpin I1.env0 b r hsp) ?_)
  intro r' s' hq
  cases r' with
  | error e => exact hq.elim
  | ok fl =>
    cases fl with
    | ret u => exact I1.after hq
    | next => exact hq.elim
    | brk => exact hq.elim
    | cont => exact hq.elim
/-- isinstance(e, c) of a pinned exception -/
theorem call_isP {a C : Addr} {oe : Obj} (hp : (a, oe) ∈ X.pn) (G : ExcC X.K C) (hz : Zc (.ref C) none oe) (hf : ∃ vs, oe.data = .fields vs) : CallR X (.builtin "isinstance") (rIsE X.K C a) := by
  intro pins s σ H xs us Q I r h
  obtain ⟨c, cv, b, rfl, hcv, e, q⟩ := h
  obtain ⟨u1, u2, rfl, r1, r2⟩ := vals2 r
  cases r1
  have e2 := hcv _ r2
  subst e2
  have hget := (I.pin (a, oe) (List.mem_append_left _ hp)).1
  have J : PySem.W.InstAt s.heap a oe C none := by
    obtain ⟨vs, hv⟩ := hf
    obtain ⟨oc, od, oda, osl⟩ := oe
    obtain ⟨h1, h2⟩ := hz
    dsimp only at h1 h2 hv
    subst h1 h2 hv
    exact ⟨hget, rfl, rfl, trivial⟩
  have Kit := PySem.W.handS_kitx_exc (x := a) (ox := oe) G.hg G.hk G.hs G.hd G.ha G.hn G.ht G.hm
  exact PySem.W.kia_one Kit I.kIn J e (fun z => nomatch z) fun tk => ⟨.bl b, H, I.kept (t' := tk) fun _ _ z => z, rfl, q⟩
end
/-! ### def is(e, name): if name == "X": return isinstance(e, X) .. return False -/
/-- which classes are under which -/
structure ExcT (K : PySem.W.Frag) (mg : Str → Option Value) (sub : Str → Str → Bool) (xs : List Str) : Prop where
  cls : ∀ x ∈ xs, ∃ C : Addr, mg x = some (.ref C) ∧ ExcC K C ∧ ∀ y ∈ xs, ∃ C2 : Addr, mg y = some (.ref C2) ∧ PySem.W.kitOne K (.ref C) (.ref C2) = some (sub x y) ∧ PySem.W.exmOne K (.ref C) (.ref C2) = some (sub x y)
def isL (sub : Str → Str → Bool) (x : Str) : List (Str × Str) → Str → Bool
  | [], _ => false
  | (s, y) :: r, n => if n = s then sub x y else isL sub x r n
inductive IsBody : List Stmt → List (Str × Str) → Prop
  | nil {j : Nat} {p p' : Pos} : IsBody [.Return (some (.Constant (.bool false) j p)) p'] []
  | cons {s y : Str} {j : Nat} {r : List Stmt} {cs : List (Str × Str)} {p1 p2 p3 p4 p5 p6 p7 p8 p9 : Pos} : IsBody r cs →
      IsBody (.If (.Compare (.Name "name" p1) [.Eq] [.Constant (.str s) j p2] p3) [.Return (some (.Call (.Name "isinstance" p4) [.Name "e" p5, .Name y p6] [] p7)) p8] [] p9 :: r) ((s, y) :: cs)
theorem is_body {X : Cx} {a C : Addr} {oe : Obj} {x : Str} {xs : List Str} {sub : Str → Str → Bool} (hp : (a, oe) ∈ X.pn) (T : ExcT X.K X.mg sub xs) (hx : x ∈ xs) (hC : X.mg x = some (.ref C)) (hz : Zc (.ref C) none oe) (hf : ∃ vs, oe.data = .fields vs)
    (hN0 : X.N[0]? = some ("e" : Str)) (hN1 : X.N[1]? = some ("name" : Str)) (hv0 : Vis X.env.scope "e") (hv1 : Vis X.env.scope "name") (hi : X.mg "isinstance" = none) (hgi : Gl X "isinstance") : ∀ {b : List Stmt} {cs : List (Str × Str)}, IsBody b cs → (∀ c ∈ cs, c.2 ∈ xs ∧ Gl X c.2) → (∀ c ∈ cs, (c.2 == ("__debug__" : Str)) = false) →
      PSs X b (fun D σ H => σ[0]? = some (some (.ref a)) ∧ ∃ n, σ[1]? = some (some (.str n)) ∧ D.rt (.bl (isL sub x cs n)) H)
  | _, _, .nil, _, _ => PSs_imp (pss_one (ps_ret pe_bl)) fun D σ H ⟨_, n, _, q⟩ => q
  | _, (s, y) :: cs, .cons r, hcs, hdb => by
    obtain ⟨C', hC', G, hs⟩ := T.cls x hx
    rw [hC] at hC'; cases hC'
    obtain ⟨hy, hgy⟩ := hcs (s, y) List.mem_cons_self
    obtain ⟨C2, hC2, hk, _⟩ := hs y hy
    have ih := is_body hp T hx hC hz hf hN0 hN1 hv0 hv1 hi hgi r (fun c hc => hcs c (List.mem_cons_of_mem _ hc)) (fun c hc => hdb c (List.mem_cons_of_mem _ hc))
    have dn : (("name" : Str) == ("__debug__" : Str)) = false := by decide
    have dn2 : (("name" : Str) == ("__classdict__" : Str)) = false := by decide
    have de : (("e" : Str) == ("__debug__" : Str)) = false := by decide
    have de2 : (("e" : Str) == ("__classdict__" : Str)) = false := by decide
    refine PSs_imp (pss_cons (ps_if (pt_cmpR op_eq (pe_var (i := 1) hN1 hv1 dn dn2) pe_str (nomark _)) (pss_one (ps_ret (pe_callB (x := "isinstance") (call_isP hp G hz hf) hgi hi (by decide +kernel) (pa_cons (pe_var (i := 0) hN0 hv0 de de2) (pa_cons (pe_glob (v := .ref C2) hgy hC2 rfl (hdb (s, y) List.mem_cons_self)) pa_nil))))) pss_nil) ih) ?_
    rintro D σ H ⟨h0, n, h1, q⟩
    refine ⟨.str n, h1, rfl, _, rfl, ?_⟩
    unfold isL at q
    by_cases hn : n = s
    · rw [if_pos hn] at q
      rw [decide_eq_true (by rw [hn]), if_pos rfl]
      exact ⟨.ref a, h0, .ref C2, .ref C2, _, rfl, fun u r => r, hk, q⟩
    · rw [if_neg hn] at q
      rw [decide_eq_false (fun z => hn (by cases z; rfl)), if_neg Bool.false_ne_true]
      exact ⟨h0, n, h1, q⟩
def spIs (sub : Str → Str → Bool) (x : Str) (cs : List (Str × Str)) (a : Addr) : List V → Hp → VK → Prop := fun vs H Q => ∃ n, vs = [.ref a, .str n] ∧ Q (.bl (isL sub x cs n)) H
/-- the promise of such a def, whichever exception is pinned -/
structure IsFn (X : Cx) (k : Nat) (y : Str) (sub : Str → Str → Bool) (xs : List Str) (cs : List (Str × Str)) : Prop where
  ex : ∃ (f : Addr) (fd : FuncData), X.mg y = some (.ref f) ∧ PySem.W.keepIn X.K (.ref f) = true ∧ Binds X.K fd ["e", "name"] [] ∧
    ∀ (a C : Addr) (oe : Obj) (x : Str), x ∈ xs → X.mg x = some (.ref C) → Zc (.ref C) none oe → (∃ vs, oe.data = .fields vs) → FnHp X.prog X.w X.K X.mg X.base k f fd ["e", "name"] (a, oe) (spIs sub x cs a)
theorem is_fn {P : Program} {w : World} {K : PySem.W.Frag} {mg : Str → Option Value} {base : Heap} {qual : Str} {st : Stmt} {f : Addr} {fd : FuncData} {k : Nat} {y : Str} {sub : Str → Str → Bool} {xs : List Str} {cs : List (Str × Str)} (F : Fun K y qual st f fd) (S : FnScope ["e", "name"] ["e", "name"] (defScope st)) (T : ExcT K mg sub xs) (hb : IsBody (defBody st) cs)
    (hv0 : Vis (defScope st) "e") (hv1 : Vis (defScope st) "name") (hi : mg "isinstance" = none) (hgi : (defScope st).names.lookup ("isinstance" : Str) = some NameKind.globalImplicit) (hcs : ∀ c ∈ cs, c.2 ∈ xs ∧ (defScope st).names.lookup c.2 = some .globalImplicit) (hdb : ∀ c ∈ cs, (c.2 == ("__debug__" : Str)) = false)
    {a C : Addr} {oe : Obj} {x : Str} (hx : x ∈ xs) (hC : mg x = some (.ref C)) (hz : Zc (.ref C) none oe) (hf : ∃ vs, oe.data = .fields vs) : FnHp P w K mg base (k + 1) f fd ["e", "name"] (a, oe) (spIs sub x cs a) := by
  refine fn_ofHp F S (fun vs H Q ⟨n, e, _⟩ => by rw [e]; rfl) fun cdv A outer s H vs Q ⟨n, e, q⟩ => ⟨_, is_body (X := L2H.cxH CX0 P w K mg base ["e", "name"] qual (defScope st) f cdv A outer s H E0 (a, oe)) (List.mem_singleton.mpr rfl) T hx hC hz hf rfl rfl hv0 hv1 hi hgi hb hcs hdb, ?_⟩
  subst e
  exact ⟨rfl, n, rfl, q⟩
/-! ### try: body, except c as e: suite -/
section
variable {X : Cx} {Z : Fx} {own lk : List Nat} {W : WX} {i : Nat}
/-- a suite's reading: the exception at a stands in slot i, which plain data does not tell -/
def tSu (K : PySem.W.Frag) (mg : Str → Option Value) (Z : Fx) (own lk : List Nat) (i : Nat) (a : Addr) (g : FS) : TS := fun D σ H => σ[i]? = some (some (.ref a)) ∧ tS K mg Z own lk WF g D σ H
def DSu (X : Cx) (Z : Fx) (own lk : List Nat) (i : Nat) (xs : List Str) (suite : List Stmt) (g : Str → FS) : Prop :=
  ∀ (a C : Addr) (oe : Obj) (pn : List (Addr × Obj)) (x : Str), x ∈ xs → X.mg x = some (.ref C) → L2N.Zn (.ref C) none oe → (∃ vs, oe.data = .fields vs) → PSs (X.suite a ((a, oe) :: pn)) suite (tSu X.K X.mg Z own lk i a (g x))
theorem su_gen {suite : List Stmt} {xs : List Str} {g : FS} (h : ∀ (a : Addr) (pn : List (Addr × Obj)), DSs (X.suite a pn) Z own lk WF suite g) : DSu X Z own lk i xs suite (fun _ => g) := fun a C oe pn x _ _ _ _ => PSs_imp (h a _) fun D σ H q => q.2
/-- return is(e, arg) -/
def fIs (sub : Str → Str → Bool) (cs : List (Str × Str)) (f : FE) (x : Str) : FS := fun ρ => toS ((f ρ).bind fun
  | .str n => .ok (.bl (isL sub x cs n))
  | _ => .stuck) ρ fun d => .rt d
theorem su_is {k : Nat} {y n : Str} {sub : Str → Str → Bool} {xs : List Str} {cs : List (Str × Str)} {arg : Expr} {f : FE} {p1 p2 p3 p4 : Pos} (B : IsFn X k y sub xs cs) (hr : L2H.RoomH k X.A) (he : ∀ (a : Addr) (pn : List (Addr × Obj)), DR (X.suite a pn) Z own WF arg f)
    (hN : X.N[i]? = some n := by rfl) (hv : Vis X.env.scope n := by first | exact Or.inl rfl | exact Or.inr (Or.inl rfl) | exact Or.inr (Or.inr rfl)) (hg : Gl X y := by rfl) (hd : (n == ("__debug__" : Str)) = false := by decide) (hcd : (n == ("__classdict__" : Str)) = false := by decide) (hdb : (y == ("__debug__" : Str)) = false := by decide)
    (hs1 : starEach [.Name n p2, arg] X.env = (false, eval (.Name n p2) X.env) :: starEach [arg] X.env := by rfl) (hs2 : starEach [arg] X.env = (false, eval arg X.env) :: starEach [] X.env := by rfl) (hpl : (backTo p3 (starEach [arg] X.env)).any (·.1) = false := by rfl) :
    DSu X Z own lk i xs [.Return (some (.Call (.Name y p1) [.Name n p2, arg] [] p3)) p4] (fIs sub cs f) := by
  intro a C oe pn x hx hC hz hf
  obtain ⟨fa, fd, gm, hk, hb, F⟩ := B.ex
  have hot : L2H.Hot1 (X.suite a ((a, oe) :: pn)).A (a, oe) := by
    obtain ⟨vs, hv⟩ := hf
    exact ⟨rfl, vs, hv, hz.2.2 vs hv⟩
  refine PSs_imp (pss_one (ps_ret (pe_callHp (X := X.suite a ((a, oe) :: pn)) (F a C oe x hx hC hz.zc hf) ⟨hr.dp, hr.un⟩ hot List.mem_cons_self hg gm hk hb (pa_cons (pe_var hN hv hd hcd) (pa_cons (he a _) pa_nil hs2) hs1) hdb hs1 hpl))) ?_
  rintro D σ H ⟨h0, α, ρ, E, q⟩
  refine ⟨.ref a, h0, ?_⟩
  refine (g_R (P := fun _ d => ∀ v H', Same Z.H0 H' → RepV X.K X.mg H' Z.Ao d v → D.rt v H') (fun _ _ _ _ h => h) E (k := fun | .str n => .ok (.bl (isL sub x cs n)) | _ => .stuck) (toS_g E q)).imp fun v H1 ⟨d, e1, s1, r1, E1, q1⟩ => ?_
  cases d with
  | str n =>
    have q1 : ∀ v H', Same Z.H0 H' → RepV X.K X.mg H' Z.Ao (.bl (isL sub x cs n)) v → D.rt v H' := q1
    exact ⟨n, by rw [r1.str], q1 _ H1 E1.same (.bl _)⟩
  | _ => exact q1.elim
def fTry (fb : FS) (sub : Str → Str → Bool) (c : Str) (xs : List Str) (i : Nat) (g : Str → FS) : FS := fun ρ => match fb ρ with
  | .raise x ρ' => if x ∈ xs ∧ i < ρ'.length then (if sub x c = true then (match g x (ρ'.set i none) with
      | .nx ρ2 => .nx (ρ2.set i none)
      | .rt d => .rt d
      | _ => .stuck) else .raise x ρ') else .stuck
  | r => r
theorem EnvR.blank {K : PySem.W.Frag} {mg : Str → Option Value} {α : Al} {ρ : Rho} {σ : St} {H : Hp} (E : EnvR K mg Z own α ρ σ H) (i : Nat) (o : Option V) : EnvR K mg Z own α (ρ.set i none) (σ.set i o) H := by
  have sub : ∀ j (d : D), (ρ.set i none)[j]? = some (some d) → ρ[j]? = some (some d) ∧ i ≠ j := fun j d e => by
    by_cases hj : i = j
    · subst hj
      by_cases hl : i < ρ.length
      · rw [List.getElem?_set_self hl] at e; cases e
      · rw [List.getElem?_eq_none (by simpa using hl)] at e; cases e
    · rw [List.getElem?_set_ne hj] at e
      exact ⟨e, hj⟩
  refine ⟨by rw [List.length_set, List.length_set]; exact E.len, E.same, fun j d e c => ?_, fun j d e c b => ?_, E.dom, E.new, E.inj, E.out, E.fin⟩
  · obtain ⟨e1, n⟩ := sub j d e
    rw [List.getElem?_set_ne n]
    exact E.sh j d e1 c
  · obtain ⟨e1, n⟩ := sub j d e
    rw [List.getElem?_set_ne n]
    exact E.ow j d e1 c b
theorem ds_try {x n : Str} {body suite : List Stmt} {b₀ : Stmt} {np pos pos' : Pos} {fb : FS} {sub : Str → Str → Bool} {xs : List Str} {g : Str → FS} (i : Nat) (hN : X.N.Nodup) (tk : L2N.Takes X W) (T : ExcT X.K X.mg sub xs) (hx : x ∈ xs)
    (hb : ∀ (W : WX) (pn : List (Addr × Obj)) (xe : Value → Shared → Prop), L2N.Takes (X.tr pn xe) W → PassesOwn (model X.prog X.w) X.A X.env xe → DSs (X.tr pn xe) Z own lk W body fb)
    (hsu : DSu X Z own lk i xs (b₀ :: suite) g) (hi : X.N[i]? = some n := by rfl) (hln : X.env.kindOf n = some .local := by rfl) (hg : Gl X x := by rfl) (hdb : (x == ("__debug__" : Str)) = false := by decide) (hs : X.stack = X.env :: X.outer := by rfl) (hf : X.env.frame = some X.env.locals := by rfl) :
    DS X Z own lk W (.Try body [.ExceptHandler (some (.Name x np)) (some n) (b₀ :: suite) pos'] [] [] pos) (fTry fb sub x xs i g) := by
  obtain ⟨C0, hC0, _, _⟩ := T.cls x hx
  refine PS_imp (L2N.ps_try_as (c := .ref C0) (tb := fun W => tS X.K X.mg Z own lk W fb) (ts := fun a cls d D σ H => ∃ y C, y ∈ xs ∧ X.mg y = some (.ref C) ∧ cls = .ref C ∧ d = none ∧ tSu X.K X.mg Z own lk i a (g y) D σ H) hs hf hN hi hln ⟨hg, hdb, .inl hC0⟩ tk hb fun a oe cls d pn hz hd => ?_) ?_
  · constructor
    rintro pins s σ H D I ⟨y, C, hy, hC, rfl, rfl, q⟩
    exact (hsu a C oe pn y hy hC hz hd).run pins s σ H D I q
  · rintro D σ H ⟨α, ρ, E, q⟩
    refine ⟨α, ρ, E, ?_⟩
    unfold fTry at q
    cases hr : fb ρ with
    | nx ρ' => rw [hr] at q; exact q
    | rt d => rw [hr] at q; exact q
    | stuck => rw [hr] at q; exact q
    | raise y ρ' =>
      rw [hr] at q
      intro C α' σ' H' hC E' P'
      by_cases hy : y ∈ xs ∧ i < ρ'.length
      · simp only [if_pos hy] at q
        obtain ⟨C', hC', _, hsub⟩ := T.cls y hy.1
        rw [hC] at hC'; cases hC'
        obtain ⟨C2, hC2, _, hex⟩ := hsub x hx
        rw [hC0] at hC2; cases hC2
        refine ⟨sub y x, hex, fun hb a ha => ?_, fun hb => ?_⟩
        · rw [if_pos hb] at q
          have hil : i < σ'.length := by rw [← E'.len]; exact hy.2
          refine ⟨y, C, hy.1, hC, rfl, rfl, by rw [List.getElem?_set_self hil], α', ρ'.set i none, E'.blank i _, ?_⟩
          cases hg : g y (ρ'.set i none) with
          | nx ρ2 => rw [hg] at q; exact fun α2 σ2 H2 E2 P2 => q α2 _ H2 (E2.blank i none) (P'.trans P2)
          | rt d => rw [hg] at q; exact q
          | raise z ρ2 => rw [hg] at q; exact q.elim
          | stuck => rw [hg] at q; exact q.elim
        · rw [if_neg (by rw [hb]; exact Bool.false_ne_true)] at q
          exact q C α' σ' H' hC E' P'
      · simp only [if_neg hy] at q
        exact q.elim
end
end Sh

namespace Sh
open PySem PySem.Spec PyProof.Rows L2
/-! ### facts of the text -/
structure FnK (P : Program) (w : World) (K : PySem.W.Frag) (mg : Str → Option Value) (base : Heap) (k n : Nat) (x : Str) (m : List D → R D) : Prop where
  ex : ∃ (f : Addr) (fd : FuncData) (ps : List Str), ps.length = n ∧ mg x = some (.ref f) ∧ PySem.W.keepIn K (.ref f) = true ∧ Binds K fd ps [] ∧ FnOk P w K mg base (L2N.CX P w) k f fd ps (spD K mg n m)
structure GlobK (K : PySem.W.Frag) (mg : Str → Option Value) (x : Str) (d : D) : Prop where
  ex : ∃ (v : V) (u : Value), mg x = some u ∧ RelV v u ∧ isBox d = false ∧ ∀ H A, RepV K mg H A d v
theorem glob_int {K : PySem.W.Frag} {mg : Str → Option Value} {x : Str} {i : Int} {t : Tok} (h : mg x = some (.int i t)) : GlobK K mg x (.int i) := ⟨.int i, _, h, ⟨t, rfl⟩, rfl, fun _ _ => .int i⟩
theorem glob_str {K : PySem.W.Frag} {mg : Str → Option Value} {x z : Str} {t : Tok} (h : mg x = some (.str z t)) : GlobK K mg x (.str z) := ⟨.str z, _, h, ⟨t, rfl⟩, rfl, fun _ _ => .str z⟩
theorem glob_tup {K : PySem.W.Frag} {mg : Str → Option Value} {x : Str} {a : Addr} {dd : Option Addr} {its : Array Value} {n : Nat} {sl : Array (Option Value)} {ds : List D} {vs : List V} (h : mg x = some (.ref a)) (l : K.lookup a = some ⟨.type "tuple", dd, .seq its n, sl⟩) (hz : its.size ≤ 16777216) (r : Vals vs its.toList) (q : ∀ H A, RepL K mg H A ds vs) : GlobK K mg x (.tup ds) :=
  ⟨.ref a, _, h, rfl, rfl, fun H A => .tup (.inr fun H' => .inr ⟨_, its, n, l, rfl, rfl, by rw [sl_eq]; exact hz, r⟩) (q H A)⟩
/-- the promise that the law's script meets -/
def spLaw (K : PySem.W.Frag) : Sp := fun vs H Q _ => ∃ (a : Addr) (ns : List Int), vs = [.ref a] ∧ SqL K H a (ns.map V.int) ∧ ns.length ≤ 63 ∧ ∀ H', Q (.bl true) H'
theorem law_sp {K : PySem.W.Frag} {mg : Str → Option Value} {m : List D → R D} (h : ∀ ns : List Int, ns.length ≤ 63 → m [.scr ns] = .ok (.bl true)) (vs : List V) (H : Hp) (Q : VK) (E : XK) (q : spLaw K vs H Q E) : spD K mg 1 m vs H Q E := by
  obtain ⟨a, ns, rfl, hs, hl, q⟩ := q
  refine ⟨rfl, fun _ => False, [.scr ns], fun b z => z.elim, .cons (.scr ?_) .nil, ?_⟩
  · rcases hs with hs | hs
    · exact .inl ⟨hs, fun z => z⟩
    · exact .inr fun H' => .inr hs
  · rw [h ns hl]
    intro v H' s r
    cases r
    exact q H'
theorem no_air {P : Program} {w : World} (H : Hp) (s : Shared) (e : Value) (s' : Shared) (h : L2N.CX P w [] H s (fun _ _ _ => False) e s') : False := by
  obtain ⟨_, _, _, _, _, _, _, _, _, _, _, _, z⟩ := h
  exact z
theorem takes0 {X : Cx} : L2N.Takes X WF := fun u s' ⟨_, _, _, _, _, _, _, _, _, _, _, _, _, _, _, _, z⟩ => z.elim
section
variable {X : Cx} {Z : Fx} {own lk : List Nat} {W : WX} {e : Expr} {es : List Expr} {pos p : Pos} {k n : Nat} {x : Str} {m : List D → R D}
theorem d_const {d : D} (G : GlobK X.K X.mg x d) (hg : Gl X x := by rfl) (hd : (x == ("__debug__" : Str)) = false := by decide) : DF X Z own W (.Name x pos) (fC d) := by
  obtain ⟨v, u, hm, r, hb, rep⟩ := G.ex
  exact d_glob hm r rep hb hg hd
theorem d_fun (F : FnK X.prog X.w X.K X.mg X.base k n x m) (hg : Gl X x := by rfl) (hd : (x == ("__debug__" : Str)) = false := by decide) : DF X Z own W (.Name x pos) (fC (.fn x)) := by
  obtain ⟨f, fd, ps, hl, hm, _⟩ := F.ex
  exact d_fn hm hg hd
theorem d_callK {fa : FA} {j : Nat} (tk : L2N.Takes X W) (F : FnK X.prog X.w X.K X.mg X.base k n x m) (hr : Room j X.A) (ha : DAe X Z own W (e :: es) fa) (hj : k ≤ j := by decide) (hl : (e :: es).length = n := by rfl) (hg : Gl X x := by rfl) (hdb : (x == ("__debug__" : Str)) = false := by decide) (he : starEach (e :: es) X.env = (false, eval e X.env) :: starEach es X.env := by rfl) (hpl : (backTo pos (starEach es X.env)).any (·.1) = false := by rfl) :
    DE X Z own W (.Call (.Name x p) (e :: es) [] pos) (fCall m fa) := by
  obtain ⟨f, fd, ps, hn, hm, hk, hb, G⟩ := F.ex
  subst hn
  exact d_call tk G (hr.mono hj) hm hk hb ha hl hg hdb he hpl
theorem tbl_nil : Tbl X k n [] := ⟨fun y m h => by cases h⟩
theorem tbl_cons {j : Nat} {T : List (Str × (List D → R D))} (F : FnK X.prog X.w X.K X.mg X.base j n x m) (h : j ≤ k) (B : Tbl X k n T) : Tbl X k n ((x, m) :: T) := by
  constructor
  intro y m' hy
  rw [List.lookup_cons] at hy
  split at hy
  · rename_i hx
    cases hy
    have e : y = x := by simpa using hx
    subst e
    obtain ⟨f, fd, ps, hn, hm, hk, hb, G⟩ := F.ex
    exact ⟨f, fd, ps, hn, hm, hk, hb, G.mono h⟩
  · exact B.ok y m' hy
end
theorem u64 {k : Nat} {A : Around} (r : Room k A) : A.units + 64 < cLine := r.units
theorem u65 {k : Nat} {A : Around} (r : Room k A) : A.units + 65 < cLine := by have := r.un; omega
theorem nr_add : NoR2 addD := fun x y c z => by
  unfold addD at z
  split at z
  · cases z
  · split at z <;> cases z
  · split at z <;> cases z
  · split at z <;> cases z
  · cases z
theorem nr_sub : NoR2 subD := fun x y c z => by unfold subD at z; split at z <;> cases z
theorem nr_mul : NoR2 mulD := fun x y c z => by
  unfold mulD at z
  split at z
  · split at z <;> cases z
  · split at z <;> cases z
  · split at z <;> cases z
  · cases z
theorem nr_fdiv : NoR2 fdivD := fun x y c z => by
  unfold fdivD at z
  split at z
  · split at z <;> cases z
  · cases z
theorem nr_mod : NoR2 modD := fun x y c z => by
  unfold modD at z
  split at z
  · split at z <;> cases z
  · cases z
theorem nr_pow : NoR2 powD := fun x y c z => by
  unfold powD at z
  split at z
  · split at z <;> cases z
  · cases z
theorem nr_or : NoR2 orD := fun x y c z => by unfold orD at z; split at z <;> cases z
theorem nr_and : NoR2 andD := fun x y c z => by unfold andD at z; split at z <;> cases z
theorem eqB_nr {a b : D} {c : Str} : eqB a b ≠ .raise c := fun z => by
  unfold eqB at z
  split at z
  · split at z <;> cases z
  · cases z
theorem bl_nr {r : R Bool} {g : Bool → R D} (h : ∀ c, r ≠ .raise c) (h2 : ∀ k c, g k ≠ .raise c) (c : Str) : r.bind g ≠ .raise c := fun z => by
  cases r with
  | ok k => exact h2 k c z
  | raise c' => exact h c' rfl
  | stuck => cases z
theorem nr_eq : NoR2 eqD := fun x y c => bl_nr (fun c => eqB_nr) (fun k c z => by cases z) c
theorem nr_ne : NoR2 neD := fun x y c => bl_nr (fun c => eqB_nr) (fun k c z => by cases z) c
theorem nr_lt : NoR2 (blD ltB) := fun x y c => bl_nr (fun c z => by
  unfold ltB at z
  split at z
  · cases z
  · cases z
  · split at z <;> cases z
  · cases z) (fun k c z => by cases z) c
theorem nr_le : NoR2 (blD leB) := fun x y c => bl_nr (fun c z => by unfold leB at z; split at z <;> cases z) (fun k c z => by cases z) c
theorem nr_gt : NoR2 (blD gtB) := fun x y c => bl_nr (fun c z => by unfold gtB at z; split at z <;> cases z) (fun k c z => by cases z) c
theorem nr_ge : NoR2 (blD geB) := fun x y c => bl_nr (fun c z => by unfold geB at z; split at z <;> cases z) (fun k c z => by cases z) c
theorem inB_nr {a b : D} {c : Str} : inB a b ≠ .raise c := fun z => by
  unfold inB at z
  split at z
  · cases z
  · split at z
    · cases z
    · split at z
      · split at z <;> cases z
      · cases z
  · split at z <;> cases z
  · cases z
theorem nr_in : NoR2 (blD inB) := fun x y c => bl_nr (fun c => inB_nr) (fun k c z => by cases z) c
theorem nr_notin : NoR2 notInD := fun x y c => bl_nr (fun c => inB_nr) (fun k c z => by cases z) c
theorem nr_is : NoR2 isD := fun x y c z => by unfold isD at z; split at z <;> cases z
theorem nr_isnot : NoR2 isNotD := fun x y c z => by unfold isNotD at z; split at z <;> cases z
/-! in-place operators of plain values -/
section
variable {X : Cx}
def iaddD : D → D → R D
  | .int a, .int b => .ok (.int (a + b))
  | .str x, .str y => if x.length + y.length ≤ 16777216 then .ok (.str (x ++ y)) else .stuck
  | _, _ => .stuck
theorem od_iadd : OpD X (inplaceOp .Add) iaddD := by
  intro pins s σ H x y v u Q I rx ry ⟨A, dx, dy, d, hA, h1, h2, e, q⟩
  unfold iaddD at e
  split at e
  · cases e; cases h1.int; cases h2.int
    exact iop_add pins s σ H _ _ v u Q I rx ry ⟨_, _, rfl, rfl, q.imp (Same.refl H) rfl (.int _)⟩
  · split at e
    · rename_i hl; cases e; cases h1.str; cases h2.str
      exact iop_add_str pins s σ H _ _ v u Q I rx ry ⟨_, _, rfl, rfl, by rw [sl_eq]; exact hl, q.imp (Same.refl H) rfl (.str _)⟩
    · cases e
  · cases e
theorem od_isub : OpD X (inplaceOp .Sub) subD := by
  intro pins s σ H x y v u Q I rx ry ⟨A, dx, dy, d, hA, h1, h2, e, q⟩
  unfold subD at e
  split at e
  · cases e; cases h1.int; cases h2.int
    exact iop_sub pins s σ H _ _ v u Q I rx ry ⟨_, _, rfl, rfl, q.imp (Same.refl H) rfl (.int _)⟩
  · cases e
end
theorem nr_iadd : NoR2 iaddD := fun x y c z => by
  unfold iaddD at z
  split at z
  · cases z
  · split at z <;> cases z
  · cases z
theorem NoRG.tup {n : Nat} {gs : List D → Rho → R Rho} (h : ∀ ds ρ c, gs ds ρ ≠ .raise c) : NoRG (gfTup n gs) := fun d ρ c z => by
  unfold gfTup at z
  split at z
  · split at z
    · exact h _ _ _ z
    · cases z
  · cases z
theorem nrg_nil : ∀ ds ρ c, gfNil ds ρ ≠ .raise c := fun ds ρ c z => by unfold gfNil at z; split at z <;> cases z
theorem nrg_cons {g : D → Rho → R Rho} {gs : List D → Rho → R Rho} (h1 : NoRG g) (h : ∀ ds ρ c, gs ds ρ ≠ .raise c) : ∀ ds ρ c, gfCons g gs ds ρ ≠ .raise c := fun ds ρ c z => by
  unfold gfCons at z
  split at z
  · rename_i d r
    cases e : g d ρ with
    | ok ρ' => rw [e] at z; exact h _ _ _ z
    | raise c' => exact h1 _ _ _ e
    | stuck => rw [e] at z; cases z
  · cases z
end Sh

namespace Sh
open PySem PySem.Spec PyProof.Rows L2
/-! ### reckoning with meanings -/
section
variable {α β γ : Type} {c : Prop} [Decidable c]
@[simp] theorem bind_ok (a : α) (k : α → R β) : (R.ok a).bind k = k a := (rfl)
@[simp] theorem bind_raise (x : Str) (k : α → R β) : (R.raise x : R α).bind k = .raise x := (rfl)
@[simp] theorem bind_stuck (k : α → R β) : (R.stuck : R α).bind k = .stuck := (rfl)
@[simp] theorem bind_ite (a b : R α) (k : α → R β) : (if c then a else b).bind k = if c then a.bind k else b.bind k := by split <;> rfl
@[simp] theorem toS_ok (a : α) (ρ : Rho) (k : α → RS) : toS (.ok a) ρ k = k a := (rfl)
@[simp] theorem toS_raise (x : Str) (ρ : Rho) (k : α → RS) : toS (.raise x : R α) ρ k = .raise x ρ := (rfl)
@[simp] theorem toS_stuck (ρ : Rho) (k : α → RS) : toS (.stuck : R α) ρ k = .stuck := (rfl)
@[simp] theorem toS_ite (a b : R α) (ρ : Rho) (k : α → RS) : toS (if c then a else b) ρ k = if c then toS a ρ k else toS b ρ k := by split <;> rfl
end
def RS.seq (r : RS) (g : FS) : RS := match r with
  | .nx ρ' => g ρ'
  | r => r
def RS.fin (r : RS) : R D := match r with
  | .nx _ => .ok .non
  | .rt d => .ok d
  | .raise c _ => .raise c
  | .stuck => .stuck
section
variable {c : Prop} [Decidable c]
@[simp] theorem seq_nx (ρ : Rho) (g : FS) : (RS.nx ρ).seq g = g ρ := (rfl)
@[simp] theorem seq_rt (d : D) (g : FS) : (RS.rt d).seq g = .rt d := (rfl)
@[simp] theorem seq_raise (x : Str) (ρ : Rho) (g : FS) : (RS.raise x ρ).seq g = .raise x ρ := (rfl)
@[simp] theorem seq_stuck (g : FS) : RS.stuck.seq g = .stuck := (rfl)
@[simp] theorem seq_ite (a b : RS) (g : FS) : (if c then a else b).seq g = if c then a.seq g else b.seq g := by split <;> rfl
@[simp] theorem fin_nx (ρ : Rho) : (RS.nx ρ).fin = .ok .non := (rfl)
@[simp] theorem fin_rt (d : D) : (RS.rt d).fin = .ok d := (rfl)
@[simp] theorem fin_raise (x : Str) (ρ : Rho) : (RS.raise x ρ).fin = .raise x := (rfl)
@[simp] theorem fin_stuck : RS.stuck.fin = .stuck := (rfl)
@[simp] theorem fin_ite (a b : RS) : (if c then a else b).fin = if c then a.fin else b.fin := by split <;> rfl
theorem runD_eq (n : Nat) (N : List Str) (f : FS) (ds : List D) : runD n N f ds = if ds.length = n then (f (initD N ds)).fin else .stuck := by
  unfold runD RS.fin
  split <;> rfl
@[simp] theorem fSeq_eq (f g : FS) (ρ : Rho) : fSeq f g ρ = (f ρ).seq g := by unfold fSeq RS.seq; cases f ρ <;> rfl
end
/-- short enough to be walked by a comprehension, to be added to -/
def lcB (ds : List D) : Bool := decide (ds.length ≤ 16777216)
def apB (ds : List D) : Bool := decide (ds.length < 16777216)
theorem lcB_of {ds : List D} (h : ds.length ≤ 9999) : lcB ds = true := decide_eq_true (Nat.le_trans h (of_decide_eq_true rfl))
theorem apB_of {ds : List D} (h : ds.length ≤ 9999) : apB ds = true := decide_eq_true (Nat.lt_of_le_of_lt h (of_decide_eq_true rfl))
section
variable (ρ : Rho)
@[simp] theorem fSkip_eq : fSkip ρ = .nx ρ := (rfl)
@[simp] theorem fVar_cons0 (o : Option D) : fVar 0 (o :: ρ) = match o with | some d => .ok d | none => .stuck := by unfold fVar; cases o <;> rfl
@[simp] theorem fVar_some0 (d : D) : fVar 0 (some d :: ρ) = .ok d := (rfl)
@[simp] theorem fVar_succ (i : Nat) (o : Option D) : fVar (i + 1) (o :: ρ) = fVar i ρ := (rfl)
@[simp] theorem fC_eq (d : D) : fC d ρ = .ok d := (rfl)
@[simp] theorem f2_eq (op : D → D → R D) (fa fb : FE) : f2 op fa fb ρ = (fa ρ).bind fun x => (fb ρ).bind fun y => op x y := (rfl)
@[simp] theorem fNil_eq : fNil ρ = .ok [] := (rfl)
@[simp] theorem fCons_eq (f : FE) (g : FA) : fCons f g ρ = (f ρ).bind fun x => (g ρ).bind fun xs => .ok (x :: xs) := (rfl)
@[simp] theorem fCall_eq (m : List D → R D) (f : FA) : fCall m f ρ = (f ρ).bind m := (rfl)
@[simp] theorem fTup_eq (f : FA) : fTup f ρ = (f ρ).bind fun xs => .ok (.tup xs) := (rfl)
@[simp] theorem fLst_eq (f : FA) : fLst f ρ = (f ρ).bind fun xs => .ok (.lst xs) := (rfl)
@[simp] theorem fOr_eq (fa fb : FE) : fOr fa fb ρ = (fa ρ).bind fun x => (truthD x).bind fun k => if k = true then .ok x else fb ρ := (rfl)
@[simp] theorem fAnd_eq (fa fb : FE) : fAnd fa fb ρ = (fa ρ).bind fun x => (truthD x).bind fun k => if k = true then fb ρ else .ok x := (rfl)
@[simp] theorem fNot_eq (fa : FE) : fNot fa ρ = (fa ρ).bind fun x => (truthD x).bind fun k => .ok (.bl (!k)) := (rfl)
@[simp] theorem fIf_eq (c : FT) (fa fb : FE) : fIf c fa fb ρ = (c ρ).bind fun k => if k = true then fa ρ else fb ρ := (rfl)
@[simp] theorem fAndT_eq (fa fb : FT) : fAndT fa fb ρ = (fa ρ).bind fun k => if k = true then fb ρ else .ok false := (rfl)
@[simp] theorem fOrT_eq (fa fb : FT) : fOrT fa fb ρ = (fa ρ).bind fun k => if k = true then .ok true else fb ρ := (rfl)
@[simp] theorem fNotT_eq (fa : FT) : fNotT fa ρ = (fa ρ).bind fun k => .ok (!k) := (rfl)
@[simp] theorem fTru_eq (f : FE) : fTru f ρ = (f ρ).bind truthD := (rfl)
@[simp] theorem fB_eq (f : FE) : fB f ρ = (f ρ).bind asB := (rfl)
@[simp] theorem asB_bl (b : Bool) : asB (.bl b) = .ok b := (rfl)
@[simp] theorem fCh_eq (op op' : D → D → R D) (fa fb fc : FE) : fCh op op' fa fb fc ρ = (fa ρ).bind fun x => (fb ρ).bind fun y => (op x y).bind fun z => (asB z).bind fun k => if k = true then (fc ρ).bind fun z => op' y z else .ok (.bl false) := (rfl)
@[simp] theorem fNeg_eq (f : FE) : fNeg f ρ = (f ρ).bind fun | .int i => .ok (.int (-i)) | _ => .stuck := (rfl)
@[simp] theorem fIsi_eq (T : String) (f : FE) : fIsi T f ρ = (f ρ).bind (isiD T) := (rfl)
@[simp] theorem fSl_eq (fa : FE) (fl fh : FO) : fSl fa fl fh ρ = (fa ρ).bind fun x => (fl ρ).bind fun l => (fh ρ).bind fun h => cutR l h x := (rfl)
@[simp] theorem fO0_eq : fO0 ρ = .ok none := (rfl)
@[simp] theorem fO1_eq (f : FE) : fO1 f ρ = (f ρ).bind fun | .int i => .ok (some i) | _ => .stuck := (rfl)
@[simp] theorem fSet_eq (i : Nat) (f : FE) : fSet i f ρ = toS (f ρ) ρ fun d => .nx (ρ.set i (some d)) := (rfl)
@[simp] theorem fRet_eq (f : FE) : fRet f ρ = toS (f ρ) ρ fun d => .rt d := (rfl)
@[simp] theorem fRetN_eq : fRetN ρ = .rt .non := (rfl)
@[simp] theorem fIfS_eq (c : FT) (f g : FS) : fIfS c f g ρ = toS (c ρ) ρ fun k => if k = true then f ρ else g ρ := (rfl)
@[simp] theorem fExpr_eq (f : FE) : fExpr f ρ = toS (f ρ) ρ fun _ => .nx ρ := (rfl)
@[simp] theorem fRaise_eq (x : Str) : fRaise x ρ = .raise x ρ := (rfl)
@[simp] theorem fAug_eq (i : Nat) (op : D → D → R D) (f : FE) : fAug i op f ρ = toS ((fVar i ρ).bind fun x => (f ρ).bind fun y => op x y) ρ fun d => .nx (ρ.set i (some d)) := (rfl)
@[simp] theorem fAsg_eq (g : D → Rho → R Rho) (f : FE) : fAsg g f ρ = toS ((f ρ).bind fun d => g d ρ) ρ fun ρ' => .nx ρ' := (rfl)
@[simp] theorem gfName_eq (i : Nat) (d : D) : gfName i d ρ = .ok (ρ.set i (some d)) := (rfl)
@[simp] theorem gfTup_tup (n : Nat) (gs : List D → Rho → R Rho) (ds : List D) : gfTup n gs (.tup ds) ρ = if ds.length = n then gs ds ρ else .stuck := (rfl)
@[simp] theorem gfCons_cons (g : D → Rho → R Rho) (gs : List D → Rho → R Rho) (d : D) (ds : List D) : gfCons g gs (d :: ds) ρ = (g d ρ).bind fun ρ' => gs ds ρ' := (rfl)
@[simp] theorem gfNil_nil : gfNil [] ρ = .ok ρ := (rfl)
@[simp] theorem fYes_eq : fYes ρ = .ok true := (rfl)
@[simp] theorem fRng_eq (r : List D → R (List D)) (f : FA) : fRng r f ρ = (f ρ).bind r := (rfl)
@[simp] theorem fSeqOf_eq (f : FE) : fSeqOf f ρ = (f ρ).bind seqOf := (rfl)
@[simp] theorem fLstOf_eq (i : Nat) : fLstOf i ρ = (fVar i ρ).bind asLst := (rfl)
@[simp] theorem asLst_lst (xs : List D) : asLst (.lst xs) = .ok xs := (rfl)
@[simp] theorem fFor_eq (fi : FI) (g : D → Rho → R Rho) (fb : FS) : fFor fi g fb ρ = toS (fi ρ) ρ fun ds => forF g fb ds ρ := (rfl)
@[simp] theorem fLc_eq (fi : FI) (g : D → Rho → R Rho) (ft : FT) (fe : FE) (vs : List Nat) : fLc fi g ft fe vs ρ = (fi ρ).bind fun ds => if lcB ds = true then (lcF (lcStep g ft fe (wipeD ρ vs)) ds).bind fun ys => .ok (.lst ys) else .stuck := by
  unfold fLc
  congr 1
  funext ds
  by_cases h : ds.length ≤ 16777216
  · rw [if_pos h, if_pos (by first | exact (show lcB ds = true from decide_eq_true h) | exact (show apB xs = true from decide_eq_true h))]
  · rw [if_neg h, if_neg (by unfold lcB; simpa using h)]
@[simp] theorem fApp_eq (i : Nat) (f : FE) : fApp i f ρ = toS ((fVar i ρ).bind fun x => (asLst x).bind fun xs => (f ρ).bind fun y => if apB xs = true then .ok (xs ++ [y]) else .stuck) ρ fun xs => .nx (ρ.set i (some (.lst xs))) := by
  unfold fApp
  congr 2
  funext x
  congr 1
  funext xs
  congr 1
  funext y
  by_cases h : xs.length < 16777216
  · rw [if_pos h, if_pos (by first | exact (show lcB ds = true from decide_eq_true h) | exact (show apB xs = true from decide_eq_true h))]
  · rw [if_neg h, if_neg (by unfold apB; simpa using h)]
@[simp] theorem fSetI_eq (i : Nat) (fk f : FE) : fSetI i fk f ρ = toS ((f ρ).bind fun y => (fVar i ρ).bind fun x => (asLst x).bind fun xs => (fk ρ).bind fun k => setL xs k y) ρ fun xs => .nx (ρ.set i (some (.lst xs))) := (rfl)
@[simp] theorem fAugI_eq (i : Nat) (op : D → D → R D) (fk f : FE) : fAugI i op fk f ρ = toS ((fVar i ρ).bind fun x => (asLst x).bind fun xs => (fk ρ).bind fun k => (getL xs k).bind fun o => (f ρ).bind fun y => (op o y).bind fun z => setL xs k z) ρ fun xs => .nx (ρ.set i (some (.lst xs))) := (rfl)
theorem lcStep_eq (g : D → Rho → R Rho) (ft : FT) (fe : FE) (d : D) : lcStep g ft fe ρ d = (g d ρ).bind fun ρ1 => (ft ρ1).bind fun k => if k = true then (fe ρ1).bind fun y => .ok (some y) else .ok none := rfl
@[simp] theorem wipeD_nil : wipeD ρ [] = ρ := (rfl)
@[simp] theorem wipeD_cons (v : Nat) (vs : List Nat) : wipeD ρ (v :: vs) = (wipeD ρ vs).set v none := (rfl)
end
section
variable (a b : Int) (x y : Str) (p q : Bool)
@[simp] theorem addD_int : addD (.int a) (.int b) = .ok (.int (a + b)) := (rfl)
@[simp] theorem subD_int : subD (.int a) (.int b) = .ok (.int (a - b)) := (rfl)
theorem mulD_int : mulD (.int a) (.int b) = if CMulB a b = true then .ok (.int (a * b)) else .stuck := rfl
theorem CMul_l {a b : Int} (h1 : -(2 ^ 64) < a) (h2 : a < 2 ^ 64) : CMulB a b = true := by
  unfold CMulB
  simp only [Bool.or_eq_true, Bool.and_eq_true, decide_eq_true_eq]
  omega
theorem CMul_r {a b : Int} (h1 : -(2 ^ 64) < b) (h2 : b < 2 ^ 64) : CMulB a b = true := by
  unfold CMulB
  simp only [Bool.or_eq_true, Bool.and_eq_true, decide_eq_true_eq]
  omega
theorem mulD_l {a b : Int} (h1 : -(2 ^ 64) < a) (h2 : a < 2 ^ 64) : mulD (.int a) (.int b) = .ok (.int (a * b)) := by rw [mulD_int, if_pos (CMul_l h1 h2)]
theorem mulD_r {a b : Int} (h1 : -(2 ^ 64) < b) (h2 : b < 2 ^ 64) : mulD (.int a) (.int b) = .ok (.int (a * b)) := by rw [mulD_int, if_pos (CMul_r h1 h2)]
theorem fdivD_int {a b : Int} (h1 : 0 < b) (h2 : b < 1073741824) : fdivD (.int a) (.int b) = .ok (.int (a / b)) := if_pos ⟨h1, h2⟩
theorem modD_int {a b : Int} (h1 : 0 < b) : modD (.int a) (.int b) = .ok (.int (a % b)) := if_pos h1
@[simp] theorem iaddD_int : iaddD (.int a) (.int b) = .ok (.int (a + b)) := (rfl)
@[simp] theorem truth_bl : truthD (.bl p) = .ok p := (rfl)
@[simp] theorem truth_int : truthD (.int a) = .ok (a != 0) := (rfl)
@[simp] theorem truth_non : truthD .non = .ok false := (rfl)
@[simp] theorem truth_tup (xs : List D) : truthD (.tup xs) = .ok (!xs.isEmpty) := (rfl)
@[simp] theorem truth_lst (xs : List D) : truthD (.lst xs) = .ok (!xs.isEmpty) := (rfl)
@[simp] theorem lt_int' : blD ltB (.int a) (.int b) = .ok (.bl (decide (a < b))) := (rfl)
@[simp] theorem le_int' : blD leB (.int a) (.int b) = .ok (.bl (decide (a ≤ b))) := (rfl)
@[simp] theorem gt_int' : blD gtB (.int a) (.int b) = .ok (.bl (decide (b < a))) := (rfl)
@[simp] theorem ge_int' : blD geB (.int a) (.int b) = .ok (.bl (decide (b ≤ a))) := (rfl)
theorem shaped_int (i : Int) : SeqAt.shaped (.int i) = true := rfl
@[simp] theorem eq_int' : eqD (.int a) (.int b) = .ok (.bl (a == b)) := (rfl)
@[simp] theorem ne_int' : neD (.int a) (.int b) = .ok (.bl (!(a == b))) := (rfl)
@[simp] theorem int_int : intD [.int a] = .ok (.int a) := (rfl)
@[simp] theorem abs_int : absD [.int a] = .ok (.int (if a < 0 then -a else a)) := (rfl)
@[simp] theorem len_tup (xs : List D) : lenD [.tup xs] = .ok (.int (xs.length : Nat)) := (rfl)
@[simp] theorem len_lst (xs : List D) : lenD [.lst xs] = .ok (.int (xs.length : Nat)) := (rfl)
@[simp] theorem len_scr (xs : List Int) : lenD [.scr xs] = .ok (.int (xs.length : Nat)) := (rfl)
@[simp] theorem tuple_lst (xs : List D) : tupleD [.lst xs] = .ok (.tup xs) := (rfl)
@[simp] theorem tuple_tup (xs : List D) : tupleD [.tup xs] = .ok (.tup xs) := (rfl)
@[simp] theorem list_lst (xs : List D) : listD [.lst xs] = .ok (.lst xs) := (rfl)
@[simp] theorem list_tup (xs : List D) : listD [.tup xs] = .ok (.lst xs) := (rfl)
@[simp] theorem is_non (d : D) : isD d .non = .ok (.bl (isNonD d)) := (rfl)
@[simp] theorem isnot_non (d : D) : isNotD d .non = .ok (.bl (!isNonD d)) := (rfl)
@[simp] theorem is_bl : isD (.bl p) (.bl q) = .ok (.bl (decide (p = q))) := (rfl)
@[simp] theorem isnot_bl : isNotD (.bl p) (.bl q) = .ok (.bl (!decide (p = q))) := (rfl)
@[simp] theorem seq_lst (xs : List D) : seqOf (.lst xs) = .ok xs := (rfl)
@[simp] theorem seq_tup (xs : List D) : seqOf (.tup xs) = .ok xs := (rfl)
theorem rng1_ok {j : Int} (h0 : 0 ≤ j) (h : j < 2 ^ 62) : rng1 [.int j] = .ok (rngL 0 j.toNat) := if_pos ⟨by omega, h⟩
theorem rng2_ok {i j : Int} (h0 : -(2 ^ 62) ≤ i) (h1 : i < 2 ^ 62) (h2 : -(2 ^ 62) ≤ j) (h : j < 2 ^ 62) : rng2 [.int i, .int j] = .ok (rngL i (j - i).toNat) := if_pos ⟨h0, h1, h2, h⟩
@[simp] theorem rngL_len (lo : Int) (n : Nat) : (rngL lo n).length = n := by simp [rngL]
theorem lcB_rng {lo : Int} {n : Nat} (h : n ≤ 9999) : lcB (rngL lo n) = true := lcB_of (by rw [rngL_len]; exact h)
theorem lcB_map {α : Type} {f : α → D} {xs : List α} (h : xs.length ≤ 9999) : lcB (xs.map f) = true := lcB_of (by rw [List.length_map]; exact h)
theorem apB_map {α : Type} {f : α → D} {xs : List α} (h : xs.length ≤ 9999) : apB (xs.map f) = true := apB_of (by rw [List.length_map]; exact h)
@[simp] theorem lcB_nil : lcB [] = true := (rfl)
@[simp] theorem apB_nil : apB [] = true := (rfl)
end
/-! ### lists of ints and bools -/
theorem ltI_map (ns : List Int) : ltI (ns.map D.int) = some ns := by
  induction ns with
  | nil => rfl
  | cons n r ih => simp only [List.map_cons, ltI, ih, Option.map_some]
theorem toBl_map (bs : List Bool) : toBl (bs.map D.bl) = some bs := by
  induction bs with
  | nil => rfl
  | cons n r ih => simp only [List.map_cons, toBl, ih, Option.map_some]
@[simp] theorem sum_ints (ns : List Int) : sumD [.lst (ns.map D.int)] = .ok (.int ns.sum) := by simp only [sumD, ltI_map]
@[simp] theorem all_bls (bs : List Bool) : allD [.lst (bs.map D.bl)] = .ok (.bl (bs.all id)) := by simp only [allD, toBl_map]
@[simp] theorem any_bls (bs : List Bool) : anyD [.lst (bs.map D.bl)] = .ok (.bl (bs.any id)) := by simp only [anyD, toBl_map]
/-! ### == of plain data -/
mutual
def plainD : D → Bool
  | .non => true | .bl _ => true | .int _ => true
  | .tup xs => plainDs xs
  | .lst xs => plainDs xs
  | _ => false
def plainDs : List D → Bool
  | [] => true
  | x :: xs => plainD x && plainDs xs
end
theorem eq_of_py {a b : D} {p q : PyData} (h1 : toPy a = some p) (h2 : toPy b = some q) (s1 : SeqAt.shaped p = true) (s2 : SeqAt.shaped q = true) : eqD a b = .ok (.bl (PyData.eqv p q)) := by
  unfold eqD eqB
  rw [h1, h2]
  simp [s1, s2]
theorem ne_of_eq' {a b : D} {k : Bool} (h : eqD a b = .ok (.bl k)) : neD a b = .ok (.bl (!k)) := by
  unfold eqD at h
  unfold neD
  cases e : eqB a b with
  | ok k' => rw [e] at h; simp at h; subst h; rfl
  | raise c => rw [e] at h; cases h
  | stuck => rw [e] at h; cases h
theorem toPyL_ints (ns : List Int) : toPyL (ns.map D.int) = some (ns.map PyData.int) := by
  induction ns with
  | nil => rfl
  | cons n r ih => simp only [List.map_cons, toPyL, toPy, ih]
theorem canAll_ints (ns : List Int) : PyData.canLayAll0 (ns.map PyData.int) = true := by
  induction ns with
  | nil => rfl
  | cons n r ih => simp only [List.map_cons, PyData.canLayAll0, PyData.canLay0, ih]; rfl
theorem depthAll_ints (ns : List Int) : PyData.depthAll (ns.map PyData.int) = 0 := by
  induction ns with
  | nil => rfl
  | cons n r ih => simp only [List.map_cons, PyData.depthAll, PyData.depth, ih]; rfl
theorem eqvAll_ints : ∀ (ns ms : List Int), PyData.eqvAll (ns.map PyData.int) (ms.map PyData.int) = decide (ns = ms)
  | [], [] => rfl
  | [], _ :: _ => by simp [PyData.eqvAll]
  | _ :: _, [] => by simp [PyData.eqvAll]
  | n :: r, m :: t => by
    simp only [List.map_cons, PyData.eqvAll, PyData.eqv, eqvAll_ints r t]
    by_cases h : n = m
    · simp [h]
    · simp [h]
theorem shaped_tupI (ns : List Int) : SeqAt.shaped (.tuple (ns.map PyData.int)) = true := by
  unfold SeqAt.shaped PyData.canLay0 PyData.depth
  rw [canAll_ints, depthAll_ints]; rfl
theorem shaped_lstI (ns : List Int) : SeqAt.shaped (.list (ns.map PyData.int)) = true := by
  unfold SeqAt.shaped PyData.canLay0 PyData.depth
  rw [canAll_ints, depthAll_ints]; rfl
theorem eq_tupI (ns ms : List Int) : eqD (.tup (ns.map D.int)) (.tup (ms.map D.int)) = .ok (.bl (decide (ns = ms))) := by
  rw [eq_of_py (p := .tuple (ns.map PyData.int)) (q := .tuple (ms.map PyData.int)) (by simp only [toPy, toPyL_ints]; rfl) (by simp only [toPy, toPyL_ints]; rfl) (shaped_tupI _) (shaped_tupI _)]
  show R.ok (D.bl (PyData.eqvAll _ _)) = _
  rw [eqvAll_ints]
theorem eq_lstI (ns ms : List Int) : eqD (.lst (ns.map D.int)) (.lst (ms.map D.int)) = .ok (.bl (decide (ns = ms))) := by
  rw [eq_of_py (p := .list (ns.map PyData.int)) (q := .list (ms.map PyData.int)) (by simp only [toPy, toPyL_ints]; rfl) (by simp only [toPy, toPyL_ints]; rfl) (shaped_lstI _) (shaped_lstI _)]
  show R.ok (D.bl (PyData.eqvAll _ _)) = _
  rw [eqvAll_ints]
theorem ne_tupI (ns ms : List Int) : neD (.tup (ns.map D.int)) (.tup (ms.map D.int)) = .ok (.bl (!decide (ns = ms))) := ne_of_eq' (eq_tupI ns ms)
theorem ne_lstI (ns ms : List Int) : neD (.lst (ns.map D.int)) (.lst (ms.map D.int)) = .ok (.bl (!decide (ns = ms))) := ne_of_eq' (eq_lstI ns ms)
/-! ### comprehensions and loops -/
theorem lcF_filterMap {α : Type} {step : D → R (Option D)} (emb : α → D) (h : α → Option D) : ∀ (xs : List α), (∀ x ∈ xs, step (emb x) = .ok (h x)) → lcF step (xs.map emb) = .ok (xs.filterMap h)
  | [], _ => rfl
  | x :: r, H => by
    have ih := lcF_filterMap emb h r fun y hy => H y (List.mem_cons_of_mem _ hy)
    simp only [List.map_cons, lcF, H x List.mem_cons_self, ih]
    cases e : h x with
    | none => simp [List.filterMap_cons, e]
    | some d => simp [List.filterMap_cons, e]
theorem lcF_map {α : Type} {step : D → R (Option D)} (emb : α → D) (h : α → D) (xs : List α) (H : ∀ x ∈ xs, step (emb x) = .ok (some (h x))) : lcF step (xs.map emb) = .ok (xs.map h) := by
  rw [lcF_filterMap emb (fun x => some (h x)) xs H, List.filterMap_eq_map']
theorem forF_ind {g : D → Rho → R Rho} {fb : FS} (P : List D → Rho → Prop) : ∀ {ds : List D} {ρ : Rho}, P ds ρ → (∀ d ds ρ, P (d :: ds) ρ → ∃ ρ1 ρ2, g d ρ = .ok ρ1 ∧ fb ρ1 = .nx ρ2 ∧ P ds ρ2) → ∃ ρ', forF g fb ds ρ = .nx ρ' ∧ P [] ρ'
  | [], ρ, h, _ => ⟨ρ, rfl, h⟩
  | d :: ds, ρ, h, hs => by
    obtain ⟨ρ1, ρ2, e1, e2, h2⟩ := hs d ds ρ h
    obtain ⟨ρ', e, h'⟩ := forF_ind P h2 hs
    exact ⟨ρ', by simp only [forF, e1, toS_ok, e2]; exact e, h'⟩
@[simp] theorem forF_nil (g : D → Rho → R Rho) (fb : FS) (ρ : Rho) : forF g fb [] ρ = .nx ρ := (rfl)
theorem forF_cons (g : D → Rho → R Rho) (fb : FS) (d : D) (ds : List D) (ρ : Rho) : forF g fb (d :: ds) ρ = toS (g d ρ) ρ fun ρ1 => (fb ρ1).seq (forF g fb ds) := by
  unfold forF RS.seq
  congr 1
theorem fWhile_ind {fc : FT} {fb : FS} (P : Rho → Prop) (m : Rho → Nat) : ∀ (n : Nat) {ρ : Rho}, m ρ ≤ n → P ρ → (∀ ρ, P ρ → (fc ρ = .ok true ∧ ∃ ρ', fb ρ = .nx ρ' ∧ P ρ' ∧ m ρ' < m ρ) ∨ fc ρ = .ok false) → ∃ ρ', fWhile fc fb ρ = .nx ρ' ∧ P ρ' ∧ fc ρ' = .ok false
  | 0, ρ, hm, h, hs => by
    rcases hs ρ h with ⟨e, ρ', e2, h2, hl⟩ | e
    · omega
    · exact ⟨ρ, by rw [fWhile_eq, e]; rfl, h, e⟩
  | n + 1, ρ, hm, h, hs => by
    rcases hs ρ h with ⟨e, ρ', e2, h2, hl⟩ | e
    · obtain ⟨ρ2, q1, q2, q3⟩ := fWhile_ind P m n (by omega) h2 hs
      exact ⟨ρ2, by rw [fWhile_eq, e]; simp only [toS_ok, if_pos, e2]; exact q1, q2, q3⟩
    · exact ⟨ρ, by rw [fWhile_eq, e]; rfl, h, e⟩
theorem atI_nn {α : Type} {xs : List α} {i : Int} (h0 : 0 ≤ i) (h1 : i.toNat < xs.length) : atI xs i = some (xs[i.toNat]) := by
  have := atI_nat (xs := xs) (j := i.toNat) (v := xs[i.toNat]) (by simp [h1])
  rw [← this]; congr 1; omega
end Sh

namespace Sh
open PySem PySem.Spec PyProof.Rows L2
@[simp] theorem isi_bool_int (i : Int) : isiD "bool" (.int i) = .ok (.bl false) := (rfl)
@[simp] theorem isi_bool_bl (b : Bool) : isiD "bool" (.bl b) = .ok (.bl true) := (rfl)
@[simp] theorem isi_bool_str (s : Str) : isiD "bool" (.str s) = .ok (.bl false) := (rfl)
@[simp] theorem isi_bool_tup (xs : List D) : isiD "bool" (.tup xs) = .ok (.bl false) := (rfl)
@[simp] theorem isi_bool_lst (xs : List D) : isiD "bool" (.lst xs) = .ok (.bl false) := (rfl)
@[simp] theorem isi_bool_non  : isiD "bool" (.non) = .ok (.bl false) := (rfl)
@[simp] theorem isi_int_int (i : Int) : isiD "int" (.int i) = .ok (.bl true) := (rfl)
@[simp] theorem isi_int_bl (b : Bool) : isiD "int" (.bl b) = .ok (.bl true) := (rfl)
@[simp] theorem isi_int_str (s : Str) : isiD "int" (.str s) = .ok (.bl false) := (rfl)
@[simp] theorem isi_int_tup (xs : List D) : isiD "int" (.tup xs) = .ok (.bl false) := (rfl)
@[simp] theorem isi_int_lst (xs : List D) : isiD "int" (.lst xs) = .ok (.bl false) := (rfl)
@[simp] theorem isi_int_non  : isiD "int" (.non) = .ok (.bl false) := (rfl)
@[simp] theorem isi_str_int (i : Int) : isiD "str" (.int i) = .ok (.bl false) := (rfl)
@[simp] theorem isi_str_bl (b : Bool) : isiD "str" (.bl b) = .ok (.bl false) := (rfl)
@[simp] theorem isi_str_str (s : Str) : isiD "str" (.str s) = .ok (.bl true) := (rfl)
@[simp] theorem isi_str_tup (xs : List D) : isiD "str" (.tup xs) = .ok (.bl false) := (rfl)
@[simp] theorem isi_str_lst (xs : List D) : isiD "str" (.lst xs) = .ok (.bl false) := (rfl)
@[simp] theorem isi_str_non  : isiD "str" (.non) = .ok (.bl false) := (rfl)
@[simp] theorem isi_tuple_int (i : Int) : isiD "tuple" (.int i) = .ok (.bl false) := (rfl)
@[simp] theorem isi_tuple_bl (b : Bool) : isiD "tuple" (.bl b) = .ok (.bl false) := (rfl)
@[simp] theorem isi_tuple_str (s : Str) : isiD "tuple" (.str s) = .ok (.bl false) := (rfl)
@[simp] theorem isi_tuple_tup (xs : List D) : isiD "tuple" (.tup xs) = .ok (.bl true) := (rfl)
@[simp] theorem isi_tuple_lst (xs : List D) : isiD "tuple" (.lst xs) = .ok (.bl false) := (rfl)
@[simp] theorem isi_tuple_non  : isiD "tuple" (.non) = .ok (.bl false) := (rfl)
@[simp] theorem isi_list_int (i : Int) : isiD "list" (.int i) = .ok (.bl false) := (rfl)
@[simp] theorem isi_list_bl (b : Bool) : isiD "list" (.bl b) = .ok (.bl false) := (rfl)
@[simp] theorem isi_list_str (s : Str) : isiD "list" (.str s) = .ok (.bl false) := (rfl)
@[simp] theorem isi_list_tup (xs : List D) : isiD "list" (.tup xs) = .ok (.bl false) := (rfl)
@[simp] theorem isi_list_lst (xs : List D) : isiD "list" (.lst xs) = .ok (.bl true) := (rfl)
@[simp] theorem isi_list_non  : isiD "list" (.non) = .ok (.bl false) := (rfl)
@[simp] theorem isi_dict_int (i : Int) : isiD "dict" (.int i) = .ok (.bl false) := (rfl)
@[simp] theorem isi_dict_bl (b : Bool) : isiD "dict" (.bl b) = .ok (.bl false) := (rfl)
@[simp] theorem isi_dict_str (s : Str) : isiD "dict" (.str s) = .ok (.bl false) := (rfl)
@[simp] theorem isi_dict_tup (xs : List D) : isiD "dict" (.tup xs) = .ok (.bl false) := (rfl)
@[simp] theorem isi_dict_lst (xs : List D) : isiD "dict" (.lst xs) = .ok (.bl false) := (rfl)
@[simp] theorem isi_dict_non  : isiD "dict" (.non) = .ok (.bl false) := (rfl)
@[simp] theorem idx_tup0 (a0 : D) (xs : List D) : idxD (.tup (a0 :: xs)) (.int 0) = .ok a0 := by
  have : atI (a0 :: xs) 0 = some a0 := atI_nn (xs := a0 :: xs) (i := 0) (by decide) (by simp)
  simp only [idxD, this]
@[simp] theorem idx_lst0 (a0 : D) (xs : List D) : idxD (.lst (a0 :: xs)) (.int 0) = .ok a0 := by
  have : atI (a0 :: xs) 0 = some a0 := atI_nn (xs := a0 :: xs) (i := 0) (by decide) (by simp)
  simp only [idxD, this]
@[simp] theorem idx_tup1 (a0 a1 : D) (xs : List D) : idxD (.tup (a0 :: a1 :: xs)) (.int 1) = .ok a1 := by
  have : atI (a0 :: a1 :: xs) 1 = some a1 := atI_nn (xs := a0 :: a1 :: xs) (i := 1) (by decide) (by simp)
  simp only [idxD, this]
@[simp] theorem idx_lst1 (a0 a1 : D) (xs : List D) : idxD (.lst (a0 :: a1 :: xs)) (.int 1) = .ok a1 := by
  have : atI (a0 :: a1 :: xs) 1 = some a1 := atI_nn (xs := a0 :: a1 :: xs) (i := 1) (by decide) (by simp)
  simp only [idxD, this]
@[simp] theorem idx_tup2 (a0 a1 a2 : D) (xs : List D) : idxD (.tup (a0 :: a1 :: a2 :: xs)) (.int 2) = .ok a2 := by
  have : atI (a0 :: a1 :: a2 :: xs) 2 = some a2 := atI_nn (xs := a0 :: a1 :: a2 :: xs) (i := 2) (by decide) (by simp)
  simp only [idxD, this]
@[simp] theorem idx_lst2 (a0 a1 a2 : D) (xs : List D) : idxD (.lst (a0 :: a1 :: a2 :: xs)) (.int 2) = .ok a2 := by
  have : atI (a0 :: a1 :: a2 :: xs) 2 = some a2 := atI_nn (xs := a0 :: a1 :: a2 :: xs) (i := 2) (by decide) (by simp)
  simp only [idxD, this]
@[simp] theorem idx_tup3 (a0 a1 a2 a3 : D) (xs : List D) : idxD (.tup (a0 :: a1 :: a2 :: a3 :: xs)) (.int 3) = .ok a3 := by
  have : atI (a0 :: a1 :: a2 :: a3 :: xs) 3 = some a3 := atI_nn (xs := a0 :: a1 :: a2 :: a3 :: xs) (i := 3) (by decide) (by simp)
  simp only [idxD, this]
@[simp] theorem idx_lst3 (a0 a1 a2 a3 : D) (xs : List D) : idxD (.lst (a0 :: a1 :: a2 :: a3 :: xs)) (.int 3) = .ok a3 := by
  have : atI (a0 :: a1 :: a2 :: a3 :: xs) 3 = some a3 := atI_nn (xs := a0 :: a1 :: a2 :: a3 :: xs) (i := 3) (by decide) (by simp)
  simp only [idxD, this]
@[simp] theorem idx_tup4 (a0 a1 a2 a3 a4 : D) (xs : List D) : idxD (.tup (a0 :: a1 :: a2 :: a3 :: a4 :: xs)) (.int 4) = .ok a4 := by
  have : atI (a0 :: a1 :: a2 :: a3 :: a4 :: xs) 4 = some a4 := atI_nn (xs := a0 :: a1 :: a2 :: a3 :: a4 :: xs) (i := 4) (by decide) (by simp)
  simp only [idxD, this]
@[simp] theorem idx_lst4 (a0 a1 a2 a3 a4 : D) (xs : List D) : idxD (.lst (a0 :: a1 :: a2 :: a3 :: a4 :: xs)) (.int 4) = .ok a4 := by
  have : atI (a0 :: a1 :: a2 :: a3 :: a4 :: xs) 4 = some a4 := atI_nn (xs := a0 :: a1 :: a2 :: a3 :: a4 :: xs) (i := 4) (by decide) (by simp)
  simp only [idxD, this]
@[simp] theorem idx_tup5 (a0 a1 a2 a3 a4 a5 : D) (xs : List D) : idxD (.tup (a0 :: a1 :: a2 :: a3 :: a4 :: a5 :: xs)) (.int 5) = .ok a5 := by
  have : atI (a0 :: a1 :: a2 :: a3 :: a4 :: a5 :: xs) 5 = some a5 := atI_nn (xs := a0 :: a1 :: a2 :: a3 :: a4 :: a5 :: xs) (i := 5) (by decide) (by simp)
  simp only [idxD, this]
@[simp] theorem idx_lst5 (a0 a1 a2 a3 a4 a5 : D) (xs : List D) : idxD (.lst (a0 :: a1 :: a2 :: a3 :: a4 :: a5 :: xs)) (.int 5) = .ok a5 := by
  have : atI (a0 :: a1 :: a2 :: a3 :: a4 :: a5 :: xs) 5 = some a5 := atI_nn (xs := a0 :: a1 :: a2 :: a3 :: a4 :: a5 :: xs) (i := 5) (by decide) (by simp)
  simp only [idxD, this]
@[simp] theorem idx_tup6 (a0 a1 a2 a3 a4 a5 a6 : D) (xs : List D) : idxD (.tup (a0 :: a1 :: a2 :: a3 :: a4 :: a5 :: a6 :: xs)) (.int 6) = .ok a6 := by
  have : atI (a0 :: a1 :: a2 :: a3 :: a4 :: a5 :: a6 :: xs) 6 = some a6 := atI_nn (xs := a0 :: a1 :: a2 :: a3 :: a4 :: a5 :: a6 :: xs) (i := 6) (by decide) (by simp)
  simp only [idxD, this]
@[simp] theorem idx_lst6 (a0 a1 a2 a3 a4 a5 a6 : D) (xs : List D) : idxD (.lst (a0 :: a1 :: a2 :: a3 :: a4 :: a5 :: a6 :: xs)) (.int 6) = .ok a6 := by
  have : atI (a0 :: a1 :: a2 :: a3 :: a4 :: a5 :: a6 :: xs) 6 = some a6 := atI_nn (xs := a0 :: a1 :: a2 :: a3 :: a4 :: a5 :: a6 :: xs) (i := 6) (by decide) (by simp)
  simp only [idxD, this]
@[simp] theorem idx_tup7 (a0 a1 a2 a3 a4 a5 a6 a7 : D) (xs : List D) : idxD (.tup (a0 :: a1 :: a2 :: a3 :: a4 :: a5 :: a6 :: a7 :: xs)) (.int 7) = .ok a7 := by
  have : atI (a0 :: a1 :: a2 :: a3 :: a4 :: a5 :: a6 :: a7 :: xs) 7 = some a7 := atI_nn (xs := a0 :: a1 :: a2 :: a3 :: a4 :: a5 :: a6 :: a7 :: xs) (i := 7) (by decide) (by simp)
  simp only [idxD, this]
@[simp] theorem idx_lst7 (a0 a1 a2 a3 a4 a5 a6 a7 : D) (xs : List D) : idxD (.lst (a0 :: a1 :: a2 :: a3 :: a4 :: a5 :: a6 :: a7 :: xs)) (.int 7) = .ok a7 := by
  have : atI (a0 :: a1 :: a2 :: a3 :: a4 :: a5 :: a6 :: a7 :: xs) 7 = some a7 := atI_nn (xs := a0 :: a1 :: a2 :: a3 :: a4 :: a5 :: a6 :: a7 :: xs) (i := 7) (by decide) (by simp)
  simp only [idxD, this]
@[simp] theorem idx_tup8 (a0 a1 a2 a3 a4 a5 a6 a7 a8 : D) (xs : List D) : idxD (.tup (a0 :: a1 :: a2 :: a3 :: a4 :: a5 :: a6 :: a7 :: a8 :: xs)) (.int 8) = .ok a8 := by
  have : atI (a0 :: a1 :: a2 :: a3 :: a4 :: a5 :: a6 :: a7 :: a8 :: xs) 8 = some a8 := atI_nn (xs := a0 :: a1 :: a2 :: a3 :: a4 :: a5 :: a6 :: a7 :: a8 :: xs) (i := 8) (by decide) (by simp)
  simp only [idxD, this]
@[simp] theorem idx_lst8 (a0 a1 a2 a3 a4 a5 a6 a7 a8 : D) (xs : List D) : idxD (.lst (a0 :: a1 :: a2 :: a3 :: a4 :: a5 :: a6 :: a7 :: a8 :: xs)) (.int 8) = .ok a8 := by
  have : atI (a0 :: a1 :: a2 :: a3 :: a4 :: a5 :: a6 :: a7 :: a8 :: xs) 8 = some a8 := atI_nn (xs := a0 :: a1 :: a2 :: a3 :: a4 :: a5 :: a6 :: a7 :: a8 :: xs) (i := 8) (by decide) (by simp)
  simp only [idxD, this]
theorem atI_last {α : Type} (xs : List α) (a : α) : atI (xs ++ [a]) (-1) = some a := by
  unfold atI ixN
  have : (-1 + ((xs.length : Int) + 1)).toNat = xs.length := by omega
  have h1 : (1 : Int) ≤ (xs.length : Int) + 1 := by omega
  simp [this, h1]
theorem idx_tup_nn {xs : List D} {i : Int} (h0 : 0 ≤ i) (h1 : i.toNat < xs.length) : idxD (.tup xs) (.int i) = .ok (xs[i.toNat]) := by
  simp only [idxD, atI_nn h0 h1]
theorem idx_tup_ints {xs : List Int} {i : Int} (h0 : 0 ≤ i) (h1 : i.toNat < xs.length) : idxD (.tup (xs.map D.int)) (.int i) = .ok (.int (xs[i.toNat])) := by
  rw [idx_tup_nn h0 (by simpa using h1)]; simp
theorem idx_tup_last (xs : List D) (a : D) : idxD (.tup (xs ++ [a])) (.int (-1)) = .ok a := by
  simp only [idxD, atI_last]
theorem idx_lst_nn {xs : List D} {i : Int} (h0 : 0 ≤ i) (h1 : i.toNat < xs.length) : idxD (.lst xs) (.int i) = .ok (xs[i.toNat]) := by
  simp only [idxD, atI_nn h0 h1]
theorem idx_lst_ints {xs : List Int} {i : Int} (h0 : 0 ≤ i) (h1 : i.toNat < xs.length) : idxD (.lst (xs.map D.int)) (.int i) = .ok (.int (xs[i.toNat])) := by
  rw [idx_lst_nn h0 (by simpa using h1)]; simp
theorem idx_lst_last (xs : List D) (a : D) : idxD (.lst (xs ++ [a])) (.int (-1)) = .ok a := by
  simp only [idxD, atI_last]
theorem lcF_rng {step : D → R (Option D)} (lo : Int) (n : Nat) (h : Nat → D) (H : ∀ k, k < n → step (.int (lo + (k : Nat))) = .ok (some (h k))) : lcF step (rngL lo n) = .ok ((List.range n).map h) :=
  lcF_map (fun k : Nat => D.int (lo + (k : Int))) h _ fun k hk => H k (List.mem_range.mp hk)
@[simp] theorem sum_map {α : Type} (f : α → Int) (xs : List α) : sumD [.lst (xs.map fun x => D.int (f x))] = .ok (.int (xs.map f).sum) := by
  rw [← sum_ints, List.map_map]; rfl
@[simp] theorem all_map {α : Type} (f : α → Bool) (xs : List α) : allD [.lst (xs.map fun x => D.bl (f x))] = .ok (.bl (xs.all f)) := by
  have := all_bls (xs.map f)
  rw [List.map_map] at this
  rw [show (fun x => D.bl (f x)) = D.bl ∘ f from rfl, this]; simp
@[simp] theorem any_map {α : Type} (f : α → Bool) (xs : List α) : anyD [.lst (xs.map fun x => D.bl (f x))] = .ok (.bl (xs.any f)) := by
  have := any_bls (xs.map f)
  rw [List.map_map] at this
  rw [show (fun x => D.bl (f x)) = D.bl ∘ f from rfl, this]; simp
theorem rngL_succ (lo : Int) (n : Nat) : rngL lo (n + 1) = .int lo :: rngL (lo + 1) n := by
  unfold rngL
  rw [List.range_succ_eq_map, List.map_cons, List.map_map]
  congr 1
  · simp
  · apply List.map_congr_left
    intro k _
    simp only [Function.comp_apply]
    congr 1
    omega
theorem forF_rng {g : D → Rho → R Rho} {fb : FS} (P : Nat → Rho → Prop) (lo : Int) : ∀ (n k : Nat) {ρ : Rho}, P k ρ → (∀ j ρ, k ≤ j → j < k + n → P j ρ → ∃ ρ1 ρ2, g (.int (lo + j)) ρ = .ok ρ1 ∧ fb ρ1 = .nx ρ2 ∧ P (j + 1) ρ2) → ∃ ρ', forF g fb (rngL (lo + k) n) ρ = .nx ρ' ∧ P (k + n) ρ'
  | 0, k, ρ, h, _ => ⟨ρ, rfl, h⟩
  | n + 1, k, ρ, h, hs => by
    obtain ⟨ρ1, ρ2, e1, e2, h2⟩ := hs k ρ (Nat.le_refl _) (by omega) h
    obtain ⟨ρ', e, h'⟩ := forF_rng P lo n (k + 1) h2 fun j ρ h1 h3 => hs j ρ (by omega) (by omega)
    refine ⟨ρ', ?_, by rw [show k + (n + 1) = k + 1 + n by omega]; exact h'⟩
    rw [rngL_succ, forF_cons, e1, toS_ok, e2, seq_nx]
    rw [← e]; congr 2
    omega
theorem forF_rng0 {g : D → Rho → R Rho} {fb : FS} (P : Nat → Rho → Prop) (n : Nat) {ρ : Rho} (h : P 0 ρ) (hs : ∀ j ρ, j < n → P j ρ → ∃ ρ1 ρ2, g (.int (j : Nat)) ρ = .ok ρ1 ∧ fb ρ1 = .nx ρ2 ∧ P (j + 1) ρ2) : ∃ ρ', forF g fb (rngL 0 n) ρ = .nx ρ' ∧ P n ρ' := by
  obtain ⟨ρ', e, h'⟩ := forF_rng (g := g) (fb := fb) P 0 n 0 h fun j ρ _ h2 hp => by
    have := hs j ρ (by omega) hp
    simpa using this
  exact ⟨ρ', by simpa using e, by simpa using h'⟩
theorem fCallV_eq {T : List (Str × (List D → R D))} {i : Nat} {fa : FA} {ρ : Rho} {y : Str} {m : List D → R D} (h : fVar i ρ = .ok (.fn y)) (hl : T.lookup y = some m) : fCallV T i fa ρ = (fa ρ).bind m := by
  unfold fCallV
  rw [h]
  show (match T.lookup y with
    | some m => (fa ρ).bind m
    | none => .stuck) = _
  rw [hl]
theorem fTry_is {fb : FS} {sub : Str → Str → Bool} {c : Str} {xs : List Str} {i : Nat} {cs : List (Str × Str)} {fx : FE} {x n : Str} {ρ ρ' : Rho} (h : fb ρ = .raise x ρ') (hx : x ∈ xs) (hi : i < ρ'.length) (hs : sub x c = true) (hf : fx (ρ'.set i none) = .ok (.str n)) : fTry fb sub c xs i (fIs sub cs fx) ρ = .rt (.bl (isL sub x cs n)) := by
  unfold fTry
  rw [h]
  simp only [if_pos (And.intro hx hi), if_pos hs]
  unfold fIs
  rw [hf]
  rfl
theorem fTry_nx {fb : FS} {sub : Str → Str → Bool} {c : Str} {xs : List Str} {i : Nat} {g : Str → FS} {ρ ρ' : Rho} (h : fb ρ = .nx ρ') : fTry fb sub c xs i g ρ = .nx ρ' := by
  unfold fTry
  rw [h]
theorem fTry_rt {fb : FS} {sub : Str → Str → Bool} {c : Str} {xs : List Str} {i : Nat} {g : Str → FS} {ρ : Rho} {d : D} (h : fb ρ = .rt d) : fTry fb sub c xs i g ρ = .rt d := by
  unfold fTry
  rw [h]
end Sh

namespace Sh
open PySem PySem.Spec PyProof.Rows L2
/-! ### try with several except suites, each with a name of its own or none -/
abbrev HdL := List (Value × Option Nat × (Addr → Value → Option Addr → TS))
def wMs (K : PySem.W.Frag) (Wo : WX) (D : Ends) : HdL → WX
  | [] => Wo
  | (cv, oi, ts) :: r => fun k d σ H => ∃ b, PySem.W.exmOne K k cv = some b ∧
      (b = true → ∀ a, H a = none → match oi with
        | none => ts a k d D σ H
        | some i => ts a k d { nx := fun σ' H' => D.nx (σ'.set i none) H', rt := D.rt, bk := fun σ' H' => D.bk (σ'.set i none) H', ct := fun σ' H' => D.ct (σ'.set i none) H' } (σ.set i (some (.ref a))) H) ∧
      (b = false → wMs K Wo D r k d σ H)
inductive HdK (X : Cx) : List ExceptHandler → HdL → Prop
  | nil : HdK X [] []
  | bare {x : Str} {cv : Value} {ts : Addr → Value → Option Addr → TS} {b0 : Stmt} {su : List Stmt} {p p' : Pos} {hl : List ExceptHandler} {l : HdL} : Names X x cv →
      (∀ (e : Addr) (oe : Obj) (k : Value) (d : Option Addr) (pn : List (Addr × Obj)), L2N.Zn k d oe → (∃ vs, oe.data = .fields vs) → PSs (X.suite e ((e, oe) :: pn)) (b0 :: su) (ts e k d)) → HdK X hl l →
      HdK X (.ExceptHandler (some (.Name x p)) none (b0 :: su) p' :: hl) ((cv, none, ts) :: l)
  | named {x n : Str} {i : Nat} {cv : Value} {ts : Addr → Value → Option Addr → TS} {b0 : Stmt} {su : List Stmt} {p p' : Pos} {hl : List ExceptHandler} {l : HdL} : Names X x cv → X.N[i]? = some n → X.env.kindOf n = some .local →
      (∀ (e : Addr) (oe : Obj) (k : Value) (d : Option Addr) (pn : List (Addr × Obj)), L2N.Zn k d oe → (∃ vs, oe.data = .fields vs) → PSs (X.suite e ((e, oe) :: pn)) (b0 :: su) (ts e k d)) → HdK X hl l →
      HdK X (.ExceptHandler (some (.Name x p)) (some n) (b0 :: su) p' :: hl) ((cv, some i, ts) :: l)
section
variable {X : Cx} {bd : List Stmt} {hd : ExceptHandler} {hl : List ExceptHandler} {l : HdL} {pos : Pos} {tb : WX → TS} {Wo : WX}
theorem ps_tryM (st : X.stack = X.env :: X.outer) (fr : X.env.frame = some X.env.locals) (nd : X.N.Nodup) (tk : L2N.Takes X Wo)
    (hb : ∀ (W : WX) (pn : List (Addr × Obj)) (xe : Value → Shared → Prop), L2N.Takes (X.tr pn xe) W → PassesOwn (model X.prog X.w) X.A X.env xe → PSs (X.tr pn xe) bd (tb W))
    (hk : HdK X (hd :: hl) l) : PS X (.Try bd (hd :: hl) [] [] pos) (fun D σ H => tb (wMs X.K Wo D l) D σ H) := by
  constructor
  intro pins s σ H D I w0
  have okX := I.ok
  have frm : X.A.frames = some (X.env :: X.outer) := by rw [okX.frames, st]
  refine wpAny_Try_except ?_
  have main : ∀ (u : Value) (s1 : Shared), L2N.XE (X.tr (X.pn ++ pins) (fun e q1 => wpAny (model X.prog X.w) X.A (noteFrame e X.env) (fun _ q2 => wpAny (model X.prog X.w) X.A (setFlight e none) (fun _ q3 =>
      wpAny (model X.prog X.w) X.A (handleBy e X.env (hd :: hl)) (SP X pins D) X.xe q3) X.xe q2) X.xe q1)) (wMs X.K Wo D l) u s1 →
      wpAny (model X.prog X.w) X.A (noteFrame u X.env) (fun _ q2 => wpAny (model X.prog X.w) X.A (setFlight u none) (fun _ q3 => wpAny (model X.prog X.w) X.A (handleBy u X.env (hd :: hl)) (SP X pins D) X.xe q3) X.xe q2) X.xe s1 := by
    intro u s1 xx
    obtain ⟨e, B, s0, pins1, σ1, H1, k, d, rfl, U', nb, up, sw, ne, oss, gs, w⟩ := xx
    have U : Inv X pins σ1 H1 s0 := U'.ofTry okX
    have sw2 : Sky B (X.env :: X.outer) e (L2N.Zn k d) X.env.locals s1.heap := by rw [← st]; exact sw
    refine L2N.Sky.land L2N.Zn.steady frm fr sw2 fun g3 f3 u3 => ?_
    have U3 : Inv X pins σ1 H1 { s1 with heap := g3 } := U.landed nb f3.1 (up.trans u3) oss gs
    obtain ⟨o3, w3, e3, z3, d3⟩ := f3.there
    have away : e ∉ frs (X.env :: X.outer) := fun hm => by
      obtain ⟨_, o', e', hnf⟩ := f3.2.2.1.mem hm
      rw [e3] at e'; cases e'
      exact hnf _ d3
    have n1 : e ≠ X.env.locals := fun z => away (List.mem_filterMap.mpr ⟨X.env, List.mem_cons_self, by rw [fr, z]⟩)
    have n2 : e ∉ X.fs := fun hm => by
      obtain ⟨y, hy, q⟩ := List.mem_filterMap.mp hm
      exact away (List.mem_filterMap.mpr ⟨y, List.mem_cons_of_mem _ hy, q⟩)
    have V3 := U3.suite e3 d3 ne n1 n2
    have test : ∀ {x : Str} {cv : Value} {np : Pos} {Q E : Value → Shared → Prop}, Names X x cv → Q cv { s1 with heap := g3 } → wpAny (model X.prog X.w) (X.A.mark (some (.ref e))) (eval (.Name x np) X.env) Q E { s1 with heap := g3 } := by
      intro x cv np Q E hc q
      obtain ⟨hg, hdb, hm | ⟨hm, hv, hnn⟩⟩ := hc
      · exact ld_glob (X := X.suite e ((e, o3) :: (X.pn ++ pins))) V3 hg hm q hdb
      · exact ld_blt (X := X.suite e ((e, o3) :: (X.pn ++ pins))) V3 hg hm hv q hnn hdb
    have match_ : ∀ {cv : Value} {b : Bool}, PySem.W.exmOne X.K k cv = some b → _ := fun {cv b} h1 =>
      PySem.W.exm_one (M := model X.prog X.w) (U3.kIn) (show PySem.W.Looks (model X.prog X.w) g3 (typeOf (.ref e)) k from fun A Q E s t q => wpAny_typeOf_ref (t _ _ e3) (by rw [z3.1]; exact q)) h1
    have go : ∀ {hs' : List ExceptHandler} {l' : HdL}, HdK X hs' l' → wMs X.K Wo D l' k d σ1 H1 → wpAny (model X.prog X.w) X.A (handleBy (.ref e) X.env hs') (SP X pins D) X.xe { s1 with heap := g3 } := by
      intro hs' l' hk'
      induction hk' with
      | nil =>
        intro w
        refine wpAny_handleBy_nil ?_
        obtain ⟨_, _, _, o, vs, T, oT, ts', ho, hz, hd', hh1, _⟩ := id f3
        unfold PySem.passOn
        refine wpAny_bind (wpAny_field ho hd' hh1 ?_)
        rw [if_neg (show ¬ ((Value.ref T == Value.none) = true) by simp)]
        have last : wpAny (model X.prog X.w) X.A (setFlight (.ref e) X.env.frame) (fun _ q4 => wpAny (model X.prog X.w) X.A (throw (.ref e) : Sem Flow) (SP X pins D) X.xe q4) X.xe { s1 with heap := g3 } := by
          rw [fr]
          exact HandSPX.setFlight_upZ f3 fun g4 hg4 u4 => wpAny_throw (tk _ _ ⟨e, B, s0, pins, σ1, H1, k, d, rfl, U, nb, (up.trans u3).trans u4, .inr (.inr (by rw [st]; exact hg4)), ne, oss, gs, w⟩)
        first
          | exact wpAny_bind (wpAny_pure (wpAny_bind last))
          | exact wpAny_bind last
      | @bare x cv ts b0 su p p' hl2 l2 hc hsu _ ih =>
        intro w
        obtain ⟨b, h1, yes, no⟩ := w
        refine wpAny_handleBy_cons (codeAny_handlers_test (test hc ((match_ h1).here ?_))) (fun q => nomatch q)
        cases b with
        | false => exact ih (no rfl)
        | true =>
          refine codeAny_handlers_suite ?_
          refine HandSPX.lands_againZ f3 fun g4 f4 u4 => ?_
          have U4 : Inv X pins σ1 H1 { s1 with heap := g4 } := U.landed nb f4.1 ((up.trans u3).trans u4) oss gs
          obtain ⟨o4, w4, e4, z4, d4⟩ := f4.there
          have V4 := U4.suite e4 d4 ne n1 n2
          refine wpAny_mono ((hsu e o4 k d (X.pn ++ pins) z4 ⟨_, d4⟩).run [] _ _ H1 _ V4 (yes rfl e ne)) (fun f s6 hsp => ?_) (fun _ _ z => z.elim)
          cases f with
          | next => obtain ⟨_, _, V6, q6⟩ := hsp; exact ⟨_, _, V6.unsuite okX, q6⟩
          | brk => obtain ⟨_, _, V6, q6⟩ := hsp; exact ⟨_, _, V6.unsuite okX, q6⟩
          | cont => obtain ⟨_, _, V6, q6⟩ := hsp; exact ⟨_, _, V6.unsuite okX, q6⟩
          | ret u => obtain ⟨_, _, _, V6, r6, q6⟩ := hsp; exact ⟨_, _, _, V6.unsuite okX, r6, q6⟩
      | @named x n i cv ts b0 su p p' hl2 l2 hc hi hln hsu _ ih =>
        intro w
        obtain ⟨b, h1, yes, no⟩ := w
        refine wpAny_handleBy_cons (codeAny_handlers_test (test hc ((match_ h1).here ?_))) (fun q => nomatch q)
        cases b with
        | false => exact ih (no rfl)
        | true =>
          refine codeAny_handlers_suite_as ?_
          refine HandSPX.lands_againZ f3 fun g4 f4 u4 => ?_
          have U4 : Inv X pins σ1 H1 { s1 with heap := g4 } := U.landed nb f4.1 ((up.trans u3).trans u4) oss gs
          obtain ⟨o4, w4, e4, z4, d4⟩ := f4.there
          have V4 := U4.suite e4 d4 ne n1 n2
          refine store_ok (X := X.suite e ((e, o4) :: (X.pn ++ pins))) (v := .ref e) V4 nd hi (.inl hln) rfl (fun s5 V5 => ?_) (.inr hln)
          refine wpAny_mono ((hsu e o4 k d (X.pn ++ pins) z4 ⟨_, d4⟩).run [] s5 _ H1 _ V5 (yes rfl e ne)) (fun f s6 hsp => ?_) (fun _ _ z => z.elim)
          have fin_ : ∀ {σ6 : St} {H6 : Hp} {Q : Shared → Prop}, Inv (X.suite e ((e, o4) :: (X.pn ++ pins))) [] σ6 H6 s6 → (∀ s7, Inv X pins (σ6.set i none) H6 s7 → Q s7) →
              wpAny (model X.prog X.w) X.A (do bindName X.env n .none; unbindBehindTheSuite X.env n p') (fun _ s7 => Q s7) X.xe s6 := fun V6 hq => gone_ok (V6.unsuite okX) nd hi hln hq
          cases f with
          | next => obtain ⟨_, _, V6, q6⟩ := hsp; exact fin_ V6 fun s7 U7 => ⟨_, _, U7, q6⟩
          | brk => obtain ⟨_, _, V6, q6⟩ := hsp; exact fin_ V6 fun s7 U7 => ⟨_, _, U7, q6⟩
          | cont => obtain ⟨_, _, V6, q6⟩ := hsp; exact fin_ V6 fun s7 U7 => ⟨_, _, U7, q6⟩
          | ret u => obtain ⟨_, _, _, V6, r6, q6⟩ := hsp; exact fin_ V6 fun s7 U7 => ⟨_, _, _, U7, r6, q6⟩
    exact go hk w
  refine wpAny_mono ((hb (wMs X.K Wo D l) (X.pn ++ pins) _ (fun u s1 xx => main u s1 xx) PassesOwn.looking).run [] s σ H D (I.toTry _) w0) (fun f s1 hsp => ?_) (fun _ _ he => he)
  cases f with
  | next => obtain ⟨σ1, H1, V1, q⟩ := hsp; exact wpAny_execs_nil ⟨σ1, H1, V1.ofTry okX, q⟩
  | brk => obtain ⟨σ1, H1, V1, q⟩ := hsp; exact ⟨σ1, H1, V1.ofTry okX, q⟩
  | cont => obtain ⟨σ1, H1, V1, q⟩ := hsp; exact ⟨σ1, H1, V1.ofTry okX, q⟩
  | ret u => obtain ⟨v, σ1, H1, V1, r, q⟩ := hsp; exact ⟨v, σ1, H1, V1.ofTry okX, r, q⟩
end
/-! ### the same on plain data -/
section
variable {X : Cx} {Z : Fx} {own lk : List Nat} {W : WX}
abbrev HdF := List (Str × Option Nat × (Str → FS))
def endM (oi : Option Nat) (r : RS) : RS := match r with
  | .nx ρ2 => .nx (match oi with
    | none => ρ2
    | some i => ρ2.set i none)
  | .rt d => .rt d
  | _ => .stuck
def selM (sub : Str → Str → Bool) (x : Str) (ρ : Rho) : HdF → RS
  | [] => .raise x ρ
  | (c, none, g) :: r => if sub x c = true then endM none (g x ρ) else selM sub x ρ r
  | (c, some i, g) :: r => if sub x c = true then (if i < ρ.length then endM (some i) (g x (ρ.set i none)) else .stuck) else selM sub x ρ r
def fTryM (fb : FS) (sub : Str → Str → Bool) (xs : List Str) (hs : HdF) : FS := fun ρ => match fb ρ with
  | .raise x ρ' => if x ∈ xs then selM sub x ρ' hs else .stuck
  | r => r
def DSu0 (X : Cx) (Z : Fx) (own lk : List Nat) (xs : List Str) (suite : List Stmt) (g : Str → FS) : Prop :=
  ∀ (a C : Addr) (oe : Obj) (pn : List (Addr × Obj)) (x : Str), x ∈ xs → X.mg x = some (.ref C) → L2N.Zn (.ref C) none oe → (∃ vs, oe.data = .fields vs) → PSs (X.suite a ((a, oe) :: pn)) suite (tS X.K X.mg Z own lk WF (g x))
theorem su_gen0 {suite : List Stmt} {xs : List Str} {g : FS} (h : ∀ (a : Addr) (pn : List (Addr × Obj)), DSs (X.suite a pn) Z own lk WF suite g) : DSu0 X Z own lk xs suite (fun _ => g) := fun a C oe pn x _ _ _ _ => h a _
inductive DHs (X : Cx) (Z : Fx) (own lk : List Nat) (xs : List Str) : List ExceptHandler → HdF → Prop
  | nil : DHs X Z own lk xs [] []
  | bare {x : Str} {b0 : Stmt} {su : List Stmt} {p p' : Pos} {hl : List ExceptHandler} {l : HdF} {g : Str → FS} : x ∈ xs → Gl X x → (x == ("__debug__" : Str)) = false → DSu0 X Z own lk xs (b0 :: su) g → DHs X Z own lk xs hl l →
      DHs X Z own lk xs (.ExceptHandler (some (.Name x p)) none (b0 :: su) p' :: hl) ((x, none, g) :: l)
  | named {x n : Str} {i : Nat} {b0 : Stmt} {su : List Stmt} {p p' : Pos} {hl : List ExceptHandler} {l : HdF} {g : Str → FS} : x ∈ xs → Gl X x → (x == ("__debug__" : Str)) = false → X.N[i]? = some n → X.env.kindOf n = some .local → DSu X Z own lk i xs (b0 :: su) g → DHs X Z own lk xs hl l →
      DHs X Z own lk xs (.ExceptHandler (some (.Name x p)) (some n) (b0 :: su) p' :: hl) ((x, some i, g) :: l)
theorem sel_M {sub : Str → Str → Bool} {xs : List Str} (T : ExcT X.K X.mg sub xs) : ∀ {hl : List ExceptHandler} {l : HdF}, DHs X Z own lk xs hl l → ∃ l2 : HdL, HdK X hl l2 ∧
    ∀ (y : Str) (C : Addr) (α0 α : Al) (ρ : Rho) (σ : St) (H H0 : Hp) (D : Ends), y ∈ xs → X.mg y = some (.ref C) → EnvR X.K X.mg Z own α ρ σ H → Post Z lk α0 H0 α H → SSt X.K X.mg Z own lk W α0 H0 (selM sub y ρ l) D → wMs X.K W D l2 (.ref C) none σ H := by
  intro hl l h
  induction h with
  | nil => exact ⟨[], .nil, fun y C α0 α ρ σ H H0 D hy hC E P q => q C α σ H hC E P⟩
  | @bare x b0 su p p' hl l g hx hg hdb hs _ ih =>
    obtain ⟨l2, h2, k2⟩ := ih
    obtain ⟨C2, hC2, _, _⟩ := T.cls x hx
    refine ⟨(.ref C2, none, fun a cls d D σ H => ∃ y C, y ∈ xs ∧ X.mg y = some (.ref C) ∧ cls = .ref C ∧ d = none ∧ tS X.K X.mg Z own lk WF (g y) D σ H) :: l2, .bare ⟨hg, hdb, .inl hC2⟩ (fun a oe cls d pn hz hd => ?_) h2, ?_⟩
    · constructor
      rintro pins s σ H D I ⟨y, C, hy, hC, rfl, rfl, q⟩
      exact (hs a C oe pn y hy hC hz hd).run pins s σ H D I q
    · intro y C α0 α ρ σ H H0 D hy hC E P q
      obtain ⟨C', hC', _, hsub⟩ := T.cls y hy
      rw [hC] at hC'; cases hC'
      obtain ⟨C3, hC3, _, hex⟩ := hsub x hx
      rw [hC2] at hC3; cases hC3
      unfold selM at q
      refine ⟨sub y x, hex, fun hb a ha => ?_, fun hb => ?_⟩
      · rw [if_pos hb] at q
        refine ⟨y, C, hy, hC, rfl, rfl, α, ρ, E, ?_⟩
        cases hg : g y ρ with
        | nx ρ2 => rw [hg] at q; exact fun α2 σ2 H2 E2 P2 => q α2 _ H2 E2 (P.trans P2)
        | rt d => rw [hg] at q; exact q
        | raise z ρ2 => rw [hg] at q; exact q.elim
        | stuck => rw [hg] at q; exact q.elim
      · rw [if_neg (by rw [hb]; exact Bool.false_ne_true)] at q
        exact k2 y C α0 α ρ σ H H0 D hy hC E P q
  | @named x n i b0 su p p' hl l g hx hg hdb hi hln hs _ ih =>
    obtain ⟨l2, h2, k2⟩ := ih
    obtain ⟨C2, hC2, _, _⟩ := T.cls x hx
    refine ⟨(.ref C2, some i, fun a cls d D σ H => ∃ y C, y ∈ xs ∧ X.mg y = some (.ref C) ∧ cls = .ref C ∧ d = none ∧ tSu X.K X.mg Z own lk i a (g y) D σ H) :: l2, .named ⟨hg, hdb, .inl hC2⟩ hi hln (fun a oe cls d pn hz hd => ?_) h2, ?_⟩
    · constructor
      rintro pins s σ H D I ⟨y, C, hy, hC, rfl, rfl, q⟩
      exact (hs a C oe pn y hy hC hz hd).run pins s σ H D I q
    · intro y C α0 α ρ σ H H0 D hy hC E P q
      obtain ⟨C', hC', _, hsub⟩ := T.cls y hy
      rw [hC] at hC'; cases hC'
      obtain ⟨C3, hC3, _, hex⟩ := hsub x hx
      rw [hC2] at hC3; cases hC3
      unfold selM at q
      refine ⟨sub y x, hex, fun hb a ha => ?_, fun hb => ?_⟩
      · rw [if_pos hb] at q
        by_cases hl : i < ρ.length
        · rw [if_pos hl] at q
          have hil : i < σ.length := by rw [← E.len]; exact hl
          refine ⟨y, C, hy, hC, rfl, rfl, by rw [List.getElem?_set_self hil], α, ρ.set i none, E.blank i _, ?_⟩
          cases hg : g y (ρ.set i none) with
          | nx ρ2 => rw [hg] at q; exact fun α2 σ2 H2 E2 P2 => q α2 _ H2 (E2.blank i none) (P.trans P2)
          | rt d => rw [hg] at q; exact q
          | raise z ρ2 => rw [hg] at q; exact q.elim
          | stuck => rw [hg] at q; exact q.elim
        · rw [if_neg hl] at q; exact q.elim
      · rw [if_neg (by rw [hb]; exact Bool.false_ne_true)] at q
        exact k2 y C α0 α ρ σ H H0 D hy hC E P q
theorem ds_tryM {body : List Stmt} {hd : ExceptHandler} {hl : List ExceptHandler} {l : HdF} {pos : Pos} {fb : FS} {sub : Str → Str → Bool} {xs : List Str} (nd : X.N.Nodup) (tk : L2N.Takes X W) (T : ExcT X.K X.mg sub xs)
    (hb : ∀ (W : WX) (pn : List (Addr × Obj)) (xe : Value → Shared → Prop), L2N.Takes (X.tr pn xe) W → PassesOwn (model X.prog X.w) X.A X.env xe → DSs (X.tr pn xe) Z own lk W body fb)
    (hk : DHs X Z own lk xs (hd :: hl) l) (hs : X.stack = X.env :: X.outer := by rfl) (hf : X.env.frame = some X.env.locals := by rfl) :
    DS X Z own lk W (.Try body (hd :: hl) [] [] pos) (fTryM fb sub xs l) := by
  obtain ⟨l2, h2, k2⟩ := sel_M (W := W) T hk
  refine PS_imp (ps_tryM (tb := fun W => tS X.K X.mg Z own lk W fb) hs hf nd tk hb h2) ?_
  rintro D σ H ⟨α, ρ, E, q⟩
  refine ⟨α, ρ, E, ?_⟩
  unfold fTryM at q
  cases hr : fb ρ with
  | nx ρ' => rw [hr] at q; exact q
  | rt d => rw [hr] at q; exact q
  | stuck => rw [hr] at q; exact q
  | raise y ρ' =>
    rw [hr] at q
    intro C α' σ' H' hC E' P'
    by_cases hy : y ∈ xs
    · simp only [if_pos hy] at q
      exact k2 y C α α' ρ' σ' H' H D hy hC E' P' q
    · simp only [if_neg hy] at q
      exact q.elim
/-- isinstance(e, C) of the caught one, as a value and as a test -/
theorem pe_isE {a C : Addr} {oe : Obj} {x n y : Str} {xs : List Str} {sub : Str → Str → Bool} {i : Nat} {p p1 p2 p3 : Pos} (T : ExcT X.K X.mg sub xs) (hx : x ∈ xs) (hy : y ∈ xs) (hC : X.mg x = some (.ref C)) (hz : L2N.Zn (.ref C) none oe) (hf : ∃ vs, oe.data = .fields vs) (hp : (a, oe) ∈ X.pn)
    (hm : X.mg "isinstance" = none) (hN : X.N[i]? = some n) (hv : Vis X.env.scope n) (hg : Gl X "isinstance") (hgy : Gl X y) (hd : (n == ("__debug__" : Str)) = false) (hcd : (n == ("__classdict__" : Str)) = false) (hdb : (y == ("__debug__" : Str)) = false)
    (hs1 : starEach [.Name n p1, .Name y p2] X.env = (false, eval (.Name n p1) X.env) :: starEach [.Name y p2] X.env) (hs2 : starEach [.Name y p2] X.env = (false, eval (.Name y p2) X.env) :: starEach [] X.env) (hpl : (backTo p3 (starEach [.Name y p2] X.env)).any (·.1) = false) :
    PE X (.Call (.Name "isinstance" p) [.Name n p1, .Name y p2] [] p3) (fun σ H Q => σ[i]? = some (some (.ref a)) ∧ Q (.bl (sub x y)) H) := by
  obtain ⟨C', hC', G, hsub⟩ := T.cls x hx
  rw [hC] at hC'; cases hC'
  obtain ⟨C2, hC2, hk, _⟩ := hsub y hy
  refine PE_imp (pe_callB (x := "isinstance") (call_isP hp G hz.zc hf) hg hm (by decide +kernel) (pa_cons (pe_var (i := i) hN hv hd hcd) (pa_cons (pe_glob (v := .ref C2) hgy hC2 rfl hdb) pa_nil hs2) hs1) (by decide) (by decide) hs1 hpl) ?_
  rintro σ H Q ⟨h0, q⟩
  exact ⟨.ref a, h0, .ref C2, .ref C2, _, rfl, fun u r => r, hk, q⟩
/-- return isinstance(e, C) -/
def fInst (sub : Str → Str → Bool) (y x : Str) : FS := fun _ => .rt (.bl (sub x y))
theorem su_inst {n y : Str} {xs : List Str} {sub : Str → Str → Bool} {i : Nat} {p p1 p2 p3 p4 : Pos} (T : ExcT X.K X.mg sub xs) (hm : X.mg "isinstance" = none) (hy : y ∈ xs) (hN : X.N[i]? = some n := by rfl) (hv : Vis X.env.scope n := by first | exact Or.inl rfl | exact Or.inr (Or.inl rfl) | exact Or.inr (Or.inr rfl)) (hg : Gl X "isinstance" := by rfl) (hgy : Gl X y := by rfl) (hd : (n == ("__debug__" : Str)) = false := by decide) (hcd : (n == ("__classdict__" : Str)) = false := by decide) (hdb : (y == ("__debug__" : Str)) = false := by decide)
    (hs1 : starEach [.Name n p1, .Name y p2] X.env = (false, eval (.Name n p1) X.env) :: starEach [.Name y p2] X.env := by rfl) (hs2 : starEach [.Name y p2] X.env = (false, eval (.Name y p2) X.env) :: starEach [] X.env := by rfl) (hpl : (backTo p3 (starEach [.Name y p2] X.env)).any (·.1) = false := by rfl) :
    DSu X Z own lk i xs [.Return (some (.Call (.Name "isinstance" p) [.Name n p1, .Name y p2] [] p3)) p4] (fInst sub y) := by
  intro a C oe pn x hx hC hz hf
  refine PSs_imp (pss_one (ps_ret (pe_isE (X := X.suite a ((a, oe) :: pn)) T hx hy hC hz hf List.mem_cons_self hm hN hv hg hgy hd hcd hdb hs1 hs2 hpl))) ?_
  rintro D σ H ⟨h0, α, ρ, E, q⟩
  exact ⟨h0, q _ H E.same (.bl _)⟩
/-- return A if isinstance(e, C) else B -/
def fInstIf (sub : Str → Str → Bool) (y : Str) (fa fb : FE) (x : Str) : FS := fRet (if sub x y = true then fa else fb)
theorem su_instif {n y : Str} {A B : Expr} {fa fb : FE} {xs : List Str} {sub : Str → Str → Bool} {i : Nat} {p p1 p2 p3 p4 p5 : Pos} (T : ExcT X.K X.mg sub xs) (hm : X.mg "isinstance" = none) (hy : y ∈ xs) (ha : ∀ (a : Addr) (pn : List (Addr × Obj)), DE (X.suite a pn) Z own WF A fa) (hb : ∀ (a : Addr) (pn : List (Addr × Obj)), DE (X.suite a pn) Z own WF B fb) (hN : X.N[i]? = some n := by rfl) (hv : Vis X.env.scope n := by first | exact Or.inl rfl | exact Or.inr (Or.inl rfl) | exact Or.inr (Or.inr rfl)) (hg : Gl X "isinstance" := by rfl) (hgy : Gl X y := by rfl) (hd : (n == ("__debug__" : Str)) = false := by decide) (hcd : (n == ("__classdict__" : Str)) = false := by decide) (hdb : (y == ("__debug__" : Str)) = false := by decide)
    (hs1 : starEach [.Name n p1, .Name y p2] X.env = (false, eval (.Name n p1) X.env) :: starEach [.Name y p2] X.env := by rfl) (hs2 : starEach [.Name y p2] X.env = (false, eval (.Name y p2) X.env) :: starEach [] X.env := by rfl) (hpl : (backTo p3 (starEach [.Name y p2] X.env)).any (·.1) = false := by rfl) :
    DSu X Z own lk i xs [.Return (some (.IfExp (.Call (.Name "isinstance" p) [.Name n p1, .Name y p2] [] p3) A B p5)) p4] (fInstIf sub y fa fb) := by
  intro a C oe pn x hx hC hz hf
  refine PSs_imp (pss_one (ps_ret (pe_ifExp (pt_truth (pe_isE (X := X.suite a ((a, oe) :: pn)) T hx hy hC hz hf List.mem_cons_self hm hN hv hg hgy hd hcd hdb hs1 hs2 hpl) (fun _ => rfl)) (ha a _) (hb a _)))) ?_
  rintro D σ H ⟨h0, α, ρ, E, q⟩
  refine ⟨h0, sub x y, rfl, ?_⟩
  unfold fInstIf at q
  cases hk : sub x y with
  | true => rw [hk, if_pos rfl] at q; rw [if_pos rfl]; exact ⟨α, ρ, E, RSt.e ((toS_g E q).imp fun d _ q v H1 s r => q v H1 (E.same.trans s) r.out)⟩
  | false => rw [hk, if_neg Bool.false_ne_true] at q; rw [if_neg Bool.false_ne_true]; exact ⟨α, ρ, E, RSt.e ((toS_g E q).imp fun d _ q v H1 s r => q v H1 (E.same.trans s) r.out)⟩
end
end Sh

namespace Sh
open PySem PySem.Spec PyProof.Rows L2
/-! ### dicts whose keys are whole numbers or texts -/
def keyD : D → Option Key
  | .int i => some (.inl i)
  | .str x => some (.inr x)
  | _ => none
def hasK (ks : List D) (k : Key) : Bool := ks.any fun d => decide (keyD d = some k)
def lookK : List D → List D → Key → Option D
  | a :: ks, v :: vs, k => if keyD a = some k then some v else lookK ks vs k
  | _, _, _ => none
def subK (ks vs : List D) (k : Key) (y : D) : List D := List.zipWith (fun a v => if keyD a = some k then y else v) ks vs
section
variable {K : PySem.W.Frag} {mg : Str → Option Value} {H : Hp} {A : Addr → Prop}
theorem keyD_rep {d : D} {k : Key} {v : V} (e : keyD d = some k) (r : RepV K mg H A d v) : v = kV k := by
  cases d <;> simp only [keyD] at e <;> cases e <;> cases r <;> rfl
theorem keyD_of {d : D} {k : Key} (r : RepV K mg H A d (kV k)) : keyD d = some k := by
  cases k with
  | inl i => generalize h : kV (.inl i) = v at r; cases r <;> cases h; rfl
  | inr x => generalize h : kV (.inr x) = v at r; cases r <;> cases h; rfl
theorem keyT_rep {d : D} {k : Key} {v : V} (e : keyD d = some k) (r : RepT K mg H A d v) : v = kV k := by
  refine keyD_rep e (r.val ?_)
  cases d <;> first | rfl | cases e
theorem look_none {k : Key} : ∀ {ks vs : List D} {kvs : List (Key × V)}, RepL K mg H A ks (kvs.map fun p => kV p.1) → RepL K mg H A vs (kvs.map (·.2)) → lookK ks vs k = none → valV kvs k = none
  | _, _, [], _, _, _ => rfl
  | _, _, p :: kvs, .cons (d := a) (ds := ks) r1 r2, .cons (d := v) (ds := vs) q1 q2, e => by
    unfold lookK at e
    have ha := keyD_of r1
    by_cases h : keyD a = some k
    · rw [if_pos h] at e; cases e
    · rw [if_neg h] at e
      rw [valV_neg (by intro z; rw [ha, z] at h; exact h rfl)]
      exact look_none r2 q2 e
theorem look_some {k : Key} {d : D} : ∀ {ks vs : List D} {kvs : List (Key × V)}, RepL K mg H A ks (kvs.map fun p => kV p.1) → RepL K mg H A vs (kvs.map (·.2)) → lookK ks vs k = some d → ∃ v, valV kvs k = some v ∧ RepV K mg H A d v
  | _, _, [], .nil, .nil, e => by cases e
  | _, _, p :: kvs, .cons (d := a) (ds := ks) r1 r2, .cons (d := v) (ds := vs) q1 q2, e => by
    unfold lookK at e
    have ha := keyD_of r1
    by_cases h : keyD a = some k
    · rw [if_pos h] at e; cases e
      refine ⟨_, valV_pos ?_, q1⟩
      rw [ha] at h; exact Option.some.inj h
    · rw [if_neg h] at e
      rw [valV_neg (by intro z; rw [ha, z] at h; exact h rfl)]
      exact look_some r2 q2 e
theorem hasK_any {k : Key} : ∀ {ks : List D} {kvs : List (Key × V)}, RepL K mg H A ks (kvs.map fun p => kV p.1) → (kvs.any fun kv => decide (kv.1 = k)) = hasK ks k
  | _, [], .nil => rfl
  | _, p :: kvs, .cons (d := a) r1 r2 => by
    have ha := keyD_of r1
    have ih := hasK_any (k := k) r2
    unfold hasK at ih ⊢
    rw [List.any_cons, List.any_cons, ih, ha]
    congr 1
    by_cases h : p.1 = k
    · simp [h]
    · simp [h]
theorem hasK_look {k : Key} : ∀ {ks vs : List D} {kvs : List (Key × V)}, RepL K mg H A ks (kvs.map fun p => kV p.1) → RepL K mg H A vs (kvs.map (·.2)) → hasK ks k = (valV kvs k).isSome := fun r1 _ => by
  rw [← hasK_any r1, valV_any]
theorem subK_rep {k : Key} {y : D} {w : V} (ry : RepV K mg H A y w) : ∀ {ks vs : List D} {kvs : List (Key × V)}, RepL K mg H A ks (kvs.map fun p => kV p.1) → RepL K mg H A vs (kvs.map (·.2)) →
    RepL K mg H A ks ((kvs.map fun kv => if kv.1 = k then (kv.1, w) else kv).map fun p => kV p.1) ∧ RepL K mg H A (subK ks vs k y) ((kvs.map fun kv => if kv.1 = k then (kv.1, w) else kv).map (·.2))
  | _, _, [], .nil, .nil => ⟨.nil, .nil⟩
  | _, _, p :: kvs, .cons (d := a) r1 r2, .cons (d := v) q1 q2 => by
    have ha := keyD_of r1
    obtain ⟨i1, i2⟩ := subK_rep (k := k) ry r2 q2
    simp only [List.map_cons, subK, List.zipWith_cons_cons]
    by_cases h : p.1 = k
    · rw [if_pos h, if_pos (by rw [ha, h])]
      exact ⟨.cons r1 i1, .cons ry i2⟩
    · rw [if_neg h, if_neg (by rw [ha]; exact fun z => h (Option.some.inj z))]
      exact ⟨.cons r1 i1, .cons q1 i2⟩
end
def putD (ks vs : List D) (k y : D) : R (List D × List D) := match keyD k with
  | some c => if apB ks = true then .ok (if hasK ks c = true then (ks, subK ks vs c y) else (ks ++ [k], vs ++ [y])) else .stuck
  | none => .stuck
def asDct : D → R (List D × List D)
  | .dct ks vs => .ok (ks, vs)
  | _ => .stuck
section
variable {X : Cx} {Z : Fx} {own lk : List Nat} {W : WX} {st : Stmt} {e a b c : Expr} {pos pos' : Pos} {K : PySem.W.Frag} {mg : Str → Option Value} {σ : St} {H H1 : Hp} {α α1 : Al} {ρ : Rho}
theorem d_dict0 : DF X Z own W (.Dict [] [] pos) (fC (.dct [] [])) := PE_imp pe_dnewK fun σ H Q ⟨α, ρ, E, q⟩ p hn => by
  have q : FQ X.K X.mg (AA Z.Ao α) H (.dct [] []) Q := q
  exact q.new (Same.new hn) hn ⟨[], upd_same, .nil, .nil⟩
theorem EnvR.updB (E : EnvR K mg Z own α ρ σ H) {i : Nat} {p : Addr} {d : D} {o : HO} (hi : i ∈ own) (hl : i ∉ lk) (hα : α i = some p) (hσ : σ[i]? = some (some (.ref p))) (bx : isBox d = true) (r : TopR K mg (upd H p o) (AA Z.Ao α) d p) :
    EnvR K mg Z own α (ρ.set i (some d)) σ (upd H p o) ∧ Post Z lk α H α (upd H p o) := by
  have ap : AA Z.Ao α p := .inr ⟨i, hα⟩
  have M : Mv (AA Z.Ao α) H (AA Z.Ao α) (L2.upd H p o) := fun b y h n => ⟨by rw [upd_ne (by intro z; rw [z] at n; exact n ap)]; exact h, n⟩
  refine ⟨⟨by rw [List.length_set]; exact E.len, fun b y h => ?_, fun j x e c => ?_, fun j x e c bx' => ?_, fun b h => ?_, E.new, E.inj, E.out, E.fin⟩, M, fun j hj => ⟨rfl, fun q e => ?_⟩⟩
  · rw [upd_ne (fun z => by subst z; rw [E.new i _ hα] at h; cases h)]
    exact E.same b y h
  · by_cases hj : i = j
    · subst hj
      have hlt : i < ρ.length := by
        have := (List.getElem?_eq_some_iff.mp e).1
        rwa [List.length_set] at this
      rw [List.getElem?_set_self hlt] at e
      cases e
      rcases c with c | c
      · exact absurd hi c
      · rw [bx] at c; cases c
    · rw [List.getElem?_set_ne hj] at e
      obtain ⟨v, h1, h2⟩ := E.sh j x e c
      exact ⟨v, h1, h2.mv M⟩
  · by_cases hj : i = j
    · subst hj
      have hlt : i < ρ.length := by
        have := (List.getElem?_eq_some_iff.mp e).1
        rwa [List.length_set] at this
      rw [List.getElem?_set_self hlt] at e
      cases e
      exact ⟨p, hα, hσ, r⟩
    · rw [List.getElem?_set_ne hj] at e
      obtain ⟨q, h1, h2, h3⟩ := E.ow j x e c bx'
      exact ⟨q, h1, h2, h3.mv M fun y ho => by rw [upd_ne (by intro z; rw [z] at h1; exact hj (E.inj i j p hα h1))]; exact ho⟩
  · by_cases hb : b = p
    · subst hb; exact ⟨_, upd_same⟩
    · rw [upd_ne hb]; exact E.dom b h
  · rw [upd_ne (by intro z; rw [z] at e; rw [E.inj i j p hα e] at hl; exact hl hj)]
theorem EnvR.mvB (E : EnvR K mg Z own α ρ σ H) {i : Nat} {p : Addr} {o : HO} (hα : α i = some p) : Mv (AA Z.Ao α) H (AA Z.Ao α) (upd H p o) := fun b y h n => ⟨by rw [upd_ne (by intro z; rw [z] at n; exact n (.inr ⟨i, hα⟩))]; exact h, n⟩
theorem var_dct {β : Type} {i : Nat} {k : List D × List D → R β} {P : β → Prop} (h : RSt mg W σ H ((fVar i ρ).bind fun x => (asDct x).bind k) P) : ∃ ks vs, ρ[i]? = some (some (.dct ks vs)) ∧ RSt mg W σ H (k (ks, vs)) P := by
  cases r : fVar i ρ with
  | ok d =>
    rw [r] at h
    cases d with
    | dct ks vs => exact ⟨ks, vs, fVar_ok r, h⟩
    | _ => exact h.elim
  | raise c =>
    unfold fVar at r
    split at r <;> cases r
  | stuck => rw [r] at h; exact h.elim
/-- x[k] = e -/
def fPut (i : Nat) (fk f : FE) : FS := fun ρ => toS ((f ρ).bind fun y => (fVar i ρ).bind fun x => (asDct x).bind fun kv => (fk ρ).bind fun k => putD kv.1 kv.2 k y) ρ fun kv => .nx (ρ.set i (some (.dct kv.1 kv.2)))
theorem putD_nr {ks vs : List D} {k y : D} {c : Str} : putD ks vs k y ≠ .raise c := by
  intro z
  unfold putD at z
  split at z
  · split at z <;> cases z
  · cases z
theorem put_rep {K : PySem.W.Frag} {mg : Str → Option Value} {H : Hp} {A : Addr → Prop} {ks vs : List D} {kvs : List (Key × V)} {c : Key} {k y : D} {w : V} (r1 : RepL K mg H A ks (kvs.map fun p => kV p.1)) (r2 : RepL K mg H A vs (kvs.map (·.2))) (hk : keyD k = some c) (rk : RepV K mg H A k (kV c)) (ry : RepV K mg H A y w) :
    RepL K mg H A (if hasK ks c = true then (ks, subK ks vs c y) else (ks ++ [k], vs ++ [y])).1 ((putK kvs c w).map fun p => kV p.1) ∧ RepL K mg H A (if hasK ks c = true then (ks, subK ks vs c y) else (ks ++ [k], vs ++ [y])).2 ((putK kvs c w).map (·.2)) := by
  unfold putK
  rw [hasK_any r1]
  by_cases h : hasK ks c = true
  · rw [if_pos h, if_pos h]
    exact subK_rep ry r1 r2
  · rw [if_neg h, if_neg h, List.map_append, List.map_append]
    exact ⟨r1.append (.cons rk .nil), r2.append (.cons ry .nil)⟩
theorem ds_put (i : Nat) {x : Str} {p p2 : Pos} {fk f : FE} (hu : X.A.units + 1 < cLine) (hk : DR X Z own W b fk) (he : DE X Z own W e f) (hi : i ∈ own := by decide) (hl : i ∉ lk := by decide) (hN : X.N[i]? = some x := by rfl) (hv : Vis X.env.scope x := by first | exact Or.inl rfl | exact Or.inr (Or.inl rfl) | exact Or.inr (Or.inr rfl)) (hd : (x == ("__debug__" : Str)) = false := by decide)
    (hcd : (x == ("__classdict__" : Str)) = false := by decide) (hs : swapsWith e (some (.Subscript (.Name x p) b p2)) pos.line X.env = pure false := by rfl) :
    DS X Z own lk W (.Assign [.Subscript (.Name x p) b p2] e pos) (fPut i fk f) :=
  PS_imp (ps_dput hu (pe_var hN hv hd hcd) hk he hs) fun D σ H ⟨α, ρ, E, q⟩ => by
    refine (g_E PD.later E (k := fun y => (fVar i ρ).bind fun x => (asDct x).bind fun kv => (fk ρ).bind fun k => putD kv.1 kv.2 k y) (toS_pd E q)).imp fun v H1 ⟨d, e1, s1, r1, E1, q1⟩ => ?_
    obtain ⟨ks, vs, hx, q1⟩ := var_dct q1
    obtain ⟨l, h1, h2, kvs, h3, h4, h5⟩ := E1.ow i _ hx hi rfl
    refine ⟨.ref l, h2, ?_⟩
    refine (g_R PD.later E1 (k := fun k => putD ks vs k d) q1).imp fun u H2 ⟨d2, e2, s2, r2, E2, q2⟩ => ?_
    have h3' := s2 _ _ h3
    have h4' := h4.same s2
    have h5' := h5.same s2
    cases ho : putD ks vs d2 d with
    | ok kv =>
      rw [ho] at q2
      have q2 : PD X.K X.mg Z own lk W α (fun kv => .nx (ρ.set i (some (.dct kv.1 kv.2)))) D H2 kv := q2
      unfold putD at ho
      cases hkd : keyD d2 with
      | none => rw [hkd] at ho; cases ho
      | some c =>
        rw [hkd] at ho
        dsimp only at ho
        by_cases hap : apB ks = true
        · rw [if_pos hap] at ho
          cases ho
          have hkl : kvs.length = ks.length := by have := h4.len; simpa using this.symm
          have eu := keyT_rep hkd r2
          subst eu
          have rk : RepV X.K X.mg H2 (AA Z.Ao α) d2 (kV c) := r2.val (by cases d2 <;> first | rfl | cases hkd)
          obtain ⟨p1, p2⟩ := put_rep (k := d2) h4' h5' hkd rk (r1.same s2)
          have hlt : kvs.length < sizeLine := by
            rw [hkl, sl_eq]
            simpa [apB] using hap
          have M := E2.mvB (o := .dK (putK kvs c v)) h1
          obtain ⟨E3, P3⟩ := E2.updB (lk := lk) (d := .dct _ _) hi hl h1 h2 rfl ⟨_, upd_same, p1.mv M, p2.mv M⟩
          exact ⟨l, _, rfl, .inl ⟨kvs, c, h3', rfl, hlt, rfl⟩, q2.2 _ _ _ E3 P3⟩
        · rw [if_neg hap] at ho; cases ho
    | raise c => exact absurd ho putD_nr
    | stuck => rw [ho] at q2; exact q2.elim
/-- d[k] -/
def getD : D → D → R D
  | .dct ks vs, k => match keyD k with
    | some c => match lookK ks vs c with
      | some d => .ok d
      | none => .stuck
    | none => .stuck
  | _, _ => .stuck
theorem NoR2.get : NoR2 getD := by
  intro a b c z
  unfold getD at z
  split at z
  · split at z
    · split at z <;> cases z
    · cases z
  · cases z
theorem d_get {fa fb : FE} (hu : X.A.units + 1 < cLine) (ha : DR X Z own W a fa) (hb : DR X Z own W b fb) (hs : NoSl b := by exact fun _ _ => rfl) : DE X Z own W (.Subscript a b pos) (f2 getD fa fb) :=
  PE_imp (pe_dget hu ha hb hs) fun σ H Q ⟨α, ρ, E, q⟩ => by
    refine (g_R (P := fun H d => ∀ v H', Same H H' → RepV X.K X.mg H' (AA Z.Ao α) d v → Q v H') (fun H H1 ds s h vs H' s' => h vs H' (s.trans s')) E q.g).imp fun v H1 ⟨d, e1, s1, r1, E1, q1⟩ => ?_
    refine (g_R (P := fun H d => ∀ v H', Same H H' → RepV X.K X.mg H' (AA Z.Ao α) d v → Q v H') (fun H H1 ds s h vs H' s' => h vs H' (s.trans s')) E1 q1).imp fun u H2 ⟨d2, e2, s2, r2, E2, q2⟩ => ?_
    cases ho : getD d d2 with
    | ok x =>
      rw [ho] at q2
      unfold getD at ho
      split at ho
      · rename_i ks vs k
        split at ho
        · rename_i c hc
          split at ho
          · rename_i d' hd; cases ho
            obtain ⟨l, kvs, rfl, h, g1, g2⟩ := (r1.same s2).dct
            obtain ⟨w, hw, rw'⟩ := look_some g1 g2 hd
            exact ⟨l, w, rfl, .inl ⟨kvs, c, .inl h, keyT_rep hc r2, hw.symm⟩, q2 w H2 (Same.refl H2) rw'⟩
          · cases ho
        · cases ho
      · cases ho
    | raise c => exact absurd ho (NoR2.get _ _ _)
    | stuck => rw [ho] at q2; exact q2.elim
/-- k in d, k not in d -/
def dinD (k d : D) : R D := match d, keyD k with
  | .dct ks _, some c => .ok (.bl (hasK ks c))
  | _, _ => .stuck
def dninD (k d : D) : R D := match d, keyD k with
  | .dct ks _, some c => .ok (.bl (!hasK ks c))
  | _, _ => .stuck
theorem d_dinX {fa fb : FE} {op : CmpOp} {neg : Bool} {f : D → D → R D} {t : TE → TE → TE} (hop : ∀ {ty td : TE}, PE X a ty → PE X b td → PC X op a b (t ty td)) (hf : ∀ k d, f k d = match d, keyD k with
  | .dct ks _, some c => .ok (.bl (if neg = true then !hasK ks c else hasK ks c))
  | _, _ => .stuck) (ht : ∀ ty td σ H Q, (ty σ H fun y H1 => td σ H1 fun x H2 => ∃ l o, x = .ref l ∧ DGet H2 l y o ∧ Q (.bl (if neg = true then !o.isSome else o.isSome)) H2) → t ty td σ H Q)
    (ha : DR X Z own W a fa) (hb : DR X Z own W b fb) : ∃ t', PC X op a b t' ∧ ∀ σ H Q, tF X.K X.mg Z own W (f2 f fa fb) σ H Q → t' σ H Q := by
  refine ⟨_, hop ha hb, fun σ H Q ⟨α, ρ, E, q⟩ => ht _ _ _ _ _ ?_⟩
  refine (g_R (laterF X.K X.mg (AA Z.Ao α) Q) E q.g).imp fun v H1 ⟨d, e1, s1, r1, E1, q1⟩ => ?_
  refine (g_R (laterF X.K X.mg (AA Z.Ao α) Q) E1 q1).imp fun u H2 ⟨d2, e2, s2, r2, E2, q2⟩ => ?_
  rw [hf] at q2
  split at q2
  · rename_i ks vs c hc
    obtain ⟨l, kvs, rfl, h, g1, g2⟩ := r2.dct
    refine ⟨l, valV kvs c, rfl, .inl ⟨kvs, c, .inl h, keyT_rep hc r1, rfl⟩, ?_⟩
    rw [← hasK_look g1 g2]
    have q2 : FQ X.K X.mg (AA Z.Ao α) H2 _ Q := q2
    exact q2.imp (Same.refl H2) rfl (.bl _)
  · exact q2.elim
theorem din_t {fa fb : FE} (hu : X.A.units + 1 < cLine) (ha : DR X Z own W a fa) (hb : DR X Z own W b fb) : ∃ t', PC X .In a b t' ∧ ∀ σ H Q, tF X.K X.mg Z own W (f2 dinD fa fb) σ H Q → t' σ H Q :=
  d_dinX (neg := false) (t := fun ty td => tDIn ty td) (fun h1 h2 => pc_din hu h1 h2) (fun k d => rfl) (fun ty td σ H Q h => h) ha hb
theorem dnin_t {fa fb : FE} (hu : X.A.units + 1 < cLine) (ha : DR X Z own W a fa) (hb : DR X Z own W b fb) : ∃ t', PC X .NotIn a b t' ∧ ∀ σ H Q, tF X.K X.mg Z own W (f2 dninD fa fb) σ H Q → t' σ H Q :=
  d_dinX (neg := true) (t := fun ty td => tDNotIn ty td) (fun h1 h2 => pc_dnotin hu h1 h2) (fun k d => rfl) (fun ty td σ H Q h => h) ha hb
theorem d_pc {op : CmpOp} {f : FE} (h : ∃ t', PC X op a b t' ∧ ∀ σ H Q, tF X.K X.mg Z own W f σ H Q → t' σ H Q) (hm : behindInMarks op b = false := by first | exact nomark _ | rfl) : DF X Z own W (.Compare a [op] [b] pos) f := by
  obtain ⟨t', h1, h2⟩ := h
  exact PE_imp (pe_cmp h1 hm) h2
theorem dt_pc {op : CmpOp} {f : FE} (h : ∃ t', PC X op a b t' ∧ ∀ σ H Q, tF X.K X.mg Z own W f σ H Q → t' σ H Q) (hm : behindInMarks op b = false := by first | exact nomark _ | rfl) : DT X Z own W (.Compare a [op] [b] pos) (fB f) := by
  obtain ⟨t', h1, h2⟩ := h
  exact PT_imp (pt_cmp h1 hm) fun σ H Q q => tTest_of (fun Q q => h2 σ H Q q) q
/-- len(d), sorted(d) -/
def lenKD : List D → R D
  | [.dct ks _] => .ok (.int (ks.length : Nat))
  | _ => .stuck
def sortKD : List D → R D
  | [.dct ks _] => match ltI ks with
    | some ns => if ns.length < 64 then .ok (.lst ((sortI ns).map .int)) else .stuck
    | none => .stuck
  | _ => .stuck
theorem nr_lenK : NoR lenKD := fun xs c z => by
  unfold lenKD at z
  split at z <;> cases z
theorem nr_sortK : NoR sortKD := fun xs c z => by
  unfold sortKD at z
  split at z
  · split at z
    · split at z <;> cases z
    · cases z
  · cases z
theorem cd_lenK : CallD X (.builtin "len") lenKD := by
  intro pins s σ H xs us Q I r ⟨A, ds, d, hA, rt, e, q⟩
  unfold lenKD at e
  split at e
  · cases e
    obtain ⟨v, rfl, h⟩ := rt.one
    obtain ⟨a, kvs, rfl, g, r1, r2⟩ := h.dct
    have hl := r1.len
    rw [List.length_map] at hl
    exact call_lenD pins s σ H _ us Q I r ⟨a, kvs, rfl, g, by rw [← hl]; exact q.imp (Same.refl H) rfl (.int _)⟩
  · cases e
theorem keys_ints {K : PySem.W.Frag} {mg : Str → Option Value} {H : Hp} {A : Addr → Prop} {ns : List Int} {kvs : List (Key × V)} (r : RepL K mg H A (ns.map D.int) (kvs.map fun p => kV p.1)) : kvs.map (·.1) = ns.map Sum.inl := by
  have h := r.ints
  have : (kvs.map (·.1)).map kV = (ns.map Sum.inl).map kV := by
    rw [List.map_map, List.map_map]
    exact h
  exact kVs_inj this
theorem cd_sortK (hc : X.calm = true) : CallD X (.builtin "sorted") sortKD := by
  intro pins s σ H xs us Q I r ⟨A, ds, d, hA, rt, e, q⟩
  unfold sortKD at e
  split at e
  · split at e
    · rename_i ns hb
      split at e
      · rename_i h64; cases e
        cases ltI_at hb
        obtain ⟨v, rfl, h⟩ := rt.one
        obtain ⟨a, kvs, rfl, g, r1, r2⟩ := h.dct
        refine call_sortedDI hc pins s σ H _ us Q I r ⟨a, kvs, ns, rfl, .inl g, keys_ints r1, h64, fun ms p hp hs hn => ?_⟩
        rw [sortI_is hp hs]
        exact q.newLst (RepL.of_ints _) hn
      · cases e
    · cases e
  · cases e
end
end Sh

namespace Sh
open PySem PySem.Spec PyProof.Rows L2
/-! ### list(range(..)), tuple(range(..)) -/
def rgB (a b : Int) : Bool := decide (-(2 ^ 62) ≤ a) && decide (a < 2 ^ 62) && decide (-(2 ^ 62) ≤ b) && decide (b < 2 ^ 62) && decide ((b - a).toNat ≤ 2 ^ 24)
theorem rgB_ok {a b : Int} (h : rgB a b = true) : RgOk a b := by
  unfold rgB at h
  simp only [Bool.and_eq_true, decide_eq_true_eq] at h
  exact ⟨h.1.1.1.1, h.1.1.1.2, h.1.1.2, h.1.2, h.2⟩
theorem rgB_of {a b : Int} (h0 : -999999999 ≤ a) (h1 : a ≤ 999999999) (h2 : -999999999 ≤ b) (h3 : b ≤ 999999999) (h4 : b ≤ a + 9999) : rgB a b = true := by
  unfold rgB
  simp only [Bool.and_eq_true, decide_eq_true_eq]
  omega
def rgD : List D → R (List D)
  | [.int n] => if rgB 0 n = true then .ok (rngL 0 n.toNat) else .stuck
  | [.int a, .int b] => if rgB a b = true then .ok (rngL a (b - a).toNat) else .stuck
  | _ => .stuck
theorem RepL.rg {K : PySem.W.Frag} {mg : Str → Option Value} {H : Hp} {A : Addr → Prop} (a b : Int) : RepL K mg H A (rngL a (b - a).toNat) (rgV a b) := by
  unfold rgV rngL
  have := RepL.of_ints (K := K) (mg := mg) (H := H) (A := A) ((List.range (b - a).toNat).map fun k : Nat => a + (k : Int))
  rw [List.map_map, List.map_map] at this
  exact this
section
variable {X : Cx} {Z : Fx} {own lk : List Nat} {W : WX} {a b : Expr} {pos : Pos} {K : PySem.W.Frag} {mg : Str → Option Value} {σ : St} {H H1 : Hp} {α α1 : Al} {ρ : Rho}
def fTRg (f : FA) : FE := fun ρ => (f ρ).bind fun xs => (rgD xs).bind fun ys => .ok (.tup ys)
def fLRg (f : FA) : FE := fun ρ => (f ρ).bind fun xs => (rgD xs).bind fun ys => .ok (.lst ys)
/-- what a range in brackets gives -/
def PRD (X : Cx) (Z : Fx) (own : List Nat) (W : WX) (e : Expr) (f : FA) : Prop := ∃ t, PRg X e t ∧ ∀ (k : List D → D) σ H Q, tF X.K X.mg Z own W (fun ρ => (f ρ).bind fun xs => (rgD xs).bind fun ys => .ok (k ys)) σ H Q →
  t σ H fun a b H1 => RgOk a b ∧ ∃ A, (∀ p, H1 p = none → ¬ A p) ∧ FQ X.K X.mg A H1 (k (rngL a (b - a).toNat)) Q
theorem prd_1 {fa : FE} {p : Pos} (hg : Gl X "range") (hm : X.mg "range" = none) (ha : DR X Z own W a fa) (na : starEach [a] X.env = (false, eval a X.env) :: starEach [] X.env := by rfl) : PRD X Z own W (.Call (.Name "range" p) [a] [] pos) (fCons fa fNil) := by
  refine ⟨_, prg_1 hg hm ha na, fun k σ H Q ⟨α, ρ, E, q⟩ => ?_⟩
  refine (g_R (laterF X.K X.mg (AA Z.Ao α) Q) E (k := fun x => (rgD [x]).bind fun ys => .ok (k ys)) (by
    have := q.g
    simp only [fCons, fNil] at this
    cases h : fa ρ <;> rw [h] at this <;> exact this)).imp fun v H1 ⟨d, e1, s1, r1, E1, q1⟩ => ?_
  cases d with
  | int n =>
    have q1 : RSt X.mg W σ H1 ((if rgB 0 n = true then R.ok (rngL 0 n.toNat) else R.stuck).bind fun ys => .ok (k ys)) _ := q1
    by_cases h : rgB 0 n = true
    · rw [if_pos h] at q1
      have q1 : FQ X.K X.mg (AA Z.Ao α) H1 (k (rngL 0 n.toNat)) Q := q1
      exact ⟨n, r1.int, rgB_ok h, AA Z.Ao α, fun p n => E1.nA n, by rw [Int.sub_zero]; exact q1⟩
    · rw [if_neg h] at q1; exact q1.elim
  | _ => exact q1.elim
theorem prd_2 {fa fb : FE} {p : Pos} (hg : Gl X "range") (hm : X.mg "range" = none) (ha : DR X Z own W a fa) (hb : DR X Z own W b fb) (na : starEach [a, b] X.env = (false, eval a X.env) :: starEach [b] X.env := by rfl)
    (nb : starEach [b] X.env = (false, eval b X.env) :: starEach [] X.env := by rfl) (hp : (backTo pos (starEach [b] X.env)).any (·.1) = false := by rfl) : PRD X Z own W (.Call (.Name "range" p) [a, b] [] pos) (fCons fa (fCons fb fNil)) := by
  refine ⟨_, prg_2 hg hm ha hb na nb hp, fun k σ H Q ⟨α, ρ, E, q⟩ => ?_⟩
  refine (g_R (laterF X.K X.mg (AA Z.Ao α) Q) E (k := fun x => (fb ρ).bind fun y => (rgD [x, y]).bind fun ys => .ok (k ys)) (by
    have := q.g
    simp only [fCons, fNil] at this
    cases h : fa ρ with
    | ok x => rw [h] at this; cases h2 : fb ρ <;> rw [h2] at this <;> simpa [R.bind, h2] using this
    | raise c => rw [h] at this; exact this
    | stuck => rw [h] at this; exact this)).imp fun v H1 ⟨d, e1, s1, r1, E1, q1⟩ => ?_
  refine (g_R (laterF X.K X.mg (AA Z.Ao α) Q) E1 (k := fun y => (rgD [d, y]).bind fun ys => .ok (k ys)) q1).imp fun u H2 ⟨d2, e2, s2, r2, E2, q2⟩ => ?_
  cases d with
  | int i =>
    cases d2 with
    | int j =>
      have q2 : RSt X.mg W σ H2 ((if rgB i j = true then R.ok (rngL i (j - i).toNat) else R.stuck).bind fun ys => .ok (k ys)) _ := q2
      by_cases h : rgB i j = true
      · rw [if_pos h] at q2
        have q2 : FQ X.K X.mg (AA Z.Ao α) H2 (k (rngL i (j - i).toNat)) Q := q2
        exact ⟨i, j, r1.int, r2.int, rgB_ok h, AA Z.Ao α, fun p n => E2.nA n, q2⟩
      · rw [if_neg h] at q2; exact q2.elim
    | _ => exact q2.elim
  | _ => exact q2.elim
theorem PRg_imp {e : Expr} {t t' : St → Hp → (Int → Int → Hp → Prop) → Prop} (h : PRg X e t) (i : ∀ σ H Q, t' σ H Q → t σ H Q) : PRg X e t' := fun pins s σ H Q I w => h pins s σ H Q I (i σ H Q w)
theorem d_tupRg {e : Expr} {f : FA} {p : Pos} (hc : X.calm = true) (hg : Gl X "tuple") (hm : X.mg "tuple" = none) (he : PRD X Z own W e f) (na : starEach [e] X.env = (false, eval e X.env) :: starEach [] X.env := by rfl) : DF X Z own W (.Call (.Name "tuple" p) [e] [] pos) (fTRg f) := by
  obtain ⟨t, h1, h2⟩ := he
  have h1' : PRg X e (fun σ H Q => ∃ Q0, t σ H Q0 ∧ ∀ a b H1, Q0 a b H1 → Q a b H1) := fun pins s σ H Q I ⟨Q0, w, i⟩ => thn (h1 pins s σ H Q0 I w) fun x s1 ⟨r, a, b, t, u, v, H1, ex, hr, I1, q⟩ => ⟨r, a, b, t, u, v, H1, ex, hr, I1, i _ _ _ q⟩
  exact PE_imp (pe_tupRg hc hg hm h1' na) fun σ H Q w => ⟨_, h2 .tup σ H Q w, fun a b H1 ⟨ok, A, hA, q⟩ => ⟨ok, fun p hp => q.newTup (RepL.rg a b) hA hp⟩⟩
theorem d_lstRg {e : Expr} {f : FA} {p : Pos} (hc : X.calm = true) (hg : Gl X "list") (hm : X.mg "list" = none) (he : PRD X Z own W e f) (na : starEach [e] X.env = (false, eval e X.env) :: starEach [] X.env := by rfl) : DF X Z own W (.Call (.Name "list" p) [e] [] pos) (fLRg f) := by
  obtain ⟨t, h1, h2⟩ := he
  have h1' : PRg X e (fun σ H Q => ∃ Q0, t σ H Q0 ∧ ∀ a b H1, Q0 a b H1 → Q a b H1) := fun pins s σ H Q I ⟨Q0, w, i⟩ => thn (h1 pins s σ H Q0 I w) fun x s1 ⟨r, a, b, t, u, v, H1, ex, hr, I1, q⟩ => ⟨r, a, b, t, u, v, H1, ex, hr, I1, i _ _ _ q⟩
  exact PE_imp (pe_listRg hc hg hm h1' na) fun σ H Q w => ⟨_, h2 .lst σ H Q w, fun a b H1 ⟨ok, A, hA, q⟩ => ⟨ok, fun p hp => q.newLst (RepL.rg a b) hp⟩⟩
end
theorem u1 {k : Nat} {A : Around} (r : Room k A) : A.units + 1 < cLine := by have := u64 r; omega
end Sh

namespace Sh
open PySem PySem.Spec PyProof.Rows L2
/-! ### a list of its own is changed no more: from here on it is data -/
section
variable {X : Cx} {Z : Fx} {own own2 lk : List Nat} {W : WX} {st : Stmt} {rest : List Stmt} {K : PySem.W.Frag} {mg : Str → Option Value} {σ : St} {H H1 : Hp} {α α1 : Al} {ρ : Rho}
def offA (α : Al) (i : Nat) : Al := fun j => if j = i then none else α j
theorem offA_ne {i j : Nat} (h : j ≠ i) : offA α i j = α j := if_neg h
theorem offA_some {i j : Nat} {a : Addr} (h : offA α i j = some a) : α j = some a ∧ j ≠ i := by
  unfold offA at h
  by_cases e : j = i
  · rw [if_pos e] at h; cases h
  · rw [if_neg e] at h; exact ⟨h, e⟩
theorem offA_mv (i : Nat) : Mv (AA Z.Ao α) H (AA Z.Ao (offA α i)) H := fun b o h n => ⟨h, fun z => n (by
  rcases z with z | ⟨j, z⟩
  · exact .inl z
  · exact .inr ⟨j, (offA_some z).1⟩)⟩
theorem EnvR.off (E : EnvR K mg Z own α ρ σ H) (i : Nat) (ho : ∀ j, j ∈ own2 ↔ (j ∈ own ∧ j ≠ i)) : EnvR K mg Z own2 (offA α i) ρ σ H := by
  have M := offA_mv (Z := Z) (α := α) (H := H) i
  refine ⟨E.len, E.same, fun j d e c => ?_, fun j d e c b => ?_, fun b h => E.dom b ?_, fun j a h => E.new j a (offA_some h).1, fun j k a h1 h2 => E.inj j k a (offA_some h1).1 (offA_some h2).1, E.out, ?_⟩
  · by_cases hc : j ∉ own ∨ isBox d = false
    · obtain ⟨v, h1, h2⟩ := E.sh j d e hc
      exact ⟨v, h1, h2.mv M⟩
    · have hj : j ∈ own := Classical.not_not.mp fun z => hc (.inl z)
      have hb : isBox d = true := by
        cases z : isBox d
        · exact absurd (.inr z) hc
        · rfl
      have hi : j = i := by
        rcases c with c | c
        · exact Classical.not_not.mp fun z => c ((ho j).mpr ⟨hj, z⟩)
        · rw [hb] at c; cases c
      subst hi
      obtain ⟨a, h1, h2, h3⟩ := E.ow j d e hj hb
      refine ⟨.ref a, h2, (h3.mv M fun o z => z).rep' ?_⟩
      rintro (z | ⟨k, z⟩)
      · obtain ⟨o, hz⟩ := E.out a z
        rw [E.new j a h1] at hz; cases hz
      · exact (offA_some z).2 (E.inj k j a (offA_some z).1 h1)
  · obtain ⟨c1, c2⟩ := (ho j).mp c
    obtain ⟨a, h1, h2, h3⟩ := E.ow j d e c1 b
    exact ⟨a, by rw [offA_ne c2]; exact h1, h2, h3.mv M fun o z => z⟩
  · rcases h with z | ⟨j, z⟩
    · exact .inl z
    · exact .inr ⟨j, (offA_some z).1⟩
  · obtain ⟨n, hn⟩ := E.fin
    exact ⟨n, fun j hj => by unfold offA; split; rfl; exact hn j hj⟩
theorem EnvR.on (E : EnvR K mg Z own2 α ρ σ H) (i : Nat) (ho : ∀ j, j ∈ own2 ↔ (j ∈ own ∧ j ≠ i)) : EnvR K mg Z own (offA α i) (ρ.set i none) σ H := by
  have M := offA_mv (Z := Z) (α := α) (H := H) i
  have sub : ∀ j (d : D), (ρ.set i none)[j]? = some (some d) → ρ[j]? = some (some d) ∧ j ≠ i := fun j d e => by
    by_cases hj : i = j
    · subst hj
      by_cases hl : i < ρ.length
      · rw [List.getElem?_set_self hl] at e; cases e
      · rw [List.getElem?_eq_none (by simpa using hl)] at e; cases e
    · rw [List.getElem?_set_ne hj] at e
      exact ⟨e, fun z => hj z.symm⟩
  refine ⟨by rw [List.length_set]; exact E.len, E.same, fun j d e c => ?_, fun j d e c b => ?_, fun b h => E.dom b ?_, fun j a h => E.new j a (offA_some h).1, fun j k a h1 h2 => E.inj j k a (offA_some h1).1 (offA_some h2).1, E.out, ?_⟩
  · obtain ⟨e1, n⟩ := sub j d e
    obtain ⟨v, h1, h2⟩ := E.sh j d e1 (c.imp (fun z y => z ((ho j).mp y).1) id)
    exact ⟨v, h1, h2.mv M⟩
  · obtain ⟨e1, n⟩ := sub j d e
    obtain ⟨a, h1, h2, h3⟩ := E.ow j d e1 ((ho j).mpr ⟨c, n⟩) b
    exact ⟨a, by rw [offA_ne n]; exact h1, h2, h3.mv M fun o z => z⟩
  · rcases h with z | ⟨j, z⟩
    · exact .inl z
    · exact .inr ⟨j, (offA_some z).1⟩
  · obtain ⟨n, hn⟩ := E.fin
    exact ⟨n, fun j hj => by unfold offA; split; rfl; exact hn j hj⟩
def fFrz (i : Nat) (f : FS) : FS := fun ρ => match f ρ with
  | .nx ρ' => .nx (ρ'.set i none)
  | .raise c ρ' => .raise c (ρ'.set i none)
  | r => r
theorem post_frz {i : Nat} (hl : i ∉ lk) (P : Post Z lk (offA α i) H α1 H1) : Post Z lk α H (offA α1 i) H1 := by
  obtain ⟨m, k⟩ := P
  refine ⟨((offA_mv i).trans m).trans (offA_mv i), fun j hj => ?_⟩
  have hn : j ≠ i := fun z => hl (z ▸ hj)
  obtain ⟨k1, k2⟩ := k j hj
  rw [offA_ne hn] at k1
  rw [offA_ne hn] at k2
  exact ⟨by rw [offA_ne hn]; exact k1, k2⟩
theorem dss_frz {sts : List Stmt} {f : FS} (i : Nat) (own2 : List Nat) (h : DSs X Z own2 lk W sts f) (ho : ∀ j, j ∈ own2 ↔ (j ∈ own ∧ j ≠ i)) (hl : i ∉ lk) : DSs X Z own lk W sts (fFrz i f) := PSs_imp h fun D σ H ⟨α, ρ, E, q⟩ => by
  refine ⟨offA α i, ρ, E.off i ho, ?_⟩
  unfold fFrz at q
  cases hr : f ρ with
  | nx ρ' => rw [hr] at q; exact fun α1 σ1 H1 E1 P1 => q _ σ1 H1 (E1.on i ho) (post_frz hl P1)
  | rt d => rw [hr] at q; exact q
  | raise c ρ' => rw [hr] at q; exact fun C α1 σ1 H1 hC E1 P1 => q C _ σ1 H1 hC (E1.on i ho) (post_frz hl P1)
  | stuck => rw [hr] at q; exact q
end
end Sh

namespace Sh
open PySem PySem.Spec PyProof.Rows L2
/-! ### more reckoning: in, slices, filtered lists, dicts as sets -/
theorem flat_ints (ns : List Int) : (ns.map D.int).all flatD = true := by
  rw [List.all_map]; exact List.all_eq_true.mpr fun x _ => rfl
theorem any_flatEq (a : Int) (ns : List Int) : ((ns.map D.int).any fun d => flatEq d (.int a)) = ns.contains a := by
  rw [List.any_map, List.contains_eq_any_beq]
  congr 1
  funext x
  show flatEq (.int x) (.int a) = (a == x)
  by_cases h : x = a
  · subst h; simp [flatEq]
  · have : ¬ a = x := fun z => h z.symm
    have e1 : flatEq (.int x) (.int a) = false := by simp [flatEq, h]
    rw [e1, beq_eq_false_iff_ne.mpr this]
@[simp] theorem in_tupI (a : Int) (ns : List Int) : blD inB (.int a) (.tup (ns.map D.int)) = .ok (.bl (ns.contains a)) := by
  have e : inB (.int a) (.tup (ns.map D.int)) = .ok (ns.contains a) := by
    show (if (flatD (.int a) && (ns.map D.int).all flatD) = true then R.ok ((ns.map D.int).any fun d => flatEq d (.int a)) else .stuck) = _
    rw [flat_ints, any_flatEq]; rfl
  unfold blD
  rw [e]; rfl
@[simp] theorem notin_tupI (a : Int) (ns : List Int) : notInD (.int a) (.tup (ns.map D.int)) = .ok (.bl (!ns.contains a)) := by
  have e : inB (.int a) (.tup (ns.map D.int)) = .ok (ns.contains a) := by
    show (if (flatD (.int a) && (ns.map D.int).all flatD) = true then R.ok ((ns.map D.int).any fun d => flatEq d (.int a)) else .stuck) = _
    rw [flat_ints, any_flatEq]; rfl
  unfold notInD
  rw [e]; rfl
@[simp] theorem in_lstI (a : Int) (ns : List Int) : blD inB (.int a) (.lst (ns.map D.int)) = .ok (.bl (ns.contains a)) := by
  have e : inB (.int a) (.lst (ns.map D.int)) = .ok (ns.contains a) := by
    show (if (flatD (.int a) && (ns.map D.int).all flatD) = true then R.ok ((ns.map D.int).any fun d => flatEq d (.int a)) else match toPy (.int a), toPyL (ns.map D.int) with
      | some p, some qs => if (SeqAt.shaped p && SeqAt.shaped (.list qs)) = true then .ok (qs.any fun z => PyData.eqv z p) else .stuck
      | _, _ => .stuck) = _
    rw [flat_ints, any_flatEq]; rfl
  unfold blD
  rw [e]; rfl
@[simp] theorem notin_lstI (a : Int) (ns : List Int) : notInD (.int a) (.lst (ns.map D.int)) = .ok (.bl (!ns.contains a)) := by
  have e : inB (.int a) (.lst (ns.map D.int)) = .ok (ns.contains a) := by
    show (if (flatD (.int a) && (ns.map D.int).all flatD) = true then R.ok ((ns.map D.int).any fun d => flatEq d (.int a)) else match toPy (.int a), toPyL (ns.map D.int) with
      | some p, some qs => if (SeqAt.shaped p && SeqAt.shaped (.list qs)) = true then .ok (qs.any fun z => PyData.eqv z p) else .stuck
      | _, _ => .stuck) = _
    rw [flat_ints, any_flatEq]; rfl
  unfold notInD
  rw [e]; rfl
@[simp] theorem len_tupI (ns : List Int) : lenD [.tup (ns.map D.int)] = .ok (.int (ns.length : Nat)) := by rw [len_tup, List.length_map]
@[simp] theorem len_lstI (ns : List Int) : lenD [.lst (ns.map D.int)] = .ok (.int (ns.length : Nat)) := by rw [len_lst, List.length_map]
theorem cut_map {α β : Type} (f : α → β) (xs : List α) (lo hi : Option Int) : cutD (xs.map f) lo hi = (cutD xs lo hi).map f := by
  unfold cutD
  rw [List.length_map, List.map_take, List.map_drop]
theorem cut_to {α : Type} (xs : List α) (k : Nat) : cutD xs none (some (k : Int)) = xs.take k := by
  unfold cutD
  rw [HT.sIx_none, HT.sIx_nat, Nat.sub_zero, List.drop_zero]
  rcases Nat.le_total k xs.length with h | h
  · rw [Nat.min_eq_left h]
  · rw [Nat.min_eq_right h, List.take_length, List.take_of_length_le h]
theorem cut_from {α : Type} (xs : List α) (k : Nat) : cutD xs (some (k : Int)) none = xs.drop k := by
  unfold cutD
  rw [HT.sIx_nat, HT.sIx_none]
  rcases Nat.le_total k xs.length with h | h
  · rw [Nat.min_eq_left h, List.take_of_length_le (by simp)]
  · rw [Nat.min_eq_right h, List.drop_eq_nil_of_le h]; simp
theorem filterMap_if {α β : Type} (p : α → Bool) (f : α → β) : ∀ xs : List α, (xs.filterMap fun x => if p x = true then some (f x) else none) = (xs.filter p).map f
  | [] => rfl
  | x :: r => by
    rw [List.filterMap_cons, List.filter_cons]
    by_cases h : p x = true
    · rw [if_pos h, if_pos h, List.map_cons, filterMap_if p f r]
    · rw [if_neg h, if_neg h, filterMap_if p f r]
theorem lcF_filt {α : Type} {step : D → R (Option D)} (emb : α → D) (p : α → Bool) (h : α → D) (xs : List α) (H : ∀ x ∈ xs, step (emb x) = .ok (if p x = true then some (h x) else none)) : lcF step (xs.map emb) = .ok ((xs.filter p).map h) := by
  rw [lcF_filterMap emb (fun x => if p x = true then some (h x) else none) xs H, filterMap_if]
theorem lcF_rngF {step : D → R (Option D)} (lo : Int) (n : Nat) (p : Nat → Bool) (h : Nat → D) (H : ∀ k, k < n → step (.int (lo + (k : Nat))) = .ok (if p k = true then some (h k) else none)) : lcF step (rngL lo n) = .ok (((List.range n).filter p).map h) :=
  lcF_filt (fun k : Nat => D.int (lo + (k : Int))) p h _ fun k hk => H k (List.mem_range.mp hk)
/-- a dict told as a list of whole numbers all of whose values are one and the same -/
theorem has_ints (a : Int) (ns : List Int) : hasK (ns.map D.int) (.inl a) = ns.contains a := by
  unfold hasK
  rw [List.any_map, List.contains_eq_any_beq]
  congr 1
  funext x
  show decide (keyD (.int x) = some (.inl a)) = (a == x)
  by_cases h : x = a
  · subst h; simp [keyD]
  · have : ¬ a = x := fun z => h z.symm
    simp [keyD, h, this]
theorem sub_same (k : Key) (y : D) : ∀ (ks : List D), subK ks (ks.map fun _ => y) k y = ks.map fun _ => y
  | [] => rfl
  | a :: r => by
    show (if keyD a = some k then y else y) :: subK r (r.map fun _ => y) k y = _
    rw [sub_same k y r, ite_self]; rfl
def insI (ns : List Int) (a : Int) : List Int := if ns.contains a = true then ns else ns ++ [a]
theorem put_int (ns : List Int) (a : Int) (y : D) (h : ns.length ≤ 9999) : putD (ns.map D.int) ((ns.map D.int).map fun _ => y) (.int a) y = .ok ((insI ns a).map D.int, ((insI ns a).map D.int).map fun _ => y) := by
  show (if apB (ns.map D.int) = true then R.ok (if hasK (ns.map D.int) (.inl a) = true then _ else _) else _) = _
  rw [if_pos (apB_map h), has_ints, sub_same]
  unfold insI
  by_cases hc : ns.contains a = true
  · rw [if_pos hc, if_pos hc]
  · rw [if_neg hc, if_neg hc]; simp
theorem insI_nodup {ns : List Int} {a : Int} (h : ns.Nodup) : (insI ns a).Nodup := by
  unfold insI
  by_cases hc : ns.contains a = true
  · rw [if_pos hc]; exact h
  · rw [if_neg hc, List.nodup_append]
    refine ⟨h, by simp, fun x hx y hy => ?_⟩
    rintro rfl
    rw [List.mem_singleton] at hy
    subst hy
    exact hc (by simpa using hx)
theorem insI_len (ns : List Int) (a : Int) : (insI ns a).length ≤ ns.length + 1 := by
  unfold insI; split <;> simp
theorem insI_mem {ns : List Int} {a x : Int} : x ∈ insI ns a ↔ x ∈ ns ∨ x = a := by
  unfold insI
  by_cases hc : ns.contains a = true
  · rw [if_pos hc]
    constructor
    · exact .inl
    · rintro (h | rfl)
      · exact h
      · simpa using hc
  · rw [if_neg hc]; simp
theorem sortK_ints (ns : List Int) (vs : List D) (h : ns.length < 64) : sortKD [.dct (ns.map D.int) vs] = .ok (.lst ((sortI ns).map D.int)) := by
  show (match ltI (ns.map D.int) with
    | some ns => if ns.length < 64 then (R.ok (D.lst ((sortI ns).map .int)) : R D) else .stuck
    | none => .stuck) = _
  rw [ltI_map]
  simp [h]
theorem sorted_ints (ns : List Int) : sortedD [.lst (ns.map D.int)] = .ok (.lst ((sortI ns).map D.int)) := by
  show (match ltI (ns.map D.int) with
    | some ns => (R.ok (D.lst ((sortI ns).map .int)) : R D)
    | none => .stuck) = _
  rw [ltI_map]
theorem sortI_mem {ns : List Int} {x : Int} : x ∈ sortI ns ↔ x ∈ ns := (sortI_perm ns).mem_iff
theorem sortI_len (ns : List Int) : (sortI ns).length = ns.length := (sortI_perm ns).length_eq
theorem sortI_lt {ns : List Int} (h : ns.Nodup) : (sortI ns).Pairwise (· < ·) := by
  have h1 := sortI_sorted ns
  have h2 : (sortI ns).Nodup := (sortI_perm ns).nodup_iff.mpr h
  exact (h1.and h2).imp fun ⟨a, b⟩ => by
    have : _ ≠ _ := b
    omega
/-- the test that each is above the one ahead of it -/
def ascB (ns : List Int) : Bool := (List.range (ns.length - 1)).all fun k => decide (ns.getD k 0 < ns.getD (k + 1) 0)
theorem ascB_of {ns : List Int} (h : ns.Pairwise (· < ·)) : ascB ns = true := by
  unfold ascB
  rw [List.all_eq_true]
  intro k hk
  have hk := List.mem_range.mp hk
  have h1 : k < ns.length := by omega
  have h2 : k + 1 < ns.length := by omega
  rw [decide_eq_true_eq, List.getD_eq_getElem?_getD, List.getD_eq_getElem?_getD, List.getElem?_eq_getElem h1, List.getElem?_eq_getElem h2]
  exact List.pairwise_iff_getElem.mp h k (k + 1) h1 h2 (by omega)
section
variable (ρ : Rho)
@[simp] theorem fPut_eq (i : Nat) (fk f : FE) : fPut i fk f ρ = toS ((f ρ).bind fun y => (fVar i ρ).bind fun x => (asDct x).bind fun kv => (fk ρ).bind fun k => putD kv.1 kv.2 k y) ρ fun kv => .nx (ρ.set i (some (.dct kv.1 kv.2))) := (rfl)
@[simp] theorem asDct_dct (ks vs : List D) : asDct (.dct ks vs) = .ok (ks, vs) := (rfl)
@[simp] theorem fTRg_eq (f : FA) : fTRg f ρ = (f ρ).bind fun xs => (rgD xs).bind fun ys => .ok (.tup ys) := (rfl)
@[simp] theorem fLRg_eq (f : FA) : fLRg f ρ = (f ρ).bind fun xs => (rgD xs).bind fun ys => .ok (.lst ys) := (rfl)
@[simp] theorem rgD_1 (n : Int) : rgD [.int n] = if rgB 0 n = true then .ok (rngL 0 n.toNat) else .stuck := (rfl)
@[simp] theorem rgD_2 (a b : Int) : rgD [.int a, .int b] = if rgB a b = true then .ok (rngL a (b - a).toNat) else .stuck := (rfl)
theorem fFrz_eq (i : Nat) (f : FS) : fFrz i f ρ = match f ρ with
  | .nx ρ' => .nx (ρ'.set i none)
  | .raise c ρ' => .raise c (ρ'.set i none)
  | r => r := (rfl)
def RS.frz (i : Nat) (r : RS) : RS := match r with
  | .nx ρ' => .nx (ρ'.set i none)
  | .raise c ρ' => .raise c (ρ'.set i none)
  | r => r
@[simp] theorem fFrz_frz (i : Nat) (f : FS) : fFrz i f ρ = (f ρ).frz i := (rfl)
@[simp] theorem frz_nx (i : Nat) : (RS.nx ρ).frz i = .nx (ρ.set i none) := (rfl)
@[simp] theorem frz_rt (i : Nat) (d : D) : (RS.rt d).frz i = .rt d := (rfl)
@[simp] theorem frz_raise (i : Nat) (x : Str) : (RS.raise x ρ).frz i = .raise x (ρ.set i none) := (rfl)
@[simp] theorem frz_stuck (i : Nat) : RS.stuck.frz i = .stuck := (rfl)
@[simp] theorem frz_ite (i : Nat) (c : Prop) [Decidable c] (a b : RS) : (if c then a else b).frz i = if c then a.frz i else b.frz i := by split <;> rfl
@[simp] theorem cutR_tup (lo hi : Option Int) (xs : List D) : cutR lo hi (.tup xs) = .ok (.tup (cutD xs lo hi)) := (rfl)
@[simp] theorem cutR_lst (lo hi : Option Int) (xs : List D) : cutR lo hi (.lst xs) = .ok (.lst (cutD xs lo hi)) := (rfl)
end
theorem fTryM_raise {fb : FS} {sub : Str → Str → Bool} {xs : List Str} {hs : HdF} {x : Str} {ρ ρ' : Rho} (h : fb ρ = .raise x ρ') (hx : x ∈ xs) : fTryM fb sub xs hs ρ = selM sub x ρ' hs := by
  unfold fTryM
  rw [h]
  exact if_pos hx
theorem fTryM_nx {fb : FS} {sub : Str → Str → Bool} {xs : List Str} {hs : HdF} {ρ ρ' : Rho} (h : fb ρ = .nx ρ') : fTryM fb sub xs hs ρ = .nx ρ' := by
  unfold fTryM
  rw [h]
theorem fTryM_rt {fb : FS} {sub : Str → Str → Bool} {xs : List Str} {hs : HdF} {ρ : Rho} {d : D} (h : fb ρ = .rt d) : fTryM fb sub xs hs ρ = .rt d := by
  unfold fTryM
  rw [h]
theorem eq_str {x y : Str} (hx : SeqAt.shaped (.str x) = true) (hy : SeqAt.shaped (.str y) = true) : eqD (.str x) (.str y) = .ok (.bl (x == y)) := by
  rw [eq_of_py (p := .str x) (q := .str y) (by simp only [toPy]) (by simp only [toPy]) hx hy]
  rfl
theorem ne_str {x y : Str} (hx : SeqAt.shaped (.str x) = true) (hy : SeqAt.shaped (.str y) = true) : neD (.str x) (.str y) = .ok (.bl (!(x == y))) := ne_of_eq' (eq_str hx hy)
theorem ne_same {x : Str} (hx : SeqAt.shaped (.str x) = true) : neD (.str x) (.str x) = .ok (.bl false) := by rw [ne_str hx hx, BEq.rfl]; rfl
theorem eq_same {x : Str} (hx : SeqAt.shaped (.str x) = true) : eqD (.str x) (.str x) = .ok (.bl true) := by rw [eq_str hx hx, BEq.rfl]
end Sh

namespace Sh
open PySem PySem.Spec PyProof.Rows L2
/-! ### enumerate(tuple) -/
set_option maxHeartbeats 4000000 in
theorem new_enumB {v : Value} {o : Obj} {B : Heap → Prop} (b : Begins v o B) :
    Meets (Builtin.«enumerate.__new__» ⟨[.type "enumerate", v], []⟩) (fun _ R s => B s.heap ∧
      R (.ok (.ret (.ref (s.heap.push o).objs.size))) { s with heap := (s.heap.push o).push { cls := .type "enumerate", data := .fields #[.none, .bool false, .ref s.heap.objs.size, rawInt 0, .none, .none] } }) :=
  .of_wp fun prog w A R s hyp => by
    obtain ⟨hp, gens, dd, tk, os⟩ := s
    obtain ⟨hB, fin⟩ := hyp
    have hsub := sub_enumerate
    have it_ : ∀ {A' : Around} {E : Value → Shared → Prop} {Q : Value → Shared → Prop}, Q (.ref hp.objs.size) ⟨hp.push o, gens, dd, tk, os⟩ → wpAny (model prog w) A' (pyIter v) Q E ⟨hp, gens, dd, tk, os⟩ := fun q => b.iter prog w _ _ ⟨hp, gens, dd, tk, os⟩ _ hB q
    wp_walk using it_
    refine wpAny_stack_any fun stk => wpAny_pure ?_
    split
    · rename_i c _ _ _ _ _
      cases (c == Value.type "enumerate")
      · wp_walk using it_
        exact ⟨_, rfl, fin⟩
      · wp_walk using it_
        exact ⟨_, rfl, fin⟩
    · wp_walk using it_
      exact ⟨_, rfl, fin⟩
theorem call_enumB {prog : Program} {w : World} {A : Around} {E : Value → Shared → Prop} {s : Shared} {v : Value} {o : Obj} {B : Heap → Prop} {Q : Value → Shared → Prop} (b : Begins v o B) (hB : B s.heap)
    (fin : ∀ h', IsEnum h' (s.heap.objs.size + 1) s.heap.objs.size 0 .none → h'.get? s.heap.objs.size = some o → (∀ c y, s.heap.get? c = some y → h'.get? c = some y) → Q (.ref (s.heap.objs.size + 1)) { s with heap := h' }) :
    wpAny (model prog w) A (call (.type "enumerate") [v]) Q E s := by
  refine callType_new F.called_enumerate (by decide) (F.typeCall_enumerate_1 _) (F.newCall_enumerate_1 _) (fun obj => F.args_object_init_2 obj _) F.entry_enumerate_new (new_enumB b) ⟨hB, ?_⟩
  have sz : (s.heap.push o).objs.size = s.heap.objs.size + 1 := Heap.size_push ..
  show _ ∧ _
  rw [sz]
  have en : IsEnum ((s.heap.push o).push { cls := .type "enumerate", data := .fields #[.none, .bool false, .ref s.heap.objs.size, rawInt 0, .none, .none] }) (s.heap.objs.size + 1) s.heap.objs.size 0 .none := by
    have g := Heap.get?_push_size (s.heap.push o) (o := { cls := .type "enumerate", data := .fields #[.none, .bool false, .ref s.heap.objs.size, rawInt 0, .none, .none] }) rfl
    rw [sz] at g
    exact g
  exact ⟨⟨_, en, rfl⟩, fin _ en (Heap.get?_push_of_some _ (Heap.get?_push_size _ b.free)) fun c y z => Heap.get?_push_of_some _ (Heap.get?_push_of_some _ z)⟩
/-- the tuple at a, each item in a new pair with its place -/
def IteT (K : PySem.W.Frag) (a : Addr) : It :=
  ⟨fun i H => ∃ (xs : List V) (x : V), SqT K H a xs ∧ xs[i]? = some x, fun i H v H' => ∃ T x, v = .ref T ∧ H T = none ∧ H' = upd H T (.tup [.int (i : Nat), x]) ∧ ∀ xs, SqT K H a xs → xs[i]? = some x, fun i H => ∃ xs : List V, SqT K H a xs ∧ xs.length = i⟩
theorem turn_enumT {P : Program} {w : World} {K : PySem.W.Frag} {elts : List Expr} {kk : Nat} {tpos : Pos} (a e it : Addr) :
    Turn P w K (.Tuple elts kk tpos) (IteT K a) [e, it] e (fun i h => (∃ old, IsEnum h e it ((i : Nat) : Int) old) ∧ h.IsTupleIter it a i ∧ e ≠ it ∧ e ≠ a ∧ it ≠ a) where
  mem := by simp
  obj := fun i h st b hb => by
    obtain ⟨⟨old, he⟩, ⟨o, ho, hc, hd⟩, _⟩ := st
    rcases (show b = e ∨ b = it by simpa using hb) with z | z
    · rw [z]; exact ⟨_, he, fun v q => nomatch q⟩
    · rw [z]; exact ⟨o, ho, fun v q => by rw [hd] at q; cases q⟩
  keep := fun i h h' st k => let ⟨⟨old, he⟩, hi, r⟩ := st; ⟨⟨old, k e (by simp) _ he⟩, hi.at fun o q => k it (by simp) o q, r⟩
  item := by
    intro X hP hw hK hc i pins s σ H E I hf st hg
    subst hP hw hK
    obtain ⟨⟨old, he⟩, hit, hne, hea, hia⟩ := st
    obtain ⟨xs, x, hq, hx⟩ := hg
    obtain ⟨its, rv, p, _⟩ := I.tuple hq
    obtain ⟨u, hu, ru⟩ := rv.get hx
    have hel : e < s.heap.objs.size := Heap.lt_size he
    have hil : it < s.heap.objs.size := by obtain ⟨_, q, _⟩ := hit; exact Heap.lt_size q
    have dr := Draws.tuple (prog := X.prog) (w := X.w) (A := X.A.in1) (I.ok.hd hc) it a (Ne.symm hia) its.toArray
    have hlt : i < its.toArray.size := by
      rw [List.size_toArray, ← rv.length]
      exact (List.getElem?_eq_some_iff.mp hx).1
    refine wpAny_pyNext_enum_itemD dr he ⟨hit, p⟩ hlt hne (by simp [hne, hea]) fun y h' tk hy ho hst hT _ hk => ?_
    have ey : y = u := by
      have : its.toArray[i]? = some u := by simpa using hu
      rw [this] at hy; exact (Option.some.inj hy).symm
    subst ey
    refine ⟨_, rfl, wpAny_letOwnedTupleGo_enum (s := { s with heap := h', toks := tk + 1 }) ho fun h'' he' sb => ?_⟩
    have hT2 : h''.get? s.heap.objs.size = some { cls := .type "tuple", data := .seq #[.int i tk, y] } := (sb.2 _ (Nat.ne_of_gt hel)).trans hT
    have new : ObjOk X.prog X.w (upd H s.heap.objs.size (.tup [.int (i : Nat), x])) h'' s.heap.objs.size (.tup [.int (i : Nat), x]) :=
      ⟨by show 2 ≤ sizeLine; decide, [.int i tk, y], .cons ⟨_, rfl⟩ (.cons ru .nil), ⟨_, hT2, rfl, _, rfl⟩⟩
    have I1 : Inv X pins σ (upd H s.heap.objs.size (.tup [.int (i : Nat), x])) { s with heap := h'', toks := tk + 1 } :=
      I.turnedNew (ch := [e, it]) (fun b ob hb q => (sb.2 b (fun z => hb (by simp [z]))).trans (hk b ob (fun z => hb (by simp [z])) (fun z => hb (by simp [z])) q)) hf (Nat.le_refl _) new
    refine ⟨.ref s.heap.objs.size, _, I1, rfl, ⟨_, x, rfl, I.hok.fresh (Nat.le_refl _), rfl, fun ys hy => by rw [I.tuple_inj hy hq]; exact hx⟩, ⟨⟨y, ?_⟩, hst.1.at fun o q => (sb.2 it (Ne.symm hne)).trans q, hne, hea, hia⟩, fun b hb => ?_⟩
    · rw [show ((i + 1 : Nat) : Int) = (i : Int) + 1 by omega]; exact he'
    · have hb' : b < s.heap.objs.size := by
        rcases (show b = e ∨ b = it by simpa using hb) with z | z
        · rw [z]; exact hel
        · rw [z]; exact hil
      rw [upd_ne (Nat.ne_of_lt hb')]
      exact (hf b hb).1
  done := by
    intro X hP hw hK hc i pins s σ H E I hf st hg
    subst hP hw hK
    obtain ⟨⟨old, he⟩, hit, hne, hea, hia⟩ := st
    obtain ⟨xs, hq, hx⟩ := hg
    obtain ⟨its, rv, p, _⟩ := I.tuple hq
    obtain ⟨f0, f1, f2, f3, f4, f5⟩ := hf it (by simp)
    have dr := Draws.tuple (prog := X.prog) (w := X.w) (A := X.A.in1) (I.ok.hd hc) it a (Ne.symm hia) its.toArray
    have hn : its.toArray.size = i := by rw [List.size_toArray, ← rv.length]; exact hx
    exact wpAny_pyNext_enum_endD dr he ⟨by rw [hn]; exact hit, p⟩ fun h' eb => ⟨rfl, I.turned (t' := s.toks) (fun b o hb q => eb b o hb q) f0 f1 f3 f4 f5⟩
  self := fun A i s Q E st h => let ⟨⟨_, he⟩, _⟩ := st; wpAny_pyIter_enum he h
def iEnumT (K : PySem.W.Frag) (ta : TA) : TI := fun σ H R => ta σ H fun vs H1 => ∃ a xs, vs = [.ref a] ∧ SqT K H1 a xs ∧ R (IteT K a) H1
theorem pi_enumT {X : Cx} {e : Expr} {ta : TA} {p pos tpos : Pos} {elts : List Expr} {kk : Nat} (hg : Gl X "enumerate") (hm : X.mg "enumerate" = none) (ha : PA X [e] ta) (hs : starEach [e] X.env = [(false, eval e X.env)] := by rfl) :
    PI X (.Tuple elts kk tpos) (.Call (.Name "enumerate" p) [e] [] pos) (iEnumT X.K ta) := by
  refine ⟨fun pins s σ H R I h => ?_⟩
  refine Call_ (ld_blt I hg hm boot_enumerate (PyProof.Rows.callWith_type1 (thn (ha.run pos pins s σ H _ I h) fun us s1 ⟨vs, H1, I1, r1, q1⟩ => ?_) hs rfl))
  obtain ⟨a, xs, ex, hq, q⟩ := q1
  subst ex
  cases r1 with
  | cons r rr =>
    cases rr
    cases r
    obtain ⟨its, rv, p', hz⟩ := I1.tuple hq
    have hal : a < s1.heap.objs.size := by obtain ⟨_, q', _⟩ := p'; exact Heap.lt_size q'
    refine call_enumB (begins_tuple a its.toArray) p' fun h' he hit hk => wpAny_pyIter_enum he ?_
    have I2 : Inv X pins σ H1 { s1 with heap := h' } := I1.kept (t' := s1.toks) hk
    refine ⟨s1.heap.objs.size + 1, [s1.heap.objs.size + 1, s1.heap.objs.size], _, _, H1, rfl, I2, turn_enumT a (s1.heap.objs.size + 1) s1.heap.objs.size, ⟨⟨.none, he⟩, ⟨_, hit, rfl, rfl⟩, Nat.succ_ne_self _, Nat.ne_of_gt (Nat.lt_succ_of_lt hal), Nat.ne_of_gt hal⟩, fun b hb => ?_, q⟩
    have hle : s1.heap.objs.size ≤ b := by
      rcases (show b = s1.heap.objs.size + 1 ∨ b = s1.heap.objs.size by simpa using hb) with z | z
      · rw [z]; exact Nat.le_add_right _ _
      · rw [z]; exact Nat.le_refl _
    exact I1.fpOk hle (I1.hok.fresh hle)
/-! ### enumerate on plain data -/
def enumL (ds : List D) : List D := (List.range ds.length).zipWith (fun (i : Nat) d => D.tup [.int (i : Int), d]) ds
theorem enumL_len (ds : List D) : (enumL ds).length = ds.length := by simp [enumL]
theorem enumL_get {ds : List D} {i : Nat} {d : D} (h : ds[i]? = some d) : (enumL ds)[i]? = some (.tup [.int (i : Int), d]) := by
  have hi := (List.getElem?_eq_some_iff.mp h).1
  unfold enumL
  rw [List.getElem?_zipWith, List.getElem?_range hi, h]
section
variable {X : Cx} {Z : Fx} {own lk : List Nat} {W : WX} {e tg a b : Expr} {pos p tpos : Pos} {K : PySem.W.Frag} {mg : Str → Option Value}
theorem pair_rep {H : Hp} {α : Al} {T : Addr} {i : Nat} {d : D} {x : V} (hd : ∀ b, AA Z.Ao α b → ∃ o, H b = some o) (hT : H T = none) (r : RepV K mg H (AA Z.Ao α) d x) : RepV K mg (upd H T (.tup [.int (i : Nat), x])) (AA Z.Ao α) (.tup [.int (i : Int), d]) (.ref T) :=
  RepV.newTup (.cons (.int _) (.cons r .nil)) hT fun z => by
    obtain ⟨o, q⟩ := hd T z
    rw [hT] at q; cases q
theorem wk_enumL {a : Addr} {ds : List D} {vs : List V} : Wk K mg Z lk (Ite K a) (enumL ds) (fun α H => (H a = some (.lst vs) ∧ ¬ AA Z.Ao α a) ∧ RepL K mg H (AA Z.Ao α) ds vs) := by
  refine ⟨fun α H α' H' p g => ⟨p.mv _ _ g.1.1 g.1.2, g.2.mv p.mv⟩, fun α => ⟨fun i H hi g => ?_, fun H g => ⟨vs, SqL.of g.1.1.1, by rw [enumL_len, ← g.1.2.len]; exact Nat.le_refl _⟩, fun i H x H' hi g y => ?_⟩⟩
  · rw [enumL_len] at hi
    have hi' : i < vs.length := by rw [← g.1.2.len]; exact hi
    exact ⟨vs, vs[i], SqL.of g.1.1.1, by simp [hi']⟩
  · obtain ⟨T, x', rfl, hT, rfl, hx⟩ := y
    obtain ⟨d, h1, h2⟩ := g.1.2.getV (hx vs (SqL.of g.1.1.1))
    exact ⟨Same.new hT, _, enumL_get h1, pair_rep g.2 hT h2⟩
theorem wk_enumO {a : Addr} {i : Nat} {ds : List D} {vs : List V} (hl : i ∈ lk) : Wk K mg Z lk (Ite K a) (enumL ds) (fun α H => (H a = some (.lst vs) ∧ α i = some a) ∧ RepL K mg H (AA Z.Ao α) ds vs) := by
  refine ⟨fun α H α' H' p g => ⟨⟨((p.lock i hl).2 a g.1.2).trans g.1.1, (p.lock i hl).1.trans g.1.2⟩, g.2.mv p.mv⟩, fun α => ⟨fun i H hi g => ?_, fun H g => ⟨vs, SqL.of g.1.1.1, by rw [enumL_len, ← g.1.2.len]; exact Nat.le_refl _⟩, fun i H x H' hi g y => ?_⟩⟩
  · rw [enumL_len] at hi
    have hi' : i < vs.length := by rw [← g.1.2.len]; exact hi
    exact ⟨vs, vs[i], SqL.of g.1.1.1, by simp [hi']⟩
  · obtain ⟨T, x', rfl, hT, rfl, hx⟩ := y
    obtain ⟨d, h1, h2⟩ := g.1.2.getV (hx vs (SqL.of g.1.1.1))
    exact ⟨Same.new hT, _, enumL_get h1, pair_rep g.2 hT h2⟩
theorem wk_enumT {a : Addr} {ds : List D} {vs : List V} : Wk K mg Z lk (IteT K a) (enumL ds) (fun α H => (SqT K H a vs ∧ ((H a = some (.tup vs) ∧ ¬ AA Z.Ao α a) ∨ (∀ H', SqT K H' a vs))) ∧ RepL K mg H (AA Z.Ao α) ds vs) := by
  refine ⟨fun α H α' H' p g => ⟨?_, g.2.mv p.mv⟩, fun α => ⟨fun i H hi g => ?_, fun H g => ⟨vs, g.1.1.1, by rw [enumL_len, ← g.1.2.len]⟩, fun i H x H' hi g y => ?_⟩⟩
  · rcases g.1.2 with ⟨h, n⟩ | h
    · obtain ⟨h1, h2⟩ := p.mv _ _ h n
      exact ⟨SqT.of h1, .inl ⟨h1, h2⟩⟩
    · exact ⟨h _, .inr h⟩
  · rw [enumL_len] at hi
    have hi' : i < vs.length := by rw [← g.1.2.len]; exact hi
    exact ⟨vs, vs[i], g.1.1.1, by simp [hi']⟩
  · obtain ⟨T, x', rfl, hT, rfl, hx⟩ := y
    obtain ⟨d, h1, h2⟩ := g.1.2.getV (hx vs g.1.1.1)
    exact ⟨Same.new hT, _, enumL_get h1, pair_rep g.2 hT h2⟩
def fEnum (fi : FI) : FI := fun ρ => (fi ρ).bind fun ds => .ok (enumL ds)
def seqLT : D → R (List D)
  | .tup xs => .ok xs
  | .lst xs => .ok xs
  | _ => .stuck
def fSeqLT (f : FE) : FI := fun ρ => (f ρ).bind seqLT
theorem di_enum {f : FE} {elts : List Expr} {kk : Nat} (hm : X.mg "enumerate" = none) (h : DE X Z own W e f) (hg : Gl X "enumerate" := by rfl) (hs : starEach [e] X.env = [(false, eval e X.env)] := by rfl) : DI X Z own lk W (.Tuple elts kk tpos) (.Call (.Name "enumerate" p) [e] [] pos) (fEnum (fSeqLT f)) :=
  PI_imp (PI_or (pi_enum hg hm (pa_cons h pa_nil hs) hs) (pi_enumT hg hm (pa_cons h pa_nil hs) hs)) fun σ H Rr ⟨α, ρ, E, q⟩ => by
    unfold fEnum fSeqLT at q
    cases r : f ρ with
    | ok d =>
      rw [r] at q
      cases d with
      | lst ds =>
        refine .inl ⟨α, ρ, E, ?_⟩
        rw [r]
        intro v H1 s rv
        cases rv with
        | lst n hv rl => exact ⟨_, _, rfl, SqL.of hv, q _ H1 _ s wk_enumL ⟨⟨hv, n⟩, rl⟩⟩
      | tup ds =>
        refine .inr ⟨α, ρ, E, ?_⟩
        rw [r]
        intro v H1 s rv
        cases rv with
        | tup h rl =>
          rcases h with ⟨h, n⟩ | h
          · exact ⟨_, _, rfl, SqT.of h, q _ H1 _ s wk_enumT ⟨⟨SqT.of h, .inl ⟨h, n⟩⟩, rl⟩⟩
          · exact ⟨_, _, rfl, h _, q _ H1 _ s wk_enumT ⟨⟨h _, .inr h⟩, rl⟩⟩
      | _ => exact q.elim
    | raise c => rw [r] at q; exact .inl ⟨α, ρ, E, by rw [r]; exact q⟩
    | stuck => rw [r] at q; exact q.elim
end
end Sh

namespace Sh
open PySem PySem.Spec PyProof.Rows L2
theorem EnvR.virt2 {K : PySem.W.Frag} {mg : Str → Option Value} {Z : Fx} {own : List Nat} {α : Al} {ρ : Rho} {σ : St} {H : Hp} {D : Addr} (E : EnvR K mg Z own α ρ σ H) (hD : H D = none) :
    ∃ α' : Al, (∀ b, AA Z.Ao α' b ↔ AA Z.Ao α b ∨ b = D) ∧ EnvR K mg Z own α' ρ σ (upd H D (.lst [])) ∧ Mv (AA Z.Ao α) H (AA Z.Ao α') (upd H D (.lst [])) ∧ ∀ (ρ' : Rho) (σ' : St), ρ'.length = ρ.length → ∀ H', EnvR K mg Z own α' ρ' σ' H' → ∀ xs, EnvR K mg Z own α' ρ' σ' (upd H' D (.lst xs)) := by
  obtain ⟨n, hn⟩ := E.fin
  have hA : ∀ b, AA Z.Ao (setA α (n + ρ.length) D) b ↔ AA Z.Ao α b ∨ b = D := fun b => by
    constructor
    · rintro (h | ⟨j, h⟩)
      · exact .inl (.inl h)
      · by_cases hj : j = n + ρ.length
        · rw [hj, setA_same] at h; cases h; exact .inr rfl
        · rw [setA_ne hj] at h; exact .inl (.inr ⟨j, h⟩)
    · rintro ((h | ⟨j, h⟩) | h)
      · exact .inl h
      · exact .inr ⟨j, by rw [setA_ne (by intro z; rw [z, hn _ (by omega)] at h; cases h)]; exact h⟩
      · rw [h]; exact .inr ⟨_, setA_same⟩
  have M : Mv (AA Z.Ao α) H (AA Z.Ao (setA α (n + ρ.length) D)) (upd H D (.lst [])) := fun b o h nb => ⟨by rw [upd_ne (ne_of_none h hD)]; exact h, fun z => ((hA b).mp z).elim nb (ne_of_none h hD)⟩
  have s := Same.new hD (o := .lst [])
  refine ⟨setA α (n + ρ.length) D, hA, ⟨E.len, E.same.trans s, fun i d e c => ?_, fun i d e c b => ?_, fun b h => ?_, fun i a h => ?_, fun i j a h1 h2 => ?_, E.out, n + ρ.length + 1, fun i hi => ?_⟩, M, fun ρ' σ' hlen H' E' xs => ?_⟩
  · obtain ⟨v, h1, h2⟩ := E.sh i d e c
    exact ⟨v, h1, h2.mv M⟩
  · obtain ⟨a, h1, h2, h3⟩ := E.ow i d e c b
    have hl := (List.getElem?_eq_some_iff.mp e).1
    exact ⟨a, by rw [setA_ne (by omega)]; exact h1, h2, h3.mv M fun o h => s _ _ h⟩
  · rcases (hA b).mp h with h | h
    · obtain ⟨o, q⟩ := E.dom b h; exact ⟨o, s _ _ q⟩
    · rw [h]; exact ⟨_, upd_same⟩
  · by_cases hj : i = n + ρ.length
    · rw [hj, setA_same] at h; cases h; exact E.same.free hD
    · rw [setA_ne hj] at h; exact E.new i a h
  · by_cases hi : i = n + ρ.length
    · by_cases hj : j = n + ρ.length
      · rw [hi, hj]
      · rw [hi, setA_same] at h1; cases h1
        rw [setA_ne hj] at h2
        obtain ⟨o, q⟩ := E.dom D (.inr ⟨j, h2⟩)
        rw [hD] at q; cases q
    · by_cases hj : j = n + ρ.length
      · rw [hj, setA_same] at h2; cases h2
        rw [setA_ne hi] at h1
        obtain ⟨o, q⟩ := E.dom D (.inr ⟨i, h1⟩)
        rw [hD] at q; cases q
      · rw [setA_ne hi] at h1; rw [setA_ne hj] at h2
        exact E.inj i j a h1 h2
  · rw [setA_ne (by omega)]; exact hn i (by omega)
  · have aD : AA Z.Ao (setA α (n + ρ.length) D) D := (hA D).mpr (.inr rfl)
    have M' : Mv (AA Z.Ao (setA α (n + ρ.length) D)) H' (AA Z.Ao (setA α (n + ρ.length) D)) (upd H' D (.lst xs)) := fun b o h nb => ⟨by rw [upd_ne (by intro z; rw [z] at nb; exact nb aD)]; exact h, nb⟩
    have n0 : Z.H0 D = none := E'.new (n + ρ.length) D setA_same
    refine ⟨E'.len, fun b o h => ?_, fun i d e c => ?_, fun i d e c b => ?_, fun b h => ?_, E'.new, E'.inj, E'.out, E'.fin⟩
    · rw [upd_ne (ne_of_none h n0)]; exact E'.same b o h
    · obtain ⟨v, h1, h2⟩ := E'.sh i d e c
      exact ⟨v, h1, h2.mv M'⟩
    · obtain ⟨a, h1, h2, h3⟩ := E'.ow i d e c b
      have hl := (List.getElem?_eq_some_iff.mp e).1
      have na : a ≠ D := by
        intro z
        rw [z] at h1
        have := E'.inj i (n + ρ.length) D h1 setA_same
        omega
      exact ⟨a, h1, h2, h3.mv M' fun o h => by rw [upd_ne na]; exact h⟩
    · by_cases hb : b = D
      · rw [hb]; exact ⟨_, upd_same⟩
      · rw [upd_ne hb]; exact E'.dom b h
/-! ### two fors in one comprehension -/
def lcC (step : D → R (List D)) : List D → R (List D)
  | [] => .ok []
  | d :: ds => match step d with
    | .ok o => match lcC step ds with
      | .ok ys => .ok (o ++ ys)
      | _ => .stuck
    | _ => .stuck
theorem lcC_ok {step : D → R (List D)} {d : D} {ds ys : List D} (e : lcC step (d :: ds) = .ok ys) : ∃ o r, step d = .ok o ∧ lcC step ds = .ok r ∧ ys = o ++ r := by
  unfold lcC at e
  cases h : step d with
  | ok o =>
    rw [h] at e
    cases h2 : lcC step ds with
    | ok r => simp only [h2] at e; cases e; exact ⟨o, r, rfl, rfl, rfl⟩
    | raise c => simp only [h2] at e; cases e
    | stuck => simp only [h2] at e; cases e
  | raise c => rw [h] at e; cases e
  | stuck => rw [h] at e; cases e
theorem lcC_nr {step : D → R (List D)} : ∀ {ds : List D} {c : Str}, lcC step ds ≠ .raise c
  | [], _, z => nomatch z
  | d :: ds, c, z => by
    unfold lcC at z
    split at z
    · split at z <;> cases z
    · cases z
def step2 (g : D → Rho → R Rho) (ft : FT) (fi1 : FI) (g1 : D → Rho → R Rho) (ft1 : FT) (fe : FE) (vs1 : List Nat) (ρ : Rho) (d : D) : R (List D) :=
  (g d ρ).bind fun ρ1 => (ft ρ1).bind fun k => if k = true then (fi1 ρ1).bind fun ds1 => lcF (lcStep g1 ft1 fe (wipeD ρ1 vs1)) ds1 else .ok []
def fLc2 (fi : FI) (g : D → Rho → R Rho) (ft : FT) (fi1 : FI) (g1 : D → Rho → R Rho) (ft1 : FT) (fe : FE) (vs vs1 : List Nat) : FE := fun ρ => (fi ρ).bind fun ds => (lcC (step2 g ft fi1 g1 ft1 fe vs1 (wipeD ρ vs)) ds).bind fun ys => if lcB ys = true then .ok (.lst ys) else .stuck
theorem it_core {J : It} {n : Nat} {G : Hp → Prop} {Y : Nat → Hp → V → Hp → Prop} (w : Walk J n G Y) {H0 : Hp} {Qd : Hp → Prop} (Pv : Nat → Hp → Prop) (B : V → Hp → (Hp → Prop) → Prop) (h0 : Pv 0 H0) (hG : ∀ i H, i ≤ n → Pv i H → G H)
    (hs : ∀ i x H H', i < n → Pv i H → Y i H x H' → B x H' (Pv (i + 1))) (hd : ∀ H, Pv n H → Qd H) :
    ∃ W : Nat → Nat → Hp → Prop, (∃ m, W 0 m H0) ∧ ∀ i m H, W i m H → (J.stop i H ∧ Qd H) ∨ (J.go i H ∧ ∃ Nx : Hp → Prop, (∀ H', Nx H' → ∃ m', m' < m ∧ W (i + 1) m' H') ∧ ∀ x H', J.yld i H x H' → B x H' Nx) := by
  refine ⟨fun i m H => m = n - i ∧ i ≤ n ∧ Pv i H, ⟨n, by simp, Nat.zero_le _, h0⟩, ?_⟩
  rintro i m H ⟨rfl, hi, p⟩
  have g := hG i H hi p
  rcases Nat.lt_or_ge i n with hlt | hge
  · exact .inr ⟨w.goes i H hlt g, Pv (i + 1), fun H' p' => ⟨n - (i + 1), by omega, rfl, hlt, p'⟩, fun x H' y => hs i x H H' hlt p (w.yields i H x H' hlt g y)⟩
  · have e : i = n := by omega
    subst e
    exact .inl ⟨w.stops H g, hd H p⟩
section
variable {X : Cx} {Z : Fx} {own lk : List Nat} {W : WX} {e tg a b : Expr} {es : List Expr} {pos p : Pos} {K : PySem.W.Frag} {mg : Str → Option Value}
theorem tLc2_of {fi fi1 : FI} {g g1 : D → Rho → R Rho} {ft ft1 : FT} {fe : FE} {vs vs1 ts ts1 : List Nat} (hd : ∀ j ∈ ts, j ∈ vs) (hd1 : ∀ j ∈ ts1, j ∈ vs1) {σ : St} {H : Hp} {Q : VK} (h : tF K mg Z own W (fLc2 fi g ft fi1 g1 ft1 fe vs vs1) σ H Q) :
    tLc2 (tI K mg Z own [] W fi) (tG K mg Z own ts g) (tT K mg Z own WF ft) (tI K mg Z own [] WF fi1) (tG K mg Z own ts1 g1) (tT K mg Z own WF ft1) (tE K mg Z own WF fe) vs vs1 σ H Q := by
  obtain ⟨α, ρ, E, q⟩ := h
  unfold fLc2 at q
  refine ⟨α, ρ, E, ?_⟩
  cases hi : fi ρ with
  | raise c => rw [hi] at q; exact q
  | stuck => rw [hi] at q; exact q
  | ok ds =>
    rw [hi] at q
    intro J H1 G s1 wk g1' D hD
    cases hl : lcC (step2 g ft fi1 g1 ft1 fe vs1 (wipeD ρ vs)) ds with
    | raise c => exact absurd hl lcC_nr
    | stuck =>
      have q : ESt mg W (fun d Q => FQ K mg (AA Z.Ao α) H d Q) σ H ((lcC (step2 g ft fi1 g1 ft1 fe vs1 (wipeD ρ vs)) ds).bind fun ys => if lcB ys = true then .ok (.lst ys) else .stuck) Q := q
      rw [hl] at q; exact q.elim
    | ok all =>
      have q : ESt mg W (fun d Q => FQ K mg (AA Z.Ao α) H d Q) σ H ((lcC (step2 g ft fi1 g1 ft1 fe vs1 (wipeD ρ vs)) ds).bind fun ys => if lcB ys = true then .ok (.lst ys) else .stuck) Q := q
      rw [hl] at q
      by_cases hB : lcB all = true
      · have q : ESt mg W (fun d Q => FQ K mg (AA Z.Ao α) H d Q) σ H (if lcB all = true then .ok (.lst all) else .stuck) Q := q
        rw [if_pos hB] at q
        have q : FQ K mg (AA Z.Ao α) H (.lst all) Q := q
        have hsz : all.length ≤ 16777216 := by simpa [lcB] using hB
        have E1 := E.mono s1
        obtain ⟨α', hA, E1', M1, vu⟩ := E1.virt2 hD
        have aD : AA Z.Ao α' D := (hA D).mpr (.inr rfl)
        have gA : G α' (upd H1 D (.lst [])) := wk.st α H1 α' _ ⟨M1, fun _ z => nomatch z⟩ g1'
        refine it_core (wk.wk α') (fun i Hh => i ≤ ds.length ∧ ∃ (acc : List V) (da rest : List Sh.D), EnvR K mg Z own α' ρ σ Hh ∧ Same H1 Hh ∧ G α' Hh ∧ Hh D = some (.lst acc) ∧ RepL K mg Hh (AA Z.Ao α') da acc ∧ lcC (step2 g ft fi1 g1 ft1 fe vs1 (wipeD ρ vs)) (ds.drop i) = .ok rest ∧ all = da ++ rest) _ ?_ ?_ ?_ ?_
        · exact ⟨Nat.zero_le _, [], [], all, E1', Same.new hD, gA, upd_same, .nil, by rw [List.drop_zero]; exact hl, rfl⟩
        · rintro i Hh - ⟨_, acc, da, rest, E2, _, gg, _⟩
          exact ⟨gg, E2.dom⟩
        · rintro i x Hh Hy hlt ⟨_, acc, da, rest, E2, s2, gg, hDl, ra, hr, rfl⟩ ⟨s4, d, hd', rd⟩
          have ed : ds.drop i = d :: ds.drop (i + 1) := by
            rw [List.drop_eq_getElem_cons hlt]
            rw [List.getElem?_eq_getElem hlt] at hd'
            cases hd'; rfl
          rw [ed] at hr
          obtain ⟨o, r, hs, hr2, rfl⟩ := lcC_ok hr
          have E3 := (E2.mono s4).wipe vs
          unfold step2 at hs
          cases hg : g d (wipeD ρ vs) with
          | raise c => rw [hg] at hs; cases hs
          | stuck => rw [hg] at hs; cases hs
          | ok ρ1 =>
            rw [hg] at hs
            refine ⟨α', wipeD ρ vs, d, E3, rd, ρ1, hg, fun σ5 H5 E5 s5 l5 k5 => ⟨wipe_same (l5.trans (wipe_length σ vs)) fun j hj => ?_, α', ρ1, E5, ?_⟩⟩
            · rw [k5 j (fun z => hj (hd j z))]
              exact wipe_out hj
            · have hs : ((ft ρ1).bind fun k => if k = true then (fi1 ρ1).bind fun ds1 => lcF (lcStep g1 ft1 fe (wipeD ρ1 vs1)) ds1 else R.ok []) = .ok o := hs
              cases ht : ft ρ1 with
              | raise c => rw [ht] at hs; cases hs
              | stuck => rw [ht] at hs; cases hs
              | ok k =>
                rw [ht] at hs
                intro H6 s6
                have s46 := s4.trans (s5.trans s6)
                cases k with
                | false =>
                  simp only [R.bind] at hs
                  cases hs
                  rw [if_neg Bool.false_ne_true]
                  exact ⟨hlt, acc, da, r, E2.mono s46, s2.trans s46, wk.st _ _ _ _ (E2.post s46) gg, s46 _ _ hDl, ra.same s46, hr2, rfl⟩
                | true =>
                  rw [if_pos rfl]
                  have hs : ((fi1 ρ1).bind fun ds1 => lcF (lcStep g1 ft1 fe (wipeD ρ1 vs1)) ds1) = .ok o := hs
                  refine ⟨α', ρ1, E5.mono s6, ?_⟩
                  cases hi1 : fi1 ρ1 with
                  | raise c => rw [hi1] at hs; cases hs
                  | stuck => rw [hi1] at hs; cases hs
                  | ok ds1 =>
                    rw [hi1] at hs
                    have hs : lcF (lcStep g1 ft1 fe (wipeD ρ1 vs1)) ds1 = .ok o := hs
                    intro J1 H7 G1 s7 wk1 gg1
                    have s47 := s46.trans s7
                    have E57 := (E5.mono s6).mono s7
                    refine it_core (wk1.wk α') (fun j Hh => j ≤ ds1.length ∧ ∃ (acc2 : List V) (da2 rest2 : List Sh.D), EnvR K mg Z own α' ρ σ Hh ∧ EnvR K mg Z own α' ρ1 σ5 Hh ∧ Same H1 Hh ∧ G α' Hh ∧ G1 α' Hh ∧ Hh D = some (.lst acc2) ∧ RepL K mg Hh (AA Z.Ao α') da2 acc2 ∧ lcF (lcStep g1 ft1 fe (wipeD ρ1 vs1)) (ds1.drop j) = .ok rest2 ∧ da ++ (o ++ r) = da2 ++ (rest2 ++ r)) _ ?_ ?_ ?_ ?_
                    · exact ⟨Nat.zero_le _, acc, da, o, E2.mono s47, E57, s2.trans s47, wk.st _ _ _ _ (E2.post s47) gg, gg1, s47 _ _ hDl, ra.same s47, by rw [List.drop_zero]; exact hs, rfl⟩
                    · rintro j Hh - ⟨_, acc2, da2, rest2, E8, _, _, _, gx, _⟩
                      exact ⟨gx, E8.dom⟩
                    · rintro j x2 Hh Hz hlt2 ⟨_, acc2, da2, rest2, E8, F8, s8, gg8, gx8, hD8, ra8, hr8, hal⟩ ⟨t1, d2, hd2, rd2⟩
                      have ed2 : ds1.drop j = d2 :: ds1.drop (j + 1) := by
                        rw [List.drop_eq_getElem_cons hlt2]
                        rw [List.getElem?_eq_getElem hlt2] at hd2
                        cases hd2; rfl
                      rw [ed2] at hr8
                      obtain ⟨o2, r2, hs2, hr9, rfl⟩ := lcF_ok hr8
                      have F9 := (F8.mono t1).wipe vs1
                      unfold lcStep at hs2
                      cases hg2 : g1 d2 (wipeD ρ1 vs1) with
                      | raise c => rw [hg2] at hs2; cases hs2
                      | stuck => rw [hg2] at hs2; cases hs2
                      | ok ρ2 =>
                        rw [hg2] at hs2
                        refine ⟨α', wipeD ρ1 vs1, d2, F9, rd2, ρ2, hg2, fun σ6 Ha Ea sa la ka => ⟨wipe_same (la.trans (wipe_length σ5 vs1)) fun j hj => ?_, α', ρ2, Ea, ?_⟩⟩
                        · rw [ka j (fun z => hj (hd1 j z))]
                          exact wipe_out hj
                        · have hs2 : ((ft1 ρ2).bind fun k => if k = true then (fe ρ2).bind fun y => R.ok (some y) else R.ok none) = .ok o2 := hs2
                          cases ht2 : ft1 ρ2 with
                          | raise c => rw [ht2] at hs2; cases hs2
                          | stuck => rw [ht2] at hs2; cases hs2
                          | ok k2 =>
                            rw [ht2] at hs2
                            intro Hb sb
                            have tb := t1.trans (sa.trans sb)
                            cases k2 with
                            | false =>
                              simp only [R.bind] at hs2
                              cases hs2
                              rw [if_neg Bool.false_ne_true]
                              exact ⟨hlt2, acc2, da2, r2, E8.mono tb, F8.mono tb, s8.trans tb, wk.st _ _ _ _ (E8.post tb) gg8, wk1.st _ _ _ _ (E8.post tb) gx8, tb _ _ hD8, ra8.same tb, hr9, hal⟩
                            | true =>
                              rw [if_pos rfl]
                              have hs2 : ((fe ρ2).bind fun y => R.ok (some y)) = .ok o2 := hs2
                              cases hy : fe ρ2 with
                              | raise c => rw [hy] at hs2; cases hs2
                              | stuck => rw [hy] at hs2; cases hs2
                              | ok y =>
                                rw [hy] at hs2
                                cases hs2
                                refine ⟨α', ρ2, Ea.mono sb, ?_⟩
                                rw [hy]
                                intro v Hc sc rc
                                have tc := tb.trans sc
                                have hla : da2.length < (da ++ (o ++ r)).length := by rw [hal]; simp
                                refine ⟨acc2, tc _ _ hD8, by rw [sl_eq, ← ra8.len]; omega, ?_⟩
                                have Mc : Mv (AA Z.Ao α') Hc (AA Z.Ao α') (upd Hc D (.lst (acc2 ++ [v]))) := fun b x hb nb => ⟨by rw [upd_ne (by intro z; rw [z] at nb; exact nb aD)]; exact hb, nb⟩
                                refine ⟨hlt2, acc2 ++ [v], da2 ++ [y], r2, vu _ _ rfl _ (E8.mono tc) _, vu _ _ (by rw [E5.len, l5, wipe_length, E.len]) _ (F8.mono tc) _, fun b x hb => ?_, wk.st _ _ _ _ ⟨Mc, fun _ z => nomatch z⟩ (wk.st _ _ _ _ (E8.post tc) gg8), wk1.st _ _ _ _ ⟨Mc, fun _ z => nomatch z⟩ (wk1.st _ _ _ _ (E8.post tc) gx8), upd_same, ((ra8.same tc).append (.cons rc .nil)).mv Mc, hr9, hal.trans (by simp)⟩
                                rw [upd_ne (ne_of_none hb hD)]
                                exact tc _ _ (s8 _ _ hb)
                    · rintro Hh ⟨_, acc2, da2, rest2, E8, F8, s8, gg8, gx8, hD8, ra8, hr8, hal⟩
                      rw [List.drop_length] at hr8
                      cases hr8
                      exact ⟨hlt, acc2, da2, r, E8, s8, gg8, hD8, ra8, hr2, hal⟩
        · rintro Hh ⟨_, acc, da, rest, E2, s2, gg, hDl, ra, hr, rfl⟩
          rw [List.drop_length] at hr
          cases hr
          rw [List.append_nil] at q
          refine q.new (s1.trans s2) ((s1).free hD) ⟨acc, hDl, ra.mv fun b o hb nb => ⟨hb, fun z => nb ((hA b).mpr z)⟩⟩
      · have q : ESt mg W (fun d Q => FQ K mg (AA Z.Ao α) H d Q) σ H (if lcB all = true then .ok (.lst all) else .stuck) Q := q
        rw [if_neg hB] at q
        exact q.elim
end
section
variable {X : Cx} {Z : Fx} {own lk : List Nat} {W : WX} {tg tg1 iter iter1 elt : Expr} {ifs ifs1 : List Expr} {scope : Scope} {pos : Pos}
theorem d_lc2 (ownp : List (Str × Nat)) {fi fi1 : FI} {g g1 : D → Rho → R Rho} {ft ft1 : FT} {fe : FE} {ts ts1 : List Nat} (vs1 : List Nat) (hc : X.calm = true) (hN : X.N.Nodup) (hi : DI X Z own [] W tg iter fi) (ok : BlkOk X.N X.env.scope scope ownp)
    (hg : ∀ (s : Shared) (H : Hp) (C : Addr) (cl : List (Str × Addr)) (fp : List Addr), DG (X.blk s H scope (compEnvC scope cl C X.env) fp) Z own ts tg g) (ht : ∀ (s : Shared) (H : Hp) (C : Addr) (cl : List (Str × Addr)) (fp : List Addr), DTs (X.blk s H scope (compEnvC scope cl C X.env) fp) Z own WF ifs ft)
    (hi1 : ∀ (s : Shared) (H : Hp) (C : Addr) (cl : List (Str × Addr)) (fp : List Addr), DI (X.blk s H scope (compEnvC scope cl C X.env) fp) Z own [] WF tg1 iter1 fi1)
    (hg1 : ∀ (s : Shared) (H : Hp) (C : Addr) (cl : List (Str × Addr)) (fp : List Addr), DG (X.blk s H scope (compEnvC scope cl C X.env) fp) Z own ts1 tg1 g1) (ht1 : ∀ (s : Shared) (H : Hp) (C : Addr) (cl : List (Str × Addr)) (fp : List Addr), DTs (X.blk s H scope (compEnvC scope cl C X.env) fp) Z own WF ifs1 ft1)
    (he : ∀ (s : Shared) (H : Hp) (C : Addr) (cl : List (Str × Addr)) (fp : List Addr), DE (X.blk s H scope (compEnvC scope cl C X.env) fp) Z own WF elt fe) (hv : ∀ i ∈ vs1, i ∈ ownp.map (·.2) := by decide) (hd : ∀ j ∈ ts, j ∈ ownp.map (·.2) := by decide) (hd1 : ∀ j ∈ ts1, j ∈ vs1 := by decide)
    (hs : ∀ x, foldedSetIterable iter X.env x = pure x := by intro _; rfl) (hs1 : ∀ env x, foldedSetIterable iter1 env x = pure x := by intro _ _; rfl) :
    DF X Z own W (.ListComp elt [⟨tg, iter, ifs, 0⟩, ⟨tg1, iter1, ifs1, 0⟩] scope pos) (fLc2 fi g ft fi1 g1 ft1 fe (ownp.map (·.2)) vs1) :=
  PE_imp (pe_lc2 (g := tG X.K X.mg Z own ts g) (tt := tT X.K X.mg Z own WF ft) (wi1 := tI X.K X.mg Z own [] WF fi1) (g1 := tG X.K X.mg Z own ts1 g1) (tt1 := tT X.K X.mg Z own WF ft1) (te := tE X.K X.mg Z own WF fe) hc hN hi ok hv hg ht hi1 hg1 ht1 he hs hs1) fun σ H Q h => tLc2_of hd hd1 h
theorem ds_setLc2 (i : Nat) (ownp : List (Str × Nat)) {fi fi1 : FI} {g g1 : D → Rho → R Rho} {ft ft1 : FT} {fe : FE} {ts ts1 : List Nat} (vs1 : List Nat) {y : Str} {py spos : Pos} (hc : X.calm = true) (hN : X.N.Nodup) (hsw : swapsWith (.ListComp elt [⟨tg, iter, ifs, 0⟩, ⟨tg1, iter1, ifs1, 0⟩] scope pos) (some (.Name y py)) spos.line X.env = pure true) (hi : DI X Z own [] W tg iter fi) (ok : BlkOk X.N X.env.scope scope ownp)
    (hg : ∀ (s : Shared) (H : Hp) (C : Addr) (cl : List (Str × Addr)) (fp : List Addr), DG (X.blk s H scope (compEnvC scope cl C X.env) fp) Z own ts tg g) (ht : ∀ (s : Shared) (H : Hp) (C : Addr) (cl : List (Str × Addr)) (fp : List Addr), DTs (X.blk s H scope (compEnvC scope cl C X.env) fp) Z own WF ifs ft)
    (hi1 : ∀ (s : Shared) (H : Hp) (C : Addr) (cl : List (Str × Addr)) (fp : List Addr), DI (X.blk s H scope (compEnvC scope cl C X.env) fp) Z own [] WF tg1 iter1 fi1)
    (hg1 : ∀ (s : Shared) (H : Hp) (C : Addr) (cl : List (Str × Addr)) (fp : List Addr), DG (X.blk s H scope (compEnvC scope cl C X.env) fp) Z own ts1 tg1 g1) (ht1 : ∀ (s : Shared) (H : Hp) (C : Addr) (cl : List (Str × Addr)) (fp : List Addr), DTs (X.blk s H scope (compEnvC scope cl C X.env) fp) Z own WF ifs1 ft1)
    (he : ∀ (s : Shared) (H : Hp) (C : Addr) (cl : List (Str × Addr)) (fp : List Addr), DE (X.blk s H scope (compEnvC scope cl C X.env) fp) Z own WF elt fe) (hio : i ∉ own := by decide) (hy : X.N[i]? = some y := by rfl) (hyl : X.env.scope.names.lookup y = some .local := by rfl) (hv : ∀ i ∈ vs1, i ∈ ownp.map (·.2) := by decide) (hd : ∀ j ∈ ts, j ∈ ownp.map (·.2) := by decide) (hd1 : ∀ j ∈ ts1, j ∈ vs1 := by decide)
    (hs : ∀ x, foldedSetIterable iter X.env x = pure x := by intro _; rfl) (hs1 : ∀ env x, foldedSetIterable iter1 env x = pure x := by intro _ _; rfl) :
    DS X Z own lk W (.Assign [.Name y py] (.ListComp elt [⟨tg, iter, ifs, 0⟩, ⟨tg1, iter1, ifs1, 0⟩] scope pos) spos) (fSet i (fLc2 fi g ft fi1 g1 ft1 fe (ownp.map (·.2)) vs1)) :=
  PS_imp (ps_setLc2 (g := tG X.K X.mg Z own ts g) (tt := tT X.K X.mg Z own WF ft) (wi1 := tI X.K X.mg Z own [] WF fi1) (g1 := tG X.K X.mg Z own ts1 g1) (tt1 := tT X.K X.mg Z own WF ft1) (te := tE X.K X.mg Z own WF fe) hc hN hy hyl hsw hi ok hv hg ht hi1 hg1 ht1 he hs hs1) fun D σ H h => by
    obtain ⟨α, ρ, E, q⟩ := h
    refine tLc2_of (W := W) hd hd1 ⟨α, ρ, E, RSt.e ((toS_g E q).imp fun d _ q => ?_)⟩
    exact FQ.of (fun p n => E.nA n) fun v H1 s r => q α _ H1 ((E.mono s).setSh (.inl hio) r) (E.post s)
end
end Sh

namespace Sh
open PySem PySem.Spec PyProof.Rows L2
/-! ### isinstance(e, (C1, C2)) -/
section
variable {X : Cx} {Z : Fx} {own lk : List Nat} {W : WX} {e : Expr} {pos p p1 p2 tpos : Pos}
def isi2D (T1 T2 : String) (d : D) : R D := match tyName d with
  | some t => .ok (.bl (subT t T1 || subT t T2))
  | none => .stuck
def fIsi2 (T1 T2 : String) (f : FE) : FE := fun ρ => (f ρ).bind (isi2D T1 T2)
theorem d_isi2 {x1 x2 : Str} {T1 T2 : String} {f : FE} {kk : Nat} (he : DR X Z own W e f) (hm : X.mg "isinstance" = none) (hx1 : X.mg x1 = none) (hv1 : bootBuiltins x1 = some (.type T1)) (hx2 : X.mg x2 = none) (hv2 : bootBuiltins x2 = some (.type T2)) (hT1 : T1 ∈ ["bool", "int", "str", "tuple", "list", "dict"] := by decide) (hT2 : T2 ∈ ["bool", "int", "str", "tuple", "list", "dict"] := by decide) (hg : Gl X "isinstance" := by rfl) (hg1 : Gl X x1 := by rfl) (hg2 : Gl X x2 := by rfl) (hn1 : x1 ≠ "__name__" := by decide) (hd1 : (x1 == ("__debug__" : Str)) = false := by decide) (hn2 : x2 ≠ "__name__" := by decide) (hd2 : (x2 == ("__debug__" : Str)) = false := by decide)
    (ht1 : starEach [.Name x1 p1, .Name x2 p2] X.env = (false, eval (.Name x1 p1) X.env) :: starEach [.Name x2 p2] X.env := by rfl) (ht2 : starEach [.Name x2 p2] X.env = (false, eval (.Name x2 p2) X.env) :: starEach [] X.env := by rfl)
    (hs : starEach [e, .Tuple [.Name x1 p1, .Name x2 p2] kk tpos] X.env = (false, eval e X.env) :: starEach [.Tuple [.Name x1 p1, .Name x2 p2] kk tpos] X.env := by rfl) (hs2 : starEach [.Tuple [.Name x1 p1, .Name x2 p2] kk tpos] X.env = (false, eval (.Tuple [.Name x1 p1, .Name x2 p2] kk tpos) X.env) :: starEach [] X.env := by rfl) (hpl : (backTo pos (starEach [.Tuple [.Name x1 p1, .Name x2 p2] kk tpos] X.env)).any (·.1) = false := by rfl) :
    DF X Z own W (.Call (.Name "isinstance" p) [e, .Tuple [.Name x1 p1, .Name x2 p2] kk tpos] [] pos) (fIsi2 T1 T2 f) :=
  PE_imp (pe_callB (x := "isinstance") call_isiT hg hm (by decide +kernel) (pa_cons he (pa_cons (pe_tup (pa_cons (pe_bltn (v := .ty T1) hg1 hx1 hv1 rfl hn1 hd1) (pa_cons (pe_bltn (v := .ty T2) hg2 hx2 hv2 rfl hn2 hd2) pa_nil ht2) ht1)) pa_nil hs2) hs) (by decide) (by decide) hs hpl) fun σ H Q ⟨α, ρ, E, q⟩ => by
    refine (g_R (laterF X.K X.mg (AA Z.Ao α) Q) E q.g).imp fun v H1 ⟨d, e1, s1, r1, E1, q1⟩ => ?_
    refine And.intro (show 2 ≤ sizeLine by decide) fun tp hn => ?_
    unfold isi2D at q1
    cases ht : tyName d with
    | none => rw [ht] at q1; exact q1.elim
    | some t =>
      rw [ht] at q1
      have q1 : FQ X.K X.mg (AA Z.Ao α) H1 (.bl (subT t T1 || subT t T2)) Q := q1
      refine ⟨v, tp, [.ty T1, .ty T2], .type t, [.type T1, .type T2], (subT t T1 || subT t T2), rfl, upd_same, .cons (.ty T1) (.cons (.ty T2) .nil), (r1.same (Same.new hn)).ty ht, ?_, q1.imp (Same.new hn) rfl (.bl _)⟩
      refine kitAny_cons (kit_sub ht hT1) (fun h => ?_) (fun h => by rw [h]; rfl)
      rw [h, Bool.false_or]
      exact kitAny_cons (kit_sub ht hT2) (fun h2 => by rw [h2]; exact kitAny_nil) (fun h2 => h2)
end
end Sh

namespace Sh
open PySem PySem.Spec PyProof.Rows L2
/-! ### xs.extend(list or tuple) -/
open AutoSeq1 in
theorem ext_tup (l : Addr) (items : Array Value) (n : Nat) (b : Addr) (items2 : Array Value) (n2 : Nat) (dct : Option Addr) (sl : Array (Option Value)) (hs0 : ¬(!items.isEmpty && Builtin.List.listTooLong (items.size + items2.size)) = true) (hs1 : items.size ≤ sizeLine) (hs2 : items.size + items2.size ≤ sizeLine + 1) :
    Meets (Builtin.«list.extend» ⟨[.ref l, .ref b], []⟩) (fun _ R s => s.heap.get? l = some { cls := .type "list", dict := none, data := .seq items n, slots := #[] } ∧ s.heap.get? b = some { cls := .type "tuple", dict := dct, data := .seq items2 n2, slots := sl } ∧ R (.ok (.ret Value.none)) { s with heap := s.heap.update l (Obj.mapSeq fun x => x ++ items2), toks := s.toks }) :=
  .of_wp fun prog w A R s hyp => by
    obtain ⟨hp, gens, dd, tk, os⟩ := s
    obtain ⟨hl, hb, fin⟩ := hyp
    have f1 := idx_int
    have f2 := AutoSeq1.sub_tuple_tuple
    have f3 := AutoSeq1.sub_list_list
    have f4 := AutoSeq1.sub_tuple_list
    have f5 := AutoSeq1.sub_list_tuple
    have hz' : (items ++ items2).size ≤ sizeLine + 1 := by
      rw [Array.size_append]
      exact hs2
    wp_walk using (wpAny_updateSeq hl rfl (hz := hs1) (_hz' := hz')), wpAny_loadPart' hl, wpAny_loadPart' hb
    exact ⟨_, rfl, fin⟩
def rExtT (K : PySem.W.Frag) : V → List V → Hp → VK → Prop := fun x vs H Q => ∃ l b xs zs, x = .ref l ∧ vs = [.ref b] ∧ H l = some (.lst xs) ∧ SqT K H b zs ∧ xs.length + zs.length ≤ sizeLine ∧ Q .non (upd H l (.lst (xs ++ zs)))
section
variable {X : Cx}
theorem mt_extT : MtM X "list.extend" (rExtT X.K) := by
  intro pins s σ H x vs v us Q I rx rv h
  obtain ⟨l, b, xs, zs, rfl, rfl, hH, hB, hz, q⟩ := h
  cases rx
  obtain ⟨u, rfl, ru⟩ := rv.one
  cases ru
  obtain ⟨z, its, n, r, hl, e⟩ := I.lstM hH
  obtain ⟨its2, r2, p2, _⟩ := I.tuple hB
  have hl2 := r2.length
  obtain ⟨⟨c, dct, dt, sl⟩, g2, hc2, n2, hd2⟩ := p2
  replace hc2 : c = .type "tuple" := hc2
  replace hd2 : dt = .seq its2.toArray n2 := hd2
  subst hc2 hd2
  have hsz : its.toArray.size + its2.toArray.size ≤ sizeLine := by rw [List.size_toArray, List.size_toArray]; omega
  have hlong : ¬ (!its.toArray.isEmpty && Builtin.List.listTooLong (its.toArray.size + its2.toArray.size)) = true := by
    rw [notLongL hsz, Bool.and_false]
    exact Bool.false_ne_true
  refine call_meets F.slot_list_extend ⟨_, e, rfl⟩ F.entry_list_extend (F.args_list_extend_2 _ _)
    (ext_tup l its.toArray n b its2.toArray n2 dct sl hlong (by rw [List.size_toArray]; omega) (by omega)) ⟨e, g2, ?_⟩
  refine ⟨.non, _, I.lset (its' := its ++ its2) hH e (by simp) (r.append r2) ?_, rfl, q⟩
  rw [List.length_append]
  omega
end
section
variable {X : Cx} {Z : Fx} {own lk : List Nat} {W : WX} {e : Expr} {pos pos' : Pos}
theorem mtm_or {id : String} {r r' : V → List V → Hp → VK → Prop} (h : MtM X id r) (h' : MtM X id r') : MtM X id (fun x vs H Q => r x vs H Q ∨ r' x vs H Q) := by
  intro pins s σ H x vs v us Q I rx rv w
  rcases w with w | w
  · exact h pins s σ H x vs v us Q I rx rv w
  · exact h' pins s σ H x vs v us Q I rx rv w
def fExt (i : Nat) (f : FE) : FS := fun ρ => toS ((fVar i ρ).bind fun x => (asLst x).bind fun xs => (f ρ).bind fun y => (seqLT y).bind fun ys => if apB (xs ++ ys) = true then .ok (xs ++ ys) else .stuck) ρ fun xs => .nx (ρ.set i (some (.lst xs)))
theorem ds_extend (i : Nat) {x : Str} {p apos : Pos} {f : FE} (he : DE X Z own W e f) (hi : i ∈ own := by decide) (hl : i ∉ lk := by decide) (hN : X.N[i]? = some x := by rfl) (hv : Vis X.env.scope x := by first | exact Or.inl rfl | exact Or.inr (Or.inl rfl) | exact Or.inr (Or.inr rfl)) (hd : (x == ("__debug__" : Str)) = false := by decide)
    (hcd : (x == ("__classdict__" : Str)) = false := by decide) (hline : (apos.endLine == pos'.line) = true := by rfl) (hs1 : starEach [e] X.env = (false, eval e X.env) :: starEach [] X.env := by rfl)
    (hfew : ((backTo pos' (starEach [e] X.env)).all (fun x => !x.1) && (backToKw pos' (keywordEach [] X.env)).all (fun x => x.1.isSome) && decide ([e].length + ([] : List Keyword).length + (if ([] : List Keyword).isEmpty then 0 else 1) < 30)) = true := by rfl)
    (hs : swapsWith (.Call (.Attribute (.Name x p) "extend" apos) [e] [] pos') none pos.line X.env = pure false := by rfl) :
    DS X Z own lk W (.Expr (.Call (.Attribute (.Name x p) "extend" apos) [e] [] pos') pos) (fExt i f) :=
  PS_imp (ps_expr (pe_bm PySem.F.plainAttrs_list PySem.F.slot_list_extend PySem.F.type_list_extend (mtm_or mt_extend mt_extT) (pe_var hN hv hd hcd) (pa_cons he pa_nil hs1) rfl hfew hline hs1 rfl) hs) fun D σ H ⟨α, ρ, E, q⟩ => by
    obtain ⟨xs, hx, q⟩ := var_lst (toS_pd E q)
    obtain ⟨l, vs, h1, h2, h3, h4⟩ := E.lstAt hi hx
    refine ⟨.ref l, h2, .inl ⟨rfl, vs, SqL.of h3⟩, ?_⟩
    refine (g_E PD.later E (k := fun y => (seqLT y).bind fun ys => if apB (xs ++ ys) = true then .ok (xs ++ ys) else .stuck) q).imp fun v H1 ⟨d, e1, s1, r1, E1, q1⟩ => ?_
    have fin : ∀ (ys : List Sh.D) (ws : List V), RepL X.K X.mg H1 (AA Z.Ao α) ys ws → RSt X.mg W σ H1 (if apB (xs ++ ys) = true then R.ok (xs ++ ys) else .stuck) (PD X.K X.mg Z own lk W α (fun xs => .nx (ρ.set i (some (.lst xs)))) D H1) → vs.length + ws.length ≤ sizeLine ∧ D.nx σ (upd H1 l (.lst (vs ++ ws))) := by
      intro ys ws rl q
      by_cases hb : apB (xs ++ ys) = true
      · rw [if_pos hb] at q
        have q : PD X.K X.mg Z own lk W α (fun xs => .nx (ρ.set i (some (.lst xs)))) D H1 (xs ++ ys) := q
        have hlen : xs.length + ys.length < 16777216 := by simpa [apB] using hb
        refine ⟨by rw [sl_eq, ← h4.len, ← rl.len]; omega, ?_⟩
        obtain ⟨E2, P2⟩ := E1.updL (lk := lk) hi hl h1 (s1 _ _ h3) h2 ((h4.same s1).append rl)
        exact q.2 _ _ _ E2 P2
      · rw [if_neg hb] at q; exact q.elim
    cases d with
    | lst ys =>
      obtain ⟨b, ws, rfl, hb, rl⟩ := RepT.lst (.inl r1)
      obtain ⟨f1, f2⟩ := fin ys ws rl q1
      exact Or.inl ⟨l, b, vs, ws, rfl, rfl, s1 _ _ h3, hb, f1, f2⟩
    | tup ys =>
      obtain ⟨b, ws, rfl, hb, rl⟩ := RepT.tup (.inl r1)
      obtain ⟨f1, f2⟩ := fin ys ws rl q1
      exact Or.inr ⟨l, b, vs, ws, rfl, rfl, s1 _ _ h3, hb, f1, f2⟩
    | _ => exact q1.elim
end
end Sh

namespace Sh
open PySem PySem.Spec PyProof.Rows L2
/-! ### sorted of a list or a tuple of data that are alike -/
def pyD (d : D) : PyData := (toPy d).getD .none
def leD (a b : D) : Bool := PySem.W.dataLe false pyD a b
def tupB : PyData → Bool
  | .tuple (_ :: _) => true
  | _ => false
def othB : PyData → Bool
  | .none => false
  | .tuple _ => false
  | _ => true
def srtOk (ps : List PyData) : Bool := (ps.all fun p => ps.all fun q => PySem.W.alike p q) && (ps.all tupB || ps.all othB) && ps.all fun p => decide (p.depth ≤ 60)
def sortTD (xs : List D) : R D := match toPyL xs with
  | some ps => if srtOk ps = true then .ok (.lst (xs.mergeSort leD)) else .stuck
  | none => .stuck
def sortedAD : List D → R D
  | [.lst xs] => match ltI xs with
    | some ns => .ok (.lst ((sortI ns).map .int))
    | none => sortTD xs
  | [.tup xs] => sortTD xs
  | _ => .stuck
theorem toPyL_map : ∀ {xs : List D} {ps : List PyData}, toPyL xs = some ps → ps = xs.map pyD
  | [], ps, e => by simp only [toPyL] at e; cases e; rfl
  | x :: xs, ps, e => by
    simp only [toPyL] at e
    cases h : toPy x with
    | none => rw [h] at e; cases e
    | some p =>
      cases h2 : toPyL xs with
      | none => rw [h, h2] at e; cases e
      | some qs =>
        rw [h, h2] at e; cases e
        rw [toPyL_map h2, List.map_cons]
        congr 1
        unfold pyD; rw [h]; rfl
theorem srt_alike {ps : List PyData} (h : srtOk ps = true) : PySem.W.AllAlike ps := by
  unfold srtOk at h
  simp only [Bool.and_eq_true, List.all_eq_true] at h
  exact fun d hd d' hd' => h.1.1 d hd d' hd'
theorem srt_kind {ps : List PyData} (h : srtOk ps = true) : PySem.W.Sortable ps := by
  unfold srtOk at h
  simp only [Bool.and_eq_true, Bool.or_eq_true, List.all_eq_true] at h
  rcases h.1.2 with k | k
  · left
    intro d hd
    have := k d hd
    unfold tupB at this
    split at this
    · exact ⟨_, _, rfl⟩
    · cases this
  · right
    intro d hd
    have := k d hd
    unfold othB at this
    split at this
    · cases this
    · cases this
    · rename_i n1 n2
      exact ⟨fun e => n1 e, fun xs e => n2 xs e⟩
theorem srt_depth {ps : List PyData} (h : srtOk ps = true) : ∀ p ∈ ps, p.depth ≤ 60 := by
  unfold srtOk at h
  simp only [Bool.and_eq_true, List.all_eq_true, decide_eq_true_eq] at h
  exact h.2
section
variable {prog : Program} {w : World} {A : Around} {E : Value → Shared → Prop} {s : Shared} {β : Type} {R : Value → β → Prop} {enc : β → PyData} {vs : List Value} {bs : List β}
theorem collect_lt {l : Addr} {T : String} {o : Obj} {its : Array Value} {n : Nat} {R : List Value → Shared → Prop} (hT : T = "list" ∨ T = "tuple") (ho : s.heap.get? l = some o) (hc : o.cls = .type T) (hd : o.data = .seq its n) (hz : its.size ≤ sizeLine)
    (h : ∀ h', (∀ b u, s.heap.get? b = some u → h'.get? b = some u) → s.heap.objs.size ≤ h'.objs.size → R its.toList { s with heap := h' }) : wpAny (model prog w) A (collect (.ref l)) R E s := by
  unfold collect
  refine wpAny_bind ?_
  refine wpAny_runValue (codeAny_builtin entry_proto_collect' ?_)
  show wpAny _ _ (newList [] >>= fun z => again (.builtin "list.__iadd__" ⟨[z, .ref l], []⟩)) _ _ s
  refine wpAny_bind ?_
  refine wpAny_newList ?_
  refine wpAny_pure ⟨?_, codeAny_builtin entry_list_iadd' ?_⟩
  · exact Code.quiet_builtin _ (by decide +kernel)
  show wpAny _ _ (Builtin.List.listExtendWith (.ref s.heap.objs.size) (.ref l) (.ref s.heap.objs.size)) _ _ { s with heap := (s.heap.push (seqObj "list" #[] 0)) }
  unfold Builtin.List.listExtendWith
  have go : (s.heap.push (seqObj "list" #[] 0)).get? l = some o := by exact Heap.get?_push_of_some _ ho
  have gn : (s.heap.push (seqObj "list" #[] 0)).get? s.heap.objs.size = some (seqObj "list" #[] 0) := by exact Heap.get?_push_size _ rfl
  refine wpAny_bind ?_
  refine wpAny_typeOf (T := T) ⟨o, go, hc⟩ ?_
  have hb : (Value.type T == Value.type "list" || Value.type T == Value.type "tuple") = true := by
    rcases hT with rfl | rfl <;> rfl
  rw [if_pos (by rcases hT with rfl | rfl <;> first | rfl | simp [hb] | decide)]
  refine wpAny_bind ?_
  refine listItems_at go hd ?_
  refine wpAny_bind ?_
  refine listItems_at (xs := #[]) (n := 0) gn rfl ?_
  rw [if_neg (by simp)]
  refine wpAny_bind ?_
  refine listUpdate_at (xs := #[]) (n := 0) gn rfl ?_ (Nat.zero_le _) ?_
  case refine_2 =>
    show (#[] ++ its).size ≤ sizeLine + 1
    rw [Array.size_append]
    simp only [List.size_toArray, List.length_nil, Nat.zero_add]
    omega
  refine wpAny_pure ?_
  have gu := get?_update_seq gn (· ++ its)
  show wpAny (model prog w) A (load s.heap.objs.size >>= fun z => match z.data with
    | .seq ys _ => pure ys.toList
    | _ => unsupported "internal:collect") R E { s with heap := (s.heap.push (seqObj "list" #[] 0)).update s.heap.objs.size (Obj.mapSeq (· ++ its)) }
  refine wpAny_bind ?_
  refine wpAny_load gu ?_
  show wpAny _ _ (pure ((#[] : Array Value) ++ its).toList) R E _
  rw [show ((#[] : Array Value) ++ its).toList = its.toList by simp]
  refine wpAny_pure (h _ (fun b u q => ?_) ?_)
  · have lt := Heap.lt_size q
    rw [Heap.get?_update_ne _ _ _ _ (Nat.ne_of_lt lt)]
    exact Heap.get?_push_of_some _ q
  · rw [Heap.size_update, size_push']
    exact Nat.le_succ _
open PySem.Calls PySem.W in
theorem srt_rest {Q : Value → Shared → Prop} (e : EachIs R vs bs) (er : EachIs (fun v b => ∃ as, Reads s.heap v (enc b) as) vs bs)
    (hal : AllAlike (bs.map enc)) (hk : Sortable (bs.map enc)) (hL : vs.length ≤ sizeLine) (hu : ∀ b, b ∈ bs → A.units + 2 + (enc b).depth < cLine)
    (h : ∀ (out : List Value) (h' : Heap) (p : Addr) (m : Nat), EachIs R out (bs.mergeSort (dataLe false enc)) → out.length = vs.length → (∀ b u, s.heap.get? b = some u → h'.get? b = some u) → s.heap.objs.size ≤ p → h'.get? p = some (seqObj "list" out.toArray m) → Q (.ref p) { s with heap := h' }) :
    wpAny (model prog w) A.in1 (newList vs >>= fun y => holding [y] (call (.builtin "list.sort") [y] []) >>= fun _ => ret y) (fun fin s' => ∃ v, fin = Fin.done (Flow.ret v) ∧ Q v s') E s := by
  refine wpAny_bind (wpAny_newList ?_ hL)
  have hp : (s.heap.push (seqObj "list" vs.toArray 0)).get? s.heap.objs.size = some (seqObj "list" vs.toArray 0) := Heap.get?_push_size _ rfl
  have old : ∀ b u, s.heap.get? b = some u → b < s.heap.objs.size ∧ (s.heap.push (seqObj "list" vs.toArray 0)).get? b = some u := fun b u q =>
    ⟨Heap.lt_size q, Heap.get?_push_of_some _ q⟩
  have old2 : ∀ b u, s.heap.get? b = some u → (sortingHeap (s.heap.push (seqObj "list" vs.toArray 0)) s.heap.objs.size vs).get? b = some u := fun b u q =>
    sortingHeap_old (Nat.ne_of_lt (old b u q).1) (old b u q).2
  have er' : EachIs (fun v b => ∃ as, Reads (sortingHeap (s.heap.push (seqObj "list" vs.toArray 0)) s.heap.objs.size vs) v (enc b) as) vs bs :=
    er.mono fun _ _ ⟨as, r⟩ => ⟨as, PyProof.Rows.Reads.keeps old2 r⟩
  refine wpAny_bind (wpAny_holding (wpAny_call_entry_kw slot_list_sort ⟨_, hp, rfl⟩ entry_list_sort ?go (args_list_sort _)))
  case go =>
    refine list_sort_vals (A := A.in1.in1) (κ := dataKind (sortingHeap (s.heap.push (seqObj "list" vs.toArray 0)) s.heap.objs.size vs) (bs.map enc)) (s := { s with heap := s.heap.push (seqObj "list" vs.toArray 0) }) hp
      (SortsAt.data (s := { s with heap := sortingHeap (s.heap.push (seqObj "list" vs.toArray 0)) s.heap.objs.size vs }) (each_map (R := fun v d => ∃ as, Reads (sortingHeap (s.heap.push (seqObj "list" vs.toArray 0)) s.heap.objs.size vs) v d as) enc er') hal hk ?_) hL ?_
    · intro d hd
      obtain ⟨b, hb, rfl⟩ := List.mem_map.mp hd
      exact hu b hb
    · refine ⟨_, rfl, wpAny_pure ⟨_, rfl, ?_⟩⟩
      obtain ⟨m, hm⟩ := PyProof.Rows.sortedHeap_at (out := (sortVals (dataKind (sortingHeap (s.heap.push (seqObj "list" vs.toArray 0)) s.heap.objs.size vs) (bs.map enc)) false vs vs).toArray) hp
      refine h _ _ _ m (sortVals_data false e er' hal) (sortVals_length false rfl) (fun b u q => ?_) (Nat.le_refl _) hm
      rw [PyProof.Rows.sortedHeap_old (Nat.ne_of_lt (old b u q).1) (Heap.lt_size (old b u q).2)]
      exact (old b u q).2
open PySem.Calls PySem.W in
theorem srt_seq {l : Addr} {T : String} {o : Obj} {its : Array Value} {n : Nat} {Q : Value → Shared → Prop} (hT : T = "list" ∨ T = "tuple") (ho : s.heap.get? l = some o) (hc : o.cls = .type T) (hd : o.data = .seq its n) (hv : its.toList = vs)
    (e : EachIs R vs bs) (er : EachIs (fun v b => ∃ as, Reads s.heap v (enc b) as) vs bs)
    (hal : AllAlike (bs.map enc)) (hk : Sortable (bs.map enc)) (hL : vs.length ≤ sizeLine) (hu : ∀ b, b ∈ bs → A.units + 2 + (enc b).depth < cLine)
    (h : ∀ (out : List Value) (h' : Heap) (p : Addr) (m : Nat), EachIs R out (bs.mergeSort (dataLe false enc)) → out.length = vs.length → (∀ b u, s.heap.get? b = some u → h'.get? b = some u) → s.heap.objs.size ≤ p → h'.get? p = some (seqObj "list" out.toArray m) → Q (.ref p) { s with heap := h' }) :
    wpAny (model prog w) A (call (.builtin "sorted") [.ref l]) Q E s := by
  refine call_function_entry_kw kind_sorted plain_sorted entry_sorted (args_sorted1 _) ?_
  unfold Builtin.«sorted»
  refine wpAny_bind (m := checkCount "sorted" 1 1 _) ?_
  refine wpAny_pure ?_
  have hz : its.size ≤ sizeLine := by rw [← Array.length_toList, hv]; exact hL
  refine wpAny_bind (collect_lt hT ho hc hd hz fun h1 kp sz => ?_)
  rw [hv]
  exact srt_rest (A := A) (s := { s with heap := h1 }) e (er.mono fun _ _ ⟨as, r⟩ => ⟨as, PyProof.Rows.Reads.keeps kp r⟩) hal hk hL hu fun out h' p m a1 a2 a3 a4 a5 => h out h' p m a1 a2 (fun b u q => a3 b u (kp b u q)) (Nat.le_trans sz a4) a5
end
section
variable {X : Cx}
theorem each_vals : ∀ {ds : List D} {vs : List V} {us : List Value} {K : PySem.W.Frag} {mg : Str → Option Value} {H : Hp} {A : Addr → Prop}, RepL K mg H A ds vs → Vals vs us →
    PySem.W.EachIs (fun u b => RelV b.2 u ∧ RepV K mg H A b.1 b.2) us (ds.zip vs)
  | [], _, _, _, _, _, _, .nil, .nil => .nil
  | d :: ds, _, _, _, _, _, _, .cons r rs, .cons u us => .cons ⟨u, r⟩ (each_vals rs us)
theorem each_back : ∀ {zs : List (D × V)} {us : List Value} {K : PySem.W.Frag} {mg : Str → Option Value} {H : Hp} {A : Addr → Prop},
    PySem.W.EachIs (fun u b => RelV b.2 u ∧ RepV K mg H A b.1 b.2) us zs → RepL K mg H A (zs.map Prod.fst) (zs.map Prod.snd) ∧ Vals (zs.map Prod.snd) us
  | [], _, _, _, _, _, .nil => ⟨.nil, .nil⟩
  | z :: zs, _, _, _, _, _, .cons ⟨u, r⟩ t => ⟨.cons r (each_back t).1, .cons u (each_back t).2⟩
theorem each_reads {pins : List (Addr × Obj)} {σ : St} {H : Hp} {s : Shared} (I : Inv X pins σ H s) : ∀ {ds : List D} {ps : List PyData} {vs : List V} {us : List Value} {A : Addr → Prop}, toPyL ds = some ps → RepL X.K X.mg H A ds vs → Vals vs us →
    PySem.W.EachIs (fun v b => ∃ as, Reads s.heap v (pyD b.1) as) us (ds.zip vs)
  | [], _, _, _, _, _, .nil, .nil => .nil
  | d :: ds, ps, _, _, _, e, .cons r rs, .cons u us => by
    simp only [toPyL] at e
    cases h : toPy d with
    | none => rw [h] at e; cases e
    | some p =>
      cases h2 : toPyL ds with
      | none => rw [h, h2] at e; cases e
      | some qs =>
        refine .cons ?_ (each_reads I h2 rs us)
        show ∃ as, Reads s.heap _ (pyD d) as
        have e2 : pyD d = p := by unfold pyD; rw [h]; rfl
        rw [e2]
        exact Dp.reads I p _ _ (dp_of r h) u
theorem zip_fst : ∀ {ds : List D} {vs : List V} {K : PySem.W.Frag} {mg : Str → Option Value} {H : Hp} {A : Addr → Prop}, RepL K mg H A ds vs → (ds.zip vs).map Prod.fst = ds
  | [], _, _, _, _, _, .nil => rfl
  | d :: ds, _, _, _, _, _, .cons r rs => by simp only [List.zip_cons_cons, List.map_cons, zip_fst rs]
theorem cd_sortTD (hu : X.A.units + 64 < cLine) {pins : List (Addr × Obj)} {σ : St} {H : Hp} {s : Shared} {a : Addr} {xs : List D} {vs : List V} {d : D} {A : Addr → Prop} {Q : VK} {its : List Value} {T : String} (I : Inv X pins σ H s)
    (e : sortTD xs = .ok d) (rl : RepL X.K X.mg H A xs vs) (rv : Vals vs its) (hT : T = "list" ∨ T = "tuple") {o : Obj} {n : Nat} (ho : s.heap.get? a = some o) (hc : o.cls = .type T) (hd : o.data = .seq its.toArray n) (hz : vs.length ≤ sizeLine)
    (q : FQ X.K X.mg A H d Q) : wpAny (model X.prog X.w) X.A (call (.builtin "sorted") [.ref a]) (EP X pins σ Q) X.xe s := by
  unfold sortTD at e
  cases hp : toPyL xs with
  | none => rw [hp] at e; cases e
  | some ps =>
    rw [hp] at e
    simp only at e
    split at e
    · rename_i ok
      cases e
      have hl : its.length = vs.length := rv.length.symm
      have em : (xs.zip vs).map (fun b => pyD b.1) = ps := by
        rw [toPyL_map hp, show (fun b : D × V => pyD b.1) = pyD ∘ Prod.fst from rfl, ← List.map_map, zip_fst rl]
      refine srt_seq (bs := xs.zip vs) (enc := fun b => pyD b.1) hT ho hc hd rfl (each_vals rl rv) (each_reads I hp rl rv) (by rw [em]; exact srt_alike ok) (by rw [em]; exact srt_kind ok) (by simpa [hl] using hz) (fun b hb => ?_) fun out h' p m h1 h2 kp hs hm => ?_
      · have := srt_depth ok (pyD b.1) (by rw [← em]; exact List.mem_map.mpr ⟨b, hb, rfl⟩)
        omega
      · obtain ⟨r1, r2⟩ := each_back h1
        have e1 : (((xs.zip vs).mergeSort (PySem.W.dataLe false fun b : D × V => pyD b.1)).map Prod.fst) = xs.mergeSort leD := by
          refine (List.map_mergeSort (s := leD) (f := Prod.fst) (r := PySem.W.dataLe false fun b : D × V => pyD b.1) (fun a _ b _ => rfl)).trans ?_
          rw [zip_fst rl]
        rw [e1] at r1
        have ln : (((xs.zip vs).mergeSort (PySem.W.dataLe false fun b : D × V => pyD b.1)).map Prod.snd).length ≤ sizeLine := by
          rw [r2.length, h2, hl]
          exact hz
        exact ⟨.ref p, _, I.laid (t' := s.toks) (o := .lst _) kp hs ⟨ln, out, m, r2, hm⟩, rfl, q.newLst r1 (I.hok.fresh hs)⟩
    · cases e
theorem cd_sortedA (hu : X.A.units + 64 < cLine) : CallD X (.builtin "sorted") sortedAD := by
  intro pins s σ H xs us Q I r ⟨A, ds, d, hA, rt, e, q⟩
  unfold sortedAD at e
  split at e
  · rename_i xs
    split at e
    · rename_i ns hb
      refine cd_sorted pins s σ H _ us Q I r ⟨A, _, d, hA, rt, ?_, q⟩
      unfold sortedD
      simp only [hb]
      exact e
    · obtain ⟨v, rfl, h⟩ := rt.one
      obtain ⟨a, vs, rfl, g, rl⟩ := h.lst
      obtain ⟨u, rfl, ru⟩ := vals1 r
      cases ru
      obtain ⟨its, rv, ⟨o, n, ho, hc, _, hd⟩, hz⟩ := I.list (SqL.of g)
      exact cd_sortTD hu I e rl rv (.inl rfl) ho hc hd hz q
  · obtain ⟨v, rfl, h⟩ := rt.one
    obtain ⟨a, vs, rfl, g, rl⟩ := h.tup
    obtain ⟨u, rfl, ru⟩ := vals1 r
    cases ru
    obtain ⟨its, rv, ⟨o, ho, hc, n, hd⟩, hz⟩ := I.tuple g
    exact cd_sortTD hu I e rl rv (.inr rfl) ho hc hd hz q
  · cases e
theorem nr_sortTD {xs : List D} {c : Str} : sortTD xs ≠ .raise c := fun z => by
  unfold sortTD at z
  split at z
  · split at z <;> cases z
  · cases z
theorem nr_sortedA : NoR sortedAD := fun xs c z => by
  unfold sortedAD at z
  split at z
  · split at z
    · cases z
    · exact nr_sortTD z
  · exact nr_sortTD z
  · cases z
end
end Sh

namespace Sh
open PySem PySem.Spec PyProof.Rows L2
/-! ### kinds of data and their == -/
structure Eb {α : Type} [DecidableEq α] (emb : α → D) (py : α → PyData) (n : Nat) : Prop where
  to : ∀ x, toPy (emb x) = some (py x)
  can : ∀ x, (py x).canLay0 = true
  dep : ∀ x, (py x).depth ≤ n
  eqv : ∀ x y, PyData.eqv (py x) (py y) = decide (x = y)
section
variable {α β : Type} [DecidableEq α] [DecidableEq β] {emb : α → D} {py : α → PyData} {n : Nat} {emb' : β → D} {py' : β → PyData}
theorem Eb.shaped (h : Eb emb py n) (hn : n ≤ 64) (x : α) : SeqAt.shaped (py x) = true := by
  unfold SeqAt.shaped
  rw [h.can x, Bool.true_and]
  exact decide_eq_true (Nat.le_trans (h.dep x) hn)
theorem Eb.eq (h : Eb emb py n) (hn : n ≤ 64 := by decide) (x y : α) : eqD (emb x) (emb y) = .ok (.bl (decide (x = y))) := by
  rw [eq_of_py (h.to x) (h.to y) (h.shaped hn x) (h.shaped hn y), h.eqv]
theorem Eb.ne (h : Eb emb py n) (hn : n ≤ 64 := by decide) (x y : α) : neD (emb x) (emb y) = .ok (.bl (!decide (x = y))) := ne_of_eq' (h.eq hn x y)
theorem Eb.toL (h : Eb emb py n) : ∀ xs : List α, toPyL (xs.map emb) = some (xs.map py)
  | [] => rfl
  | x :: xs => by simp only [List.map_cons, toPyL, h.to x, h.toL xs]
theorem Eb.canL (h : Eb emb py n) : ∀ xs : List α, PyData.canLayAll0 (xs.map py) = true
  | [] => rfl
  | x :: xs => by simp only [List.map_cons, PyData.canLayAll0, h.can x, h.canL xs]; rfl
theorem Eb.depL (h : Eb emb py n) : ∀ xs : List α, PyData.depthAll (xs.map py) ≤ n
  | [] => Nat.zero_le _
  | x :: xs => by
    simp only [List.map_cons, PyData.depthAll]
    exact Nat.max_le.mpr ⟨h.dep x, h.depL xs⟩
theorem Eb.eqvL (h : Eb emb py n) : ∀ xs ys : List α, PyData.eqvAll (xs.map py) (ys.map py) = decide (xs = ys)
  | [], [] => by simp [PyData.eqvAll]
  | [], _ :: _ => by simp [PyData.eqvAll]
  | _ :: _, [] => by simp [PyData.eqvAll]
  | x :: xs, y :: ys => by
    simp only [List.map_cons, PyData.eqvAll, h.eqv x y, h.eqvL xs ys]
    by_cases e : x = y <;> simp [e]
theorem Eb.int : Eb D.int PyData.int 0 := ⟨fun x => rfl, fun x => rfl, fun x => Nat.le_refl _, fun x y => by simp only [PyData.eqv]; rfl⟩
theorem Eb.tup (h : Eb emb py n) : Eb (fun xs : List α => D.tup (xs.map emb)) (fun xs => .tuple (xs.map py)) (n + 1) :=
  ⟨fun xs => by simp only [toPy, h.toL xs]; rfl, fun xs => by simp only [PyData.canLay0]; exact h.canL xs, fun xs => by simp only [PyData.depth]; exact Nat.succ_le_succ (h.depL xs), fun xs ys => by simp only [PyData.eqv]; exact h.eqvL xs ys⟩
theorem Eb.lst (h : Eb emb py n) : Eb (fun xs : List α => D.lst (xs.map emb)) (fun xs => .list (xs.map py)) (n + 1) :=
  ⟨fun xs => by simp only [toPy, h.toL xs]; rfl, fun xs => by simp only [PyData.canLay0]; exact h.canL xs, fun xs => by simp only [PyData.depth]; exact Nat.succ_le_succ (h.depL xs), fun xs ys => by simp only [PyData.eqv]; exact h.eqvL xs ys⟩
theorem Eb.pair (h : Eb emb py n) (h' : Eb emb' py' n) : Eb (fun p : α × β => D.tup [emb p.1, emb' p.2]) (fun p => .tuple [py p.1, py' p.2]) (n + 1) :=
  ⟨fun p => by simp only [toPy, toPyL, h.to, h'.to]; rfl, fun p => by simp only [PyData.canLay0, PyData.canLayAll0, h.can, h'.can]; rfl,
    fun p => by
      simp only [PyData.depth, PyData.depthAll]
      have := h.dep p.1
      have := h'.dep p.2
      omega,
    fun p q => by
      simp only [PyData.eqv, PyData.eqvAll, h.eqv, h'.eqv]
      obtain ⟨a, b⟩ := p
      obtain ⟨c, d⟩ := q
      by_cases e : a = c <;> by_cases e2 : b = d <;> simp [e, e2]⟩
end
/-! ### pairs of ints -/
def encP (p : Int × Int) : D := .tup [.int p.1, .int p.2]
@[simp] theorem encP_mk (a b : Int) : encP (a, b) = .tup [.int a, .int b] := (rfl)
theorem ebP : Eb encP (fun p => .tuple [.int p.1, .int p.2]) 1 := Eb.pair Eb.int Eb.int
theorem eq_serP (l m : List (Int × Int)) : eqD (.tup (l.map encP)) (.tup (m.map encP)) = .ok (.bl (decide (l = m))) := ebP.tup.eq (by decide) l m
theorem ne_serP (l m : List (Int × Int)) : neD (.tup (l.map encP)) (.tup (m.map encP)) = .ok (.bl (!decide (l = m))) := ebP.tup.ne (by decide) l m
def leP (p q : Int × Int) : Bool := decide (p.1 < q.1 ∨ (p.1 = q.1 ∧ p.2 ≤ q.2))
def sortP (l : List (Int × Int)) : List (Int × Int) := l.mergeSort leP
theorem leP_iff {p q : Int × Int} : leP p q = true ↔ p.1 < q.1 ∨ (p.1 = q.1 ∧ p.2 ≤ q.2) := by unfold leP; exact decide_eq_true_iff
theorem leD_P (p q : Int × Int) : leD (encP p) (encP q) = leP p q := by
  have := congrFun (congrFun (PySem.W.dataLe_ii (β := Int × Int) Prod.fst Prod.snd) p) q
  exact this
theorem sortP_perm (l : List (Int × Int)) : (sortP l).Perm l := List.mergeSort_perm _ _
theorem sortP_sorted (l : List (Int × Int)) : (sortP l).Pairwise fun p q => p.1 < q.1 ∨ (p.1 = q.1 ∧ p.2 ≤ q.2) := by
  have := List.pairwise_mergeSort (le := leP) (fun a b c h1 h2 => by
    rw [leP_iff] at *; omega) (fun a b => by
    rw [Bool.or_eq_true, leP_iff, leP_iff]; omega) l
  exact this.imp fun h => leP_iff.mp h
theorem sortP_id {l : List (Int × Int)} (h : l.Pairwise fun p q => p.1 < q.1) : sortP l = l :=
  List.mergeSort_of_pairwise (h.imp fun q => leP_iff.mpr (.inl q))
theorem srtOk_P (l : List (Int × Int)) : srtOk (l.map fun p => PyData.tuple [.int p.1, .int p.2]) = true := by
  unfold srtOk
  simp only [Bool.and_eq_true, Bool.or_eq_true, List.all_eq_true, List.mem_map, decide_eq_true_eq]
  refine ⟨⟨?_, .inl ?_⟩, ?_⟩
  · rintro p ⟨a, _, rfl⟩ q ⟨b, _, rfl⟩
    simp [PySem.W.alike, PySem.W.alikeAll]
  · rintro p ⟨a, _, rfl⟩
    rfl
  · rintro p ⟨a, _, rfl⟩
    simp [PyData.depth, PyData.depthAll]
theorem sortTD_P (l : List (Int × Int)) : sortTD (l.map encP) = .ok (.lst ((sortP l).map encP)) := by
  unfold sortTD
  rw [ebP.toL]
  simp only
  rw [if_pos (srtOk_P l)]
  congr 2
  exact (List.map_mergeSort (r := leP) (s := leD) (f := encP) (l := l) (fun a _ b _ => (leD_P a b).symm)).symm
@[simp] theorem sorted_lstP (l : List (Int × Int)) : sortedAD [.lst (l.map encP)] = .ok (.lst ((sortP l).map encP)) := by
  cases l with
  | nil =>
    show (match ltI [] with
      | some ns => (R.ok (D.lst ((sortI ns).map .int)) : R D)
      | none => sortTD []) = _
    simp [ltI, sortI, sortP]
  | cons p r =>
    have : ltI ((p :: r).map encP) = none := rfl
    show (match ltI ((p :: r).map encP) with
      | some ns => (R.ok (D.lst ((sortI ns).map .int)) : R D)
      | none => sortTD ((p :: r).map encP)) = _
    rw [this]
    exact sortTD_P _
@[simp] theorem sorted_tupP (l : List (Int × Int)) : sortedAD [.tup (l.map encP)] = .ok (.lst ((sortP l).map encP)) := sortTD_P l
theorem sorted_lstI (ns : List Int) : sortedAD [.lst (ns.map D.int)] = .ok (.lst ((sortI ns).map D.int)) := by
  show (match ltI (ns.map D.int) with
      | some ns => (R.ok (D.lst ((sortI ns).map .int)) : R D)
      | none => sortTD (ns.map D.int)) = _
  rw [ltI_map]
/-! ### more to reckon with -/
@[simp] theorem max2_int (a b : Int) : max2D [.int a, .int b] = .ok (.int (max a b)) := by
  show R.ok (D.int (if b > a then b else a)) = _
  congr 2; split <;> omega
@[simp] theorem min2_int (a b : Int) : min2D [.int a, .int b] = .ok (.int (min a b)) := by
  show R.ok (D.int (if b < a then b else a)) = _
  congr 2; split <;> omega
section
variable (ρ : Rho)
@[simp] theorem fIsi2_eq (T1 T2 : String) (f : FE) : fIsi2 T1 T2 f ρ = (f ρ).bind (isi2D T1 T2) := (rfl)
@[simp] theorem isi2_lst (xs : List D) : isi2D "list" "tuple" (.lst xs) = .ok (.bl true) := (rfl)
@[simp] theorem isi2_tup (xs : List D) : isi2D "list" "tuple" (.tup xs) = .ok (.bl true) := (rfl)
@[simp] theorem seqLT_lst (xs : List D) : seqLT (.lst xs) = .ok xs := (rfl)
@[simp] theorem seqLT_tup (xs : List D) : seqLT (.tup xs) = .ok xs := (rfl)
@[simp] theorem fExt_eq (i : Nat) (f : FE) : fExt i f ρ = toS ((fVar i ρ).bind fun x => (asLst x).bind fun xs => (f ρ).bind fun y => (seqLT y).bind fun ys => if apB (xs ++ ys) = true then .ok (xs ++ ys) else .stuck) ρ fun xs => .nx (ρ.set i (some (.lst xs))) := (rfl)
@[simp] theorem fLc2_eq (fi : FI) (g : D → Rho → R Rho) (ft : FT) (fi1 : FI) (g1 : D → Rho → R Rho) (ft1 : FT) (fe : FE) (vs vs1 : List Nat) : fLc2 fi g ft fi1 g1 ft1 fe vs vs1 ρ = (fi ρ).bind fun ds => (lcC (step2 g ft fi1 g1 ft1 fe vs1 (wipeD ρ vs)) ds).bind fun ys => if lcB ys = true then .ok (.lst ys) else .stuck := (rfl)
theorem step2_eq (g : D → Rho → R Rho) (ft : FT) (fi1 : FI) (g1 : D → Rho → R Rho) (ft1 : FT) (fe : FE) (vs1 : List Nat) (d : D) : step2 g ft fi1 g1 ft1 fe vs1 ρ d = (g d ρ).bind fun ρ1 => (ft ρ1).bind fun k => if k = true then (fi1 ρ1).bind fun ds1 => lcF (lcStep g1 ft1 fe (wipeD ρ1 vs1)) ds1 else .ok [] := rfl
end
theorem lcC_map {α : Type} {step : D → R (List D)} (emb : α → D) (h : α → List D) : ∀ (xs : List α), (∀ x ∈ xs, step (emb x) = .ok (h x)) → lcC step (xs.map emb) = .ok (xs.flatMap h)
  | [], _ => rfl
  | x :: r, H => by
    have ih := lcC_map emb h r fun y hy => H y (List.mem_cons_of_mem _ hy)
    simp only [List.map_cons, lcC, H x List.mem_cons_self, ih, List.flatMap_cons]
theorem idx_tup_map {α : Type} (emb : α → D) {xs : List α} {i : Int} (h0 : 0 ≤ i) (h1 : i.toNat < xs.length) : idxD (.tup (xs.map emb)) (.int i) = .ok (emb (xs[i.toNat])) := by
  rw [idx_tup_nn h0 (by simpa using h1)]; simp
theorem idx_lst_map {α : Type} (emb : α → D) {xs : List α} {i : Int} (h0 : 0 ≤ i) (h1 : i.toNat < xs.length) : idxD (.lst (xs.map emb)) (.int i) = .ok (emb (xs[i.toNat])) := by
  rw [idx_lst_nn h0 (by simpa using h1)]; simp
theorem setL_last (xs : List D) (a b : D) : setL (xs ++ [a]) (.int (-1)) b = .ok (xs ++ [b]) := by
  unfold setL ixN
  have h1 : ¬ (0 : Int) ≤ -1 := by decide
  have h2 : (-(((xs ++ [a]).length : Nat) : Int)) ≤ -1 := by simp only [List.length_append, List.length_singleton]; omega
  have h3 : (-1 + (((xs ++ [a]).length : Nat) : Int)).toNat = xs.length := by simp only [List.length_append, List.length_singleton]; omega
  simp only [h1, h2, if_false, if_true, h3]
  simp
theorem addD_tup {xs ys : List D} (h : xs.length + ys.length ≤ 9999) : addD (.tup xs) (.tup ys) = .ok (.tup (xs ++ ys)) := if_pos (Nat.le_trans h (of_decide_eq_true rfl))
theorem addD_lst {xs ys : List D} (h : xs.length + ys.length ≤ 9999) : addD (.lst xs) (.lst ys) = .ok (.lst (xs ++ ys)) := if_pos (Nat.le_trans h (of_decide_eq_true rfl))
theorem apB_le {xs : List D} (h : xs.length ≤ 9999) : apB xs = true := apB_of h
end Sh

namespace Sh
open PySem PySem.Spec PyProof.Rows L2
/-! ### set(xs) of a list of ints -/
abbrev nuSet (w : World) : Obj := { cls := .type "set", dict := none, data := .set #[] 0 (.fresh 0 0 (!w.params.followText "set-order")) }
section
variable {P : Program} {w : World} {A : Around} {E : Value → Shared → Prop} {s : Shared}
set_option maxRecDepth 100000 in
set_option maxHeartbeats 3200000 in
theorem set_lstI {b0 : Addr} {its : Array Value} (zs : List Int) {R : Value → Shared → Prop} (calm : A.handled = none) (hL : s.heap.IsList b0 its) (hI : IntsAre its.toList zs) (few : zs.length + 1 < scanBound)
    (go : ∀ (g : Heap) (tk c : Nat), SetR w g s.heap.objs.size (fun j => decide (j ∈ zs)) c → c ≤ zs.length → (∀ b u, s.heap.get? b = some u → g.get? b = some u) → R (.ref s.heap.objs.size) { s with heap := g, toks := tk }) :
    wpAny (model P w) A (call (.type "set") [.ref b0]) R E s := by
  have many : its.size = zs.length := by
    have q := IntsAre.length hI
    simpa using q
  obtain ⟨cc, tt, m1⟩ := F.called_set.mro
  have m2 := F.called_set.made
  have m3 := F.called_set.sub
  have m4 := F.called_set.notType
  have m5 := F.called_set.canCreate
  have m6 := F.typeCall_set_1 (.ref b0)
  refine wpAny_call ?_
  refine codeAny_of_tree ?_
  show wpAny _ _ (callAny (.type "set") ⟨[.ref b0], []⟩) _ _ _
  refine wpAny_pure ⟨?_, codeAny_builtin F.entry_type_call ?_⟩
  · exact Code.quiet_builtin _ (by decide +kernel)
  rw [Around.under_plain (weight_type_call_type "set" [.ref b0] []) rfl]
  repeat (any_goals (first | assumption | wp_step))
  refine codeAny_mono (code_set_led1 (.ref b0) (E := E) (Q₁ := fun x s1 => x = .ref s.heap.objs.size ∧ s1 = { s with heap := s.heap.push (nuSet w) }) ⟨rfl, rfl⟩) ?_
  intro r s1 hr
  cases r with
  | error e => exact hr
  | ok fl =>
    cases fl with
    | ret obj =>
      obtain ⟨rfl, rfl⟩ := hr
      have gS : (s.heap.push (nuSet w)).get? s.heap.objs.size = some (nuSet w) := Heap.get?_push_size _ rfl
      have tS : Shared.TypeIs { s with heap := s.heap.push (nuSet w) } (.ref s.heap.objs.size) "set" := ⟨_, gS, rfl⟩
      have n1 := F.called_set.init.lookup
      have n2 := F.called_set.init.bind (.ref s.heap.objs.size)
      repeat (any_goals (first | assumption | wp_step))
      refine codeAny_mono (codeAny_call_builtin (R := wants (fun x s2 => x = .none ∧ ∃ g tk c, s2 = { s with heap := g, toks := tk } ∧ SetR w g s.heap.objs.size (fun j => decide (j ∈ zs)) c ∧ c ≤ zs.length ∧
          (∀ b u, s.heap.get? b = some u → g.get? b = some u)) E) F.called_set.init.plain F.entry_set_init (check_set_init_1 tS ?_)) ?_
      · obtain ⟨ol, gl, cl, nl, dl⟩ := hL
        obtain ⟨oc, od, oda, osl⟩ := ol
        simp only at cl dl
        subst cl dl
        have gl1 : (s.heap.push (nuSet w)).get? b0 = some { cls := .type "list", dict := od, data := .seq its nl, slots := osl } := Heap.get?_push_of_some _ gl
        have k1 := F.sub_list_set
        have k2 := F.sub_list_frozenset
        have k3 : (Value.type "list" == Value.type "dict") = false := by decide
        have gl2 : (s.heap.push (nuSet w)).IsList b0 its := ⟨_, gl1, rfl, nl, rfl⟩
        unfold Builtin.«set.__init__» noKeywords Builtin.Frozenset.updateFrom
        generalize eI : pyIter = PI
        wp_walk
        subst eI
        refine wpAny_pyIter_list gl2 ?_
        refine wpAny_bind ?_
        refine wpAny_runValue ?_
        have lt0 : b0 < s.heap.objs.size := Heap.lt_size gl
        have calm3 : A.in1.in1.in1.handled = none := by simpa using calm
        have sz1 : (s.heap.push (nuSet w)).objs.size = s.heap.objs.size + 1 := Heap.size_push ..
        have ne1 : b0 ≠ (s.heap.push (nuSet w)).objs.size := by rw [sz1]; exact Nat.ne_of_lt (Nat.lt_succ_of_lt lt0)
        have apart : s.heap.objs.size ∉ [(s.heap.push (nuSet w)).objs.size, b0] := by
          rw [sz1]
          intro z
          rcases List.mem_cons.mp z with z | z
          · exact Nat.ne_of_lt (Nat.lt_succ_self _) z
          · exact Nat.ne_of_gt lt0 (List.mem_singleton.mp z)
        have each : ∀ (i : Nat) (v : Value), its[i]? = some v → ∃ k t, zs[i]? = some k ∧ v = .int k t := by
          intro i v hv
          have hi : i < zs.length := by rw [← many]; exact (Array.getElem?_eq_some_iff.mp hv).1
          obtain ⟨t, e⟩ := PyProof.Rows.IntsAre.int_at hI i v (by rw [Array.getElem?_toList]; exact hv)
          refine ⟨zs[i], t, List.getElem?_eq_getElem hi, ?_⟩
          rw [e, List.getD_eq_getElem?_getD, List.getElem?_eq_getElem hi]
          rfl
        refine set_update_ints ((Walks.list calm3 _ b0 ne1 its).toS) s.heap.objs.size apart zs many few each (its.size - 0) 0 _ (by omega) (Nat.zero_le _) ⟨⟨_, Heap.get?_push_size _ rfl, rfl, rfl⟩, (gl2.push _)⟩ ?first ?last
        case first =>
          refine ⟨0, Nat.le_refl 0, setR_new_at ?_⟩
          exact Heap.get?_push_of_some _ gS
        case last =>
          intro s' c' mv hc' hS'
          obtain ⟨g, g2, d', tk', os'⟩ := s'
          have e1 : g2 = s.gens := mv.gens
          have e2 : d' = s.drawn := mv.drawn
          have e3 : os' = s.os := mv.os
          subst e1 e2 e3
          show wpAny _ _ _ _ _ _
          refine wpAny_pure ?_
          show wpAny _ _ (ret Value.none) _ _ _
          rw [many] at hc'
          refine wpAny_pure ⟨rfl, g, tk', c', rfl, hS', hc', ?_⟩
          intro b u e
          have lb : b < s.heap.objs.size := Heap.lt_size e
          refine mv.heap b u ?_ (Heap.get?_push_of_some _ (Heap.get?_push_of_some _ e))
          intro z
          rcases List.mem_cons.mp z with z | z
          · exact Nat.ne_of_lt lb z
          · have q := List.mem_singleton.mp z
            rw [sz1] at q
            exact Nat.ne_of_lt (Nat.lt_succ_of_lt lb) q
      · intro x s2 hx
        cases x with
        | error e => exact hx
        | ok f2 =>
          cases f2 with
          | ret r =>
            obtain ⟨rfl, g, tk, c', rfl, hS', hc', hk'⟩ := hx
            repeat (any_goals (first | assumption | wp_step))
            exact go _ _ _ hS' hc' hk'
          | _ => exact hx.elim
    | _ => exact hr.elim
end
/-! ### sorted(set(xs)), len(set(xs)), xs a list or a tuple of ints -/
def unI : List Int → List Int
  | [] => []
  | a :: r => if r.contains a = true then unI r else a :: unI r
theorem unI_mem {x : Int} : ∀ {ns : List Int}, x ∈ unI ns ↔ x ∈ ns
  | [] => Iff.rfl
  | a :: r => by
    unfold unI
    split
    · rename_i h
      rw [unI_mem, List.mem_cons]
      constructor
      · exact .inr
      · rintro (rfl | q)
        · exact List.contains_iff_mem.mp h
        · exact q
    · rw [List.mem_cons, List.mem_cons, unI_mem]
theorem unI_nodup : ∀ ns : List Int, (unI ns).Nodup
  | [] => .nil
  | a :: r => by
    unfold unI
    split
    · exact unI_nodup r
    · rename_i h
      exact List.nodup_cons.mpr ⟨fun z => h (List.contains_iff_mem.mpr (unI_mem.mp z)), unI_nodup r⟩
theorem unI_len : ∀ ns : List Int, (unI ns).length ≤ ns.length
  | [] => Nat.le_refl _
  | a :: r => by
    have := unI_len r
    unfold unI
    split
    · rw [List.length_cons]; omega
    · rw [List.length_cons, List.length_cons]; omega
theorem unI_self {ns : List Int} (h : ns.Nodup) : unI ns = ns := by
  induction ns with
  | nil => rfl
  | cons a r ih =>
    obtain ⟨h1, h2⟩ := List.nodup_cons.mp h
    unfold unI
    rw [if_neg (fun z => h1 (List.contains_iff_mem.mp z)), ih h2]
/-- ascending, told by its members -/
theorem asc_uniq {xs ys : List Int} (h1 : xs.Pairwise (· < ·)) (h2 : ys.Pairwise (· < ·)) (k : ∀ x, x ∈ xs ↔ x ∈ ys) : xs = ys := by
  have nd : ∀ {zs : List Int}, zs.Pairwise (· < ·) → zs.Nodup := fun h => h.imp fun q => Int.ne_of_lt q
  exact ((List.perm_ext_iff_of_nodup (nd h1) (nd h2)).mpr k).eq_of_pairwise (fun a b _ _ q1 q2 => by omega) h1 h2
def stI : D → Option (List Int)
  | .lst xs => ltI xs
  | .tup xs => ltI xs
  | _ => none
def sortSet (d : D) : R D := match stI d with
  | some ns => if ns.length < 1000 then .ok (.lst ((sortI (unI ns)).map .int)) else .stuck
  | none => .stuck
def lenSet (d : D) : R D := match stI d with
  | some ns => if ns.length < 1000 then .ok (.int ((unI ns).length : Nat)) else .stuck
  | none => .stuck
def fSortSet (f : FE) : FE := fun ρ => (f ρ).bind sortSet
def fLenSet (f : FE) : FE := fun ρ => (f ρ).bind lenSet
section
variable {X : Cx} {Z : Fx} {own : List Nat} {W : WX} {a : Expr} {p p2 q pos : Pos}
theorem setR_len {w : World} {h : Heap} {x : Addr} {ns : List Int} {c : Nat} (r : SetR w h x (fun j => decide (j ∈ ns)) c) : c = (unI ns).length := by
  obtain ⟨o, es, ep, t, _, _, _, _, nd, hm, _, _, hn, _⟩ := r
  have : (es.toList.map keyOf).Perm (unI ns) := (List.perm_ext_iff_of_nodup nd (unI_nodup ns)).mpr fun k => by
    rw [← hm k, unI_mem, decide_eq_true_iff]
  rw [← this.length_eq, List.length_map, Array.length_toList]
  exact hn.symm
/-- the set, made and at hand -/
theorem set_any {prog : Program} {w : World} {A : Around} {E : Value → Shared → Prop} {s : Shared} {b0 : Addr} {its : Array Value} (zs : List Int) {R : Value → Shared → Prop} (calm : A.handled = none) (hL : s.heap.IsList b0 its ∨ s.heap.IsTuple b0 its) (hI : IntsAre its.toList zs) (few : zs.length < 1000)
    (go : ∀ (g : Heap) (tk : Nat), SetR w g s.heap.objs.size (fun j => decide (j ∈ zs)) (unI zs).length → (∀ b u, s.heap.get? b = some u → g.get? b = some u) → R (.ref s.heap.objs.size) { s with heap := g, toks := tk }) :
    wpAny (model prog w) A (call (.type "set") [.ref b0]) R E s := by
  have sb : zs.length + 1 < scanBound := by unfold scanBound; omega
  rcases hL with hL | hL
  · refine set_lstI zs calm hL hI sb fun g tk c r _ k => ?_
    have e := setR_len r
    subst e
    exact go g tk r k
  · refine call_set_tupI zs calm hL hI sb fun g tk c r _ k => ?_
    have e := setR_len r
    subst e
    exact go g tk r k
def tLenSet (K : PySem.W.Frag) (ta : TE) : TE := fun σ H Q => ta σ H fun x H1 => ∃ (l : Addr) (ns : List Int), x = V.ref l ∧ (SqL K H1 l (ns.map V.int) ∨ SqT K H1 l (ns.map V.int)) ∧ ns.length < 1000 ∧ Q (.int (unI ns).length) H1
def tSortSet (K : PySem.W.Frag) (ta : TE) : TE := fun σ H Q => ta σ H fun x H1 => ∃ (l : Addr) (ns : List Int), x = V.ref l ∧ (SqL K H1 l (ns.map V.int) ∨ SqT K H1 l (ns.map V.int)) ∧ ns.length < 1000 ∧ ∀ d, H1 d = none → Q (.ref d) (upd H1 d (.lst ((sortI (unI ns)).map V.int)))
theorem seq_ints {pins : List (Addr × Obj)} {σ : St} {H : Hp} {s : Shared} (I : Inv X pins σ H s) {l : Addr} {ns : List Int} (h : SqL X.K H l (ns.map V.int) ∨ SqT X.K H l (ns.map V.int)) : ∃ its : Array Value, (s.heap.IsList l its ∨ s.heap.IsTuple l its) ∧ IntsAre its.toList ns := by
  rcases h with h | h
  · obtain ⟨its, r, pl, _⟩ := I.list h
    exact ⟨its.toArray, .inl pl.isList, by simpa using r.ints⟩
  · obtain ⟨its, r, pl, _⟩ := I.tuple h
    exact ⟨its.toArray, .inr pl, by simpa using r.ints⟩
theorem pe_lenSet {ta : TE} (hc : X.calm = true) (hg : Gl X "len") (hm : X.mg "len" = none) (hg2 : Gl X "set") (hm2 : X.mg "set" = none) (ha : PE X a ta)
    (na : starEach [a] X.env = (false, eval a X.env) :: starEach [] X.env := by rfl) : PE X (.Call (.Name "len" p) [.Call (.Name "set" p2) [a] [] q] [] pos) (tLenSet X.K ta) := by
  refine ⟨fun pins s σ H Q I h => ?_⟩
  refine Call_ (ld_blt I hg hm PySem.boot_len ?_)
  refine PyProof.Rows.callWith_builtin1 (PyProof.Rows.args_cons ?_ rfl) rfl rfl
  refine Call_ (ld_blt I hg2 hm2 PyProof.Rows.boot_set ?_)
  refine PyProof.Rows.callWith_type1 (PyProof.Rows.args_cons (thn (ha.run pins s σ H _ I h) ?_) na) na rfl
  rintro v s1 ⟨x, H1, I1, r1, q1⟩
  refine PyProof.Rows.args_nil ?_
  obtain ⟨l, ns, rfl, hq, h1, q1⟩ := q1
  cases r1
  obtain ⟨its, pl, hI⟩ := seq_ints I1 hq
  refine set_any ns (I1.ok.hd hc) pl hI h1 fun g tk r k => ?_
  refine PyProof.Rows.args_nil ?_
  obtain ⟨o, es, ep, t, ho, hex, hd, _, _, _, _, hf, hn, _⟩ := r
  have I2 : Inv X pins σ H1 { s1 with heap := g, toks := tk } := I1.kept k
  have un := unI_len ns
  exact call_len_set ho hex hd hf (by rw [hn]; omega) ⟨.int (unI ns).length, H1, I2.tok _, ⟨_, by rw [hn]⟩, q1⟩
theorem ints_each : ∀ {us : List Value} {zs : List Int}, IntsAre us zs → PySem.W.EachIs (fun u z => ∃ t, u = Value.int z t) us zs
  | _, _, .nil => .nil
  | _, _, .cons n t r => .cons ⟨t, rfl⟩ (ints_each r)
theorem each_ints : ∀ {us : List Value} {zs : List Int}, PySem.W.EachIs (fun u z => ∃ t, u = Value.int z t) us zs → Vals (zs.map V.int) us
  | _, _, .nil => .nil
  | _, _, .cons h r => .cons h (each_ints r)
theorem merge_ints (zs : List Int) : zs.mergeSort (PySem.W.dataLe false PyData.int) = sortI zs := by
  unfold sortI
  rw [show (PySem.W.dataLe false PyData.int : Int → Int → Bool) = fun a b => decide (a ≤ b) from PySem.W.dataLe_int id]
open PySem.Calls in
theorem sort_then {pins : List (Addr × Obj)} {σ : St} {H : Hp} {s : Shared} {l : Addr} {ns : List Int} {Q : VK} (hc : X.calm = true) (hun : X.A.units + 64 < cLine) (J0 : Inv X pins σ H s) (r : SetR X.w s.heap l (fun j => decide (j ∈ ns)) (unI ns).length)
    (q1 : ∀ d, H d = none → Q (.ref d) (upd H d (.lst ((sortI (unI ns)).map V.int)))) : wpAny (model X.prog X.w) X.A (call (.builtin "sorted") [.ref l]) (EP X pins σ Q) X.xe s := by
  have calm : X.A.in1.handled = none := J0.ok.hd hc
  obtain ⟨o, es, ep, t, ho, hex, hd, g, nd, hm, hb, hf, hn, hr, hl⟩ := r
  refine call_function_entry_kw kind_sorted plain_sorted entry_sorted (args_sorted1 _) ?_
  unfold Builtin.«sorted»
  refine wpAny_bind (m := checkCount "sorted" 1 1 _) ?_
  refine wpAny_pure ?_
  refine wpAny_bind (collect_set (A := X.A.in1) calm ⟨o, ho, hex.1, hd⟩ hf hb hr hl fun s1 us k1 z1 g1 o1 pm => ?_)
  have hI : IntsAre us (us.map Builtin.Re.reRawOf) := ints_of us fun v hv => by
    obtain ⟨e, he, q⟩ := List.mem_map.mp (pm.mem_iff.mp hv)
    obtain ⟨k, tk, h1, _⟩ := g e he
    exact ⟨k, tk, by rw [← q]; exact h1⟩
  have pk : (us.map Builtin.Re.reRawOf).Perm (es.toList.map keyOf) := by
    have q := pm.map Builtin.Re.reRawOf
    rw [List.map_map] at q
    exact q
  generalize us.map Builtin.Re.reRawOf = zs at hI pk
  have ul : us.length = es.size := by rw [pm.length_eq, List.length_map, Array.length_toList]
  have em : sortI zs = sortI (unI ns) := by
    have n1 : zs.Nodup := pk.nodup_iff.mpr nd
    exact asc_uniq (sortI_lt n1) (sortI_lt (unI_nodup ns)) fun x => by
      rw [sortI_mem, sortI_mem, unI_mem, pk.mem_iff, ← hm x, decide_eq_true_iff]
  have e0 := ints_each hI
  refine srt_rest (A := X.A) (bs := zs) (enc := PyData.int) e0 (e0.mono fun v b ⟨t, q⟩ => ⟨[], by rw [q]; exact Reads.int b t⟩) (PySem.W.AllAlike.of fun _ _ => by simp [PySem.W.alike]) (PySem.W.Sortable.others fun b => ⟨by simp, fun xs => by simp⟩) (by rw [ul, sizeLine_eq]; unfold scanBound at hb; omega) (fun b _ => by show X.A.units + 2 + 0 < cLine; omega) ?_
  intro out h' d m a1 a2 a3 a4 a5
  rw [merge_ints] at a1
  have free : H d = none := J0.hok.fresh (Nat.le_trans z1 a4)
  have rv := each_ints a1
  have short : ((sortI zs).map V.int).length ≤ sizeLine := by
    rw [rv.length, a2, ul, sizeLine_eq]; unfold scanBound at hb; omega
  have kk : ∀ b u, s.heap.get? b = some u → h'.get? b = some u := fun b u q => a3 b u (k1 b u q)
  have J : Inv X pins σ (upd H d (.lst ((sortI zs).map V.int))) { s with heap := h', gens := s1.gens, drawn := s1.drawn, toks := s1.toks } := by
    refine J0.call (ch := []) (Un.laid kk (Nat.le_trans z1 a4) free) (J0.hok.laid kk (Nat.le_trans z1 a4) ⟨short, out, m, rv, a5⟩) ?_ ?_
    · rw [g1]; exact J0.bare
    · exact fun _ z => nomatch z
  have e : ({ s1 with heap := h' } : Shared) = { s with heap := h', gens := s1.gens, drawn := s1.drawn, toks := s1.toks } := by
    cases s1
    cases s
    cases o1
    rfl
  rw [e]
  exact ⟨.ref d, _, J, rfl, by rw [em]; exact q1 d free⟩
theorem pe_sortSet {ta : TE} (hc : X.calm = true) (hun : X.A.units + 64 < cLine) (hg : Gl X "sorted") (hm : X.mg "sorted" = none) (hg2 : Gl X "set") (hm2 : X.mg "set" = none) (ha : PE X a ta)
    (na : starEach [a] X.env = (false, eval a X.env) :: starEach [] X.env := by rfl) : PE X (.Call (.Name "sorted" p) [.Call (.Name "set" p2) [a] [] q] [] pos) (tSortSet X.K ta) := by
  refine ⟨fun pins s σ H Q I h => ?_⟩
  refine Call_ (ld_blt I hg hm (show bootBuiltins "sorted" = some (.builtin "sorted") by decide +kernel) ?_)
  refine PyProof.Rows.callWith_builtin1 (PyProof.Rows.args_cons ?_ rfl) rfl rfl
  refine Call_ (ld_blt I hg2 hm2 PyProof.Rows.boot_set ?_)
  refine PyProof.Rows.callWith_type1 (PyProof.Rows.args_cons (thn (ha.run pins s σ H _ I h) ?_) na) na rfl
  rintro v s1 ⟨x, H1, I1, r1, q1⟩
  refine PyProof.Rows.args_nil ?_
  obtain ⟨l, ns, rfl, hq, h1, q1⟩ := q1
  cases r1
  obtain ⟨its, pl, hI⟩ := seq_ints I1 hq
  refine set_any ns (I1.ok.hd hc) pl hI h1 fun g tk r k => ?_
  refine PyProof.Rows.args_nil ?_
  have J0 : Inv X pins σ H1 { s1 with heap := g, toks := tk } := I1.kept k
  exact sort_then hc hun J0 r q1
theorem stI_at {d : D} {ns : List Int} {K : PySem.W.Frag} {mg : Str → Option Value} {H : Hp} {A : Addr → Prop} {v : V} (e : stI d = some ns) (r : RepT K mg H A d v) : ∃ l, v = .ref l ∧ (SqL K H l (ns.map V.int) ∨ SqT K H l (ns.map V.int)) := by
  unfold stI at e
  split at e
  · obtain ⟨l, vs, rfl, g, rl⟩ := r.lst
    cases ltI_at e
    exact ⟨l, rfl, .inl (by rw [← rl.ints]; exact SqL.of g)⟩
  · obtain ⟨l, vs, rfl, g, rl⟩ := r.tup
    cases ltI_at e
    exact ⟨l, rfl, .inr (by rw [← rl.ints]; exact g)⟩
  · cases e
theorem d_lenSet {f : FE} (he : DR X Z own W a f) (hc : X.calm = true) (hm : X.mg "len" = none) (hm2 : X.mg "set" = none) (hg : Gl X "len" := by rfl) (hg2 : Gl X "set" := by rfl)
    (na : starEach [a] X.env = (false, eval a X.env) :: starEach [] X.env := by rfl) : DF X Z own W (.Call (.Name "len" p) [.Call (.Name "set" p2) [a] [] q] [] pos) (fLenSet f) :=
  PE_imp (pe_lenSet hc hg hm hg2 hm2 he na) fun σ H Q ⟨α, ρ, E, q⟩ => by
    refine (g_R (laterF X.K X.mg (AA Z.Ao α) Q) E q.g).imp fun v H1 ⟨d, e1, s1, r1, E1, q1⟩ => ?_
    unfold lenSet at q1
    cases hs : stI d with
    | none => rw [hs] at q1; exact q1.elim
    | some ns =>
      rw [hs] at q1
      simp only at q1
      split at q1
      · rename_i h64
        obtain ⟨l, rfl, sq⟩ := stI_at hs r1
        have q1 : FQ X.K X.mg (AA Z.Ao α) H1 (.int ((unI ns).length : Nat)) Q := q1
        exact ⟨l, ns, rfl, sq, h64, q1.imp (Same.refl H1) rfl (.int _)⟩
      · exact q1.elim
theorem d_sortSet {f : FE} (he : DR X Z own W a f) (hc : X.calm = true) (hun : X.A.units + 64 < cLine) (hm : X.mg "sorted" = none) (hm2 : X.mg "set" = none) (hg : Gl X "sorted" := by rfl) (hg2 : Gl X "set" := by rfl)
    (na : starEach [a] X.env = (false, eval a X.env) :: starEach [] X.env := by rfl) : DF X Z own W (.Call (.Name "sorted" p) [.Call (.Name "set" p2) [a] [] q] [] pos) (fSortSet f) :=
  PE_imp (pe_sortSet hc hun hg hm hg2 hm2 he na) fun σ H Q ⟨α, ρ, E, q⟩ => by
    refine (g_R (laterF X.K X.mg (AA Z.Ao α) Q) E q.g).imp fun v H1 ⟨d, e1, s1, r1, E1, q1⟩ => ?_
    unfold sortSet at q1
    cases hs : stI d with
    | none => rw [hs] at q1; exact q1.elim
    | some ns =>
      rw [hs] at q1
      simp only at q1
      split at q1
      · rename_i h64
        obtain ⟨l, rfl, sq⟩ := stI_at hs r1
        have q1 : FQ X.K X.mg (AA Z.Ao α) H1 (.lst ((sortI (unI ns)).map .int)) Q := q1
        exact ⟨l, ns, rfl, sq, h64, fun d n => q1.newLst (RepL.of_ints _) n⟩
      · exact q1.elim
end
section
variable (ρ : Rho)
@[simp] theorem fLenSet_eq (f : FE) : fLenSet f ρ = (f ρ).bind lenSet := (rfl)
@[simp] theorem fSortSet_eq (f : FE) : fSortSet f ρ = (f ρ).bind sortSet := (rfl)
end
theorem lenSet_lst {ns : List Int} (h : ns.length < 1000) : lenSet (.lst (ns.map D.int)) = .ok (.int ((unI ns).length : Nat)) := by
  show (match ltI (ns.map D.int) with
    | some ns => if ns.length < 1000 then (R.ok (D.int ((unI ns).length : Nat)) : R D) else .stuck
    | none => .stuck) = _
  rw [ltI_map]; simp only; rw [if_pos h]
theorem lenSet_tup {ns : List Int} (h : ns.length < 1000) : lenSet (.tup (ns.map D.int)) = .ok (.int ((unI ns).length : Nat)) := by
  show (match ltI (ns.map D.int) with
    | some ns => if ns.length < 1000 then (R.ok (D.int ((unI ns).length : Nat)) : R D) else .stuck
    | none => .stuck) = _
  rw [ltI_map]; simp only; rw [if_pos h]
theorem sortSet_lst {ns : List Int} (h : ns.length < 1000) : sortSet (.lst (ns.map D.int)) = .ok (.lst ((sortI (unI ns)).map D.int)) := by
  show (match ltI (ns.map D.int) with
    | some ns => if ns.length < 1000 then (R.ok (D.lst ((sortI (unI ns)).map .int)) : R D) else .stuck
    | none => .stuck) = _
  rw [ltI_map]; simp only; rw [if_pos h]
theorem sortSet_tup {ns : List Int} (h : ns.length < 1000) : sortSet (.tup (ns.map D.int)) = .ok (.lst ((sortI (unI ns)).map D.int)) := by
  show (match ltI (ns.map D.int) with
    | some ns => if ns.length < 1000 then (R.ok (D.lst ((sortI (unI ns)).map .int)) : R D) else .stuck
    | none => .stuck) = _
  rw [ltI_map]; simp only; rw [if_pos h]
end Sh

namespace Sh
open PySem PySem.Spec PyProof.Rows L2
section
variable {X : Cx} {Z : Fx} {own : List Nat} {W : WX} {pos p1 p2 : Pos}
theorem d_dict1 {k v : Int} {j1 j2 : Nat} : DF X Z own W (.Dict [some (.Constant (.int k) j1 p1)] [.Constant (.int v) j2 p2] pos) (fC (.dct [.int k] [.int v])) :=
  PE_imp (pe_disp (pps_cons pe_int pe_int pps_nil) rfl rfl (by simp) (by simp)) fun σ H Q ⟨α, ρ, E, q⟩ p hn => by
    have q : FQ X.K X.mg (AA Z.Ao α) H (.dct [.int k] [.int v]) Q := q
    refine ⟨upd_same, [(.inl k, .int v)], rfl, by simp, ?_⟩
    rw [upd_upd]
    exact q.new (Same.new hn) hn ⟨[(.inl k, .int v)], upd_same, .cons (.int k) .nil, .cons (.int v) .nil⟩
end
end Sh

namespace Sh
open PySem PySem.Spec PyProof.Rows L2
/-! ### t[::-1] of a list or a tuple -/
section
variable {prog : Program} {w : World} {A : Around} {E : Value → Shared → Prop} {s : Shared}
theorem rev_adj (n : Nat) : Builtin.Slice.sliceAdjust none none (-1) (n : Int) = ((n : Int) - 1, -1) := by
  unfold Builtin.Slice.sliceAdjust
  simp
theorem rev_places (n : Nat) : Builtin.Slice.slicePlaces ((n : Int) - 1) (-1) (-1) = n := by
  unfold Builtin.Slice.slicePlaces
  have h1 : ¬ ((-1 : Int) > 0) := by decide
  simp only [h1, if_false]
  by_cases h : (n : Int) - 1 > -1
  · rw [if_pos h, show (-(-1) : Int) = 1 by decide, Int.ediv_one]; omega
  · rw [if_neg h]; omega
theorem rev_parts {sl : Addr} {vk : Value} {n : Nat} {R : Int × Int × Nat → Shared → Prop} (hs : s.heap.IsSliceOf sl .none .none vk) (pk : IsPart vk (some (-1)))
    (h : R ((n : Int) - 1, -1, n) s) : wpAny (model prog w) A (Builtin.Slice.sliceApplied (.ref sl) (pure (n : Int))) R E s := by
  obtain ⟨os, gs, _, ds⟩ := id hs
  unfold Builtin.Slice.sliceApplied Builtin.Slice.sliceFields
  refine wpAny_bind ?_
  refine wpAny_bind ?_
  refine wpAny_field gs ds (x := .none) rfl ?_
  refine wpAny_bind ?_
  refine wpAny_field gs ds (x := .none) rfl ?_
  refine wpAny_bind ?_
  refine wpAny_field gs ds (x := vk) rfl ?_
  refine wpAny_pure ?_
  refine wpAny_bind ?_
  refine HT.slicePart_ pk ?_
  show wpAny _ _ (if ((-1 : Int) == 0) = true then _ else _) _ _ s
  rw [if_neg (by decide)]
  refine wpAny_bind ?_
  refine slicePart_none ?_
  refine wpAny_bind ?_
  refine slicePart_none ?_
  refine wpAny_bind ?_
  refine wpAny_pure ?_
  show wpAny _ _ (match Builtin.Slice.sliceAdjust none none (-1) (n : Int) with | (lo, hi) => pure (lo, (-1 : Int), Builtin.Slice.slicePlaces lo hi (-1))) _ _ s
  rw [rev_adj]
  show wpAny _ _ (pure ((n : Int) - 1, (-1 : Int), Builtin.Slice.slicePlaces ((n : Int) - 1) (-1) (-1))) _ _ s
  rw [rev_places]
  exact wpAny_pure h
theorem fm_congr {α β : Type} {f g : α → Option β} : ∀ {l : List α}, (∀ x ∈ l, f x = g x) → l.filterMap f = l.filterMap g
  | [], _ => rfl
  | a :: r, h => by rw [List.filterMap_cons, List.filterMap_cons, h a List.mem_cons_self, fm_congr fun x hx => h x (List.mem_cons_of_mem _ hx)]
theorem rev_pick (xs : Array Value) : ((List.range xs.size).filterMap fun (k : Nat) => xs[(((xs.size : Nat) : Int) - 1 + (k : Int) * (-1)).toNat]?).toArray = xs.toList.reverse.toArray := by
  congr 1
  have e : ((List.range xs.size).filterMap fun (k : Nat) => xs[(((xs.size : Nat) : Int) - 1 + (k : Int) * (-1)).toNat]?) = (List.range xs.size).filterMap fun k => xs.toList.reverse[k]? := by
    refine fm_congr fun k hk => ?_
    have hk := List.mem_range.mp hk
    rw [show (((xs.size : Nat) : Int) - 1 + (k : Int) * (-1)).toNat = xs.size - 1 - k by omega, List.getElem?_reverse (by simpa using hk), ← Array.getElem?_toList]
    simp
  rw [e]
  generalize hl : xs.toList.reverse = l
  have hn : xs.size = l.length := by rw [← hl]; simp
  rw [hn]
  clear e hn hl
  induction l with
  | nil => rfl
  | cons a r ih =>
    rw [List.length_cons, List.range_succ_eq_map, List.filterMap_cons]
    simp only [List.getElem?_cons_zero, List.filterMap_map]
    congr 1
theorem rev_tup {t sl : Addr} {its : Array Value} {vk : Value} {R : Value → Shared → Prop} (ht : IsTup s.heap t its) (hs : s.heap.IsSliceOf sl .none .none vk) (pk : IsPart vk (some (-1)))
    (h : R (.ref s.heap.objs.size) { s with heap := s.heap.push { cls := .type "tuple", data := .seq its.toList.reverse.toArray } }) (hz : its.size ≤ sizeLine) : wpAny (model prog w) A (getItem (.ref t) (.ref sl)) R E s := by
  have fits : sizeOk (.seq its.toList.reverse.toArray) := by
    show its.toList.reverse.toArray.size ≤ sizeLine
    simpa using hz
  have hTs : s.TypeIs (.ref sl) "slice" := by
    obtain ⟨os, gs, cs, _⟩ := id hs
    exact ⟨os, gs, cs⟩
  unfold getItem
  try with_reducible refine wpAny_holding ?_
  first | refine wpAny_bind (wpAny_pure ?_) | skip
  refine wpAny_bind ?_
  refine wpAny_sequenceKey ht.typeIs (by decide) ?_
  refine wpAny_bind ?_
  refine wpAny_callSpecial?_slot (name := Str.ofString "__getitem__") ht.typeIs PyProof.Rows.slot_tuple_getitem ?_
  refine wpAny_call_entry PyProof.Rows.slot_tuple_getitem ht.typeIs entry_tuple_getitem ?_ (args_tuple_getitem _ _)
  show wpAny _ _ (Builtin.Tuple.tupleItemsOf (.ref t) >>= _) _ _ s
  refine wpAny_bind ?_
  refine tupleItemsOf_ ht ?_
  refine wpAny_bind ?_
  refine wpAny_typeOf hTs ?_
  rw [if_pos (by decide)]
  refine wpAny_bind ?_
  refine rev_parts hs pk ?_
  have no : ¬ ((((its.size : Nat) : Int) - 1 == 0 && (-1 : Int) == 1 && its.size == its.size) = true) := by
    simp
  show wpAny _ _ (if (((its.size : Nat) : Int) - 1 == 0 && (-1 : Int) == 1 && its.size == its.size) = true then _ else _) _ _ s
  rw [if_neg no, rev_pick]
  first
    | exact wpAny_bind (m := Builtin.Tuple.tupleExact _) (wpAny_newObj_type (wpAny_pure ⟨_, rfl, wpAny_pure h⟩) fits)
    | exact wpAny_bind (wpAny_bind (m := Builtin.Tuple.tupleExact _) (wpAny_newObj_type (wpAny_pure ⟨_, rfl, wpAny_pure h⟩) fits))
end
section
variable {X : Cx} {Z : Fx} {own : List Nat} {W : WX} {e : Expr} {te : TE} {k : Nat} {p1 p2 p3 pos : Pos}
def tRev (K : PySem.W.Frag) (te : TE) : TE := fun σ H Q => te σ H fun x H1 => ∃ a xs, x = .ref a ∧ ((SqL K H1 a xs ∧ ∀ p, H1 p = none → Q (.ref p) (upd H1 p (.lst xs.reverse))) ∨ (SqT K H1 a xs ∧ ∀ p, H1 p = none → Q (.ref p) (upd H1 p (.tup xs.reverse))))
theorem pe_rev (he : PE X e te) : PE X (.Subscript e (.Slice none none (some (.UnaryOp .USub (.Constant (.int 1) k p1) p2)) p3) pos) (tRev X.K te) := by
  refine ⟨fun pins s σ H Q I h => ?_⟩
  refine Subscript_ ?_
  refine thn (he.run pins s σ H _ I h) ?_
  rintro v s1 ⟨x, H1, I1, r1, q1⟩
  obtain ⟨a, xs, ex, q⟩ := q1
  subst ex
  cases r1
  have st1 : PO X (some (.UnaryOp .USub (.Constant (.int 1) k p1) p2)) (tPart (tUn (rU fun i => .int (-i)) (tC (.int 1)))) := po_some (pe_un un_neg pe_int)
  refine wpAny_Slice ?_
  refine thn (po_none.run pins s1 σ H1 (fun o H2 => o = none ∧ H2 = H1) I1 ⟨rfl, rfl⟩) ?_
  rintro vl s2 ⟨l, H2, I2, pl, el, e2⟩
  subst el e2
  refine thn (po_none.run pins s2 σ H2 (fun o H3 => o = none ∧ H3 = H2) I2 ⟨rfl, rfl⟩) ?_
  rintro vu s3 ⟨u, H3, I3, pu, eu, e3⟩
  subst eu e3
  refine thn (st1.run pins s3 σ H3 (fun o H4 => o = some (-1) ∧ H4 = H3) I3 ⟨1, rfl, -1, rfl, rfl, rfl⟩) ?_
  rintro vs s4 ⟨o, H4, I4, ps, eo, e4⟩
  subst eo e4
  cases pl
  cases pu
  have I5 : Inv X pins σ H4 { s4 with heap := s4.heap.push { cls := .type "slice", data := .fields #[.none, .none, vs] } } := I4.kept (t' := s4.toks) fun b ob q => Heap.get?_push_of_some _ q
  show wpAny (model X.prog X.w) X.A (subscriptTail e (.Slice none none (some (.UnaryOp .USub (.Constant (.int 1) k p1) p2)) p3) (.ref a) (.ref s4.heap.objs.size)) (EP X pins σ Q) X.xe { s4 with heap := s4.heap.push { cls := .type "slice", data := .fields #[.none, .none, vs] } }
  have hS := Heap.IsSliceOf.new s4.heap .none .none vs
  rcases q with ⟨hx, q⟩ | ⟨hx, q⟩
  · obtain ⟨its, r, ht, hz⟩ := I5.list hx
    have hlen := r.length
    refine tail_any (ops := [.ref a, .ref s4.heap.objs.size]) ht.isList.typeIs (PySem.slot_list_getitem.lookup) ?_ (by with_unfolding_all rfl)
    refine wpAny_getItem_list_slice ht.isList hS .none .none ps (by decide) ?_ (by rw [List.size_toArray]; omega)
    rw [PySem.W.krv_pick]
    refine ⟨.ref _, _, I5.laid (t' := s4.toks) (o := .lst xs.reverse) (fun b ob q => Heap.get?_push_of_some _ q) (Nat.le_refl _) ?_, rfl, q _ (I5.hok.fresh (Nat.le_refl _))⟩
    exact ⟨by simpa using hz, _, 0, r.reverse, Heap.get?_push_size _ rfl⟩
  · obtain ⟨its, r, ht, hz⟩ := I5.tuple hx
    have hlen := r.length
    refine tail_any (ops := [.ref a, .ref s4.heap.objs.size]) ht.typeIs (PyProof.Rows.slot_tuple_getitem.lookup) ?_ (by with_unfolding_all rfl)
    refine rev_tup ht hS ps ?_ (by rw [List.size_toArray]; omega)
    refine ⟨.ref _, _, I5.laid (t' := s4.toks) (o := .tup xs.reverse) (fun b ob q => Heap.get?_push_of_some _ q) (Nat.le_refl _) ?_, rfl, q _ (I5.hok.fresh (Nat.le_refl _))⟩
    exact ⟨by simpa using hz, _, r.reverse, IsTup.new _ _⟩
def revD : D → R D
  | .lst xs => .ok (.lst xs.reverse)
  | .tup xs => .ok (.tup xs.reverse)
  | _ => .stuck
def fRev (f : FE) : FE := fun ρ => (f ρ).bind revD
theorem RepL.rev {K : PySem.W.Frag} {mg : Str → Option Value} {H : Hp} {A : Addr → Prop} : ∀ {ds : List D} {vs : List V}, RepL K mg H A ds vs → RepL K mg H A ds.reverse vs.reverse
  | [], _, .nil => .nil
  | d :: ds, v :: vs, .cons r rs => by
    rw [List.reverse_cons, List.reverse_cons]
    exact (RepL.rev rs).append (.cons r .nil)
theorem d_rev {f : FE} (he : DR X Z own W e f) : DF X Z own W (.Subscript e (.Slice none none (some (.UnaryOp .USub (.Constant (.int 1) k p1) p2)) p3) pos) (fRev f) :=
  PE_imp (pe_rev he) fun σ H Q ⟨α, ρ, E, q⟩ => by
    refine (g_R (laterF X.K X.mg (AA Z.Ao α) Q) E q.g).imp fun v H1 ⟨d, e1, s1, r1, E1, q1⟩ => ?_
    cases d with
    | lst xs =>
      obtain ⟨l, vs, rfl, g, rl⟩ := r1.lst
      have q1 : FQ X.K X.mg (AA Z.Ao α) H1 (.lst xs.reverse) Q := q1
      exact ⟨l, vs, rfl, .inl ⟨SqL.of g, fun p n => q1.newLst rl.rev n⟩⟩
    | tup xs =>
      obtain ⟨l, vs, rfl, g, rl⟩ := r1.tup
      have q1 : FQ X.K X.mg (AA Z.Ao α) H1 (.tup xs.reverse) Q := q1
      exact ⟨l, vs, rfl, .inr ⟨g, fun p n => q1.newTup rl.rev (fun p n => E1.nA n) n⟩⟩
    | _ => exact q1.elim
/-! ### xs.index(y) -/
def lidx (ps : List PyData) (p : PyData) : Option Nat := ps.findIdx? fun z => PyData.eqv z p
def lidxD (xs : List D) (y : D) : R D := match toPyL xs, toPy y with
  | some ps, some p => if (SeqAt.shaped (.list ps) && SeqAt.shaped p) = true then (match lidx ps p with
    | some j => .ok (.int (j : Nat))
    | none => .stuck) else .stuck
  | _, _ => .stuck
def fLidx (fo fe : FE) : FE := fun ρ => (fo ρ).bind fun x => (asLst x).bind fun xs => (fe ρ).bind fun y => lidxD xs y
theorem lidx_at {ps : List PyData} {p : PyData} {j : Nat} (h : lidx ps p = some j) : ∃ z, ps[j]? = some z ∧ PyData.eqv z p = true ∧ ∀ (m : Nat) (z' : PyData), m < j → ps[m]? = some z' → PyData.eqv z' p = false := by
  unfold lidx at h
  obtain ⟨hj, h1, h2⟩ := List.findIdx?_eq_some_iff_getElem.mp h
  refine ⟨ps[j], List.getElem?_eq_getElem hj, h1, fun m z' hm e => ?_⟩
  obtain ⟨hm', rfl⟩ := List.getElem?_eq_some_iff.mp e
  simpa using h2 m hm
theorem d_lidx {o : Expr} {fo fe : FE} {apos cpos : Pos} (hu : X.A.units + 65 < cLine) (ho : DR X Z own W o fo) (he : DR X Z own W e fe)
    (hbase : attributeBase o "index" X.env (eval o X.env) = eval o X.env := by rfl) (hline : (apos.endLine == cpos.line) = true := by rfl) (hs1 : starEach [e] X.env = (false, eval e X.env) :: starEach [] X.env := by rfl)
    (hfew : ((backTo cpos (starEach [e] X.env)).all (fun x => !x.1) && (backToKw cpos (keywordEach [] X.env)).all (fun x => x.1.isSome) && decide ([e].length + ([] : List Keyword).length + (if ([] : List Keyword).isEmpty then 0 else 1) < 30)) = true := by rfl) :
    DF X Z own W (.Call (.Attribute o "index" apos) [e] [] cpos) (fLidx fo fe) :=
  PE_imp (pe_bm PySem.F.plainAttrs_list PySem.F.slot_list_index PySem.F.type_list_index (mt_indexD hu) ho (pa_cons he pa_nil hs1) hbase hfew hline hs1 rfl) fun σ H Q ⟨α, ρ, E, q⟩ => by
    refine (g_R (laterF X.K X.mg (AA Z.Ao α) Q) E (k := fun x => (asLst x).bind fun xs => (fe ρ).bind fun y => lidxD xs y) q.g).imp fun v H1 ⟨d, e1, s1, r1, E1, q1⟩ => ?_
    cases d with
    | lst xs =>
      obtain ⟨l, vs, rfl, g, rl⟩ := r1.lst
      refine ⟨.inl ⟨rfl, vs, SqL.of g⟩, ?_⟩
      refine (g_R (laterF X.K X.mg (AA Z.Ao α) Q) E1 (k := fun y => lidxD xs y) q1).imp fun u H2 ⟨d2, e2, s2, r2, E2, q2⟩ => ?_
      unfold lidxD at q2
      cases h1 : toPyL xs with
      | none => rw [h1] at q2; exact q2.elim
      | some ps =>
        cases h2 : toPy d2 with
        | none => rw [h1, h2] at q2; exact q2.elim
        | some p =>
          rw [h1, h2] at q2
          simp only at q2
          by_cases hk : (SeqAt.shaped (.list ps) && SeqAt.shaped p) = true
          · rw [if_pos hk] at q2
            rw [Bool.and_eq_true] at hk
            cases hj : lidx ps p with
            | none => rw [hj] at q2; exact q2.elim
            | some j =>
              rw [hj] at q2
              have q2 : FQ X.K X.mg (AA Z.Ao α) H2 (.int (j : Nat)) Q := q2
              obtain ⟨z, z1, z2, z3⟩ := lidx_at hj
              exact ⟨l, u, p, ps, j, z, rfl, rfl, .lst (SqL.of (s2 _ _ g)) (dpL_of (rl.same s2) h1), dpT_of r2 h2, hk.1, hk.2, z1, z2, z3, q2.imp (Same.refl H2) rfl (.int _)⟩
          · rw [if_neg hk] at q2; exact q2.elim
    | _ => exact q1.elim
end
/-! ### xs.append(ys.pop(k)), both lists of ours -/
def popL (ys : List D) (k : D) : R (D × List D) := match k with
  | .int i => match ixN ys.length i with
    | some j => match ys[j]? with
      | some z => .ok (z, ys.eraseIdx j)
      | none => .stuck
    | none => .stuck
  | _ => .stuck
theorem popL_at {ys : List D} {k : D} {zr : D × List D} (h : popL ys k = .ok zr) : ∃ i j, k = .int i ∧ ixN ys.length i = some j ∧ ys[j]? = some zr.1 ∧ zr.2 = ys.eraseIdx j := by
  cases k with
  | int i =>
    simp only [popL] at h
    cases hj : ixN ys.length i with
    | none => rw [hj] at h; cases h
    | some j =>
      rw [hj] at h
      simp only at h
      cases hz : ys[j]? with
      | none => rw [hz] at h; cases h
      | some z =>
        rw [hz] at h
        cases h
        exact ⟨i, j, rfl, hj, hz, rfl⟩
  | _ => cases h
theorem popL_nr {ys : List D} {k : D} {c : Str} : popL ys k ≠ .raise c := fun h => by
  unfold popL at h
  split at h
  · split at h
    · split at h <;> cases h
    · cases h
  · cases h
def fAppPop (i j : Nat) (fk : FE) : FS := fun ρ => toS ((fVar i ρ).bind fun x => (asLst x).bind fun xs => (fVar j ρ).bind fun y => (asLst y).bind fun ys => (fk ρ).bind fun k => (popL ys k).bind fun zr => if xs.length < 16777216 ∧ ys.length < 16777216 then .ok (xs ++ [zr.1], zr.2) else .stuck) ρ
  fun b => .nx ((ρ.set j (some (.lst b.2))).set i (some (.lst b.1)))
section
variable {X : Cx} {Z : Fx} {own lk : List Nat} {W : WX} {e : Expr} {pos pos' pos2 : Pos}
theorem ds_appPop (i j : Nat) {x y : Str} {p p2 apos apos2 : Pos} {fk : FE} (he : DR X Z own W e fk) (hij : i ≠ j := by decide) (hi : i ∈ own := by decide) (hl : i ∉ lk := by decide) (hj : j ∈ own := by decide) (hlj : j ∉ lk := by decide) (hN : X.N[i]? = some x := by rfl) (hN2 : X.N[j]? = some y := by rfl)
    (hv : Vis X.env.scope x := by first | exact Or.inl rfl | exact Or.inr (Or.inl rfl) | exact Or.inr (Or.inr rfl)) (hv2 : Vis X.env.scope y := by first | exact Or.inl rfl | exact Or.inr (Or.inl rfl) | exact Or.inr (Or.inr rfl)) (hd : (x == ("__debug__" : Str)) = false := by decide) (hd2 : (y == ("__debug__" : Str)) = false := by decide)
    (hcd : (x == ("__classdict__" : Str)) = false := by decide) (hcd2 : (y == ("__classdict__" : Str)) = false := by decide) (hline : (apos.endLine == pos'.line) = true := by rfl) (hline2 : (apos2.endLine == pos2.line) = true := by rfl)
    (hs0 : starEach [e] X.env = (false, eval e X.env) :: starEach [] X.env := by rfl)
    (hs1 : starEach [.Call (.Attribute (.Name y p2) "pop" apos2) [e] [] pos2] X.env = (false, eval (.Call (.Attribute (.Name y p2) "pop" apos2) [e] [] pos2) X.env) :: starEach [] X.env := by rfl)
    (hfew0 : ((backTo pos2 (starEach [e] X.env)).all (fun x => !x.1) && (backToKw pos2 (keywordEach [] X.env)).all (fun x => x.1.isSome) && decide ([e].length + ([] : List Keyword).length + (if ([] : List Keyword).isEmpty then 0 else 1) < 30)) = true := by rfl)
    (hfew : ((backTo pos' (starEach [.Call (.Attribute (.Name y p2) "pop" apos2) [e] [] pos2] X.env)).all (fun x => !x.1) && (backToKw pos' (keywordEach [] X.env)).all (fun x => x.1.isSome) && decide (([.Call (.Attribute (.Name y p2) "pop" apos2) [e] [] pos2] : List Expr).length + ([] : List Keyword).length + (if ([] : List Keyword).isEmpty then 0 else 1) < 30)) = true := by rfl)
    (hs : swapsWith (.Call (.Attribute (.Name x p) "append" apos) [.Call (.Attribute (.Name y p2) "pop" apos2) [e] [] pos2] [] pos') none pos.line X.env = pure false := by rfl) :
    DS X Z own lk W (.Expr (.Call (.Attribute (.Name x p) "append" apos) [.Call (.Attribute (.Name y p2) "pop" apos2) [e] [] pos2] [] pos') pos) (fAppPop i j fk) :=
  PS_imp (ps_expr (pe_bm PySem.F.plainAttrs_list PySem.F.slot_list_append PySem.F.type_list_append mt_append (pe_var hN hv hd hcd)
    (pa_cons (pe_bm PySem.F.plainAttrs_list PySem.F.slot_list_pop PySem.F.type_list_pop mt_popAt (pe_var hN2 hv2 hd2 hcd2) (pa_cons he pa_nil hs0) rfl hfew0 hline2 hs0 rfl) pa_nil hs1) rfl hfew hline hs1 rfl) hs) fun D σ H ⟨α, ρ, E, q⟩ => by
    obtain ⟨xs, hx, q⟩ := var_lst (toS_pd E q)
    obtain ⟨ys, hy, q⟩ := var_lst q
    obtain ⟨l, vs, h1, h2, h3, h4⟩ := E.lstAt hi hx
    obtain ⟨m, ws, g1, g2, g3, g4⟩ := E.lstAt hj hy
    have lm : l ≠ m := fun z => hij (E.inj i j l h1 (by rw [z]; exact g1))
    refine ⟨.ref l, h2, .inl ⟨rfl, vs, SqL.of h3⟩, ?_⟩
    refine ⟨.ref m, g2, .inl ⟨rfl, ws, SqL.of g3⟩, ?_⟩
    refine (g_R PD.later E (k := fun k => (popL ys k).bind fun zr => if xs.length < 16777216 ∧ ys.length < 16777216 then .ok (xs ++ [zr.1], zr.2) else .stuck) q).imp fun u H1 ⟨d, e1, s1, r1, E1, q1⟩ => ?_
    cases hp : popL ys d with
    | raise c => exact absurd hp popL_nr
    | stuck => rw [hp] at q1; exact q1.elim
    | ok zr =>
      rw [hp] at q1
      have q1 : RSt X.mg W σ H1 (if xs.length < 16777216 ∧ ys.length < 16777216 then R.ok (xs ++ [zr.1], zr.2) else .stuck) (PD X.K X.mg Z own lk W α (fun b : List Sh.D × List Sh.D => .nx ((ρ.set j (some (.lst b.2))).set i (some (.lst b.1)))) D H1) := q1
      by_cases hlen : xs.length < 16777216 ∧ ys.length < 16777216
      · rw [if_pos hlen] at q1
        have q1 : PD X.K X.mg Z own lk W α (fun b : List Sh.D × List Sh.D => .nx ((ρ.set j (some (.lst b.2))).set i (some (.lst b.1)))) D H1 (xs ++ [zr.1], zr.2) := q1
        obtain ⟨n, k, rfl, hk, hz, hr⟩ := popL_at hp
        cases r1.int
        obtain ⟨w, hw, rw'⟩ := (g4.same s1).get hz
        have hkl : ixN ws.length n = some k := by rw [← (g4.same s1).len]; exact hk
        obtain ⟨sq, sk, sn, sm⟩ := ixN_seq hkl
        have big : (ws.length : Int) ≤ 2 ^ 62 := by
          have := (g4.same s1).len
          omega
        obtain ⟨E2, P2⟩ := E1.updL (lk := lk) hj hlj g1 (s1 _ _ g3) g2 ((g4.same s1).eraseIdx k)
        refine ⟨m, ws, n, k, w, rfl, rfl, s1 _ _ g3, by omega, by omega, sq, hw, ?_⟩
        have M := P2.mv
        have rz : RepV X.K X.mg (upd H1 m (.lst (ws.eraseIdx k))) (AA Z.Ao α) zr.1 w := rw'.mv M
        have rx : RepL X.K X.mg (upd H1 m (.lst (ws.eraseIdx k))) (AA Z.Ao α) xs vs := (h4.same s1).mv M
        have h3' : upd H1 m (.lst (ws.eraseIdx k)) l = some (.lst vs) := by rw [upd_ne lm]; exact s1 _ _ h3
        refine ⟨l, vs, w, rfl, rfl, h3', by rw [sl_eq, ← h4.len]; exact hlen.1, ?_⟩
        obtain ⟨E3, P3⟩ := E2.updL (lk := lk) hi hl h1 h3' h2 (rx.append (.cons rz .nil))
        rw [hr] at q1
        exact q1.2 _ _ _ E3 (P2.trans P3)
      · rw [if_neg hlen] at q1; exact q1.elim
end
end Sh

namespace Sh
open PySem PySem.Spec PyProof.Rows L2
/-! ### texts: join, split, int -/
def asStr : D → R Str
  | .str x => .ok x
  | _ => .stuck
def strsOf : List D → Option (List Str)
  | [] => some []
  | .str x :: r => (strsOf r).map (x :: ·)
  | _ => none
theorem strsOf_at : ∀ {ds : List D} {xs : List Str}, strsOf ds = some xs → ds = xs.map D.str
  | [], xs, e => by simp only [strsOf] at e; cases e; rfl
  | .str x :: r, xs, e => by
    simp only [strsOf] at e
    cases h : strsOf r with
    | none => rw [h] at e; cases e
    | some ys => rw [h] at e; cases e; rw [List.map_cons, ← strsOf_at h]
  | .non :: _, _, e | .bl _ :: _, _, e | .int _ :: _, _, e | .tup _ :: _, _, e | .lst _ :: _, _, e | .scr _ :: _, _, e | .dct _ _ :: _, _, e | .iset _ :: _, _, e | .fn _ :: _, _, e | .exc _ :: _, _, e => by simp only [strsOf] at e; cases e
theorem strsOf_map (xs : List Str) : strsOf (xs.map D.str) = some xs := by
  induction xs with
  | nil => rfl
  | cons x r ih => simp only [List.map_cons, strsOf, ih, Option.map_some]
section
variable {K : PySem.W.Frag} {mg : Str → Option Value} {H : Hp} {A : Addr → Prop}
theorem RepL.of_strs : ∀ (xs : List Str), RepL K mg H A (xs.map D.str) (xs.map V.str)
  | [] => .nil
  | x :: r => .cons (.str x) (RepL.of_strs r)
theorem RepL.strs : ∀ {xs : List Str} {vs : List V}, RepL K mg H A (xs.map D.str) vs → vs = xs.map V.str
  | [], _, .nil => rfl
  | x :: r, _, .cons (v := v) (vs := vs) h t => by
    cases h
    rw [List.map_cons, RepL.strs t]
end
def joinD (a : Str) (d : D) : R D := match d with
  | .lst ds => match strsOf ds with
    | some ys => if (ys.map (·.length)).sum + ys.length * a.length ≤ 16777216 then .ok (.str (Txt.join a ys)) else .stuck
    | none => .stuck
  | .tup ds => match strsOf ds with
    | some ys => if (ys.map (·.length)).sum + ys.length * a.length ≤ 16777216 then .ok (.str (Txt.join a ys)) else .stuck
    | none => .stuck
  | _ => .stuck
def fJoin (fo fe : FE) : FE := fun ρ => (fo ρ).bind fun x => (asStr x).bind fun a => (fe ρ).bind fun y => joinD a y
def splitD (a : Str) (d : D) : R D := match d with
  | .str b => if (b.length == 0) = false ∧ a.length + 2 ≤ 16777216 then .ok (.lst ((Txt.split a b).map D.str)) else .stuck
  | _ => .stuck
def fSplit (fo fe : FE) : FE := fun ρ => (fo ρ).bind fun x => (asStr x).bind fun a => (fe ρ).bind fun y => splitD a y
def intSD : List D → R D
  | [.str a] => match PySem.intText? a with
    | some n => if a.length ≤ 640 then .ok (.int n) else .stuck
    | none => .stuck
  | _ => .stuck
section
variable {X : Cx} {Z : Fx} {own : List Nat} {W : WX} {o e : Expr} {fo fe : FE} {apos pos : Pos}
theorem d_join (ho : DR X Z own W o fo) (he : DR X Z own W e fe) (hs : starEach [e] X.env = [(false, eval e X.env)] := by rfl) (hbase : attributeBase o "join" X.env (eval o X.env) = eval o X.env := by rfl) (hline : (apos.endLine == pos.line) = true := by rfl) :
    DF X Z own W (.Call (.Attribute o "join" apos) [e] [] pos) (fJoin fo fe) :=
  PE_imp (pe_m1 PySem.F.slot_str_join PySem.F.type_str_join mt_join ho he hs hbase hline) fun σ H Q ⟨α, ρ, E, q⟩ => by
    refine (g_R (laterF X.K X.mg (AA Z.Ao α) Q) E (k := fun x => (asStr x).bind fun a => (fe ρ).bind fun y => joinD a y) q.g).imp fun v H1 ⟨d, e1, s1, r1, E1, q1⟩ => ?_
    cases d with
    | str a =>
      cases r1.str
      refine ⟨⟨a, rfl⟩, ?_⟩
      refine (g_R (laterF X.K X.mg (AA Z.Ao α) Q) E1 (k := fun y => joinD a y) q1).imp fun u H2 ⟨d2, e2, s2, r2, E2, q2⟩ => ?_
      cases d2 with
      | lst ds =>
        simp only [joinD] at q2
        cases hs : strsOf ds with
        | none => rw [hs] at q2; exact q2.elim
        | some ys =>
          rw [hs] at q2
          simp only at q2
          split at q2
          · rename_i hz
            have q2 : FQ X.K X.mg (AA Z.Ao α) H2 (.str (Txt.join a ys)) Q := q2
            obtain ⟨l, vs, rfl, g, rl⟩ := r2.lst
            cases strsOf_at hs
            exact ⟨a, l, ys, rfl, rfl, .inl (by rw [← rl.strs]; exact SqL.of g), hz, q2.imp (Same.refl H2) rfl (.str _)⟩
          · exact q2.elim
      | tup ds =>
        simp only [joinD] at q2
        cases hs : strsOf ds with
        | none => rw [hs] at q2; exact q2.elim
        | some ys =>
          rw [hs] at q2
          simp only at q2
          split at q2
          · rename_i hz
            have q2 : FQ X.K X.mg (AA Z.Ao α) H2 (.str (Txt.join a ys)) Q := q2
            obtain ⟨l, vs, rfl, g, rl⟩ := r2.tup
            cases strsOf_at hs
            exact ⟨a, l, ys, rfl, rfl, .inr (by rw [← rl.strs]; exact g), hz, q2.imp (Same.refl H2) rfl (.str _)⟩
          · exact q2.elim
      | _ => exact q2.elim
    | _ => exact q1.elim
theorem d_split (ho : DR X Z own W o fo) (he : DR X Z own W e fe) (hs : starEach [e] X.env = [(false, eval e X.env)] := by rfl) (hbase : attributeBase o "split" X.env (eval o X.env) = eval o X.env := by rfl) (hline : (apos.endLine == pos.line) = true := by rfl) :
    DF X Z own W (.Call (.Attribute o "split" apos) [e] [] pos) (fSplit fo fe) :=
  PE_imp (pe_m1 PySem.F.slot_str_split PySem.F.type_str_split mt_split ho he hs hbase hline) fun σ H Q ⟨α, ρ, E, q⟩ => by
    refine (g_R (laterF X.K X.mg (AA Z.Ao α) Q) E (k := fun x => (asStr x).bind fun a => (fe ρ).bind fun y => splitD a y) q.g).imp fun v H1 ⟨d, e1, s1, r1, E1, q1⟩ => ?_
    cases d with
    | str a =>
      cases r1.str
      refine ⟨⟨a, rfl⟩, ?_⟩
      refine (g_R (laterF X.K X.mg (AA Z.Ao α) Q) E1 (k := fun y => splitD a y) q1).imp fun u H2 ⟨d2, e2, s2, r2, E2, q2⟩ => ?_
      cases d2 with
      | str b =>
        cases r2.str
        unfold splitD at q2
        simp only at q2
        split at q2
        · rename_i hz
          have q2 : FQ X.K X.mg (AA Z.Ao α) H2 (.lst ((Txt.split a b).map Sh.D.str)) Q := q2
          exact ⟨a, b, rfl, rfl, hz.1, by rw [sizeLine_eq]; exact hz.2, fun p n => q2.newLst (RepL.of_strs _) n⟩
        · exact q2.elim
      | _ => exact q2.elim
    | _ => exact q1.elim
theorem cd_intS : CallD X (.type "int") intSD := by
  intro pins s σ H xs us Q I r ⟨A, ds, d, hA, rt, e, q⟩
  unfold intSD at e
  split at e
  · rename_i a
    cases hn : PySem.intText? a with
    | none => rw [hn] at e; cases e
    | some n =>
      rw [hn] at e
      simp only at e
      split at e
      · rename_i hl
        cases e
        obtain ⟨v, rfl, h⟩ := rt.one
        cases h.str
        exact call_int_str pins s σ H _ us Q I r ⟨a, n, rfl, hn, hl, q.imp (Same.refl H) rfl (.int _)⟩
      · cases e
  · cases e
theorem nr_intS : NoR intSD := fun xs c z => by
  unfold intSD at z
  split at z
  · split at z
    · split at z <;> cases z
    · cases z
  · cases z
end
section
variable (ρ : Rho)
@[simp] theorem fJoin_eq (fo fe : FE) : fJoin fo fe ρ = (fo ρ).bind fun x => (asStr x).bind fun a => (fe ρ).bind fun y => joinD a y := (rfl)
@[simp] theorem fSplit_eq (fo fe : FE) : fSplit fo fe ρ = (fo ρ).bind fun x => (asStr x).bind fun a => (fe ρ).bind fun y => splitD a y := (rfl)
@[simp] theorem asStr_str (x : Str) : asStr (.str x) = .ok x := (rfl)
end
theorem joinD_lst {a : Str} {ys : List Str} (h : (ys.map (·.length)).sum + ys.length * a.length ≤ 9999) : joinD a (.lst (ys.map D.str)) = .ok (.str (Txt.join a ys)) := by
  show (match strsOf (ys.map D.str) with
    | some zs => if (zs.map (fun z : Str => z.length)).sum + zs.length * a.length ≤ 16777216 then (R.ok (D.str (Txt.join a zs)) : R D) else .stuck
    | none => .stuck) = _
  rw [strsOf_map]
  simp only
  rw [if_pos (Nat.le_trans h (of_decide_eq_true rfl))]
theorem splitD_str {a b : Str} (hb : (b.length == 0) = false) (h : a.length ≤ 9999) : splitD a (.str b) = .ok (.lst ((Txt.split a b).map D.str)) := by
  show (if (b.length == 0) = false ∧ a.length + 2 ≤ 16777216 then (R.ok (D.lst ((Txt.split a b).map D.str)) : R D) else .stuck) = _
  rw [if_pos ⟨hb, Nat.le_trans (Nat.add_le_add_right h 2) (of_decide_eq_true rfl)⟩]
end Sh

namespace Sh
open PySem PySem.Spec PyProof.Rows L2
/-! ### x is True, x is None: x may be anything -/
def isBlD : D → Bool → Bool
  | .bl a, b => decide (a = b)
  | _, _ => false
def isXD : D → D → R D
  | a, .non => .ok (.bl (isNonD a))
  | a, .bl b => .ok (.bl (isBlD a b))
  | _, _ => .stuck
def isNotXD : D → D → R D
  | a, .non => .ok (.bl (!isNonD a))
  | a, .bl b => .ok (.bl (!isBlD a b))
  | _, _ => .stuck
theorem nr_isX : NoR2 isXD := fun x y c z => by unfold isXD at z; split at z <;> cases z
theorem nr_isnotX : NoR2 isNotXD := fun x y c z => by unfold isNotXD at z; split at z <;> cases z
@[simp] theorem isX_non (d : D) : isXD d .non = .ok (.bl (isNonD d)) := by cases d <;> rfl
@[simp] theorem isnotX_non (d : D) : isNotXD d .non = .ok (.bl (!isNonD d)) := by cases d <;> rfl
@[simp] theorem isX_bl (d : D) (b : Bool) : isXD d (.bl b) = .ok (.bl (isBlD d b)) := by cases d <;> rfl
@[simp] theorem isnotX_bl (d : D) (b : Bool) : isNotXD d (.bl b) = .ok (.bl (!isBlD d b)) := by cases d <;> rfl
@[simp] theorem isBl_bl (a b : Bool) : isBlD (.bl a) b = decide (a = b) := rfl
@[simp] theorem isBl_tup (xs : List D) (b : Bool) : isBlD (.tup xs) b = false := rfl
@[simp] theorem isBl_lst (xs : List D) (b : Bool) : isBlD (.lst xs) b = false := rfl
@[simp] theorem isBl_int (x : Int) (b : Bool) : isBlD (.int x) b = false := rfl
@[simp] theorem isBl_str (x : Str) (b : Bool) : isBlD (.str x) b = false := rfl
@[simp] theorem isBl_non (b : Bool) : isBlD .non b = false := rfl
section
variable {X : Cx}
theorem op_isB : OpR X (compareOp .Is) (fun x y H Q => ∃ b, y = .bl b ∧ Q (.bl (decide (x = .bl b))) H) := by
  intro pins s σ H x y v u Q I rx ry h
  obtain ⟨b, rfl, q⟩ := h
  cases (show u = Value.bool b from ry)
  by_cases e : x = .bl b
  · subst e
    cases (show v = Value.bool b from rx)
    exact wpAny_is_self rfl ⟨.bl true, H, I, rfl, by simpa using q⟩
  · refine wpAny_is_other ?_ ?_ ⟨.bl false, H, I, rfl, by simpa [e] using q⟩
    · cases x <;> first
        | (cases rx; rfl)
        | (obtain ⟨t, rfl⟩ := rx; rfl)
    · cases x <;> first
        | (cases (show v = Value.bool _ from rx); intro z; cases z; exact e rfl)
        | (obtain ⟨t, rfl⟩ := rx; intro z; cases z; done)
        | (cases rx; intro z; cases z; done)
theorem op_notB : OpR X (compareOp .IsNot) (fun x y H Q => ∃ b, y = .bl b ∧ Q (.bl (!decide (x = .bl b))) H) := by
  intro pins s σ H x y v u Q I rx ry h
  obtain ⟨b, rfl, q⟩ := h
  cases (show u = Value.bool b from ry)
  by_cases e : x = .bl b
  · subst e
    cases (show v = Value.bool b from rx)
    exact wpAny_isNot_self rfl ⟨.bl false, H, I, rfl, by simpa using q⟩
  · refine wpAny_isNot_other ?_ ?_ ⟨.bl true, H, I, rfl, by simpa [e] using q⟩
    · cases x <;> first
        | (cases rx; rfl)
        | (obtain ⟨t, rfl⟩ := rx; rfl)
    · cases x <;> first
        | (cases (show v = Value.bool _ from rx); intro z; cases z; exact e rfl)
        | (obtain ⟨t, rfl⟩ := rx; intro z; cases z; done)
        | (cases rx; intro z; cases z; done)
theorem RepT.isBl {K : PySem.W.Frag} {mg : Str → Option Value} {H : Hp} {A : Addr → Prop} {d : D} {v : V} (r : RepT K mg H A d v) (b : Bool) : decide (v = .bl b) = isBlD d b := by
  rcases r with r | ⟨a, rfl, r⟩
  · cases r <;> simp [isBlD]
  · cases d <;> first | rfl | exact r.elim
theorem od_isX : OpD X (compareOp .Is) isXD := by
  intro pins s σ H x y v u Q I rx ry ⟨A, dx, dy, d, hA, h1, h2, e, q⟩
  unfold isXD at e
  split at e
  · cases e; cases h2.non
    refine op_isN pins s σ H _ _ v u Q I rx ry ⟨rfl, ?_⟩
    rw [h1.isNon]
    exact q.imp (Same.refl H) rfl (.bl _)
  · cases e; cases h2.bl
    refine op_isB pins s σ H _ _ v u Q I rx ry ⟨_, rfl, ?_⟩
    rw [h1.isBl]
    exact q.imp (Same.refl H) rfl (.bl _)
  · cases e
theorem od_isnotX : OpD X (compareOp .IsNot) isNotXD := by
  intro pins s σ H x y v u Q I rx ry ⟨A, dx, dy, d, hA, h1, h2, e, q⟩
  unfold isNotXD at e
  split at e
  · cases e; cases h2.non
    refine op_notN pins s σ H _ _ v u Q I rx ry ⟨rfl, ?_⟩
    rw [h1.isNon]
    exact q.imp (Same.refl H) rfl (.bl _)
  · cases e; cases h2.bl
    refine op_notB pins s σ H _ _ v u Q I rx ry ⟨_, rfl, ?_⟩
    rw [h1.isBl]
    exact q.imp (Same.refl H) rfl (.bl _)
  · cases e
end
end Sh

namespace Sh
open PySem PySem.Spec PyProof.Rows L2
/-! ### min of a list of data that are alike -/
def minOk (ps : List PyData) : Bool := (ps.all fun p => ps.all fun q => PySem.W.alike p q) && ps.all fun p => (decide (p.depth ≤ 60) && match p with
  | .none => false
  | _ => true)
def ltD (a b : D) : Bool := PySem.W.dataLt (pyD a) (pyD b)
def minTD : List D → R D
  | x :: xs => match toPyL (x :: xs) with
    | some ps => if minOk ps && (x :: xs).all (fun d => !isBox d) then .ok (xs.foldl (fun a y => if ltD y a then y else a) x) else .stuck
    | none => .stuck
  | [] => .stuck
def minAD : List D → R D
  | [.lst xs] => match ltI xs with
    | some ns => minD [.lst xs]
    | none => minTD xs
  | _ => .stuck
section
variable {X : Cx}
theorem depAll {n : Nat} : ∀ {ps : List PyData}, (∀ p ∈ ps, p.depth ≤ n) → PyData.depthAll ps ≤ n
  | [], _ => Nat.zero_le _
  | p :: ps, h => by
    simp only [PyData.depthAll]
    exact Nat.max_le.mpr ⟨h p List.mem_cons_self, depAll fun q hq => h q (List.mem_cons_of_mem _ hq)⟩
theorem readsAll_of {pins : List (Addr × Obj)} {σ : St} {H : Hp} {s : Shared} (I : Inv X pins σ H s) : ∀ {ds : List D} {ps : List PyData} {vs : List V} {us : List Value} {A : Addr → Prop}, toPyL ds = some ps → RepL X.K X.mg H A ds vs → Vals vs us →
    ∃ as, ReadsAll s.heap us ps as
  | [], _, _, _, _, e, .nil, .nil => by simp only [toPyL] at e; cases e; exact ⟨_, .nil⟩
  | d :: ds, ps, _, _, _, e, .cons r rs, .cons u us => by
    simp only [toPyL] at e
    cases h : toPy d with
    | none => rw [h] at e; cases e
    | some p =>
      cases h2 : toPyL ds with
      | none => rw [h, h2] at e; cases e
      | some qs =>
        rw [h, h2] at e; cases e
        obtain ⟨as, ra⟩ := Dp.reads I p _ _ (dp_of r h) u
        obtain ⟨bs, rb⟩ := readsAll_of I h2 rs us
        exact ⟨_, .cons ra rb⟩
theorem repL_at {K : PySem.W.Frag} {mg : Str → Option Value} {H : Hp} {A : Addr → Prop} : ∀ {ds : List D} {vs : List V} {us : List Value} {i : Nat} {u : Value}, RepL K mg H A ds vs → Vals vs us → us[i]? = some u → ∃ v, RelV v u ∧ RepV K mg H A (ds.getD i .non) v
  | [], _, _, _, _, .nil, .nil, h => by simp at h
  | d :: ds, _, _, 0, u, .cons r rs, .cons q qs, h => by
    have e := Option.some.inj (show some _ = some u from h)
    subst e
    exact ⟨_, q, r⟩
  | d :: ds, _, _, i + 1, u, .cons r rs, .cons q qs, h => by
    obtain ⟨v, a, b⟩ := repL_at rs qs (i := i) (u := u) (by simpa using h)
    exact ⟨v, a, by simpa using b⟩
open PySem.Calls PySem.W PySem.SeqAt in
theorem min_list_at {prog : Program} {w : World} {A : Around} {E : Value → Shared → Prop} {s : Shared} {l : Addr} {vs : Array Value} {x : PyData} {xs : List PyData} {as : List Addr} {Q : Value → Shared → Prop} (hh : A.handled = none) (hl : s.heap.IsList l vs) (hr : ReadsAll s.heap vs.toList (x :: xs) as) (ha : AlikeAll (x :: xs)) (hu : A.units + 1 + PyData.depthAll (x :: xs) < cLine)
    (h : ∀ v h' tk, vs[argBest (fun i j => PySem.W.dataLt ((x :: xs).getD i .none) ((x :: xs).getD j .none)) xs.length]? = some v → (∀ b o, s.heap.get? b = some o → h'.get? b = some o) → Q v { s with heap := h', toks := tk }) :
    wpAny (model prog w) A (call (.builtin "min") [.ref l]) Q E s := by
  have hn : vs.size = xs.length + 1 := readsAll_len hr
  refine call_min_walkH (iter_listW (A := A.in1) hh hl fun s₂ e W st hfp hw hk => ?_)
  refine ⟨_, _, _, _, _, _, _, s.heap, _, rfl, W, st, hfp, by omega, hw, hk, cmpIn_lt (A := A.in1) hr ha (by show A.units + 1 + _ < _; exact hu), fun v s' hP m => ?_⟩
  obtain ⟨h', tk, rfl, hk'⟩ := moved_old e rfl m
  rw [show vs.size - 1 = xs.length by omega] at hP
  exact h v h' tk hP hk'
theorem pyD_non : pyD .non = .none := rfl
theorem getD_map (xs : List D) (i : Nat) : (xs.map pyD).getD i .none = pyD (xs.getD i .non) := by
  rw [List.getD_eq_getElem?_getD, List.getD_eq_getElem?_getD, List.getElem?_map]
  cases xs[i]? <;> rfl
theorem best_mem : ∀ (x : D) (xs : List D), xs.foldl (fun a y => if ltD y a then y else a) x ∈ x :: xs
  | x, [] => List.mem_cons_self
  | x, y :: ys => by
    rw [List.foldl_cons]
    have := best_mem (if ltD y x then y else x) ys
    rcases List.mem_cons.mp this with h | h
    · rw [h]
      split
      · exact List.mem_cons_of_mem _ List.mem_cons_self
      · exact List.mem_cons_self
    · exact List.mem_cons_of_mem _ (List.mem_cons_of_mem _ h)
theorem cd_minA (hu : X.A.units + 64 < cLine) (hc : X.calm = true) : CallD X (.builtin "min") minAD := by
  intro pins s σ H xs us Q I r ⟨A, ds, d, hA, rt, e, q⟩
  unfold minAD at e
  split at e
  · rename_i xs
    split at e
    · exact cd_min hc pins s σ H _ us Q I r ⟨A, _, d, hA, rt, e, q⟩
    · cases xs with
      | nil => cases e
      | cons x xs =>
        unfold minTD at e
        simp only at e
        split at e
        · rename_i ps hp
          split at e
          · rename_i ok
            cases e
            rw [Bool.and_eq_true] at ok
            obtain ⟨ok, nb⟩ := ok
            obtain ⟨v, rfl, h⟩ := rt.one
            obtain ⟨a, vs, rfl, g, rl⟩ := h.lst
            obtain ⟨u, rfl, ru⟩ := vals1 r
            cases ru
            obtain ⟨its, rv, p1, _⟩ := I.list (SqL.of g)
            obtain ⟨as, ra⟩ := readsAll_of I hp rl rv
            have em := toPyL_map hp
            rw [List.map_cons] at em
            subst em
            unfold minOk at ok
            simp only [Bool.and_eq_true, List.all_eq_true, decide_eq_true_eq] at ok
            have al : PySem.W.AlikeAll (pyD x :: xs.map pyD) := ⟨fun p hp q hq => ok.1 p hp q hq, fun p hp z => by
              have := (ok.2 p hp).2
              rw [z] at this
              cases this⟩
            have dp : PyData.depthAll (pyD x :: xs.map pyD) ≤ 60 := depAll fun p hp => (ok.2 p hp).1
            refine min_list_at (vs := its.toArray) (I.ok.hd hc) p1.isList (by simpa using ra) al (by omega) fun v h' tk hv hk => ?_
            rw [List.length_map] at hv
            have bt : (fun i j => PySem.W.dataLt ((pyD x :: xs.map pyD).getD i .none) ((pyD x :: xs.map pyD).getD j .none)) = fun i j => ltD ((x :: xs).getD i .non) ((x :: xs).getD j .non) := by
              funext i j
              rw [← List.map_cons, getD_map, getD_map]; rfl
            rw [bt] at hv
            obtain ⟨_, f2⟩ := PySem.W.argBest_fold ltD D.non x xs xs.length (Nat.le_refl _)
            rw [List.take_length] at f2
            rw [List.getElem?_toArray] at hv
            obtain ⟨z, z1, z2⟩ := repL_at rl rv hv
            rw [f2] at z2
            exact ⟨z, H, I.kept (t' := tk) hk, z1, q.imp (Same.refl H) (by
              have := List.all_eq_true.mp nb _ (best_mem x xs)
              simpa using this) z2⟩
          · cases e
        · cases e
  · cases e
theorem nr_minA : NoR minAD := fun xs c z => by
  unfold minAD at z
  split at z
  · split at z
    · exact nr_min _ _ z
    · unfold minTD at z
      split at z
      · split at z
        · split at z <;> cases z
        · cases z
      · cases z
  · cases z
end
end Sh

namespace Sh
open PySem PySem.Spec PyProof.Rows L2
def topS (i : Nat) : Stmt := PySem.Challenge.pw_shelfhouse_k00_rising_and_falling.main.body.getD i (.Pass ⟨0, 0, 0, 0⟩)
def c_MOST_BOOKS : D := (.int 12)
def c_GREATEST : D := (.int 1000000)
def excL : List Str := ["ShelfError", "NoRow"]
def subE (x y : Str) : Bool := x == y || y == "ShelfError"
structure Bs (mg : Str → Option Value) : Prop where
  b_abs : mg "abs" = none
  b_all : mg "all" = none
  b_bool : mg "bool" = none
  b_enumerate : mg "enumerate" = none
  b_int : mg "int" = none
  b_isinstance : mg "isinstance" = none
  b_len : mg "len" = none
  b_list : mg "list" = none
  b_max : mg "max" = none
  b_min : mg "min" = none
  b_range : mg "range" = none
  b_set : mg "set" = none
  b_sorted : mg "sorted" = none
  b_tuple : mg "tuple" = none
structure Cs (K : PySem.W.Frag) (mg : Str → Option Value) : Prop where
  g_MOST_BOOKS : GlobK K mg "MOST_BOOKS" c_MOST_BOOKS
  g_GREATEST : GlobK K mg "GREATEST" c_GREATEST
  r_ShelfError : ExcK K mg "ShelfError"
  r_NoRow : ExcK K mg "NoRow"
  T : ExcT K mg subE excL
structure IsFnB (K : PySem.W.Frag) (mg : Str → Option Value) (base : Heap) (P : Program) (w : World) (y : Str) (cs : List (Str × Str)) : Prop where
  atX : ∀ X : Cx, X.prog = P → X.w = w → X.K = K → X.mg = mg → X.base = base → IsFn X 1 y subE excL cs
section
variable {P : Program} {w : World} {K : PySem.W.Frag} {mg : Str → Option Value} {base : Heap}
abbrev s_is_integer : Stmt := topS 4
abbrev N_is_integer : List Str := ["thing"]
theorem sc_is_integer : FnScope N_is_integer ["thing"] (defScope s_is_integer) := ⟨rfl, rfl, rfl, by decide +kernel, rfl, by decide +kernel, by decide +kernel⟩
noncomputable def g_is_integer : FS := (fSeq (fRet (fAnd (fIsi "int" (fVar 0)) (fNot (fIsi "bool" (fVar 0)))))
    fSkip)
noncomputable def den_is_integer : List D → R D := runD 1 N_is_integer g_is_integer
theorem ok_is_integer {f : Addr} {fd : FuncData} (B : Bs mg) (C : Cs K mg) (F : Fun K "is_integer" "is_integer" s_is_integer f fd) (gm : mg "is_integer" = some (.ref f)) (hb : Binds K fd ["thing"] []) : FnK P w K mg base 1 1 "is_integer" den_is_integer :=
  ⟨f, fd, ["thing"], rfl, gm, F.kp, hb, fn_ok (k := 0) (g := g_is_integer) [] F sc_is_integer (by decide) fun Z cdv A outer s H E hr tk hp => by
    have sc := sc_is_integer
    unfold g_is_integer
    exact (dss_cons (ds_ret (d_and ((d_isi ((d_var 0)).toR B.b_isinstance B.b_int (by decide +kernel))).toE (d_one ((d_not ((d_isi ((d_var 0)).toR B.b_isinstance B.b_bool (by decide +kernel))).toR)).toE)))
      dss_nil)⟩
abbrev s_is_under : Stmt := topS 5
abbrev N_is_under : List Str := ["thing", "many"]
theorem sc_is_under : FnScope N_is_under ["thing", "many"] (defScope s_is_under) := ⟨rfl, rfl, rfl, by decide +kernel, rfl, by decide +kernel, by decide +kernel⟩
noncomputable def g_is_under : FS := (fSeq (fRet (fAnd (fCall den_is_integer (fCons (fVar 0) fNil)) (fCh (blD leB) (blD ltB) (fC (.int 0)) (fVar 0) (fVar 1))))
    fSkip)
noncomputable def den_is_under : List D → R D := runD 2 N_is_under g_is_under
theorem ok_is_under {f : Addr} {fd : FuncData} (B : Bs mg) (C : Cs K mg) (F : Fun K "is_under" "is_under" s_is_under f fd) (gm : mg "is_under" = some (.ref f)) (hb : Binds K fd ["thing", "many"] []) (k_is_integer : FnK P w K mg base 1 1 "is_integer" den_is_integer) : FnK P w K mg base 2 2 "is_under" den_is_under :=
  ⟨f, fd, ["thing", "many"], rfl, gm, F.kp, hb, fn_ok (k := 1) (g := g_is_under) [] F sc_is_under (by decide) fun Z cdv A outer s H E hr tk hp => by
    have sc := sc_is_under
    unfold g_is_under
    exact (dss_cons (ds_ret (d_and (d_callK tk k_is_integer hr (dae_cons (d_var 0) dae_nil)) (d_one ((d_chain od_le nr_le (od_lt (u64 hr)) nr_lt (d_int).toR ((d_var 0)).toR ((d_var 1)).toR)).toE)))
      dss_nil)⟩
abbrev s_are_under : Stmt := topS 6
abbrev N_are_under : List Str := ["thing", "many", "one"]
theorem sc_are_under : FnScope N_are_under ["thing", "many"] (defScope s_are_under) := ⟨rfl, rfl, rfl, by decide +kernel, rfl, by decide +kernel, by decide +kernel⟩
noncomputable def g_are_under : FS := (fSeq (fRet (fAnd (fIsi "tuple" (fVar 0)) (fCall allD (fCons (fLc (fSeqOf (fVar 0)) (gfName 2) fYes (fCall den_is_under (fCons (fVar 2) (fCons (fVar 1) fNil))) [2]) fNil))))
    fSkip)
noncomputable def den_are_under : List D → R D := runD 2 N_are_under g_are_under
theorem ok_are_under {f : Addr} {fd : FuncData} (B : Bs mg) (C : Cs K mg) (F : Fun K "are_under" "are_under" s_are_under f fd) (gm : mg "are_under" = some (.ref f)) (hb : Binds K fd ["thing", "many"] []) (k_is_under : FnK P w K mg base 2 2 "is_under" den_is_under) : FnK P w K mg base 3 2 "are_under" den_are_under :=
  ⟨f, fd, ["thing", "many"], rfl, gm, F.kp, hb, fn_ok (k := 2) (g := g_are_under) [] F sc_are_under (by decide) fun Z cdv A outer s H E hr tk hp => by
    have sc := sc_are_under
    unfold g_are_under
    exact (dss_cons (ds_ret (d_and ((d_isi ((d_var 0)).toR B.b_isinstance B.b_tuple (by decide +kernel))).toE (d_one ((d_blt (cd_all rfl) nr_all B.b_all (by decide +kernel) (da_cons ((d_lc [("one", 2)] rfl sc.nd (di_seq (d_var 0)) (blkOk_by (own := [("one", 2)]) (N := N_are_under) (sc := defScope s_are_under) (by decide +kernel)) (fun _ _ _ _ _ => (dg_name (ts := [2]) 2 sc.nd)) (fun _ _ _ _ _ => dts_nil) (fun _ _ _ _ _ => (d_callK takes0 k_is_under hr (dae_cons (d_var 2) (dae_cons (d_var 1) dae_nil)))))).toR da_nil))).toE)))
      dss_nil)⟩
abbrev s_is_lot : Stmt := topS 7
abbrev N_is_lot : List Str := ["thing", "many", "at"]
theorem sc_is_lot : FnScope N_is_lot ["thing", "many"] (defScope s_is_lot) := ⟨rfl, rfl, rfl, by decide +kernel, rfl, by decide +kernel, by decide +kernel⟩
noncomputable def g_is_lot : FS := (fSeq (fRet (fAnd (fCall den_are_under (fCons (fVar 0) (fCons (fVar 1) fNil))) (fCall allD (fCons (fLc (fRng rng2 (fCons (fC (.int 1)) (fCons (fCall lenD (fCons (fVar 0) fNil)) fNil))) (gfName 2) fYes (f2 (blD ltB) (f2 idxD (fVar 0) (f2 subD (fVar 2) (fC (.int 1)))) (f2 idxD (fVar 0) (fVar 2))) [2]) fNil))))
    fSkip)
noncomputable def den_is_lot : List D → R D := runD 2 N_is_lot g_is_lot
theorem ok_is_lot {f : Addr} {fd : FuncData} (B : Bs mg) (C : Cs K mg) (F : Fun K "is_lot" "is_lot" s_is_lot f fd) (gm : mg "is_lot" = some (.ref f)) (hb : Binds K fd ["thing", "many"] []) (k_are_under : FnK P w K mg base 3 2 "are_under" den_are_under) : FnK P w K mg base 4 2 "is_lot" den_is_lot :=
  ⟨f, fd, ["thing", "many"], rfl, gm, F.kp, hb, fn_ok (k := 3) (g := g_is_lot) [] F sc_is_lot (by decide) fun Z cdv A outer s H E hr tk hp => by
    have sc := sc_is_lot
    unfold g_is_lot
    exact (dss_cons (ds_ret (d_and (d_callK tk k_are_under hr (dae_cons (d_var 0) (dae_cons (d_var 1) dae_nil))) (d_one ((d_blt (cd_all rfl) nr_all B.b_all (by decide +kernel) (da_cons ((d_lc [("at", 2)] rfl sc.nd (di_range2 B.b_range (da_cons (d_int).toR (da_cons ((d_blt cd_len nr_len B.b_len (by decide +kernel) (da_cons ((d_var 0)).toR da_nil))).toR da_nil))) (blkOk_by (own := [("at", 2)]) (N := N_is_lot) (sc := defScope s_is_lot) (by decide +kernel)) (fun _ _ _ _ _ => (dg_name (ts := [2]) 2 sc.nd)) (fun _ _ _ _ _ => dts_nil) (fun _ _ _ _ _ => ((d_cmp (od_lt (u64 hr)) nr_lt ((d_ix ((d_var 0)).toR ((d_bin od_sub nr_sub ((d_var 2)).toR (d_int).toR)).toR)).toR ((d_ix ((d_var 0)).toR ((d_var 2)).toR)).toR)).toE))).toR da_nil))).toE)))
      dss_nil)⟩
abbrev s_unlike : Stmt := topS 8
abbrev N_unlike : List Str := ["things"]
theorem sc_unlike : FnScope N_unlike ["things"] (defScope s_unlike) := ⟨rfl, rfl, rfl, by decide +kernel, rfl, by decide +kernel, by decide +kernel⟩
noncomputable def g_unlike : FS := (fSeq (fRet (f2 eqD (fLenSet (fVar 0)) (fCall lenD (fCons (fVar 0) fNil))))
    fSkip)
noncomputable def den_unlike : List D → R D := runD 1 N_unlike g_unlike
theorem ok_unlike {f : Addr} {fd : FuncData} (B : Bs mg) (C : Cs K mg) (F : Fun K "unlike" "unlike" s_unlike f fd) (gm : mg "unlike" = some (.ref f)) (hb : Binds K fd ["things"] []) : FnK P w K mg base 1 1 "unlike" den_unlike :=
  ⟨f, fd, ["things"], rfl, gm, F.kp, hb, fn_ok (k := 0) (g := g_unlike) [] F sc_unlike (by decide) fun Z cdv A outer s H E hr tk hp => by
    have sc := sc_unlike
    unfold g_unlike
    exact (dss_cons (ds_ret ((d_cmp (od_eq (u64 hr)) nr_eq ((d_lenSet ((d_var 0)).toR rfl B.b_len B.b_set)).toR ((d_blt cd_len nr_len B.b_len (by decide +kernel) (da_cons ((d_var 0)).toR da_nil))).toR)).toE)
      dss_nil)⟩
abbrev s_is_row : Stmt := topS 12
abbrev N_is_row : List Str := ["thing", "one"]
theorem sc_is_row : FnScope N_is_row ["thing"] (defScope s_is_row) := ⟨rfl, rfl, rfl, by decide +kernel, rfl, by decide +kernel, by decide +kernel⟩
noncomputable def g_is_row : FS := (fSeq (fIfS (fOrT (fNotT (fTru (fIsi "tuple" (fVar 0)))) (fB (f2 (blD gtB) (fCall lenD (fCons (fVar 0) fNil)) (fC c_MOST_BOOKS)))) (fSeq (fRet (fC (.bl false)))
    fSkip) fSkip)
    (fSeq (fRet (fCall allD (fCons (fLc (fSeqOf (fVar 0)) (gfName 1) fYes (fAnd (fCall den_is_integer (fCons (fVar 1) fNil)) (fCh (blD leB) (blD leB) (fNeg (fC c_GREATEST)) (fVar 1) (fC c_GREATEST))) [1]) fNil)))
    fSkip))
noncomputable def den_is_row : List D → R D := runD 1 N_is_row g_is_row
theorem ok_is_row {f : Addr} {fd : FuncData} (B : Bs mg) (C : Cs K mg) (F : Fun K "is_row" "is_row" s_is_row f fd) (gm : mg "is_row" = some (.ref f)) (hb : Binds K fd ["thing"] []) (k_is_integer : FnK P w K mg base 1 1 "is_integer" den_is_integer) : FnK P w K mg base 2 1 "is_row" den_is_row :=
  ⟨f, fd, ["thing"], rfl, gm, F.kp, hb, fn_ok (k := 1) (g := g_is_row) [] F sc_is_row (by decide) fun Z cdv A outer s H E hr tk hp => by
    have sc := sc_is_row
    unfold g_is_row
    exact (dss_cons (ds_if (dw_or (dt_not (dt_tru ((d_isi ((d_var 0)).toR B.b_isinstance B.b_tuple (by decide +kernel))).toR)) (dw_or1 (dt_cmp od_gt nr_gt ((d_blt cd_len nr_len B.b_len (by decide +kernel) (da_cons ((d_var 0)).toR da_nil))).toR ((d_const C.g_MOST_BOOKS)).toR))).t (dss_cons (ds_ret (d_bl).toE)
      dss_nil) dss_nil)
      (dss_cons (ds_ret ((d_blt (cd_all rfl) nr_all B.b_all (by decide +kernel) (da_cons ((d_lc [("one", 1)] rfl sc.nd (di_seq (d_var 0)) (blkOk_by (own := [("one", 1)]) (N := N_is_row) (sc := defScope s_is_row) (by decide +kernel)) (fun _ _ _ _ _ => (dg_name (ts := [1]) 1 sc.nd)) (fun _ _ _ _ _ => dts_nil) (fun _ _ _ _ _ => (d_and (d_callK takes0 k_is_integer hr (dae_cons (d_var 1) dae_nil)) (d_one ((d_chain od_le nr_le od_le nr_le ((d_neg ((d_const C.g_GREATEST)).toR)).toR ((d_var 1)).toR ((d_const C.g_GREATEST)).toR)).toE))))).toR da_nil))).toE)
      dss_nil))⟩
abbrev s_need_row : Stmt := topS 13
abbrev N_need_row : List Str := ["thing"]
theorem sc_need_row : FnScope N_need_row ["thing"] (defScope s_need_row) := ⟨rfl, rfl, rfl, by decide +kernel, rfl, by decide +kernel, by decide +kernel⟩
noncomputable def g_need_row : FS := (fSeq (fIfS (fNotT (fTru (fCall den_is_row (fCons (fVar 0) fNil)))) (fSeq (fRaise "NoRow")
    fSkip) fSkip)
    fSkip)
noncomputable def den_need_row : List D → R D := runD 1 N_need_row g_need_row
theorem ok_need_row {f : Addr} {fd : FuncData} (B : Bs mg) (C : Cs K mg) (F : Fun K "need_row" "need_row" s_need_row f fd) (gm : mg "need_row" = some (.ref f)) (hb : Binds K fd ["thing"] []) (k_is_row : FnK P w K mg base 2 1 "is_row" den_is_row) : FnK P w K mg base 3 1 "need_row" den_need_row :=
  ⟨f, fd, ["thing"], rfl, gm, F.kp, hb, fn_ok (k := 2) (g := g_need_row) [] F sc_need_row (by decide) fun Z cdv A outer s H E hr tk hp => by
    have sc := sc_need_row
    unfold g_need_row
    exact (dss_cons (ds_if (dt_not (dt_tru ((d_callK tk k_is_row hr (dae_cons (d_var 0) dae_nil))).toR)) (dss_cons (ds_raise rfl tk C.r_NoRow)
      dss_nil) dss_nil)
      dss_nil)⟩
abbrev s_is_ready : Stmt := topS 14
abbrev N_is_ready : List Str := ["row", "at"]
theorem sc_is_ready : FnScope N_is_ready ["row"] (defScope s_is_ready) := ⟨rfl, rfl, rfl, by decide +kernel, rfl, by decide +kernel, by decide +kernel⟩
noncomputable def g_is_ready : FS := (fSeq (fRet (fCall allD (fCons (fLc (fRng rng2 (fCons (fC (.int 1)) (fCons (fCall lenD (fCons (fVar 0) fNil)) fNil))) (gfName 1) fYes (f2 (blD leB) (f2 idxD (fVar 0) (f2 subD (fVar 1) (fC (.int 1)))) (f2 idxD (fVar 0) (fVar 1))) [1]) fNil)))
    fSkip)
noncomputable def den_is_ready : List D → R D := runD 1 N_is_ready g_is_ready
theorem ok_is_ready {f : Addr} {fd : FuncData} (B : Bs mg) (C : Cs K mg) (F : Fun K "is_ready" "is_ready" s_is_ready f fd) (gm : mg "is_ready" = some (.ref f)) (hb : Binds K fd ["row"] []) : FnK P w K mg base 1 1 "is_ready" den_is_ready :=
  ⟨f, fd, ["row"], rfl, gm, F.kp, hb, fn_ok (k := 0) (g := g_is_ready) [] F sc_is_ready (by decide) fun Z cdv A outer s H E hr tk hp => by
    have sc := sc_is_ready
    unfold g_is_ready
    exact (dss_cons (ds_ret ((d_blt (cd_all rfl) nr_all B.b_all (by decide +kernel) (da_cons ((d_lc [("at", 1)] rfl sc.nd (di_range2 B.b_range (da_cons (d_int).toR (da_cons ((d_blt cd_len nr_len B.b_len (by decide +kernel) (da_cons ((d_var 0)).toR da_nil))).toR da_nil))) (blkOk_by (own := [("at", 1)]) (N := N_is_ready) (sc := defScope s_is_ready) (by decide +kernel)) (fun _ _ _ _ _ => (dg_name (ts := [1]) 1 sc.nd)) (fun _ _ _ _ _ => dts_nil) (fun _ _ _ _ _ => ((d_cmp od_le nr_le ((d_ix ((d_var 0)).toR ((d_bin od_sub nr_sub ((d_var 1)).toR (d_int).toR)).toR)).toR ((d_ix ((d_var 0)).toR ((d_var 1)).toR)).toR)).toE))).toR da_nil))).toE)
      dss_nil)⟩
abbrev s_longest_ends : Stmt := topS 15
abbrev N_longest_ends : List Str := ["row", "found", "at", "number", "before", "there"]
theorem sc_longest_ends : FnScope N_longest_ends ["row"] (defScope s_longest_ends) := ⟨rfl, rfl, rfl, by decide +kernel, rfl, by decide +kernel, by decide +kernel⟩
noncomputable def g_longest_ends : FS := (fSeq (fSet 1 (fLst fNil))
    (fSeq (fFor (fEnum (fSeqLT (fVar 0))) (gfTup 2 (gfCons (gfName 2) (gfCons (gfName 3) gfNil))) (fSeq (fSet 4 (fLc (fRng rng1 (fCons (fVar 2) fNil)) (gfName 5) (fB (f2 (blD leB) (f2 idxD (fVar 0) (fVar 5)) (fVar 3))) (f2 idxD (fVar 1) (fVar 5)) [5]))
    (fSeq (fApp 1 (f2 addD (fC (.int 1)) (fCall maxD (fCons (f2 addD (fLst (fCons (fC (.int 0)) fNil)) (fVar 4)) fNil))))
    fSkip)))
    (fSeq (fRet (fVar 1))
    fSkip)))
noncomputable def den_longest_ends : List D → R D := runD 1 N_longest_ends g_longest_ends
theorem ok_longest_ends {f : Addr} {fd : FuncData} (B : Bs mg) (C : Cs K mg) (F : Fun K "longest_ends" "longest_ends" s_longest_ends f fd) (gm : mg "longest_ends" = some (.ref f)) (hb : Binds K fd ["row"] []) : FnK P w K mg base 1 1 "longest_ends" den_longest_ends :=
  ⟨f, fd, ["row"], rfl, gm, F.kp, hb, fn_ok (k := 0) (g := g_longest_ends) [1] F sc_longest_ends (by decide) fun Z cdv A outer s H E hr tk hp => by
    have sc := sc_longest_ends
    unfold g_longest_ends
    exact (dss_cons (ds_setO 1 (d_lst dae_nil) sc.nd)
      (dss_cons (ds_for [] hp rfl (di_enum B.b_enumerate (d_var 0)) (dg_tup rfl (dgs_cons (dg_name (ts := [2, 3]) 2 sc.nd) (dgs_cons (dg_name (ts := [2, 3]) 3 sc.nd) dgs_nil))) (NoRG.tup (nrg_cons (NoRG.name 2) (nrg_cons (NoRG.name 3) nrg_nil))) (dss_cons (ds_setLc 4 [("there", 5)] rfl sc.nd (sw_true rfl rfl rfl (by decide +kernel)) (di_range1 B.b_range (da_cons ((d_var 2)).toR da_nil)) (blkOk_by (own := [("there", 5)]) (N := N_longest_ends) (sc := defScope s_longest_ends) (by decide +kernel)) (fun _ _ _ _ _ => (dg_name (ts := [5]) 5 sc.nd)) (fun _ _ _ _ _ => (dts_one (dt_cmp od_le nr_le ((d_ix ((d_var 0)).toR ((d_var 5)).toR)).toR ((d_var 3)).toR))) (fun _ _ _ _ _ => (d_ix (d_own 1) ((d_var 5)).toR)))
      (dss_cons (ds_append 1 ((d_bin od_add nr_add (d_int).toR ((d_blt (cd_max rfl) nr_max B.b_max (by decide +kernel) (da_cons ((d_bin od_add nr_add ((d_lst (dae_cons (d_int).toE dae_nil))).toR ((d_var 4)).toR)).toR da_nil))).toR)).toE)
      dss_nil)))
      (dss_cons (ds_retO 1)
      dss_nil)))⟩
abbrev s_rising_of : Stmt := topS 16
abbrev N_rising_of : List Str := ["row", "begins", "found", "at", "number", "left", "count", "there"]
theorem sc_rising_of : FnScope N_rising_of ["row"] (defScope s_rising_of) := ⟨rfl, rfl, rfl, by decide +kernel, rfl, by decide +kernel, by decide +kernel⟩
noncomputable def g_rising_of : FS := (fSeq (fSet 1 (fRev (fLc (fSeqOf (fCall den_longest_ends (fCons (fCall tupleD (fCons (fLc (fSeqOf (fRev (fVar 0))) (gfName 4) fYes (fNeg (fVar 4)) [4]) fNil)) fNil))) (gfName 6) fYes (fVar 6) [6])))
    (fSeq (fSet 2 (fLst fNil))
    (fSeq (fFor (fEnum (fSeqLT (fVar 0))) (gfTup 2 (gfCons (gfName 3) (gfCons (gfName 4) gfNil))) (fSeq (fSet 5 (fCall maxD (fCons (f2 addD (fLst (fCons (fC (.int 0)) fNil)) (fLc (fRng rng2 (fCons (fVar 3) (fCons (fCall lenD (fCons (fVar 0) fNil)) fNil))) (gfName 7) (fOrT (fNotT (fTru (fVar 2))) (fB (f2 (blD geB) (f2 idxD (fVar 0) (fVar 7)) (f2 idxD (fVar 0) (f2 idxD (fVar 2) (fNeg (fC (.int 1)))))))) (f2 idxD (fVar 1) (fVar 7)) [7])) fNil)))
    (fSeq (fIfS (fAndT (fB (f2 eqD (f2 idxD (fVar 1) (fVar 3)) (fVar 5))) (fOrT (fNotT (fTru (fVar 2))) (fB (f2 (blD geB) (fVar 4) (f2 idxD (fVar 0) (f2 idxD (fVar 2) (fNeg (fC (.int 1))))))))) (fSeq (fApp 2 (fVar 3))
    fSkip) fSkip)
    fSkip)))
    (fSeq (fRet (fCall tupleD (fCons (fVar 2) fNil)))
    fSkip))))
noncomputable def den_rising_of : List D → R D := runD 1 N_rising_of g_rising_of
theorem ok_rising_of {f : Addr} {fd : FuncData} (B : Bs mg) (C : Cs K mg) (F : Fun K "rising_of" "rising_of" s_rising_of f fd) (gm : mg "rising_of" = some (.ref f)) (hb : Binds K fd ["row"] []) (k_longest_ends : FnK P w K mg base 1 1 "longest_ends" den_longest_ends) : FnK P w K mg base 2 1 "rising_of" den_rising_of :=
  ⟨f, fd, ["row"], rfl, gm, F.kp, hb, fn_ok (k := 1) (g := g_rising_of) [2] F sc_rising_of (by decide) fun Z cdv A outer s H E hr tk hp => by
    have sc := sc_rising_of
    unfold g_rising_of
    exact (dss_cons (ds_set 1 ((d_rev ((d_lc [("count", 6)] rfl sc.nd (di_seq (d_callK tk k_longest_ends hr (dae_cons ((d_ty cd_tuple nr_tuple B.b_tuple (by decide +kernel) (da_cons ((d_lc [("number", 4)] rfl sc.nd (di_seq ((d_rev ((d_var 0)).toR)).toE) (blkOk_by (own := [("number", 4)]) (N := N_rising_of) (sc := defScope s_rising_of) (by decide +kernel)) (fun _ _ _ _ _ => (dg_name (ts := [4]) 4 sc.nd)) (fun _ _ _ _ _ => dts_nil) (fun _ _ _ _ _ => ((d_neg ((d_var 4)).toR)).toE))).toR da_nil))).toE dae_nil))) (blkOk_by (own := [("count", 6)]) (N := N_rising_of) (sc := defScope s_rising_of) (by decide +kernel)) (fun _ _ _ _ _ => (dg_name (ts := [6]) 6 sc.nd)) (fun _ _ _ _ _ => dts_nil) (fun _ _ _ _ _ => (d_var 6)))).toR)).toE (by decide) sc.nd)
      (dss_cons (ds_setO 2 (d_lst dae_nil) sc.nd)
      (dss_cons (ds_for [] hp rfl (di_enum B.b_enumerate (d_var 0)) (dg_tup rfl (dgs_cons (dg_name (ts := [3, 4]) 3 sc.nd) (dgs_cons (dg_name (ts := [3, 4]) 4 sc.nd) dgs_nil))) (NoRG.tup (nrg_cons (NoRG.name 3) (nrg_cons (NoRG.name 4) nrg_nil))) (dss_cons (ds_set 5 ((d_blt (cd_max rfl) nr_max B.b_max (by decide +kernel) (da_cons ((d_bin od_add nr_add ((d_lst (dae_cons (d_int).toE dae_nil))).toR ((d_lc [("there", 7)] rfl sc.nd (di_range2 B.b_range (da_cons ((d_var 3)).toR (da_cons ((d_blt cd_len nr_len B.b_len (by decide +kernel) (da_cons ((d_var 0)).toR da_nil))).toR da_nil))) (blkOk_by (own := [("there", 7)]) (N := N_rising_of) (sc := defScope s_rising_of) (by decide +kernel)) (fun _ _ _ _ _ => (dg_name (ts := [7]) 7 sc.nd)) (fun _ _ _ _ _ => (dts_one (dw_or (dt_not (dt_tru (d_own 2))) (dw_or1 (dt_cmp od_ge nr_ge ((d_ix ((d_var 0)).toR ((d_var 7)).toR)).toR ((d_ix ((d_var 0)).toR ((d_ix (d_own 2) ((d_neg (d_int).toR)).toR)).toR)).toR))).t)) (fun _ _ _ _ _ => (d_ix ((d_var 1)).toR ((d_var 7)).toR)))).toR)).toR da_nil))).toE (by decide) sc.nd)
      (dss_cons (ds_if (dw_and (dt_cmp (od_eq (u64 hr)) nr_eq ((d_ix ((d_var 1)).toR ((d_var 3)).toR)).toR ((d_var 5)).toR) (dw_and1 (dw_or (dt_not (dt_tru (d_own 2))) (dw_or1 (dt_cmp od_ge nr_ge ((d_var 4)).toR ((d_ix ((d_var 0)).toR ((d_ix (d_own 2) ((d_neg (d_int).toR)).toR)).toR)).toR))).t)).t (dss_cons (ds_append 2 (d_var 3))
      dss_nil) dss_nil)
      dss_nil)))
      (dss_cons (ds_ret ((d_ty cd_tuple nr_tuple B.b_tuple (by decide +kernel) (da_cons (d_own 2) da_nil))).toE)
      dss_nil))))⟩
abbrev s_rising : Stmt := topS 17
abbrev N_rising : List Str := ["row"]
theorem sc_rising : FnScope N_rising ["row"] (defScope s_rising) := ⟨rfl, rfl, rfl, by decide +kernel, rfl, by decide +kernel, by decide +kernel⟩
noncomputable def g_rising : FS := (fSeq (fExpr (fCall den_need_row (fCons (fVar 0) fNil)))
    (fSeq (fRet (fCall den_rising_of (fCons (fVar 0) fNil)))
    fSkip))
noncomputable def den_rising : List D → R D := runD 1 N_rising g_rising
theorem ok_rising {f : Addr} {fd : FuncData} (B : Bs mg) (C : Cs K mg) (F : Fun K "rising" "rising" s_rising f fd) (gm : mg "rising" = some (.ref f)) (hb : Binds K fd ["row"] []) (k_need_row : FnK P w K mg base 3 1 "need_row" den_need_row) (k_rising_of : FnK P w K mg base 2 1 "rising_of" den_rising_of) : FnK P w K mg base 4 1 "rising" den_rising :=
  ⟨f, fd, ["row"], rfl, gm, F.kp, hb, fn_ok (k := 3) (g := g_rising) [] F sc_rising (by decide) fun Z cdv A outer s H E hr tk hp => by
    have sc := sc_rising
    unfold g_rising
    exact (dss_cons (ds_expr ((d_callK tk k_need_row hr (dae_cons (d_var 0) dae_nil))).toR)
      (dss_cons (ds_ret (d_callK tk k_rising_of hr (dae_cons (d_var 0) dae_nil)))
      dss_nil))⟩
abbrev s_falls_of : Stmt := topS 18
abbrev N_falls_of : List Str := ["row", "ends", "count", "at"]
theorem sc_falls_of : FnScope N_falls_of ["row"] (defScope s_falls_of) := ⟨rfl, rfl, rfl, by decide +kernel, rfl, by decide +kernel, by decide +kernel⟩
noncomputable def g_falls_of : FS := (fSeq (fSet 1 (fCall den_longest_ends (fCons (fVar 0) fNil)))
    (fSeq (fRet (fCall tupleD (fCons (fLc (fRng rng2 (fCons (fC (.int 1)) (fCons (f2 addD (fCall maxD (fCons (f2 addD (fLst (fCons (fC (.int 0)) fNil)) (fVar 1)) fNil)) (fC (.int 1))) fNil))) (gfName 2) fYes (fCall tupleD (fCons (fLc (fRng rng1 (fCons (fCall lenD (fCons (fVar 0) fNil)) fNil)) (gfName 3) (fB (f2 eqD (f2 idxD (fVar 1) (fVar 3)) (fVar 2))) (fVar 3) [3]) fNil)) [2]) fNil)))
    fSkip))
noncomputable def den_falls_of : List D → R D := runD 1 N_falls_of g_falls_of
theorem ok_falls_of {f : Addr} {fd : FuncData} (B : Bs mg) (C : Cs K mg) (F : Fun K "falls_of" "falls_of" s_falls_of f fd) (gm : mg "falls_of" = some (.ref f)) (hb : Binds K fd ["row"] []) (k_longest_ends : FnK P w K mg base 1 1 "longest_ends" den_longest_ends) : FnK P w K mg base 2 1 "falls_of" den_falls_of :=
  ⟨f, fd, ["row"], rfl, gm, F.kp, hb, fn_ok (k := 1) (g := g_falls_of) [] F sc_falls_of (by decide) fun Z cdv A outer s H E hr tk hp => by
    have sc := sc_falls_of
    unfold g_falls_of
    exact (dss_cons (ds_set 1 (d_callK tk k_longest_ends hr (dae_cons (d_var 0) dae_nil)) (by decide) sc.nd)
      (dss_cons (ds_ret ((d_ty cd_tuple nr_tuple B.b_tuple (by decide +kernel) (da_cons ((d_lc [("count", 2)] rfl sc.nd (di_range2 B.b_range (da_cons (d_int).toR (da_cons ((d_bin od_add nr_add ((d_blt (cd_max rfl) nr_max B.b_max (by decide +kernel) (da_cons ((d_bin od_add nr_add ((d_lst (dae_cons (d_int).toE dae_nil))).toR ((d_var 1)).toR)).toR da_nil))).toR (d_int).toR)).toR da_nil))) (blkOk_by (own := [("count", 2)]) (N := N_falls_of) (sc := defScope s_falls_of) (by decide +kernel)) (fun _ _ _ _ _ => (dg_name (ts := [2]) 2 sc.nd)) (fun _ _ _ _ _ => dts_nil) (fun _ _ _ _ _ => ((d_ty cd_tuple nr_tuple B.b_tuple (by decide +kernel) (da_cons ((d_lc [("at", 3)] rfl sc.nd (di_range1 B.b_range (da_cons ((d_blt cd_len nr_len B.b_len (by decide +kernel) (da_cons ((d_var 0)).toR da_nil))).toR da_nil)) (blkOk_by (own := [("at", 3)]) (N := N_falls_of) (by first | rfl | kernel_rfl)) (fun _ _ _ _ _ => (dg_name (ts := [3]) 3 sc.nd)) (fun _ _ _ _ _ => (dts_one (dt_cmp (od_eq (u64 hr)) nr_eq ((d_ix ((d_var 1)).toR ((d_var 3)).toR)).toR ((d_var 2)).toR))) (fun _ _ _ _ _ => (d_var 3)))).toR da_nil))).toE))).toR da_nil))).toE)
      dss_nil))⟩
abbrev s_falls : Stmt := topS 19
abbrev N_falls : List Str := ["row"]
theorem sc_falls : FnScope N_falls ["row"] (defScope s_falls) := ⟨rfl, rfl, rfl, by decide +kernel, rfl, by decide +kernel, by decide +kernel⟩
noncomputable def g_falls : FS := (fSeq (fExpr (fCall den_need_row (fCons (fVar 0) fNil)))
    (fSeq (fRet (fCall den_falls_of (fCons (fVar 0) fNil)))
    fSkip))
noncomputable def den_falls : List D → R D := runD 1 N_falls g_falls
theorem ok_falls {f : Addr} {fd : FuncData} (B : Bs mg) (C : Cs K mg) (F : Fun K "falls" "falls" s_falls f fd) (gm : mg "falls" = some (.ref f)) (hb : Binds K fd ["row"] []) (k_need_row : FnK P w K mg base 3 1 "need_row" den_need_row) (k_falls_of : FnK P w K mg base 2 1 "falls_of" den_falls_of) : FnK P w K mg base 4 1 "falls" den_falls :=
  ⟨f, fd, ["row"], rfl, gm, F.kp, hb, fn_ok (k := 3) (g := g_falls) [] F sc_falls (by decide) fun Z cdv A outer s H E hr tk hp => by
    have sc := sc_falls
    unfold g_falls
    exact (dss_cons (ds_expr ((d_callK tk k_need_row hr (dae_cons (d_var 0) dae_nil))).toR)
      (dss_cons (ds_ret (d_callK tk k_falls_of hr (dae_cons (d_var 0) dae_nil)))
      dss_nil))⟩
abbrev s_are_falls_of : Stmt := topS 20
abbrev N_are_falls_of : List Str := ["row", "thing", "lot", "at"]
theorem sc_are_falls_of : FnScope N_are_falls_of ["row", "thing"] (defScope s_are_falls_of) := ⟨rfl, rfl, rfl, by decide +kernel, rfl, by decide +kernel, by decide +kernel⟩
noncomputable def g_are_falls_of : FS := (fSeq (fIfS (fOrT (fNotT (fTru (fIsi "tuple" (fVar 1)))) (fNotT (fTru (fCall allD (fCons (fLc (fSeqOf (fVar 1)) (gfName 2) fYes (fAnd (fCall den_is_lot (fCons (fVar 2) (fCons (fCall lenD (fCons (fVar 0) fNil)) fNil))) (f2 (blD gtB) (fCall lenD (fCons (fVar 2) fNil)) (fC (.int 0)))) [2]) fNil))))) (fSeq (fRet (fC (.bl false)))
    fSkip) fSkip)
    (fSeq (fIfS (fB (f2 neD (fCall sortedAD (fCons (fLc2 (fSeqOf (fVar 1)) (gfName 2) fYes (fSeqOf (fVar 2)) (gfName 3) fYes (fVar 3) [2, 3] [3]) fNil)) (fLRg (fCons (fCall lenD (fCons (fVar 0) fNil)) fNil)))) (fSeq (fRet (fC (.bl false)))
    fSkip) fSkip)
    (fSeq (fRet (fCall allD (fCons (fLc2 (fSeqOf (fVar 1)) (gfName 2) fYes (fRng rng2 (fCons (fC (.int 1)) (fCons (fCall lenD (fCons (fVar 2) fNil)) fNil))) (gfName 3) fYes (f2 (blD gtB) (f2 idxD (fVar 0) (f2 idxD (fVar 2) (f2 subD (fVar 3) (fC (.int 1))))) (f2 idxD (fVar 0) (f2 idxD (fVar 2) (fVar 3)))) [2, 3] [3]) fNil)))
    fSkip)))
noncomputable def den_are_falls_of : List D → R D := runD 2 N_are_falls_of g_are_falls_of
theorem ok_are_falls_of {f : Addr} {fd : FuncData} (B : Bs mg) (C : Cs K mg) (F : Fun K "are_falls_of" "are_falls_of" s_are_falls_of f fd) (gm : mg "are_falls_of" = some (.ref f)) (hb : Binds K fd ["row", "thing"] []) (k_is_lot : FnK P w K mg base 4 2 "is_lot" den_is_lot) : FnK P w K mg base 5 2 "are_falls_of" den_are_falls_of :=
  ⟨f, fd, ["row", "thing"], rfl, gm, F.kp, hb, fn_ok (k := 4) (g := g_are_falls_of) [] F sc_are_falls_of (by decide) fun Z cdv A outer s H E hr tk hp => by
    have sc := sc_are_falls_of
    unfold g_are_falls_of
    exact (dss_cons (ds_if (dw_or (dt_not (dt_tru ((d_isi ((d_var 1)).toR B.b_isinstance B.b_tuple (by decide +kernel))).toR)) (dw_or1 (dt_not (dt_tru ((d_blt (cd_all rfl) nr_all B.b_all (by decide +kernel) (da_cons ((d_lc [("lot", 2)] rfl sc.nd (di_seq (d_var 1)) (blkOk_by (own := [("lot", 2)]) (N := N_are_falls_of) (sc := defScope s_are_falls_of) (by decide +kernel)) (fun _ _ _ _ _ => (dg_name (ts := [2]) 2 sc.nd)) (fun _ _ _ _ _ => dts_nil) (fun _ _ _ _ _ => (d_and (d_callK takes0 k_is_lot hr (dae_cons (d_var 2) (dae_cons ((d_blt cd_len nr_len B.b_len (by decide +kernel) (da_cons ((d_var 0)).toR da_nil))).toE dae_nil))) (d_one ((d_cmp od_gt nr_gt ((d_blt cd_len nr_len B.b_len (by decide +kernel) (da_cons ((d_var 2)).toR da_nil))).toR (d_int).toR)).toE))))).toR da_nil))).toR)))).t (dss_cons (ds_ret (d_bl).toE)
      dss_nil) dss_nil)
      (dss_cons (ds_if (dt_cmp (od_ne (u64 hr)) nr_ne ((d_blt (cd_sortedA (u64 hr)) nr_sortedA B.b_sorted (by decide +kernel) (da_cons ((d_lc2 [("lot", 2), ("at", 3)] [3] rfl sc.nd (di_seq (d_var 1)) (blkOk_by (own := [("lot", 2), ("at", 3)]) (N := N_are_falls_of) (sc := defScope s_are_falls_of) (by decide +kernel)) (fun _ _ _ _ _ => (dg_name (ts := [2]) 2 sc.nd)) (fun _ _ _ _ _ => dts_nil) (fun _ _ _ _ _ => (di_seq (d_var 2))) (fun _ _ _ _ _ => (dg_name (ts := [3]) 3 sc.nd)) (fun _ _ _ _ _ => dts_nil) (fun _ _ _ _ _ => (d_var 3)))).toR da_nil))).toR ((d_lstRg rfl (by rfl) B.b_list (prd_1 (by rfl) B.b_range ((d_blt cd_len nr_len B.b_len (by decide +kernel) (da_cons ((d_var 0)).toR da_nil))).toR))).toR) (dss_cons (ds_ret (d_bl).toE)
      dss_nil) dss_nil)
      (dss_cons (ds_ret ((d_blt (cd_all rfl) nr_all B.b_all (by decide +kernel) (da_cons ((d_lc2 [("lot", 2), ("at", 3)] [3] rfl sc.nd (di_seq (d_var 1)) (blkOk_by (own := [("lot", 2), ("at", 3)]) (N := N_are_falls_of) (sc := defScope s_are_falls_of) (by decide +kernel)) (fun _ _ _ _ _ => (dg_name (ts := [2]) 2 sc.nd)) (fun _ _ _ _ _ => dts_nil) (fun _ _ _ _ _ => (di_range2 B.b_range (da_cons (d_int).toR (da_cons ((d_blt cd_len nr_len B.b_len (by decide +kernel) (da_cons ((d_var 2)).toR da_nil))).toR da_nil)))) (fun _ _ _ _ _ => (dg_name (ts := [3]) 3 sc.nd)) (fun _ _ _ _ _ => dts_nil) (fun _ _ _ _ _ => ((d_cmp od_gt nr_gt ((d_ix ((d_var 0)).toR ((d_ix ((d_var 2)).toR ((d_bin od_sub nr_sub ((d_var 3)).toR (d_int).toR)).toR)).toR)).toR ((d_ix ((d_var 0)).toR ((d_ix ((d_var 2)).toR ((d_var 3)).toR)).toR)).toR)).toE))).toR da_nil))).toE)
      dss_nil)))⟩
abbrev s_are_falls : Stmt := topS 21
abbrev N_are_falls : List Str := ["row", "thing"]
theorem sc_are_falls : FnScope N_are_falls ["row", "thing"] (defScope s_are_falls) := ⟨rfl, rfl, rfl, by decide +kernel, rfl, by decide +kernel, by decide +kernel⟩
noncomputable def g_are_falls : FS := (fSeq (fExpr (fCall den_need_row (fCons (fVar 0) fNil)))
    (fSeq (fRet (fCall den_are_falls_of (fCons (fVar 0) (fCons (fVar 1) fNil))))
    fSkip))
noncomputable def den_are_falls : List D → R D := runD 2 N_are_falls g_are_falls
theorem ok_are_falls {f : Addr} {fd : FuncData} (B : Bs mg) (C : Cs K mg) (F : Fun K "are_falls" "are_falls" s_are_falls f fd) (gm : mg "are_falls" = some (.ref f)) (hb : Binds K fd ["row", "thing"] []) (k_need_row : FnK P w K mg base 3 1 "need_row" den_need_row) (k_are_falls_of : FnK P w K mg base 5 2 "are_falls_of" den_are_falls_of) : FnK P w K mg base 6 2 "are_falls" den_are_falls :=
  ⟨f, fd, ["row", "thing"], rfl, gm, F.kp, hb, fn_ok (k := 5) (g := g_are_falls) [] F sc_are_falls (by decide) fun Z cdv A outer s H E hr tk hp => by
    have sc := sc_are_falls
    unfold g_are_falls
    exact (dss_cons (ds_expr ((d_callK tk k_need_row hr (dae_cons (d_var 0) dae_nil))).toR)
      (dss_cons (ds_ret (d_callK tk k_are_falls_of hr (dae_cons (d_var 0) (dae_cons (d_var 1) dae_nil))))
      dss_nil))⟩
abbrev s_is_rising : Stmt := topS 22
abbrev N_is_rising : List Str := ["row", "thing", "at"]
theorem sc_is_rising : FnScope N_is_rising ["row", "thing"] (defScope s_is_rising) := ⟨rfl, rfl, rfl, by decide +kernel, rfl, by decide +kernel, by decide +kernel⟩
noncomputable def g_is_rising : FS := (fSeq (fExpr (fCall den_need_row (fCons (fVar 0) fNil)))
    (fSeq (fIfS (fOrT (fNotT (fTru (fCall den_is_lot (fCons (fVar 1) (fCons (fCall lenD (fCons (fVar 0) fNil)) fNil))))) (fNotT (fTru (fCall den_is_ready (fCons (fCall tupleD (fCons (fLc (fSeqOf (fVar 1)) (gfName 2) fYes (f2 idxD (fVar 0) (fVar 2)) [2]) fNil)) fNil))))) (fSeq (fRet (fC (.bl false)))
    fSkip) fSkip)
    (fSeq (fRet (f2 eqD (fCall lenD (fCons (fVar 1) fNil)) (fCall lenD (fCons (fCall den_falls_of (fCons (fVar 0) fNil)) fNil))))
    fSkip)))
noncomputable def den_is_rising : List D → R D := runD 2 N_is_rising g_is_rising
theorem ok_is_rising {f : Addr} {fd : FuncData} (B : Bs mg) (C : Cs K mg) (F : Fun K "is_rising" "is_rising" s_is_rising f fd) (gm : mg "is_rising" = some (.ref f)) (hb : Binds K fd ["row", "thing"] []) (k_need_row : FnK P w K mg base 3 1 "need_row" den_need_row) (k_is_lot : FnK P w K mg base 4 2 "is_lot" den_is_lot) (k_is_ready : FnK P w K mg base 1 1 "is_ready" den_is_ready) (k_falls_of : FnK P w K mg base 2 1 "falls_of" den_falls_of) : FnK P w K mg base 5 2 "is_rising" den_is_rising :=
  ⟨f, fd, ["row", "thing"], rfl, gm, F.kp, hb, fn_ok (k := 4) (g := g_is_rising) [] F sc_is_rising (by decide) fun Z cdv A outer s H E hr tk hp => by
    have sc := sc_is_rising
    unfold g_is_rising
    exact (dss_cons (ds_expr ((d_callK tk k_need_row hr (dae_cons (d_var 0) dae_nil))).toR)
      (dss_cons (ds_if (dw_or (dt_not (dt_tru ((d_callK tk k_is_lot hr (dae_cons (d_var 1) (dae_cons ((d_blt cd_len nr_len B.b_len (by decide +kernel) (da_cons ((d_var 0)).toR da_nil))).toE dae_nil)))).toR)) (dw_or1 (dt_not (dt_tru ((d_callK tk k_is_ready hr (dae_cons ((d_ty cd_tuple nr_tuple B.b_tuple (by decide +kernel) (da_cons ((d_lc [("at", 2)] rfl sc.nd (di_seq (d_var 1)) (blkOk_by (own := [("at", 2)]) (N := N_is_rising) (sc := defScope s_is_rising) (by decide +kernel)) (fun _ _ _ _ _ => (dg_name (ts := [2]) 2 sc.nd)) (fun _ _ _ _ _ => dts_nil) (fun _ _ _ _ _ => (d_ix ((d_var 0)).toR ((d_var 2)).toR)))).toR da_nil))).toE dae_nil))).toR)))).t (dss_cons (ds_ret (d_bl).toE)
      dss_nil) dss_nil)
      (dss_cons (ds_ret ((d_cmp (od_eq (u64 hr)) nr_eq ((d_blt cd_len nr_len B.b_len (by decide +kernel) (da_cons ((d_var 1)).toR da_nil))).toR ((d_blt cd_len nr_len B.b_len (by decide +kernel) (da_cons ((d_callK tk k_falls_of hr (dae_cons (d_var 0) dae_nil))).toR da_nil))).toR)).toE)
      dss_nil)))⟩
abbrev s_are_unlike : Stmt := topS 23
abbrev N_are_unlike : List Str := ["row"]
theorem sc_are_unlike : FnScope N_are_unlike ["row"] (defScope s_are_unlike) := ⟨rfl, rfl, rfl, by decide +kernel, rfl, by decide +kernel, by decide +kernel⟩
noncomputable def g_are_unlike : FS := (fSeq (fExpr (fCall den_need_row (fCons (fVar 0) fNil)))
    (fSeq (fRet (fCall den_unlike (fCons (fVar 0) fNil)))
    fSkip))
noncomputable def den_are_unlike : List D → R D := runD 1 N_are_unlike g_are_unlike
theorem ok_are_unlike {f : Addr} {fd : FuncData} (B : Bs mg) (C : Cs K mg) (F : Fun K "are_unlike" "are_unlike" s_are_unlike f fd) (gm : mg "are_unlike" = some (.ref f)) (hb : Binds K fd ["row"] []) (k_need_row : FnK P w K mg base 3 1 "need_row" den_need_row) (k_unlike : FnK P w K mg base 1 1 "unlike" den_unlike) : FnK P w K mg base 4 1 "are_unlike" den_are_unlike :=
  ⟨f, fd, ["row"], rfl, gm, F.kp, hb, fn_ok (k := 3) (g := g_are_unlike) [] F sc_are_unlike (by decide) fun Z cdv A outer s H E hr tk hp => by
    have sc := sc_are_unlike
    unfold g_are_unlike
    exact (dss_cons (ds_expr ((d_callK tk k_need_row hr (dae_cons (d_var 0) dae_nil))).toR)
      (dss_cons (ds_ret (d_callK tk k_unlike hr (dae_cons (d_var 0) dae_nil)))
      dss_nil))⟩
abbrev s__law_is : Stmt := topS 25
def cs__law_is : List (Str × Str) := [("NoRow", "NoRow")]
abbrev s__law_mixed : Stmt := topS 26
abbrev N__law_mixed : List Str := ["cell", "k", "mixed"]
theorem sc__law_mixed : FnScope N__law_mixed ["cell", "k"] (defScope s__law_mixed) := ⟨rfl, rfl, rfl, by decide +kernel, rfl, by decide +kernel, by decide +kernel⟩
noncomputable def g__law_mixed : FS := (fSeq (fSet 2 (f2 modD (fCall intD (fCons (f2 addD (f2 mulD (f2 addD (fCall absD (fCons (fVar 0) fNil)) (fC (.int 1))) (fC (.int 48271))) (f2 mulD (fVar 1) (fC (.int 69621)))) fNil)) (fC (.int 2147483647))))
    (fSeq (fRet (f2 modD (fCall intD (fCons (f2 addD (f2 mulD (fVar 2) (fC (.int 16807))) (f2 mulD (fVar 1) (fC (.int 31)))) fNil)) (fC (.int 2147483629))))
    fSkip))
noncomputable def den__law_mixed : List D → R D := runD 2 N__law_mixed g__law_mixed
theorem ok__law_mixed {f : Addr} {fd : FuncData} (B : Bs mg) (C : Cs K mg) (F : Fun K "_law_mixed" "_law_mixed" s__law_mixed f fd) (gm : mg "_law_mixed" = some (.ref f)) (hb : Binds K fd ["cell", "k"] []) : FnK P w K mg base 1 2 "_law_mixed" den__law_mixed :=
  ⟨f, fd, ["cell", "k"], rfl, gm, F.kp, hb, fn_ok (k := 0) (g := g__law_mixed) [] F sc__law_mixed (by decide) fun Z cdv A outer s H E hr tk hp => by
    have sc := sc__law_mixed
    unfold g__law_mixed
    exact (dss_cons (ds_set 2 ((d_bin od_mod nr_mod ((d_ty cd_int nr_int B.b_int (by decide +kernel) (da_cons ((d_bin od_add nr_add ((d_bin od_mul nr_mul ((d_bin od_add nr_add ((d_blt cd_abs nr_abs B.b_abs (by decide +kernel) (da_cons ((d_var 0)).toR da_nil))).toR (d_int).toR)).toR (d_int).toR)).toR ((d_bin od_mul nr_mul ((d_var 1)).toR (d_int).toR)).toR)).toR da_nil))).toR (d_int).toR)).toE (by decide) sc.nd)
      (dss_cons (ds_ret ((d_bin od_mod nr_mod ((d_ty cd_int nr_int B.b_int (by decide +kernel) (da_cons ((d_bin od_add nr_add ((d_bin od_mul nr_mul ((d_var 2)).toR (d_int).toR)).toR ((d_bin od_mul nr_mul ((d_var 1)).toR (d_int).toR)).toR)).toR da_nil))).toR (d_int).toR)).toE)
      dss_nil))⟩
abbrev s__law_left : Stmt := topS 27
abbrev N__law_left : List Str := ["cell", "times", "_"]
theorem sc__law_left : FnScope N__law_left ["cell", "times"] (defScope s__law_left) := ⟨rfl, rfl, rfl, by decide +kernel, rfl, by decide +kernel, by decide +kernel⟩
noncomputable def g__law_left : FS := (fSeq (fFor (fRng rng1 (fCons (fVar 1) fNil)) (gfName 2) (fSeq (fSet 0 (f2 fdivD (fVar 0) (fC (.int 1000))))
    fSkip))
    (fSeq (fRet (fVar 0))
    fSkip))
noncomputable def den__law_left : List D → R D := runD 2 N__law_left g__law_left
theorem ok__law_left {f : Addr} {fd : FuncData} (B : Bs mg) (C : Cs K mg) (F : Fun K "_law_left" "_law_left" s__law_left f fd) (gm : mg "_law_left" = some (.ref f)) (hb : Binds K fd ["cell", "times"] []) : FnK P w K mg base 1 2 "_law_left" den__law_left :=
  ⟨f, fd, ["cell", "times"], rfl, gm, F.kp, hb, fn_ok (k := 0) (g := g__law_left) [] F sc__law_left (by decide) fun Z cdv A outer s H E hr tk hp => by
    have sc := sc__law_left
    unfold g__law_left
    exact (dss_cons (ds_for [] hp rfl (di_range1 B.b_range (da_cons ((d_var 1)).toR da_nil)) (dg_name (ts := [2]) 2 sc.nd) (NoRG.name 2) (dss_cons (ds_set 0 ((d_bin od_fdiv nr_fdiv ((d_var 0)).toR (d_int).toR)).toE (by decide) sc.nd)
      dss_nil))
      (dss_cons (ds_ret (d_var 0))
      dss_nil))⟩
abbrev s__law_number : Stmt := topS 28
abbrev N__law_number : List Str := ["script", "k", "cell", "left"]
theorem sc__law_number : FnScope N__law_number ["script", "k"] (defScope s__law_number) := ⟨rfl, rfl, rfl, by decide +kernel, rfl, by decide +kernel, by decide +kernel⟩
noncomputable def g__law_number : FS := (fSeq (fIfS (fB (f2 eqD (fCall lenD (fCons (fVar 0) fNil)) (fC (.int 0)))) (fSeq (fRet (fCall den__law_mixed (fCons (fC (.int 0)) (fCons (fVar 1) fNil))))
    fSkip) fSkip)
    (fSeq (fSet 2 (f2 idxD (fVar 0) (f2 modD (fCall intD (fCons (fVar 1) fNil)) (fCall lenD (fCons (fVar 0) fNil)))))
    (fSeq (fSet 3 (fCall den__law_left (fCons (fCall absD (fCons (fVar 2) fNil)) (fCons (f2 fdivD (fVar 1) (fCall lenD (fCons (fVar 0) fNil))) fNil))))
    (fSeq (fIfS (fAndT (fB (f2 (blD geB) (fCall absD (fCons (fVar 2) fNil)) (f2 powD (fC (.int 10)) (fC (.int 18))))) (fB (f2 (blD gtB) (fVar 3) (fC (.int 0))))) (fSeq (fRet (f2 modD (fCall intD (fCons (fVar 3) fNil)) (fC (.int 1000))))
    fSkip) fSkip)
    (fSeq (fRet (fCall den__law_mixed (fCons (fVar 2) (fCons (fVar 1) fNil))))
    fSkip)))))
noncomputable def den__law_number : List D → R D := runD 2 N__law_number g__law_number
theorem ok__law_number {f : Addr} {fd : FuncData} (B : Bs mg) (C : Cs K mg) (F : Fun K "_law_number" "_law_number" s__law_number f fd) (gm : mg "_law_number" = some (.ref f)) (hb : Binds K fd ["script", "k"] []) (k__law_mixed : FnK P w K mg base 1 2 "_law_mixed" den__law_mixed) (k__law_left : FnK P w K mg base 1 2 "_law_left" den__law_left) : FnK P w K mg base 2 2 "_law_number" den__law_number :=
  ⟨f, fd, ["script", "k"], rfl, gm, F.kp, hb, fn_ok (k := 1) (g := g__law_number) [] F sc__law_number (by decide) fun Z cdv A outer s H E hr tk hp => by
    have sc := sc__law_number
    unfold g__law_number
    exact (dss_cons (ds_if (dt_cmp (od_eq (u64 hr)) nr_eq ((d_blt cd_len nr_len B.b_len (by decide +kernel) (da_cons ((d_var 0)).toR da_nil))).toR (d_int).toR) (dss_cons (ds_ret (d_callK tk k__law_mixed hr (dae_cons (d_int).toE (dae_cons (d_var 1) dae_nil))))
      dss_nil) dss_nil)
      (dss_cons (ds_set 2 (d_ix ((d_var 0)).toR ((d_bin od_mod nr_mod ((d_ty cd_int nr_int B.b_int (by decide +kernel) (da_cons ((d_var 1)).toR da_nil))).toR ((d_blt cd_len nr_len B.b_len (by decide +kernel) (da_cons ((d_var 0)).toR da_nil))).toR)).toR) (by decide) sc.nd)
      (dss_cons (ds_set 3 (d_callK tk k__law_left hr (dae_cons ((d_blt cd_abs nr_abs B.b_abs (by decide +kernel) (da_cons ((d_var 2)).toR da_nil))).toE (dae_cons ((d_bin od_fdiv nr_fdiv ((d_var 1)).toR ((d_blt cd_len nr_len B.b_len (by decide +kernel) (da_cons ((d_var 0)).toR da_nil))).toR)).toE dae_nil))) (by decide) sc.nd)
      (dss_cons (ds_if (dw_and (dt_cmp od_ge nr_ge ((d_blt cd_abs nr_abs B.b_abs (by decide +kernel) (da_cons ((d_var 2)).toR da_nil))).toR ((d_bin od_pow nr_pow (d_int).toR (d_int).toR)).toR) (dw_and1 (dt_cmp od_gt nr_gt ((d_var 3)).toR (d_int).toR))).t (dss_cons (ds_ret ((d_bin od_mod nr_mod ((d_ty cd_int nr_int B.b_int (by decide +kernel) (da_cons ((d_var 3)).toR da_nil))).toR (d_int).toR)).toE)
      dss_nil) dss_nil)
      (dss_cons (ds_ret (d_callK tk k__law_mixed hr (dae_cons (d_var 2) (dae_cons (d_var 1) dae_nil))))
      dss_nil)))))⟩
abbrev s__law_whole : Stmt := topS 29
abbrev N__law_whole : List Str := ["thing"]
theorem sc__law_whole : FnScope N__law_whole ["thing"] (defScope s__law_whole) := ⟨rfl, rfl, rfl, by decide +kernel, rfl, by decide +kernel, by decide +kernel⟩
noncomputable def g__law_whole : FS := (fSeq (fRet (fAnd (fIsi "int" (fVar 0)) (fNot (fIsi "bool" (fVar 0)))))
    fSkip)
noncomputable def den__law_whole : List D → R D := runD 1 N__law_whole g__law_whole
theorem ok__law_whole {f : Addr} {fd : FuncData} (B : Bs mg) (C : Cs K mg) (F : Fun K "_law_whole" "_law_whole" s__law_whole f fd) (gm : mg "_law_whole" = some (.ref f)) (hb : Binds K fd ["thing"] []) : FnK P w K mg base 1 1 "_law_whole" den__law_whole :=
  ⟨f, fd, ["thing"], rfl, gm, F.kp, hb, fn_ok (k := 0) (g := g__law_whole) [] F sc__law_whole (by decide) fun Z cdv A outer s H E hr tk hp => by
    have sc := sc__law_whole
    unfold g__law_whole
    exact (dss_cons (ds_ret (d_and ((d_isi ((d_var 0)).toR B.b_isinstance B.b_int (by decide +kernel))).toE (d_one ((d_not ((d_isi ((d_var 0)).toR B.b_isinstance B.b_bool (by decide +kernel))).toR)).toE)))
      dss_nil)⟩
abbrev s__law_row : Stmt := topS 30
abbrev N__law_row : List Str := ["thing", "number"]
theorem sc__law_row : FnScope N__law_row ["thing"] (defScope s__law_row) := ⟨rfl, rfl, rfl, by decide +kernel, rfl, by decide +kernel, by decide +kernel⟩
noncomputable def g__law_row : FS := (fSeq (fRet (fAnd (fIsi "tuple" (fVar 0)) (fCall allD (fCons (fLc (fSeqOf (fVar 0)) (gfName 1) fYes (fCall den__law_whole (fCons (fVar 1) fNil)) [1]) fNil))))
    fSkip)
noncomputable def den__law_row : List D → R D := runD 1 N__law_row g__law_row
theorem ok__law_row {f : Addr} {fd : FuncData} (B : Bs mg) (C : Cs K mg) (F : Fun K "_law_row" "_law_row" s__law_row f fd) (gm : mg "_law_row" = some (.ref f)) (hb : Binds K fd ["thing"] []) (k__law_whole : FnK P w K mg base 1 1 "_law_whole" den__law_whole) : FnK P w K mg base 2 1 "_law_row" den__law_row :=
  ⟨f, fd, ["thing"], rfl, gm, F.kp, hb, fn_ok (k := 1) (g := g__law_row) [] F sc__law_row (by decide) fun Z cdv A outer s H E hr tk hp => by
    have sc := sc__law_row
    unfold g__law_row
    exact (dss_cons (ds_ret (d_and ((d_isi ((d_var 0)).toR B.b_isinstance B.b_tuple (by decide +kernel))).toE (d_one ((d_blt (cd_all rfl) nr_all B.b_all (by decide +kernel) (da_cons ((d_lc [("number", 1)] rfl sc.nd (di_seq (d_var 0)) (blkOk_by (own := [("number", 1)]) (N := N__law_row) (sc := defScope s__law_row) (by decide +kernel)) (fun _ _ _ _ _ => (dg_name (ts := [1]) 1 sc.nd)) (fun _ _ _ _ _ => dts_nil) (fun _ _ _ _ _ => (d_callK takes0 k__law_whole hr (dae_cons (d_var 1) dae_nil))))).toR da_nil))).toE)))
      dss_nil)⟩
abbrev s__law_flag : Stmt := topS 31
abbrev N__law_flag : List Str := ["thing", "due"]
theorem sc__law_flag : FnScope N__law_flag ["thing", "due"] (defScope s__law_flag) := ⟨rfl, rfl, rfl, by decide +kernel, rfl, by decide +kernel, by decide +kernel⟩
noncomputable def g__law_flag : FS := (fSeq (fIfS (fTru (fVar 1)) (fSeq (fRet (f2 isXD (fVar 0) (fC (.bl true))))
    fSkip) fSkip)
    (fSeq (fRet (f2 isXD (fVar 0) (fC (.bl false))))
    fSkip))
noncomputable def den__law_flag : List D → R D := runD 2 N__law_flag g__law_flag
theorem ok__law_flag {f : Addr} {fd : FuncData} (B : Bs mg) (C : Cs K mg) (F : Fun K "_law_flag" "_law_flag" s__law_flag f fd) (gm : mg "_law_flag" = some (.ref f)) (hb : Binds K fd ["thing", "due"] []) : FnK P w K mg base 1 2 "_law_flag" den__law_flag :=
  ⟨f, fd, ["thing", "due"], rfl, gm, F.kp, hb, fn_ok (k := 0) (g := g__law_flag) [] F sc__law_flag (by decide) fun Z cdv A outer s H E hr tk hp => by
    have sc := sc__law_flag
    unfold g__law_flag
    exact (dss_cons (ds_if (dt_tru ((d_var 1)).toR) (dss_cons (ds_ret ((d_cmp od_isX nr_isX ((d_var 0)).toR (d_bl).toR)).toE)
      dss_nil) dss_nil)
      (dss_cons (ds_ret ((d_cmp od_isX nr_isX ((d_var 0)).toR (d_bl).toR)).toE)
      dss_nil))⟩
abbrev s__law_refused_one : Stmt := topS 32
abbrev N__law_refused_one : List Str := ["action", "first", "third", "e"]
theorem sc__law_refused_one : FnScope N__law_refused_one ["action", "first", "third"] (defScope s__law_refused_one) := ⟨rfl, rfl, rfl, by decide +kernel, rfl, by decide +kernel, by decide +kernel⟩
noncomputable def g__law_refused_one : FS := (fSeq (fTry (fSeq (fExpr (fCallV [("rising", den_rising)] 0 (fCons (fVar 1) fNil)))
    fSkip) subE "ShelfError" excL 3 (fIs subE cs__law_is (fVar 2)))
    (fSeq (fRet (fC (.bl false)))
    fSkip))
noncomputable def den__law_refused_one : List D → R D := runD 3 N__law_refused_one g__law_refused_one
theorem ok__law_refused_one {f : Addr} {fd : FuncData} (B : Bs mg) (C : Cs K mg) (F : Fun K "_law_refused_one" "_law_refused_one" s__law_refused_one f fd) (gm : mg "_law_refused_one" = some (.ref f)) (hb : Binds K fd ["action", "first", "third"] []) (k_rising : FnK P w K mg base 4 1 "rising" den_rising) (k__law_is : IsFnB K mg base P w "_law_is" cs__law_is) : FnK P w K mg base 5 3 "_law_refused_one" den__law_refused_one :=
  ⟨f, fd, ["action", "first", "third"], rfl, gm, F.kp, hb, fn_ok (k := 4) (g := g__law_refused_one) [] F sc__law_refused_one (by decide) fun Z cdv A outer s H E hr tk hp => by
    have k__law_is := k__law_is.atX (cxOf (L2N.CX P w) P w K mg base N__law_refused_one "_law_refused_one" (defScope s__law_refused_one) f cdv A outer s H E) rfl rfl rfl rfl rfl
    have sc := sc__law_refused_one
    unfold g__law_refused_one
    exact (dss_cons (ds_try 3 sc.nd tk C.T (by decide) (fun W pn xe tk hp => (dss_cons (ds_expr ((d_callv (n := 1) 0 tk (tbl_cons (k := 4) k_rising (by decide) tbl_nil) (hr.mono (by decide)) (dae_cons (d_var 1) dae_nil))).toR)
      dss_nil)) (su_is k__law_is (L2H.roomH_of (hr.mono (by decide))) (fun _ _ => ((d_var 2)).toR)))
      (dss_cons (ds_ret (d_bl).toE)
      dss_nil))⟩
abbrev s__law_row_of : Stmt := topS 33
abbrev N__law_row_of : List Str := ["script", "at", "most", "size", "top", "found", "k"]
theorem sc__law_row_of : FnScope N__law_row_of ["script", "at", "most"] (defScope s__law_row_of) := ⟨rfl, rfl, rfl, by decide +kernel, rfl, by decide +kernel, by decide +kernel⟩
noncomputable def g__law_row_of : FS := (fSeq (fSet 3 (f2 modD (fCall intD (fCons (fCall den__law_number (fCons (fVar 0) (fCons (fVar 1) fNil))) fNil)) (f2 addD (fVar 2) (fC (.int 1)))))
    (fSeq (fSet 4 (f2 idxD (fLst (fCons (fC (.int 3)) (fCons (fC (.int 12)) (fCons (fC (.int 2000001)) fNil)))) (f2 modD (fCall intD (fCons (fCall den__law_number (fCons (fVar 0) (fCons (f2 addD (fVar 1) (fC (.int 1))) fNil))) fNil)) (fC (.int 3)))))
    (fSeq (fSet 5 (fLc (fRng rng1 (fCons (fVar 3) fNil)) (gfName 6) fYes (f2 subD (f2 modD (fCall intD (fCons (fCall den__law_number (fCons (fVar 0) (fCons (f2 addD (f2 addD (fVar 1) (fC (.int 2))) (fVar 6)) fNil))) fNil)) (fVar 4)) (f2 fdivD (fVar 4) (fC (.int 2)))) [6]))
    (fSeq (fIfS (fB (f2 eqD (f2 modD (fCall intD (fCons (f2 fdivD (fCall den__law_number (fCons (fVar 0) (fCons (f2 addD (fVar 1) (fC (.int 1))) fNil))) (fC (.int 3))) fNil)) (fC (.int 4))) (fC (.int 0)))) (fSeq (fSet 5 (fCall sortedAD (fCons (fVar 5) fNil)))
    (fSeq (fIfS (fB (f2 (blD gtB) (fVar 3) (fC (.int 1)))) (fSeq (fSet 5 (f2 addD (fSl (fVar 5) (fO1 (fC (.int 1))) fO0) (fSl (fVar 5) fO0 (fO1 (fC (.int 1))))))
    fSkip) fSkip)
    fSkip)) fSkip)
    (fSeq (fRet (fCall tupleD (fCons (fVar 5) fNil)))
    fSkip)))))
noncomputable def den__law_row_of : List D → R D := runD 3 N__law_row_of g__law_row_of
theorem ok__law_row_of {f : Addr} {fd : FuncData} (B : Bs mg) (C : Cs K mg) (F : Fun K "_law_row_of" "_law_row_of" s__law_row_of f fd) (gm : mg "_law_row_of" = some (.ref f)) (hb : Binds K fd ["script", "at", "most"] []) (k__law_number : FnK P w K mg base 2 2 "_law_number" den__law_number) : FnK P w K mg base 3 3 "_law_row_of" den__law_row_of :=
  ⟨f, fd, ["script", "at", "most"], rfl, gm, F.kp, hb, fn_ok (k := 2) (g := g__law_row_of) [] F sc__law_row_of (by decide) fun Z cdv A outer s H E hr tk hp => by
    have sc := sc__law_row_of
    unfold g__law_row_of
    exact (dss_cons (ds_set 3 ((d_bin od_mod nr_mod ((d_ty cd_int nr_int B.b_int (by decide +kernel) (da_cons ((d_callK tk k__law_number hr (dae_cons (d_var 0) (dae_cons (d_var 1) dae_nil)))).toR da_nil))).toR ((d_bin od_add nr_add ((d_var 2)).toR (d_int).toR)).toR)).toE (by decide) sc.nd)
      (dss_cons (ds_set 4 (d_ix ((d_lst (dae_cons (d_int).toE (dae_cons (d_int).toE (dae_cons (d_int).toE dae_nil))))).toR ((d_bin od_mod nr_mod ((d_ty cd_int nr_int B.b_int (by decide +kernel) (da_cons ((d_callK tk k__law_number hr (dae_cons (d_var 0) (dae_cons ((d_bin od_add nr_add ((d_var 1)).toR (d_int).toR)).toE dae_nil)))).toR da_nil))).toR (d_int).toR)).toR) (by decide) sc.nd)
      (dss_cons (ds_setLc 5 [("k", 6)] rfl sc.nd (sw_true rfl rfl rfl (by decide +kernel)) (di_range1 B.b_range (da_cons ((d_var 3)).toR da_nil)) (blkOk_by (own := [("k", 6)]) (N := N__law_row_of) (sc := defScope s__law_row_of) (by decide +kernel)) (fun _ _ _ _ _ => (dg_name (ts := [6]) 6 sc.nd)) (fun _ _ _ _ _ => dts_nil) (fun _ _ _ _ _ => ((d_bin od_sub nr_sub ((d_bin od_mod nr_mod ((d_ty cd_int nr_int B.b_int (by decide +kernel) (da_cons ((d_callK takes0 k__law_number hr (dae_cons (d_var 0) (dae_cons ((d_bin od_add nr_add ((d_bin od_add nr_add ((d_var 1)).toR (d_int).toR)).toR ((d_var 6)).toR)).toE dae_nil)))).toR da_nil))).toR ((d_var 4)).toR)).toR ((d_bin od_fdiv nr_fdiv ((d_var 4)).toR (d_int).toR)).toR)).toE))
      (dss_cons (ds_if (dt_cmp (od_eq (u64 hr)) nr_eq ((d_bin od_mod nr_mod ((d_ty cd_int nr_int B.b_int (by decide +kernel) (da_cons ((d_bin od_fdiv nr_fdiv ((d_callK tk k__law_number hr (dae_cons (d_var 0) (dae_cons ((d_bin od_add nr_add ((d_var 1)).toR (d_int).toR)).toE dae_nil)))).toR (d_int).toR)).toR da_nil))).toR (d_int).toR)).toR (d_int).toR) (dss_cons (ds_set 5 ((d_blt (cd_sortedA (u64 hr)) nr_sortedA B.b_sorted (by decide +kernel) (da_cons ((d_var 5)).toR da_nil))).toE (by decide) sc.nd)
      (dss_cons (ds_if (dt_cmp od_gt nr_gt ((d_var 3)).toR (d_int).toR) (dss_cons (ds_set 5 ((d_bin od_add nr_add ((d_slice ((d_var 5)).toR (do_some (d_int).toR) do_none)).toR ((d_slice ((d_var 5)).toR do_none (do_some (d_int).toR))).toR)).toE (by decide) sc.nd)
      dss_nil) dss_nil)
      dss_nil)) dss_nil)
      (dss_cons (ds_ret ((d_ty cd_tuple nr_tuple B.b_tuple (by decide +kernel) (da_cons ((d_var 5)).toR da_nil))).toE)
      dss_nil)))))⟩
abbrev s__law_ready : Stmt := topS 34
abbrev N__law_ready : List Str := ["row", "at"]
theorem sc__law_ready : FnScope N__law_ready ["row"] (defScope s__law_ready) := ⟨rfl, rfl, rfl, by decide +kernel, rfl, by decide +kernel, by decide +kernel⟩
noncomputable def g__law_ready : FS := (fSeq (fRet (fCall allD (fCons (fLc (fRng rng2 (fCons (fC (.int 1)) (fCons (fCall lenD (fCons (fVar 0) fNil)) fNil))) (gfName 1) fYes (f2 (blD leB) (f2 idxD (fVar 0) (f2 subD (fVar 1) (fC (.int 1)))) (f2 idxD (fVar 0) (fVar 1))) [1]) fNil)))
    fSkip)
noncomputable def den__law_ready : List D → R D := runD 1 N__law_ready g__law_ready
theorem ok__law_ready {f : Addr} {fd : FuncData} (B : Bs mg) (C : Cs K mg) (F : Fun K "_law_ready" "_law_ready" s__law_ready f fd) (gm : mg "_law_ready" = some (.ref f)) (hb : Binds K fd ["row"] []) : FnK P w K mg base 1 1 "_law_ready" den__law_ready :=
  ⟨f, fd, ["row"], rfl, gm, F.kp, hb, fn_ok (k := 0) (g := g__law_ready) [] F sc__law_ready (by decide) fun Z cdv A outer s H E hr tk hp => by
    have sc := sc__law_ready
    unfold g__law_ready
    exact (dss_cons (ds_ret ((d_blt (cd_all rfl) nr_all B.b_all (by decide +kernel) (da_cons ((d_lc [("at", 1)] rfl sc.nd (di_range2 B.b_range (da_cons (d_int).toR (da_cons ((d_blt cd_len nr_len B.b_len (by decide +kernel) (da_cons ((d_var 0)).toR da_nil))).toR da_nil))) (blkOk_by (own := [("at", 1)]) (N := N__law_ready) (sc := defScope s__law_ready) (by decide +kernel)) (fun _ _ _ _ _ => (dg_name (ts := [1]) 1 sc.nd)) (fun _ _ _ _ _ => dts_nil) (fun _ _ _ _ _ => ((d_cmp od_le nr_le ((d_ix ((d_var 0)).toR ((d_bin od_sub nr_sub ((d_var 1)).toR (d_int).toR)).toR)).toR ((d_ix ((d_var 0)).toR ((d_var 1)).toR)).toR)).toE))).toR da_nil))).toE)
      dss_nil)⟩
abbrev s__law_longest : Stmt := topS 35
abbrev N__law_longest : List Str := ["row", "best", "at", "k"]
theorem sc__law_longest : FnScope N__law_longest ["row"] (defScope s__law_longest) := ⟨rfl, rfl, rfl, by decide +kernel, rfl, by decide +kernel, by decide +kernel⟩
noncomputable def g__law_longest : FS := (fSeq (fSet 1 (fLst fNil))
    (fSeq (fFor (fRng rng1 (fCons (fCall lenD (fCons (fVar 0) fNil)) fNil)) (gfName 2) (fSeq (fApp 1 (f2 addD (fC (.int 1)) (fCall maxD (fCons (f2 addD (fLst (fCons (fC (.int 0)) fNil)) (fLc (fRng rng1 (fCons (fVar 2) fNil)) (gfName 3) (fB (f2 (blD leB) (f2 idxD (fVar 0) (fVar 3)) (f2 idxD (fVar 0) (fVar 2)))) (f2 idxD (fVar 1) (fVar 3)) [3])) fNil))))
    fSkip))
    (fSeq (fRet (fCall maxD (fCons (f2 addD (fLst (fCons (fC (.int 0)) fNil)) (fVar 1)) fNil)))
    fSkip)))
noncomputable def den__law_longest : List D → R D := runD 1 N__law_longest g__law_longest
theorem ok__law_longest {f : Addr} {fd : FuncData} (B : Bs mg) (C : Cs K mg) (F : Fun K "_law_longest" "_law_longest" s__law_longest f fd) (gm : mg "_law_longest" = some (.ref f)) (hb : Binds K fd ["row"] []) : FnK P w K mg base 1 1 "_law_longest" den__law_longest :=
  ⟨f, fd, ["row"], rfl, gm, F.kp, hb, fn_ok (k := 0) (g := g__law_longest) [1] F sc__law_longest (by decide) fun Z cdv A outer s H E hr tk hp => by
    have sc := sc__law_longest
    unfold g__law_longest
    exact (dss_cons (ds_setO 1 (d_lst dae_nil) sc.nd)
      (dss_cons (ds_for [] hp rfl (di_range1 B.b_range (da_cons ((d_blt cd_len nr_len B.b_len (by decide +kernel) (da_cons ((d_var 0)).toR da_nil))).toR da_nil)) (dg_name (ts := [2]) 2 sc.nd) (NoRG.name 2) (dss_cons (ds_append 1 ((d_bin od_add nr_add (d_int).toR ((d_blt (cd_max rfl) nr_max B.b_max (by decide +kernel) (da_cons ((d_bin od_add nr_add ((d_lst (dae_cons (d_int).toE dae_nil))).toR ((d_lc [("k", 3)] rfl sc.nd (di_range1 B.b_range (da_cons ((d_var 2)).toR da_nil)) (blkOk_by (own := [("k", 3)]) (N := N__law_longest) (sc := defScope s__law_longest) (by decide +kernel)) (fun _ _ _ _ _ => (dg_name (ts := [3]) 3 sc.nd)) (fun _ _ _ _ _ => (dts_one (dt_cmp od_le nr_le ((d_ix ((d_var 0)).toR ((d_var 3)).toR)).toR ((d_ix ((d_var 0)).toR ((d_var 2)).toR)).toR))) (fun _ _ _ _ _ => (d_ix (d_own 1) ((d_var 3)).toR)))).toR)).toR da_nil))).toR)).toE)
      dss_nil))
      (dss_cons (ds_ret ((d_blt (cd_max rfl) nr_max B.b_max (by decide +kernel) (da_cons ((d_bin od_add nr_add ((d_lst (dae_cons (d_int).toE dae_nil))).toR (d_own 1))).toR da_nil))).toE)
      dss_nil)))⟩
abbrev s__law_lots : Stmt := topS 36
abbrev N__law_lots : List Str := ["n", "found", "k", "lot"]
theorem sc__law_lots : FnScope N__law_lots ["n"] (defScope s__law_lots) := ⟨rfl, rfl, rfl, by decide +kernel, rfl, by decide +kernel, by decide +kernel⟩
noncomputable def g__law_lots : FS := (fSeq (fSet 1 (fLst (fCons (fTup fNil) fNil)))
    (fSeq (fFor (fRng rng1 (fCons (fVar 0) fNil)) (gfName 2) (fSeq (fSet 1 (f2 addD (fVar 1) (fLc (fSeqOf (fVar 1)) (gfName 3) fYes (f2 addD (fVar 3) (fTup (fCons (fVar 2) fNil))) [3])))
    fSkip))
    (fSeq (fRet (fVar 1))
    fSkip)))
noncomputable def den__law_lots : List D → R D := runD 1 N__law_lots g__law_lots
theorem ok__law_lots {f : Addr} {fd : FuncData} (B : Bs mg) (C : Cs K mg) (F : Fun K "_law_lots" "_law_lots" s__law_lots f fd) (gm : mg "_law_lots" = some (.ref f)) (hb : Binds K fd ["n"] []) : FnK P w K mg base 1 1 "_law_lots" den__law_lots :=
  ⟨f, fd, ["n"], rfl, gm, F.kp, hb, fn_ok (k := 0) (g := g__law_lots) [] F sc__law_lots (by decide) fun Z cdv A outer s H E hr tk hp => by
    have sc := sc__law_lots
    unfold g__law_lots
    exact (dss_cons (ds_set 1 ((d_lst (dae_cons ((d_tup dae_nil)).toE dae_nil))).toE (by decide) sc.nd)
      (dss_cons (ds_for [] hp rfl (di_range1 B.b_range (da_cons ((d_var 0)).toR da_nil)) (dg_name (ts := [2]) 2 sc.nd) (NoRG.name 2) (dss_cons (ds_set 1 ((d_bin od_add nr_add ((d_var 1)).toR ((d_lc [("lot", 3)] rfl sc.nd (di_seq (d_var 1)) (blkOk_by (own := [("lot", 3)]) (N := N__law_lots) (sc := defScope s__law_lots) (by decide +kernel)) (fun _ _ _ _ _ => (dg_name (ts := [3]) 3 sc.nd)) (fun _ _ _ _ _ => dts_nil) (fun _ _ _ _ _ => ((d_bin od_add nr_add ((d_var 3)).toR ((d_tup (dae_cons (d_var 2) dae_nil))).toR)).toE))).toR)).toE (by decide) sc.nd)
      dss_nil))
      (dss_cons (ds_ret (d_var 1))
      dss_nil)))⟩
abbrev s__law_flat : Stmt := topS 37
abbrev N__law_flat : List Str := ["thing", "found", "lot"]
theorem sc__law_flat : FnScope N__law_flat ["thing"] (defScope s__law_flat) := ⟨rfl, rfl, rfl, by decide +kernel, rfl, by decide +kernel, by decide +kernel⟩
noncomputable def g__law_flat : FS := (fSeq (fSet 1 (fLst fNil))
    (fSeq (fFor (fSeqOf (fVar 0)) (gfName 2) (fSeq (fSet 1 (f2 addD (fVar 1) (fCall listD (fCons (fVar 2) fNil))))
    fSkip))
    (fSeq (fRet (fVar 1))
    fSkip)))
noncomputable def den__law_flat : List D → R D := runD 1 N__law_flat g__law_flat
theorem ok__law_flat {f : Addr} {fd : FuncData} (B : Bs mg) (C : Cs K mg) (F : Fun K "_law_flat" "_law_flat" s__law_flat f fd) (gm : mg "_law_flat" = some (.ref f)) (hb : Binds K fd ["thing"] []) : FnK P w K mg base 1 1 "_law_flat" den__law_flat :=
  ⟨f, fd, ["thing"], rfl, gm, F.kp, hb, fn_ok (k := 0) (g := g__law_flat) [] F sc__law_flat (by decide) fun Z cdv A outer s H E hr tk hp => by
    have sc := sc__law_flat
    unfold g__law_flat
    exact (dss_cons (ds_set 1 ((d_lst dae_nil)).toE (by decide) sc.nd)
      (dss_cons (ds_for [] hp rfl (di_seq (d_var 0)) (dg_name (ts := [2]) 2 sc.nd) (NoRG.name 2) (dss_cons (ds_set 1 ((d_bin od_add nr_add ((d_var 1)).toR ((d_ty cd_list nr_list B.b_list (by decide +kernel) (da_cons ((d_var 2)).toR da_nil))).toR)).toE (by decide) sc.nd)
      dss_nil))
      (dss_cons (ds_ret (d_var 1))
      dss_nil)))⟩
abbrev s__law_is_falls : Stmt := topS 38
abbrev N__law_is_falls : List Str := ["row", "thing", "lot", "k"]
theorem sc__law_is_falls : FnScope N__law_is_falls ["row", "thing"] (defScope s__law_is_falls) := ⟨rfl, rfl, rfl, by decide +kernel, rfl, by decide +kernel, by decide +kernel⟩
noncomputable def g__law_is_falls : FS := (fSeq (fIfS (fB (f2 neD (fCall sortedAD (fCons (fCall den__law_flat (fCons (fVar 1) fNil)) fNil)) (fLRg (fCons (fCall lenD (fCons (fVar 0) fNil)) fNil)))) (fSeq (fRet (fC (.bl false)))
    fSkip) fSkip)
    (fSeq (fFor (fSeqOf (fVar 1)) (gfName 2) (fSeq (fIfS (fOrT (fB (f2 eqD (fCall lenD (fCons (fVar 2) fNil)) (fC (.int 0)))) (fB (f2 neD (fCall listD (fCons (fVar 2) fNil)) (fSortSet (fVar 2))))) (fSeq (fRet (fC (.bl false)))
    fSkip) fSkip)
    (fSeq (fIfS (fNotT (fTru (fCall allD (fCons (fLc (fRng rng2 (fCons (fC (.int 1)) (fCons (fCall lenD (fCons (fVar 2) fNil)) fNil))) (gfName 3) fYes (f2 (blD gtB) (f2 idxD (fVar 0) (f2 idxD (fVar 2) (f2 subD (fVar 3) (fC (.int 1))))) (f2 idxD (fVar 0) (f2 idxD (fVar 2) (fVar 3)))) [3]) fNil)))) (fSeq (fRet (fC (.bl false)))
    fSkip) fSkip)
    fSkip)))
    (fSeq (fRet (fC (.bl true)))
    fSkip)))
noncomputable def den__law_is_falls : List D → R D := runD 2 N__law_is_falls g__law_is_falls
theorem ok__law_is_falls {f : Addr} {fd : FuncData} (B : Bs mg) (C : Cs K mg) (F : Fun K "_law_is_falls" "_law_is_falls" s__law_is_falls f fd) (gm : mg "_law_is_falls" = some (.ref f)) (hb : Binds K fd ["row", "thing"] []) (k__law_flat : FnK P w K mg base 1 1 "_law_flat" den__law_flat) : FnK P w K mg base 2 2 "_law_is_falls" den__law_is_falls :=
  ⟨f, fd, ["row", "thing"], rfl, gm, F.kp, hb, fn_ok (k := 1) (g := g__law_is_falls) [] F sc__law_is_falls (by decide) fun Z cdv A outer s H E hr tk hp => by
    have sc := sc__law_is_falls
    unfold g__law_is_falls
    exact (dss_cons (ds_if (dt_cmp (od_ne (u64 hr)) nr_ne ((d_blt (cd_sortedA (u64 hr)) nr_sortedA B.b_sorted (by decide +kernel) (da_cons ((d_callK tk k__law_flat hr (dae_cons (d_var 1) dae_nil))).toR da_nil))).toR ((d_lstRg rfl (by rfl) B.b_list (prd_1 (by rfl) B.b_range ((d_blt cd_len nr_len B.b_len (by decide +kernel) (da_cons ((d_var 0)).toR da_nil))).toR))).toR) (dss_cons (ds_ret (d_bl).toE)
      dss_nil) dss_nil)
      (dss_cons (ds_for [] hp rfl (di_seq (d_var 1)) (dg_name (ts := [2]) 2 sc.nd) (NoRG.name 2) (dss_cons (ds_if (dw_or (dt_cmp (od_eq (u64 hr)) nr_eq ((d_blt cd_len nr_len B.b_len (by decide +kernel) (da_cons ((d_var 2)).toR da_nil))).toR (d_int).toR) (dw_or1 (dt_cmp (od_ne (u64 hr)) nr_ne ((d_ty cd_list nr_list B.b_list (by decide +kernel) (da_cons ((d_var 2)).toR da_nil))).toR ((d_sortSet ((d_var 2)).toR rfl (u64 hr) B.b_sorted B.b_set)).toR))).t (dss_cons (ds_ret (d_bl).toE)
      dss_nil) dss_nil)
      (dss_cons (ds_if (dt_not (dt_tru ((d_blt (cd_all rfl) nr_all B.b_all (by decide +kernel) (da_cons ((d_lc [("k", 3)] rfl sc.nd (di_range2 B.b_range (da_cons (d_int).toR (da_cons ((d_blt cd_len nr_len B.b_len (by decide +kernel) (da_cons ((d_var 2)).toR da_nil))).toR da_nil))) (blkOk_by (own := [("k", 3)]) (N := N__law_is_falls) (sc := defScope s__law_is_falls) (by decide +kernel)) (fun _ _ _ _ _ => (dg_name (ts := [3]) 3 sc.nd)) (fun _ _ _ _ _ => dts_nil) (fun _ _ _ _ _ => ((d_cmp od_gt nr_gt ((d_ix ((d_var 0)).toR ((d_ix ((d_var 2)).toR ((d_bin od_sub nr_sub ((d_var 3)).toR (d_int).toR)).toR)).toR)).toR ((d_ix ((d_var 0)).toR ((d_ix ((d_var 2)).toR ((d_var 3)).toR)).toR)).toR)).toE))).toR da_nil))).toR)) (dss_cons (ds_ret (d_bl).toE)
      dss_nil) dss_nil)
      dss_nil)))
      (dss_cons (ds_ret (d_bl).toE)
      dss_nil)))⟩
abbrev s_law : Stmt := topS 39
abbrev N_law : List Str := ["script", "row", "n", "good", "best", "told", "ends", "at", "due", "lot", "parts", "k", "some", "bad", "count"]
theorem sc_law : FnScope N_law ["script"] (defScope s_law) := ⟨rfl, rfl, rfl, by decide +kernel, rfl, by decide +kernel, by decide +kernel⟩
noncomputable def g_law : FS := (fSeq (fSet 1 (fCall den__law_row_of (fCons (fVar 0) (fCons (fC (.int 0)) (fCons (fC (.int 9)) fNil)))))
    (fSeq (fSet 2 (fCall lenD (fCons (fVar 1) fNil)))
    (fSeq (fSet 3 (fLc (fSeqOf (fCall den__law_lots (fCons (fVar 2) fNil))) (gfName 9) (fTru (fCall den__law_ready (fCons (fLc (fSeqOf (fVar 9)) (gfName 7) fYes (f2 idxD (fVar 1) (fVar 7)) [7]) fNil))) (fVar 9) [9]))
    (fSeq (fSet 4 (fCall maxD (fCons (fLc (fSeqOf (fVar 3)) (gfName 9) fYes (fCall lenD (fCons (fVar 9) fNil)) [9]) fNil)))
    (fSeq (fSet 5 (fCall den_rising (fCons (fVar 1) fNil)))
    (fSeq (fIfS (fOrT (fNotT (fTru (fCall den__law_row (fCons (fVar 5) fNil)))) (fOrT (fB (f2 neD (fVar 5) (fCall minAD (fCons (fLc (fSeqOf (fVar 3)) (gfName 9) (fB (f2 eqD (fCall lenD (fCons (fVar 9) fNil)) (fVar 4))) (fVar 9) [9]) fNil)))) (fB (f2 neD (fVar 4) (fCall den__law_longest (fCons (fVar 1) fNil)))))) (fSeq (fRet (fC (.bl false)))
    fSkip) fSkip)
    (fSeq (fSet 6 (fLst fNil))
    (fSeq (fFor (fRng rng1 (fCons (fVar 2) fNil)) (gfName 7) (fSeq (fApp 6 (f2 addD (fC (.int 1)) (fCall maxD (fCons (f2 addD (fLst (fCons (fC (.int 0)) fNil)) (fLc (fRng rng1 (fCons (fVar 7) fNil)) (gfName 11) (fB (f2 (blD leB) (f2 idxD (fVar 1) (fVar 11)) (f2 idxD (fVar 1) (fVar 7)))) (f2 idxD (fVar 6) (fVar 11)) [11])) fNil))))
    fSkip))
    (fSeq (fSet 8 (fCall tupleD (fCons (fLc (fRng rng2 (fCons (fC (.int 1)) (fCons (f2 addD (fVar 4) (fC (.int 1))) fNil))) (gfName 14) fYes (fCall tupleD (fCons (fLc (fRng rng1 (fCons (fVar 2) fNil)) (gfName 7) (fB (f2 eqD (f2 idxD (fVar 6) (fVar 7)) (fVar 14))) (fVar 7) [7]) fNil)) [14]) fNil)))
    (fSeq (fIfS (fOrT (fNotT (fTru (fIsi "tuple" (fCall den_falls (fCons (fVar 1) fNil))))) (fOrT (fB (f2 neD (fCall den_falls (fCons (fVar 1) fNil)) (fVar 8))) (fNotT (fTru (fCall den__law_is_falls (fCons (fVar 1) (fCons (fVar 8) fNil))))))) (fSeq (fRet (fC (.bl false)))
    fSkip) fSkip)
    (fSeq (fIfS (fOrT (fB (f2 isNotXD (fCall den_is_rising (fCons (fVar 1) (fCons (fVar 5) fNil))) (fC (.bl true)))) (fOrT (fB (f2 isNotXD (fCall den_are_falls (fCons (fVar 1) (fCons (fVar 8) fNil))) (fC (.bl true)))) (fB (f2 isNotXD (fCall den_are_falls (fCons (fVar 1) (fCons (fRev (fVar 8)) fNil))) (fC (.bl true)))))) (fSeq (fRet (fC (.bl false)))
    fSkip) fSkip)
    (fSeq (fSet 9 (fCall tupleD (fCons (fLc (fRng rng1 (fCons (fVar 2) fNil)) (gfName 7) (fB (f2 eqD (f2 modD (fCall intD (fCons (f2 fdivD (fCall den__law_number (fCons (fVar 0) (fCons (fC (.int 20)) fNil))) (f2 idxD (fLst (fCons (fC (.int 1)) (fCons (fC (.int 2)) (fCons (fC (.int 4)) (fCons (fC (.int 8)) (fCons (fC (.int 16)) (fCons (fC (.int 32)) (fCons (fC (.int 64)) (fCons (fC (.int 128)) (fCons (fC (.int 256)) fNil)))))))))) (fVar 7))) fNil)) (fC (.int 2))) (fC (.int 1)))) (fVar 7) [7]) fNil)))
    (fSeq (fIfS (fOrT (fNotT (fTru (fCall den__law_flag (fCons (fCall den_is_rising (fCons (fVar 1) (fCons (fVar 9) fNil))) (fCons (fAnd (f2 (blD inB) (fVar 9) (fVar 3)) (f2 eqD (fCall lenD (fCons (fVar 9) fNil)) (fVar 4))) fNil))))) (fB (f2 isNotXD (fCall den_is_rising (fCons (fVar 1) (fCons (fCall listD (fCons (fVar 5) fNil)) fNil))) (fC (.bl false))))) (fSeq (fRet (fC (.bl false)))
    fSkip) fSkip)
    (fSeq (fSet 10 (fLst fNil))
    (fSeq (fFor (fRng rng1 (fCons (fC (.int 3)) fNil)) (gfName 11) (fSeq (fSet 12 (fCall tupleD (fCons (fLc (fRng rng1 (fCons (fVar 2) fNil)) (gfName 7) (fB (f2 eqD (f2 modD (fCall intD (fCons (fCall den__law_number (fCons (fVar 0) (fCons (f2 addD (fC (.int 21)) (fVar 7)) fNil))) fNil)) (fC (.int 3))) (fVar 11))) (fVar 7) [7]) fNil)))
    (fSeq (fIfS (fTru (fVar 12)) (fSeq (fApp 10 (fVar 12))
    fSkip) fSkip)
    fSkip)))
    (fFrz 10 (fSeq (fIfS (fOrT (fNotT (fTru (fCall den__law_flag (fCons (fCall den_are_falls (fCons (fVar 1) (fCons (fCall tupleD (fCons (fVar 10) fNil)) fNil))) (fCons (fCall den__law_is_falls (fCons (fVar 1) (fCons (fVar 10) fNil))) fNil))))) (fB (f2 isNotXD (fCall den_are_falls (fCons (fVar 1) (fCons (fVar 10) fNil))) (fC (.bl false))))) (fSeq (fRet (fC (.bl false)))
    fSkip) fSkip)
    (fSeq (fIfS (fOrT (fB (f2 isNotXD (fCall den_are_falls (fCons (fVar 1) (fCons (f2 addD (fVar 8) (fTup (fCons (fTup fNil) fNil))) fNil))) (fC (.bl false)))) (fAndT (fB (f2 (blD gtB) (fVar 2) (fC (.int 0)))) (fB (f2 isNotXD (fCall den_are_falls (fCons (fVar 1) (fCons (fSl (fVar 8) (fO1 (fC (.int 1))) fO0) fNil))) (fC (.bl false)))))) (fSeq (fRet (fC (.bl false)))
    fSkip) fSkip)
    (fSeq (fIfS (fNotT (fTru (fCall den__law_flag (fCons (fCall den_are_unlike (fCons (fVar 1) fNil)) (fCons (f2 eqD (fLenSet (fVar 1)) (fVar 2)) fNil))))) (fSeq (fRet (fC (.bl false)))
    fSkip) fSkip)
    (fSeq (fSet 13 (fLst (fCons (fC .non) (fCons (fCall listD (fCons (fVar 1) fNil)) (fCons (fTup (fCons (fC (.bl true)) fNil)) (fCons (fTup (fCons (fC (.str "?")) fNil)) (fCons (fTup (fCons (f2 addD (f2 powD (fC (.int 10)) (fC (.int 6))) (fC (.int 1))) fNil)) (fCons (f2 mulD (fTup (fCons (fC (.int 0)) fNil)) (fC (.int 13))) (fCons (fTup (fCons (f2 subD (fNeg (f2 powD (fC (.int 10)) (fC (.int 6)))) (fC (.int 1))) fNil)) (fCons (fC (.str "?")) (fCons (fTup (fCons (fTup (fCons (fC (.int 0)) fNil)) fNil)) fNil)))))))))))
    (fSeq (fRet (fCall den__law_refused_one (fCons (fC (.fn "rising")) (fCons (f2 idxD (fVar 13) (f2 modD (fCall intD (fCons (fCall den__law_number (fCons (fVar 0) (fCons (fC (.int 31)) fNil))) fNil)) (fC (.int 9)))) (fCons (fC (.str "NoRow")) fNil)))))
    fSkip)))))))))))))))))))))
noncomputable def den_law : List D → R D := runD 1 N_law g_law
theorem okF_law {f : Addr} {fd : FuncData} (B : Bs mg) (C : Cs K mg) (F : Fun K "law" "law" s_law f fd) (k__law_row_of : FnK P w K mg base 3 3 "_law_row_of" den__law_row_of) (k__law_lots : FnK P w K mg base 1 1 "_law_lots" den__law_lots) (k__law_ready : FnK P w K mg base 1 1 "_law_ready" den__law_ready) (k_rising : FnK P w K mg base 4 1 "rising" den_rising) (k__law_row : FnK P w K mg base 2 1 "_law_row" den__law_row) (k__law_longest : FnK P w K mg base 1 1 "_law_longest" den__law_longest) (k_falls : FnK P w K mg base 4 1 "falls" den_falls) (k__law_is_falls : FnK P w K mg base 2 2 "_law_is_falls" den__law_is_falls) (k_is_rising : FnK P w K mg base 5 2 "is_rising" den_is_rising) (k_are_falls : FnK P w K mg base 6 2 "are_falls" den_are_falls) (k__law_number : FnK P w K mg base 2 2 "_law_number" den__law_number) (k__law_flag : FnK P w K mg base 1 2 "_law_flag" den__law_flag) (k_are_unlike : FnK P w K mg base 4 1 "are_unlike" den_are_unlike) (k__law_refused_one : FnK P w K mg base 5 3 "_law_refused_one" den__law_refused_one) : FnOk P w K mg base (L2N.CX P w) 7 f fd ["script"] (spD K mg 1 den_law) :=
  fn_ok (k := 6) (g := g_law) [6, 10] F sc_law (by decide) fun Z cdv A outer s H E hr tk hp => by
    have sc := sc_law
    unfold g_law
    exact (dss_cons (ds_set 1 (d_callK tk k__law_row_of hr (dae_cons (d_var 0) (dae_cons (d_int).toE (dae_cons (d_int).toE dae_nil)))) (by decide) sc.nd)
      (dss_cons (ds_set 2 ((d_blt cd_len nr_len B.b_len (by decide +kernel) (da_cons ((d_var 1)).toR da_nil))).toE (by decide) sc.nd)
      (dss_cons (ds_setLc 3 [("lot", 9)] rfl sc.nd (sw_true rfl rfl rfl (by decide +kernel)) (di_seq (d_callK tk k__law_lots hr (dae_cons (d_var 2) dae_nil))) (blkOk_by (own := [("lot", 9)]) (N := N_law) (sc := defScope s_law) (by decide +kernel)) (fun _ _ _ _ _ => (dg_name (ts := [9]) 9 sc.nd)) (fun _ _ _ _ _ => (dts_one (dt_tru ((d_callK takes0 k__law_ready hr (dae_cons ((d_lc [("at", 7)] rfl sc.nd (di_seq (d_var 9)) (blkOk_by (own := [("at", 7)]) (N := N_law) (by first | rfl | kernel_rfl)) (fun _ _ _ _ _ => (dg_name (ts := [7]) 7 sc.nd)) (fun _ _ _ _ _ => dts_nil) (fun _ _ _ _ _ => (d_ix ((d_var 1)).toR ((d_var 7)).toR)))).toE dae_nil))).toR))) (fun _ _ _ _ _ => (d_var 9)))
      (dss_cons (ds_set 4 ((d_blt (cd_max rfl) nr_max B.b_max (by decide +kernel) (da_cons ((d_lc [("lot", 9)] rfl sc.nd (di_seq (d_var 3)) (blkOk_by (own := [("lot", 9)]) (N := N_law) (sc := defScope s_law) (by decide +kernel)) (fun _ _ _ _ _ => (dg_name (ts := [9]) 9 sc.nd)) (fun _ _ _ _ _ => dts_nil) (fun _ _ _ _ _ => ((d_blt cd_len nr_len B.b_len (by decide +kernel) (da_cons ((d_var 9)).toR da_nil))).toE))).toR da_nil))).toE (by decide) sc.nd)
      (dss_cons (ds_set 5 (d_callK tk k_rising hr (dae_cons (d_var 1) dae_nil)) (by decide) sc.nd)
      (dss_cons (ds_if (dw_or (dt_not (dt_tru ((d_callK tk k__law_row hr (dae_cons (d_var 5) dae_nil))).toR)) (dw_or (dt_cmp (od_ne (u64 hr)) nr_ne ((d_var 5)).toR ((d_blt (cd_minA (u64 hr) rfl) nr_minA B.b_min (by decide +kernel) (da_cons ((d_lc [("lot", 9)] rfl sc.nd (di_seq (d_var 3)) (blkOk_by (own := [("lot", 9)]) (N := N_law) (sc := defScope s_law) (by decide +kernel)) (fun _ _ _ _ _ => (dg_name (ts := [9]) 9 sc.nd)) (fun _ _ _ _ _ => (dts_one (dt_cmp (od_eq (u64 hr)) nr_eq ((d_blt cd_len nr_len B.b_len (by decide +kernel) (da_cons ((d_var 9)).toR da_nil))).toR ((d_var 4)).toR))) (fun _ _ _ _ _ => (d_var 9)))).toR da_nil))).toR) (dw_or1 (dt_cmp (od_ne (u64 hr)) nr_ne ((d_var 4)).toR ((d_callK tk k__law_longest hr (dae_cons (d_var 1) dae_nil))).toR)))).t (dss_cons (ds_ret (d_bl).toE)
      dss_nil) dss_nil)
      (dss_cons (ds_setO 6 (d_lst dae_nil) sc.nd)
      (dss_cons (ds_for [] hp rfl (di_range1 B.b_range (da_cons ((d_var 2)).toR da_nil)) (dg_name (ts := [7]) 7 sc.nd) (NoRG.name 7) (dss_cons (ds_append 6 ((d_bin od_add nr_add (d_int).toR ((d_blt (cd_max rfl) nr_max B.b_max (by decide +kernel) (da_cons ((d_bin od_add nr_add ((d_lst (dae_cons (d_int).toE dae_nil))).toR ((d_lc [("k", 11)] rfl sc.nd (di_range1 B.b_range (da_cons ((d_var 7)).toR da_nil)) (blkOk_by (own := [("k", 11)]) (N := N_law) (sc := defScope s_law) (by decide +kernel)) (fun _ _ _ _ _ => (dg_name (ts := [11]) 11 sc.nd)) (fun _ _ _ _ _ => (dts_one (dt_cmp od_le nr_le ((d_ix ((d_var 1)).toR ((d_var 11)).toR)).toR ((d_ix ((d_var 1)).toR ((d_var 7)).toR)).toR))) (fun _ _ _ _ _ => (d_ix (d_own 6) ((d_var 11)).toR)))).toR)).toR da_nil))).toR)).toE)
      dss_nil))
      (dss_cons (ds_set 8 ((d_ty cd_tuple nr_tuple B.b_tuple (by decide +kernel) (da_cons ((d_lc [("count", 14)] rfl sc.nd (di_range2 B.b_range (da_cons (d_int).toR (da_cons ((d_bin od_add nr_add ((d_var 4)).toR (d_int).toR)).toR da_nil))) (blkOk_by (own := [("count", 14)]) (N := N_law) (sc := defScope s_law) (by decide +kernel)) (fun _ _ _ _ _ => (dg_name (ts := [14]) 14 sc.nd)) (fun _ _ _ _ _ => dts_nil) (fun _ _ _ _ _ => ((d_ty cd_tuple nr_tuple B.b_tuple (by decide +kernel) (da_cons ((d_lc [("at", 7)] rfl sc.nd (di_range1 B.b_range (da_cons ((d_var 2)).toR da_nil)) (blkOk_by (own := [("at", 7)]) (N := N_law) (by first | rfl | kernel_rfl)) (fun _ _ _ _ _ => (dg_name (ts := [7]) 7 sc.nd)) (fun _ _ _ _ _ => (dts_one (dt_cmp (od_eq (u64 hr)) nr_eq ((d_ix (d_own 6) ((d_var 7)).toR)).toR ((d_var 14)).toR))) (fun _ _ _ _ _ => (d_var 7)))).toR da_nil))).toE))).toR da_nil))).toE (by decide) sc.nd)
      (dss_cons (ds_if (dw_or (dt_not (dt_tru ((d_isi ((d_callK tk k_falls hr (dae_cons (d_var 1) dae_nil))).toR B.b_isinstance B.b_tuple (by decide +kernel))).toR)) (dw_or (dt_cmp (od_ne (u64 hr)) nr_ne ((d_callK tk k_falls hr (dae_cons (d_var 1) dae_nil))).toR ((d_var 8)).toR) (dw_or1 (dt_not (dt_tru ((d_callK tk k__law_is_falls hr (dae_cons (d_var 1) (dae_cons (d_var 8) dae_nil)))).toR))))).t (dss_cons (ds_ret (d_bl).toE)
      dss_nil) dss_nil)
      (dss_cons (ds_if (dw_or (dt_cmp od_isnotX nr_isnotX ((d_callK tk k_is_rising hr (dae_cons (d_var 1) (dae_cons (d_var 5) dae_nil)))).toR (d_bl).toR) (dw_or (dt_cmp od_isnotX nr_isnotX ((d_callK tk k_are_falls hr (dae_cons (d_var 1) (dae_cons (d_var 8) dae_nil)))).toR (d_bl).toR) (dw_or1 (dt_cmp od_isnotX nr_isnotX ((d_callK tk k_are_falls hr (dae_cons (d_var 1) (dae_cons ((d_rev ((d_var 8)).toR)).toE dae_nil)))).toR (d_bl).toR)))).t (dss_cons (ds_ret (d_bl).toE)
      dss_nil) dss_nil)
      (dss_cons (ds_set 9 ((d_ty cd_tuple nr_tuple B.b_tuple (by decide +kernel) (da_cons ((d_lc [("at", 7)] rfl sc.nd (di_range1 B.b_range (da_cons ((d_var 2)).toR da_nil)) (blkOk_by (own := [("at", 7)]) (N := N_law) (sc := defScope s_law) (by decide +kernel)) (fun _ _ _ _ _ => (dg_name (ts := [7]) 7 sc.nd)) (fun _ _ _ _ _ => (dts_one (dt_cmp (od_eq (u64 hr)) nr_eq ((d_bin od_mod nr_mod ((d_ty cd_int nr_int B.b_int (by decide +kernel) (da_cons ((d_bin od_fdiv nr_fdiv ((d_callK takes0 k__law_number hr (dae_cons (d_var 0) (dae_cons (d_int).toE dae_nil)))).toR ((d_ix ((d_lst (dae_cons (d_int).toE (dae_cons (d_int).toE (dae_cons (d_int).toE (dae_cons (d_int).toE (dae_cons (d_int).toE (dae_cons (d_int).toE (dae_cons (d_int).toE (dae_cons (d_int).toE (dae_cons (d_int).toE dae_nil))))))))))).toR ((d_var 7)).toR)).toR)).toR da_nil))).toR (d_int).toR)).toR (d_int).toR))) (fun _ _ _ _ _ => (d_var 7)))).toR da_nil))).toE (by decide) sc.nd)
      (dss_cons (ds_if (dw_or (dt_not (dt_tru ((d_callK tk k__law_flag hr (dae_cons (d_callK tk k_is_rising hr (dae_cons (d_var 1) (dae_cons (d_var 9) dae_nil))) (dae_cons (d_and ((d_cmp (od_in (u65 hr)) nr_in ((d_var 9)).toR ((d_var 3)).toR)).toE (d_one ((d_cmp (od_eq (u64 hr)) nr_eq ((d_blt cd_len nr_len B.b_len (by decide +kernel) (da_cons ((d_var 9)).toR da_nil))).toR ((d_var 4)).toR)).toE)) dae_nil)))).toR)) (dw_or1 (dt_cmp od_isnotX nr_isnotX ((d_callK tk k_is_rising hr (dae_cons (d_var 1) (dae_cons ((d_ty cd_list nr_list B.b_list (by decide +kernel) (da_cons ((d_var 5)).toR da_nil))).toE dae_nil)))).toR (d_bl).toR))).t (dss_cons (ds_ret (d_bl).toE)
      dss_nil) dss_nil)
      (dss_cons (ds_setO 10 (d_lst dae_nil) sc.nd)
      (dss_cons (ds_for [] hp rfl (di_range1 B.b_range (da_cons (d_int).toR da_nil)) (dg_name (ts := [11]) 11 sc.nd) (NoRG.name 11) (dss_cons (ds_set 12 ((d_ty cd_tuple nr_tuple B.b_tuple (by decide +kernel) (da_cons ((d_lc [("at", 7)] rfl sc.nd (di_range1 B.b_range (da_cons ((d_var 2)).toR da_nil)) (blkOk_by (own := [("at", 7)]) (N := N_law) (sc := defScope s_law) (by decide +kernel)) (fun _ _ _ _ _ => (dg_name (ts := [7]) 7 sc.nd)) (fun _ _ _ _ _ => (dts_one (dt_cmp (od_eq (u64 hr)) nr_eq ((d_bin od_mod nr_mod ((d_ty cd_int nr_int B.b_int (by decide +kernel) (da_cons ((d_callK takes0 k__law_number hr (dae_cons (d_var 0) (dae_cons ((d_bin od_add nr_add (d_int).toR ((d_var 7)).toR)).toE dae_nil)))).toR da_nil))).toR (d_int).toR)).toR ((d_var 11)).toR))) (fun _ _ _ _ _ => (d_var 7)))).toR da_nil))).toE (by decide) sc.nd)
      (dss_cons (ds_if (dt_tru ((d_var 12)).toR) (dss_cons (ds_append 10 (d_var 12))
      dss_nil) dss_nil)
      dss_nil)))
      (dss_frz 10 [6] (dss_cons (ds_if (dw_or (dt_not (dt_tru ((d_callK tk k__law_flag hr (dae_cons (d_callK tk k_are_falls hr (dae_cons (d_var 1) (dae_cons ((d_ty cd_tuple nr_tuple B.b_tuple (by decide +kernel) (da_cons ((d_var 10)).toR da_nil))).toE dae_nil))) (dae_cons (d_callK tk k__law_is_falls hr (dae_cons (d_var 1) (dae_cons (d_var 10) dae_nil))) dae_nil)))).toR)) (dw_or1 (dt_cmp od_isnotX nr_isnotX ((d_callK tk k_are_falls hr (dae_cons (d_var 1) (dae_cons (d_var 10) dae_nil)))).toR (d_bl).toR))).t (dss_cons (ds_ret (d_bl).toE)
      dss_nil) dss_nil)
      (dss_cons (ds_if (dw_or (dt_cmp od_isnotX nr_isnotX ((d_callK tk k_are_falls hr (dae_cons (d_var 1) (dae_cons ((d_bin od_add nr_add ((d_var 8)).toR ((d_tup (dae_cons ((d_tup dae_nil)).toE dae_nil))).toR)).toE dae_nil)))).toR (d_bl).toR) (dw_or1 (dw_and (dt_cmp od_gt nr_gt ((d_var 2)).toR (d_int).toR) (dw_and1 (dt_cmp od_isnotX nr_isnotX ((d_callK tk k_are_falls hr (dae_cons (d_var 1) (dae_cons ((d_slice ((d_var 8)).toR (do_some (d_int).toR) do_none)).toE dae_nil)))).toR (d_bl).toR))).t)).t (dss_cons (ds_ret (d_bl).toE)
      dss_nil) dss_nil)
      (dss_cons (ds_if (dt_not (dt_tru ((d_callK tk k__law_flag hr (dae_cons (d_callK tk k_are_unlike hr (dae_cons (d_var 1) dae_nil)) (dae_cons ((d_cmp (od_eq (u64 hr)) nr_eq ((d_lenSet ((d_var 1)).toR rfl B.b_len B.b_set)).toR ((d_var 2)).toR)).toE dae_nil)))).toR)) (dss_cons (ds_ret (d_bl).toE)
      dss_nil) dss_nil)
      (dss_cons (ds_set 13 ((d_lst (dae_cons (d_non).toE (dae_cons ((d_ty cd_list nr_list B.b_list (by decide +kernel) (da_cons ((d_var 1)).toR da_nil))).toE (dae_cons ((d_tup (dae_cons (d_bl).toE dae_nil))).toE (dae_cons ((d_tup (dae_cons (d_str).toE dae_nil))).toE (dae_cons ((d_tup (dae_cons ((d_bin od_add nr_add ((d_bin od_pow nr_pow (d_int).toR (d_int).toR)).toR (d_int).toR)).toE dae_nil))).toE (dae_cons ((d_bin od_mul nr_mul ((d_tup (dae_cons (d_int).toE dae_nil))).toR (d_int).toR)).toE (dae_cons ((d_tup (dae_cons ((d_bin od_sub nr_sub ((d_neg ((d_bin od_pow nr_pow (d_int).toR (d_int).toR)).toR)).toR (d_int).toR)).toE dae_nil))).toE (dae_cons (d_str).toE (dae_cons ((d_tup (dae_cons ((d_tup (dae_cons (d_int).toE dae_nil))).toE dae_nil))).toE dae_nil))))))))))).toE (by decide) sc.nd)
      (dss_cons (ds_ret (d_callK tk k__law_refused_one hr (dae_cons ((d_fun k_rising)).toE (dae_cons (d_ix ((d_var 13)).toR ((d_bin od_mod nr_mod ((d_ty cd_int nr_int B.b_int (by decide +kernel) (da_cons ((d_callK tk k__law_number hr (dae_cons (d_var 0) (dae_cons (d_int).toE dae_nil)))).toR da_nil))).toR (d_int).toR)).toR) (dae_cons (d_str).toE dae_nil)))))
      dss_nil))))) (by intro j; simp only [List.mem_cons, List.not_mem_nil, or_false]; omega) (by decide)))))))))))))))))
end
end Sh

namespace Sh
open PySem PySem.Spec PyProof.Rows L2
theorem all_mk {l : PySem.W.OpenLaw} {w : World} {K : PySem.W.Frag} {h : Heap} {mg : Str → Option Value} {fa : Addr} (X : K.In h) (G : h.Ns mainGlobals mg) (hfa : mg "law" = some (.ref fa))
    {t_MOST_BOOKS : Tok} {t_GREATEST : Tok} {C_ShelfError : Addr} {C_NoRow : Addr} {f_is_integer : Addr} {od_is_integer an_is_integer : Option Addr} {sl_is_integer : Array (Option Value)} {oc_is_integer kV_is_integer dc_is_integer pm_is_integer cd_is_integer ct_is_integer : Value} {f_is_under : Addr} {od_is_under an_is_under : Option Addr} {sl_is_under : Array (Option Value)} {oc_is_under kV_is_under dc_is_under pm_is_under cd_is_under ct_is_under : Value} {f_are_under : Addr} {od_are_under an_are_under : Option Addr} {sl_are_under : Array (Option Value)} {oc_are_under kV_are_under dc_are_under pm_are_under cd_are_under ct_are_under : Value} {f_is_lot : Addr} {od_is_lot an_is_lot : Option Addr} {sl_is_lot : Array (Option Value)} {oc_is_lot kV_is_lot dc_is_lot pm_is_lot cd_is_lot ct_is_lot : Value} {f_unlike : Addr} {od_unlike an_unlike : Option Addr} {sl_unlike : Array (Option Value)} {oc_unlike kV_unlike dc_unlike pm_unlike cd_unlike ct_unlike : Value} {f_is_row : Addr} {od_is_row an_is_row : Option Addr} {sl_is_row : Array (Option Value)} {oc_is_row kV_is_row dc_is_row pm_is_row cd_is_row ct_is_row : Value} {f_need_row : Addr} {od_need_row an_need_row : Option Addr} {sl_need_row : Array (Option Value)} {oc_need_row kV_need_row dc_need_row pm_need_row cd_need_row ct_need_row : Value} {f_is_ready : Addr} {od_is_ready an_is_ready : Option Addr} {sl_is_ready : Array (Option Value)} {oc_is_ready kV_is_ready dc_is_ready pm_is_ready cd_is_ready ct_is_ready : Value} {f_longest_ends : Addr} {od_longest_ends an_longest_ends : Option Addr} {sl_longest_ends : Array (Option Value)} {oc_longest_ends kV_longest_ends dc_longest_ends pm_longest_ends cd_longest_ends ct_longest_ends : Value} {f_rising_of : Addr} {od_rising_of an_rising_of : Option Addr} {sl_rising_of : Array (Option Value)} {oc_rising_of kV_rising_of dc_rising_of pm_rising_of cd_rising_of ct_rising_of : Value} {f_rising : Addr} {od_rising an_rising : Option Addr} {sl_rising : Array (Option Value)} {oc_rising kV_rising dc_rising pm_rising cd_rising ct_rising : Value} {f_falls_of : Addr} {od_falls_of an_falls_of : Option Addr} {sl_falls_of : Array (Option Value)} {oc_falls_of kV_falls_of dc_falls_of pm_falls_of cd_falls_of ct_falls_of : Value} {f_falls : Addr} {od_falls an_falls : Option Addr} {sl_falls : Array (Option Value)} {oc_falls kV_falls dc_falls pm_falls cd_falls ct_falls : Value} {f_are_falls_of : Addr} {od_are_falls_of an_are_falls_of : Option Addr} {sl_are_falls_of : Array (Option Value)} {oc_are_falls_of kV_are_falls_of dc_are_falls_of pm_are_falls_of cd_are_falls_of ct_are_falls_of : Value} {f_are_falls : Addr} {od_are_falls an_are_falls : Option Addr} {sl_are_falls : Array (Option Value)} {oc_are_falls kV_are_falls dc_are_falls pm_are_falls cd_are_falls ct_are_falls : Value} {f_is_rising : Addr} {od_is_rising an_is_rising : Option Addr} {sl_is_rising : Array (Option Value)} {oc_is_rising kV_is_rising dc_is_rising pm_is_rising cd_is_rising ct_is_rising : Value} {f_are_unlike : Addr} {od_are_unlike an_are_unlike : Option Addr} {sl_are_unlike : Array (Option Value)} {oc_are_unlike kV_are_unlike dc_are_unlike pm_are_unlike cd_are_unlike ct_are_unlike : Value} {f__law_is : Addr} {od__law_is an__law_is : Option Addr} {sl__law_is : Array (Option Value)} {oc__law_is kV__law_is dc__law_is pm__law_is cd__law_is ct__law_is : Value} {f__law_mixed : Addr} {od__law_mixed an__law_mixed : Option Addr} {sl__law_mixed : Array (Option Value)} {oc__law_mixed kV__law_mixed dc__law_mixed pm__law_mixed cd__law_mixed ct__law_mixed : Value} {f__law_left : Addr} {od__law_left an__law_left : Option Addr} {sl__law_left : Array (Option Value)} {oc__law_left kV__law_left dc__law_left pm__law_left cd__law_left ct__law_left : Value} {f__law_number : Addr} {od__law_number an__law_number : Option Addr} {sl__law_number : Array (Option Value)} {oc__law_number kV__law_number dc__law_number pm__law_number cd__law_number ct__law_number : Value} {f__law_whole : Addr} {od__law_whole an__law_whole : Option Addr} {sl__law_whole : Array (Option Value)} {oc__law_whole kV__law_whole dc__law_whole pm__law_whole cd__law_whole ct__law_whole : Value} {f__law_row : Addr} {od__law_row an__law_row : Option Addr} {sl__law_row : Array (Option Value)} {oc__law_row kV__law_row dc__law_row pm__law_row cd__law_row ct__law_row : Value} {f__law_flag : Addr} {od__law_flag an__law_flag : Option Addr} {sl__law_flag : Array (Option Value)} {oc__law_flag kV__law_flag dc__law_flag pm__law_flag cd__law_flag ct__law_flag : Value} {f__law_refused_one : Addr} {od__law_refused_one an__law_refused_one : Option Addr} {sl__law_refused_one : Array (Option Value)} {oc__law_refused_one kV__law_refused_one dc__law_refused_one pm__law_refused_one cd__law_refused_one ct__law_refused_one : Value} {f__law_row_of : Addr} {od__law_row_of an__law_row_of : Option Addr} {sl__law_row_of : Array (Option Value)} {oc__law_row_of kV__law_row_of dc__law_row_of pm__law_row_of cd__law_row_of ct__law_row_of : Value} {f__law_ready : Addr} {od__law_ready an__law_ready : Option Addr} {sl__law_ready : Array (Option Value)} {oc__law_ready kV__law_ready dc__law_ready pm__law_ready cd__law_ready ct__law_ready : Value} {f__law_longest : Addr} {od__law_longest an__law_longest : Option Addr} {sl__law_longest : Array (Option Value)} {oc__law_longest kV__law_longest dc__law_longest pm__law_longest cd__law_longest ct__law_longest : Value} {f__law_lots : Addr} {od__law_lots an__law_lots : Option Addr} {sl__law_lots : Array (Option Value)} {oc__law_lots kV__law_lots dc__law_lots pm__law_lots cd__law_lots ct__law_lots : Value} {f__law_flat : Addr} {od__law_flat an__law_flat : Option Addr} {sl__law_flat : Array (Option Value)} {oc__law_flat kV__law_flat dc__law_flat pm__law_flat cd__law_flat ct__law_flat : Value} {f__law_is_falls : Addr} {od__law_is_falls an__law_is_falls : Option Addr} {sl__law_is_falls : Array (Option Value)} {oc__law_is_falls kV__law_is_falls dc__law_is_falls pm__law_is_falls cd__law_is_falls ct__law_is_falls : Value} {f_law : Addr} {od_law an_law : Option Addr} {sl_law : Array (Option Value)} {oc_law kV_law dc_law pm_law cd_law ct_law : Value}
    (b_abs : PySem.W.nsIn K mainGlobals "abs" = some none)
    (b_all : PySem.W.nsIn K mainGlobals "all" = some none)
    (b_bool : PySem.W.nsIn K mainGlobals "bool" = some none)
    (b_enumerate : PySem.W.nsIn K mainGlobals "enumerate" = some none)
    (b_int : PySem.W.nsIn K mainGlobals "int" = some none)
    (b_isinstance : PySem.W.nsIn K mainGlobals "isinstance" = some none)
    (b_len : PySem.W.nsIn K mainGlobals "len" = some none)
    (b_list : PySem.W.nsIn K mainGlobals "list" = some none)
    (b_max : PySem.W.nsIn K mainGlobals "max" = some none)
    (b_min : PySem.W.nsIn K mainGlobals "min" = some none)
    (b_range : PySem.W.nsIn K mainGlobals "range" = some none)
    (b_set : PySem.W.nsIn K mainGlobals "set" = some none)
    (b_sorted : PySem.W.nsIn K mainGlobals "sorted" = some none)
    (b_tuple : PySem.W.nsIn K mainGlobals "tuple" = some none)
    (g_MOST_BOOKS : PySem.W.nsIn K mainGlobals "MOST_BOOKS" = some (some (.int 12 t_MOST_BOOKS)))
    (g_GREATEST : PySem.W.nsIn K mainGlobals "GREATEST" = some (some (.int 1000000 t_GREATEST)))
    (e_ShelfError : PySem.W.nsIn K mainGlobals "ShelfError" = some (some (.ref C_ShelfError)))
    (x1_ShelfError : PySem.W.excIn K C_ShelfError [.type "ValueError", .type "Exception", .type "BaseException", .type "object"] "ValueError.__new__" = true)
    (x2_ShelfError : PySem.W.keepIn K (.ref C_ShelfError) = true)
    (x3_ShelfError : PySem.W.subIn K (.ref C_ShelfError) (.type "BaseException") = some true)
    (x4_ShelfError : PySem.W.typeIn K (.ref C_ShelfError) = some (.type "type"))
    (y1_ShelfError : PySem.W.findIn K (.ref C_ShelfError) "__getattribute__" = some (some (.builtin "BaseException.__getattribute__")))
    (y2_ShelfError : PySem.W.findIn K (.ref C_ShelfError) "__getattr__" = some none)
    (y3_ShelfError : PySem.W.hasDictIn K C_ShelfError = true)
    (y4_ShelfError : PySem.W.findIn K (.ref C_ShelfError) "__class__" = some (some (.builtin "object.__class__")))
    (y5_ShelfError : PySem.W.mroIn K C_ShelfError (.type "object") = some true)
    (e_NoRow : PySem.W.nsIn K mainGlobals "NoRow" = some (some (.ref C_NoRow)))
    (x1_NoRow : PySem.W.excIn K C_NoRow [.type "ValueError", .type "Exception", .type "BaseException", .type "object"] "ValueError.__new__" = true)
    (x2_NoRow : PySem.W.keepIn K (.ref C_NoRow) = true)
    (x3_NoRow : PySem.W.subIn K (.ref C_NoRow) (.type "BaseException") = some true)
    (x4_NoRow : PySem.W.typeIn K (.ref C_NoRow) = some (.type "type"))
    (y1_NoRow : PySem.W.findIn K (.ref C_NoRow) "__getattribute__" = some (some (.builtin "BaseException.__getattribute__")))
    (y2_NoRow : PySem.W.findIn K (.ref C_NoRow) "__getattr__" = some none)
    (y3_NoRow : PySem.W.hasDictIn K C_NoRow = true)
    (y4_NoRow : PySem.W.findIn K (.ref C_NoRow) "__class__" = some (some (.builtin "object.__class__")))
    (y5_NoRow : PySem.W.mroIn K C_NoRow (.type "object") = some true)
    (y6 : PySem.W.specialIn K (.builtin "object.__class__") "__get__" = some (some (.builtin "getset_descriptor.__get__")))
    (y7 : PySem.W.takesIn K (.builtin "object.__class__") = some true)
    (k_ShelfError_ShelfError : PySem.W.kitOne K (.ref C_ShelfError) (.ref C_ShelfError) = some true)
    (m_ShelfError_ShelfError : PySem.W.subIn K (.ref C_ShelfError) (.ref C_ShelfError) = some true)
    (k_ShelfError_NoRow : PySem.W.kitOne K (.ref C_ShelfError) (.ref C_NoRow) = some false)
    (m_ShelfError_NoRow : PySem.W.subIn K (.ref C_ShelfError) (.ref C_NoRow) = some false)
    (k_NoRow_ShelfError : PySem.W.kitOne K (.ref C_NoRow) (.ref C_ShelfError) = some true)
    (m_NoRow_ShelfError : PySem.W.subIn K (.ref C_NoRow) (.ref C_ShelfError) = some true)
    (k_NoRow_NoRow : PySem.W.kitOne K (.ref C_NoRow) (.ref C_NoRow) = some true)
    (m_NoRow_NoRow : PySem.W.subIn K (.ref C_NoRow) (.ref C_NoRow) = some true)
    (a_is_integer : PySem.W.nsIn K mainGlobals "is_integer" = some (some (.ref f_is_integer)))
    (l_is_integer : K.lookup f_is_integer = some ⟨oc_is_integer, od_is_integer, .func (PySem.W.fnOf "is_integer" "is_integer" (defArgs s_is_integer) (defBody s_is_integer) (defScope s_is_integer) .none kV_is_integer dc_is_integer pm_is_integer an_is_integer cd_is_integer ct_is_integer), sl_is_integer⟩)
    (c_is_integer : PySem.W.codeIn K cd_is_integer "is_integer" = true)
    (p_is_integer : PySem.W.keepIn K (.ref f_is_integer) = true)
    (a_is_under : PySem.W.nsIn K mainGlobals "is_under" = some (some (.ref f_is_under)))
    (l_is_under : K.lookup f_is_under = some ⟨oc_is_under, od_is_under, .func (PySem.W.fnOf "is_under" "is_under" (defArgs s_is_under) (defBody s_is_under) (defScope s_is_under) .none kV_is_under dc_is_under pm_is_under an_is_under cd_is_under ct_is_under), sl_is_under⟩)
    (c_is_under : PySem.W.codeIn K cd_is_under "is_under" = true)
    (p_is_under : PySem.W.keepIn K (.ref f_is_under) = true)
    (a_are_under : PySem.W.nsIn K mainGlobals "are_under" = some (some (.ref f_are_under)))
    (l_are_under : K.lookup f_are_under = some ⟨oc_are_under, od_are_under, .func (PySem.W.fnOf "are_under" "are_under" (defArgs s_are_under) (defBody s_are_under) (defScope s_are_under) .none kV_are_under dc_are_under pm_are_under an_are_under cd_are_under ct_are_under), sl_are_under⟩)
    (c_are_under : PySem.W.codeIn K cd_are_under "are_under" = true)
    (p_are_under : PySem.W.keepIn K (.ref f_are_under) = true)
    (a_is_lot : PySem.W.nsIn K mainGlobals "is_lot" = some (some (.ref f_is_lot)))
    (l_is_lot : K.lookup f_is_lot = some ⟨oc_is_lot, od_is_lot, .func (PySem.W.fnOf "is_lot" "is_lot" (defArgs s_is_lot) (defBody s_is_lot) (defScope s_is_lot) .none kV_is_lot dc_is_lot pm_is_lot an_is_lot cd_is_lot ct_is_lot), sl_is_lot⟩)
    (c_is_lot : PySem.W.codeIn K cd_is_lot "is_lot" = true)
    (p_is_lot : PySem.W.keepIn K (.ref f_is_lot) = true)
    (a_unlike : PySem.W.nsIn K mainGlobals "unlike" = some (some (.ref f_unlike)))
    (l_unlike : K.lookup f_unlike = some ⟨oc_unlike, od_unlike, .func (PySem.W.fnOf "unlike" "unlike" (defArgs s_unlike) (defBody s_unlike) (defScope s_unlike) .none kV_unlike dc_unlike pm_unlike an_unlike cd_unlike ct_unlike), sl_unlike⟩)
    (c_unlike : PySem.W.codeIn K cd_unlike "unlike" = true)
    (p_unlike : PySem.W.keepIn K (.ref f_unlike) = true)
    (a_is_row : PySem.W.nsIn K mainGlobals "is_row" = some (some (.ref f_is_row)))
    (l_is_row : K.lookup f_is_row = some ⟨oc_is_row, od_is_row, .func (PySem.W.fnOf "is_row" "is_row" (defArgs s_is_row) (defBody s_is_row) (defScope s_is_row) .none kV_is_row dc_is_row pm_is_row an_is_row cd_is_row ct_is_row), sl_is_row⟩)
    (c_is_row : PySem.W.codeIn K cd_is_row "is_row" = true)
    (p_is_row : PySem.W.keepIn K (.ref f_is_row) = true)
    (a_need_row : PySem.W.nsIn K mainGlobals "need_row" = some (some (.ref f_need_row)))
    (l_need_row : K.lookup f_need_row = some ⟨oc_need_row, od_need_row, .func (PySem.W.fnOf "need_row" "need_row" (defArgs s_need_row) (defBody s_need_row) (defScope s_need_row) .none kV_need_row dc_need_row pm_need_row an_need_row cd_need_row ct_need_row), sl_need_row⟩)
    (c_need_row : PySem.W.codeIn K cd_need_row "need_row" = true)
    (p_need_row : PySem.W.keepIn K (.ref f_need_row) = true)
    (a_is_ready : PySem.W.nsIn K mainGlobals "is_ready" = some (some (.ref f_is_ready)))
    (l_is_ready : K.lookup f_is_ready = some ⟨oc_is_ready, od_is_ready, .func (PySem.W.fnOf "is_ready" "is_ready" (defArgs s_is_ready) (defBody s_is_ready) (defScope s_is_ready) .none kV_is_ready dc_is_ready pm_is_ready an_is_ready cd_is_ready ct_is_ready), sl_is_ready⟩)
    (c_is_ready : PySem.W.codeIn K cd_is_ready "is_ready" = true)
    (p_is_ready : PySem.W.keepIn K (.ref f_is_ready) = true)
    (a_longest_ends : PySem.W.nsIn K mainGlobals "longest_ends" = some (some (.ref f_longest_ends)))
    (l_longest_ends : K.lookup f_longest_ends = some ⟨oc_longest_ends, od_longest_ends, .func (PySem.W.fnOf "longest_ends" "longest_ends" (defArgs s_longest_ends) (defBody s_longest_ends) (defScope s_longest_ends) .none kV_longest_ends dc_longest_ends pm_longest_ends an_longest_ends cd_longest_ends ct_longest_ends), sl_longest_ends⟩)
    (c_longest_ends : PySem.W.codeIn K cd_longest_ends "longest_ends" = true)
    (p_longest_ends : PySem.W.keepIn K (.ref f_longest_ends) = true)
    (a_rising_of : PySem.W.nsIn K mainGlobals "rising_of" = some (some (.ref f_rising_of)))
    (l_rising_of : K.lookup f_rising_of = some ⟨oc_rising_of, od_rising_of, .func (PySem.W.fnOf "rising_of" "rising_of" (defArgs s_rising_of) (defBody s_rising_of) (defScope s_rising_of) .none kV_rising_of dc_rising_of pm_rising_of an_rising_of cd_rising_of ct_rising_of), sl_rising_of⟩)
    (c_rising_of : PySem.W.codeIn K cd_rising_of "rising_of" = true)
    (p_rising_of : PySem.W.keepIn K (.ref f_rising_of) = true)
    (a_rising : PySem.W.nsIn K mainGlobals "rising" = some (some (.ref f_rising)))
    (l_rising : K.lookup f_rising = some ⟨oc_rising, od_rising, .func (PySem.W.fnOf "rising" "rising" (defArgs s_rising) (defBody s_rising) (defScope s_rising) .none kV_rising dc_rising pm_rising an_rising cd_rising ct_rising), sl_rising⟩)
    (c_rising : PySem.W.codeIn K cd_rising "rising" = true)
    (p_rising : PySem.W.keepIn K (.ref f_rising) = true)
    (a_falls_of : PySem.W.nsIn K mainGlobals "falls_of" = some (some (.ref f_falls_of)))
    (l_falls_of : K.lookup f_falls_of = some ⟨oc_falls_of, od_falls_of, .func (PySem.W.fnOf "falls_of" "falls_of" (defArgs s_falls_of) (defBody s_falls_of) (defScope s_falls_of) .none kV_falls_of dc_falls_of pm_falls_of an_falls_of cd_falls_of ct_falls_of), sl_falls_of⟩)
    (c_falls_of : PySem.W.codeIn K cd_falls_of "falls_of" = true)
    (p_falls_of : PySem.W.keepIn K (.ref f_falls_of) = true)
    (a_falls : PySem.W.nsIn K mainGlobals "falls" = some (some (.ref f_falls)))
    (l_falls : K.lookup f_falls = some ⟨oc_falls, od_falls, .func (PySem.W.fnOf "falls" "falls" (defArgs s_falls) (defBody s_falls) (defScope s_falls) .none kV_falls dc_falls pm_falls an_falls cd_falls ct_falls), sl_falls⟩)
    (c_falls : PySem.W.codeIn K cd_falls "falls" = true)
    (p_falls : PySem.W.keepIn K (.ref f_falls) = true)
    (a_are_falls_of : PySem.W.nsIn K mainGlobals "are_falls_of" = some (some (.ref f_are_falls_of)))
    (l_are_falls_of : K.lookup f_are_falls_of = some ⟨oc_are_falls_of, od_are_falls_of, .func (PySem.W.fnOf "are_falls_of" "are_falls_of" (defArgs s_are_falls_of) (defBody s_are_falls_of) (defScope s_are_falls_of) .none kV_are_falls_of dc_are_falls_of pm_are_falls_of an_are_falls_of cd_are_falls_of ct_are_falls_of), sl_are_falls_of⟩)
    (c_are_falls_of : PySem.W.codeIn K cd_are_falls_of "are_falls_of" = true)
    (p_are_falls_of : PySem.W.keepIn K (.ref f_are_falls_of) = true)
    (a_are_falls : PySem.W.nsIn K mainGlobals "are_falls" = some (some (.ref f_are_falls)))
    (l_are_falls : K.lookup f_are_falls = some ⟨oc_are_falls, od_are_falls, .func (PySem.W.fnOf "are_falls" "are_falls" (defArgs s_are_falls) (defBody s_are_falls) (defScope s_are_falls) .none kV_are_falls dc_are_falls pm_are_falls an_are_falls cd_are_falls ct_are_falls), sl_are_falls⟩)
    (c_are_falls : PySem.W.codeIn K cd_are_falls "are_falls" = true)
    (p_are_falls : PySem.W.keepIn K (.ref f_are_falls) = true)
    (a_is_rising : PySem.W.nsIn K mainGlobals "is_rising" = some (some (.ref f_is_rising)))
    (l_is_rising : K.lookup f_is_rising = some ⟨oc_is_rising, od_is_rising, .func (PySem.W.fnOf "is_rising" "is_rising" (defArgs s_is_rising) (defBody s_is_rising) (defScope s_is_rising) .none kV_is_rising dc_is_rising pm_is_rising an_is_rising cd_is_rising ct_is_rising), sl_is_rising⟩)
    (c_is_rising : PySem.W.codeIn K cd_is_rising "is_rising" = true)
    (p_is_rising : PySem.W.keepIn K (.ref f_is_rising) = true)
    (a_are_unlike : PySem.W.nsIn K mainGlobals "are_unlike" = some (some (.ref f_are_unlike)))
    (l_are_unlike : K.lookup f_are_unlike = some ⟨oc_are_unlike, od_are_unlike, .func (PySem.W.fnOf "are_unlike" "are_unlike" (defArgs s_are_unlike) (defBody s_are_unlike) (defScope s_are_unlike) .none kV_are_unlike dc_are_unlike pm_are_unlike an_are_unlike cd_are_unlike ct_are_unlike), sl_are_unlike⟩)
    (c_are_unlike : PySem.W.codeIn K cd_are_unlike "are_unlike" = true)
    (p_are_unlike : PySem.W.keepIn K (.ref f_are_unlike) = true)
    (a__law_is : PySem.W.nsIn K mainGlobals "_law_is" = some (some (.ref f__law_is)))
    (l__law_is : K.lookup f__law_is = some ⟨oc__law_is, od__law_is, .func (PySem.W.fnOf "_law_is" "_law_is" (defArgs s__law_is) (defBody s__law_is) (defScope s__law_is) .none kV__law_is dc__law_is pm__law_is an__law_is cd__law_is ct__law_is), sl__law_is⟩)
    (c__law_is : PySem.W.codeIn K cd__law_is "_law_is" = true)
    (p__law_is : PySem.W.keepIn K (.ref f__law_is) = true)
    (a__law_mixed : PySem.W.nsIn K mainGlobals "_law_mixed" = some (some (.ref f__law_mixed)))
    (l__law_mixed : K.lookup f__law_mixed = some ⟨oc__law_mixed, od__law_mixed, .func (PySem.W.fnOf "_law_mixed" "_law_mixed" (defArgs s__law_mixed) (defBody s__law_mixed) (defScope s__law_mixed) .none kV__law_mixed dc__law_mixed pm__law_mixed an__law_mixed cd__law_mixed ct__law_mixed), sl__law_mixed⟩)
    (c__law_mixed : PySem.W.codeIn K cd__law_mixed "_law_mixed" = true)
    (p__law_mixed : PySem.W.keepIn K (.ref f__law_mixed) = true)
    (a__law_left : PySem.W.nsIn K mainGlobals "_law_left" = some (some (.ref f__law_left)))
    (l__law_left : K.lookup f__law_left = some ⟨oc__law_left, od__law_left, .func (PySem.W.fnOf "_law_left" "_law_left" (defArgs s__law_left) (defBody s__law_left) (defScope s__law_left) .none kV__law_left dc__law_left pm__law_left an__law_left cd__law_left ct__law_left), sl__law_left⟩)
    (c__law_left : PySem.W.codeIn K cd__law_left "_law_left" = true)
    (p__law_left : PySem.W.keepIn K (.ref f__law_left) = true)
    (a__law_number : PySem.W.nsIn K mainGlobals "_law_number" = some (some (.ref f__law_number)))
    (l__law_number : K.lookup f__law_number = some ⟨oc__law_number, od__law_number, .func (PySem.W.fnOf "_law_number" "_law_number" (defArgs s__law_number) (defBody s__law_number) (defScope s__law_number) .none kV__law_number dc__law_number pm__law_number an__law_number cd__law_number ct__law_number), sl__law_number⟩)
    (c__law_number : PySem.W.codeIn K cd__law_number "_law_number" = true)
    (p__law_number : PySem.W.keepIn K (.ref f__law_number) = true)
    (a__law_whole : PySem.W.nsIn K mainGlobals "_law_whole" = some (some (.ref f__law_whole)))
    (l__law_whole : K.lookup f__law_whole = some ⟨oc__law_whole, od__law_whole, .func (PySem.W.fnOf "_law_whole" "_law_whole" (defArgs s__law_whole) (defBody s__law_whole) (defScope s__law_whole) .none kV__law_whole dc__law_whole pm__law_whole an__law_whole cd__law_whole ct__law_whole), sl__law_whole⟩)
    (c__law_whole : PySem.W.codeIn K cd__law_whole "_law_whole" = true)
    (p__law_whole : PySem.W.keepIn K (.ref f__law_whole) = true)
    (a__law_row : PySem.W.nsIn K mainGlobals "_law_row" = some (some (.ref f__law_row)))
    (l__law_row : K.lookup f__law_row = some ⟨oc__law_row, od__law_row, .func (PySem.W.fnOf "_law_row" "_law_row" (defArgs s__law_row) (defBody s__law_row) (defScope s__law_row) .none kV__law_row dc__law_row pm__law_row an__law_row cd__law_row ct__law_row), sl__law_row⟩)
    (c__law_row : PySem.W.codeIn K cd__law_row "_law_row" = true)
    (p__law_row : PySem.W.keepIn K (.ref f__law_row) = true)
    (a__law_flag : PySem.W.nsIn K mainGlobals "_law_flag" = some (some (.ref f__law_flag)))
    (l__law_flag : K.lookup f__law_flag = some ⟨oc__law_flag, od__law_flag, .func (PySem.W.fnOf "_law_flag" "_law_flag" (defArgs s__law_flag) (defBody s__law_flag) (defScope s__law_flag) .none kV__law_flag dc__law_flag pm__law_flag an__law_flag cd__law_flag ct__law_flag), sl__law_flag⟩)
    (c__law_flag : PySem.W.codeIn K cd__law_flag "_law_flag" = true)
    (p__law_flag : PySem.W.keepIn K (.ref f__law_flag) = true)
    (a__law_refused_one : PySem.W.nsIn K mainGlobals "_law_refused_one" = some (some (.ref f__law_refused_one)))
    (l__law_refused_one : K.lookup f__law_refused_one = some ⟨oc__law_refused_one, od__law_refused_one, .func (PySem.W.fnOf "_law_refused_one" "_law_refused_one" (defArgs s__law_refused_one) (defBody s__law_refused_one) (defScope s__law_refused_one) .none kV__law_refused_one dc__law_refused_one pm__law_refused_one an__law_refused_one cd__law_refused_one ct__law_refused_one), sl__law_refused_one⟩)
    (c__law_refused_one : PySem.W.codeIn K cd__law_refused_one "_law_refused_one" = true)
    (p__law_refused_one : PySem.W.keepIn K (.ref f__law_refused_one) = true)
    (a__law_row_of : PySem.W.nsIn K mainGlobals "_law_row_of" = some (some (.ref f__law_row_of)))
    (l__law_row_of : K.lookup f__law_row_of = some ⟨oc__law_row_of, od__law_row_of, .func (PySem.W.fnOf "_law_row_of" "_law_row_of" (defArgs s__law_row_of) (defBody s__law_row_of) (defScope s__law_row_of) .none kV__law_row_of dc__law_row_of pm__law_row_of an__law_row_of cd__law_row_of ct__law_row_of), sl__law_row_of⟩)
    (c__law_row_of : PySem.W.codeIn K cd__law_row_of "_law_row_of" = true)
    (p__law_row_of : PySem.W.keepIn K (.ref f__law_row_of) = true)
    (a__law_ready : PySem.W.nsIn K mainGlobals "_law_ready" = some (some (.ref f__law_ready)))
    (l__law_ready : K.lookup f__law_ready = some ⟨oc__law_ready, od__law_ready, .func (PySem.W.fnOf "_law_ready" "_law_ready" (defArgs s__law_ready) (defBody s__law_ready) (defScope s__law_ready) .none kV__law_ready dc__law_ready pm__law_ready an__law_ready cd__law_ready ct__law_ready), sl__law_ready⟩)
    (c__law_ready : PySem.W.codeIn K cd__law_ready "_law_ready" = true)
    (p__law_ready : PySem.W.keepIn K (.ref f__law_ready) = true)
    (a__law_longest : PySem.W.nsIn K mainGlobals "_law_longest" = some (some (.ref f__law_longest)))
    (l__law_longest : K.lookup f__law_longest = some ⟨oc__law_longest, od__law_longest, .func (PySem.W.fnOf "_law_longest" "_law_longest" (defArgs s__law_longest) (defBody s__law_longest) (defScope s__law_longest) .none kV__law_longest dc__law_longest pm__law_longest an__law_longest cd__law_longest ct__law_longest), sl__law_longest⟩)
    (c__law_longest : PySem.W.codeIn K cd__law_longest "_law_longest" = true)
    (p__law_longest : PySem.W.keepIn K (.ref f__law_longest) = true)
    (a__law_lots : PySem.W.nsIn K mainGlobals "_law_lots" = some (some (.ref f__law_lots)))
    (l__law_lots : K.lookup f__law_lots = some ⟨oc__law_lots, od__law_lots, .func (PySem.W.fnOf "_law_lots" "_law_lots" (defArgs s__law_lots) (defBody s__law_lots) (defScope s__law_lots) .none kV__law_lots dc__law_lots pm__law_lots an__law_lots cd__law_lots ct__law_lots), sl__law_lots⟩)
    (c__law_lots : PySem.W.codeIn K cd__law_lots "_law_lots" = true)
    (p__law_lots : PySem.W.keepIn K (.ref f__law_lots) = true)
    (a__law_flat : PySem.W.nsIn K mainGlobals "_law_flat" = some (some (.ref f__law_flat)))
    (l__law_flat : K.lookup f__law_flat = some ⟨oc__law_flat, od__law_flat, .func (PySem.W.fnOf "_law_flat" "_law_flat" (defArgs s__law_flat) (defBody s__law_flat) (defScope s__law_flat) .none kV__law_flat dc__law_flat pm__law_flat an__law_flat cd__law_flat ct__law_flat), sl__law_flat⟩)
    (c__law_flat : PySem.W.codeIn K cd__law_flat "_law_flat" = true)
    (p__law_flat : PySem.W.keepIn K (.ref f__law_flat) = true)
    (a__law_is_falls : PySem.W.nsIn K mainGlobals "_law_is_falls" = some (some (.ref f__law_is_falls)))
    (l__law_is_falls : K.lookup f__law_is_falls = some ⟨oc__law_is_falls, od__law_is_falls, .func (PySem.W.fnOf "_law_is_falls" "_law_is_falls" (defArgs s__law_is_falls) (defBody s__law_is_falls) (defScope s__law_is_falls) .none kV__law_is_falls dc__law_is_falls pm__law_is_falls an__law_is_falls cd__law_is_falls ct__law_is_falls), sl__law_is_falls⟩)
    (c__law_is_falls : PySem.W.codeIn K cd__law_is_falls "_law_is_falls" = true)
    (p__law_is_falls : PySem.W.keepIn K (.ref f__law_is_falls) = true)
    (a_law : PySem.W.nsIn K mainGlobals "law" = some (some (.ref f_law)))
    (l_law : K.lookup f_law = some ⟨oc_law, od_law, .func (PySem.W.fnOf "law" "law" (defArgs s_law) (defBody s_law) (defScope s_law) .none kV_law dc_law pm_law an_law cd_law ct_law), sl_law⟩)
    (c_law : PySem.W.codeIn K cd_law "law" = true)
    (p_law : PySem.W.keepIn K (.ref f_law) = true)
    (pure_law : ∀ ns : List Int, ns.length ≤ 63 → den_law [.scr ns] = .ok (.bl true)) :
    ∃ fd : FuncData, (∀ (s : Shared) (v : Value), BindsTo s fd ⟨[v], []⟩ [("script", v)]) ∧ ∀ base : Heap, K.In base → base.Ns mainGlobals mg → FnOk l.prog w K mg base (L2N.CX l.prog w) 7 fa fd ["script"] (spLaw K) := by
  have e := hfa.symm.trans (PySem.W.mg_of X G a_law)
  cases e
  have B : Bs mg := ⟨PySem.W.mg_none_of X G b_abs, PySem.W.mg_none_of X G b_all, PySem.W.mg_none_of X G b_bool, PySem.W.mg_none_of X G b_enumerate, PySem.W.mg_none_of X G b_int, PySem.W.mg_none_of X G b_isinstance, PySem.W.mg_none_of X G b_len, PySem.W.mg_none_of X G b_list, PySem.W.mg_none_of X G b_max, PySem.W.mg_none_of X G b_min, PySem.W.mg_none_of X G b_range, PySem.W.mg_none_of X G b_set, PySem.W.mg_none_of X G b_sorted, PySem.W.mg_none_of X G b_tuple⟩
  have xc_ShelfError : ExcC K C_ShelfError := ⟨y1_ShelfError, y2_ShelfError, x3_ShelfError, y3_ShelfError, y4_ShelfError, y6, y7, y5_ShelfError⟩
  have xc_NoRow : ExcC K C_NoRow := ⟨y1_NoRow, y2_NoRow, x3_NoRow, y3_NoRow, y4_NoRow, y6, y7, y5_NoRow⟩
  have T : ExcT K mg subE excL := by
    constructor
    intro x hx
    simp only [excL, List.mem_cons, List.not_mem_nil, or_false] at hx
    rcases hx with rfl | rfl
    · refine ⟨C_ShelfError, PySem.W.mg_of X G e_ShelfError, xc_ShelfError, fun y hy => ?_⟩
      simp only [excL, List.mem_cons, List.not_mem_nil, or_false] at hy
      rcases hy with rfl | rfl
      · exact ⟨C_ShelfError, PySem.W.mg_of X G e_ShelfError, k_ShelfError_ShelfError, PySem.W.exm_ref x3_ShelfError y3_ShelfError x4_ShelfError m_ShelfError_ShelfError⟩
      · exact ⟨C_NoRow, PySem.W.mg_of X G e_NoRow, k_ShelfError_NoRow, PySem.W.exm_ref x3_NoRow y3_NoRow x4_NoRow m_ShelfError_NoRow⟩
    · refine ⟨C_NoRow, PySem.W.mg_of X G e_NoRow, xc_NoRow, fun y hy => ?_⟩
      simp only [excL, List.mem_cons, List.not_mem_nil, or_false] at hy
      rcases hy with rfl | rfl
      · exact ⟨C_ShelfError, PySem.W.mg_of X G e_ShelfError, k_NoRow_ShelfError, PySem.W.exm_ref x3_ShelfError y3_ShelfError x4_ShelfError m_NoRow_ShelfError⟩
      · exact ⟨C_NoRow, PySem.W.mg_of X G e_NoRow, k_NoRow_NoRow, PySem.W.exm_ref x3_NoRow y3_NoRow x4_NoRow m_NoRow_NoRow⟩
  have C : Cs K mg := ⟨glob_int (PySem.W.mg_of X G g_MOST_BOOKS), glob_int (PySem.W.mg_of X G g_GREATEST), ⟨C_ShelfError, PySem.W.mg_of X G e_ShelfError, x1_ShelfError, x2_ShelfError, x3_ShelfError, x4_ShelfError⟩, ⟨C_NoRow, PySem.W.mg_of X G e_NoRow, x1_NoRow, x2_NoRow, x3_NoRow, x4_NoRow⟩, T⟩
  have F_is_integer := fun_mk (st := s_is_integer) l_is_integer c_is_integer p_is_integer
  have bd_is_integer := F_is_integer.binds (ps := ["thing"]) fun _ _ _ _ _ _ us hl => match us, hl with | [_], _ => rfl
  have F_is_under := fun_mk (st := s_is_under) l_is_under c_is_under p_is_under
  have bd_is_under := F_is_under.binds (ps := ["thing", "many"]) fun _ _ _ _ _ _ us hl => match us, hl with | [_, _], _ => rfl
  have F_are_under := fun_mk (st := s_are_under) l_are_under c_are_under p_are_under
  have bd_are_under := F_are_under.binds (ps := ["thing", "many"]) fun _ _ _ _ _ _ us hl => match us, hl with | [_, _], _ => rfl
  have F_is_lot := fun_mk (st := s_is_lot) l_is_lot c_is_lot p_is_lot
  have bd_is_lot := F_is_lot.binds (ps := ["thing", "many"]) fun _ _ _ _ _ _ us hl => match us, hl with | [_, _], _ => rfl
  have F_unlike := fun_mk (st := s_unlike) l_unlike c_unlike p_unlike
  have bd_unlike := F_unlike.binds (ps := ["things"]) fun _ _ _ _ _ _ us hl => match us, hl with | [_], _ => rfl
  have F_is_row := fun_mk (st := s_is_row) l_is_row c_is_row p_is_row
  have bd_is_row := F_is_row.binds (ps := ["thing"]) fun _ _ _ _ _ _ us hl => match us, hl with | [_], _ => rfl
  have F_need_row := fun_mk (st := s_need_row) l_need_row c_need_row p_need_row
  have bd_need_row := F_need_row.binds (ps := ["thing"]) fun _ _ _ _ _ _ us hl => match us, hl with | [_], _ => rfl
  have F_is_ready := fun_mk (st := s_is_ready) l_is_ready c_is_ready p_is_ready
  have bd_is_ready := F_is_ready.binds (ps := ["row"]) fun _ _ _ _ _ _ us hl => match us, hl with | [_], _ => rfl
  have F_longest_ends := fun_mk (st := s_longest_ends) l_longest_ends c_longest_ends p_longest_ends
  have bd_longest_ends := F_longest_ends.binds (ps := ["row"]) fun _ _ _ _ _ _ us hl => match us, hl with | [_], _ => rfl
  have F_rising_of := fun_mk (st := s_rising_of) l_rising_of c_rising_of p_rising_of
  have bd_rising_of := F_rising_of.binds (ps := ["row"]) fun _ _ _ _ _ _ us hl => match us, hl with | [_], _ => rfl
  have F_rising := fun_mk (st := s_rising) l_rising c_rising p_rising
  have bd_rising := F_rising.binds (ps := ["row"]) fun _ _ _ _ _ _ us hl => match us, hl with | [_], _ => rfl
  have F_falls_of := fun_mk (st := s_falls_of) l_falls_of c_falls_of p_falls_of
  have bd_falls_of := F_falls_of.binds (ps := ["row"]) fun _ _ _ _ _ _ us hl => match us, hl with | [_], _ => rfl
  have F_falls := fun_mk (st := s_falls) l_falls c_falls p_falls
  have bd_falls := F_falls.binds (ps := ["row"]) fun _ _ _ _ _ _ us hl => match us, hl with | [_], _ => rfl
  have F_are_falls_of := fun_mk (st := s_are_falls_of) l_are_falls_of c_are_falls_of p_are_falls_of
  have bd_are_falls_of := F_are_falls_of.binds (ps := ["row", "thing"]) fun _ _ _ _ _ _ us hl => match us, hl with | [_, _], _ => rfl
  have F_are_falls := fun_mk (st := s_are_falls) l_are_falls c_are_falls p_are_falls
  have bd_are_falls := F_are_falls.binds (ps := ["row", "thing"]) fun _ _ _ _ _ _ us hl => match us, hl with | [_, _], _ => rfl
  have F_is_rising := fun_mk (st := s_is_rising) l_is_rising c_is_rising p_is_rising
  have bd_is_rising := F_is_rising.binds (ps := ["row", "thing"]) fun _ _ _ _ _ _ us hl => match us, hl with | [_, _], _ => rfl
  have F_are_unlike := fun_mk (st := s_are_unlike) l_are_unlike c_are_unlike p_are_unlike
  have bd_are_unlike := F_are_unlike.binds (ps := ["row"]) fun _ _ _ _ _ _ us hl => match us, hl with | [_], _ => rfl
  have F__law_is := fun_mk (st := s__law_is) l__law_is c__law_is p__law_is
  have bd__law_is := F__law_is.binds (ps := ["e", "name"]) fun _ _ _ _ _ _ us hl => match us, hl with | [_, _], _ => rfl
  have F__law_mixed := fun_mk (st := s__law_mixed) l__law_mixed c__law_mixed p__law_mixed
  have bd__law_mixed := F__law_mixed.binds (ps := ["cell", "k"]) fun _ _ _ _ _ _ us hl => match us, hl with | [_, _], _ => rfl
  have F__law_left := fun_mk (st := s__law_left) l__law_left c__law_left p__law_left
  have bd__law_left := F__law_left.binds (ps := ["cell", "times"]) fun _ _ _ _ _ _ us hl => match us, hl with | [_, _], _ => rfl
  have F__law_number := fun_mk (st := s__law_number) l__law_number c__law_number p__law_number
  have bd__law_number := F__law_number.binds (ps := ["script", "k"]) fun _ _ _ _ _ _ us hl => match us, hl with | [_, _], _ => rfl
  have F__law_whole := fun_mk (st := s__law_whole) l__law_whole c__law_whole p__law_whole
  have bd__law_whole := F__law_whole.binds (ps := ["thing"]) fun _ _ _ _ _ _ us hl => match us, hl with | [_], _ => rfl
  have F__law_row := fun_mk (st := s__law_row) l__law_row c__law_row p__law_row
  have bd__law_row := F__law_row.binds (ps := ["thing"]) fun _ _ _ _ _ _ us hl => match us, hl with | [_], _ => rfl
  have F__law_flag := fun_mk (st := s__law_flag) l__law_flag c__law_flag p__law_flag
  have bd__law_flag := F__law_flag.binds (ps := ["thing", "due"]) fun _ _ _ _ _ _ us hl => match us, hl with | [_, _], _ => rfl
  have F__law_refused_one := fun_mk (st := s__law_refused_one) l__law_refused_one c__law_refused_one p__law_refused_one
  have bd__law_refused_one := F__law_refused_one.binds (ps := ["action", "first", "third"]) fun _ _ _ _ _ _ us hl => match us, hl with | [_, _, _], _ => rfl
  have F__law_row_of := fun_mk (st := s__law_row_of) l__law_row_of c__law_row_of p__law_row_of
  have bd__law_row_of := F__law_row_of.binds (ps := ["script", "at", "most"]) fun _ _ _ _ _ _ us hl => match us, hl with | [_, _, _], _ => rfl
  have F__law_ready := fun_mk (st := s__law_ready) l__law_ready c__law_ready p__law_ready
  have bd__law_ready := F__law_ready.binds (ps := ["row"]) fun _ _ _ _ _ _ us hl => match us, hl with | [_], _ => rfl
  have F__law_longest := fun_mk (st := s__law_longest) l__law_longest c__law_longest p__law_longest
  have bd__law_longest := F__law_longest.binds (ps := ["row"]) fun _ _ _ _ _ _ us hl => match us, hl with | [_], _ => rfl
  have F__law_lots := fun_mk (st := s__law_lots) l__law_lots c__law_lots p__law_lots
  have bd__law_lots := F__law_lots.binds (ps := ["n"]) fun _ _ _ _ _ _ us hl => match us, hl with | [_], _ => rfl
  have F__law_flat := fun_mk (st := s__law_flat) l__law_flat c__law_flat p__law_flat
  have bd__law_flat := F__law_flat.binds (ps := ["thing"]) fun _ _ _ _ _ _ us hl => match us, hl with | [_], _ => rfl
  have F__law_is_falls := fun_mk (st := s__law_is_falls) l__law_is_falls c__law_is_falls p__law_is_falls
  have bd__law_is_falls := F__law_is_falls.binds (ps := ["row", "thing"]) fun _ _ _ _ _ _ us hl => match us, hl with | [_, _], _ => rfl
  have F_law := fun_mk (st := s_law) l_law c_law p_law
  refine ⟨PySem.W.fnOf "law" "law" (defArgs s_law) (defBody s_law) (defScope s_law) .none kV_law dc_law pm_law an_law cd_law ct_law, fun s v => .of_eq rfl, fun base _ _ => ?_⟩
  have q_is_integer := ok_is_integer (P := l.prog) (w := w) (base := base) B C F_is_integer (PySem.W.mg_of X G a_is_integer) bd_is_integer 
  have q_is_under := ok_is_under (P := l.prog) (w := w) (base := base) B C F_is_under (PySem.W.mg_of X G a_is_under) bd_is_under q_is_integer
  have q_are_under := ok_are_under (P := l.prog) (w := w) (base := base) B C F_are_under (PySem.W.mg_of X G a_are_under) bd_are_under q_is_under
  have q_is_lot := ok_is_lot (P := l.prog) (w := w) (base := base) B C F_is_lot (PySem.W.mg_of X G a_is_lot) bd_is_lot q_are_under
  have q_unlike := ok_unlike (P := l.prog) (w := w) (base := base) B C F_unlike (PySem.W.mg_of X G a_unlike) bd_unlike 
  have q_is_row := ok_is_row (P := l.prog) (w := w) (base := base) B C F_is_row (PySem.W.mg_of X G a_is_row) bd_is_row q_is_integer
  have q_need_row := ok_need_row (P := l.prog) (w := w) (base := base) B C F_need_row (PySem.W.mg_of X G a_need_row) bd_need_row q_is_row
  have q_is_ready := ok_is_ready (P := l.prog) (w := w) (base := base) B C F_is_ready (PySem.W.mg_of X G a_is_ready) bd_is_ready 
  have q_longest_ends := ok_longest_ends (P := l.prog) (w := w) (base := base) B C F_longest_ends (PySem.W.mg_of X G a_longest_ends) bd_longest_ends 
  have q_rising_of := ok_rising_of (P := l.prog) (w := w) (base := base) B C F_rising_of (PySem.W.mg_of X G a_rising_of) bd_rising_of q_longest_ends
  have q_rising := ok_rising (P := l.prog) (w := w) (base := base) B C F_rising (PySem.W.mg_of X G a_rising) bd_rising q_need_row q_rising_of
  have q_falls_of := ok_falls_of (P := l.prog) (w := w) (base := base) B C F_falls_of (PySem.W.mg_of X G a_falls_of) bd_falls_of q_longest_ends
  have q_falls := ok_falls (P := l.prog) (w := w) (base := base) B C F_falls (PySem.W.mg_of X G a_falls) bd_falls q_need_row q_falls_of
  have q_are_falls_of := ok_are_falls_of (P := l.prog) (w := w) (base := base) B C F_are_falls_of (PySem.W.mg_of X G a_are_falls_of) bd_are_falls_of q_is_lot
  have q_are_falls := ok_are_falls (P := l.prog) (w := w) (base := base) B C F_are_falls (PySem.W.mg_of X G a_are_falls) bd_are_falls q_need_row q_are_falls_of
  have q_is_rising := ok_is_rising (P := l.prog) (w := w) (base := base) B C F_is_rising (PySem.W.mg_of X G a_is_rising) bd_is_rising q_need_row q_is_lot q_is_ready q_falls_of
  have q_are_unlike := ok_are_unlike (P := l.prog) (w := w) (base := base) B C F_are_unlike (PySem.W.mg_of X G a_are_unlike) bd_are_unlike q_need_row q_unlike
  have q__law_is : IsFnB K mg base l.prog w "_law_is" cs__law_is := by
    constructor
    intro X' h1 h2 h3 h4 h5
    refine ⟨f__law_is, _, by rw [h4]; exact PySem.W.mg_of X G a__law_is, by rw [h3]; exact p__law_is, by rw [h3]; exact bd__law_is, fun a C' oe x hx hC hz hf => ?_⟩
    rw [h1, h2, h3, h4, h5]
    rw [h4] at hC
    exact is_fn (k := 0) F__law_is ⟨rfl, rfl, rfl, by decide +kernel, rfl, by decide +kernel, by decide +kernel⟩ T (by repeat' first | exact IsBody.nil | refine IsBody.cons ?_) (by first | exact Or.inl rfl | exact Or.inr (Or.inl rfl)) (by first | exact Or.inl rfl | exact Or.inr (Or.inl rfl)) B.b_isinstance rfl (by decide +kernel) (by decide +kernel) hx hC hz hf
  have q__law_mixed := ok__law_mixed (P := l.prog) (w := w) (base := base) B C F__law_mixed (PySem.W.mg_of X G a__law_mixed) bd__law_mixed 
  have q__law_left := ok__law_left (P := l.prog) (w := w) (base := base) B C F__law_left (PySem.W.mg_of X G a__law_left) bd__law_left 
  have q__law_number := ok__law_number (P := l.prog) (w := w) (base := base) B C F__law_number (PySem.W.mg_of X G a__law_number) bd__law_number q__law_mixed q__law_left
  have q__law_whole := ok__law_whole (P := l.prog) (w := w) (base := base) B C F__law_whole (PySem.W.mg_of X G a__law_whole) bd__law_whole 
  have q__law_row := ok__law_row (P := l.prog) (w := w) (base := base) B C F__law_row (PySem.W.mg_of X G a__law_row) bd__law_row q__law_whole
  have q__law_flag := ok__law_flag (P := l.prog) (w := w) (base := base) B C F__law_flag (PySem.W.mg_of X G a__law_flag) bd__law_flag 
  have q__law_refused_one := ok__law_refused_one (P := l.prog) (w := w) (base := base) B C F__law_refused_one (PySem.W.mg_of X G a__law_refused_one) bd__law_refused_one q_rising q__law_is
  have q__law_row_of := ok__law_row_of (P := l.prog) (w := w) (base := base) B C F__law_row_of (PySem.W.mg_of X G a__law_row_of) bd__law_row_of q__law_number
  have q__law_ready := ok__law_ready (P := l.prog) (w := w) (base := base) B C F__law_ready (PySem.W.mg_of X G a__law_ready) bd__law_ready 
  have q__law_longest := ok__law_longest (P := l.prog) (w := w) (base := base) B C F__law_longest (PySem.W.mg_of X G a__law_longest) bd__law_longest 
  have q__law_lots := ok__law_lots (P := l.prog) (w := w) (base := base) B C F__law_lots (PySem.W.mg_of X G a__law_lots) bd__law_lots 
  have q__law_flat := ok__law_flat (P := l.prog) (w := w) (base := base) B C F__law_flat (PySem.W.mg_of X G a__law_flat) bd__law_flat 
  have q__law_is_falls := ok__law_is_falls (P := l.prog) (w := w) (base := base) B C F__law_is_falls (PySem.W.mg_of X G a__law_is_falls) bd__law_is_falls q__law_flat
  exact (okF_law (P := l.prog) (w := w) (base := base) B C F_law q__law_row_of q__law_lots q__law_ready q_rising q__law_row q__law_longest q_falls q__law_is_falls q_is_rising q_are_falls q__law_number q__law_flag q_are_unlike q__law_refused_one).imp (law_sp pure_law)
end Sh

namespace Sh
open PySem PySem.Spec PyProof.Rows L2
/-! ### longest rows that never fall: by places below n, v k the number at place k -/
def mx (l : List Nat) : Nat := l.foldl max 0
theorem foldl_max : ∀ (l : List Nat) (a : Nat), a ≤ l.foldl max a ∧ (∀ x ∈ l, x ≤ l.foldl max a) ∧ (l.foldl max a = a ∨ l.foldl max a ∈ l)
  | [], a => ⟨Nat.le_refl _, by simp, .inl rfl⟩
  | b :: r, a => by
    obtain ⟨h1, h2, h3⟩ := foldl_max r (max a b)
    rw [List.foldl_cons]
    refine ⟨by omega, fun x hx => ?_, ?_⟩
    · rcases List.mem_cons.mp hx with e | e
      · omega
      · exact h2 x e
    · rcases h3 with e | e
      · rcases Nat.le_total a b with c | c
        · rw [Nat.max_eq_right c] at e ⊢
          exact .inr (by rw [e]; exact List.mem_cons_self)
        · rw [Nat.max_eq_left c] at e ⊢
          exact .inl e
      · exact .inr (List.mem_cons_of_mem _ e)
theorem mx_le {l : List Nat} {x : Nat} (h : x ∈ l) : x ≤ mx l := (foldl_max l 0).2.1 x h
theorem mx_mem (l : List Nat) : mx l = 0 ∨ mx l ∈ l := (foldl_max l 0).2.2
theorem mx_eq {l m : List Nat} (h : ∀ x, x ∈ l ↔ x ∈ m) : mx l = mx m := by
  apply Nat.le_antisymm
  · rcases mx_mem l with e | e
    · omega
    · exact mx_le ((h _).mp e)
  · rcases mx_mem m with e | e
    · omega
    · exact mx_le ((h _).mpr e)
def ends (v : Nat → Int) : Nat → List Nat
  | 0 => []
  | n + 1 => ends v n ++ [1 + mx (((List.range n).filter fun k => decide (v k ≤ v n)).map fun k => (ends v n).getD k 0)]
def en (v : Nat → Int) (k : Nat) : Nat := (ends v (k + 1)).getD k 0
theorem ends_len (v : Nat → Int) : ∀ n, (ends v n).length = n
  | 0 => rfl
  | n + 1 => by rw [ends, List.length_append, ends_len v n]; rfl
theorem ends_get (v : Nat → Int) : ∀ {n k : Nat}, k < n → (ends v n).getD k 0 = en v k
  | n + 1, k, h => by
    by_cases e : k = n
    · subst e; rfl
    · rw [ends, List.getD_eq_getElem?_getD, List.getElem?_append_left (by rw [ends_len]; omega), ← List.getD_eq_getElem?_getD]
      exact ends_get v (by omega)
theorem en_eq (v : Nat → Int) (n : Nat) : en v n = 1 + mx (((List.range n).filter fun k => decide (v k ≤ v n)).map (en v)) := by
  have e : (((List.range n).filter fun k => decide (v k ≤ v n)).map fun k => (ends v n).getD k 0) = ((List.range n).filter fun k => decide (v k ≤ v n)).map (en v) := by
    refine List.map_congr_left fun k hk => ends_get v ?_
    exact List.mem_range.mp (List.mem_filter.mp hk).1
  have q : en v n = (ends v (n + 1)).getD n 0 := rfl
  rw [q, ends, e, List.getD_eq_getElem?_getD, List.getElem?_append_right (by rw [ends_len]; exact Nat.le_refl _), ends_len, Nat.sub_self]
  rfl
theorem ends_map (v : Nat → Int) (n : Nat) : ends v n = (List.range n).map (en v) := by
  refine List.ext_getElem (by rw [ends_len, List.length_map, List.length_range]) fun k h1 h2 => ?_
  rw [ends_len] at h1
  have := ends_get v h1
  rw [List.getD_eq_getElem?_getD, List.getElem?_eq_getElem (by rw [ends_len]; exact h1)] at this
  simpa using this
theorem ends_snoc (v : Nat → Int) (n : Nat) : ends v (n + 1) = ends v n ++ [en v n] := by
  rw [ends_map, ends_map, List.range_succ, List.map_append]; rfl
theorem en_pos (v : Nat → Int) (n : Nat) : 1 ≤ en v n := by rw [en_eq]; omega
/-- places going up whose numbers never fall -/
def Ch (v : Nat → Int) (l : List Nat) : Prop := l.Pairwise fun a b => a < b ∧ v a ≤ v b
theorem en_chain (v : Nat → Int) (n : Nat) : ∃ l, Ch v (l ++ [n]) ∧ l.length + 1 = en v n := by
  induction n using Nat.strongRecOn with
  | _ n ih =>
    rcases mx_mem (((List.range n).filter fun k => decide (v k ≤ v n)).map (en v)) with e | e
    · exact ⟨[], by simp [Ch], by rw [en_eq, e]; rfl⟩
    · obtain ⟨k, hk, e2⟩ := List.mem_map.mp e
      rw [List.mem_filter, List.mem_range, decide_eq_true_eq] at hk
      obtain ⟨l, h1, h2⟩ := ih k hk.1
      refine ⟨l ++ [k], ?_, by rw [en_eq, ← e2, ← h2, List.length_append]; simp; omega⟩
      refine List.pairwise_append.mpr ⟨h1, by simp, fun a ha b hb => ?_⟩
      rw [List.mem_singleton.mp hb]
      rcases List.mem_append.mp ha with q | q
      · have := (List.pairwise_append.mp h1).2.2 a q k (by simp)
        exact ⟨by omega, by omega⟩
      · rw [List.mem_singleton.mp q]; exact hk
theorem en_max (v : Nat → Int) (n : Nat) : ∀ {l : List Nat}, Ch v (l ++ [n]) → l.length + 1 ≤ en v n := by
  induction n using Nat.strongRecOn with
  | _ n ih =>
    intro l h
    rcases List.eq_nil_or_concat l with e | ⟨l', k, e⟩
    · rw [e]; exact en_pos v n
    · subst e
      obtain ⟨h1, _, h3⟩ := List.pairwise_append.mp h
      have hk := h3 k (by simp) n (by simp)
      have := ih k hk.1 (l := l') (by rw [List.concat_eq_append] at h1; exact h1)
      have m : en v k ≤ mx (((List.range n).filter fun k => decide (v k ≤ v n)).map (en v)) := mx_le (List.mem_map.mpr ⟨k, List.mem_filter.mpr ⟨List.mem_range.mpr hk.1, decide_eq_true hk.2⟩, rfl⟩)
      rw [en_eq]
      simp only [List.concat_eq_append, List.length_append, List.length_cons, List.length_nil]
      omega
/-- how many the longest of all have -/
def bst (v : Nat → Int) (n : Nat) : Nat := mx ((List.range n).map (en v))
theorem ch_bst {v : Nat → Int} {n : Nat} {l : List Nat} (h : Ch v l) (hn : ∀ k ∈ l, k < n) : l.length ≤ bst v n := by
  rcases List.eq_nil_or_concat l with e | ⟨l', k, e⟩
  · rw [e]; exact Nat.zero_le _
  · subst e
    have hk := hn k (by simp)
    have := en_max v k (l := l') (by rw [List.concat_eq_append] at h; exact h)
    have m : en v k ≤ bst v n := mx_le (List.mem_map.mpr ⟨k, List.mem_range.mpr hk, rfl⟩)
    simp only [List.concat_eq_append, List.length_append, List.length_cons, List.length_nil]
    omega
theorem ch_below {v : Nat → Int} {l : List Nat} {m : Nat} (h : Ch v (l ++ [m])) : ∀ k ∈ l ++ [m], k ≤ m := by
  intro k hk
  rcases List.mem_append.mp hk with q | q
  · have := (List.pairwise_append.mp h).2.2 k q m (by simp)
    omega
  · rw [List.mem_singleton.mp q]; exact Nat.le_refl _
theorem bst_ch (v : Nat → Int) (n : Nat) : ∃ l, Ch v l ∧ (∀ k ∈ l, k < n) ∧ l.length = bst v n := by
  rcases mx_mem ((List.range n).map (en v)) with e | e
  · exact ⟨[], by simp [Ch], by simp, by unfold bst; rw [e]; rfl⟩
  · obtain ⟨k, hk, e2⟩ := List.mem_map.mp e
    obtain ⟨l, h1, h2⟩ := en_chain v k
    refine ⟨l ++ [k], h1, fun j hj => ?_, by unfold bst; rw [← e2, ← h2]; simp⟩
    have := ch_below h1 j hj
    have := List.mem_range.mp hk
    omega
/-- the same from a place on -/
def bg (v : Nat → Int) (n k : Nat) : Nat := en (fun j => - v (n - 1 - j)) (n - 1 - k)
theorem bg_pos (v : Nat → Int) (n k : Nat) : 1 ≤ bg v n k := en_pos _ _
theorem ch_flip {v : Nat → Int} {n : Nat} {l : List Nat} (hl : ∀ k ∈ l, k < n) (h : Ch v l) : Ch (fun j => - v (n - 1 - j)) (l.map fun k => n - 1 - k).reverse := by
  unfold Ch
  rw [List.pairwise_reverse, List.pairwise_map]
  refine List.Pairwise.imp_of_mem (fun {a b} ha hb q => ?_) h
  have := hl a ha
  have := hl b hb
  simp only
  rw [show n - 1 - (n - 1 - b) = b by omega, show n - 1 - (n - 1 - a) = a by omega]
  exact ⟨by omega, by omega⟩
theorem ch_flip' {v : Nat → Int} {n : Nat} {l : List Nat} (hl : ∀ k ∈ l, k < n) (h : Ch (fun j => - v (n - 1 - j)) l) : Ch v (l.map fun k => n - 1 - k).reverse := by
  unfold Ch
  rw [List.pairwise_reverse, List.pairwise_map]
  refine List.Pairwise.imp_of_mem (fun {a b} ha hb q => ?_) h
  have := hl a ha
  have := hl b hb
  exact ⟨by omega, by have := q.2; simp only at this; omega⟩
theorem bg_chain (v : Nat → Int) {n k : Nat} (hk : k < n) : ∃ l, Ch v (k :: l) ∧ (∀ j ∈ k :: l, j < n) ∧ l.length + 1 = bg v n k := by
  obtain ⟨l, h1, h2⟩ := en_chain (fun j => - v (n - 1 - j)) (n - 1 - k)
  have hb := ch_below h1
  have hf := ch_flip' (v := v) (n := n) (fun j hj => by have := hb j hj; omega) h1
  rw [List.map_append, List.reverse_append] at hf
  refine ⟨(l.map fun k => n - 1 - k).reverse, ?_, fun j hj => ?_, by rw [List.length_reverse, List.length_map]; exact h2⟩
  · simpa [show n - 1 - (n - 1 - k) = k by omega] using hf
  · rcases List.mem_cons.mp hj with e | e
    · omega
    · obtain ⟨i, _, e2⟩ := List.mem_map.mp (List.mem_reverse.mp e)
      omega
theorem bg_max (v : Nat → Int) {n k : Nat} {l : List Nat} (h : Ch v (k :: l)) (hn : ∀ j ∈ k :: l, j < n) : l.length + 1 ≤ bg v n k := by
  have := ch_flip hn h
  rw [List.map_cons, List.reverse_cons] at this
  have := en_max _ _ this
  rwa [List.length_reverse, List.length_map] at this
/-! the least of the longest -/
def okF (v : Nat → Int) (F : List Nat) (k : Nat) : Bool := F.isEmpty || decide (v (F.getLastD 0) ≤ v k)
def lft (v : Nat → Int) (n at' : Nat) (F : List Nat) : Nat := mx (((List.range' at' (n - at')).filter (okF v F)).map (bg v n))
def stp (v : Nat → Int) (n : Nat) (F : List Nat) (at' : Nat) : List Nat := if bg v n at' = lft v n at' F ∧ okF v F at' = true then F ++ [at'] else F
def LtAt (F T : List Nat) : Prop := ∃ P a b R S, F = P ++ a :: R ∧ T = P ++ b :: S ∧ a < b
structure Gr (v : Nat → Int) (n at' : Nat) (F : List Nat) : Prop where
  le : at' ≤ n
  ch : Ch v F
  lo : ∀ k ∈ F, k < at'
  ex : ∃ l, Ch v (F ++ l) ∧ (∀ k ∈ l, at' ≤ k ∧ k < n) ∧ F.length + l.length = bst v n
  al : ∀ T, Ch v T → (∀ k ∈ T, k < n) → T.length = bst v n → (∃ l, T = F ++ l ∧ ∀ k ∈ l, at' ≤ k) ∨ LtAt F T
theorem okF_last {v : Nat → Int} {F : List Nat} {k : Nat} (h : okF v F k = true) (hF : Ch v F) : ∀ x ∈ F, v x ≤ v k := by
  intro x hx
  rcases List.eq_nil_or_concat F with e | ⟨F', z, e⟩
  · rw [e] at hx; cases hx
  · subst e
    simp only [List.concat_eq_append] at *
    have hz : v z ≤ v k := by simpa [okF] using h
    rcases List.mem_append.mp hx with q | q
    · have := ((List.pairwise_append.mp hF).2.2 x q z (by simp)).2
      omega
    · rw [List.mem_singleton.mp q]; exact hz
theorem okF_of {v : Nat → Int} {F : List Nat} {k : Nat} {l : List Nat} (h : Ch v (F ++ k :: l)) : okF v F k = true := by
  rcases List.eq_nil_or_concat F with e | ⟨F', z, e⟩
  · subst e; rfl
  · subst e
    simp only [List.concat_eq_append] at *
    have := ((List.pairwise_append.mp h).2.2 z (by simp) k (by simp)).2
    simp [okF, this]
theorem ch_join {v : Nat → Int} {at' k : Nat} {F l : List Nat} (hF : Ch v F) (lo : ∀ x ∈ F, x < at') (hk : at' ≤ k) (ok : okF v F k = true) (h : Ch v (k :: l)) : Ch v (F ++ k :: l) := by
  refine List.pairwise_append.mpr ⟨hF, h, fun x hx y hy => ?_⟩
  have h1 := lo x hx
  have h2 := okF_last ok hF x hx
  rcases List.mem_cons.mp hy with e | e
  · rw [e]; exact ⟨by omega, h2⟩
  · have := (List.pairwise_cons.mp h).1 y e
    exact ⟨by omega, by omega⟩
theorem lft_le {v : Nat → Int} {n at' k : Nat} {F : List Nat} (h1 : at' ≤ k) (h2 : k < n) (ok : okF v F k = true) : bg v n k ≤ lft v n at' F :=
  mx_le (List.mem_map.mpr ⟨k, List.mem_filter.mpr ⟨List.mem_range'_1.mpr ⟨h1, by omega⟩, ok⟩, rfl⟩)
theorem lft_eq {v : Nat → Int} {n at' : Nat} {F : List Nat} (g : Gr v n at' F) : F.length + lft v n at' F = bst v n := by
  have le := g.le
  apply Nat.le_antisymm
  · rcases mx_mem (((List.range' at' (n - at')).filter (okF v F)).map (bg v n)) with e | e
    · unfold lft
      rw [e]
      exact ch_bst g.ch (fun k hk => by have := g.lo k hk; omega)
    · obtain ⟨k, hk, e2⟩ := List.mem_map.mp e
      rw [List.mem_filter, List.mem_range'_1] at hk
      obtain ⟨l, h1, h2, h3⟩ := bg_chain v (n := n) (k := k) (by omega)
      have := ch_bst (n := n) (ch_join g.ch g.lo hk.1.1 hk.2 h1) (fun x hx => by
        rcases List.mem_append.mp hx with q | q
        · have := g.lo x q; omega
        · exact h2 x q)
      unfold lft
      rw [← e2, ← h3]
      simpa using this
  · obtain ⟨l, h1, h2, h3⟩ := g.ex
    cases l with
    | nil => simp at h3; omega
    | cons k l =>
      have := bg_max v (n := n) (List.pairwise_append.mp h1).2.1 (fun j hj => (h2 j hj).2)
      have := lft_le (v := v) (F := F) (h2 k List.mem_cons_self).1 (h2 k List.mem_cons_self).2 (okF_of h1)
      simp only [List.length_cons] at h3
      omega
theorem LtAt.app {F T : List Nat} (h : LtAt F T) (X : List Nat) : LtAt (F ++ X) T := by
  obtain ⟨P, a, b, R, S, e1, e2, e3⟩ := h
  exact ⟨P, a, b, R ++ X, S, by rw [e1]; simp, e2, e3⟩
theorem Gr.step {v : Nat → Int} {n at' : Nat} {F : List Nat} (g : Gr v n at' F) (hn : at' < n) : Gr v n (at' + 1) (stp v n F at') := by
  have E := lft_eq g
  unfold stp
  split
  · rename_i c
    obtain ⟨c1, c2⟩ := c
    obtain ⟨l, h1, h2, h3⟩ := bg_chain v hn
    have J := ch_join g.ch g.lo (Nat.le_refl _) c2 h1
    rw [← List.singleton_append, ← List.append_assoc] at J
    have up : ∀ j ∈ l, at' + 1 ≤ j := fun j hj => ((List.pairwise_cons.mp h1).1 j hj).1
    refine ⟨hn, (List.pairwise_append.mp J).1, fun k hk => ?_, ⟨l, J, fun k hk => ⟨up k hk, h2 k (List.mem_cons_of_mem _ hk)⟩, ?_⟩, fun T t1 t2 t3 => ?_⟩
    · rcases List.mem_append.mp hk with q | q
      · have := g.lo k q; omega
      · rw [List.mem_singleton.mp q]; omega
    · rw [List.length_append, List.length_singleton]; omega
    · rcases g.al T t1 t2 t3 with ⟨m, e, hm⟩ | q
      · have := bg_pos v n at'
        cases m with
        | nil => rw [e] at t3; simp at t3; omega
        | cons t m =>
          have ht := hm t List.mem_cons_self
          by_cases z : t = at'
          · left
            subst z
            refine ⟨m, by rw [e]; simp, fun k hk => ?_⟩
            rw [e] at t1
            exact ((List.pairwise_cons.mp (List.pairwise_append.mp t1).2.1).1 k hk).1
          · right
            exact ⟨F, at', t, [], m, rfl, e, by omega⟩
      · exact .inr (q.app _)
  · rename_i c
    have key : ∀ l, Ch v (F ++ l) → (∀ k ∈ l, at' ≤ k ∧ k < n) → F.length + l.length = bst v n → ∀ k ∈ l, at' + 1 ≤ k := by
      intro l h1 h2 h3 k hk
      cases l with
      | nil => cases hk
      | cons t l =>
        have ht := h2 t List.mem_cons_self
        have a2 := (List.pairwise_append.mp h1).2.1
        have ne : t ≠ at' := by
          intro z
          subst z
          have ok := okF_of h1
          have b1 := bg_max v (n := n) a2 (fun j hj => (h2 j hj).2)
          have b2 := lft_le (v := v) (F := F) (Nat.le_refl _) hn ok
          simp only [List.length_cons] at h3
          exact c ⟨by omega, ok⟩
        rcases List.mem_cons.mp hk with q | q
        · omega
        · have := ((List.pairwise_cons.mp a2).1 k q).1
          omega
    obtain ⟨l, h1, h2, h3⟩ := g.ex
    refine ⟨hn, g.ch, fun k hk => by have := g.lo k hk; omega, ⟨l, h1, fun k hk => ⟨key l h1 h2 h3 k hk, (h2 k hk).2⟩, h3⟩, fun T t1 t2 t3 => ?_⟩
    rcases g.al T t1 t2 t3 with ⟨m, e, hm⟩ | q
    · subst e
      exact .inl ⟨m, rfl, key m t1 (fun k hk => ⟨hm k hk, t2 k (List.mem_append.mpr (.inr hk))⟩) (by rw [← t3, List.length_append])⟩
    · exact .inr q
def grd (v : Nat → Int) (n : Nat) : Nat → List Nat
  | 0 => []
  | k + 1 => stp v n (grd v n k) k
theorem grd_gr (v : Nat → Int) (n : Nat) : ∀ k, k ≤ n → Gr v n k (grd v n k)
  | 0, _ => by
    obtain ⟨w, w1, w2, w3⟩ := bst_ch v n
    exact ⟨Nat.zero_le _, by simp [grd, Ch], by simp [grd], ⟨w, w1, fun k hk => ⟨Nat.zero_le _, w2 k hk⟩, by rw [grd]; simpa using w3⟩, fun T _ _ _ => .inl ⟨T, rfl, fun _ _ => Nat.zero_le _⟩⟩
  | k + 1, h => (grd_gr v n k (by omega)).step (by omega)
/-- the greedy row is a longest one, and the least of these -/
theorem grd_best (v : Nat → Int) (n : Nat) : Ch v (grd v n n) ∧ (∀ k ∈ grd v n n, k < n) ∧ (grd v n n).length = bst v n ∧ ∀ T, Ch v T → (∀ k ∈ T, k < n) → T.length = bst v n → T = grd v n n ∨ LtAt (grd v n n) T := by
  have g := grd_gr v n n (Nat.le_refl _)
  obtain ⟨l, h1, h2, h3⟩ := g.ex
  have e : l = [] := List.eq_nil_iff_forall_not_mem.mpr fun k hk => by have := h2 k hk; omega
  subst e
  refine ⟨g.ch, g.lo, by simpa using h3, fun T t1 t2 t3 => ?_⟩
  rcases g.al T t1 t2 t3 with ⟨m, e, hm⟩ | q
  · left
    cases m with
    | nil => simpa using e
    | cons t m =>
      have := hm t List.mem_cons_self
      have := t2 t (by rw [e]; simp)
      omega
  · exact .inr q
theorem LtAt.lt {F T : List Nat} (h : LtAt F T) : (F.map fun k : Nat => (k : Int)) < (T.map fun k : Nat => (k : Int)) := by
  obtain ⟨P, a, b, R, S, e1, e2, e3⟩ := h
  subst e1
  subst e2
  induction P with
  | nil =>
    simp only [List.nil_append, List.map_cons]
    exact List.cons_lt_cons_iff.mpr (.inl (by omega))
  | cons p P ih =>
    simp only [List.cons_append, List.map_cons]
    exact List.cons_lt_cons_iff.mpr (.inr ⟨rfl, ih⟩)
theorem asc_len (n : Nat) : ∀ {l : List Nat}, l.Pairwise (· < ·) → (∀ x ∈ l, x < n) → l.length ≤ n := by
  induction n using Nat.strongRecOn with
  | _ n ih =>
    intro l h1 h2
    rcases List.eq_nil_or_concat l with e | ⟨l', k, e⟩
    · rw [e]; exact Nat.zero_le _
    · rw [List.concat_eq_append] at e
      subst e
      have hk := h2 k (by simp)
      obtain ⟨a1, _, a3⟩ := List.pairwise_append.mp h1
      have := ih k hk a1 fun x hx => a3 x hx k (by simp)
      rw [List.length_append, List.length_singleton]
      omega
theorem en_le (v : Nat → Int) (k : Nat) : en v k ≤ k + 1 := by
  obtain ⟨l, h1, h2⟩ := en_chain v k
  have hb := ch_below h1
  have := asc_len (k + 1) (h1.imp fun h => h.1) fun x hx => by have := hb x hx; omega
  rw [List.length_append, List.length_singleton] at this
  omega
theorem bst_le (v : Nat → Int) (n : Nat) : bst v n ≤ n := by
  rcases mx_mem ((List.range n).map (en v)) with e | e
  · unfold bst; omega
  · obtain ⟨k, hk, e2⟩ := List.mem_map.mp e
    have := List.mem_range.mp hk
    have := en_le v k
    unfold bst
    omega
end Sh

namespace Sh
open PySem PySem.Spec PyProof.Rows L2
/-! ### whole numbers from 0 on, as data -/
abbrev natD (k : Nat) : D := .int (k : Int)
abbrev rowZ (ms : List Int) : D := .tup (ms.map D.int)
abbrev rowN (l : List Nat) : D := .tup (l.map natD)
theorem ebN : Eb natD (fun k : Nat => PyData.int (k : Int)) 0 := ⟨fun x => rfl, fun x => rfl, fun x => Nat.le_refl _, fun x y => by
  simp only [PyData.eqv]
  rw [Bool.eq_iff_iff, beq_iff_eq, decide_eq_true_iff]
  exact Int.ofNat_inj⟩
theorem forF_map {α : Type} {g : D → Rho → R Rho} {fb : FS} (P : Nat → Rho → Prop) (f : Nat → D) : ∀ (n k : Nat) {ρ : Rho}, P k ρ → (∀ j ρ, k ≤ j → j < k + n → P j ρ → ∃ ρ1 ρ2, g (f j) ρ = .ok ρ1 ∧ fb ρ1 = .nx ρ2 ∧ P (j + 1) ρ2) → ∃ ρ', forF g fb ((List.range' k n).map f) ρ = .nx ρ' ∧ P (k + n) ρ'
  | 0, k, ρ, h, _ => ⟨ρ, rfl, h⟩
  | n + 1, k, ρ, h, hs => by
    obtain ⟨ρ1, ρ2, e1, e2, h2⟩ := hs k ρ (Nat.le_refl _) (by omega) h
    obtain ⟨ρ', e, h'⟩ := forF_map (α := α) P f n (k + 1) h2 fun j ρ h1 h3 => hs j ρ (by omega) (by omega)
    refine ⟨ρ', ?_, by rw [show k + (n + 1) = k + 1 + n by omega]; exact h'⟩
    rw [List.range'_succ, List.map_cons, forF_cons, e1, toS_ok, e2, seq_nx, e]
theorem forF_map0 {g : D → Rho → R Rho} {fb : FS} (P : Nat → Rho → Prop) (f : Nat → D) (n : Nat) {ρ : Rho} (h : P 0 ρ) (hs : ∀ j ρ, j < n → P j ρ → ∃ ρ1 ρ2, g (f j) ρ = .ok ρ1 ∧ fb ρ1 = .nx ρ2 ∧ P (j + 1) ρ2) : ∃ ρ', forF g fb ((List.range n).map f) ρ = .nx ρ' ∧ P n ρ' := by
  obtain ⟨ρ', e, h'⟩ := forF_map (α := Nat) (g := g) (fb := fb) P f n 0 h fun j ρ _ h2 hp => hs j ρ (by omega) hp
  exact ⟨ρ', by rw [List.range_eq_range']; exact e, by simpa using h'⟩
theorem rngL_nat (a m : Nat) : rngL (a : Int) m = (List.range' a m).map natD := by
  unfold rngL
  rw [List.range'_eq_map_range, List.map_map]
  apply List.map_congr_left
  intro k _
  simp [Function.comp, natD]
theorem rngL_zero (m : Nat) : rngL 0 m = (List.range m).map natD := by
  have := rngL_nat 0 m
  rw [← List.range_eq_range'] at this
  exact this
theorem enum_ints (ms : List Int) : enumL (ms.map D.int) = (List.range ms.length).map fun k : Nat => D.tup [natD k, .int (ms.getD k 0)] := by
  apply List.ext_getElem
  · simp [enumL]
  · intro i h1 h2
    have hi : i < ms.length := by simpa using h2
    simp only [enumL, List.getD_eq_getElem?_getD]
    simp [List.getElem?_eq_getElem hi]
theorem idx_val {ms : List Int} {k : Nat} (h : k < ms.length) : idxD (rowZ ms) (natD k) = .ok (.int (ms.getD k 0)) := by
  rw [idx_tup_ints (by omega) (by simpa using h), List.getD_eq_getElem?_getD, List.getElem?_eq_getElem h]
  simp
theorem idx_vall {ms : List Int} {k : Nat} (h : k < ms.length) : idxD (.lst (ms.map D.int)) (natD k) = .ok (.int (ms.getD k 0)) := by
  rw [idx_lst_ints (by omega) (by simpa using h), List.getD_eq_getElem?_getD, List.getElem?_eq_getElem h]
  simp
theorem idx_nat {l : List Nat} {k : Nat} (h : k < l.length) : idxD (rowN l) (natD k) = .ok (natD (l.getD k 0)) := by
  rw [idx_tup_map natD (by omega) (by simpa using h), List.getD_eq_getElem?_getD, List.getElem?_eq_getElem h]
  simp
theorem idx_natl {l : List Nat} {k : Nat} (h : k < l.length) : idxD (.lst (l.map natD)) (natD k) = .ok (natD (l.getD k 0)) := by
  rw [idx_lst_map natD (by omega) (by simpa using h), List.getD_eq_getElem?_getD, List.getElem?_eq_getElem h]
  simp
theorem map_nat (l : List Nat) : l.map natD = (l.map fun k : Nat => (k : Int)).map D.int := by rw [List.map_map]; rfl
theorem max_nats (l : List Nat) : maxD [.lst (.int 0 :: l.map natD)] = .ok (natD (mx l)) := by
  show (match ltI (.int 0 :: l.map natD) with
    | some (a :: r) => (R.ok (D.int (maxI (a :: r))) : R D)
    | _ => .stuck) = _
  rw [show (D.int 0 :: l.map natD) = (0 :: l.map fun k : Nat => (k : Int)).map D.int by rw [List.map_cons, map_nat], ltI_map]
  simp only [maxI]
  have : ∀ (l : List Nat) (a : Nat), (l.map fun k : Nat => (k : Int)).foldl max (a : Int) = ((l.foldl max a : Nat) : Int) := by
    intro l
    induction l with
    | nil => intro a; rfl
    | cons b r ih =>
      intro a
      rw [List.map_cons, List.foldl_cons, List.foldl_cons, ← ih (max a b)]
      congr 1
      omega
  exact congrArg (fun z => R.ok (D.int z)) (this l 0)
theorem max_nats1 {l : List Nat} (h : l ≠ []) : maxD [.lst (l.map natD)] = .ok (natD (mx l)) := by
  cases l with
  | nil => exact absurd rfl h
  | cons a r =>
    show (match ltI ((a :: r).map natD) with
      | some (a :: r) => (R.ok (D.int (maxI (a :: r))) : R D)
      | _ => .stuck) = _
    rw [map_nat, ltI_map]
    simp only [List.map_cons, maxI]
    have : ∀ (l : List Nat) (a : Nat), (l.map fun k : Nat => (k : Int)).foldl max (a : Int) = ((l.foldl max a : Nat) : Int) := by
      intro l
      induction l with
      | nil => intro a; rfl
      | cons b r ih =>
        intro a
        rw [List.map_cons, List.foldl_cons, List.foldl_cons, ← ih (max a b)]
        congr 1
        omega
    rw [this]
    show _ = R.ok (D.int ((mx (a :: r) : Nat) : Int))
    rw [mx, List.foldl_cons, Nat.zero_max]
theorem in_eb {α : Type} [DecidableEq α] {emb : α → D} {py : α → PyData} {n : Nat} (h : Eb emb py n) (hn : n + 1 ≤ 64) (hf : ∀ x, flatD (emb x) = false) (a : α) (xs : List α) {k : Bool} (hk : k = true ↔ a ∈ xs) : blD inB (emb a) (.lst (xs.map emb)) = .ok (.bl k) := by
  have e : inB (emb a) (.lst (xs.map emb)) = .ok k := by
    unfold inB
    simp only
    rw [hf a, Bool.false_and, if_neg (by simp), h.to, h.toL]
    simp only
    rw [if_pos (by
      rw [Bool.and_eq_true]
      exact ⟨h.shaped (by omega) a, h.lst.shaped hn xs⟩)]
    congr 1
    rw [List.any_map, Bool.eq_iff_iff, hk, List.any_eq_true]
    constructor
    · rintro ⟨x, hx, e⟩
      simp only [Function.comp, h.eqv, decide_eq_true_eq] at e
      rw [← e]; exact hx
    · intro hx
      exact ⟨a, hx, by simp [h.eqv]⟩
  unfold blD
  rw [e]; rfl
theorem ebRN : Eb rowN (fun l => .tuple (l.map fun k : Nat => PyData.int (k : Int))) 1 := ebN.tup
theorem ebRRN : Eb (fun L : List (List Nat) => D.tup (L.map rowN)) (fun L => .tuple (L.map fun l => .tuple (l.map fun k : Nat => PyData.int (k : Int)))) 2 := ebRN.tup
theorem ltD_row (l m : List Nat) : ltD (rowN l) (rowN m) = decide ((l.map fun k : Nat => (k : Int)) < m.map fun k : Nat => (k : Int)) := by
  unfold ltD
  have e : ∀ l : List Nat, pyD (rowN l) = .tuple ((l.map fun k : Nat => (k : Int)).map .int) := fun l => by
    unfold pyD
    rw [ebRN.to, List.map_map]; rfl
  rw [e, e, PySem.W.dataLt_tuple]
  exact PySem.W.dataLt_ints _ _
theorem ltI_rowN (l : List Nat) (L : List (List Nat)) : ltI ((l :: L).map rowN) = none := rfl
/-- the least of lots of one length, one of them known to be it -/
theorem min_rows {F : List Nat} {L : List (List Nat)} (hF : F ∈ L) (hL : L.length ≤ 9999) (h : ∀ T ∈ L, T = F ∨ (F.map fun k : Nat => (k : Int)) < T.map fun k : Nat => (k : Int)) : minAD [.lst (L.map rowN)] = .ok (rowN F) := by
  cases L with
  | nil => cases hF
  | cons l L =>
    have ok : minOk ((l :: L).map fun l => PyData.tuple (l.map fun k : Nat => PyData.int (k : Int))) = true := by
      unfold minOk
      rw [Bool.and_eq_true, List.all_eq_true, List.all_eq_true]
      have al : ∀ a b : List Nat, PySem.W.alikeAll (a.map fun k : Nat => PyData.int (k : Int)) (b.map fun k : Nat => PyData.int (k : Int)) = true := by
        intro a
        induction a with
        | nil => intro b; cases b <;> simp [PySem.W.alikeAll]
        | cons x a ih => intro b; cases b <;> simp [PySem.W.alikeAll, PySem.W.alike, ih]
      refine ⟨fun p hp => List.all_eq_true.mpr fun q hq => ?_, fun p hp => ?_⟩
      · obtain ⟨a, _, rfl⟩ := List.mem_map.mp hp
        obtain ⟨b, _, rfl⟩ := List.mem_map.mp hq
        rw [PySem.W.alike]
        exact al a b
      · obtain ⟨a, _, rfl⟩ := List.mem_map.mp hp
        have := ebRN.dep a
        simp only [Bool.and_eq_true, decide_eq_true_eq, and_true]
        omega
    have nb : ((l :: L).map rowN).all (fun d => !isBox d) = true := by
      rw [List.all_map]
      exact List.all_eq_true.mpr fun x _ => rfl
    have e1 : minAD [.lst ((l :: L).map rowN)] = minTD ((l :: L).map rowN) := rfl
    have e2 : minTD ((l :: L).map rowN) = .ok ((L.map rowN).foldl (fun a y => if ltD y a then y else a) (rowN l)) := by
      rw [List.map_cons]
      show (match toPyL (rowN l :: L.map rowN) with
        | some ps => if (minOk ps && (rowN l :: L.map rowN).all (fun d => !isBox d)) = true then (R.ok ((L.map rowN).foldl (fun a y => if ltD y a then y else a) (rowN l)) : R D) else .stuck
        | none => .stuck) = _
      rw [← List.map_cons (f := rowN), ebRN.toL]
      simp only
      rw [ok, nb]; rfl
    rw [e1, e2]
    congr 1
    have key : ∀ (L : List (List Nat)) (l : List Nat), (∀ T ∈ l :: L, T = F ∨ (F.map fun k : Nat => (k : Int)) < T.map fun k : Nat => (k : Int)) → F ∈ l :: L → (L.map rowN).foldl (fun a y => if ltD y a then y else a) (rowN l) = rowN F := by
      intro L
      induction L with
      | nil =>
        intro l _ hF
        rw [List.mem_singleton.mp hF]; rfl
      | cons m L ih =>
        intro l h hF
        rw [List.map_cons, List.foldl_cons, ltD_row]
        by_cases c : (m.map fun k : Nat => (k : Int)) < l.map fun k : Nat => (k : Int)
        · rw [decide_eq_true c, if_pos rfl]
          refine ih m (fun T hT => h T (List.mem_cons_of_mem _ hT)) ?_
          rcases List.mem_cons.mp hF with e | e
          · subst e
            rcases h m (by simp) with z | z
            · rw [z]; exact List.mem_cons_self
            · exact absurd c (List.lt_asymm z)
          · exact e
        · rw [decide_eq_false c]
          rw [if_neg (by simp)]
          refine ih l (fun T hT => h T (by
            rcases List.mem_cons.mp hT with z | z
            · rw [z]; exact List.mem_cons_self
            · exact List.mem_cons_of_mem _ (List.mem_cons_of_mem _ z))) ?_
          rcases List.mem_cons.mp hF with e | e
          · rw [e]; exact List.mem_cons_self
          · rcases List.mem_cons.mp e with e | e
            · subst e
              rcases h l (by simp) with z | z
              · rw [z]; exact List.mem_cons_self
              · exact absurd z c
            · exact List.mem_cons_of_mem _ e
    exact key L l h hF
end Sh

namespace Sh
open PySem PySem.Spec PyProof.Rows L2
/-! ### neighbours that don't stand side by side -/
def brk : List Int → Nat
  | a :: b :: r => (if b - a = 1 ∨ a - b = 1 then 0 else 1) + brk (b :: r)
  | _ => 0
theorem brk_app : ∀ xs ys : List Int, brk xs + brk ys ≤ brk (xs ++ ys) ∧ brk (xs ++ ys) ≤ brk xs + brk ys + 1
  | [], ys => by simp [brk]
  | [a], [] => by simp [brk]
  | [a], b :: r => by
    simp only [List.cons_append, List.nil_append, brk]
    split <;> omega
  | a :: b :: r, ys => by
    have := brk_app (b :: r) ys
    simp only [List.cons_append, brk] at this ⊢
    split <;> omega
theorem brk_snoc : ∀ (xs : List Int) (x y : Int), brk (xs ++ [x] ++ [y]) = brk (xs ++ [x]) + (if y - x = 1 ∨ x - y = 1 then 0 else 1)
  | [], x, y => by simp [brk]
  | [a], x, y => by
    simp only [List.cons_append, List.nil_append, brk]
    omega
  | a :: b :: r, x, y => by
    have := brk_snoc (b :: r) x y
    simp only [List.cons_append, brk] at this ⊢
    omega
theorem brk_rev : ∀ xs : List Int, brk xs.reverse = brk xs
  | [] => rfl
  | [a] => rfl
  | a :: b :: r => by
    have ih := brk_rev (b :: r)
    rw [List.reverse_cons] at ih ⊢
    rw [List.reverse_cons, brk_snoc, ih, brk]
    have : (a - b = 1 ∨ b - a = 1) ↔ (b - a = 1 ∨ a - b = 1) := by omega
    simp only [this]
    omega
/-- by steps of one -/
theorem brk_far : ∀ (l : List Int) (a : Int), brk (a :: l) = 0 → ∀ z ∈ (a :: l).getLast?, z ≤ a + l.length ∧ (z = a + l.length → ∀ (k : Nat) (x : Int), (a :: l)[k]? = some x → x = a + k)
  | [], a, _, z, hz => by
    simp at hz
    subst hz
    refine ⟨by simp, fun _ k x hx => ?_⟩
    cases k with
    | zero => simp at hx; omega
    | succ k => simp at hx
  | b :: r, a, h, z, hz => by
    rw [brk] at h
    have h1 : b - a = 1 ∨ a - b = 1 := by
      by_cases c : b - a = 1 ∨ a - b = 1
      · exact c
      · rw [if_neg c] at h; omega
    rw [if_pos h1, Nat.zero_add] at h
    obtain ⟨i1, i2⟩ := brk_far r b h z (by simpa using hz)
    simp only [List.length_cons, Int.natCast_add, Int.natCast_one]
    refine ⟨by omega, fun e k x hx => ?_⟩
    have eb : b = a + 1 := by omega
    cases k with
    | zero => simp at hx; omega
    | succ k =>
      have := i2 (by omega) k x (by simpa using hx)
      omega
theorem brk_run (a : Int) : ∀ n : Nat, brk ((List.range n).map fun k : Nat => a + (k : Int)) = 0
  | 0 => rfl
  | 1 => rfl
  | n + 2 => by
    have ih := brk_run (a + 1) (n + 1)
    have e : ∀ m : Nat, ((List.range (m + 1)).map fun k : Nat => a + (k : Int)) = a :: (List.range m).map fun k : Nat => a + 1 + (k : Int) := fun m => by
      rw [List.range_succ_eq_map, List.map_cons, List.map_map]
      congr 1
      · simp
      · apply List.map_congr_left
        intro k _
        simp only [Function.comp_apply]
        omega
    have e2 : ∀ m : Nat, ((List.range (m + 1)).map fun k : Nat => a + 1 + (k : Int)) = (a + 1) :: (List.range m).map fun k : Nat => a + 1 + 1 + (k : Int) := fun m => by
      rw [List.range_succ_eq_map, List.map_cons, List.map_map]
      congr 1
      · simp
      · apply List.map_congr_left
        intro k _
        simp only [Function.comp_apply]
        omega
    rw [e, e2, brk, ← e2, ih]
    rw [if_pos (by omega)]
/-! ranks -/
def rk (ms : List Int) (x : Int) : Int := ((ms.filter fun y => decide (y < x)).length : Nat)
theorem rk_perm {ms ys : List Int} (h : ms.Perm ys) (x : Int) : rk ms x = rk ys x := by
  unfold rk
  rw [(h.filter _).length_eq]
theorem rk_lt {ms : List Int} {x y : Int} (hx : x ∈ ms) (h : x < y) : rk ms x < rk ms y := by
  have le : ∀ l : List Int, (l.filter fun z => decide (z < x)).length ≤ (l.filter fun z => decide (z < y)).length := by
    intro l
    induction l with
    | nil => exact Nat.le_refl _
    | cons b r ih =>
      by_cases c : b < x
      · rw [List.filter_cons_of_pos (by simpa using c), List.filter_cons_of_pos (by simp; omega)]
        simp only [List.length_cons]; omega
      · rw [List.filter_cons_of_neg (by simpa using c)]
        refine Nat.le_trans ih ?_
        by_cases c2 : b < y
        · rw [List.filter_cons_of_pos (by simpa using c2), List.length_cons]; omega
        · rw [List.filter_cons_of_neg (by simpa using c2)]; exact Nat.le_refl _
  unfold rk
  have : (ms.filter fun z => decide (z < x)).length < (ms.filter fun z => decide (z < y)).length := by
    induction ms with
    | nil => cases hx
    | cons b r ih =>
      rcases List.mem_cons.mp hx with e | e
      · subst e
        rw [List.filter_cons_of_neg (by simp), List.filter_cons_of_pos (by simpa using h), List.length_cons]
        have := le r
        omega
      · have := ih e
        by_cases c : b < x
        · rw [List.filter_cons_of_pos (by simpa using c), List.filter_cons_of_pos (by simp; omega)]
          simp only [List.length_cons]; omega
        · rw [List.filter_cons_of_neg (by simpa using c)]
          by_cases c2 : b < y
          · rw [List.filter_cons_of_pos (by simpa using c2), List.length_cons]; omega
          · rw [List.filter_cons_of_neg (by simpa using c2)]; exact this
  omega
theorem rk_asc : ∀ {ms : List Int}, ms.Pairwise (· < ·) → ms.map (rk ms) = (List.range ms.length).map fun k : Nat => (k : Int)
  | [], _ => rfl
  | a :: r, h => by
    obtain ⟨h1, h2⟩ := List.pairwise_cons.mp h
    have ih := rk_asc h2
    rw [List.length_cons, List.range_succ_eq_map, List.map_cons, List.map_cons, List.map_map]
    congr 1
    · unfold rk
      rw [List.filter_cons_of_neg (by simp), List.filter_eq_nil_iff.mpr (fun y hy => by have := h1 y hy; simp; omega)]
      rfl
    · have e : r.map (rk (a :: r)) = (r.map (rk r)).map fun x => x + 1 := by
        rw [List.map_map]
        apply List.map_congr_left
        intro x hx
        have := h1 x hx
        simp only [Function.comp_apply, rk]
        rw [List.filter_cons_of_pos (by simpa using this), List.length_cons]
        omega
      rw [e, ih, List.map_map]
      apply List.map_congr_left
      intro k _
      simp only [Function.comp_apply]
      omega
def rdy : List Int → Bool
  | a :: b :: r => decide (a ≤ b) && rdy (b :: r)
  | _ => true
theorem rdy_asc : ∀ {ms : List Int}, ms.Nodup → rdy ms = true → ms.Pairwise (· < ·)
  | [], _, _ => .nil
  | [a], _, _ => by simp
  | a :: b :: r, hn, h => by
    rw [rdy, Bool.and_eq_true, decide_eq_true_eq] at h
    obtain ⟨n1, n2⟩ := List.nodup_cons.mp hn
    have ih := rdy_asc n2 h.2
    have ab : a < b := by
      rcases Int.lt_or_eq_of_le h.1 with q | q
      · exact q
      · exact absurd (by rw [q]; exact List.mem_cons_self) n1
    refine List.pairwise_cons.mpr ⟨fun y hy => ?_, ih⟩
    rcases List.mem_cons.mp hy with q | q
    · omega
    · have := (List.pairwise_cons.mp ih).1 y q
      omega
theorem asc_rdy : ∀ {ms : List Int}, ms.Pairwise (· ≤ ·) → rdy ms = true
  | [], _ => rfl
  | [a], _ => rfl
  | a :: b :: r, h => by
    obtain ⟨h1, h2⟩ := List.pairwise_cons.mp h
    rw [rdy, asc_rdy h2, decide_eq_true (h1 b List.mem_cons_self)]
    rfl
def goals (ms : List Int) : List Int := -1 :: (ms.map (rk ms) ++ [(ms.length : Int)])
theorem goals_zero {ms : List Int} (hn : ms.Nodup) : (brk (goals ms) == 0) = rdy ms := by
  rw [Bool.eq_iff_iff, beq_iff_eq]
  constructor
  · intro h
    have last : ((ms.length : Nat) : Int) ∈ (goals ms).getLast? := by
      unfold goals
      rw [← List.cons_append, List.getLast?_append]
      simp
    obtain ⟨_, h2⟩ := brk_far _ (-1) h _ last
    have all := h2 (by rw [List.length_append, List.length_map]; simp; omega)
    -- every rank is its place
    have rank : ∀ (k : Nat) (hk : k < ms.length), rk ms ms[k] = k := fun k hk => by
      have := all (k + 1) (rk ms ms[k]) (by
        rw [List.getElem?_cons_succ, List.getElem?_append_left (by simpa using hk), List.getElem?_map, List.getElem?_eq_getElem hk]
        rfl)
      omega
    refine asc_rdy (List.pairwise_iff_getElem.mpr fun i j hi hj hij => ?_)
    by_cases c : ms[i] ≤ ms[j]
    · exact c
    · have := rk_lt (ms := ms) (List.getElem_mem hj) (show ms[j] < ms[i] by omega)
      rw [rank i hi, rank j hj] at this
      omega
  · intro h
    have asc := rdy_asc hn h
    unfold goals
    rw [rk_asc asc]
    have e : (-1 : Int) :: ((List.range ms.length).map (fun k : Nat => (k : Int)) ++ [((ms.length : Nat) : Int)]) = (List.range (ms.length + 2)).map fun k : Nat => -1 + (k : Int) := by
      rw [List.range_succ_eq_map, List.map_cons, List.map_map, List.range_succ, List.map_append]
      congr 1
      congr 1
      · apply List.map_congr_left
        intro k _
        simp only [Function.comp_apply]
        omega
      · simp
        omega
    rw [e]
    exact brk_run (-1) _
/-! turned about -/
def trn (a b : Nat) (ms : List Int) : List Int := ms.take a ++ ((ms.drop a).take (b + 1 - a)).reverse ++ ms.drop (b + 1)
theorem cut3 (a b : Nat) (ms : List Int) (h : a ≤ b) : ms = ms.take a ++ (ms.drop a).take (b + 1 - a) ++ ms.drop (b + 1) := by
  have e : ms.drop (b + 1) = (ms.drop a).drop (b + 1 - a) := by rw [List.drop_drop]; congr 1; omega
  rw [e, List.append_assoc, List.take_append_drop, List.take_append_drop]
theorem trn_app {A B C : List Int} {a b : Nat} (ha : A.length = a) (hb : A.length + B.length = b + 1) : trn a b (A ++ B ++ C) = A ++ B.reverse ++ C := by
  subst ha
  have e1 : (A ++ B ++ C).take A.length = A := by rw [List.append_assoc, List.take_left]
  have e2 : (A ++ B ++ C).drop A.length = B ++ C := by rw [List.append_assoc, List.drop_left]
  have e3 : (B ++ C).take (b + 1 - A.length) = B := by rw [show b + 1 - A.length = B.length by omega, List.take_left]
  have e4 : (A ++ B ++ C).drop (b + 1) = C := by rw [show b + 1 = (A ++ B).length by rw [List.length_append]; omega, List.drop_left]
  unfold trn
  rw [e1, e2, e3, e4]
theorem trn_perm (a b : Nat) (ms : List Int) (h : a ≤ b) : (trn a b ms).Perm ms := by
  have e := cut3 a b ms h
  unfold trn
  conv => rhs; rw [e]
  exact ((List.reverse_perm _).append_left _).append_right _
theorem trn_twice (a b : Nat) (ms : List Int) (h : a ≤ b) (hb : b < ms.length) : trn a b (trn a b ms) = ms := by
  have e := cut3 a b ms h
  have l1 : (ms.take a).length = a := by rw [List.length_take]; omega
  have l2 : ((ms.drop a).take (b + 1 - a)).length = b + 1 - a := by rw [List.length_take, List.length_drop]; omega
  have t1 : trn a b ms = ms.take a ++ ((ms.drop a).take (b + 1 - a)).reverse ++ ms.drop (b + 1) := rfl
  rw [t1, trn_app l1 (by rw [l1, List.length_reverse, l2]; omega), List.reverse_reverse]
  exact e.symm
theorem trn_brk (a b : Nat) (ms : List Int) (h : a ≤ b) : (brk (goals (trn a b ms)) : Int) - brk (goals ms) ≤ 2 ∧ (brk (goals ms) : Int) - brk (goals (trn a b ms)) ≤ 2 := by
  have p := trn_perm a b ms h
  have e := cut3 a b ms h
  have g1 : goals (trn a b ms) = (-1 :: (ms.take a).map (rk ms)) ++ (((ms.drop a).take (b + 1 - a)).map (rk ms)).reverse ++ ((ms.drop (b + 1)).map (rk ms) ++ [(ms.length : Int)]) := by
    unfold goals
    rw [p.length_eq]
    have : (trn a b ms).map (rk (trn a b ms)) = (trn a b ms).map (rk ms) := List.map_congr_left fun x _ => rk_perm p x
    rw [this]
    unfold trn
    rw [List.map_append, List.map_append, List.map_reverse]
    simp
  have g2 : goals ms = (-1 :: (ms.take a).map (rk ms)) ++ ((ms.drop a).take (b + 1 - a)).map (rk ms) ++ ((ms.drop (b + 1)).map (rk ms) ++ [(ms.length : Int)]) := by
    unfold goals
    have : ms.map (rk ms) = (ms.take a).map (rk ms) ++ ((ms.drop a).take (b + 1 - a)).map (rk ms) ++ (ms.drop (b + 1)).map (rk ms) := by
      rw [← List.map_append, ← List.map_append, ← e]
    rw [this]
    simp
  rw [g1, g2]
  generalize (-1 :: (ms.take a).map (rk ms)) = A
  generalize ((ms.drop a).take (b + 1 - a)).map (rk ms) = B
  generalize ((ms.drop (b + 1)).map (rk ms) ++ [(ms.length : Int)]) = C
  have q1 := brk_app (A ++ B) C
  have q2 := brk_app A B
  have q3 := brk_app (A ++ B.reverse) C
  have q4 := brk_app A B.reverse
  rw [brk_rev] at q4
  omega
/-! neighbours by places -/
theorem adj_len (l : List Int) : ((List.range (l.length - 1)).filter fun k => decide (¬ (l.getD (k + 1) 0 - l.getD k 0 = 1 ∨ l.getD k 0 - l.getD (k + 1) 0 = 1))).length = brk l := by
  induction l with
  | nil => rfl
  | cons a r ih =>
    cases r with
    | nil => rfl
    | cons b r =>
      rw [show (a :: b :: r).length - 1 = ((b :: r).length - 1) + 1 by simp, List.range_succ_eq_map, List.filter_cons, List.filter_map, brk]
      have e : ((fun k => decide (¬ ((a :: b :: r).getD (k + 1) 0 - (a :: b :: r).getD k 0 = 1 ∨ (a :: b :: r).getD k 0 - (a :: b :: r).getD (k + 1) 0 = 1))) ∘ Nat.succ) = fun k => decide (¬ ((b :: r).getD (k + 1) 0 - (b :: r).getD k 0 = 1 ∨ (b :: r).getD k 0 - (b :: r).getD (k + 1) 0 = 1)) := by
        funext k
        simp [Function.comp]
      rw [e]
      have h0 : (decide (¬ ((a :: b :: r).getD (0 + 1) 0 - (a :: b :: r).getD 0 0 = 1 ∨ (a :: b :: r).getD 0 0 - (a :: b :: r).getD (0 + 1) 0 = 1)) = true) ↔ ¬ (b - a = 1 ∨ a - b = 1) := by simp
      by_cases c : b - a = 1 ∨ a - b = 1
      · rw [if_neg (fun z => (h0.mp z) c), if_pos c, List.length_map, ih]; omega
      · rw [if_pos (h0.mpr c), if_neg c, List.length_cons, List.length_map, ih]; omega
theorem adj_all (l : List Int) : ((List.range (l.length - 1)).all fun k => decide (l.getD k 0 ≤ l.getD (k + 1) 0)) = rdy l := by
  induction l with
  | nil => rfl
  | cons a r ih =>
    cases r with
    | nil => rfl
    | cons b r =>
      rw [show (a :: b :: r).length - 1 = ((b :: r).length - 1) + 1 by simp, List.range_succ_eq_map, List.all_cons, List.all_map, rdy, ← ih]
      congr 1
end Sh

namespace Sh
open PySem PySem.Spec PyProof.Rows L2
/-! ### the numbers that are drawn -/
theorem mixed_ok (c k : Int) : ∃ v : Int, den__law_mixed [.int c, .int k] = .ok (.int v) ∧ 0 ≤ v := by
  refine ⟨((((if c < 0 then -c else c) + 1) * 48271 + k * 69621) % 2147483647 * 16807 + k * 31) % 2147483629, ?_, Int.emod_nonneg _ (by decide)⟩
  simp only [den__law_mixed, runD_eq, g__law_mixed]
  simp [initD, mulD_r, modD_int]
def leftN : Nat → Int → Int
  | 0, c => c
  | n + 1, c => leftN n (c / 1000)
theorem leftN_nn : ∀ (n : Nat) {c : Int}, 0 ≤ c → 0 ≤ leftN n c
  | 0, _, h => h
  | n + 1, c, h => leftN_nn n (by omega)
theorem left_loop : ∀ (n : Nat) (lo c : Int) (t : D) (o : Option D), ∃ o', forF (gfName 2) (fSeq (fSet 0 (f2 fdivD (fVar 0) (fC (.int 1000)))) fSkip) (rngL lo n) [some (.int c), some t, o] = .nx [some (.int (leftN n c)), some t, o']
  | 0, lo, c, t, o => ⟨o, rfl⟩
  | n + 1, lo, c, t, o => by
    have e : rngL lo (n + 1) = .int lo :: rngL (lo + 1) n := by
      unfold rngL
      rw [List.range_succ_eq_map, List.map_cons, List.map_map]
      congr 1
      · simp
      · apply List.map_congr_left
        intro k _
        simp only [Function.comp_apply]
        congr 1
        omega
    obtain ⟨o', h⟩ := left_loop n (lo + 1) (c / 1000) t (some (.int lo))
    refine ⟨o', ?_⟩
    rw [e, forF_cons]
    simp [fdivD_int]
    exact h
theorem left_ok (c k : Int) (h0 : 0 ≤ k) (h1 : k < 2 ^ 62) : den__law_left [.int c, .int k] = .ok (.int (leftN k.toNat c)) := by
  obtain ⟨o', h⟩ := left_loop k.toNat 0 c (.int k) none
  simp only [den__law_left, runD_eq, g__law_left]
  simp [initD, rng1_ok h0 h1]
  have h' : forF (gfName 2) (fSeq (fSet 0 (f2 fdivD (fVar 0) (fC (.int 1000)))) fSkip) (rngL 0 k.toNat) [some (.int c), some (.int k), none] = _ := h
  rw [h']
  simp
theorem number_ok (ns : List Int) (k : Int) (hl : ns.length ≤ 63) (h0 : 0 ≤ k) (h1 : k < 2 ^ 61) : ∃ v : Int, den__law_number [.scr ns, .int k] = .ok (.int v) ∧ 0 ≤ v := by
  simp only [den__law_number, runD_eq, g__law_number]
  by_cases hn : ns = []
  · subst hn
    obtain ⟨v, e, hv⟩ := mixed_ok 0 k
    refine ⟨v, ?_, hv⟩
    simp [initD, e]
  · have hp : 0 < ns.length := List.length_pos_iff.mpr hn
    have hlt : (k % (ns.length : Int)).toNat < ns.length := by
      have := Int.emod_lt_of_pos k (show (0 : Int) < ns.length by omega)
      have := Int.emod_nonneg k (show (ns.length : Int) ≠ 0 by omega)
      omega
    have hix : atI ns (k % (ns.length : Int)) = some (ns[(k % (ns.length : Int)).toNat]) := atI_nn (Int.emod_nonneg k (by omega)) hlt
    generalize hc : ns[(k % (ns.length : Int)).toNat] = c at hix
    have q0 : 0 ≤ k / (ns.length : Int) := Int.ediv_nonneg h0 (by omega)
    have q1 : k / (ns.length : Int) < 2 ^ 62 := by
      have := Int.ediv_le_self (ns.length : Int) h0
      omega
    obtain ⟨v, e, hv⟩ := mixed_ok c k
    have hz : ¬ ((ns.length : Int) = 0) := by omega
    have e1 : idxD (.scr ns) (.int (k % (ns.length : Int))) = .ok (.int c) := by simp only [idxD, hix]
    have l0 : 0 ≤ leftN (k / (ns.length : Int)).toNat (if c < 0 then -c else c) := leftN_nn _ (by split <;> omega)
    have ep : powD (.int 10) (.int 18) = .ok (.int 1000000000000000000) := rfl
    generalize hL : leftN (k / (ns.length : Int)).toNat (if c < 0 then -c else c) = l at l0
    by_cases hA : 1000000000000000000 ≤ (if c < 0 then -c else c) ∧ 0 < l
    · refine ⟨l % 1000, ?_, Int.emod_nonneg _ (by decide)⟩
      simp [initD, hn, hz, modD_int (show (0 : Int) < ns.length by omega), e1, fdivD_int (show (0 : Int) < ns.length by omega) (by omega), left_ok _ _ q0 q1, hL, modD_int, ep, hA]
    · refine ⟨v, ?_, hv⟩
      have hA' : ∀ h : 1000000000000000000 ≤ (if c < 0 then -c else c), ¬ 0 < l := fun h h' => hA ⟨h, h'⟩
      by_cases hB : 1000000000000000000 ≤ (if c < 0 then -c else c)
      · simp [initD, hn, hz, modD_int (show (0 : Int) < ns.length by omega), e1, fdivD_int (show (0 : Int) < ns.length by omega) (by omega), left_ok _ _ q0 q1, hL, e, modD_int, ep, hB, hA' hB]
      · simp [initD, hn, hz, modD_int (show (0 : Int) < ns.length by omega), e1, fdivD_int (show (0 : Int) < ns.length by omega) (by omega), left_ok _ _ q0 q1, hL, e, modD_int, ep, hB]
theorem whole_int (i : Int) : den__law_whole [.int i] = .ok (.bl true) := rfl
theorem row_ints (ns : List Int) (h : ns.length ≤ 9999) : den__law_row [.tup (ns.map D.int)] = .ok (.bl true) := by
  simp only [den__law_row, runD_eq, g__law_row]
  have e : ∀ o : Option D, lcF (lcStep (gfName 1) fYes (fCall den__law_whole (fCons (fVar 1) fNil)) [some (.tup (ns.map D.int)), o]) (ns.map D.int) = .ok (ns.map fun _ => .bl true) := fun o =>
    lcF_map D.int _ ns fun x _ => by simp [lcStep_eq, whole_int]
  simp [initD, e, lcB_map h]
/-! ### whole numbers and tuples -/
theorem is_integer_int (i : Int) : den_is_integer [.int i] = .ok (.bl true) := rfl
theorem is_under_int (i m : Int) : den_is_under [.int i, .int m] = .ok (.bl (decide (0 ≤ i ∧ i < m))) := by
  simp only [den_is_under, runD_eq, g_is_under]
  simp [initD, is_integer_int]
  by_cases h : 0 ≤ i <;> simp [h]
theorem are_under_ints (ns : List Int) (m : Int) (hl : ns.length ≤ 9999) : den_are_under [.tup (ns.map D.int), .int m] = .ok (.bl (ns.all fun x => decide (0 ≤ x ∧ x < m))) := by
  have e : ∀ o : Option D, lcF (lcStep (gfName 2) fYes (fCall den_is_under (fCons (fVar 2) (fCons (fVar 1) fNil))) [some (.tup (ns.map D.int)), some (.int m), o]) (ns.map D.int) = .ok (ns.map fun x => .bl (decide (0 ≤ x ∧ x < m))) := fun o =>
    lcF_map D.int _ ns fun x _ => by simp [lcStep_eq, is_under_int]
  simp only [den_are_under, runD_eq, g_are_under]
  simp [initD, lcB_map hl, e]
theorem is_lot_ints {ns : List Int} {m : Int} (hl : ns.length ≤ 9999) (h0 : ∀ x ∈ ns, 0 ≤ x ∧ x < m) (ha : ns.Pairwise (· < ·)) : den_is_lot [.tup (ns.map D.int), .int m] = .ok (.bl true) := by
  have u : den_are_under [.tup (ns.map D.int), .int m] = .ok (.bl true) := by
    rw [are_under_ints ns m hl]
    congr 2
    exact List.all_eq_true.mpr fun x hx => decide_eq_true (h0 x hx)
  have e : ∀ o : Option D, lcF (lcStep (gfName 2) fYes (f2 (blD ltB) (f2 idxD (fVar 0) (f2 subD (fVar 2) (fC (.int 1)))) (f2 idxD (fVar 0) (fVar 2))) [some (.tup (ns.map D.int)), some (.int m), o]) (rngL 1 (ns.length - 1)) = .ok ((List.range (ns.length - 1)).map fun k => .bl true) := fun o => by
    refine lcF_rng 1 _ _ fun k hk => ?_
    have i1 := idx_tup_ints (xs := ns) (i := k) (by omega) (by omega)
    have i2 := idx_tup_ints (xs := ns) (i := 1 + k) (by omega) (by omega)
    have lt : ns[((k : Int)).toNat]'(by omega) < ns[((1 + k : Int)).toNat]'(by omega) := List.pairwise_iff_getElem.mp ha _ _ _ _ (by omega)
    simp [lcStep_eq, i1, i2, show (1 + (k : Int) - 1) = k by omega]
    exact lt
  by_cases hz : ns.length = 0
  · have : ns = [] := List.length_eq_zero_iff.mp hz
    subst this
    rfl
  have r : rng2 [.int 1, .int (ns.length : Nat)] = .ok (rngL 1 (ns.length - 1)) := by
    rw [rng2_ok (by decide) (by decide) (by omega) (by omega)]
    congr 2
    omega
  simp only [den_is_lot, runD_eq, g_is_lot]
  simp [initD, u, r, lcB_rng (show ns.length - 1 ≤ 9999 by omega), e]
end Sh

namespace Sh
open PySem PySem.Spec PyProof.Rows L2
def vv (ms : List Int) (k : Nat) : Int := ms.getD k 0
theorem idx_vv {ms : List Int} {k : Nat} (h : k < ms.length) : idxD (rowZ ms) (.int (k : Int)) = .ok (.int (vv ms k)) := idx_val h
theorem idx_ends {v : Nat → Int} {n k : Nat} (h : k < n) : idxD (.lst ((ends v n).map natD)) (.int (k : Int)) = .ok (.int ((en v k : Nat) : Int)) := by
  have := idx_natl (l := ends v n) (k := k) (by rw [ends_len]; exact h)
  rw [ends_get v h] at this
  exact this
theorem enum_vv (ms : List Int) : enumL (ms.map D.int) = (List.range ms.length).map fun k : Nat => D.tup [.int (k : Int), .int (vv ms k)] := enum_ints ms
theorem filt_ends (v : Nat → Int) (n : Nat) (p : Nat → Bool) : (((List.range n).filter p).map fun k => (ends v n).getD k 0) = ((List.range n).filter p).map (en v) :=
  List.map_congr_left fun k hk => ends_get v (List.mem_range.mp (List.mem_filter.mp hk).1)
theorem ends_loop (ms : List Int) (hn : ms.length ≤ 12) : ∃ o2 o3 o4 o5 : Option D, forF (gfTup 2 (gfCons (gfName 2) (gfCons (gfName 3) gfNil))) (fSeq (fSet 4 (fLc (fRng rng1 (fCons (fVar 2) fNil)) (gfName 5) (fB (f2 (blD leB) (f2 idxD (fVar 0) (fVar 5)) (fVar 3))) (f2 idxD (fVar 1) (fVar 5)) [5])) (fSeq (fApp 1 (f2 addD (fC (.int 1)) (fCall maxD (fCons (f2 addD (fLst (fCons (fC (.int 0)) fNil)) (fVar 4)) fNil)))) fSkip)) ((List.range ms.length).map fun k : Nat => D.tup [.int (k : Int), .int (vv ms k)]) [some (rowZ ms), some (.lst []), none, none, none, none] = .nx [some (rowZ ms), some (.lst ((ends (vv ms) ms.length).map natD)), o2, o3, o4, o5] := by
  obtain ⟨ρ', e, ⟨o2, o3, o4, o5, rfl⟩⟩ := forF_map0 (g := (gfTup 2 (gfCons (gfName 2) (gfCons (gfName 3) gfNil)))) (fb := (fSeq (fSet 4 (fLc (fRng rng1 (fCons (fVar 2) fNil)) (gfName 5) (fB (f2 (blD leB) (f2 idxD (fVar 0) (fVar 5)) (fVar 3))) (f2 idxD (fVar 1) (fVar 5)) [5])) (fSeq (fApp 1 (f2 addD (fC (.int 1)) (fCall maxD (fCons (f2 addD (fLst (fCons (fC (.int 0)) fNil)) (fVar 4)) fNil)))) fSkip))) (fun j ρ => ∃ o2 o3 o4 o5 : Option D, ρ = [some (rowZ ms), some (.lst ((ends (vv ms) j).map natD)), o2, o3, o4, o5]) (fun k : Nat => D.tup [.int (k : Int), .int (vv ms k)]) ms.length (ρ := [some (rowZ ms), some (.lst []), none, none, none, none]) ⟨none, none, none, none, rfl⟩ (by
    rintro j ρ hj ⟨o2, o3, o4, o5, rfl⟩
    have r1 : rng1 [.int (j : Int)] = .ok ((List.range j).map natD) := by rw [rng1_ok (by omega) (by omega), Int.toNat_natCast, rngL_zero]
    have lb : lcB ((List.range j).map natD) = true := lcB_map (by rw [List.length_range]; omega)
    have cm : ∀ o2 o4 o5 : Option D, lcF (lcStep (gfName 5) (fB (f2 (blD leB) (f2 idxD (fVar 0) (fVar 5)) (fVar 3))) (f2 idxD (fVar 1) (fVar 5)) [some (rowZ ms), some (.lst ((ends (vv ms) j).map natD)), o2, some (.int (vv ms j)), o4, o5]) ((List.range j).map natD) = .ok ((((List.range j).filter fun k => decide (vv ms k ≤ vv ms j)).map (en (vv ms))).map natD) := fun o2 o4 o5 => by
      rw [List.map_map]
      refine lcF_filt natD (fun k => decide (vv ms k ≤ vv ms j)) _ _ fun k hk => ?_
      have hk := List.mem_range.mp hk
      have i1 := idx_vv (ms := ms) (k := k) (by omega)
      have i2 := idx_ends (v := vv ms) hk
      by_cases c : vv ms k ≤ vv ms j
      · simp [lcStep_eq, i1, i2, c]
      · simp [lcStep_eq, i1, c]
    have es := ends_snoc (vv ms) j
    rw [en_eq] at es
    have wl : (((List.range j).filter fun k => decide (vv ms k ≤ vv ms j)).map (en (vv ms))).length ≤ 100 := by
      have := List.length_filter_le (fun k => decide (vv ms k ≤ vv ms j)) (List.range j)
      rw [List.length_range] at this
      rw [List.length_map]; omega
    generalize (((List.range j).filter fun k => decide (vv ms k ≤ vv ms j)).map (en (vv ms))) = W at cm es wl
    have ad := addD_lst (xs := [.int 0]) (ys := W.map natD) (by simp; omega)
    have mm := max_nats W
    have ap : apB ((ends (vv ms) j).map natD) = true := apB_map (by rw [ends_len]; omega)
    refine ⟨_, [some (rowZ ms), some (.lst ((ends (vv ms) (j + 1)).map natD)), some (.int (j : Int)), some (.int (vv ms j)), some (.lst (W.map natD)), o5], rfl, ?_, _, _, _, _, rfl⟩
    rw [es, List.map_append]
    generalize (List.range j).map natD = rj at r1 lb cm
    generalize (ends (vv ms) j).map natD = ej at cm ap
    simp at ad
    generalize W.map natD = wj at cm ad mm
    simp [r1, lb, cm, ad, mm, ap])
  exact ⟨o2, o3, o4, o5, e⟩
theorem longest_ends_ok (ms : List Int) (hn : ms.length ≤ 12) : den_longest_ends [rowZ ms] = .ok (.lst ((ends (vv ms) ms.length).map natD)) := by
  obtain ⟨o2, o3, o4, o5, e⟩ := ends_loop ms hn
  have en' := enum_vv ms
  simp only [den_longest_ends, runD_eq, g_longest_ends]
  simp [initD, fEnum, fSeqLT, seqLT, en', e]
end Sh

namespace Sh
open PySem PySem.Spec PyProof.Rows L2
theorem en_congr {v w : Nat → Int} (k : Nat) : (∀ j, j ≤ k → v j = w j) → en v k = en w k := by
  induction k using Nat.strongRecOn with
  | _ k ih =>
    intro h
    rw [en_eq, en_eq]
    have e : ((List.range k).filter fun j => decide (v j ≤ v k)) = (List.range k).filter fun j => decide (w j ≤ w k) := by
      refine List.filter_congr fun j hj => ?_
      have := List.mem_range.mp hj
      rw [h j (by omega), h k (Nat.le_refl _)]
    rw [e]
    congr 2
    refine List.map_congr_left fun j hj => ?_
    have := List.mem_range.mp (List.mem_filter.mp hj).1
    exact ih j this fun i hi => h i (by omega)
theorem rev_range (n : Nat) (f : Nat → Nat) : ((List.range n).map f).reverse = (List.range n).map fun k => f (n - 1 - k) := by
  refine List.ext_getElem (by simp) fun k h1 h2 => ?_
  simp at h1
  simp [List.getElem_reverse]
theorem begins_eq (ms : List Int) : ((ends (vv (ms.reverse.map fun x => -x)) (ms.reverse.map fun x => -x).length).map natD).reverse = ((List.range ms.length).map (bg (vv ms) ms.length)).map natD := by
  rw [← List.map_reverse, List.length_map, List.length_reverse, ends_map, rev_range]
  congr 1
  refine List.map_congr_left fun k hk => ?_
  have hk := List.mem_range.mp hk
  unfold bg
  refine en_congr _ fun j hj => ?_
  unfold vv
  rw [List.getD_eq_getElem?_getD, List.getD_eq_getElem?_getD, List.getElem?_map, List.getElem?_reverse (by omega)]
  rw [List.getElem?_eq_getElem (by omega)]
  rfl
theorem rise_loop (ms : List Int) (hn : ms.length ≤ 12) : ∃ o3 o4 o5 o6 o7 : Option D, forF (gfTup 2 (gfCons (gfName 3) (gfCons (gfName 4) gfNil))) (fSeq (fSet 5 (fCall maxD (fCons (f2 addD (fLst (fCons (fC (.int 0)) fNil)) (fLc (fRng rng2 (fCons (fVar 3) (fCons (fCall lenD (fCons (fVar 0) fNil)) fNil))) (gfName 7) (fOrT (fNotT (fTru (fVar 2))) (fB (f2 (blD geB) (f2 idxD (fVar 0) (fVar 7)) (f2 idxD (fVar 0) (f2 idxD (fVar 2) (fNeg (fC (.int 1)))))))) (f2 idxD (fVar 1) (fVar 7)) [7])) fNil))) (fSeq (fIfS (fAndT (fB (f2 eqD (f2 idxD (fVar 1) (fVar 3)) (fVar 5))) (fOrT (fNotT (fTru (fVar 2))) (fB (f2 (blD geB) (fVar 4) (f2 idxD (fVar 0) (f2 idxD (fVar 2) (fNeg (fC (.int 1))))))))) (fSeq (fApp 2 (fVar 3)) fSkip) fSkip) fSkip)) ((List.range ms.length).map fun k : Nat => D.tup [.int (k : Int), .int (vv ms k)]) [some (rowZ ms), some (.lst (((List.range ms.length).map (bg (vv ms) ms.length)).map natD)), some (.lst []), none, none, none, none, none] = .nx [some (rowZ ms), some (.lst (((List.range ms.length).map (bg (vv ms) ms.length)).map natD)), some (.lst ((grd (vv ms) ms.length ms.length).map natD)), o3, o4, o5, o6, o7] := by
  have ib : ∀ k, k < ms.length → idxD (.lst (((List.range ms.length).map (bg (vv ms) ms.length)).map natD)) (.int (k : Int)) = .ok (.int ((bg (vv ms) ms.length k : Nat) : Int)) := fun k hk => by
    have := idx_natl (l := (List.range ms.length).map (bg (vv ms) ms.length)) (k := k) (by simpa using hk)
    rw [List.getD_eq_getElem?_getD, List.getElem?_map, List.getElem?_range hk] at this
    exact this
  generalize ((List.range ms.length).map (bg (vv ms) ms.length)).map natD = B at ib
  obtain ⟨ρ', e, ⟨o3, o4, o5, o6, o7, rfl⟩⟩ := forF_map0 (g := (gfTup 2 (gfCons (gfName 3) (gfCons (gfName 4) gfNil)))) (fb := (fSeq (fSet 5 (fCall maxD (fCons (f2 addD (fLst (fCons (fC (.int 0)) fNil)) (fLc (fRng rng2 (fCons (fVar 3) (fCons (fCall lenD (fCons (fVar 0) fNil)) fNil))) (gfName 7) (fOrT (fNotT (fTru (fVar 2))) (fB (f2 (blD geB) (f2 idxD (fVar 0) (fVar 7)) (f2 idxD (fVar 0) (f2 idxD (fVar 2) (fNeg (fC (.int 1)))))))) (f2 idxD (fVar 1) (fVar 7)) [7])) fNil))) (fSeq (fIfS (fAndT (fB (f2 eqD (f2 idxD (fVar 1) (fVar 3)) (fVar 5))) (fOrT (fNotT (fTru (fVar 2))) (fB (f2 (blD geB) (fVar 4) (f2 idxD (fVar 0) (f2 idxD (fVar 2) (fNeg (fC (.int 1))))))))) (fSeq (fApp 2 (fVar 3)) fSkip) fSkip) fSkip))) (fun j ρ => ∃ o3 o4 o5 o6 o7 : Option D, ρ = [some (rowZ ms), some (.lst B), some (.lst ((grd (vv ms) ms.length j).map natD)), o3, o4, o5, o6, o7]) (fun k : Nat => D.tup [.int (k : Int), .int (vv ms k)]) ms.length (ρ := [some (rowZ ms), some (.lst B), some (.lst []), none, none, none, none, none]) ⟨none, none, none, none, none, rfl⟩ (by
    rintro j ρ hj ⟨o3, o4, o5, o6, o7, rfl⟩
    have r1 : rng2 [.int (j : Int), .int (ms.length : Nat)] = .ok ((List.range' j (ms.length - j)).map natD) := by
      rw [rng2_ok (by omega) (by omega) (by omega) (by omega), show ((ms.length : Int) - (j : Int)).toNat = ms.length - j by omega, rngL_nat]
    have lb : lcB ((List.range' j (ms.length - j)).map natD) = true := lcB_map (by rw [List.length_range']; omega)
    have g := grd_gr (vv ms) ms.length j (by omega)
    have gs : grd (vv ms) ms.length (j + 1) = stp (vv ms) ms.length (grd (vv ms) ms.length j) j := rfl
    have fl : (grd (vv ms) ms.length j).length ≤ 12 := by
      have := ch_bst g.ch (fun k hk => Nat.lt_of_lt_of_le (g.lo k hk) g.le)
      have h2 : bst (vv ms) ms.length ≤ ms.length := bst_le _ _
      omega
    rw [gs]
    have glo := g.lo
    generalize grd (vv ms) ms.length j = F at fl glo
    have cm : ∀ o3 o4 o5 o6 o7 : Option D, lcF (lcStep (gfName 7) (fOrT (fNotT (fTru (fVar 2))) (fB (f2 (blD geB) (f2 idxD (fVar 0) (fVar 7)) (f2 idxD (fVar 0) (f2 idxD (fVar 2) (fNeg (fC (.int 1)))))))) (f2 idxD (fVar 1) (fVar 7)) [some (rowZ ms), some (.lst B), some (.lst (F.map natD)), o3, o4, o5, o6, o7]) ((List.range' j (ms.length - j)).map natD) = .ok ((((List.range' j (ms.length - j)).filter (okF (vv ms) F)).map (bg (vv ms) ms.length)).map natD) := fun o3 o4 o5 o6 o7 => by
      rw [List.map_map]
      refine lcF_filt natD (okF (vv ms) F) _ _ fun k hk => ?_
      have hk := List.mem_range'_1.mp hk
      have i1 := idx_vv (ms := ms) (k := k) (by omega)
      have i2 := ib k (by omega)
      rcases List.eq_nil_or_concat F with e | ⟨F', z, e⟩
      · subst e
        simp [lcStep_eq, okF, i2]
      · rw [List.concat_eq_append] at e
        subst e
        have hz := glo z (by simp)
        have i3 := idx_vv (ms := ms) (k := z) (by omega)
        have i4 := idx_lst_last (F'.map natD) (natD z)
        have tr : truthD (.lst (F'.map natD ++ [natD z])) = .ok true := by cases F' <;> rfl
        have ok : okF (vv ms) (F' ++ [z]) k = decide (vv ms z ≤ vv ms k) := by simp [okF]
        rw [ok, List.map_append, List.map_cons, List.map_nil]
        by_cases c : vv ms z ≤ vv ms k
        · simp [lcStep_eq, i1, i2, i3, i4, tr, c]
        · simp [lcStep_eq, i1, i3, i4, tr, c]
    have lf : mx (((List.range' j (ms.length - j)).filter (okF (vv ms) F)).map (bg (vv ms) ms.length)) = lft (vv ms) ms.length j F := rfl
    have wl : (((List.range' j (ms.length - j)).filter (okF (vv ms) F)).map (bg (vv ms) ms.length)).length ≤ 100 := by
      have := List.length_filter_le (okF (vv ms) F) (List.range' j (ms.length - j))
      rw [List.length_range'] at this
      rw [List.length_map]; omega
    have mm := max_nats (((List.range' j (ms.length - j)).filter (okF (vv ms) F)).map (bg (vv ms) ms.length))
    rw [lf] at mm
    generalize (((List.range' j (ms.length - j)).filter (okF (vv ms) F)).map (bg (vv ms) ms.length)) = W at cm mm wl
    have ad := addD_lst (xs := [.int 0]) (ys := W.map natD) (by simp; omega)
    have ap : apB (F.map natD) = true := apB_map (by omega)
    have ij := ib j hj
    have il : idxD (rowZ ms) (.int (j : Int)) = .ok (.int (vv ms j)) := idx_vv hj
    simp at ad
    generalize (List.range' j (ms.length - j)).map natD = rj at r1 lb cm
    generalize W.map natD = wj at cm ad mm
    refine ⟨_, [some (rowZ ms), some (.lst B), some (.lst ((stp (vv ms) ms.length F j).map natD)), some (.int (j : Int)), some (.int (vv ms j)), some (natD (lft (vv ms) ms.length j F)), o6, o7], rfl, ?_, _, _, _, _, _, rfl⟩
    unfold stp
    generalize lft (vv ms) ms.length j F = L at mm
    by_cases c : bg (vv ms) ms.length j = L
    · rcases List.eq_nil_or_concat F with e | ⟨F', z, e⟩
      · subst e
        have ok : okF (vv ms) [] j = true := rfl
        rw [if_pos ⟨c, ok⟩]
        simp only [List.map_nil] at cm ap
        simp [r1, lb, cm, ad, mm, ap, ij, c]
      · rw [List.concat_eq_append] at e
        subst e
        have hz := glo z (by simp)
        have i3 := idx_vv (ms := ms) (k := z) (by omega)
        have i4 := idx_lst_last (F'.map natD) (natD z)
        have tr : truthD (.lst (F'.map natD ++ [natD z])) = .ok true := by cases F' <;> rfl
        have ok : okF (vv ms) (F' ++ [z]) j = decide (vv ms z ≤ vv ms j) := by simp [okF]
        rw [ok]
        rw [List.map_append, List.map_cons, List.map_nil] at cm ap ⊢
        by_cases c2 : vv ms z ≤ vv ms j
        · rw [if_pos ⟨c, decide_eq_true c2⟩]
          simp [r1, lb, cm, ad, mm, ap, ij, c, i3, i4, tr, c2]
        · rw [if_neg (by simp [c2])]
          simp [r1, lb, cm, ad, mm, ij, c, i3, i4, tr, c2]
    · rw [if_neg (fun z => c z.1)]
      have c' : ¬ ((bg (vv ms) ms.length j : Nat) : Int) = (L : Nat) := by omega
      simp [r1, lb, cm, ad, mm, ij, c, c'])
  exact ⟨o3, o4, o5, o6, o7, e⟩
theorem rising_of_ok (ms : List Int) (hn : ms.length ≤ 12) : den_rising_of [rowZ ms] = .ok (rowN (grd (vv ms) ms.length ms.length)) := by
  obtain ⟨o3, o4, o5, o6, o7, e⟩ := rise_loop ms hn
  have en' := enum_vv ms
  have be := begins_eq ms
  have le := longest_ends_ok (ms.reverse.map fun x => -x) (by simpa using hn)
  have c1 : ∀ o1 o2 o3 o4 o5 o6 o7 : Option D, lcF (lcStep (gfName 4) fYes (fNeg (fVar 4)) [some (rowZ ms), o1, o2, o3, o4, o5, o6, o7]) (ms.map D.int).reverse = .ok ((ms.reverse.map fun x => -x).map D.int) := fun o1 o2 o3 o4 o5 o6 o7 => by
    rw [← List.map_reverse, List.map_map]
    exact lcF_map D.int _ ms.reverse fun x _ => by simp [lcStep_eq]
  have c2 : ∀ (l : List Nat) (o1 o2 o3 o4 o5 o6 o7 : Option D), lcF (lcStep (gfName 6) fYes (fVar 6) [some (rowZ ms), o1, o2, o3, o4, o5, o6, o7]) (l.map natD) = .ok (l.map natD) := fun l o1 o2 o3 o4 o5 o6 o7 =>
    lcF_map natD _ l fun x _ => by simp [lcStep_eq]
  have c2 := c2 (ends (vv (ms.reverse.map fun x => -x)) (ms.reverse.map fun x => -x).length)
  have el : (ends (vv (ms.reverse.map fun x => -x)) (ms.reverse.map fun x => -x).length).length ≤ 12 := by rw [ends_len]; simpa using hn
  have b1 : lcB (ms.map D.int).reverse = true := lcB_of (by simp; omega)
  have b2 := lcB_map (f := natD) (xs := ends (vv (ms.reverse.map fun x => -x)) (ms.reverse.map fun x => -x).length) (by omega)
  generalize (ends (vv (ms.reverse.map fun x => -x)) (ms.reverse.map fun x => -x).length).map natD = EN at *
  generalize (ms.reverse.map fun x => -x) = N1 at *
  generalize ((List.range ms.length).map (bg (vv ms) ms.length)).map natD = BG at *
  have le : den_longest_ends [.tup (N1.map D.int)] = .ok (.lst EN) := le
  simp only [den_rising_of, runD_eq, g_rising_of]
  simp [initD, fEnum, fSeqLT, seqLT, en', e, be, le, c1, c2, b1, b2, fRev, revD]
end Sh

namespace Sh
open PySem PySem.Spec PyProof.Rows L2
structure RowZ (ms : List Int) : Prop where
  len : ms.length ≤ 12
  rng : ∀ x ∈ ms, -1000000 ≤ x ∧ x ≤ 1000000
section
variable {ms : List Int}
theorem is_row_ok (h : RowZ ms) : den_is_row [rowZ ms] = .ok (.bl true) := by
  have l := h.len
  have e : ∀ o : Option D, lcF (lcStep (gfName 1) fYes (fAnd (fCall den_is_integer (fCons (fVar 1) fNil)) (fCh (blD leB) (blD leB) (fNeg (fC c_GREATEST)) (fVar 1) (fC c_GREATEST))) [some (.tup (ms.map D.int)), o]) (ms.map D.int) = .ok (ms.map fun _ => .bl true) := fun o =>
    lcF_map D.int _ ms fun x hx => by
      have := h.rng x hx
      simp [lcStep_eq, is_integer_int, c_GREATEST, this]
  have c : ¬ (12 : Int) < (ms.length : Nat) := by omega
  have a0 : allD [.lst (ms.map fun _ => D.bl true)] = .ok (.bl true) := by
    have := all_map (fun _ : Int => true) ms
    rw [this]; simp
  simp only [den_is_row, runD_eq, g_is_row]
  simp [initD, c_MOST_BOOKS, c, lcB_map (f := D.int) (xs := ms) (by omega), e, a0]
theorem need_row_ok (h : RowZ ms) : den_need_row [rowZ ms] = .ok .non := by
  simp only [den_need_row, runD_eq, g_need_row]
  simp [initD, is_row_ok h]
theorem need_row_bad {d : D} (h : den_is_row [d] = .ok (.bl false)) : den_need_row [d] = .raise "NoRow" := by
  simp only [den_need_row, runD_eq, g_need_row]
  simp [initD, h]
theorem rising_ok (h : RowZ ms) : den_rising [rowZ ms] = .ok (rowN (grd (vv ms) ms.length ms.length)) := by
  simp only [den_rising, runD_eq, g_rising]
  simp [initD, need_row_ok h, rising_of_ok ms h.len]
theorem unlike_val (h : RowZ ms) : den_are_unlike [rowZ ms] = .ok (.bl (decide ((unI ms).length = ms.length))) := by
  have l := h.len
  have e := lenSet_tup (ns := ms) (by omega)
  have u : den_unlike [rowZ ms] = .ok (.bl (decide ((unI ms).length = ms.length))) := by
    by_cases c : (unI ms).length = ms.length
    · simp only [den_unlike, runD_eq, g_unlike]
      simp [initD, e, c]
    · have c' : ¬ ((unI ms).length : Int) = (ms.length : Nat) := by omega
      simp only [den_unlike, runD_eq, g_unlike]
      simp [initD, e, c, c']
  simp only [den_are_unlike, runD_eq, g_are_unlike]
  simp [initD, need_row_ok h, u]
theorem ready_core {step : D → R (Option D)} (hs : ∀ k : Nat, k + 1 < ms.length → step (.int (1 + (k : Int))) = .ok (some (.bl (decide (ms.getD k 0 ≤ ms.getD (k + 1) 0))))) : ∃ bs, lcF step (rngL 1 (ms.length - 1)) = .ok bs ∧ allD [.lst bs] = .ok (.bl (rdy ms)) := by
  refine ⟨_, lcF_rng 1 _ (fun k => .bl (decide (ms.getD k 0 ≤ ms.getD (k + 1) 0))) fun k hk => hs k (by omega), ?_⟩
  rw [← adj_all ms]
  exact all_map (fun k => decide (ms.getD k 0 ≤ ms.getD (k + 1) 0)) _
theorem is_ready_ok (hl : ms.length ≤ 12) : den_is_ready [rowZ ms] = .ok (.bl (rdy ms)) := by
  by_cases hz : ms.length = 0
  · have : ms = [] := List.length_eq_zero_iff.mp hz
    subst this
    rfl
  obtain ⟨bs, e, a0⟩ := ready_core (ms := ms) (step := lcStep (gfName 1) fYes (f2 (blD leB) (f2 idxD (fVar 0) (f2 subD (fVar 1) (fC (.int 1)))) (f2 idxD (fVar 0) (fVar 1))) [some (.tup (ms.map D.int)), none]) (fun k hk => by
    have i1 := idx_vv (ms := ms) (k := k) (by omega)
    have i2 := idx_vv (ms := ms) (k := k + 1) (by omega)
    rw [show ((k + 1 : Nat) : Int) = 1 + (k : Int) by omega] at i2
    simp [-List.getD_eq_getElem?_getD, lcStep_eq, i1, i2, show (1 + (k : Int) - 1) = k by omega, vv])
  have b : lcB (rngL 1 (ms.length - 1)) = true := lcB_rng (by omega)
  have r : rng2 [.int 1, .int (ms.length : Nat)] = .ok (rngL 1 (ms.length - 1)) := by
    rw [rng2_ok (by decide) (by decide) (by omega) (by omega)]
    congr 2
    omega
  simp only [den_is_ready, runD_eq, g_is_ready]
  simp [initD, r, b, e, a0]
theorem law_ready_ok (hl : ms.length ≤ 12) : den__law_ready [.lst (ms.map D.int)] = .ok (.bl (rdy ms)) := by
  by_cases hz : ms.length = 0
  · have : ms = [] := List.length_eq_zero_iff.mp hz
    subst this
    rfl
  obtain ⟨bs, e, a0⟩ := ready_core (ms := ms) (step := lcStep (gfName 1) fYes (f2 (blD leB) (f2 idxD (fVar 0) (f2 subD (fVar 1) (fC (.int 1)))) (f2 idxD (fVar 0) (fVar 1))) [some (.lst (ms.map D.int)), none]) (fun k hk => by
    have i1 := idx_vall (ms := ms) (k := k) (by omega)
    have i2 := idx_vall (ms := ms) (k := k + 1) (by omega)
    rw [show natD (k + 1) = .int (1 + (k : Int)) by unfold natD; congr 1; omega] at i2
    simp [-List.getD_eq_getElem?_getD, lcStep_eq, i1, i2, show (1 + (k : Int) - 1) = k by omega])
  have b : lcB (rngL 1 (ms.length - 1)) = true := lcB_rng (by omega)
  have r : rng2 [.int 1, .int (ms.length : Nat)] = .ok (rngL 1 (ms.length - 1)) := by
    rw [rng2_ok (by decide) (by decide) (by omega) (by omega)]
    congr 2
    omega
  simp only [den__law_ready, runD_eq, g__law_ready]
  simp [initD, r, b, e, a0]
end
theorem rdy_le : ∀ {ms : List Int}, rdy ms = true → ms.Pairwise (· ≤ ·)
  | [], _ => .nil
  | [a], _ => by simp
  | a :: b :: r, h => by
    rw [rdy, Bool.and_eq_true, decide_eq_true_eq] at h
    have ih := rdy_le h.2
    refine List.pairwise_cons.mpr ⟨fun y hy => ?_, ih⟩
    rcases List.mem_cons.mp hy with q | q
    · omega
    · have := (List.pairwise_cons.mp ih).1 y q
      omega
theorem ch_rdy {v : Nat → Int} {l : List Nat} (h : l.Pairwise (· < ·)) : rdy (l.map v) = true ↔ Ch v l := by
  constructor
  · intro r
    have := List.pairwise_map.mp (rdy_le r)
    exact h.imp₂ (fun a b h1 h2 => ⟨h1, h2⟩) this
  · intro c
    exact asc_rdy (List.pairwise_map.mpr (c.imp fun q => q.2))
/-! falls -/
def dueN (v : Nat → Int) (n : Nat) : List (List Nat) := (List.range' 1 (bst v n)).map fun c => (List.range n).filter fun k => decide (en v k = c)
theorem due_inner {step : Nat → D → R (Option D)} (v : Nat → Int) (n : Nat) (hs : ∀ c k : Nat, k < n → step c (natD k) = .ok (if decide (en v k = c) = true then some (natD k) else none)) (c : Nat) : lcF (step c) ((List.range n).map natD) = .ok (((List.range n).filter fun k => decide (en v k = c)).map natD) :=
  lcF_filt natD (fun k => decide (en v k = c)) natD _ fun k hk => hs c k (List.mem_range.mp hk)
theorem falls_of_ok (ms : List Int) (hn : ms.length ≤ 12) : den_falls_of [rowZ ms] = .ok (.tup ((dueN (vv ms) ms.length).map rowN)) := by
  have le := longest_ends_ok ms hn
  have bl := bst_le (vv ms) ms.length
  have mm := max_nats (ends (vv ms) ms.length)
  rw [show mx (ends (vv ms) ms.length) = bst (vv ms) ms.length by rw [ends_map]; rfl] at mm
  have ad := addD_lst (xs := [.int 0]) (ys := (ends (vv ms) ms.length).map natD) (by simp [ends_len]; omega)
  have r1 : rng1 [.int (ms.length : Nat)] = .ok ((List.range ms.length).map natD) := by rw [rng1_ok (by omega) (by omega), Int.toNat_natCast, rngL_zero]
  have r2 : rng2 [.int 1, .int ((bst (vv ms) ms.length : Nat) + 1)] = .ok ((List.range' 1 (bst (vv ms) ms.length)).map natD) := by
    rw [rng2_ok (by decide) (by decide) (by omega) (by omega), show (((bst (vv ms) ms.length : Nat) : Int) + 1 - 1).toNat = bst (vv ms) ms.length by omega]
    exact congrArg R.ok (rngL_nat 1 _)
  have b1 : lcB ((List.range ms.length).map natD) = true := lcB_map (by rw [List.length_range]; omega)
  have b2 : lcB ((List.range' 1 (bst (vv ms) ms.length)).map natD) = true := lcB_map (by rw [List.length_range']; omega)
  have ci : ∀ (c : Nat) (o3 : Option D), lcF (lcStep (gfName 3) (fB (f2 eqD (f2 idxD (fVar 1) (fVar 3)) (fVar 2))) (fVar 3) [some (rowZ ms), some (.lst ((ends (vv ms) ms.length).map natD)), some (natD c), o3]) ((List.range ms.length).map natD) = .ok (((List.range ms.length).filter fun k => decide (en (vv ms) k = c)).map natD) := fun c o3 =>
    lcF_filt natD (fun k => decide (en (vv ms) k = c)) natD _ fun k hk => by
      have i2 := idx_ends (v := vv ms) (List.mem_range.mp hk)
      by_cases q : en (vv ms) k = c
      · simp [lcStep_eq, i2, q]
      · have q' : ¬ ((en (vv ms) k : Nat) : Int) = (c : Nat) := by omega
        simp [lcStep_eq, i2, q, q']
  have co : ∀ o2 o3 : Option D, lcF (lcStep (gfName 2) fYes (fCall tupleD (fCons (fLc (fRng rng1 (fCons (fCall lenD (fCons (fVar 0) fNil)) fNil)) (gfName 3) (fB (f2 eqD (f2 idxD (fVar 1) (fVar 3)) (fVar 2))) (fVar 3) [3]) fNil)) [some (rowZ ms), some (.lst ((ends (vv ms) ms.length).map natD)), o2, o3]) ((List.range' 1 (bst (vv ms) ms.length)).map natD) = .ok ((dueN (vv ms) ms.length).map rowN) := fun o2 o3 => by
    unfold dueN
    rw [List.map_map]
    refine lcF_map natD _ _ fun c _ => ?_
    have ci := ci c
    show _ = R.ok (some (rowN ((List.range ms.length).filter fun k => decide (en (vv ms) k = c))))
    generalize (List.range ms.length).map natD = rj at r1 b1 ci
    generalize ((List.range ms.length).filter fun k => decide (en (vv ms) k = c)) = q at ci
    simp [lcStep_eq, r1, b1, ci]
  simp at ad
  generalize (List.range ms.length).map natD = rj at r1 b1
  generalize (List.range' 1 (bst (vv ms) ms.length)).map natD = rk at r2 b2 co
  generalize (dueN (vv ms) ms.length).map rowN = du at co ⊢
  generalize (ends (vv ms) ms.length).map natD = es at le mm ad co
  simp only [den_falls_of, runD_eq, g_falls_of]
  simp [initD, le, mm, ad, r2, b2, co]
end Sh

namespace Sh
open PySem PySem.Spec PyProof.Rows L2
structure LotN (n : Nat) (l : List Nat) : Prop where
  asc : l.Pairwise (· < ·)
  lt : ∀ k ∈ l, k < n
theorem LotN.len {n : Nat} {l : List Nat} (h : LotN n l) : l.length ≤ n := asc_len n h.asc h.lt
theorem LotN.asc_int {n : Nat} {l : List Nat} (h : LotN n l) : (l.map fun k : Nat => (k : Int)).Pairwise (· < ·) := List.pairwise_map.mpr (h.asc.imp fun q => by omega)
theorem is_lot_nat {n : Nat} {l : List Nat} (h : LotN n l) (hn : n ≤ 9999) : den_is_lot [rowN l, .int (n : Nat)] = .ok (.bl true) := by
  have e : rowN l = .tup ((l.map fun k : Nat => (k : Int)).map D.int) := by rw [← map_nat]
  rw [e]
  exact is_lot_ints (by rw [List.length_map]; have := h.len; omega) (fun x hx => by
    obtain ⟨k, hk, rfl⟩ := List.mem_map.mp hx
    have := h.lt k hk
    omega) h.asc_int
theorem is_lot_lst (xs : List D) (m : D) : den_is_lot [.lst xs, m] = .ok (.bl false) := by
  have u : den_are_under [.lst xs, m] = .ok (.bl false) := by
    simp only [den_are_under, runD_eq, g_are_under]
    simp [initD]
  simp only [den_is_lot, runD_eq, g_is_lot]
  simp [initD, u]
section
variable {ms : List Int}
theorem vals_comp {step : D → R (Option D)} {l : List Nat} (h : LotN ms.length l) (hs : ∀ k, k < ms.length → step (natD k) = .ok (some (.int (vv ms k)))) : lcF step (l.map natD) = .ok ((l.map (vv ms)).map D.int) := by
  rw [List.map_map]
  exact lcF_map natD _ l fun k hk => hs k (h.lt k hk)
theorem due_len : (dueN (vv ms) ms.length).length = bst (vv ms) ms.length := by unfold dueN; rw [List.length_map, List.length_range']
theorem is_rising_ok (h : RowZ ms) {l : List Nat} (hl : LotN ms.length l) : den_is_rising [rowZ ms, rowN l] = .ok (.bl (rdy (l.map (vv ms)) && decide (l.length = bst (vv ms) ms.length))) := by
  have hn := h.len
  have ll := hl.len
  have lo := is_lot_nat hl (by omega)
  have fo := falls_of_ok ms hn
  have cm : ∀ o2 : Option D, lcF (lcStep (gfName 2) fYes (f2 idxD (fVar 0) (fVar 2)) [some (rowZ ms), some (rowN l), o2]) (l.map natD) = .ok ((l.map (vv ms)).map D.int) := fun o2 =>
    vals_comp hl fun k hk => by
      have := idx_vv hk
      simp [lcStep_eq, this]
  have b := lcB_map (f := natD) (xs := l) (by omega)
  have rd := is_ready_ok (ms := l.map (vv ms)) (by rw [List.length_map]; omega)
  have dl := due_len (ms := ms)
  generalize (l.map (vv ms)) = vs at cm rd
  generalize dueN (vv ms) ms.length = du at fo dl
  generalize bst (vv ms) ms.length = bb at dl
  cases hr : rdy vs with
  | false =>
    rw [hr] at rd
    simp only [den_is_rising, runD_eq, g_is_rising]
    simp [initD, need_row_ok h, lo, b, cm, rd]
  | true =>
    rw [hr] at rd
    by_cases c : l.length = bb
    · simp only [den_is_rising, runD_eq, g_is_rising]
      simp [initD, need_row_ok h, lo, b, cm, rd, fo, dl, c]
    · have c' : ¬ ((l.length : Nat) : Int) = (bb : Nat) := by omega
      simp only [den_is_rising, runD_eq, g_is_rising]
      simp [initD, need_row_ok h, lo, b, cm, rd, fo, dl, c, c']
theorem is_rising_lst (h : RowZ ms) (xs : List D) : den_is_rising [rowZ ms, .lst xs] = .ok (.bl false) := by
  simp only [den_is_rising, runD_eq, g_is_rising]
  simp [initD, need_row_ok h, is_lot_lst]
theorem falls_ok (h : RowZ ms) : den_falls [rowZ ms] = .ok (.tup ((dueN (vv ms) ms.length).map rowN)) := by
  simp only [den_falls, runD_eq, g_falls]
  simp [initD, need_row_ok h, falls_of_ok ms h.len]
def fallB (v : Nat → Int) (l : List Nat) : Bool := (List.range (l.length - 1)).all fun k => decide (v (l.getD (k + 1) 0) < v (l.getD k 0))
def flatB (n : Nat) (L : List (List Nat)) : Bool := decide (sortI ((L.flatMap id).map fun k : Nat => (k : Int)) = (List.range n).map fun k : Nat => (k : Int))
theorem flat_map (L : List (List Nat)) : (L.flatMap fun l => l.map natD) = (L.flatMap id).map natD := by
  rw [List.map_flatMap]; rfl
theorem sorted_nats (l : List Nat) : sortedAD [.lst (l.map natD)] = .ok (.lst ((sortI (l.map fun k : Nat => (k : Int))).map D.int)) := by
  rw [map_nat]; exact sorted_lstI _
theorem rg_ints (n : Nat) : rngL 0 n = ((List.range n).map fun k : Nat => (k : Int)).map D.int := by rw [rngL_zero, map_nat]
theorem fall_step {l : List Nat} (hl : LotN ms.length l) {k : Nat} (hk : k + 1 < l.length) : idxD (rowN l) (.int (k : Int)) = .ok (natD (l.getD k 0)) ∧ idxD (rowN l) (.int (1 + (k : Int))) = .ok (natD (l.getD (k + 1) 0)) ∧ idxD (rowZ ms) (natD (l.getD k 0)) = .ok (.int (vv ms (l.getD k 0))) ∧ idxD (rowZ ms) (natD (l.getD (k + 1) 0)) = .ok (.int (vv ms (l.getD (k + 1) 0))) := by
  have m : ∀ j, j < l.length → l.getD j 0 < ms.length := fun j hj => by
    rw [List.getD_eq_getElem?_getD, List.getElem?_eq_getElem hj]
    exact hl.lt _ (List.getElem_mem hj)
  refine ⟨idx_nat (by omega), ?_, idx_vv (m k (by omega)), idx_vv (m (k + 1) hk)⟩
  have := idx_nat (l := l) (k := k + 1) hk
  rwa [show natD (k + 1) = .int (1 + (k : Int)) by unfold natD; congr 1; omega] at this
theorem are_falls_ok (h : RowZ ms) {L : List (List Nat)} (hL : ∀ l ∈ L, LotN ms.length l) (hlen : L.length ≤ 100) : den_are_falls [rowZ ms, .tup (L.map rowN)] = .ok (.bl (L.all (fun l => !l.isEmpty) && flatB ms.length L && L.all (fallB (vv ms)))) := by
  have hn := h.len
  have b := lcB_map (f := rowN) (xs := L) (by omega)
  have c1 : ∀ o2 o3 : Option D, lcF (lcStep (gfName 2) fYes (fAnd (fCall den_is_lot (fCons (fVar 2) (fCons (fCall lenD (fCons (fVar 0) fNil)) fNil))) (f2 (blD gtB) (fCall lenD (fCons (fVar 2) fNil)) (fC (.int 0)))) [some (rowZ ms), some (.tup (L.map rowN)), o2, o3]) (L.map rowN) = .ok (L.map fun l => D.bl (!l.isEmpty)) := fun o2 o3 =>
    lcF_map rowN _ L fun l hl => by
      have lo := is_lot_nat (hL l hl) (by omega)
      cases l with
      | nil =>
        have lo2 : den_is_lot [.tup [], .int (ms.length : Nat)] = .ok (.bl true) := lo
        simp [lcStep_eq, lo, lo2]
      | cons a r =>
        generalize he : (a :: r).map natD = q at lo ⊢
        have ql : (0 : Int) < (q.length : Nat) := by rw [← he]; simp
        simp [lcStep_eq, lo, ql]
  have a1 : allD [.lst (L.map fun l => D.bl (!l.isEmpty))] = .ok (.bl (L.all fun l => !l.isEmpty)) := all_map (fun l : List Nat => !l.isEmpty) L
  have c2 : ∀ o2 o3 : Option D, lcC (step2 (gfName 2) fYes (fSeqOf (fVar 2)) (gfName 3) fYes (fVar 3) [3] [some (rowZ ms), some (.tup (L.map rowN)), o2, o3]) (L.map rowN) = .ok ((L.flatMap id).map natD) := fun o2 o3 => by
    rw [← flat_map]
    refine lcC_map rowN (fun l => l.map natD) L fun l hl => ?_
    have := lcF_map (step := lcStep (gfName 3) fYes (fVar 3) [some (rowZ ms), some (.tup (L.map rowN)), some (rowN l), none]) natD natD l fun k _ => by simp [lcStep_eq]
    rw [step2_eq]
    simp [this]
  have fl : (L.flatMap id).length ≤ 1200 := by
    have : ∀ L : List (List Nat), (∀ l ∈ L, LotN ms.length l) → (L.flatMap id).length ≤ 12 * L.length := by
      intro L
      induction L with
      | nil => intro _; simp
      | cons l r ih =>
        intro hL
        have i := ih fun q hq => hL q (List.mem_cons_of_mem _ hq)
        have := (hL l List.mem_cons_self).len
        simp only [List.flatMap_cons, List.length_append, List.length_cons, id]
        omega
    have := this L hL
    omega
  have b2 := lcB_map (f := natD) (xs := L.flatMap id) (by omega)
  have so := sorted_nats (L.flatMap id)
  have rg : rgB 0 ((ms.length : Nat) : Int) = true := rgB_of (by omega) (by omega) (by omega) (by omega) (by omega)
  have ne := Eb.int.lst.ne (by decide) (sortI ((L.flatMap id).map fun k : Nat => (k : Int))) ((List.range ms.length).map fun k : Nat => (k : Int))

  rw [show decide (sortI ((L.flatMap id).map fun k : Nat => (k : Int)) = (List.range ms.length).map fun k : Nat => (k : Int)) = flatB ms.length L from rfl, ← rg_ints] at ne
  have l3 : ((L.flatMap fun l => (List.range (l.length - 1)).map fun k => decide (vv ms (l.getD (k + 1) 0) < vv ms (l.getD k 0))).map D.bl).length ≤ 1200 := by
    rw [List.length_map]
    have : ∀ L : List (List Nat), (∀ l ∈ L, LotN ms.length l) → (L.flatMap fun l => (List.range (l.length - 1)).map fun k => decide (vv ms (l.getD (k + 1) 0) < vv ms (l.getD k 0))).length ≤ 12 * L.length := by
      intro L
      induction L with
      | nil => intro _; simp
      | cons l r ih =>
        intro hL
        have i := ih fun q hq => hL q (List.mem_cons_of_mem _ hq)
        have := (hL l List.mem_cons_self).len
        simp only [List.flatMap_cons, List.length_append, List.length_cons, List.length_map, List.length_range]
        omega
    have := this L hL
    omega
  have a3 : allD [.lst ((L.flatMap fun l => (List.range (l.length - 1)).map fun k => decide (vv ms (l.getD (k + 1) 0) < vv ms (l.getD k 0))).map D.bl)] = .ok (.bl (L.all (fallB (vv ms)))) := by
    rw [all_bls]
    refine congrArg (fun z => R.ok (D.bl z)) ?_
    rw [List.all_flatMap]
    refine congrArg (fun f => L.all f) (funext fun l => ?_)
    unfold fallB
    rw [List.all_map]; rfl
  have c3 : ∀ o2 o3 : Option D, lcC (step2 (gfName 2) fYes (fRng rng2 (fCons (fC (.int 1)) (fCons (fCall lenD (fCons (fVar 2) fNil)) fNil))) (gfName 3) fYes (f2 (blD gtB) (f2 idxD (fVar 0) (f2 idxD (fVar 2) (f2 subD (fVar 3) (fC (.int 1))))) (f2 idxD (fVar 0) (f2 idxD (fVar 2) (fVar 3)))) [3] [some (rowZ ms), some (.tup (L.map rowN)), o2, o3]) (L.map rowN) = .ok ((L.flatMap fun l => (List.range (l.length - 1)).map fun k => decide (vv ms (l.getD (k + 1) 0) < vv ms (l.getD k 0))).map D.bl) := fun o2 o3 => by
    rw [List.map_flatMap]
    refine lcC_map rowN _ L fun l hl => ?_
    have ll := (hL l hl).len
    have e4 : lcF (lcStep (gfName 3) fYes (f2 (blD gtB) (f2 idxD (fVar 0) (f2 idxD (fVar 2) (f2 subD (fVar 3) (fC (.int 1))))) (f2 idxD (fVar 0) (f2 idxD (fVar 2) (fVar 3)))) [some (rowZ ms), some (.tup (L.map rowN)), some (rowN l), none]) (rngL 1 (l.length - 1)) = .ok (((List.range (l.length - 1)).map fun k => decide (vv ms (l.getD (k + 1) 0) < vv ms (l.getD k 0))).map D.bl) := by
      rw [List.map_map]
      refine lcF_rng 1 _ _ fun k hk => ?_
      obtain ⟨f1, f2, f3, f4⟩ := fall_step (hL l hl) (k := k) (by omega)
      show _ = R.ok (some (D.bl (decide (vv ms (l.getD (k + 1) 0) < vv ms (l.getD k 0)))))
      generalize l.getD (k + 1) 0 = y at *
      generalize l.getD k 0 = x at *
      simp [lcStep_eq, f1, f2, f3, f4, show (1 + (k : Int) - 1) = k by omega]
    by_cases hz : l = []
    · subst hz
      rfl
    have lp : 0 < l.length := List.length_pos_iff.mpr hz
    have r : rng2 [.int 1, .int (l.length : Nat)] = .ok (rngL 1 (l.length - 1)) := by
      rw [rng2_ok (by decide) (by decide) (by omega) (by omega), show ((l.length : Int) - 1).toNat = l.length - 1 by omega]
    generalize ((List.range (l.length - 1)).map fun k => decide (vv ms (l.getD (k + 1) 0) < vv ms (l.getD k 0))) = bs at e4
    generalize rngL 1 (l.length - 1) = rr at r e4
    rw [step2_eq]
    simp [r, e4]
  generalize ((L.flatMap fun l => (List.range (l.length - 1)).map fun k => decide (vv ms (l.getD (k + 1) 0) < vv ms (l.getD k 0))).map D.bl) = q3 at l3 a3 c3
  have b3 : lcB q3 = true := lcB_of (by omega)
  have of_ok : den_are_falls_of [rowZ ms, .tup (L.map rowN)] = .ok (.bl (L.all (fun l => !l.isEmpty) && flatB ms.length L && L.all (fallB (vv ms)))) := by
    generalize (L.flatMap id).map natD = fl' at *
    generalize (sortI ((L.flatMap id).map fun k : Nat => (k : Int))).map D.int = so' at *
    generalize (L.map fun l => D.bl (!l.isEmpty)) = q1 at *
    generalize L.map rowN = LD at *
    generalize (L.all fun l => !l.isEmpty) = B1 at *
    generalize flatB ms.length L = B2 at *
    generalize L.all (fallB (vv ms)) = B3 at *
    cases B1
    · simp only [den_are_falls_of, runD_eq, g_are_falls_of]
      simp [initD, b, c1, a1]
    · cases B2
      · simp only [den_are_falls_of, runD_eq, g_are_falls_of]
        simp [initD, b, c1, a1, c2, b2, so, rg, ne]
      · simp only [den_are_falls_of, runD_eq, g_are_falls_of]
        simp [initD, b, c1, a1, c2, b2, so, rg, ne, c3, b3, a3]
  simp only [den_are_falls, runD_eq, g_are_falls]
  simp [initD, need_row_ok h, of_ok]
end
end Sh

namespace Sh
open PySem PySem.Spec PyProof.Rows L2
def lotsM : Nat → List (List Nat)
  | 0 => [[]]
  | k + 1 => lotsM k ++ (lotsM k).map fun l => l ++ [k]
theorem lotsM_len : ∀ k, (lotsM k).length = 2 ^ k
  | 0 => rfl
  | k + 1 => by rw [lotsM, List.length_append, List.length_map, lotsM_len k, Nat.pow_succ]; omega
theorem lotsM_mem : ∀ (k : Nat) (l : List Nat), l ∈ lotsM k ↔ LotN k l
  | 0, l => by
    rw [lotsM, List.mem_singleton]
    constructor
    · rintro rfl
      exact ⟨.nil, by simp⟩
    · intro h
      exact List.eq_nil_iff_forall_not_mem.mpr fun x hx => by have := h.lt x hx; omega
  | k + 1, l => by
    rw [lotsM, List.mem_append, List.mem_map]
    constructor
    · rintro (h | ⟨m, h, rfl⟩)
      · have i := (lotsM_mem k l).mp h
        exact ⟨i.asc, fun x hx => by have := i.lt x hx; omega⟩
      · have i := (lotsM_mem k m).mp h
        refine ⟨List.pairwise_append.mpr ⟨i.asc, by simp, fun x hx y hy => ?_⟩, fun x hx => ?_⟩
        · rw [List.mem_singleton.mp hy]; exact i.lt x hx
        · rcases List.mem_append.mp hx with h | h
          · have := i.lt x h; omega
          · rw [List.mem_singleton.mp h]; omega
    · intro h
      rcases List.eq_nil_or_concat l with e | ⟨m, z, e⟩
      · subst e
        exact .inl ((lotsM_mem k []).mpr ⟨.nil, by simp⟩)
      · rw [List.concat_eq_append] at e
        subst e
        obtain ⟨a1, _, a3⟩ := List.pairwise_append.mp h.asc
        have hz := h.lt z (by simp)
        by_cases c : z = k
        · subst c
          exact .inr ⟨m, (lotsM_mem z m).mpr ⟨a1, fun x hx => a3 x hx z (by simp)⟩, rfl⟩
        · refine .inl ((lotsM_mem k _).mpr ⟨h.asc, fun x hx => ?_⟩)
          rcases List.mem_append.mp hx with q | q
          · have := a3 x q z (by simp); omega
          · rw [List.mem_singleton.mp q]; omega
theorem pow9 {k : Nat} (h : k ≤ 9) : 2 ^ k ≤ 512 := by
  have := Nat.pow_le_pow_right (show 1 ≤ 2 by decide) h
  exact this
theorem law_lots_ok (n : Nat) (hn : n ≤ 9) : den__law_lots [.int (n : Nat)] = .ok (.lst ((lotsM n).map rowN)) := by
  obtain ⟨ρ', e, ⟨o2, o3, rfl⟩⟩ := forF_rng0 (g := (gfName 2)) (fb := (fSeq (fSet 1 (f2 addD (fVar 1) (fLc (fSeqOf (fVar 1)) (gfName 3) fYes (f2 addD (fVar 3) (fTup (fCons (fVar 2) fNil))) [3]))) fSkip)) (fun j ρ => ∃ o2 o3 : Option D, ρ = [some (.int (n : Nat)), some (.lst ((lotsM j).map rowN)), o2, o3]) n (ρ := [some (.int (n : Nat)), some (.lst [.tup []]), none, none]) ⟨none, none, rfl⟩ (by
    rintro j ρ hj ⟨o2, o3, rfl⟩
    have len : (lotsM j).length ≤ 512 := by rw [lotsM_len]; exact pow9 (by omega)
    have b := lcB_map (f := rowN) (xs := lotsM j) (by omega)
    have cm : ∀ o3 : Option D, lcF (lcStep (gfName 3) fYes (f2 addD (fVar 3) (fTup (fCons (fVar 2) fNil))) [some (.int (n : Nat)), some (.lst ((lotsM j).map rowN)), some (.int (j : Nat)), o3]) ((lotsM j).map rowN) = .ok (((lotsM j).map fun l => l ++ [j]).map rowN) := fun o3 => by
      rw [List.map_map]
      refine lcF_map rowN _ _ fun l hl => ?_
      have ll := ((lotsM_mem j l).mp hl).len
      have ad := addD_tup (xs := l.map natD) (ys := [natD j]) (by simp; omega)
      show _ = R.ok (some (rowN (l ++ [j])))
      have er : rowN (l ++ [j]) = .tup (l.map natD ++ [natD j]) := by rw [← List.map_singleton (f := natD), ← List.map_append]
      rw [er, show rowN l = .tup (l.map natD) from rfl]
      generalize l.map natD = q at ad
      simp [lcStep_eq, ad]
    have ad := addD_lst (xs := (lotsM j).map rowN) (ys := ((lotsM j).map fun l => l ++ [j]).map rowN) (by simp; omega)
    rw [← List.map_append] at ad
    refine ⟨_, [some (.int (n : Nat)), some (.lst ((lotsM (j + 1)).map rowN)), some (.int (j : Nat)), o3], rfl, ?_, _, _, rfl⟩
    rw [lotsM]
    generalize (lotsM j ++ (lotsM j).map fun l => l ++ [j]).map rowN = q2 at *
    generalize ((lotsM j).map fun l => l ++ [j]).map rowN = q1 at *
    generalize (lotsM j).map rowN = q at *
    simp [b, cm, ad])
  have r : rng1 [.int (n : Int)] = .ok (rngL 0 n) := by rw [rng1_ok (by omega) (by omega), Int.toNat_natCast]
  generalize (lotsM n).map rowN = q at *
  simp only [den__law_lots, runD_eq, g__law_lots]
  simp [initD, r, e]
section
variable {ms : List Int}
theorem law_flat_ok {C : D} {L : List (List Nat)} (hC : seqOf C = .ok (L.map rowN)) (hL : ∀ l ∈ L, l.length ≤ 12) (hlen : L.length ≤ 100) : den__law_flat [C] = .ok (.lst ((L.flatMap id).map natD)) := by
  have loop : ∀ (L : List (List Nat)) (acc : List Nat) (o2 : Option D), (∀ l ∈ L, l.length ≤ 12) → acc.length + 12 * L.length ≤ 1200 → ∃ o2' : Option D, forF (gfName 2) (fSeq (fSet 1 (f2 addD (fVar 1) (fCall listD (fCons (fVar 2) fNil)))) fSkip) (L.map rowN) [some C, some (.lst (acc.map natD)), o2] = .nx [some C, some (.lst ((acc ++ L.flatMap id).map natD)), o2'] := by
    intro L
    induction L with
    | nil => intro acc o2 _ _; exact ⟨o2, by rw [List.flatMap_nil, List.append_nil]; rfl⟩
    | cons l r ih =>
      intro acc o2 hL hlen
      have ll := hL l List.mem_cons_self
      simp only [List.length_cons] at hlen
      obtain ⟨p, e⟩ := ih (acc ++ l) (some (rowN l)) (fun q hq => hL q (List.mem_cons_of_mem _ hq)) (by rw [List.length_append]; omega)
      refine ⟨p, ?_⟩
      rw [List.flatMap_cons, show (id l : List Nat) = l from rfl, ← List.append_assoc, ← e, List.map_cons, forF_cons]
      have ad := addD_lst (xs := acc.map natD) (ys := l.map natD) (by rw [List.length_map, List.length_map]; omega)
      rw [← List.map_append] at ad
      generalize (acc ++ l).map natD = q at ad
      generalize acc.map natD = q1 at ad
      have ld2 : listD [.tup (l.map natD)] = .ok (.lst (l.map natD)) := rfl
      rw [show rowN l = .tup (l.map natD) from rfl]
      generalize l.map natD = q2 at ad ld2
      simp [ad, ld2]
  obtain ⟨o2, e⟩ := loop L [] none hL (by simp; omega)
  rw [List.nil_append] at e
  generalize (L.flatMap id).map natD = q at *
  generalize L.map rowN = LD at *
  have e : forF (gfName 2) (fSeq (fSet 1 (f2 addD (fVar 1) (fCall listD (fCons (fVar 2) fNil)))) fSkip) LD [some C, some (.lst []), none] = .nx [some C, some (.lst q), o2] := e
  simp only [den__law_flat, runD_eq, g__law_flat]
  simp [initD, hC, e]
def lotB (v : Nat → Int) (l : List Nat) : Bool := !l.isEmpty && fallB v l
theorem lot_core {l : List Nat} (hl : LotN ms.length l) (hn : ms.length ≤ 12) (C : D) (o3 : Option D) : ∃ bs, lcF (lcStep (gfName 3) fYes (f2 (blD gtB) (f2 idxD (fVar 0) (f2 idxD (fVar 2) (f2 subD (fVar 3) (fC (.int 1))))) (f2 idxD (fVar 0) (f2 idxD (fVar 2) (fVar 3)))) [some (rowZ ms), some C, some (rowN l), o3]) (rngL 1 (l.length - 1)) = .ok bs ∧ allD [.lst bs] = .ok (.bl (fallB (vv ms) l)) := by
  refine ⟨_, lcF_rng 1 _ (fun k => .bl (decide (vv ms (l.getD (k + 1) 0) < vv ms (l.getD k 0)))) fun k hk => ?_, ?_⟩
  · obtain ⟨f1, f2, f3, f4⟩ := fall_step hl (k := k) (by omega)
    show _ = R.ok (some (D.bl (decide (vv ms (l.getD (k + 1) 0) < vv ms (l.getD k 0)))))
    generalize l.getD (k + 1) 0 = y at *
    generalize l.getD k 0 = x at *
    simp [lcStep_eq, f1, f2, f3, f4, show (1 + (k : Int) - 1) = k by omega]
  · exact all_map (fun k => decide (vv ms (l.getD (k + 1) 0) < vv ms (l.getD k 0))) _
theorem lot_body {l : List Nat} (hl : LotN ms.length l) (hn : ms.length ≤ 12) (C : D) (o3 : Option D) : (fSeq (fIfS (fOrT (fB (f2 eqD (fCall lenD (fCons (fVar 2) fNil)) (fC (.int 0)))) (fB (f2 neD (fCall listD (fCons (fVar 2) fNil)) (fSortSet (fVar 2))))) (fSeq (fRet (fC (.bl false))) fSkip) fSkip) (fSeq (fIfS (fNotT (fTru (fCall allD (fCons (fLc (fRng rng2 (fCons (fC (.int 1)) (fCons (fCall lenD (fCons (fVar 2) fNil)) fNil))) (gfName 3) fYes (f2 (blD gtB) (f2 idxD (fVar 0) (f2 idxD (fVar 2) (f2 subD (fVar 3) (fC (.int 1))))) (f2 idxD (fVar 0) (f2 idxD (fVar 2) (fVar 3)))) [3]) fNil)))) (fSeq (fRet (fC (.bl false))) fSkip) fSkip) fSkip)) [some (rowZ ms), some C, some (rowN l), o3] = if lotB (vv ms) l = true then .nx [some (rowZ ms), some C, some (rowN l), o3] else .rt (.bl false) := by
  have ll := hl.len
  by_cases hz : l = []
  · subst hz
    rfl
  · have lp : 0 < l.length := List.length_pos_iff.mpr hz
    have ss := sortSet_tup (ns := l.map fun k : Nat => (k : Int)) (by rw [List.length_map]; omega)
    have nd : (l.map fun k : Nat => (k : Int)).Nodup := hl.asc_int.imp fun h => Int.ne_of_lt h
    rw [unI_self nd, ← sortI_is (List.Perm.refl _) (hl.asc_int.imp fun h => Int.le_of_lt h), ← map_nat] at ss
    have ne : neD (.lst (l.map natD)) (.lst (l.map natD)) = .ok (.bl false) := by
      have := ebN.lst.ne (by decide) l l
      simp only [decide_true, Bool.not_true] at this
      exact this
    have ld : listD [.tup (l.map natD)] = .ok (.lst (l.map natD)) := rfl
    obtain ⟨bs, e, a0⟩ := lot_core hl hn C none
    have r : rng2 [.int 1, .int (l.length : Nat)] = .ok (rngL 1 (l.length - 1)) := by
      rw [rng2_ok (by decide) (by decide) (by omega) (by omega), show ((l.length : Int) - 1).toNat = l.length - 1 by omega]
    have b : lcB (rngL 1 (l.length - 1)) = true := lcB_rng (by omega)
    have hl0 : ¬ ((l.length : Nat) : Int) = 0 := by omega
    have lb : lotB (vv ms) l = fallB (vv ms) l := by
      cases l with
      | nil => exact absurd rfl hz
      | cons a t => rfl
    rw [lb]
    generalize rngL 1 (l.length - 1) = rr at *
    have le : ((l.map natD).length : Int) = (l.length : Nat) := by rw [List.length_map]
    have tl : lenD [.tup (l.map natD)] = .ok (.int (l.length : Nat)) := by
      have : lenD [.tup (l.map natD)] = .ok (.int ((l.map natD).length : Nat)) := rfl
      rw [this, le]
    rw [show rowN l = .tup (l.map natD) from rfl] at e ⊢
    generalize l.map natD = q at ss ne ld le tl e ⊢
    cases hb : fallB (vv ms) l with
    | true => rw [hb] at a0; simp [tl, hl0, hz, ss, ne, ld, r, b, e, a0]
    | false => rw [hb] at a0; simp [tl, hl0, hz, ss, ne, ld, r, b, e, a0]
theorem lots_loop (hn : ms.length ≤ 12) (C : D) : ∀ (L : List (List Nat)) (o2 o3 : Option D), (∀ l ∈ L, LotN ms.length l) → (L.all (lotB (vv ms)) = true → ∃ o2' : Option D, forF (gfName 2) (fSeq (fIfS (fOrT (fB (f2 eqD (fCall lenD (fCons (fVar 2) fNil)) (fC (.int 0)))) (fB (f2 neD (fCall listD (fCons (fVar 2) fNil)) (fSortSet (fVar 2))))) (fSeq (fRet (fC (.bl false))) fSkip) fSkip) (fSeq (fIfS (fNotT (fTru (fCall allD (fCons (fLc (fRng rng2 (fCons (fC (.int 1)) (fCons (fCall lenD (fCons (fVar 2) fNil)) fNil))) (gfName 3) fYes (f2 (blD gtB) (f2 idxD (fVar 0) (f2 idxD (fVar 2) (f2 subD (fVar 3) (fC (.int 1))))) (f2 idxD (fVar 0) (f2 idxD (fVar 2) (fVar 3)))) [3]) fNil)))) (fSeq (fRet (fC (.bl false))) fSkip) fSkip) fSkip)) (L.map rowN) [some (rowZ ms), some C, o2, o3] = .nx [some (rowZ ms), some C, o2', o3]) ∧ (L.all (lotB (vv ms)) = false → forF (gfName 2) (fSeq (fIfS (fOrT (fB (f2 eqD (fCall lenD (fCons (fVar 2) fNil)) (fC (.int 0)))) (fB (f2 neD (fCall listD (fCons (fVar 2) fNil)) (fSortSet (fVar 2))))) (fSeq (fRet (fC (.bl false))) fSkip) fSkip) (fSeq (fIfS (fNotT (fTru (fCall allD (fCons (fLc (fRng rng2 (fCons (fC (.int 1)) (fCons (fCall lenD (fCons (fVar 2) fNil)) fNil))) (gfName 3) fYes (f2 (blD gtB) (f2 idxD (fVar 0) (f2 idxD (fVar 2) (f2 subD (fVar 3) (fC (.int 1))))) (f2 idxD (fVar 0) (f2 idxD (fVar 2) (fVar 3)))) [3]) fNil)))) (fSeq (fRet (fC (.bl false))) fSkip) fSkip) fSkip)) (L.map rowN) [some (rowZ ms), some C, o2, o3] = .rt (.bl false))
  | [], o2, o3, _ => ⟨fun _ => ⟨o2, rfl⟩, fun h => by cases h⟩
  | l :: r, o2, o3, hL => by
    obtain ⟨i1, i2⟩ := lots_loop hn C r (some (rowN l)) o3 fun q hq => hL q (List.mem_cons_of_mem _ hq)
    have bd := lot_body (hL l List.mem_cons_self) hn C o3
    have hd : forF (gfName 2) (fSeq (fIfS (fOrT (fB (f2 eqD (fCall lenD (fCons (fVar 2) fNil)) (fC (.int 0)))) (fB (f2 neD (fCall listD (fCons (fVar 2) fNil)) (fSortSet (fVar 2))))) (fSeq (fRet (fC (.bl false))) fSkip) fSkip) (fSeq (fIfS (fNotT (fTru (fCall allD (fCons (fLc (fRng rng2 (fCons (fC (.int 1)) (fCons (fCall lenD (fCons (fVar 2) fNil)) fNil))) (gfName 3) fYes (f2 (blD gtB) (f2 idxD (fVar 0) (f2 idxD (fVar 2) (f2 subD (fVar 3) (fC (.int 1))))) (f2 idxD (fVar 0) (f2 idxD (fVar 2) (fVar 3)))) [3]) fNil)))) (fSeq (fRet (fC (.bl false))) fSkip) fSkip) fSkip)) ((l :: r).map rowN) [some (rowZ ms), some C, o2, o3] = ((fSeq (fIfS (fOrT (fB (f2 eqD (fCall lenD (fCons (fVar 2) fNil)) (fC (.int 0)))) (fB (f2 neD (fCall listD (fCons (fVar 2) fNil)) (fSortSet (fVar 2))))) (fSeq (fRet (fC (.bl false))) fSkip) fSkip) (fSeq (fIfS (fNotT (fTru (fCall allD (fCons (fLc (fRng rng2 (fCons (fC (.int 1)) (fCons (fCall lenD (fCons (fVar 2) fNil)) fNil))) (gfName 3) fYes (f2 (blD gtB) (f2 idxD (fVar 0) (f2 idxD (fVar 2) (f2 subD (fVar 3) (fC (.int 1))))) (f2 idxD (fVar 0) (f2 idxD (fVar 2) (fVar 3)))) [3]) fNil)))) (fSeq (fRet (fC (.bl false))) fSkip) fSkip) fSkip)) [some (rowZ ms), some C, some (rowN l), o3]).seq (forF (gfName 2) (fSeq (fIfS (fOrT (fB (f2 eqD (fCall lenD (fCons (fVar 2) fNil)) (fC (.int 0)))) (fB (f2 neD (fCall listD (fCons (fVar 2) fNil)) (fSortSet (fVar 2))))) (fSeq (fRet (fC (.bl false))) fSkip) fSkip) (fSeq (fIfS (fNotT (fTru (fCall allD (fCons (fLc (fRng rng2 (fCons (fC (.int 1)) (fCons (fCall lenD (fCons (fVar 2) fNil)) fNil))) (gfName 3) fYes (f2 (blD gtB) (f2 idxD (fVar 0) (f2 idxD (fVar 2) (f2 subD (fVar 3) (fC (.int 1))))) (f2 idxD (fVar 0) (f2 idxD (fVar 2) (fVar 3)))) [3]) fNil)))) (fSeq (fRet (fC (.bl false))) fSkip) fSkip) fSkip)) (r.map rowN)) := by
      rw [List.map_cons, forF_cons]; rfl
    rw [hd, bd, List.all_cons]
    cases hb : lotB (vv ms) l with
    | true =>
      rw [Bool.true_and, if_pos rfl]
      exact ⟨i1, i2⟩
    | false =>
      rw [Bool.false_and, if_neg (by simp)]
      exact ⟨fun h => (by cases h), fun _ => rfl⟩
theorem law_is_falls_ok (hn : ms.length ≤ 12) {C : D} {L : List (List Nat)} (hC : seqOf C = .ok (L.map rowN)) (hL : ∀ l ∈ L, LotN ms.length l) (hlen : L.length ≤ 100) : den__law_is_falls [rowZ ms, C] = .ok (.bl (flatB ms.length L && L.all (lotB (vv ms)))) := by
  have fl := law_flat_ok hC (fun l hl => by have := (hL l hl).len; omega) hlen
  have so := sorted_nats (L.flatMap id)
  have rg : rgB 0 ((ms.length : Nat) : Int) = true := rgB_of (by omega) (by omega) (by omega) (by omega) (by omega)
  have ne := Eb.int.lst.ne (by decide) (sortI ((L.flatMap id).map fun k : Nat => (k : Int))) ((List.range ms.length).map fun k : Nat => (k : Int))
  rw [show decide (sortI ((L.flatMap id).map fun k : Nat => (k : Int)) = (List.range ms.length).map fun k : Nat => (k : Int)) = flatB ms.length L from rfl, ← rg_ints] at ne
  obtain ⟨l1, l2⟩ := lots_loop hn C L none none hL
  generalize (L.flatMap id).map natD = fl' at *
  generalize (sortI ((L.flatMap id).map fun k : Nat => (k : Int))).map D.int = so' at *
  generalize L.map rowN = LD at *
  generalize flatB ms.length L = B2 at *
  generalize L.all (lotB (vv ms)) = B3 at *
  cases B2
  · simp only [den__law_is_falls, runD_eq, g__law_is_falls]
    simp [initD, fl, so, rg, ne]
  · cases B3
    · have l2 := l2 rfl
      simp only [den__law_is_falls, runD_eq, g__law_is_falls]
      simp [initD, fl, so, rg, ne, hC, l2]
    · obtain ⟨o2, l1⟩ := l1 rfl
      simp only [den__law_is_falls, runD_eq, g__law_is_falls]
      simp [initD, fl, so, rg, ne, hC, l1]
theorem longest_loop (hn : ms.length ≤ 12) : ∃ o2 o3 : Option D, forF (gfName 2) (fSeq (fApp 1 (f2 addD (fC (.int 1)) (fCall maxD (fCons (f2 addD (fLst (fCons (fC (.int 0)) fNil)) (fLc (fRng rng1 (fCons (fVar 2) fNil)) (gfName 3) (fB (f2 (blD leB) (f2 idxD (fVar 0) (fVar 3)) (f2 idxD (fVar 0) (fVar 2)))) (f2 idxD (fVar 1) (fVar 3)) [3])) fNil)))) fSkip) (rngL 0 ms.length) [some (rowZ ms), some (.lst []), none, none] = .nx [some (rowZ ms), some (.lst ((ends (vv ms) ms.length).map natD)), o2, o3] := by
  obtain ⟨ρ', e, ⟨o2, o3, rfl⟩⟩ := forF_rng0 (g := (gfName 2)) (fb := (fSeq (fApp 1 (f2 addD (fC (.int 1)) (fCall maxD (fCons (f2 addD (fLst (fCons (fC (.int 0)) fNil)) (fLc (fRng rng1 (fCons (fVar 2) fNil)) (gfName 3) (fB (f2 (blD leB) (f2 idxD (fVar 0) (fVar 3)) (f2 idxD (fVar 0) (fVar 2)))) (f2 idxD (fVar 1) (fVar 3)) [3])) fNil)))) fSkip)) (fun j ρ => ∃ o2 o3 : Option D, ρ = [some (rowZ ms), some (.lst ((ends (vv ms) j).map natD)), o2, o3]) ms.length (ρ := [some (rowZ ms), some (.lst []), none, none]) ⟨none, none, rfl⟩ (by
    rintro j ρ hj ⟨o2, o3, rfl⟩
    have r1 : rng1 [.int (j : Int)] = .ok ((List.range j).map natD) := by rw [rng1_ok (by omega) (by omega), Int.toNat_natCast, rngL_zero]
    have lb : lcB ((List.range j).map natD) = true := lcB_map (by rw [List.length_range]; omega)
    have cm : ∀ o3 : Option D, lcF (lcStep (gfName 3) (fB (f2 (blD leB) (f2 idxD (fVar 0) (fVar 3)) (f2 idxD (fVar 0) (fVar 2)))) (f2 idxD (fVar 1) (fVar 3)) [some (rowZ ms), some (.lst ((ends (vv ms) j).map natD)), some (.int (j : Int)), o3]) ((List.range j).map natD) = .ok ((((List.range j).filter fun k => decide (vv ms k ≤ vv ms j)).map (en (vv ms))).map natD) := fun o3 => by
      rw [List.map_map]
      refine lcF_filt natD (fun k => decide (vv ms k ≤ vv ms j)) _ _ fun k hk => ?_
      have hk := List.mem_range.mp hk
      have i1 := idx_vv (ms := ms) (k := k) (by omega)
      have i0 := idx_vv (ms := ms) (k := j) (by omega)
      have i2 := idx_ends (v := vv ms) hk
      by_cases c : vv ms k ≤ vv ms j
      · simp [lcStep_eq, i0, i1, i2, c]
      · simp [lcStep_eq, i0, i1, c]
    have es := ends_snoc (vv ms) j
    rw [en_eq] at es
    have wl : (((List.range j).filter fun k => decide (vv ms k ≤ vv ms j)).map (en (vv ms))).length ≤ 100 := by
      have := List.length_filter_le (fun k => decide (vv ms k ≤ vv ms j)) (List.range j)
      rw [List.length_range] at this
      rw [List.length_map]; omega
    generalize (((List.range j).filter fun k => decide (vv ms k ≤ vv ms j)).map (en (vv ms))) = W at cm es wl
    have ad := addD_lst (xs := [.int 0]) (ys := W.map natD) (by simp; omega)
    have mm := max_nats W
    have ap : apB ((ends (vv ms) j).map natD) = true := apB_map (by rw [ends_len]; omega)
    refine ⟨_, [some (rowZ ms), some (.lst ((ends (vv ms) (j + 1)).map natD)), some (.int (j : Int)), o3], rfl, ?_, _, _, rfl⟩
    rw [es, List.map_append]
    generalize (List.range j).map natD = rj at r1 lb cm
    generalize (ends (vv ms) j).map natD = ej at cm ap
    simp at ad
    generalize W.map natD = wj at cm ad mm
    simp [r1, lb, cm, ad, mm, ap])
  exact ⟨o2, o3, e⟩
theorem law_longest_ok (hn : ms.length ≤ 12) : den__law_longest [rowZ ms] = .ok (natD (bst (vv ms) ms.length)) := by
  obtain ⟨o2, o3, e⟩ := longest_loop hn
  have mm := max_nats (ends (vv ms) ms.length)
  rw [show mx (ends (vv ms) ms.length) = bst (vv ms) ms.length by rw [ends_map]; rfl] at mm
  have ad := addD_lst (xs := [.int 0]) (ys := (ends (vv ms) ms.length).map natD) (by simp [ends_len]; omega)
  have r : rng1 [.int (ms.length : Nat)] = .ok (rngL 0 ms.length) := by rw [rng1_ok (by omega) (by omega), Int.toNat_natCast]
  simp at ad
  generalize (ends (vv ms) ms.length).map natD = es at *
  generalize rngL 0 ms.length = rr at *
  simp only [den__law_longest, runD_eq, g__law_longest]
  simp [initD, e, mm, ad, r]
end
end Sh

namespace Sh
open PySem PySem.Spec PyProof.Rows L2
/-! the falls: places by the length of the longest row that ends there -/
theorem en_step {v : Nat → Int} {a b : Nat} (h : a < b) (hv : v a ≤ v b) : en v a < en v b := by
  rw [en_eq v b]
  have := mx_le (List.mem_map.mpr ⟨a, List.mem_filter.mpr ⟨List.mem_range.mpr h, decide_eq_true hv⟩, rfl⟩ : en v a ∈ ((List.range b).filter fun k => decide (v k ≤ v b)).map (en v))
  omega
theorem en_down {v : Nat → Int} {k c : Nat} (h : en v k = c + 2) : ∃ j, j < k ∧ en v j = c + 1 := by
  rw [en_eq] at h
  rcases mx_mem (((List.range k).filter fun j => decide (v j ≤ v k)).map (en v)) with e | e
  · omega
  · obtain ⟨j, hj, e2⟩ := List.mem_map.mp e
    exact ⟨j, List.mem_range.mp (List.mem_filter.mp hj).1, by omega⟩
theorem en_all {v : Nat → Int} {n : Nat} : ∀ (d c : Nat), 1 ≤ c → c + d = bst v n → ∃ k, k < n ∧ en v k = c
  | 0, c, h1, h2 => by
    rcases mx_mem ((List.range n).map (en v)) with e | e
    · unfold bst at h2; omega
    · obtain ⟨k, hk, e2⟩ := List.mem_map.mp e
      exact ⟨k, List.mem_range.mp hk, by rw [e2]; unfold bst at h2; omega⟩
  | d + 1, c, h1, h2 => by
    obtain ⟨k, hk, e⟩ := en_all (v := v) (n := n) d (c + 1) (by omega) (by omega)
    obtain ⟨j, hj, e2⟩ := en_down (v := v) (k := k) (c := c - 1) (by omega)
    exact ⟨j, by omega, by omega⟩
theorem range_lt (n : Nat) : (List.range n).Pairwise (· < ·) := List.pairwise_lt_range
theorem filter_lot (n : Nat) (p : Nat → Bool) : LotN n ((List.range n).filter p) := ⟨(range_lt n).filter _, fun k hk => List.mem_range.mp (List.mem_filter.mp hk).1⟩
section
variable (v : Nat → Int) (n : Nat)
theorem due_lot : ∀ l ∈ dueN v n, LotN n l := by
  intro l hl
  obtain ⟨c, _, rfl⟩ := List.mem_map.mp hl
  exact filter_lot n _
theorem due_ne : ∀ l ∈ dueN v n, l ≠ [] := by
  intro l hl
  obtain ⟨c, hc, rfl⟩ := List.mem_map.mp hl
  have hc := List.mem_range'_1.mp hc
  obtain ⟨k, h1, h2⟩ := en_all (v := v) (n := n) (bst v n - c) c hc.1 (by omega)
  exact List.ne_nil_of_mem (List.mem_filter.mpr ⟨List.mem_range.mpr h1, decide_eq_true h2⟩)
theorem due_fall : ∀ l ∈ dueN v n, fallB v l = true := by
  intro l hl
  obtain ⟨c, _, rfl⟩ := List.mem_map.mp hl
  have L := filter_lot n fun k => decide (en v k = c)
  have me : ∀ x ∈ (List.range n).filter (fun k => decide (en v k = c)), en v x = c := fun x hx => of_decide_eq_true (List.mem_filter.mp hx).2
  generalize (List.range n).filter (fun k => decide (en v k = c)) = l at L me
  unfold fallB
  rw [List.all_eq_true]
  intro k hk
  have hk := List.mem_range.mp hk
  rw [decide_eq_true_iff]
  have g1 : l.getD k 0 = l[k]'(by omega) := by rw [List.getD_eq_getElem?_getD, List.getElem?_eq_getElem (by omega)]; rfl
  have g2 : l.getD (k + 1) 0 = l[k + 1]'(by omega) := by rw [List.getD_eq_getElem?_getD, List.getElem?_eq_getElem (by omega)]; rfl
  rw [g1, g2]
  have lt := List.pairwise_iff_getElem.mp L.asc k (k + 1) (by omega) (by omega) (by omega)
  have e1 := me _ (List.getElem_mem (show k < l.length by omega))
  have e2 := me _ (List.getElem_mem (show k + 1 < l.length by omega))
  apply Int.not_le.mp
  intro q
  have := en_step (v := v) lt q
  omega
theorem due_mem (k : Nat) : k ∈ (dueN v n).flatMap id ↔ k < n := by
  rw [List.mem_flatMap]
  constructor
  · rintro ⟨l, hl, hk⟩
    exact (due_lot v n l hl).lt k hk
  · intro h
    refine ⟨_, List.mem_map.mpr ⟨en v k, List.mem_range'_1.mpr ⟨en_pos v k, ?_⟩, rfl⟩, List.mem_filter.mpr ⟨List.mem_range.mpr h, decide_eq_true rfl⟩⟩
    have : en v k ≤ bst v n := mx_le (List.mem_map.mpr ⟨k, List.mem_range.mpr h, rfl⟩)
    omega
theorem due_nodup : ((dueN v n).flatMap id).Nodup := by
  unfold List.Nodup
  rw [List.pairwise_flatMap]
  refine ⟨fun l hl => (due_lot v n l hl).asc.imp fun h => Nat.ne_of_lt h, ?_⟩
  unfold dueN
  rw [List.pairwise_map]
  refine (List.nodup_range' (s := 1) (n := bst v n)).imp fun {a b} hab x hx y hy z => ?_
  have h1 := of_decide_eq_true (List.mem_filter.mp hx).2
  have h2 := of_decide_eq_true (List.mem_filter.mp hy).2
  subst z
  exact hab (h1.symm.trans h2)
end
theorem flat_of {n : Nat} {L : List (List Nat)} (nd : (L.flatMap id).Nodup) (m : ∀ k, k ∈ L.flatMap id ↔ k < n) : flatB n L = true := by
  unfold flatB
  rw [decide_eq_true_iff]
  refine asc_uniq (sortI_lt ?_) ?_ fun x => ?_
  · exact List.pairwise_map.mpr (nd.imp fun h z => h (by omega))
  · exact List.pairwise_map.mpr ((range_lt n).imp fun h => by omega)
  · rw [sortI_mem, List.mem_map, List.mem_map]
    constructor
    · rintro ⟨k, hk, rfl⟩; exact ⟨k, List.mem_range.mpr ((m k).mp hk), rfl⟩
    · rintro ⟨k, hk, rfl⟩; exact ⟨k, (m k).mpr (List.mem_range.mp hk), rfl⟩
theorem flat_len {n : Nat} {L : List (List Nat)} (h : flatB n L = true) : (L.flatMap id).length = n := by
  have := congrArg List.length (of_decide_eq_true h)
  rwa [sortI_len, List.length_map, List.length_map, List.length_range] at this
theorem due_flat (v : Nat → Int) (n : Nat) : flatB n (dueN v n) = true := flat_of (due_nodup v n) (due_mem v n)
theorem rev_flat (v : Nat → Int) (n : Nat) : flatB n (dueN v n).reverse = true := by
  have p : ((dueN v n).reverse.flatMap id).Perm ((dueN v n).flatMap id) := (List.reverse_perm _).flatMap_right id
  exact flat_of (p.nodup_iff.mpr (due_nodup v n)) fun k => p.mem_iff.trans (due_mem v n k)
theorem drop_flat {v : Nat → Int} {n : Nat} (hn : 0 < n) : flatB n ((dueN v n).drop 1) = false := by
  rw [← Bool.not_eq_true]
  intro h
  have h1 := flat_len h
  have h2 := flat_len (due_flat v n)
  have ne := due_ne v n
  generalize dueN v n = L at *
  cases L with
  | nil => simp at h2; omega
  | cons l r =>
    have := List.length_pos_iff.mpr (ne l List.mem_cons_self)
    simp only [List.drop_succ_cons, List.drop_zero] at h1
    simp only [List.flatMap_cons, List.length_append, id] at h2
    omega
theorem all_and {α : Type} (p q : α → Bool) : ∀ L : List α, (L.all p && L.all q) = L.all fun x => p x && q x
  | [] => rfl
  | x :: r => by
    have := all_and p q r
    simp only [List.all_cons, ← this]
    cases p x <;> cases q x <;> simp [Bool.and_comm, Bool.and_left_comm]
/-- both reckonings of falls agree -/
theorem falls_same (v : Nat → Int) (n : Nat) (L : List (List Nat)) : (L.all (fun l => !l.isEmpty) && flatB n L && L.all (fallB v)) = (flatB n L && L.all (lotB v)) := by
  rw [show L.all (lotB v) = L.all (fun l => !l.isEmpty && fallB v l) from rfl, ← all_and]
  cases L.all (fun l => !l.isEmpty) <;> cases flatB n L <;> simp
theorem due_lotB (v : Nat → Int) (n : Nat) : (dueN v n).all (lotB v) = true := List.all_eq_true.mpr fun l hl => by
  have h1 := due_fall v n l hl
  have h2 := due_ne v n l hl
  unfold lotB
  rw [h1, Bool.and_true]
  cases l with
  | nil => exact absurd rfl h2
  | cons a r => rfl
def goodL (v : Nat → Int) (n : Nat) : List (List Nat) := (lotsM n).filter fun l => rdy (l.map v)
theorem good_mem {v : Nat → Int} {n : Nat} {l : List Nat} : l ∈ goodL v n ↔ LotN n l ∧ Ch v l := by
  unfold goodL
  rw [List.mem_filter, lotsM_mem]
  constructor
  · rintro ⟨h1, h2⟩; exact ⟨h1, (ch_rdy h1.asc).mp h2⟩
  · rintro ⟨h1, h2⟩; exact ⟨h1, (ch_rdy h1.asc).mpr h2⟩
theorem ch_lot {v : Nat → Int} {n : Nat} {l : List Nat} (h : Ch v l) (hl : ∀ k ∈ l, k < n) : LotN n l := ⟨h.imp fun q => q.1, hl⟩
theorem good_best (v : Nat → Int) (n : Nat) : mx ((goodL v n).map List.length) = bst v n := by
  apply Nat.le_antisymm
  · rcases mx_mem ((goodL v n).map List.length) with e | e
    · omega
    · obtain ⟨l, hl, e2⟩ := List.mem_map.mp e
      obtain ⟨h1, h2⟩ := good_mem.mp hl
      have := ch_bst h2 h1.lt
      omega
  · obtain ⟨w, w1, w2, w3⟩ := bst_ch v n
    rw [← w3]
    exact mx_le (List.mem_map.mpr ⟨w, good_mem.mpr ⟨ch_lot w1 w2, w1⟩, rfl⟩)
theorem good_contains {v : Nat → Int} {n : Nat} {l : List Nat} (h : LotN n l) : decide (l ∈ goodL v n) = rdy (l.map v) := by
  rw [Bool.eq_iff_iff, decide_eq_true_iff, good_mem, ch_rdy h.asc]
  exact ⟨fun q => q.2, fun q => ⟨h, q⟩⟩
theorem grd_lot (v : Nat → Int) (n : Nat) : LotN n (grd v n n) := ch_lot (grd_best v n).1 (grd_best v n).2.1
end Sh

namespace Sh
open PySem PySem.Spec PyProof.Rows L2
theorem flag_ok (b : Bool) : den__law_flag [.bl b, .bl b] = .ok (.bl true) := by
  cases b
  · simp only [den__law_flag, runD_eq, g__law_flag]
    simp [initD]
  · simp only [den__law_flag, runD_eq, g__law_flag]
    simp [initD]
theorem ref_one (a : D) (h : den_rising [a] = .raise "NoRow") : den__law_refused_one [.fn "rising", a, .str "NoRow"] = .ok (.bl true) := by
  have e0 : fCallV [("rising", den_rising)] 0 (fCons (fVar 1) fNil) [some (.fn "rising"), some a, some (.str "NoRow"), none] = .raise "NoRow" := by
    rw [fCallV_eq (y := "rising") (m := den_rising) rfl rfl]
    simp [h]
  have e : fTry (fSeq (fExpr (fCallV [("rising", den_rising)] 0 (fCons (fVar 1) fNil))) fSkip) subE "ShelfError" excL 3 (fIs subE cs__law_is (fVar 2)) [some (.fn "rising"), some a, some (.str "NoRow"), none] = .rt (.bl true) := fTry_is (x := "NoRow") (n := "NoRow") (ρ' := [some (.fn "rising"), some a, some (.str "NoRow"), none]) (by
    simp [e0]) (by decide) (by simp) rfl rfl
  simp only [den__law_refused_one, runD_eq, g__law_refused_one]
  simp [initD, e]
theorem rising_bad {d : D} (h : den_is_row [d] = .ok (.bl false)) : den_rising [d] = .raise "NoRow" := by
  simp only [den_rising, runD_eq, g_rising]
  simp [initD, need_row_bad h]
theorem is_row_lst (xs : List D) : den_is_row [.lst xs] = .ok (.bl false) := by
  simp only [den_is_row, runD_eq, g_is_row]
  simp [initD]
theorem row_of_ok (ns : List Int) (hl : ns.length ≤ 63) : ∃ ms : List Int, RowZ ms ∧ ms.length ≤ 9 ∧ den__law_row_of [.scr ns, .int 0, .int 9] = .ok (rowZ ms) := by
  obtain ⟨v0, e0, h0⟩ := number_ok ns 0 hl (by omega) (by omega)
  obtain ⟨v1, e1, h1⟩ := number_ok ns 1 hl (by omega) (by omega)
  obtain ⟨top, et, t0, t1⟩ : ∃ top : Int, idxD (.lst [.int 3, .int 12, .int 2000001]) (.int (v1 % 3)) = .ok (.int top) ∧ 1 ≤ top ∧ top ≤ 2000001 := by
    have c : v1 % 3 = 0 ∨ v1 % 3 = 1 ∨ v1 % 3 = 2 := by omega
    rcases c with c | c | c <;> rw [c]
    · exact ⟨3, by simp, by omega, by omega⟩
    · exact ⟨12, by simp, by omega, by omega⟩
    · exact ⟨2000001, idx_lst2 _ _ _ _, by omega, by omega⟩
  obtain ⟨n, hn⟩ : ∃ n : Nat, v0 % 10 = (n : Int) := ⟨(v0 % 10).toNat, by omega⟩
  have n9 : n ≤ 9 := by omega
  have hv : ∀ k : Nat, k < n → ∃ v : Int, den__law_number [.scr ns, .int (2 + (k : Int))] = .ok (.int v) ∧ 0 ≤ v := fun k hk => number_ok ns (2 + (k : Int)) hl (by omega) (by omega)
  obtain ⟨w, hw⟩ : ∃ w : Nat → Int, ∀ k : Nat, k < n → den__law_number [.scr ns, .int (2 + (k : Int))] = .ok (.int (w k)) ∧ 0 ≤ w k := ⟨fun k => if h : k < n then (hv k h).choose else 0, fun k hk => by simp only [dif_pos hk]; exact (hv k hk).choose_spec⟩
  obtain ⟨fs, hfs⟩ : ∃ fs : List Int, fs = (List.range n).map fun k => w k % top - top / 2 := ⟨_, rfl⟩
  have fl : fs.length = n := by rw [hfs]; simp
  have fr : ∀ x ∈ fs, -1000000 ≤ x ∧ x ≤ 1000000 := fun x hx => by
    rw [hfs] at hx
    obtain ⟨k, _, rfl⟩ := List.mem_map.mp hx
    have := Int.emod_nonneg (w k) (show top ≠ 0 by omega)
    have := Int.emod_lt_of_pos (w k) (show 0 < top by omega)
    omega
  have cm : ∀ o5 o6 : Option D, lcF (lcStep (gfName 6) fYes (f2 subD (f2 modD (fCall intD (fCons (fCall den__law_number (fCons (fVar 0) (fCons (f2 addD (f2 addD (fVar 1) (fC (.int 2))) (fVar 6)) fNil))) fNil)) (fVar 4)) (f2 fdivD (fVar 4) (fC (.int 2)))) [some (.scr ns), some (.int 0), some (.int 9), some (.int (n : Int)), some (.int top), o5, o6]) (rngL 0 n) = .ok (fs.map D.int) := fun o5 o6 => by
    rw [hfs, List.map_map]
    refine lcF_rng 0 _ _ fun k hk => ?_
    obtain ⟨hw1, hw2⟩ := hw k hk
    simp [lcStep_eq, hw1, modD_int (show 0 < top by omega), fdivD_int]
  have rn : rng1 [.int (n : Int)] = .ok (rngL 0 n) := by rw [rng1_ok (by omega) (by omega), Int.toNat_natCast]
  have b : lcB (rngL 0 n) = true := lcB_rng (by omega)
  have so := sorted_lstI fs
  by_cases c : v1 / 3 % 4 = 0
  · by_cases c2 : 1 < n
    · have sl : (sortI fs).length = n := by rw [sortI_len, fl]
      have k1 : cutD ((sortI fs).map D.int) (some 1) none = ((sortI fs).drop 1).map D.int := by rw [List.map_drop]; exact cut_from _ 1
      have k2 : cutD ((sortI fs).map D.int) none (some 1) = ((sortI fs).take 1).map D.int := by rw [List.map_take]; exact cut_to _ 1
      have ad := addD_lst (xs := ((sortI fs).drop 1).map D.int) (ys := ((sortI fs).take 1).map D.int) (by rw [List.length_map, List.length_map, List.length_drop, List.length_take]; omega)
      rw [← List.map_append] at ad
      have c2' : (1 : Int) < (n : Int) := by omega
      refine ⟨(sortI fs).drop 1 ++ (sortI fs).take 1, ⟨by rw [List.length_append, List.length_drop, List.length_take]; omega, fun x hx => ?_⟩, by rw [List.length_append, List.length_drop, List.length_take]; omega, ?_⟩
      · refine fr x (sortI_mem.mp ?_)
        rcases List.mem_append.mp hx with q | q
        · exact List.mem_of_mem_drop q
        · exact List.mem_of_mem_take q
      · rw [show rowZ ((sortI fs).drop 1 ++ (sortI fs).take 1) = .tup (((sortI fs).drop 1 ++ (sortI fs).take 1).map D.int) from rfl]
        generalize ((sortI fs).drop 1 ++ (sortI fs).take 1).map D.int = q3 at *
        generalize ((sortI fs).drop 1).map D.int = q1 at *
        generalize ((sortI fs).take 1).map D.int = q2 at *
        generalize (sortI fs).map D.int = q at *
        generalize fs.map D.int = q4 at *
        simp only [den__law_row_of, runD_eq, g__law_row_of]
        simp [initD, e0, e1, hn, et, rn, b, cm, modD_int, fdivD_int, c, so, c2, c2', k1, k2, ad]
    · refine ⟨sortI fs, ⟨by rw [sortI_len]; omega, fun x hx => fr x (sortI_mem.mp hx)⟩, by rw [sortI_len]; omega, ?_⟩
      have c2' : ¬ (1 : Int) < (n : Int) := by omega
      rw [show rowZ (sortI fs) = .tup ((sortI fs).map D.int) from rfl]
      generalize (sortI fs).map D.int = q at *
      generalize fs.map D.int = q4 at *
      simp only [den__law_row_of, runD_eq, g__law_row_of]
      simp [initD, e0, e1, hn, et, rn, b, cm, modD_int, fdivD_int, c, so, c2, c2']
  · refine ⟨fs, ⟨by omega, fr⟩, by omega, ?_⟩
    rw [show rowZ fs = .tup (fs.map D.int) from rfl]
    generalize fs.map D.int = q at *
    simp only [den__law_row_of, runD_eq, g__law_row_of]
    simp [initD, e0, e1, hn, et, rn, b, cm, modD_int, fdivD_int, c]
end Sh

namespace Sh
open PySem PySem.Spec PyProof.Rows L2
section
variable {ms : List Int} {ns : List Int}
theorem are_falls_lst (h : RowZ ms) (xs : List D) : den_are_falls [rowZ ms, .lst xs] = .ok (.bl false) := by
  have u : den_are_falls_of [rowZ ms, .lst xs] = .ok (.bl false) := by
    simp only [den_are_falls_of, runD_eq, g_are_falls_of]
    simp [initD]
  simp only [den_are_falls, runD_eq, g_are_falls]
  simp [initD, need_row_ok h, u]
theorem good_comp (hn : ms.length ≤ 9) (o3 o4 o5 o6 o7 o8 o9 o10 o11 o12 o13 o14 : Option D) : lcF (lcStep (gfName 9) (fTru (fCall den__law_ready (fCons (fLc (fSeqOf (fVar 9)) (gfName 7) fYes (f2 idxD (fVar 1) (fVar 7)) [7]) fNil))) (fVar 9) [some (.scr ns), some (rowZ ms), some (.int (ms.length : Nat)), o3, o4, o5, o6, o7, o8, o9, o10, o11, o12, o13, o14]) ((lotsM ms.length).map rowN) = .ok ((goodL (vv ms) ms.length).map rowN) := by
  unfold goodL
  refine lcF_filt rowN (fun l => rdy (l.map (vv ms))) rowN _ fun l hl => ?_
  have hl := (lotsM_mem _ l).mp hl
  have ll := hl.len
  have cm : ∀ o9 o7 : Option D, lcF (lcStep (gfName 7) fYes (f2 idxD (fVar 1) (fVar 7)) [some (.scr ns), some (rowZ ms), some (.int (ms.length : Nat)), o3, o4, o5, o6, o7, o8, o9, o10, o11, o12, o13, o14]) (l.map natD) = .ok ((l.map (vv ms)).map D.int) := fun o9 o7 =>
    vals_comp hl fun k hk => by
      have := idx_vv hk
      simp [lcStep_eq, this]
  have b := lcB_map (f := natD) (xs := l) (by omega)
  have rd := law_ready_ok (ms := l.map (vv ms)) (by rw [List.length_map]; omega)
  rw [show rowN l = .tup (l.map natD) from rfl]
  generalize (l.map (vv ms)) = q1 at *
  generalize l.map natD = q2 at *
  cases hr : rdy q1 with
  | true => rw [hr] at rd; simp [lcStep_eq, cm, b, rd]
  | false => rw [hr] at rd; simp [lcStep_eq, cm, b, rd]
theorem len_comp (L : List (List Nat)) (o0 o1 o2 o3 o4 o5 o6 o7 o8 o9 o10 o11 o12 o13 o14 : Option D) : lcF (lcStep (gfName 9) fYes (fCall lenD (fCons (fVar 9) fNil)) [o0, o1, o2, o3, o4, o5, o6, o7, o8, o9, o10, o11, o12, o13, o14]) (L.map rowN) = .ok ((L.map List.length).map natD) := by
  rw [List.map_map]
  refine lcF_map rowN _ L fun l _ => ?_
  simp [lcStep_eq, rowN]
theorem best_comp (L : List (List Nat)) (b : Nat) (o0 o1 o2 o3 o5 o6 o7 o8 o9 o10 o11 o12 o13 o14 : Option D) : lcF (lcStep (gfName 9) (fB (f2 eqD (fCall lenD (fCons (fVar 9) fNil)) (fVar 4))) (fVar 9) [o0, o1, o2, o3, some (natD b), o5, o6, o7, o8, o9, o10, o11, o12, o13, o14]) (L.map rowN) = .ok ((L.filter fun l => decide (l.length = b)).map rowN) := by
  refine lcF_filt rowN (fun l => decide (l.length = b)) rowN L fun l _ => ?_
  by_cases c : l.length = b
  · simp [lcStep_eq, rowN, c]
  · have c' : ¬ ((l.length : Nat) : Int) = (b : Nat) := by omega
    simp [lcStep_eq, rowN, c, c']
theorem law_ends_loop (hn : ms.length ≤ 12) (o0 o2 o3 o4 o5 o8 o9 o10 o12 o13 o14 : Option D) : ∃ o7 : Option D, forF (gfName 7) (fSeq (fApp 6 (f2 addD (fC (.int 1)) (fCall maxD (fCons (f2 addD (fLst (fCons (fC (.int 0)) fNil)) (fLc (fRng rng1 (fCons (fVar 7) fNil)) (gfName 11) (fB (f2 (blD leB) (f2 idxD (fVar 1) (fVar 11)) (f2 idxD (fVar 1) (fVar 7)))) (f2 idxD (fVar 6) (fVar 11)) [11])) fNil)))) fSkip) (rngL 0 ms.length) [o0, some (rowZ ms), o2, o3, o4, o5, some (.lst []), none, o8, o9, o10, none, o12, o13, o14] = .nx [o0, some (rowZ ms), o2, o3, o4, o5, some (.lst ((ends (vv ms) ms.length).map natD)), o7, o8, o9, o10, none, o12, o13, o14] := by
  obtain ⟨ρ', e, ⟨o7, rfl⟩⟩ := forF_rng0 (g := (gfName 7)) (fb := (fSeq (fApp 6 (f2 addD (fC (.int 1)) (fCall maxD (fCons (f2 addD (fLst (fCons (fC (.int 0)) fNil)) (fLc (fRng rng1 (fCons (fVar 7) fNil)) (gfName 11) (fB (f2 (blD leB) (f2 idxD (fVar 1) (fVar 11)) (f2 idxD (fVar 1) (fVar 7)))) (f2 idxD (fVar 6) (fVar 11)) [11])) fNil)))) fSkip)) (fun j ρ => ∃ o7 : Option D, ρ = [o0, some (rowZ ms), o2, o3, o4, o5, some (.lst ((ends (vv ms) j).map natD)), o7, o8, o9, o10, none, o12, o13, o14]) ms.length (ρ := [o0, some (rowZ ms), o2, o3, o4, o5, some (.lst []), none, o8, o9, o10, none, o12, o13, o14]) ⟨none, rfl⟩ (by
    rintro j ρ hj ⟨o7, rfl⟩
    have r1 : rng1 [.int (j : Int)] = .ok ((List.range j).map natD) := by rw [rng1_ok (by omega) (by omega), Int.toNat_natCast, rngL_zero]
    have lb : lcB ((List.range j).map natD) = true := lcB_map (by rw [List.length_range]; omega)
    have cm : lcF (lcStep (gfName 11) (fB (f2 (blD leB) (f2 idxD (fVar 1) (fVar 11)) (f2 idxD (fVar 1) (fVar 7)))) (f2 idxD (fVar 6) (fVar 11)) [o0, some (rowZ ms), o2, o3, o4, o5, some (.lst ((ends (vv ms) j).map natD)), some (.int (j : Int)), o8, o9, o10, none, o12, o13, o14]) ((List.range j).map natD) = .ok ((((List.range j).filter fun k => decide (vv ms k ≤ vv ms j)).map (en (vv ms))).map natD) := by
      rw [List.map_map]
      refine lcF_filt natD (fun k => decide (vv ms k ≤ vv ms j)) _ _ fun k hk => ?_
      have hk := List.mem_range.mp hk
      have i1 := idx_vv (ms := ms) (k := k) (by omega)
      have i0 := idx_vv (ms := ms) (k := j) (by omega)
      have i2 := idx_ends (v := vv ms) hk
      by_cases c : vv ms k ≤ vv ms j
      · simp [lcStep_eq, i0, i1, i2, c]
      · simp [lcStep_eq, i0, i1, c]
    have es := ends_snoc (vv ms) j
    rw [en_eq] at es
    have wl : (((List.range j).filter fun k => decide (vv ms k ≤ vv ms j)).map (en (vv ms))).length ≤ 100 := by
      have := List.length_filter_le (fun k => decide (vv ms k ≤ vv ms j)) (List.range j)
      rw [List.length_range] at this
      rw [List.length_map]; omega
    generalize (((List.range j).filter fun k => decide (vv ms k ≤ vv ms j)).map (en (vv ms))) = W at cm es wl
    have ad := addD_lst (xs := [.int 0]) (ys := W.map natD) (by simp; omega)
    have mm := max_nats W
    have ap : apB ((ends (vv ms) j).map natD) = true := apB_map (by rw [ends_len]; omega)
    refine ⟨_, [o0, some (rowZ ms), o2, o3, o4, o5, some (.lst ((ends (vv ms) (j + 1)).map natD)), some (.int (j : Int)), o8, o9, o10, none, o12, o13, o14], rfl, ?_, _, rfl⟩
    rw [es, List.map_append]
    generalize (List.range j).map natD = rj at r1 lb cm
    generalize (ends (vv ms) j).map natD = ej at cm ap
    simp at ad
    generalize W.map natD = wj at cm ad mm
    simp [r1, lb, cm, ad, mm, ap])
  exact ⟨o7, e⟩
theorem law_due_comp (hn : ms.length ≤ 12) (o0 o1 o3 o4 o5 o7 o8 o9 o10 o11 o12 o13 o14 : Option D) : lcF (lcStep (gfName 14) fYes (fCall tupleD (fCons (fLc (fRng rng1 (fCons (fVar 2) fNil)) (gfName 7) (fB (f2 eqD (f2 idxD (fVar 6) (fVar 7)) (fVar 14))) (fVar 7) [7]) fNil)) [o0, o1, some (.int (ms.length : Nat)), o3, o4, o5, some (.lst ((ends (vv ms) ms.length).map natD)), o7, o8, o9, o10, o11, o12, o13, o14]) ((List.range' 1 (bst (vv ms) ms.length)).map natD) = .ok ((dueN (vv ms) ms.length).map rowN) := by
  have r1 : rng1 [.int (ms.length : Nat)] = .ok ((List.range ms.length).map natD) := by rw [rng1_ok (by omega) (by omega), Int.toNat_natCast, rngL_zero]
  have b1 : lcB ((List.range ms.length).map natD) = true := lcB_map (by rw [List.length_range]; omega)
  unfold dueN
  rw [List.map_map]
  refine lcF_map natD _ _ fun c _ => ?_
  have ci : ∀ o7 : Option D, lcF (lcStep (gfName 7) (fB (f2 eqD (f2 idxD (fVar 6) (fVar 7)) (fVar 14))) (fVar 7) [o0, o1, some (.int (ms.length : Nat)), o3, o4, o5, some (.lst ((ends (vv ms) ms.length).map natD)), o7, o8, o9, o10, o11, o12, o13, some (.int (c : Int))]) ((List.range ms.length).map natD) = .ok (((List.range ms.length).filter fun k => decide (en (vv ms) k = c)).map natD) := fun o7 =>
    lcF_filt natD (fun k => decide (en (vv ms) k = c)) natD _ fun k hk => by
      have i2 := idx_ends (v := vv ms) (List.mem_range.mp hk)
      by_cases q : en (vv ms) k = c
      · simp [lcStep_eq, i2, q]
      · have q' : ¬ ((en (vv ms) k : Nat) : Int) = (c : Nat) := by omega
        simp [lcStep_eq, i2, q, q']
  show _ = R.ok (some (rowN ((List.range ms.length).filter fun k => decide (en (vv ms) k = c))))
  generalize (List.range ms.length).map natD = rj at r1 b1 ci
  generalize ((List.range ms.length).filter fun k => decide (en (vv ms) k = c)) = q at ci
  generalize (ends (vv ms) ms.length).map natD = es at ci
  simp [lcStep_eq, r1, b1, ci]
theorem pw_idx {k : Nat} (h : k < 9) : idxD (.lst [.int 1, .int 2, .int 4, .int 8, .int 16, .int 32, .int 64, .int 128, .int 256]) (.int (k : Int)) = .ok (.int (2 ^ k)) := by
  have c : k = 0 ∨ k = 1 ∨ k = 2 ∨ k = 3 ∨ k = 4 ∨ k = 5 ∨ k = 6 ∨ k = 7 ∨ k = 8 := by omega
  rcases c with c | c | c | c | c | c | c | c | c <;> subst c <;> rfl
def bitB (v : Int) (k : Nat) : Bool := decide (v / 2 ^ k % 2 = 1)
theorem lot_comp {v : Int} (e : den__law_number [.scr ns, .int 20] = .ok (.int v)) (hn : ms.length ≤ 9) (o1 o2 o3 o4 o5 o6 o7 o8 o9 o10 o11 o12 o13 o14 : Option D) : lcF (lcStep (gfName 7) (fB (f2 eqD (f2 modD (fCall intD (fCons (f2 fdivD (fCall den__law_number (fCons (fVar 0) (fCons (fC (.int 20)) fNil))) (f2 idxD (fLst (fCons (fC (.int 1)) (fCons (fC (.int 2)) (fCons (fC (.int 4)) (fCons (fC (.int 8)) (fCons (fC (.int 16)) (fCons (fC (.int 32)) (fCons (fC (.int 64)) (fCons (fC (.int 128)) (fCons (fC (.int 256)) fNil)))))))))) (fVar 7))) fNil)) (fC (.int 2))) (fC (.int 1)))) (fVar 7) [some (.scr ns), o1, o2, o3, o4, o5, o6, o7, o8, o9, o10, o11, o12, o13, o14]) ((List.range ms.length).map natD) = .ok (((List.range ms.length).filter (bitB v)).map natD) := by
  refine lcF_filt natD (bitB v) natD _ fun k hk => ?_
  have hk := List.mem_range.mp hk
  have i := pw_idx (k := k) (by omega)
  have p0 : (0 : Int) < 2 ^ k := Int.pow_pos (by decide)
  have p1 : (2 : Int) ^ k < 1073741824 := by
    have c : k = 0 ∨ k = 1 ∨ k = 2 ∨ k = 3 ∨ k = 4 ∨ k = 5 ∨ k = 6 ∨ k = 7 ∨ k = 8 := by omega
    rcases c with c | c | c | c | c | c | c | c | c <;> subst c <;> decide
  unfold bitB
  generalize (2 : Int) ^ k = p at *
  by_cases c : v / p % 2 = 1
  · simp [lcStep_eq, e, i, fdivD_int p0 p1, modD_int, c]
  · simp [lcStep_eq, e, i, fdivD_int p0 p1, modD_int, c]
end
end Sh

namespace Sh
open PySem PySem.Spec PyProof.Rows L2
section
variable {ms : List Int} {ns : List Int}
theorem parts_loop (w : Nat → Int) (hw : ∀ k : Nat, k < 9 → den__law_number [.scr ns, .int (21 + (k : Int))] = .ok (.int (w k))) (hn : ms.length ≤ 9) (o1 o3 o4 o5 o6 o7 o8 o9 o13 o14 : Option D) : ∃ (L : List (List Nat)) (o7' o11 o12 : Option D), (∀ l ∈ L, LotN ms.length l) ∧ L.length ≤ 3 ∧ forF (gfName 11) (fSeq (fSet 12 (fCall tupleD (fCons (fLc (fRng rng1 (fCons (fVar 2) fNil)) (gfName 7) (fB (f2 eqD (f2 modD (fCall intD (fCons (fCall den__law_number (fCons (fVar 0) (fCons (f2 addD (fC (.int 21)) (fVar 7)) fNil))) fNil)) (fC (.int 3))) (fVar 11))) (fVar 7) [7]) fNil))) (fSeq (fIfS (fTru (fVar 12)) (fSeq (fApp 10 (fVar 12)) fSkip) fSkip) fSkip)) (rngL 0 3) [some (.scr ns), o1, some (.int (ms.length : Nat)), o3, o4, o5, o6, o7, o8, o9, some (.lst []), none, none, o13, o14] = .nx [some (.scr ns), o1, some (.int (ms.length : Nat)), o3, o4, o5, o6, o7', o8, o9, some (.lst (L.map rowN)), o11, o12, o13, o14] := by
  obtain ⟨ρ', e, ⟨L, o11, o12, rfl, hL, lL⟩⟩ := forF_rng0 (g := (gfName 11)) (fb := (fSeq (fSet 12 (fCall tupleD (fCons (fLc (fRng rng1 (fCons (fVar 2) fNil)) (gfName 7) (fB (f2 eqD (f2 modD (fCall intD (fCons (fCall den__law_number (fCons (fVar 0) (fCons (f2 addD (fC (.int 21)) (fVar 7)) fNil))) fNil)) (fC (.int 3))) (fVar 11))) (fVar 7) [7]) fNil))) (fSeq (fIfS (fTru (fVar 12)) (fSeq (fApp 10 (fVar 12)) fSkip) fSkip) fSkip))) (fun j ρ => ∃ (L : List (List Nat)) (o11 o12 : Option D), ρ = [some (.scr ns), o1, some (.int (ms.length : Nat)), o3, o4, o5, o6, o7, o8, o9, some (.lst (L.map rowN)), o11, o12, o13, o14] ∧ (∀ l ∈ L, LotN ms.length l) ∧ L.length ≤ j) 3 (ρ := [some (.scr ns), o1, some (.int (ms.length : Nat)), o3, o4, o5, o6, o7, o8, o9, some (.lst []), none, none, o13, o14]) ⟨[], none, none, rfl, by simp, by simp⟩ (by
    rintro j ρ hj ⟨L, o11, o12, rfl, hL, lL⟩
    have r1 : rng1 [.int (ms.length : Nat)] = .ok ((List.range ms.length).map natD) := by rw [rng1_ok (by omega) (by omega), Int.toNat_natCast, rngL_zero]
    have b1 : lcB ((List.range ms.length).map natD) = true := lcB_map (by rw [List.length_range]; omega)
    have cm : ∀ o7 : Option D, lcF (lcStep (gfName 7) (fB (f2 eqD (f2 modD (fCall intD (fCons (fCall den__law_number (fCons (fVar 0) (fCons (f2 addD (fC (.int 21)) (fVar 7)) fNil))) fNil)) (fC (.int 3))) (fVar 11))) (fVar 7) [some (.scr ns), o1, some (.int (ms.length : Nat)), o3, o4, o5, o6, o7, o8, o9, some (.lst (L.map rowN)), some (.int (j : Int)), o12, o13, o14]) ((List.range ms.length).map natD) = .ok (((List.range ms.length).filter fun k => decide (w k % 3 = j)).map natD) := fun o7 =>
      lcF_filt natD (fun k => decide (w k % 3 = j)) natD _ fun k hk => by
        have hk := List.mem_range.mp hk
        have e := hw k (by omega)
        by_cases c : w k % 3 = j
        · simp [lcStep_eq, e, modD_int, c]
        · simp [lcStep_eq, e, modD_int, c]
    have lt := filter_lot ms.length fun k => decide (w k % 3 = j)
    generalize (List.range ms.length).map natD = rj at *
    generalize ((List.range ms.length).filter fun k => decide (w k % 3 = j)) = q at *
    have ap : apB (L.map rowN) = true := apB_map (by omega)
    cases q with
    | nil =>
      refine ⟨_, [some (.scr ns), o1, some (.int (ms.length : Nat)), o3, o4, o5, o6, o7, o8, o9, some (.lst (L.map rowN)), some (.int (j : Int)), some (.tup []), o13, o14], rfl, ?_, L, _, _, rfl, hL, by omega⟩
      simp only [List.map_nil] at cm
      generalize L.map rowN = LD at *
      simp [r1, b1, cm]
    | cons a t =>
      have tr : truthD (.tup ((a :: t).map natD)) = .ok true := rfl
      refine ⟨_, [some (.scr ns), o1, some (.int (ms.length : Nat)), o3, o4, o5, o6, o7, o8, o9, some (.lst ((L ++ [a :: t]).map rowN)), some (.int (j : Int)), some (rowN (a :: t)), o13, o14], rfl, ?_, L ++ [a :: t], _, _, rfl, ?_, by rw [List.length_append, List.length_singleton]; omega⟩
      · rw [List.map_append, List.map_singleton, show rowN (a :: t) = .tup ((a :: t).map natD) from rfl]
        generalize (a :: t).map natD = q at *
        generalize L.map rowN = LD at *
        simp [r1, b1, cm, tr, ap]
      · intro l hl
        rcases List.mem_append.mp hl with z | z
        · exact hL l z
        · rw [List.mem_singleton.mp z]; exact lt)
  exact ⟨L, o7, o11, o12, hL, lL, e⟩
theorem bad_rows (h : RowZ ms) : ∀ v : Int, 0 ≤ v → v < 9 → ∃ d : D, idxD (.lst [.non, .lst (ms.map D.int), .tup [.bl true], .tup [.str "?"], .tup [.int 1000001], .tup (List.replicate 13 (.int 0)), .tup [.int (-1000001)], .str "?", .tup [.tup [.int 0]]]) (.int v) = .ok d ∧ den__law_refused_one [.fn "rising", d, .str "NoRow"] = .ok (.bl true) := by
  intro v h0 h1
  have c : v = 0 ∨ v = 1 ∨ v = 2 ∨ v = 3 ∨ v = 4 ∨ v = 5 ∨ v = 6 ∨ v = 7 ∨ v = 8 := by omega
  have b1 : ∀ d : D, lcB [d] = true := fun d => lcB_of (by simp)
  have a1 : allD [.lst [D.bl false]] = .ok (.bl false) := rfl
  have x0 : den_is_row [.non] = .ok (.bl false) := by
    simp only [den_is_row, runD_eq, g_is_row]
    simp [initD]
  have x2 : den_is_row [.tup [.bl true]] = .ok (.bl false) := by
    have i : den_is_integer [.bl true] = .ok (.bl false) := rfl
    simp only [den_is_row, runD_eq, g_is_row]
    simp [initD, c_MOST_BOOKS, b1, lcF, lcStep_eq, i, a1]
  have x3 : den_is_row [.tup [.str "?"]] = .ok (.bl false) := by
    have i : den_is_integer [.str "?"] = .ok (.bl false) := rfl
    simp only [den_is_row, runD_eq, g_is_row]
    simp [initD, c_MOST_BOOKS, b1, lcF, lcStep_eq, i, a1]
  have x4 : den_is_row [.tup [.int 1000001]] = .ok (.bl false) := by
    simp only [den_is_row, runD_eq, g_is_row]
    simp [initD, c_MOST_BOOKS, c_GREATEST, b1, lcF, lcStep_eq, is_integer_int, a1]
  have x5 : den_is_row [.tup (List.replicate 13 (.int 0))] = .ok (.bl false) := by
    simp only [den_is_row, runD_eq, g_is_row]
    simp [initD, c_MOST_BOOKS]
  have x6 : den_is_row [.tup [.int (-1000001)]] = .ok (.bl false) := by
    simp only [den_is_row, runD_eq, g_is_row]
    simp [initD, c_MOST_BOOKS, c_GREATEST, b1, lcF, lcStep_eq, is_integer_int, a1]
  have x7 : den_is_row [.str "?"] = .ok (.bl false) := by
    simp only [den_is_row, runD_eq, g_is_row]
    simp [initD]
  have x8 : den_is_row [.tup [.tup [.int 0]]] = .ok (.bl false) := by
    have i : den_is_integer [.tup [.int 0]] = .ok (.bl false) := rfl
    simp only [den_is_row, runD_eq, g_is_row]
    simp [initD, c_MOST_BOOKS, b1, lcF, lcStep_eq, i, a1]
  rcases c with c | c | c | c | c | c | c | c | c <;> subst c
  · exact ⟨_, idx_lst0 _ _, ref_one _ (rising_bad x0)⟩
  · exact ⟨_, idx_lst1 _ _ _, ref_one _ (rising_bad (is_row_lst _))⟩
  · exact ⟨_, idx_lst2 _ _ _ _, ref_one _ (rising_bad x2)⟩
  · exact ⟨_, idx_lst3 _ _ _ _ _, ref_one _ (rising_bad x3)⟩
  · exact ⟨_, idx_lst4 _ _ _ _ _ _, ref_one _ (rising_bad x4)⟩
  · exact ⟨_, idx_lst5 _ _ _ _ _ _ _, ref_one _ (rising_bad x5)⟩
  · exact ⟨_, idx_lst6 _ _ _ _ _ _ _ _, ref_one _ (rising_bad x6)⟩
  · exact ⟨_, idx_lst7 _ _ _ _ _ _ _ _ _, ref_one _ (rising_bad x7)⟩
  · exact ⟨_, idx_lst8 _ _ _ _ _ _ _ _ _ _, ref_one _ (rising_bad x8)⟩
end
end Sh

namespace Sh
open PySem PySem.Spec PyProof.Rows L2
theorem best_ne (v : Nat → Int) (n : Nat) : (goodL v n).map List.length ≠ [] := by
  have : ([] : List Nat) ∈ goodL v n := good_mem.mpr ⟨⟨.nil, by simp⟩, .nil⟩
  intro z
  rw [List.map_eq_nil_iff] at z
  rw [z] at this
  cases this
theorem pure_law : ∀ ns : List Int, ns.length ≤ 63 → den_law [.scr ns] = .ok (.bl true) := by
  intro ns hl
  obtain ⟨ms, hR, n9, er⟩ := row_of_ok ns hl
  obtain ⟨v20, e20, _⟩ := number_ok ns 20 hl (by omega) (by omega)
  obtain ⟨v31, e31, g31⟩ := number_ok ns 31 hl (by omega) (by omega)
  have hv : ∀ k : Nat, k < 9 → ∃ v : Int, den__law_number [.scr ns, .int (21 + (k : Int))] = .ok (.int v) := fun k hk => by
    obtain ⟨v, e, _⟩ := number_ok ns (21 + (k : Int)) hl (by omega) (by omega)
    exact ⟨v, e⟩
  obtain ⟨w, hw⟩ : ∃ w : Nat → Int, ∀ k : Nat, k < 9 → den__law_number [.scr ns, .int (21 + (k : Int))] = .ok (.int (w k)) := ⟨fun k => if h : k < 9 then (hv k h).choose else 0, fun k hk => by simp only [dif_pos hk]; exact (hv k hk).choose_spec⟩
  have n12 := hR.len
  -- lots
  have lots := law_lots_ok ms.length n9
  have c_good := good_comp (ms := ms) (ns := ns) n9
  have b_lots : lcB ((lotsM ms.length).map rowN) = true := lcB_map (by rw [lotsM_len]; have := pow9 n9; omega)
  have gl : (goodL (vv ms) ms.length).length ≤ 512 := by
    have h1 := List.length_filter_le (fun l => rdy (l.map (vv ms))) (lotsM ms.length)
    have := pow9 n9
    rw [lotsM_len] at h1
    unfold goodL
    omega
  have b_good : lcB ((goodL (vv ms) ms.length).map rowN) = true := lcB_map (by omega)
  have c_len := len_comp (goodL (vv ms) ms.length)
  have m_best := max_nats1 (best_ne (vv ms) ms.length)
  rw [good_best] at m_best
  -- rising
  have tr := rising_ok hR
  obtain ⟨g1, g2, g3, g4⟩ := grd_best (vv ms) ms.length
  have gL := grd_lot (vv ms) ms.length
  have G_row : den__law_row [rowN (grd (vv ms) ms.length ms.length)] = .ok (.bl true) := by
    rw [show rowN (grd (vv ms) ms.length ms.length) = .tup (((grd (vv ms) ms.length ms.length).map fun k : Nat => (k : Int)).map D.int) by rw [← map_nat]]
    exact row_ints _ (by rw [List.length_map]; have := gL.len; omega)
  have c_best := best_comp (goodL (vv ms) ms.length) (bst (vv ms) ms.length)
  have m_min := min_rows (F := grd (vv ms) ms.length ms.length) (L := (goodL (vv ms) ms.length).filter fun l => decide (l.length = bst (vv ms) ms.length)) (List.mem_filter.mpr ⟨good_mem.mpr ⟨gL, g1⟩, decide_eq_true g3⟩) (by
    have := List.length_filter_le (fun l : List Nat => decide (l.length = bst (vv ms) ms.length)) (goodL (vv ms) ms.length)
    omega) (fun T hT => by
    obtain ⟨t1, t2⟩ := List.mem_filter.mp hT
    obtain ⟨t3, t4⟩ := good_mem.mp t1
    rcases g4 T t4 t3.lt (of_decide_eq_true t2) with z | z
    · exact .inl z
    · exact .inr z.lt)
  have n_told := ebRN.ne (by decide) (grd (vv ms) ms.length ms.length) (grd (vv ms) ms.length ms.length)
  rw [decide_eq_true rfl] at n_told
  have longest := law_longest_ok (ms := ms) n12
  -- falls
  have rngn : rng1 [.int (ms.length : Nat)] = .ok (rngL 0 ms.length) := by rw [rng1_ok (by omega) (by omega), Int.toNat_natCast]
  have b_rng : lcB (rngL 0 ms.length) = true := lcB_rng (by omega)
  have bl := bst_le (vv ms) ms.length
  have rngb : rng2 [.int 1, .int ((bst (vv ms) ms.length : Nat) + 1)] = .ok ((List.range' 1 (bst (vv ms) ms.length)).map natD) := by
    rw [rng2_ok (by decide) (by decide) (by omega) (by omega), show (((bst (vv ms) ms.length : Nat) : Int) + 1 - 1).toNat = bst (vv ms) ms.length by omega]
    exact congrArg R.ok (rngL_nat 1 _)
  have b_rngb : lcB ((List.range' 1 (bst (vv ms) ms.length)).map natD) = true := lcB_map (by rw [List.length_range']; omega)
  have c_due := law_due_comp (ms := ms) n12
  have fa := falls_ok hR
  have n_due : neD (.tup ((dueN (vv ms) ms.length).map rowN)) (.tup ((dueN (vv ms) ms.length).map rowN)) = .ok (.bl (!decide (dueN (vv ms) ms.length = dueN (vv ms) ms.length))) := ebRRN.ne (by decide) (dueN (vv ms) ms.length) (dueN (vv ms) ms.length)
  rw [decide_eq_true rfl] at n_due
  have dl : (dueN (vv ms) ms.length).length ≤ 12 := by rw [due_len]; omega
  have lif := law_is_falls_ok (ms := ms) n12 (C := .tup ((dueN (vv ms) ms.length).map rowN)) rfl (due_lot _ _) (by omega)
  rw [due_flat, due_lotB] at lif
  have ir := is_rising_ok hR gL
  rw [(ch_rdy gL.asc).mpr g1, decide_eq_true g3] at ir
  have af := are_falls_ok hR (L := dueN (vv ms) ms.length) (due_lot _ _) (by omega)
  rw [falls_same, due_flat, due_lotB] at af
  have ar := are_falls_ok hR (L := (dueN (vv ms) ms.length).reverse) (fun l h => due_lot _ _ l (List.mem_reverse.mp h)) (by rw [List.length_reverse]; omega)
  rw [falls_same, rev_flat, List.all_reverse, due_lotB, List.map_reverse] at ar
  -- a lot
  have c_lot := lot_comp (ms := ms) (ns := ns) e20 n9
  rw [← rngL_zero] at c_lot
  have lL := filter_lot ms.length (bitB v20)
  have il := is_rising_ok hR lL
  have ig := in_eb ebRN (by decide) (fun _ => rfl) ((List.range ms.length).filter (bitB v20)) (goodL (vv ms) ms.length) (k := rdy (((List.range ms.length).filter (bitB v20)).map (vv ms))) (by
    rw [good_mem, ch_rdy lL.asc]
    exact ⟨fun q => ⟨lL, q⟩, fun q => q.2⟩)
  have ll : lenD [rowN ((List.range ms.length).filter (bitB v20))] = .ok (.int (((List.range ms.length).filter (bitB v20)).length : Nat)) := by
    show R.ok (D.int ((((List.range ms.length).filter (bitB v20)).map natD).length : Nat)) = _
    rw [List.length_map]
  have el : eqD (.int (((List.range ms.length).filter (bitB v20)).length : Nat)) (.int (bst (vv ms) ms.length : Nat)) = .ok (.bl (decide (((List.range ms.length).filter (bitB v20)).length = bst (vv ms) ms.length))) := ebN.eq (by decide) _ _
  have fl : den__law_flag [.bl (rdy (((List.range ms.length).filter (bitB v20)).map (vv ms)) && decide (((List.range ms.length).filter (bitB v20)).length = bst (vv ms) ms.length)), .bl (rdy (((List.range ms.length).filter (bitB v20)).map (vv ms)) && decide (((List.range ms.length).filter (bitB v20)).length = bst (vv ms) ms.length))] = .ok (.bl true) := flag_ok _
  have irl := is_rising_lst hR ((grd (vv ms) ms.length ms.length).map natD)
  -- parts
  have p6 : powD (.int 10) (.int 6) = .ok (.int 1000000) := rfl
  have m13 : mulD (.tup [.int 0]) (.int 13) = .ok (.tup (List.replicate 13 (.int 0))) := rfl
  obtain ⟨db, i31, rf⟩ := bad_rows hR (v31 % 9) (by omega) (by omega)
  have m31 : modD (.int v31) (.int 9) = .ok (.int (v31 % 9)) := modD_int (by decide)
  have un := unlike_val hR
  have ls : lenSet (rowZ ms) = _ := lenSet_tup (ns := ms) (by omega)
  have eu : eqD (.int ((unI ms).length : Nat)) (.int (ms.length : Nat)) = .ok (.bl (decide ((unI ms).length = ms.length))) := ebN.eq (by decide) _ _
  have fu := flag_ok (decide ((unI ms).length = ms.length))
  have a8 := are_falls_ok hR (L := dueN (vv ms) ms.length ++ [[]]) (fun l h => by
    rcases List.mem_append.mp h with z | z
    · exact due_lot _ _ l z
    · rw [List.mem_singleton.mp z]; exact ⟨.nil, by simp⟩) (by rw [List.length_append, List.length_singleton]; omega)
  have h8 : List.all (dueN (vv ms) ms.length ++ [[]]) (fun l : List Nat => !l.isEmpty) = false := by simp
  rw [h8, Bool.false_and, Bool.false_and, List.map_append] at a8
  have a8b : den_are_falls [rowZ ms, .tup ((dueN (vv ms) ms.length).map rowN ++ [.tup []])] = .ok (.bl false) := a8
  have ad8 := addD_tup (xs := (dueN (vv ms) ms.length).map rowN) (ys := [.tup []]) (by rw [List.length_map]; simp; omega)
  have a9 : 0 < ms.length → den_are_falls [rowZ ms, .tup (cutD ((dueN (vv ms) ms.length).map rowN) (some 1) none)] = .ok (.bl false) := fun h => by
    have k1 : cutD ((dueN (vv ms) ms.length).map rowN) (some 1) none = ((dueN (vv ms) ms.length).drop 1).map rowN := by rw [List.map_drop]; exact cut_from _ 1
    rw [k1, are_falls_ok hR (fun l h => due_lot _ _ l (List.mem_of_mem_drop h)) (by rw [List.length_drop]; omega), drop_flat h, Bool.and_false, Bool.false_and]
  have lR : listD [rowZ ms] = .ok (.lst (ms.map D.int)) := rfl
  have lenR : lenD [rowZ ms] = .ok (.int (ms.length : Nat)) := by
    show R.ok (D.int ((ms.map D.int).length : Nat)) = _
    rw [List.length_map]
  have listG : listD [rowN (grd (vv ms) ms.length ms.length)] = .ok (.lst ((grd (vv ms) ms.length ms.length).map natD)) := rfl
  obtain ⟨o7, le⟩ := law_ends_loop (ms := ms) n12 (some (.scr ns)) (some (.int (ms.length : Nat))) (some (.lst ((goodL (vv ms) ms.length).map rowN))) (some (natD (bst (vv ms) ms.length))) (some (rowN (grd (vv ms) ms.length ms.length))) none none none none none none
  obtain ⟨L, o7', o11, o12, pL, pl, pe⟩ := parts_loop (ms := ms) (ns := ns) w hw n9 (some (rowZ ms)) (some (.lst ((goodL (vv ms) ms.length).map rowN))) (some (natD (bst (vv ms) ms.length))) (some (rowN (grd (vv ms) ms.length ms.length))) (some (.lst ((ends (vv ms) ms.length).map natD))) o7 (some (.tup ((dueN (vv ms) ms.length).map rowN))) (some (rowN ((List.range ms.length).filter (bitB v20)))) none none
  have pa := are_falls_ok hR pL (by omega)
  rw [falls_same] at pa
  have pw := law_is_falls_ok (ms := ms) n12 (C := .lst (L.map rowN)) rfl pL (by omega)
  have pf := flag_ok (flatB ms.length L && L.all (lotB (vv ms)))
  have pn := are_falls_lst hR (L.map rowN)
  -- names for what is large
  generalize (flatB ms.length L && L.all (lotB (vv ms))) = B1 at *
  generalize L.map rowN = PL at *
  generalize ((List.range ms.length).filter (bitB v20)).length = len20 at *
  generalize rdy (((List.range ms.length).filter (bitB v20)).map (vv ms)) = B2 at *
  have t20 : tupleD [.lst (((List.range ms.length).filter (bitB v20)).map natD)] = .ok (rowN ((List.range ms.length).filter (bitB v20))) := rfl
  generalize rowN ((List.range ms.length).filter (bitB v20)) = T20 at *
  generalize ((List.range ms.length).filter (bitB v20)).map natD = L20 at *
  generalize rowN (grd (vv ms) ms.length ms.length) = TG at *
  generalize (grd (vv ms) ms.length ms.length).map natD = LG at *
  generalize ((goodL (vv ms) ms.length).filter fun l => decide (l.length = bst (vv ms) ms.length)).map rowN = FD at *
  generalize ((goodL (vv ms) ms.length).map List.length).map natD = LN at *
  generalize (goodL (vv ms) ms.length).map rowN = GD at *
  generalize (lotsM ms.length).map rowN = LD at *
  generalize (dueN (vv ms) ms.length).map rowN = DU at *
  generalize (ends (vv ms) ms.length).map natD = ES at *
  generalize (List.range' 1 (bst (vv ms) ms.length)).map natD = RB at *
  generalize rngL 0 ms.length = RR at *
  generalize bst (vv ms) ms.length = bb at *
  generalize (unI ms).length = ul at *
  have b_LN : True := trivial
  have lRW : seqOf (rowZ ms) = seqOf (rowZ ms) := rfl
  generalize List.replicate 13 (D.int 0) = LZ at *
  generalize rowZ ms = RW at *
  generalize ms.map D.int = MI at *
  generalize ms.length = n at *
  simp only [Bool.and_true, Bool.not_true, Bool.true_and, decide_true, List.map_cons, List.map_nil] at *
  have r3 : rng1 [.int 3] = .ok (rngL 0 3) := by rw [rng1_ok (by decide) (by decide)]; rfl
  generalize hd : decide (len20 = bb) = B3 at *
  have key : ∀ X : Bool, (X = true ↔ 0 < n) → den_law [.scr ns] = .ok (.bl true) := by
    intro X hX
    cases X with
    | true =>
      have c := hX.mp rfl
      have c' : (0 : Int) < (n : Int) := by omega
      have a9 := a9 c
      cases B2 with
      | true =>
        simp only [Bool.true_and] at il fl
        simp only [den_law, runD_eq, g_law]
        simp [initD, -List.map_map, -List.map_append, er, lenR, lots, c_good, b_lots, b_good, c_len, m_best, tr, G_row, c_best, m_min, n_told, longest, rngn, b_rng, rngb, b_rngb, c_due, fa, n_due, lif, ir, af, ar, c_lot, il, ig, ll, el, fl, irl, p6, m13, i31, rf, e31, m31, un, ls, eu, fu, a8b, ad8, lR, listG, le, pe, pa, pw, pf, pn, t20, fRev, revD, r3, a9, c, c']
      | false =>
        simp only [Bool.false_and] at il fl
        simp only [den_law, runD_eq, g_law]
        simp [initD, -List.map_map, -List.map_append, er, lenR, lots, c_good, b_lots, b_good, c_len, m_best, tr, G_row, c_best, m_min, n_told, longest, rngn, b_rng, rngb, b_rngb, c_due, fa, n_due, lif, ir, af, ar, c_lot, il, ig, ll, el, fl, irl, p6, m13, i31, rf, e31, m31, un, ls, eu, fu, a8b, ad8, lR, listG, le, pe, pa, pw, pf, pn, t20, fRev, revD, r3, a9, c, c']
    | false =>
      have c : ¬ 0 < n := fun z => by have := hX.mpr z; cases this
      have c' : ¬ (0 : Int) < (n : Int) := by omega
      cases B2 with
      | true =>
        simp only [Bool.true_and] at il fl
        simp only [den_law, runD_eq, g_law]
        simp [initD, -List.map_map, -List.map_append, er, lenR, lots, c_good, b_lots, b_good, c_len, m_best, tr, G_row, c_best, m_min, n_told, longest, rngn, b_rng, rngb, b_rngb, c_due, fa, n_due, lif, ir, af, ar, c_lot, il, ig, ll, el, fl, irl, p6, m13, i31, rf, e31, m31, un, ls, eu, fu, a8b, ad8, lR, listG, le, pe, pa, pw, pf, pn, t20, fRev, revD, r3, c, c']
      | false =>
        simp only [Bool.false_and] at il fl
        simp only [den_law, runD_eq, g_law]
        simp [initD, -List.map_map, -List.map_append, er, lenR, lots, c_good, b_lots, b_good, c_len, m_best, tr, G_row, c_best, m_min, n_told, longest, rngn, b_rng, rngb, b_rngb, c_due, fa, n_due, lif, ir, af, ar, c_lot, il, ig, ll, el, fl, irl, p6, m13, i31, rf, e31, m31, un, ls, eu, fu, a8b, ad8, lR, listG, le, pe, pa, pw, pf, pn, t20, fRev, revD, r3, c, c']
  exact key (decide (0 < n)) decide_eq_true_iff
end Sh

open PySem PySem.W PyProof.Rows
set_option maxHeartbeats 0 in
theorem PySem.Challenge.cw_shelfhouse_k00_rising_and_falling_holds : PySem.Challenge.rw_shelfhouse_k00_rising_and_falling.Holds := by
  w_on; o_law; k_head; (case hw => w_witness2)
  k_fill
  refine L2.walk_of (l := PySem.Challenge.rw_shelfhouse_k00_rising_and_falling) (n := 63) (k := 7) (x := "script") (CX := fun w => L2N.CX PySem.Challenge.rw_shelfhouse_k00_rising_and_falling.prog w) (sp := fun w => Sh.spLaw _) rfl (by decide) rfl ⟨rfl, by decide, by decide⟩ (fun w h Y => PySem.W.kIn_of Y) ?F (fun _ _ a ns hl _ hS => ⟨a, ns, rfl, hS, hl, fun _ => rfl⟩) (fun w H s e s' h => Sh.no_air H s e s' h)
  case F =>
    intro w mg fa h KX G hmg
    refine' Sh.all_mk KX G hmg ?b_abs ?b_all ?b_bool ?b_enumerate ?b_int ?b_isinstance ?b_len ?b_list ?b_max ?b_min ?b_range ?b_set ?b_sorted ?b_tuple ?g_MOST_BOOKS ?g_GREATEST ?e_ShelfError ?x1_ShelfError ?x2_ShelfError ?x3_ShelfError ?x4_ShelfError ?y1_ShelfError ?y2_ShelfError ?y3_ShelfError ?y4_ShelfError ?y5_ShelfError ?e_NoRow ?x1_NoRow ?x2_NoRow ?x3_NoRow ?x4_NoRow ?y1_NoRow ?y2_NoRow ?y3_NoRow ?y4_NoRow ?y5_NoRow ?y6 ?y7 ?k_ShelfError_ShelfError ?m_ShelfError_ShelfError ?k_ShelfError_NoRow ?m_ShelfError_NoRow ?k_NoRow_ShelfError ?m_NoRow_ShelfError ?k_NoRow_NoRow ?m_NoRow_NoRow ?a_is_integer ?l_is_integer ?c_is_integer ?p_is_integer ?a_is_under ?l_is_under ?c_is_under ?p_is_under ?a_are_under ?l_are_under ?c_are_under ?p_are_under ?a_is_lot ?l_is_lot ?c_is_lot ?p_is_lot ?a_unlike ?l_unlike ?c_unlike ?p_unlike ?a_is_row ?l_is_row ?c_is_row ?p_is_row ?a_need_row ?l_need_row ?c_need_row ?p_need_row ?a_is_ready ?l_is_ready ?c_is_ready ?p_is_ready ?a_longest_ends ?l_longest_ends ?c_longest_ends ?p_longest_ends ?a_rising_of ?l_rising_of ?c_rising_of ?p_rising_of ?a_rising ?l_rising ?c_rising ?p_rising ?a_falls_of ?l_falls_of ?c_falls_of ?p_falls_of ?a_falls ?l_falls ?c_falls ?p_falls ?a_are_falls_of ?l_are_falls_of ?c_are_falls_of ?p_are_falls_of ?a_are_falls ?l_are_falls ?c_are_falls ?p_are_falls ?a_is_rising ?l_is_rising ?c_is_rising ?p_is_rising ?a_are_unlike ?l_are_unlike ?c_are_unlike ?p_are_unlike ?a__law_is ?l__law_is ?c__law_is ?p__law_is ?a__law_mixed ?l__law_mixed ?c__law_mixed ?p__law_mixed ?a__law_left ?l__law_left ?c__law_left ?p__law_left ?a__law_number ?l__law_number ?c__law_number ?p__law_number ?a__law_whole ?l__law_whole ?c__law_whole ?p__law_whole ?a__law_row ?l__law_row ?c__law_row ?p__law_row ?a__law_flag ?l__law_flag ?c__law_flag ?p__law_flag ?a__law_refused_one ?l__law_refused_one ?c__law_refused_one ?p__law_refused_one ?a__law_row_of ?l__law_row_of ?c__law_row_of ?p__law_row_of ?a__law_ready ?l__law_ready ?c__law_ready ?p__law_ready ?a__law_longest ?l__law_longest ?c__law_longest ?p__law_longest ?a__law_lots ?l__law_lots ?c__law_lots ?p__law_lots ?a__law_flat ?l__law_flat ?c__law_flat ?p__law_flat ?a__law_is_falls ?l__law_is_falls ?c__law_is_falls ?p__law_is_falls ?a_law ?l_law ?c_law ?p_law Sh.pure_law
    (case b_abs => first | k_is | k_exc | rfl); (case b_all => first | k_is | k_exc | rfl); (case b_bool => first | k_is | k_exc | rfl); (case b_enumerate => first | k_is | k_exc | rfl); (case b_int => first | k_is | k_exc | rfl); (case b_isinstance => first | k_is | k_exc | rfl); (case b_len => first | k_is | k_exc | rfl); (case b_list => first | k_is | k_exc | rfl); (case b_max => first | k_is | k_exc | rfl); (case b_min => first | k_is | k_exc | rfl); (case b_range => first | k_is | k_exc | rfl); (case b_set => first | k_is | k_exc | rfl); (case b_sorted => first | k_is | k_exc | rfl); (case b_tuple => first | k_is | k_exc | rfl); (case g_MOST_BOOKS => first | k_is | k_exc | rfl); (case g_GREATEST => first | k_is | k_exc | rfl); (case e_ShelfError => first | k_is | k_exc | rfl); (case x1_ShelfError => first | k_is | k_exc | rfl); (case x2_ShelfError => first | k_is | k_exc | rfl); (case x3_ShelfError => first | k_is | k_exc | rfl); (case x4_ShelfError => first | k_is | k_exc | rfl); (case y1_ShelfError => first | k_is | k_exc | rfl); (case y2_ShelfError => first | k_is | k_exc | rfl); (case y3_ShelfError => first | k_is | k_exc | rfl); (case y4_ShelfError => first | k_is | k_exc | rfl); (case y5_ShelfError => first | k_is | k_exc | rfl); (case e_NoRow => first | k_is | k_exc | rfl); (case x1_NoRow => first | k_is | k_exc | rfl); (case x2_NoRow => first | k_is | k_exc | rfl); (case x3_NoRow => first | k_is | k_exc | rfl); (case x4_NoRow => first | k_is | k_exc | rfl); (case y1_NoRow => first | k_is | k_exc | rfl); (case y2_NoRow => first | k_is | k_exc | rfl); (case y3_NoRow => first | k_is | k_exc | rfl); (case y4_NoRow => first | k_is | k_exc | rfl); (case y5_NoRow => first | k_is | k_exc | rfl); (case y6 => first | k_is | k_exc | rfl); (case y7 => first | k_is | k_exc | rfl); (case k_ShelfError_ShelfError => first | k_is | k_exc | rfl); (case m_ShelfError_ShelfError => first | k_is | k_exc | rfl); (case k_ShelfError_NoRow => first | k_is | k_exc | rfl); (case m_ShelfError_NoRow => first | k_is | k_exc | rfl); (case k_NoRow_ShelfError => first | k_is | k_exc | rfl); (case m_NoRow_ShelfError => first | k_is | k_exc | rfl); (case k_NoRow_NoRow => first | k_is | k_exc | rfl); (case m_NoRow_NoRow => first | k_is | k_exc | rfl); (case a_is_integer => first | k_is | k_exc | rfl); (case l_is_integer => first | k_is | k_exc | rfl); (case c_is_integer => first | k_is | k_exc | rfl); (case p_is_integer => first | k_is | k_exc | rfl); (case a_is_under => first | k_is | k_exc | rfl); (case l_is_under => first | k_is | k_exc | rfl); (case c_is_under => first | k_is | k_exc | rfl); (case p_is_under => first | k_is | k_exc | rfl); (case a_are_under => first | k_is | k_exc | rfl); (case l_are_under => first | k_is | k_exc | rfl); (case c_are_under => first | k_is | k_exc | rfl); (case p_are_under => first | k_is | k_exc | rfl); (case a_is_lot => first | k_is | k_exc | rfl); (case l_is_lot => first | k_is | k_exc | rfl); (case c_is_lot => first | k_is | k_exc | rfl); (case p_is_lot => first | k_is | k_exc | rfl); (case a_unlike => first | k_is | k_exc | rfl); (case l_unlike => first | k_is | k_exc | rfl); (case c_unlike => first | k_is | k_exc | rfl); (case p_unlike => first | k_is | k_exc | rfl); (case a_is_row => first | k_is | k_exc | rfl); (case l_is_row => first | k_is | k_exc | rfl); (case c_is_row => first | k_is | k_exc | rfl); (case p_is_row => first | k_is | k_exc | rfl); (case a_need_row => first | k_is | k_exc | rfl); (case l_need_row => first | k_is | k_exc | rfl); (case c_need_row => first | k_is | k_exc | rfl); (case p_need_row => first | k_is | k_exc | rfl); (case a_is_ready => first | k_is | k_exc | rfl); (case l_is_ready => first | k_is | k_exc | rfl); (case c_is_ready => first | k_is | k_exc | rfl); (case p_is_ready => first | k_is | k_exc | rfl); (case a_longest_ends => first | k_is | k_exc | rfl); (case l_longest_ends => first | k_is | k_exc | rfl); (case c_longest_ends => first | k_is | k_exc | rfl); (case p_longest_ends => first | k_is | k_exc | rfl); (case a_rising_of => first | k_is | k_exc | rfl); (case l_rising_of => first | k_is | k_exc | rfl); (case c_rising_of => first | k_is | k_exc | rfl); (case p_rising_of => first | k_is | k_exc | rfl); (case a_rising => first | k_is | k_exc | rfl); (case l_rising => first | k_is | k_exc | rfl); (case c_rising => first | k_is | k_exc | rfl); (case p_rising => first | k_is | k_exc | rfl); (case a_falls_of => first | k_is | k_exc | rfl); (case l_falls_of => first | k_is | k_exc | rfl); (case c_falls_of => first | k_is | k_exc | rfl); (case p_falls_of => first | k_is | k_exc | rfl); (case a_falls => first | k_is | k_exc | rfl); (case l_falls => first | k_is | k_exc | rfl); (case c_falls => first | k_is | k_exc | rfl); (case p_falls => first | k_is | k_exc | rfl); (case a_are_falls_of => first | k_is | k_exc | rfl); (case l_are_falls_of => first | k_is | k_exc | rfl); (case c_are_falls_of => first | k_is | k_exc | rfl); (case p_are_falls_of => first | k_is | k_exc | rfl); (case a_are_falls => first | k_is | k_exc | rfl); (case l_are_falls => first | k_is | k_exc | rfl); (case c_are_falls => first | k_is | k_exc | rfl); (case p_are_falls => first | k_is | k_exc | rfl); (case a_is_rising => first | k_is | k_exc | rfl); (case l_is_rising => first | k_is | k_exc | rfl); (case c_is_rising => first | k_is | k_exc | rfl); (case p_is_rising => first | k_is | k_exc | rfl); (case a_are_unlike => first | k_is | k_exc | rfl); (case l_are_unlike => first | k_is | k_exc | rfl); (case c_are_unlike => first | k_is | k_exc | rfl); (case p_are_unlike => first | k_is | k_exc | rfl); (case a__law_is => first | k_is | k_exc | rfl); (case l__law_is => first | k_is | k_exc | rfl); (case c__law_is => first | k_is | k_exc | rfl); (case p__law_is => first | k_is | k_exc | rfl); (case a__law_mixed => first | k_is | k_exc | rfl); (case l__law_mixed => first | k_is | k_exc | rfl); (case c__law_mixed => first | k_is | k_exc | rfl); (case p__law_mixed => first | k_is | k_exc | rfl); (case a__law_left => first | k_is | k_exc | rfl); (case l__law_left => first | k_is | k_exc | rfl); (case c__law_left => first | k_is | k_exc | rfl); (case p__law_left => first | k_is | k_exc | rfl); (case a__law_number => first | k_is | k_exc | rfl); (case l__law_number => first | k_is | k_exc | rfl); (case c__law_number => first | k_is | k_exc | rfl); (case p__law_number => first | k_is | k_exc | rfl); (case a__law_whole => first | k_is | k_exc | rfl); (case l__law_whole => first | k_is | k_exc | rfl); (case c__law_whole => first | k_is | k_exc | rfl); (case p__law_whole => first | k_is | k_exc | rfl); (case a__law_row => first | k_is | k_exc | rfl); (case l__law_row => first | k_is | k_exc | rfl); (case c__law_row => first | k_is | k_exc | rfl); (case p__law_row => first | k_is | k_exc | rfl); (case a__law_flag => first | k_is | k_exc | rfl); (case l__law_flag => first | k_is | k_exc | rfl); (case c__law_flag => first | k_is | k_exc | rfl); (case p__law_flag => first | k_is | k_exc | rfl); (case a__law_refused_one => first | k_is | k_exc | rfl); (case l__law_refused_one => first | k_is | k_exc | rfl); (case c__law_refused_one => first | k_is | k_exc | rfl); (case p__law_refused_one => first | k_is | k_exc | rfl); (case a__law_row_of => first | k_is | k_exc | rfl); (case l__law_row_of => first | k_is | k_exc | rfl); (case c__law_row_of => first | k_is | k_exc | rfl); (case p__law_row_of => first | k_is | k_exc | rfl); (case a__law_ready => first | k_is | k_exc | rfl); (case l__law_ready => first | k_is | k_exc | rfl); (case c__law_ready => first | k_is | k_exc | rfl); (case p__law_ready => first | k_is | k_exc | rfl); (case a__law_longest => first | k_is | k_exc | rfl); (case l__law_longest => first | k_is | k_exc | rfl); (case c__law_longest => first | k_is | k_exc | rfl); (case p__law_longest => first | k_is | k_exc | rfl); (case a__law_lots => first | k_is | k_exc | rfl); (case l__law_lots => first | k_is | k_exc | rfl); (case c__law_lots => first | k_is | k_exc | rfl); (case p__law_lots => first | k_is | k_exc | rfl); (case a__law_flat => first | k_is | k_exc | rfl); (case l__law_flat => first | k_is | k_exc | rfl); (case c__law_flat => first | k_is | k_exc | rfl); (case p__law_flat => first | k_is | k_exc | rfl); (case a__law_is_falls => first | k_is | k_exc | rfl); (case l__law_is_falls => first | k_is | k_exc | rfl); (case c__law_is_falls => first | k_is | k_exc | rfl); (case p__law_is_falls => first | k_is | k_exc | rfl); (case a_law => first | k_is | k_exc | rfl); (case l_law => first | k_is | k_exc | rfl); (case c_law => first | k_is | k_exc | rfl); (case p_law => first | k_is | k_exc | rfl)
