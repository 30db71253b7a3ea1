import PyProof.Rows.All
import HandS.ForMost
import HandS.More
import HandS.Exc
import HandS.TryOnly
import HandS.ExcOwn
import HandS.WordsExc
import HandS.Defaults
import HandS.ExcInit
import HandS.IsInst
import HandS.TupAny
import HandS.Wide
import HandS.Deep
import HandS.HeadHook1
import HandS.HeadHook2
import HandS.Flow
import HandS.ExcField
import HandS.Style
import HandS.TryMany
import Wide.All
import OpenK.AllK
import Wide.FinOn
import KE.KStateDown
import Lean
import HandS.Head0
import HandS.Head1
import HandS.Head2
import HandS.HeadEnd
import PySem.Challenge.RW_wholemirrors_k01_numbers
set_option Elab.async false
set_option linter.all false
set_option maxRecDepth 100000

set_option maxHeartbeats 1000000
/-! the data layer: what a part of a def's body makes of data (PyData), over the hand layer's rules -/
namespace L2.DL
open PySem PySem.Spec PyProof.Rows
abbrev D := PyData

/-! ### data in a heap -/
inductive Rp (K : PySem.W.Frag) (F : Hp) : V → D → Prop where
  | non : Rp K F .non .none
  | bl (b : Bool) : Rp K F (.bl b) (.bool b)
  | int (i : Int) : Rp K F (.int i) (.int i)
  | str (x : Str) : Rp K F (.str x) (.str x)
  | lst {a : Addr} {xs : List V} {ds : List D} : F a = some (.lst xs) → Paired (Rp K F) xs ds → Rp K F (.ref a) (.list ds)
  | tup {a : Addr} {xs : List V} {ds : List D} : SqT K F a xs → Paired (Rp K F) xs ds → Rp K F (.ref a) (.tuple ds)
abbrev Rps (K : PySem.W.Frag) (F : Hp) : List V → List D → Prop := Paired (Rp K F)

theorem Same.seqT {K : PySem.W.Frag} {H H' : Hp} {a : Addr} {xs : List V} (e : Same H H') (h : SqT K H a xs) : SqT K H' a xs := by
  rcases h with (h | ⟨o, h⟩) | h
  · exact .inl (.inl (e _ _ h))
  · exact .inl (.inr ⟨o, e _ _ h⟩)
  · exact .inr h
mutual
theorem Rp.mono {K : PySem.W.Frag} {F F' : Hp} (e : Same F F') : ∀ {v : V} {d : D}, Rp K F v d → Rp K F' v d
  | _, _, .non => .non
  | _, _, .bl b => .bl b
  | _, _, .int i => .int i
  | _, _, .str x => .str x
  | _, _, .lst h a => .lst (e _ _ h) (Rps.mono e a)
  | _, _, .tup h a => .tup (Same.seqT e h) (Rps.mono e a)
theorem Rps.mono {K : PySem.W.Frag} {F F' : Hp} (e : Same F F') : ∀ {vs : List V} {ds : List D}, Paired (Rp K F) vs ds → Paired (Rp K F') vs ds
  | _, _, .nil => .nil
  | _, _, .cons h t => .cons (Rp.mono e h) (Rps.mono e t)
end
mutual
theorem Rp.dp {K : PySem.W.Frag} {F : Hp} : ∀ {v : V} {d : D}, Rp K F v d → Dp K F v d
  | _, _, .non => .non
  | _, _, .bl b => .bl b
  | _, _, .int i => .int i
  | _, _, .str x => .str x
  | _, _, .lst h a => .lst (SqL.of h) (Rps.dp a)
  | _, _, .tup h a => .tup h (Rps.dp a)
theorem Rps.dp {K : PySem.W.Frag} {F : Hp} : ∀ {vs : List V} {ds : List D}, Paired (Rp K F) vs ds → DpAll K F vs ds
  | _, _, .nil => .nil
  | _, _, .cons h t => .cons (Rp.dp h) (Rps.dp t)
end
theorem Rps.len {K : PySem.W.Frag} {F : Hp} {vs : List V} {ds : List D} (h : Rps K F vs ds) : vs.length = ds.length := Paired.length h
theorem Rps.at_ {K : PySem.W.Frag} {F : Hp} : ∀ {vs : List V} {ds : List D} {i : Nat} {d : D}, Rps K F vs ds → ds[i]? = some d → ∃ v, vs[i]? = some v ∧ Rp K F v d
  | _, _, _, _, .nil, e => by simp at e
  | _, _, 0, _, .cons h t, e => by simp at e; subst e; exact ⟨_, rfl, h⟩
  | _, _, i + 1, d, .cons h t, e => by
    obtain ⟨v, e1, r⟩ := Rps.at_ (i := i) (d := d) t (by simpa using e)
    exact ⟨v, by simpa using e1, r⟩
theorem Rps.app {K : PySem.W.Frag} {F : Hp} : ∀ {vs us : List V} {ds es : List D}, Rps K F vs ds → Rps K F us es → Rps K F (vs ++ us) (ds ++ es)
  | _, _, _, _, .nil, s => s
  | _, _, _, _, .cons h t, s => .cons h (Rps.app t s)
theorem Rps.take {K : PySem.W.Frag} {F : Hp} : ∀ {vs : List V} {ds : List D} (n : Nat), Rps K F vs ds → Rps K F (vs.take n) (ds.take n)
  | _, _, 0, _ => .nil
  | _, _, _ + 1, .nil => .nil
  | _, _, n + 1, .cons h t => .cons h (Rps.take n t)
theorem Rps.drop {K : PySem.W.Frag} {F : Hp} : ∀ {vs : List V} {ds : List D} (n : Nat), Rps K F vs ds → Rps K F (vs.drop n) (ds.drop n)
  | _, _, 0, h => h
  | _, _, _ + 1, .nil => .nil
  | _, _, n + 1, .cons h t => Rps.drop n t
theorem Rps.set {K : PySem.W.Frag} {F : Hp} {v : V} {d : D} (r : Rp K F v d) : ∀ {vs : List V} {ds : List D} (n : Nat), Rps K F vs ds → Rps K F (vs.set n v) (ds.set n d)
  | _, _, _, .nil => .nil
  | _, _, 0, .cons h t => .cons r t
  | _, _, n + 1, .cons h t => .cons h (Rps.set r n t)
theorem Rps.dropLast {K : PySem.W.Frag} {F : Hp} {vs : List V} {ds : List D} (h : Rps K F vs ds) : Rps K F vs.dropLast ds.dropLast := by
  rw [List.dropLast_eq_take, List.dropLast_eq_take, h.len]
  exact Rps.take _ h
theorem Rps.rev {K : PySem.W.Frag} {F : Hp} : ∀ {vs : List V} {ds : List D}, Rps K F vs ds → Rps K F vs.reverse ds.reverse
  | _, _, .nil => .nil
  | _, _, .cons h t => by
    rw [List.reverse_cons, List.reverse_cons]
    exact Rps.app (Rps.rev t) (.cons h .nil)

/-! ### what stands in a slot -/
/-- an object that one slot alone holds -/
inductive O where
  | l (ds : List D)
  | k (kvs : List (Key × D))
def OR (K : PySem.W.Frag) (F : Hp) : O → HO → Prop
  | .l ds, .lst xs => Rps K F xs ds
  | .k kvs, .dK ks => Paired (fun (p : Key × V) (q : Key × D) => p.1 = q.1 ∧ Rp K F p.2 q.2) ks kvs
  | _, _ => False
theorem paired_imp {α β : Type} {P Q : α → β → Prop} (f : ∀ a b, P a b → Q a b) : ∀ {xs : List α} {ys : List β}, Paired P xs ys → Paired Q xs ys
  | _, _, .nil => .nil
  | _, _, .cons h t => .cons (f _ _ h) (paired_imp f t)
theorem OR.mono {K : PySem.W.Frag} {F F' : Hp} (e : Same F F') : ∀ {o : O} {h : HO}, OR K F o h → OR K F' o h
  | .l ds, h, r => by
    cases h <;> first | exact Rps.mono e r | exact r.elim
  | .k kvs, h, r => by
    cases h <;> first | exact paired_imp (fun a b z => ⟨z.1, z.2.mono e⟩) r | exact r.elim
/-- in a slot: nothing known, data, an object of its own (io: one that a caller lent) -/
inductive A where
  | und
  | dat (d : D)
  | own (io : Option Nat) (o : O)
def A.isOwn : A → Bool
  | .own _ _ => true
  | _ => false
/-- a def's entry: the data that stand, the heap, what the callers lent -/
structure Anc where
  K : PySem.W.Frag
  ios : List Addr
  F0 : Hp
  H0 : Hp
/-- which address: the k-th lent one, or one of the def's own making -/
def IoR (c : Anc) : Option Nat → Addr → Prop
  | some k, p => c.ios[k]? = some p
  | none, p => c.H0 p = none
def AR (c : Anc) (F H : Hp) : A → Option V → Prop
  | .und, _ => True
  | .dat d, some v => Rp c.K F v d
  | .own io o, some (.ref p) => IoR c io p ∧ F p = none ∧ ∃ h, H p = some h ∧ OR c.K F o h
  | _, _ => False
def Own (ρ : List A) (σ : St) (b : Addr) : Prop := ∃ (i : Nat) (a : A), ρ[i]? = some a ∧ a.isOwn = true ∧ σ[i]? = some (some (V.ref b))
structure SR (c : Anc) (F : Hp) (ρ : List A) (σ : St) (H : Hp) : Prop where
  le : Same F H
  ext : Same c.F0 F
  keep : ∀ b o, b ∉ c.ios → c.H0 b = some o → H b = some o
  new : ∀ b o, F b = some o → c.F0 b = some o ∨ c.H0 b = none
  iot : ∀ b ∈ c.ios, ∃ o, H b = some o ∧ Mut (some o)
  iof : ∀ b ∈ c.ios, F b = none
  ioh : ∀ b ∈ c.ios, ∃ o, c.H0 b = some o
  len : σ.length = ρ.length
  slot : ∀ (i : Nat) (a : A), ρ[i]? = some a → AR c F H a (σ[i]?.join)
  sep : ∀ (i j : Nat) (a b : A) (p : Addr), ρ[i]? = some a → a.isOwn = true → ρ[j]? = some b → b.isOwn = true → σ[i]? = some (some (V.ref p)) → σ[j]? = some (some (V.ref p)) → i = j
/-- from one moment to a later one, the slots as they are -/
structure Mv (ρ ρ' : List A) (σ : St) (F H F' H' : Hp) : Prop where
  ext : Same F F'
  keep : ∀ b o, H b = some o → ¬ Own ρ σ b → H' b = some o
  new : ∀ b o, F' b = some o → F b = some o ∨ H b = none ∨ Own ρ σ b
  sub : ∀ b, Own ρ' σ b → Own ρ σ b
theorem Mv.refl (ρ : List A) (σ : St) (F H : Hp) : Mv ρ ρ σ F H F H := ⟨fun _ _ h => h, fun _ _ h _ => h, fun _ _ h => .inl h, fun _ h => h⟩
theorem Mv.trans {ρ ρ1 ρ2 : List A} {σ : St} {F H F1 H1 F2 H2 : Hp} (a : Mv ρ ρ1 σ F H F1 H1) (b : Mv ρ1 ρ2 σ F1 H1 F2 H2) : Mv ρ ρ2 σ F H F2 H2 where
  ext := fun x o h => b.ext x o (a.ext x o h)
  keep := fun x o h n => b.keep x o (a.keep x o h n) fun z => n (a.sub x z)
  new := fun x o h => by
    rcases b.new x o h with h | h | h
    · exact a.new x o h
    · cases e : H x with
      | none => exact .inr (.inl rfl)
      | some o' =>
        by_cases z : Own ρ σ x
        · exact .inr (.inr z)
        · rw [a.keep x o' e z] at h
          cases h
    · exact .inr (.inr (a.sub x h))
  sub := fun x h => a.sub x (b.sub x h)

/-! ### what a part gives: a value and the slots, or an error of an own class -/
inductive Rs (α : Type) where
  | ok (a : α) (ρ : List A)
  | exc (n : Str) (d : D) (ρ : List A)
abbrev M (α : Type) := List A → Option (Rs α)
@[simp] def mpure {α : Type} (a : α) : M α := fun ρ => some (.ok a ρ)
@[simp] def mbind {α β : Type} (m : M α) (k : α → M β) : M β := fun ρ => match m ρ with
  | none => none
  | some (.ok a ρ') => k a ρ'
  | some (.exc n d ρ') => some (.exc n d ρ')
@[simp] def mfail {α : Type} : M α := fun _ => none
@[simp] def mwhen {α : Type} (c : Bool) (m : M α) : M α := fun ρ => if c = true then m ρ else none

/-- an error of the own class n in the air -/
def Air (c : Anc) (W : WX) (σ : St) (F' H' : Hp) (n : Str) (d : D) : Prop := ∀ dx v, H' dx = some (.xd [("value", v)]) → Rp c.K F' v d → W (.ref (He.ga c.K n)) (some dx) σ H'
def Post {α β : Type} (c : Anc) (W : WX) (B : Hp → β → α → Prop) (ρ : List A) (σ : St) (F H : Hp) (Q : β → Hp → Prop) : Rs α → Prop
  | .ok d ρ' => ∀ v F' H', SR c F' ρ' σ H' → Mv ρ ρ' σ F H F' H' → B F' v d → Q v H'
  | .exc n d ρ' => ∀ F' H', SR c F' ρ' σ H' → Mv ρ ρ' σ F H F' H' → Air c W σ F' H' n d
/-- THE READING of a part: at slots and a heap that tell ρ, f ρ is what comes -/
def rd {α β : Type} (c : Anc) (W : WX) (B : Hp → β → α → Prop) (f : M α) (σ : St) (H : Hp) (Q : β → Hp → Prop) : Prop :=
  ∃ F ρ r, SR c F ρ σ H ∧ f ρ = some r ∧ Post c W B ρ σ F H Q r
/-- the relation of an expression's value, of an argument list's, of a test's -/
abbrev BE (c : Anc) : Hp → V → D → Prop := fun F v d => Rp c.K F v d
abbrev BA (c : Anc) : Hp → List V → List D → Prop := fun F vs ds => Rps c.K F vs ds
abbrev BT : Hp → Bool → Bool → Prop := fun _ x y => x = y
abbrev rE (c : Anc) (W : WX) (f : M D) : TE := rd c W (BE c) f
abbrev rA (c : Anc) (W : WX) (f : M (List D)) : TA := rd c W (BA c) f
abbrev rT (c : Anc) (W : WX) (f : M Bool) : TT := rd c W BT f

theorem Post.mono {α β : Type} {c : Anc} {W : WX} {B : Hp → β → α → Prop} {ρ ρ1 : List A} {σ : St} {F H F1 H1 : Hp} {Q : β → Hp → Prop} {r : Rs α} (m : Mv ρ ρ1 σ F H F1 H1) (p : Post c W B ρ σ F H Q r) : Post c W B ρ1 σ F1 H1 Q r := by
  cases r with
  | ok d ρ' => exact fun v F' H' s m' b => p v F' H' s (m.trans m') b
  | exc n d ρ' => exact fun F' H' s m' => p F' H' s (m.trans m')
/-- one part, then another -/
theorem rd_bind {α β γ δ : Type} {c : Anc} {W : WX} {B : Hp → β → α → Prop} {B2 : Hp → δ → γ → Prop} {f : M α} {k : α → M γ} {σ : St} {H : Hp} {Q : δ → Hp → Prop} {R : β → Hp → Prop}
    (h : rd c W B2 (mbind f k) σ H Q) (hk : ∀ x v F1 H1 ρ1 r, SR c F1 ρ1 σ H1 → B F1 v x → k x ρ1 = some r → Post c W B2 ρ1 σ F1 H1 Q r → R v H1) : rd c W B f σ H R := by
  obtain ⟨F, ρ, r, s, e, p⟩ := h
  unfold mbind at e
  cases q : f ρ with
  | none =>
    rw [q] at e
    cases e
  | some r1 =>
    rw [q] at e
    cases r1 with
    | ok x ρ1 => exact ⟨F, ρ, _, s, q, fun v F1 H1 s1 m1 b1 => hk x v F1 H1 ρ1 r s1 b1 e (p.mono m1)⟩
    | exc n d ρ1 =>
      have e' : Rs.exc n d ρ1 = r := Option.some.inj e
      subst e'
      exact ⟨F, ρ, _, s, q, p⟩
/-- nothing more is done -/
theorem Post.here {α β : Type} {c : Anc} {W : WX} {B : Hp → β → α → Prop} {ρ : List A} {σ : St} {F H : Hp} {Q : β → Hp → Prop} {a : α} {v : β} (p : Post c W B ρ σ F H Q (.ok a ρ)) (s : SR c F ρ σ H) (b : B F v a) : Q v H :=
  p v F H s (Mv.refl _ _ _ _) b
/-- data laid at a free place -/
theorem SR.laid {c : Anc} {F : Hp} {ρ : List A} {σ : St} {H : Hp} {p : Addr} {o : HO} (s : SR c F ρ σ H) (n : H p = none) : SR c (upd F p o) ρ σ (upd H p o) ∧ Mv ρ ρ σ F H (upd F p o) (upd H p o) := by
  have nF : F p = none := by
    cases e : F p with
    | none => rfl
    | some x => rw [s.le _ _ e] at n; cases n
  have ne : ∀ {b x}, H b = some x → b ≠ p := fun {b x} h => ne_of_none h n
  have sF : Same F (upd F p o) := fun b x h => by rw [upd_ne (ne_of_none h nF)]; exact h
  refine ⟨⟨fun b x h => ?_, fun b x h => sF b x (s.ext b x h), fun b x hb h => ?_, fun b x h => ?_, fun b hb => ?_, fun b hb => ?_, s.ioh, s.len, fun i a h => ?_, s.sep⟩, ⟨sF, fun b x h _ => ?_, fun b x h => ?_, fun b h => h⟩⟩
  · by_cases e : b = p
    · subst e; rw [upd_same] at h ⊢; exact h
    · rw [upd_ne e] at h ⊢; exact s.le b x h
  · have q := s.keep b x hb h
    rw [upd_ne (ne q)]; exact q
  · by_cases e : b = p
    · subst e
      refine .inr ?_
      cases q : c.H0 b with
      | none => rfl
      | some y =>
        by_cases z : b ∈ c.ios
        · obtain ⟨y', e', _⟩ := s.iot b z
          rw [n] at e'; cases e'
        · rw [s.keep b y z q] at n; cases n
    · rw [upd_ne e] at h; exact s.new b x h
  · obtain ⟨x, e, m⟩ := s.iot b hb
    exact ⟨x, by rw [upd_ne (ne e)]; exact e, m⟩
  · obtain ⟨x, e, m⟩ := s.iot b hb
    rw [upd_ne (ne e)]
    exact s.iof b hb
  · have q := s.slot i a h
    cases a with
    | und => exact trivial
    | dat d =>
      cases e : σ[i]?.join with
      | none => rw [e] at q; exact q
      | some v => rw [e] at q; exact Rp.mono sF q
    | own io ob =>
      cases e : σ[i]?.join with
      | none => rw [e] at q; exact q
      | some v =>
        rw [e] at q
        cases v with
        | ref b =>
          obtain ⟨h1, h2, h3, h4, h5⟩ := q
          exact ⟨h1, by rw [upd_ne (ne h4)]; exact h2, h3, by rw [upd_ne (ne h4)]; exact h4, h5.mono sF⟩
        | _ => exact q
  · rw [upd_ne (ne h)]; exact h
  · by_cases e : b = p
    · subst e; exact .inr (.inl n)
    · rw [upd_ne e] at h; exact .inl h
end L2.DL

set_option maxHeartbeats 1000000
namespace L2.DL
open PySem PySem.Spec PyProof.Rows

/-! ### readings at a told moment -/
def rdAt {α β : Type} (c : Anc) (W : WX) (B : Hp → β → α → Prop) (f : M α) (F : Hp) (ρ : List A) (σ : St) (H : Hp) (Q : β → Hp → Prop) : Prop := ∃ r, f ρ = some r ∧ Post c W B ρ σ F H Q r
theorem rdAt.rd {α β : Type} {c : Anc} {W : WX} {B : Hp → β → α → Prop} {f : M α} {F : Hp} {ρ : List A} {σ : St} {H : Hp} {Q : β → Hp → Prop} (s : SR c F ρ σ H) (h : rdAt c W B f F ρ σ H Q) : rd c W B f σ H Q :=
  let ⟨r, e, p⟩ := h
  ⟨F, ρ, r, s, e, p⟩
theorem rd.at_ {α β : Type} {c : Anc} {W : WX} {B : Hp → β → α → Prop} {f : M α} {σ : St} {H : Hp} {Q : β → Hp → Prop} (h : rd c W B f σ H Q) : ∃ F ρ, SR c F ρ σ H ∧ rdAt c W B f F ρ σ H Q :=
  let ⟨F, ρ, r, s, e, p⟩ := h
  ⟨F, ρ, s, r, e, p⟩
theorem at_bind {α β γ δ : Type} {c : Anc} {W : WX} {B : Hp → β → α → Prop} {B2 : Hp → δ → γ → Prop} {f : M α} {k : α → M γ} {F : Hp} {ρ : List A} {σ : St} {H : Hp} {Q : δ → Hp → Prop} {R : β → Hp → Prop} (s : SR c F ρ σ H)
    (h : rdAt c W B2 (mbind f k) F ρ σ H Q) (hk : ∀ x v F1 H1 ρ1, SR c F1 ρ1 σ H1 → Mv ρ ρ1 σ F H F1 H1 → B F1 v x → rdAt c W B2 (k x) F1 ρ1 σ H1 Q → R v H1) : rdAt c W B f F ρ σ H R := by
  obtain ⟨r, e, p⟩ := h
  unfold mbind at e
  cases q : f ρ with
  | none =>
    rw [q] at e
    cases e
  | some r1 =>
    rw [q] at e
    cases r1 with
    | ok x ρ1 => exact ⟨_, q, fun v F1 H1 s1 m1 b1 => hk x v F1 H1 ρ1 s1 m1 b1 ⟨r, e, p.mono m1⟩⟩
    | exc n d ρ1 =>
      have e' : Rs.exc n d ρ1 = r := Option.some.inj e
      subst e'
      exact ⟨_, q, p⟩
/-- what is only reckoned from what is there -/
def mopt {α : Type} (o : Option α) : M α := fun ρ => o.map fun d => .ok d ρ
theorem at_opt {α β : Type} {c : Anc} {W : WX} {B : Hp → β → α → Prop} {o : Option α} {F : Hp} {ρ : List A} {σ : St} {H : Hp} {Q : β → Hp → Prop} (h : rdAt c W B (mopt o) F ρ σ H Q) :
    ∃ d, o = some d ∧ ∀ v F' H', SR c F' ρ σ H' → Mv ρ ρ σ F H F' H' → B F' v d → Q v H' := by
  obtain ⟨r, e, p⟩ := h
  unfold mopt at e
  cases o with
  | none => cases e
  | some d =>
    have e' : Rs.ok d ρ = r := Option.some.inj e
    subst e'
    exact ⟨d, rfl, p⟩
theorem at_pure {α β : Type} {c : Anc} {W : WX} {B : Hp → β → α → Prop} {a : α} {F : Hp} {ρ : List A} {σ : St} {H : Hp} {Q : β → Hp → Prop} (h : rdAt c W B (mpure a) F ρ σ H Q) :
    ∀ v F' H', SR c F' ρ σ H' → Mv ρ ρ σ F H F' H' → B F' v a → Q v H' := by
  obtain ⟨r, e, p⟩ := h
  have e' : Rs.ok a ρ = r := Option.some.inj e
  subst e'
  exact p

/-! ### judgements -/
section
variable {X : Cx}
theorem PE.imp {e : Expr} {t t' : TE} (h : PE X e t) (i : ∀ σ H Q, t' σ H Q → t σ H Q) : PE X e t' := ⟨fun pins s σ H Q I q => h.run pins s σ H Q I (i σ H Q q)⟩
theorem PT.imp {e : Expr} {t t' : TT} (h : PT X e t) (i : ∀ σ H Q, t' σ H Q → t σ H Q) : PT X e t' := ⟨fun pins s σ H Q I q => h.run pins s σ H Q I (i σ H Q q)⟩
theorem PW.imp {e : Expr} {t t' : TT} (h : PW X e t) (i : ∀ σ H Q, t' σ H Q → t σ H Q) : PW X e t' := ⟨fun w pins s σ H Q I q => h.run w pins s σ H Q I (i σ H Q q)⟩
theorem PA.imp {e : List Expr} {t t' : TA} (h : PA X e t) (i : ∀ σ H Q, t' σ H Q → t σ H Q) : PA X e t' := ⟨fun p pins s σ H Q I q => h.run p pins s σ H Q I (i σ H Q q)⟩
theorem PS.imp {e : Stmt} {t t' : TS} (h : PS X e t) (i : ∀ σ H Dn, t' Dn σ H → t Dn σ H) : PS X e t' := ⟨fun pins s σ H Dn I q => h.run pins s σ H Dn I (i σ H Dn q)⟩
theorem PSs.imp {e : List Stmt} {t t' : TS} (h : PSs X e t) (i : ∀ σ H Dn, t' Dn σ H → t Dn σ H) : PSs X e t' := ⟨fun pins s σ H Dn I q => h.run pins s σ H Dn I (i σ H Dn q)⟩
abbrev PD (c : Anc) (X : Cx) (W : WX) (e : Expr) (f : M D) : Prop := PE X e (rE c W f)
abbrev PDs (c : Anc) (X : Cx) (W : WX) (es : List Expr) (f : M (List D)) : Prop := PA X es (rA c W f)
abbrev PDt (c : Anc) (X : Cx) (W : WX) (e : Expr) (f : M Bool) : Prop := PT X e (rT c W f)
abbrev PDw (c : Anc) (X : Cx) (W : WX) (e : Expr) (f : M Bool) : Prop := PW X e (rT c W f)
variable {c : Anc} {W : WX} {a b : Expr} {fa fb : M D} {pos : Pos}

/-! ### constants -/
theorem at_const {β : Type} {B : Hp → β → D → Prop} {d : D} {σ : St} {H : Hp} {Q : β → Hp → Prop} {v : β} (b : ∀ F, B F v d) (h : rd c W B (mpure d) σ H Q) : Q v H := by
  obtain ⟨F, ρ, s, h⟩ := h.at_
  exact at_pure h v F H s (Mv.refl _ _ _ _) (b F)
theorem pd_int {i : Int} {j} : PD c X W (.Constant (.int i) j pos) (mpure (.int i)) := PE.imp pe_int fun _ _ _ h => at_const (fun _ => Rp.int i) h
theorem pd_bl {i : Bool} {j} : PD c X W (.Constant (.bool i) j pos) (mpure (.bool i)) := PE.imp pe_bl fun _ _ _ h => at_const (fun _ => Rp.bl i) h
theorem pd_non {j} : PD c X W (.Constant .none j pos) (mpure .none) := PE.imp pe_non fun _ _ _ h => at_const (fun _ => Rp.non) h
theorem pd_str {x : Str} {j} : PD c X W (.Constant (.str x) j pos) (mpure (.str x)) := PE.imp pe_str fun _ _ _ h => at_const (fun _ => Rp.str x) h

/-! ### names -/
/-- a list of the slot's own that is read as data is data from now on -/
def mvar (i : Nat) : M D := fun ρ => match ρ[i]? with
  | some (.dat d) => some (.ok d ρ)
  | some (.own none (.l ds)) => some (.ok (.list ds) (ρ.set i (.dat (.list ds))))
  | _ => none
theorem join_some {σ : St} {i : Nat} {v : V} (h : σ[i]?.join = some v) : σ[i]? = some (some v) := by
  cases e : σ[i]? with
  | none => rw [e] at h; cases h
  | some o => rw [e] at h; rw [show o = some v from h]
theorem AR.dat {F H : Hp} {d : D} {o : Option V} (h : AR c F H (.dat d) o) : ∃ v, o = some v ∧ Rp c.K F v d := by
  cases o with
  | none => exact h.elim
  | some v => exact ⟨v, rfl, h⟩
theorem AR.own {F H : Hp} {io : Option Nat} {ob : O} {o : Option V} (h : AR c F H (.own io ob) o) : ∃ p, o = some (V.ref p) ∧ IoR c io p ∧ F p = none ∧ ∃ h, H p = some h ∧ OR c.K F ob h := by
  cases o with
  | none => exact h.elim
  | some v => cases v with
    | ref p => exact ⟨p, rfl, h⟩
    | _ => exact h.elim
theorem SR.dat {F : Hp} {ρ : List A} {σ : St} {H : Hp} (s : SR c F ρ σ H) {i : Nat} {d : D} (e : ρ[i]? = some (.dat d)) : ∃ v, σ[i]? = some (some v) ∧ Rp c.K F v d := by
  obtain ⟨v, e1, r⟩ := (s.slot i _ e).dat
  exact ⟨v, join_some e1, r⟩
theorem SR.ownAt {F : Hp} {ρ : List A} {σ : St} {H : Hp} (s : SR c F ρ σ H) {i : Nat} {io : Option Nat} {ob : O} (e : ρ[i]? = some (.own io ob)) :
    ∃ p, σ[i]? = some (some (.ref p)) ∧ IoR c io p ∧ F p = none ∧ ∃ h, H p = some h ∧ OR c.K F ob h := by
  obtain ⟨p, e1, r⟩ := (s.slot i _ e).own
  exact ⟨p, join_some e1, r⟩
theorem AR.mono {F F' H : Hp} (e : Same F F') {a : A} {o : Option V} (h : AR c F H a o) (n : ∀ p, F p = none → o = some (V.ref p) → a.isOwn = true → F' p = none) : AR c F' H a o := by
  cases a with
  | und => exact trivial
  | dat d =>
    obtain ⟨v, rfl, r⟩ := h.dat
    exact Rp.mono e r
  | own io ob =>
    obtain ⟨p, rfl, h1, h2, h3, h4, h5⟩ := h.own
    exact ⟨h1, n p h2 rfl rfl, h3, h4, h5.mono e⟩
/-- the own list at a slot becomes data -/
theorem SR.freeze {F : Hp} {ρ : List A} {σ : St} {H : Hp} (s : SR c F ρ σ H) {i : Nat} {ds : List D} (e : ρ[i]? = some (.own none (.l ds))) :
    ∃ p F', σ[i]? = some (some (.ref p)) ∧ SR c F' (ρ.set i (.dat (.list ds))) σ H ∧ Mv ρ (ρ.set i (.dat (.list ds))) σ F H F' H ∧ Rp c.K F' (.ref p) (.list ds) := by
  obtain ⟨p, e1, h0, nF, o, hp, r⟩ := s.ownAt e
  have h0' : c.H0 p = none := h0
  cases o with
  | lst xs =>
    have r' : Rps c.K F xs ds := r
    have sF : Same F (upd F p (.lst xs)) := fun b x h => by rw [upd_ne (ne_of_none h nF)]; exact h
    have rp : Rp c.K (upd F p (.lst xs)) (.ref p) (.list ds) := .lst upd_same (Rps.mono sF r')
    have hi : i < ρ.length := (List.getElem?_eq_some_iff.mp e).1
    have nio : p ∉ c.ios := fun z => by
      obtain ⟨x, q⟩ := s.ioh p z
      rw [h0'] at q; cases q
    have back : ∀ {j : Nat} {a : A}, (ρ.set i (.dat (.list ds)))[j]? = some a → a.isOwn = true → ρ[j]? = some a ∧ j ≠ i := fun {j a} h ha => by
      by_cases z : i = j
      · subst z
        rw [List.getElem?_set_self hi] at h
        cases h
        cases ha
      · rw [List.getElem?_set_ne z] at h
        exact ⟨h, fun q => z q.symm⟩
    refine ⟨p, _, e1, ⟨fun b x h => ?_, fun b x h => sF b x (s.ext b x h), s.keep, fun b x h => ?_, s.iot, fun b hb => ?_, s.ioh, by rw [List.length_set]; exact s.len, fun j a h => ?_, fun j k a b' q h1 h2 h3 h4 h5 h6 => ?_⟩, ⟨sF, fun b x h _ => h, fun b x h => ?_, fun b ⟨j, a, h1, h2, h3⟩ => ⟨j, a, (back h1 h2).1, h2, h3⟩⟩, rp⟩
    · by_cases z : b = p
      · subst z; rw [upd_same] at h; rw [hp]; exact h
      · rw [upd_ne z] at h; exact s.le b x h
    · by_cases z : b = p
      · subst z; exact .inr h0'
      · rw [upd_ne z] at h; exact s.new b x h
    · rw [upd_ne (fun z => nio (by rw [← z]; exact hb))]; exact s.iof b hb
    · by_cases z : i = j
      · subst z
        rw [List.getElem?_set_self hi] at h
        cases h
        rw [e1]
        exact rp
      · rw [List.getElem?_set_ne z] at h
        refine (s.slot j a h).mono sF fun q nq eq ha => ?_
        rw [upd_ne (fun y => ?_)]; exact nq
        subst y
        exact z (s.sep i j _ a q e rfl h ha e1 (join_some eq))
    · exact s.sep j k a b' q (back h1 h2).1 h2 (back h3 h4).1 h4 h5 h6
    · by_cases z : b = p
      · subst z; exact .inr (.inr ⟨i, _, e, rfl, e1⟩)
      · rw [upd_ne z] at h; exact .inl h
  | _ => exact r.elim
theorem pd_var (i : Nat) {x : Str} (hN : X.N[i]? = some x := by rfl) (hv : Vis X.env.scope x := by first | exact Or.inl rfl | exact Or.inr (Or.inl rfl) | exact Or.inr (Or.inr rfl)) (hd : (x == ("__debug__" : Str)) = false := by decide)
    (hcd : (x == ("__classdict__" : Str)) = false := by decide) : PD c X W (.Name x pos) (mvar i) := by
  refine PE.imp (pe_var hN hv hd hcd) fun σ H Q h => ?_
  obtain ⟨F, ρ, s, r, e, p⟩ := h.at_
  unfold mvar at e
  cases q : ρ[i]? with
  | none => rw [q] at e; cases e
  | some a =>
    rw [q] at e
    cases a with
    | und => cases e
    | dat d =>
      have e' : Rs.ok d ρ = r := Option.some.inj e
      subst e'
      obtain ⟨v, e1, rv⟩ := s.dat q
      exact ⟨v, e1, p.here s rv⟩
    | own io o =>
      cases io with
      | some k => cases e
      | none =>
        cases o with
        | k _ => cases e
        | l ds =>
          have e' : Rs.ok (.list ds) _ = r := Option.some.inj e
          subst e'
          obtain ⟨v, F', e1, s', m', rv⟩ := s.freeze q
          exact ⟨_, e1, p _ F' H s' m' rv⟩

/-! ### operators -/
def OpS (c : Anc) (r : R2) (g : D → D → Option D) : Prop := ∀ (F : Hp) (ρ : List A) (σ : St) (H : Hp) (x y : V) (d e z : D) (Q : VK), SR c F ρ σ H → Rp c.K F x d → Rp c.K F y e → g d e = some z →
  (∀ v F' H', SR c F' ρ σ H' → Mv ρ ρ σ F H F' H' → Rp c.K F' v z → Q v H') → r x y H Q
def mop (g : D → D → Option D) (fa fb : M D) : M D := mbind fa fun x => mbind fb fun y => mopt (g x y)
theorem t_op {r : R2} {g : D → D → Option D} (hs : OpS c r g) {σ : St} {H : Hp} {Q : VK} (h : rE c W (mop g fa fb) σ H Q) : tOp r (rE c W fa) (rE c W fb) σ H Q := by
  obtain ⟨F, ρ, s, h⟩ := h.at_
  refine (at_bind s h fun x v F1 H1 ρ1 s1 m1 b1 h1 => (at_bind s1 h1 fun y u F2 H2 ρ2 s2 m2 b2 h2 => ?_).rd s1).rd s
  obtain ⟨z, e, p⟩ := at_opt h2
  exact hs F2 ρ2 σ H2 v u x y z Q s2 (Rp.mono m2.ext b1) b2 e p
theorem pd_op {op : Operator} {r : R2} {g : D → D → Option D} (ho : OpR X (binaryOp op) r) (hs : OpS c r g) (ha : PD c X W a fa) (hb : PD c X W b fb) : PD c X W (.BinOp a op b pos) (mop g fa fb) :=
  PE.imp (pe_op ho ha hb) fun _ _ _ h => t_op hs h
theorem pd_cmp {op : CmpOp} {r : R2} {g : D → D → Option D} (ho : OpR X (compareOp op) r) (hs : OpS c r g) (ha : PD c X W a fa) (hb : PD c X W b fb) (hm : behindInMarks op b = false) : PD c X W (.Compare a [op] [b] pos) (mop g fa fb) :=
  PE.imp (pe_cmpR ho ha hb hm) fun _ _ _ h => t_op hs h
theorem OpS.or {r r' : R2} {g g' : D → D → Option D} (h : OpS c r g) (h' : OpS c r' g') : OpS c (fun x y H Q => r x y H Q ∨ r' x y H Q) (fun d e => (g d e).or (g' d e)) := by
  intro F ρ σ H x y d e z Q s rx ry eq q
  cases e1 : g d e with
  | some z1 =>
    have e2 : (some z1).or (g' d e) = some z := by rw [← e1]; exact eq
    have e3 : z1 = z := Option.some.inj e2
    subst e3
    exact .inl (h F ρ σ H x y d e z1 Q s rx ry e1 q)
  | none =>
    have e2 : (none : Option D).or (g' d e) = some z := by rw [← e1]; exact eq
    exact .inr (h' F ρ σ H x y d e z Q s rx ry e2 q)
def g2I (C : Int → Int → Bool) (g : Int → Int → D) : D → D → Option D
  | .int i, .int j => if C i j = true then some (g i j) else none
  | _, _ => none
theorem s_I {C : Int → Int → Bool} {Cp : Int → Int → Prop} {g : Int → Int → D} {gv : Int → Int → V} (hc : ∀ i j, C i j = true → Cp i j) (hg : ∀ F i j, Rp c.K F (gv i j) (g i j)) : OpS c (rI Cp gv) (g2I C g) := by
  intro F ρ σ H x y d e z Q s rx ry eq q
  cases rx <;> try (simp [g2I] at eq; done)
  cases ry <;> try (simp [g2I] at eq; done)
  rename_i i j
  have eq : (if C i j = true then some (g i j) else none) = some z := eq
  by_cases hC : C i j = true
  · rw [if_pos hC] at eq
    cases eq
    exact ⟨i, j, rfl, rfl, hc i j hC, q _ F H s (Mv.refl _ _ _ _) (hg F i j)⟩
  · rw [if_neg hC] at eq
    cases eq
theorem s_I0 {g : Int → Int → D} {gv : Int → Int → V} (hg : ∀ F i j, Rp c.K F (gv i j) (g i j)) : OpS c (rI0 gv) (g2I (fun _ _ => true) g) := by
  intro F ρ σ H x y d e z Q s rx ry eq q
  obtain ⟨i, j, h1, h2, _, h3⟩ := s_I (c := c) (C := fun _ _ => true) (Cp := fun _ _ => True) (g := g) (gv := gv) (fun _ _ _ => trivial) hg F ρ σ H x y d e z Q s rx ry eq q
  exact ⟨i, j, h1, h2, h3⟩
end
end L2.DL

set_option maxHeartbeats 1000000
namespace L2.DL
open PySem PySem.Spec PyProof.Rows
section
variable {X : Cx} {c : Anc} {W : WX} {a b : Expr} {fa fb : M D} {pos : Pos}
/-! ### the operators -/
def gAddI : D → D → Option D := g2I (fun _ _ => true) fun i j => .int (i + j)
def gAddS : D → D → Option D
  | .str x, .str y => if x.length + y.length ≤ sizeLine then some (.str (x ++ y)) else none
  | _, _ => none
def gAddT : D → D → Option D
  | .tuple x, .tuple y => if x.length + y.length ≤ sizeLine then some (.tuple (x ++ y)) else none
  | _, _ => none
def gAddL : D → D → Option D
  | .list x, .list y => if x.length + y.length ≤ sizeLine then some (.list (x ++ y)) else none
  | _, _ => none
theorem s_addS : OpS c (fun x y H Q => ∃ i j, x = .str i ∧ y = .str j ∧ i.length + j.length ≤ sizeLine ∧ Q (.str (i ++ j)) H) gAddS := by
  intro F ρ σ H x y d e z Q s rx ry eq q
  cases rx <;> try (simp [gAddS] at eq; done)
  cases ry <;> try (simp [gAddS] at eq; done)
  rename_i i j
  have eq : (if i.length + j.length ≤ sizeLine then some (PyData.str (i ++ j)) else none) = some z := eq
  by_cases hC : i.length + j.length ≤ sizeLine
  · rw [if_pos hC] at eq
    cases eq
    exact ⟨i, j, rfl, rfl, hC, q _ F H s (Mv.refl _ _ _ _) (.str _)⟩
  · rw [if_neg hC] at eq
    cases eq
/-- a new tuple, a new list of data -/
theorem new_tup {F : Hp} {ρ : List A} {σ : St} {H : Hp} {p : Addr} {xs : List V} {ds : List D} (s : SR c F ρ σ H) (n : H p = none) (r : Rps c.K F xs ds) :
    SR c (upd F p (.tup xs)) ρ σ (upd H p (.tup xs)) ∧ Mv ρ ρ σ F H (upd F p (.tup xs)) (upd H p (.tup xs)) ∧ Rp c.K (upd F p (.tup xs)) (.ref p) (.tuple ds) :=
  let ⟨s', m'⟩ := s.laid (o := .tup xs) n
  ⟨s', m', .tup (SqT.of upd_same) (Rps.mono m'.ext r)⟩
theorem new_lst {F : Hp} {ρ : List A} {σ : St} {H : Hp} {p : Addr} {xs : List V} {ds : List D} (s : SR c F ρ σ H) (n : H p = none) (r : Rps c.K F xs ds) :
    SR c (upd F p (.lst xs)) ρ σ (upd H p (.lst xs)) ∧ Mv ρ ρ σ F H (upd F p (.lst xs)) (upd H p (.lst xs)) ∧ Rp c.K (upd F p (.lst xs)) (.ref p) (.list ds) :=
  let ⟨s', m'⟩ := s.laid (o := .lst xs) n
  ⟨s', m', .lst upd_same (Rps.mono m'.ext r)⟩
theorem s_addT (hK : X.K = c.K) : OpS c (rCatA X.K) gAddT := by
  intro F ρ σ H x y d e z Q s rx ry eq q
  rw [hK]
  cases rx <;> try (simp [gAddT] at eq; done)
  cases ry <;> try (simp [gAddT] at eq; done)
  rename_i a xs ds ha ra b ys es hb rb
  have eq : (if ds.length + es.length ≤ sizeLine then some (PyData.tuple (ds ++ es)) else none) = some z := eq
  by_cases hC : ds.length + es.length ≤ sizeLine
  · rw [if_pos hC] at eq
    cases eq
    have l1 := Rps.len ra
    have l2 := Rps.len rb
    refine ⟨a, b, xs, ys, rfl, rfl, Same.seqT s.le ha, Same.seqT s.le hb, by omega, fun e => ?_, fun e1 e2 => ?_, fun e1 e2 p np => ?_⟩
    · subst e
      cases ra
      exact q _ F H s (Mv.refl _ _ _ _) (.tup hb rb)
    · subst e2
      cases rb
      rw [List.append_nil] at q
      exact q _ F H s (Mv.refl _ _ _ _) (.tup ha ra)
    · obtain ⟨s', m', r'⟩ := new_tup s np (Rps.app ra rb)
      exact q _ _ _ s' m' r'
  · rw [if_neg hC] at eq
    cases eq
theorem s_addL : OpS c rCat gAddL := by
  intro F ρ σ H x y d e z Q s rx ry eq q
  cases rx <;> try (simp [gAddL] at eq; done)
  cases ry <;> try (simp [gAddL] at eq; done)
  rename_i a xs ds ha ra b ys es hb rb
  have eq : (if ds.length + es.length ≤ sizeLine then some (PyData.list (ds ++ es)) else none) = some z := eq
  by_cases hC : ds.length + es.length ≤ sizeLine
  · rw [if_pos hC] at eq
    cases eq
    have l1 := Rps.len ra
    have l2 := Rps.len rb
    refine ⟨a, b, xs, ys, rfl, rfl, s.le _ _ ha, s.le _ _ hb, by omega, fun p np => ?_⟩
    obtain ⟨s', m', r'⟩ := new_lst s np (Rps.app ra rb)
    exact q _ _ _ s' m' r'
  · rw [if_neg hC] at eq
    cases eq
def gAdd (x y : D) : Option D := (gAddI x y).or ((gAddS x y).or ((gAddT x y).or (gAddL x y)))
theorem pd_add (ha : PD c X W a fa) (hb : PD c X W b fb) (hK : X.K = c.K := by rfl) : PD c X W (.BinOp a .Add b pos) (mop gAdd fa fb) :=
  pd_op (.or op_add (.or op_add_str (.or op_catA op_cat))) (.or (s_I0 fun _ _ _ => .int _) (.or s_addS (.or (s_addT hK) s_addL))) ha hb
def gSubI : D → D → Option D := g2I (fun _ _ => true) fun i j => .int (i - j)
def gSubB : D → D → Option D
  | .bool a, .bool b => some (.int (b2i a - b2i b))
  | _, _ => none
def gSub (x y : D) : Option D := (gSubI x y).or (gSubB x y)
theorem op_subB : OpR X (binaryOp .Sub) (fun x y H Q => ∃ a b, x = .bl a ∧ y = .bl b ∧ Q (.int (b2i a - b2i b)) H) := by
  intro pins s σ H x y v u Q I rx ry ⟨a, b, e1, e2, q⟩
  subst e1 e2
  cases rx
  cases ry
  exact sub_bool ⟨.int (b2i a - b2i b), H, I.tok _, ⟨_, rfl⟩, q⟩
theorem s_subB : OpS c (fun x y H Q => ∃ a b, x = .bl a ∧ y = .bl b ∧ Q (.int (b2i a - b2i b)) H) gSubB := by
  intro F ρ σ H x y d e z Q s rx ry eq q
  cases rx <;> try (simp [gSubB] at eq; done)
  cases ry <;> try (simp [gSubB] at eq; done)
  cases eq
  exact ⟨_, _, rfl, rfl, q _ F H s (Mv.refl _ _ _ _) (.int _)⟩
theorem pd_sub (ha : PD c X W a fa) (hb : PD c X W b fb) : PD c X W (.BinOp a .Sub b pos) (mop gSub fa fb) := pd_op (.or op_sub op_subB) (.or (s_I0 fun _ _ _ => .int _) s_subB) ha hb
/-- a product: below a million bits -/
def cMul (i j : Int) : Bool := decide (i.natAbs.log2 + j.natAbs.log2 < 1000000)
def gMul : D → D → Option D := g2I cMul fun i j => .int (i * j)
theorem pd_mul (ha : PD c X W a fa) (hb : PD c X W b fb) : PD c X W (.BinOp a .Mult b pos) (mop gMul fa fb) := pd_op op_mulW (s_I (Cp := CMulW) (fun i j h => show i.natAbs.log2 + j.natAbs.log2 < 1000000 from of_decide_eq_true h) fun _ _ _ => .int _) ha hb
def gMod : D → D → Option D := g2I (fun _ j => decide (0 < j)) fun i j => .int (i % j)
theorem pd_mod (ha : PD c X W a fa) (hb : PD c X W b fb) : PD c X W (.BinOp a .Mod b pos) (mop gMod fa fb) := pd_op op_mod (s_I (fun _ _ h => of_decide_eq_true h) fun _ _ _ => .int _) ha hb
def cDiv (j : Int) : Bool := decide (0 < j) && decide (j.natAbs.log2 < 9000)
def gDiv : D → D → Option D := g2I (fun _ j => cDiv j) fun i j => .int (i / j)
theorem pd_div (ha : PD c X W a fa) (hb : PD c X W b fb) : PD c X W (.BinOp a .FloorDiv b pos) (mop gDiv fa fb) :=
  pd_op op_fdivW (s_I (fun _ j h => ⟨of_decide_eq_true (Bool.and_eq_true_iff.mp h).1, of_decide_eq_true (Bool.and_eq_true_iff.mp h).2⟩) fun _ _ _ => .int _) ha hb
def cPow (i j : Int) : Bool := decide (0 ≤ j) && (decide (j ≤ 1000000) && decide (i.natAbs < 2 ^ 64))
def gPow : D → D → Option D := g2I cPow fun i j => .int (i ^ j.toNat)
theorem pd_pow (ha : PD c X W a fa) (hb : PD c X W b fb) : PD c X W (.BinOp a .Pow b pos) (mop gPow fa fb) :=
  pd_op op_pow (s_I (fun i j h => by
    obtain ⟨h1, h2⟩ := Bool.and_eq_true_iff.mp h
    obtain ⟨h2, h3⟩ := Bool.and_eq_true_iff.mp h2
    exact ⟨of_decide_eq_true h1, of_decide_eq_true h2, of_decide_eq_true h3⟩) fun _ _ _ => .int _) ha hb
def mneg (f : M D) : M D := mbind f fun x => match x with
  | .int i => mpure (.int (-i))
  | _ => mfail
theorem pd_neg (ha : PD c X W a fa) : PD c X W (.UnaryOp .USub a pos) (mneg fa) := by
  refine PE.imp (pe_un un_neg ha) fun σ H Q h => ?_
  obtain ⟨F, ρ, s, h⟩ := h.at_
  refine (at_bind s h fun x v F1 H1 ρ1 s1 m1 b1 h1 => ?_).rd s
  cases b1 with
  | int i => exact ⟨i, rfl, at_pure h1 _ F1 H1 s1 (Mv.refl _ _ _ _) (.int _)⟩
  | _ =>
    obtain ⟨r, e, _⟩ := h1
    cases e
/-! ### comparisons -/
def gEq (x y : D) : Option D := if SeqAt.shaped x = true ∧ SeqAt.shaped y = true then some (.bool (PyData.eqv x y)) else none
def gNe (x y : D) : Option D := if SeqAt.shaped x = true ∧ SeqAt.shaped y = true then some (.bool (!PyData.eqv x y)) else none
theorem s_eq (hK : X.K = c.K) : OpS c (rEqD X.K) gEq := by
  intro F ρ σ H x y d e z Q s rx ry eq q
  rw [hK]
  unfold gEq at eq
  by_cases hC : SeqAt.shaped d = true ∧ SeqAt.shaped e = true
  · rw [if_pos hC] at eq
    cases eq
    exact ⟨d, e, (Rp.mono s.le rx).dp, (Rp.mono s.le ry).dp, hC.1, hC.2, q _ F H s (Mv.refl _ _ _ _) (.bl _)⟩
  · rw [if_neg hC] at eq
    cases eq
theorem s_ne (hK : X.K = c.K) : OpS c (rNeD X.K) gNe := by
  intro F ρ σ H x y d e z Q s rx ry eq q
  rw [hK]
  unfold gNe at eq
  by_cases hC : SeqAt.shaped d = true ∧ SeqAt.shaped e = true
  · rw [if_pos hC] at eq
    cases eq
    exact ⟨d, e, (Rp.mono s.le rx).dp, (Rp.mono s.le ry).dp, hC.1, hC.2, q _ F H s (Mv.refl _ _ _ _) (.bl _)⟩
  · rw [if_neg hC] at eq
    cases eq
theorem pd_eq {k : Nat} (hr : Room k X.A) (ha : PD c X W a fa) (hb : PD c X W b fb) (hK : X.K = c.K := by rfl) : PD c X W (.Compare a [.Eq] [b] pos) (mop gEq fa fb) := pd_cmp (op_eqD hr.units) (s_eq hK) ha hb (nomark _)
theorem pd_ne {k : Nat} (hr : Room k X.A) (ha : PD c X W a fa) (hb : PD c X W b fb) (hK : X.K = c.K := by rfl) : PD c X W (.Compare a [.NotEq] [b] pos) (mop gNe fa fb) := pd_cmp (op_neD hr.units) (s_ne hK) ha hb (nomark _)
def g2S (g : Str → Str → D) : D → D → Option D
  | .str i, .str j => some (g i j)
  | _, _ => none
theorem s_S {g : Str → Str → D} {gv : Str → Str → V} (hg : ∀ F i j, Rp c.K F (gv i j) (g i j)) : OpS c (fun x y H Q => ∃ i j, x = .str i ∧ y = .str j ∧ Q (gv i j) H) (g2S g) := by
  intro F ρ σ H x y d e z Q s rx ry eq q
  cases rx <;> try (simp [g2S] at eq; done)
  cases ry <;> try (simp [g2S] at eq; done)
  rename_i i j
  have eq : some (g i j) = some z := eq
  cases eq
  exact ⟨i, j, rfl, rfl, q _ F H s (Mv.refl _ _ _ _) (hg F i j)⟩
def gLt (x y : D) : Option D := (g2I (fun _ _ => true) (fun i j => .bool (decide (i < j))) x y).or (g2S (fun i j => .bool (decide (i.cps.toList < j.cps.toList))) x y)
theorem pd_lt (ha : PD c X W a fa) (hb : PD c X W b fb) : PD c X W (.Compare a [.Lt] [b] pos) (mop gLt fa fb) := pd_cmp (.or op_lt op_lt_str) (.or (s_I0 fun _ _ _ => .bl _) (s_S fun _ _ _ => .bl _)) ha hb (nomark _)
def gLe : D → D → Option D := g2I (fun _ _ => true) fun i j => .bool (decide (i ≤ j))
def gGt : D → D → Option D := g2I (fun _ _ => true) fun i j => .bool (decide (j < i))
def gGe : D → D → Option D := g2I (fun _ _ => true) fun i j => .bool (decide (j ≤ i))
theorem pd_le (ha : PD c X W a fa) (hb : PD c X W b fb) : PD c X W (.Compare a [.LtE] [b] pos) (mop gLe fa fb) := pd_cmp op_le (s_I0 fun _ _ _ => .bl _) ha hb (nomark _)
theorem pd_gt (ha : PD c X W a fa) (hb : PD c X W b fb) : PD c X W (.Compare a [.Gt] [b] pos) (mop gGt fa fb) := pd_cmp op_gt (s_I0 fun _ _ _ => .bl _) ha hb (nomark _)
theorem pd_ge (ha : PD c X W a fa) (hb : PD c X W b fb) : PD c X W (.Compare a [.GtE] [b] pos) (mop gGe fa fb) := pd_cmp op_ge (s_I0 fun _ _ _ => .bl _) ha hb (nomark _)
def isNon : D → Bool
  | .none => true
  | _ => false
theorem rp_non {F : Hp} {v : V} {d : D} (r : Rp c.K F v d) : decide (v = .non) = isNon d := by
  cases r <;> rfl
/-- a is None: b the constant -/
def mis (fa : M D) : M D := mbind fa fun x => mpure (.bool (isNon x))
def misnt (fa : M D) : M D := mbind fa fun x => mpure (.bool (!isNon x))
theorem pd_isN {j pos'} (ha : PD c X W a fa) : PD c X W (.Compare a [.Is] [.Constant .none j pos'] pos) (mis fa) := by
  refine PE.imp (pe_cmp (pc_isN ha)) fun σ H Q h => ?_
  obtain ⟨F, ρ, s, h⟩ := h.at_
  refine (at_bind s h fun x v F1 H1 ρ1 s1 m1 b1 h1 => ?_).rd s
  rw [rp_non b1]
  exact at_pure h1 _ F1 H1 s1 (Mv.refl _ _ _ _) (.bl _)
theorem pd_isntN {j pos'} (ha : PD c X W a fa) : PD c X W (.Compare a [.IsNot] [.Constant .none j pos'] pos) (misnt fa) := by
  refine PE.imp (pe_cmp (pc_notN ha)) fun σ H Q h => ?_
  obtain ⟨F, ρ, s, h⟩ := h.at_
  refine (at_bind s h fun x v F1 H1 ρ1 s1 m1 b1 h1 => ?_).rd s
  rw [rp_non b1]
  exact at_pure h1 _ F1 H1 s1 (Mv.refl _ _ _ _) (.bl _)
/-! ### truth, tests, and, or, not -/
def tru : D → Option Bool
  | .none => some false
  | .bool b => some b
  | .int i => some (i != 0)
  | .str x => if x.length ≤ sizeLine then some ((x.length : Int) != 0) else none
  | .list xs => some (!xs.isEmpty)
  | .tuple xs => some (!xs.isEmpty)
  | .dict _ => none
theorem paired_empty {α β : Type} {P : α → β → Prop} {xs : List α} {ys : List β} (h : Paired P xs ys) : xs.isEmpty = ys.isEmpty := by
  cases h <;> rfl
theorem tru_v (hK : X.K = c.K) {F : Hp} {ρ : List A} {σ : St} {H : Hp} {v : V} {d : D} {k : Bool} (s : SR c F ρ σ H) (r : Rp c.K F v d) (e : tru d = some k) : TruV X.K v H k := by
  rw [hK]
  cases r with
  | non => cases e; rfl
  | bl b => cases e; rfl
  | int i => cases e; rfl
  | str x =>
    have e : (if x.length ≤ sizeLine then some ((x.length : Int) != 0) else none) = some k := e
    by_cases hx : x.length ≤ sizeLine
    · rw [if_pos hx] at e
      cases e
      exact ⟨hx, rfl⟩
    · rw [if_neg hx] at e
      cases e
  | lst ha ra =>
    cases e
    exact .inl ⟨_, SqL.of (s.le _ _ ha), by rw [paired_empty ra]⟩
  | tup ha ra =>
    cases e
    exact .inr (.inl ⟨_, Same.seqT s.le ha, by rw [paired_empty ra]⟩)
def mtru (f : M D) : M Bool := mbind f fun x => mopt (tru x)
theorem pt_tru (ha : PD c X W a fa) (he : ∀ whole, isTrue a X.env whole = (do let v ← whole; standAt a.pos; holding [v] (truthy v)) := by intro _; rfl) (hK : X.K = c.K := by rfl) : PDt c X W a (mtru fa) := by
  refine PT.imp (pt_truth ha he) fun σ H Q h => ?_
  obtain ⟨F, ρ, s, h⟩ := h.at_
  refine (at_bind s h fun x v F1 H1 ρ1 s1 m1 b1 h1 => ?_).rd s
  obtain ⟨k, e, p⟩ := at_opt h1
  exact ⟨k, tru_v hK s1 b1 e, p k F1 H1 s1 (Mv.refl _ _ _ _) rfl⟩
/-- a comparison as a test -/
def mtst (f : M D) : M Bool := mbind f fun x => match x with
  | .bool b => mpure b
  | _ => mfail
theorem tst {σ : St} {H : Hp} {Q : Bool → Hp → Prop} (h : rT c W (mtst fa) σ H Q) : rE c W fa σ H fun x H' => ∃ k, x = .bl k ∧ Q k H' := by
  obtain ⟨F, ρ, s, h⟩ := h.at_
  refine (at_bind s h fun x v F1 H1 ρ1 s1 m1 b1 h1 => ?_).rd s
  cases b1 with
  | bl b => exact ⟨b, rfl, at_pure h1 _ F1 H1 s1 (Mv.refl _ _ _ _) rfl⟩
  | _ =>
    obtain ⟨r, e, _⟩ := h1
    cases e
theorem pt_rel {op : CmpOp} {r : R2} {g : D → D → Option D} (ho : OpR X (compareOp op) r) (hs : OpS c r g) (ha : PD c X W a fa) (hb : PD c X W b fb) (hm : behindInMarks op b = false) : PDt c X W (.Compare a [op] [b] pos) (mtst (mop g fa fb)) :=
  PT.imp (pt_cmpR ho ha hb hm) fun σ H Q h => t_op hs (tst h)
end
end L2.DL

set_option maxHeartbeats 1000000
namespace L2.DL
open PySem PySem.Spec PyProof.Rows
section
variable {X : Cx} {c : Anc} {W : WX} {a b e : Expr} {es : List Expr} {fa fb : M D} {pos : Pos}
theorem pt_eq {k : Nat} (hr : Room k X.A) (ha : PD c X W a fa) (hb : PD c X W b fb) (hK : X.K = c.K := by rfl) : PDt c X W (.Compare a [.Eq] [b] pos) (mtst (mop gEq fa fb)) := pt_rel (op_eqD hr.units) (s_eq hK) ha hb (nomark _)
theorem pt_ne {k : Nat} (hr : Room k X.A) (ha : PD c X W a fa) (hb : PD c X W b fb) (hK : X.K = c.K := by rfl) : PDt c X W (.Compare a [.NotEq] [b] pos) (mtst (mop gNe fa fb)) := pt_rel (op_neD hr.units) (s_ne hK) ha hb (nomark _)
theorem pt_lt (ha : PD c X W a fa) (hb : PD c X W b fb) : PDt c X W (.Compare a [.Lt] [b] pos) (mtst (mop gLt fa fb)) := pt_rel (.or op_lt op_lt_str) (.or (s_I0 fun _ _ _ => .bl _) (s_S fun _ _ _ => .bl _)) ha hb (nomark _)
theorem pt_le (ha : PD c X W a fa) (hb : PD c X W b fb) : PDt c X W (.Compare a [.LtE] [b] pos) (mtst (mop gLe fa fb)) := pt_rel op_le (s_I0 fun _ _ _ => .bl _) ha hb (nomark _)
theorem pt_gt (ha : PD c X W a fa) (hb : PD c X W b fb) : PDt c X W (.Compare a [.Gt] [b] pos) (mtst (mop gGt fa fb)) := pt_rel op_gt (s_I0 fun _ _ _ => .bl _) ha hb (nomark _)
theorem pt_ge (ha : PD c X W a fa) (hb : PD c X W b fb) : PDt c X W (.Compare a [.GtE] [b] pos) (mtst (mop gGe fa fb)) := pt_rel op_ge (s_I0 fun _ _ _ => .bl _) ha hb (nomark _)
theorem t_isN {σ : St} {H : Hp} {Q : Bool → Hp → Prop} {g : D → D} (h : rT c W (mtst (mbind fa fun x => mpure (g x))) σ H Q) : rE c W (mbind fa fun x => mpure (g x)) σ H fun x H1 => ∃ k, x = .bl k ∧ Q k H1 := tst h
theorem pt_isN {j pos'} (ha : PD c X W a fa) : PDt c X W (.Compare a [.Is] [.Constant .none j pos'] pos) (mtst (mis fa)) := by
  refine PT.imp (pt_cmp (pc_isN ha)) fun σ H Q h => ?_
  obtain ⟨F, ρ, s, h⟩ := (tst h).at_
  refine (at_bind s h fun x v F1 H1 ρ1 s1 m1 b1 h1 => ?_).rd s
  rw [rp_non b1]
  exact at_pure h1 _ F1 H1 s1 (Mv.refl _ _ _ _) (.bl _)
theorem pt_isntN {j pos'} (ha : PD c X W a fa) : PDt c X W (.Compare a [.IsNot] [.Constant .none j pos'] pos) (mtst (misnt fa)) := by
  refine PT.imp (pt_cmp (pc_notN ha)) fun σ H Q h => ?_
  obtain ⟨F, ρ, s, h⟩ := (tst h).at_
  refine (at_bind s h fun x v F1 H1 ρ1 s1 m1 b1 h1 => ?_).rd s
  rw [rp_non b1]
  exact at_pure h1 _ F1 H1 s1 (Mv.refl _ _ _ _) (.bl _)

/-! ### and, or, not as tests -/
variable {ga gb : M Bool} {rest : List Expr}
def mand (f g : M Bool) : M Bool := mbind f fun x => if x = true then g else mpure false
def mor (f g : M Bool) : M Bool := mbind f fun x => if x = true then mpure true else g
def mnot (f : M Bool) : M Bool := mbind f fun x => mpure (!x)
theorem bt_pure {σ : St} {H F : Hp} {ρ : List A} {Q : Bool → Hp → Prop} {k : Bool} (s : SR c F ρ σ H) (h : rdAt c W BT (mpure k) F ρ σ H Q) : Q k H := at_pure h k F H s (Mv.refl _ _ _ _) rfl
theorem pw_and1D (ha : PDt c X W a ga) : PDw c X W (.BoolOp .And [a] pos) ga := pw_and1 ha
theorem pw_or1D (ha : PDt c X W a ga) : PDw c X W (.BoolOp .Or [a] pos) ga := pw_or1 ha
theorem pw_andD (ha : PDt c X W a ga) (hb : PDw c X W (.BoolOp .And (b :: rest) pos) gb) : PDw c X W (.BoolOp .And (a :: b :: rest) pos) (mand ga gb) := by
  refine PW.imp (pw_and ha hb) fun σ H Q h => ?_
  obtain ⟨F, ρ, s, h⟩ := h.at_
  refine (at_bind s h fun x v F1 H1 ρ1 s1 m1 b1 h1 => ?_).rd s
  have e : v = x := b1
  subst e
  cases v with
  | true => exact iteT (rdAt.rd s1 h1)
  | false => exact iteF (bt_pure s1 h1)
theorem pw_orD (ha : PDt c X W a ga) (hb : PDw c X W (.BoolOp .Or (b :: rest) pos) gb) : PDw c X W (.BoolOp .Or (a :: b :: rest) pos) (mor ga gb) := by
  refine PW.imp (pw_or ha hb) fun σ H Q h => ?_
  obtain ⟨F, ρ, s, h⟩ := h.at_
  refine (at_bind s h fun x v F1 H1 ρ1 s1 m1 b1 h1 => ?_).rd s
  have e : v = x := b1
  subst e
  cases v with
  | true => exact iteT (bt_pure s1 h1)
  | false => exact iteF (rdAt.rd s1 h1)
theorem pt_w (h : PDw c X W e ga) : PDt c X W e ga := PW.pt h
theorem pt_notD (ha : PDt c X W a ga) : PDt c X W (.UnaryOp .Not a pos) (mnot ga) := by
  refine PT.imp (pt_not ha) fun σ H Q h => ?_
  obtain ⟨F, ρ, s, h⟩ := h.at_
  refine (at_bind s h fun x v F1 H1 ρ1 s1 m1 b1 h1 => ?_).rd s
  have e : v = x := b1
  subst e
  exact bt_pure s1 h1
/-! as values -/
def mandV (f g : M D) : M D := mbind f fun x => mbind (mopt (tru x)) fun k => if k = true then g else mpure x
def morV (f g : M D) : M D := mbind f fun x => mbind (mopt (tru x)) fun k => if k = true then mpure x else g
def mnotV (f : M D) : M D := mbind f fun x => mbind (mopt (tru x)) fun k => mpure (.bool (!k))
theorem at_optb {α γ δ : Type} {B2 : Hp → δ → γ → Prop} {o : Option α} {k : α → M γ} {F : Hp} {ρ : List A} {σ : St} {H : Hp} {Q : δ → Hp → Prop} (h : rdAt c W B2 (mbind (mopt o) k) F ρ σ H Q) : ∃ d, o = some d ∧ rdAt c W B2 (k d) F ρ σ H Q := by
  obtain ⟨r, e, p⟩ := h
  cases o with
  | none => cases e
  | some d => exact ⟨d, rfl, r, e, p⟩
theorem pd_oneV {op} (ha : PD c X W a fa) : PD c X W (.BoolOp op [a] pos) fa := pe_one ha
theorem pd_andV (ha : PD c X W a fa) (hb : PD c X W (.BoolOp .And (b :: rest) pos) fb) (hK : X.K = c.K := by rfl) : PD c X W (.BoolOp .And (a :: b :: rest) pos) (mandV fa fb) := by
  refine PE.imp (pe_andT ha hb) fun σ H Q h => ?_
  obtain ⟨F, ρ, s, h⟩ := h.at_
  refine (at_bind s h fun x v F1 H1 ρ1 s1 m1 b1 h1 => ?_).rd s
  obtain ⟨k, e, h2⟩ := at_optb h1
  refine ⟨k, tru_v hK s1 b1 e, ?_⟩
  cases k with
  | true => exact iteT (rdAt.rd s1 h2)
  | false => exact iteF (at_pure h2 v F1 H1 s1 (Mv.refl _ _ _ _) b1)
theorem pd_orV (ha : PD c X W a fa) (hb : PD c X W (.BoolOp .Or (b :: rest) pos) fb) (hK : X.K = c.K := by rfl) : PD c X W (.BoolOp .Or (a :: b :: rest) pos) (morV fa fb) := by
  refine PE.imp (pe_orT ha hb) fun σ H Q h => ?_
  obtain ⟨F, ρ, s, h⟩ := h.at_
  refine (at_bind s h fun x v F1 H1 ρ1 s1 m1 b1 h1 => ?_).rd s
  obtain ⟨k, e, h2⟩ := at_optb h1
  refine ⟨k, tru_v hK s1 b1 e, ?_⟩
  cases k with
  | true => exact iteT (at_pure h2 v F1 H1 s1 (Mv.refl _ _ _ _) b1)
  | false => exact iteF (rdAt.rd s1 h2)
theorem pd_notV (ha : PD c X W a fa) (hK : X.K = c.K := by rfl) : PD c X W (.UnaryOp .Not a pos) (mnotV fa) := by
  refine PE.imp (pe_notT ha) fun σ H Q h => ?_
  obtain ⟨F, ρ, s, h⟩ := h.at_
  refine (at_bind s h fun x v F1 H1 ρ1 s1 m1 b1 h1 => ?_).rd s
  obtain ⟨k, e, h2⟩ := at_optb h1
  exact ⟨k, tru_v hK s1 b1 e, at_pure h2 _ F1 H1 s1 (Mv.refl _ _ _ _) (.bl _)⟩
def mif (t : M Bool) (f g : M D) : M D := mbind t fun x => if x = true then f else g
theorem pd_if {t : Expr} (ht : PDt c X W t ga) (ha : PD c X W a fa) (hb : PD c X W b fb) : PD c X W (.IfExp t a b pos) (mif ga fa fb) := by
  refine PE.imp (pe_ifExp ht ha hb) fun σ H Q h => ?_
  obtain ⟨F, ρ, s, h⟩ := h.at_
  refine (at_bind s h fun x v F1 H1 ρ1 s1 m1 b1 h1 => ?_).rd s
  have e : v = x := b1
  subst e
  cases v with
  | true => exact iteT (rdAt.rd s1 h1)
  | false => exact iteF (rdAt.rd s1 h1)

/-! ### lists of parts, displays -/
def mnil : M (List D) := mpure []
def mcons (f : M D) (g : M (List D)) : M (List D) := mbind f fun x => mbind g fun xs => mpure (x :: xs)
variable {fs : M (List D)}
theorem pds_nil : PDs c X W [] mnil := PA.imp pa_nil fun σ H Q h => by
  obtain ⟨F, ρ, s, h⟩ := h.at_
  exact at_pure h _ F H s (Mv.refl _ _ _ _) .nil
theorem pds_cons (ha : PD c X W a fa) (hs : PDs c X W es fs) (h0 : starEach (a :: es) X.env = (false, eval a X.env) :: starEach es X.env := by rfl) : PDs c X W (a :: es) (mcons fa fs) := by
  refine PA.imp (pa_cons ha hs h0) fun σ H Q h => ?_
  obtain ⟨F, ρ, s, h⟩ := h.at_
  refine (at_bind s h fun x v F1 H1 ρ1 s1 m1 b1 h1 => (at_bind s1 h1 fun xs vs F2 H2 ρ2 s2 m2 b2 h2 => ?_).rd s1).rd s
  exact at_pure h2 _ F2 H2 s2 (Mv.refl _ _ _ _) (.cons (Rp.mono m2.ext b1) b2)
def mtup (fs : M (List D)) : M D := mbind fs fun xs => mopt (if xs.length ≤ sizeLine then some (.tuple xs) else none)
def mlst (fs : M (List D)) : M D := mbind fs fun xs => mopt (if xs.length ≤ sizeLine then some (.list xs) else none)
theorem pd_tup {k} (hs : PDs c X W es fs) : PD c X W (.Tuple es k pos) (mtup fs) := by
  refine PE.imp (pe_tup hs) fun σ H Q h => ?_
  obtain ⟨F, ρ, s, h⟩ := h.at_
  refine (at_bind s h fun xs vs F1 H1 ρ1 s1 m1 b1 h1 => ?_).rd s
  obtain ⟨d, e, p⟩ := at_opt h1
  by_cases hz : xs.length ≤ sizeLine
  · rw [if_pos hz] at e
    cases e
    refine ⟨by rw [Rps.len b1]; exact hz, fun q nq => ?_⟩
    obtain ⟨s', m', r'⟩ := new_tup s1 nq b1
    exact p _ _ _ s' m' r'
  · rw [if_neg hz] at e
    cases e
theorem pd_lst (hs : PDs c X W es fs) : PD c X W (.List es pos) (mlst fs) := by
  refine PE.imp (pe_lst hs) fun σ H Q h => ?_
  obtain ⟨F, ρ, s, h⟩ := h.at_
  refine (at_bind s h fun xs vs F1 H1 ρ1 s1 m1 b1 h1 => ?_).rd s
  obtain ⟨d, e, p⟩ := at_opt h1
  by_cases hz : xs.length ≤ sizeLine
  · rw [if_pos hz] at e
    cases e
    refine ⟨by rw [Rps.len b1]; exact hz, fun q nq => ?_⟩
    obtain ⟨s', m', r'⟩ := new_lst s1 nq b1
    exact p _ _ _ s' m' r'
  · rw [if_neg hz] at e
    cases e

/-! ### items -/
def gIx : D → D → Option D
  | .list xs, .int i => atI xs i
  | .tuple xs, .int i => atI xs i
  | .str z, .int i => if z.length ≤ sizeLine then (atI z.cps.toList i).map fun c => .str ⟨#[c]⟩ else none
  | _, _ => none
theorem at_both {F : Hp} {vs : List V} {ds : List D} {i : Int} {d : D} (r : Rps c.K F vs ds) (e : atI ds i = some d) : ∃ v, atI vs i = some v ∧ Rp c.K F v d := by
  unfold atI at e ⊢
  rw [Rps.len r]
  cases q : ixN ds.length i with
  | none => rw [q] at e; cases e
  | some j =>
    rw [q] at e
    exact Rps.at_ (i := j) r e
theorem s_ix (hK : X.K = c.K) : OpS c (rIx X.K) gIx := by
  intro F ρ σ H x y d e z Q s rx ry eq q
  rw [hK]
  cases rx with
  | lst ha ra =>
    cases ry <;> try (simp [gIx] at eq; done)
    obtain ⟨v, e1, r1⟩ := at_both ra eq
    exact .inl ⟨_, _, _, v, rfl, rfl, SqL.of (s.le _ _ ha), e1, q v F H s (Mv.refl _ _ _ _) r1⟩
  | tup ha ra =>
    cases ry <;> try (simp [gIx] at eq; done)
    obtain ⟨v, e1, r1⟩ := at_both ra eq
    exact .inr (.inl ⟨_, _, _, v, rfl, rfl, Same.seqT s.le ha, e1, q v F H s (Mv.refl _ _ _ _) r1⟩)
  | str x =>
    cases ry <;> try (simp [gIx] at eq; done)
    rename_i i
    have eq : (if x.length ≤ sizeLine then (atI x.cps.toList i).map fun c => PyData.str ⟨#[c]⟩ else none) = some z := eq
    by_cases hz : x.length ≤ sizeLine
    · rw [if_pos hz] at eq
      obtain ⟨k, e1, e2⟩ := Option.map_eq_some_iff.mp eq
      subst e2
      exact .inr (.inr ⟨_, _, k, rfl, rfl, hz, e1, q _ F H s (Mv.refl _ _ _ _) (.str _)⟩)
    · rw [if_neg hz] at eq
      cases eq
  | _ => simp [gIx] at eq
theorem pd_ix (ha : PD c X W a fa) (hb : PD c X W b fb) (hs : PlainIx b := by exact fun _ _ => rfl) (hK : X.K = c.K := by rfl) : PD c X W (.Subscript a b pos) (mop gIx fa fb) :=
  PE.imp (pe_ix ix_seq ha hb hs) fun _ _ _ h => t_op (s_ix hK) h
end
end L2.DL

set_option maxHeartbeats 1000000
namespace L2.DL
open PySem PySem.Spec PyProof.Rows
/-! ### built-in functions -/
def CallS (c : Anc) (r : List V → Hp → VK → Prop) (g : List D → Option D) : Prop := ∀ (F : Hp) (ρ : List A) (σ : St) (H : Hp) (vs : List V) (ds : List D) (z : D) (Q : VK), SR c F ρ σ H → Rps c.K F vs ds → g ds = some z →
  (∀ v F' H', SR c F' ρ σ H' → Mv ρ ρ σ F H F' H' → Rp c.K F' v z → Q v H') → r vs H Q
def mcall (g : List D → Option D) (fs : M (List D)) : M D := mbind fs fun xs => mopt (g xs)
section
variable {X : Cx} {c : Anc} {W : WX} {a b e : Expr} {es : List Expr} {fa fb : M D} {fs : M (List D)} {pos p : Pos} {x : Str} {bid : String} {r r' : List V → Hp → VK → Prop} {g g' : List D → Option D}
theorem CallS.or (h : CallS c r g) (h' : CallS c r' g') : CallS c (fun xs H Q => r xs H Q ∨ r' xs H Q) (fun xs => (g xs).or (g' xs)) := by
  intro F ρ σ H vs ds z Q s rv eq q
  cases e1 : g ds with
  | some z1 =>
    have e2 : (some z1).or (g' ds) = some z := by rw [← e1]; exact eq
    have e3 : z1 = z := Option.some.inj e2
    subst e3
    exact .inl (h F ρ σ H vs ds z1 Q s rv e1 q)
  | none =>
    have e2 : (none : Option D).or (g' ds) = some z := by rw [← e1]; exact eq
    exact .inr (h' F ρ σ H vs ds z Q s rv e2 q)
theorem t_call {σ : St} {H : Hp} {Q : VK} (hs : CallS c r g) (h : rE c W (mcall g fs) σ H Q) : tCB r (rA c W fs) σ H Q := by
  obtain ⟨F, ρ, s, h⟩ := h.at_
  refine (at_bind s h fun xs vs F1 H1 ρ1 s1 m1 b1 h1 => ?_).rd s
  obtain ⟨z, e, p⟩ := at_opt h1
  exact hs F1 ρ1 σ H1 vs xs z Q s1 b1 e p
theorem pd_callB (hc : CallR X (.builtin bid) r) (hs : CallS c r g) (hg : Gl X x) (hm : X.mg x = none) (hv : bootBuiltins x = some (.builtin bid)) (ha : PDs c X W (e :: es) fs) (hn : x ≠ "__name__" := by decide) (hdb : (x == ("__debug__" : Str)) = false := by decide)
    (he : starEach (e :: es) X.env = (false, eval e X.env) :: starEach es X.env := by rfl) (hpl : (backTo pos (starEach es X.env)).any (·.1) = false := by rfl) : PD c X W (.Call (.Name x p) (e :: es) [] pos) (mcall g fs) :=
  PE.imp (pe_callB hc hg hm hv ha hn hdb he hpl) fun _ _ _ h => t_call hs h
theorem pd_callTy {T : String} (hc : CallR X (.type T) r) (hs : CallS c r g) (hg : Gl X x) (hm : X.mg x = none) (hv : bootBuiltins x = some (.type T)) (ha : PDs c X W (e :: es) fs) (hn : x ≠ "__name__" := by decide) (hdb : (x == ("__debug__" : Str)) = false := by decide)
    (he : starEach (e :: es) X.env = (false, eval e X.env) :: starEach es X.env := by rfl) (hpl : (backTo pos (starEach es X.env)).any (·.1) = false := by rfl) : PD c X W (.Call (.Name x p) (e :: es) [] pos) (mcall g fs) :=
  PE.imp (pe_callTy hc hg hm hv ha hn hdb he hpl) fun _ _ _ h => t_call hs h
/-- of one argument: the data's own shapes -/
theorem CallS.one {r : List V → Hp → VK → Prop} {g : D → Option D} (h : ∀ (F : Hp) (ρ : List A) (σ : St) (H : Hp) (v : V) (d z : D) (Q : VK), SR c F ρ σ H → Rp c.K F v d → g d = some z → (∀ v F' H', SR c F' ρ σ H' → Mv ρ ρ σ F H F' H' → Rp c.K F' v z → Q v H') → r [v] H Q) :
    CallS c r (fun ds => match ds with | [d] => g d | _ => none) := by
  intro F ρ σ H vs ds z Q s rv eq q
  cases rv with
  | nil => cases eq
  | cons r1 rt =>
    cases rt with
    | nil => exact h F ρ σ H _ _ z Q s r1 eq q
    | cons _ _ => cases eq
theorem CallS.two {r : List V → Hp → VK → Prop} {g : D → D → Option D} (h : ∀ (F : Hp) (ρ : List A) (σ : St) (H : Hp) (v u : V) (d e z : D) (Q : VK), SR c F ρ σ H → Rp c.K F v d → Rp c.K F u e → g d e = some z → (∀ v F' H', SR c F' ρ σ H' → Mv ρ ρ σ F H F' H' → Rp c.K F' v z → Q v H') → r [v, u] H Q) :
    CallS c r (fun ds => match ds with | [d, e] => g d e | _ => none) := by
  intro F ρ σ H vs ds z Q s rv eq q
  cases rv with
  | nil => cases eq
  | cons r1 rt =>
    cases rt with
    | nil => cases eq
    | cons r2 rt =>
      cases rt with
      | nil => exact h F ρ σ H _ _ _ _ z Q s r1 r2 eq q
      | cons _ _ => cases eq
def gLen : D → Option D
  | .list xs => some (.int xs.length)
  | .tuple xs => some (.int xs.length)
  | .str z => if z.length ≤ sizeLine then some (.int z.length) else none
  | _ => none
def g1 (g : D → Option D) : List D → Option D
  | [d] => g d
  | _ => none
def g2 (g : D → D → Option D) : List D → Option D
  | [d, e] => g d e
  | _ => none
theorem pd_len (hg : Gl X "len") (hm : X.mg "len" = none) (ha : PDs c X W [a] fs) (he : starEach [a] X.env = (false, eval a X.env) :: starEach [] X.env := by rfl) (hK : X.K = c.K := by rfl) : PD c X W (.Call (.Name "len" p) [a] [] pos) (mcall (g1 gLen) fs) := by
  refine pd_callB (r := fun xs H Q => (∃ p ys, xs = [.ref p] ∧ (SqL X.K H p ys ∨ SqT X.K H p ys) ∧ Q (.int ys.length) H) ∨ ∃ z, xs = [.str z] ∧ z.length ≤ sizeLine ∧ Q (.int z.length) H) (call_len_seq.or call_len_str) (CallS.one fun F ρ σ H v d z Q s rv eq q => ?_) hg hm boot_len ha (by decide) (by decide) he rfl
  rw [hK]
  cases rv with
  | lst h1 r1 =>
    cases eq
    exact .inl ⟨_, _, rfl, .inl (SqL.of (s.le _ _ h1)), by rw [Rps.len r1]; exact q _ F H s (Mv.refl _ _ _ _) (.int _)⟩
  | tup h1 r1 =>
    cases eq
    exact .inl ⟨_, _, rfl, .inr (Same.seqT s.le h1), by rw [Rps.len r1]; exact q _ F H s (Mv.refl _ _ _ _) (.int _)⟩
  | str y =>
    have eq : (if y.length ≤ sizeLine then some (PyData.int y.length) else none) = some z := eq
    by_cases hz : y.length ≤ sizeLine
    · rw [if_pos hz] at eq
      cases eq
      exact .inr ⟨y, rfl, hz, q _ F H s (Mv.refl _ _ _ _) (.int _)⟩
    · rw [if_neg hz] at eq
      cases eq
  | _ => cases eq
def gInt : D → Option D
  | .int i => some (.int i)
  | .bool b => some (.int (if b then 1 else 0))
  | .str z => if z.length ≤ 640 then (PySem.intText? z).map .int else none
  | _ => none
theorem boot_int' : bootBuiltins "int" = some (.type "int") := by decide +kernel
theorem pd_intC (hg : Gl X "int") (hm : X.mg "int" = none) (ha : PDs c X W [a] fs) (he : starEach [a] X.env = (false, eval a X.env) :: starEach [] X.env := by rfl) : PD c X W (.Call (.Name "int" p) [a] [] pos) (mcall (g1 gInt) fs) := by
  refine pd_callTy (call_int1.or call_int_str) (CallS.one fun F ρ σ H v d z Q s rv eq q => ?_) hg hm boot_int' ha (by decide) (by decide) he rfl
  cases rv with
  | int i =>
    cases eq
    exact .inl (.inl ⟨i, rfl, q _ F H s (Mv.refl _ _ _ _) (.int _)⟩)
  | bl i =>
    cases eq
    exact .inl (.inr ⟨i, rfl, q _ F H s (Mv.refl _ _ _ _) (.int _)⟩)
  | str y =>
    have eq : (if y.length ≤ 640 then (PySem.intText? y).map PyData.int else none) = some z := eq
    by_cases hz : y.length ≤ 640
    · rw [if_pos hz] at eq
      obtain ⟨n, e1, e2⟩ := Option.map_eq_some_iff.mp eq
      subst e2
      exact .inr ⟨y, n, rfl, e1, hz, q _ F H s (Mv.refl _ _ _ _) (.int _)⟩
    · rw [if_neg hz] at eq
      cases eq
  | _ => cases eq
def gStr : D → Option D
  | .int i => if i.natAbs.log2 < 1920 then some (.str (toString i)) else none
  | _ => none
theorem boot_str' : bootBuiltins "str" = some (.type "str") := by decide +kernel
theorem pd_strC (hg : Gl X "str") (hm : X.mg "str" = none) (ha : PDs c X W [a] fs) (he : starEach [a] X.env = (false, eval a X.env) :: starEach [] X.env := by rfl) : PD c X W (.Call (.Name "str" p) [a] [] pos) (mcall (g1 gStr) fs) := by
  refine pd_callTy call_str_int (CallS.one fun F ρ σ H v d z Q s rv eq q => ?_) hg hm boot_str' ha (by decide) (by decide) he rfl
  cases rv with
  | int i =>
    have eq : (if i.natAbs.log2 < 1920 then some (PyData.str (toString i)) else none) = some z := eq
    by_cases hz : i.natAbs.log2 < 1920
    · rw [if_pos hz] at eq
      cases eq
      exact ⟨i, rfl, hz, q _ F H s (Mv.refl _ _ _ _) (.str _)⟩
    · rw [if_neg hz] at eq
      cases eq
  | _ => cases eq
def gTup : D → Option D
  | .list xs => some (.tuple xs)
  | .tuple xs => some (.tuple xs)
  | _ => none
theorem boot_tuple' : bootBuiltins "tuple" = some (.type "tuple") := by decide +kernel
theorem pd_tupC (hg : Gl X "tuple") (hm : X.mg "tuple" = none) (ha : PDs c X W [a] fs) (he : starEach [a] X.env = (false, eval a X.env) :: starEach [] X.env := by rfl) (hK : X.K = c.K := by rfl) : PD c X W (.Call (.Name "tuple" p) [a] [] pos) (mcall (g1 gTup) fs) := by
  refine pd_callTy call_tuple_of (CallS.one fun F ρ σ H v d z Q s rv eq q => ?_) hg hm boot_tuple' ha (by decide) (by decide) he rfl
  rw [hK]
  cases rv with
  | lst h1 r1 =>
    cases eq
    refine ⟨_, _, rfl, .inl ⟨SqL.of (s.le _ _ h1), fun l nl => ?_⟩⟩
    obtain ⟨s', m', r'⟩ := new_tup s nl r1
    exact q _ _ _ s' m' r'
  | tup h1 r1 =>
    cases eq
    exact ⟨_, _, rfl, .inr ⟨Same.seqT s.le h1, q _ F H s (Mv.refl _ _ _ _) (.tup h1 r1)⟩⟩
  | _ => cases eq
def gLst : D → Option D
  | .list xs => some (.list xs)
  | .tuple xs => some (.list xs)
  | _ => none
theorem boot_list' : bootBuiltins "list" = some (.type "list") := by decide +kernel
theorem pd_lstC (hg : Gl X "list") (hm : X.mg "list" = none) (ha : PDs c X W [a] fs) (he : starEach [a] X.env = (false, eval a X.env) :: starEach [] X.env := by rfl) (hK : X.K = c.K := by rfl) : PD c X W (.Call (.Name "list" p) [a] [] pos) (mcall (g1 gLst) fs) := by
  refine pd_callTy call_list_of (CallS.one fun F ρ σ H v d z Q s rv eq q => ?_) hg hm boot_list' ha (by decide) (by decide) he rfl
  rw [hK]
  cases rv with
  | lst h1 r1 =>
    cases eq
    refine ⟨_, _, rfl, .inl (SqL.of (s.le _ _ h1)), fun l nl => ?_⟩
    obtain ⟨s', m', r'⟩ := new_lst s nl r1
    exact q _ _ _ s' m' r'
  | tup h1 r1 =>
    cases eq
    refine ⟨_, _, rfl, .inr (Same.seqT s.le h1), fun l nl => ?_⟩
    obtain ⟨s', m', r'⟩ := new_lst s nl r1
    exact q _ _ _ s' m' r'
  | _ => cases eq
/-! all, any of a list of bools -/
def bools : List D → Option (List Bool)
  | [] => some []
  | .bool b :: r => (bools r).map (b :: ·)
  | _ :: _ => none
theorem bools_v {F : Hp} : ∀ {xs : List V} {ds : List D} {bs : List Bool}, Rps c.K F xs ds → bools ds = some bs → xs = bs.map V.bl
  | _, _, _, .nil, e => by cases e; rfl
  | _, _, bs, .cons (b := d) r1 rt, e => by
    cases r1 with
    | bl b =>
      obtain ⟨bs', e1, e2⟩ := Option.map_eq_some_iff.mp (show (bools _).map (b :: ·) = some bs from e)
      subst e2
      rw [bools_v rt e1]
      rfl
    | _ => cases e
def gAll : D → Option D
  | .list xs => (bools xs).map fun bs => .bool (bs.all id)
  | _ => none
def gAny : D → Option D
  | .list xs => (bools xs).map fun bs => .bool (bs.any id)
  | _ => none
theorem boot_all' : bootBuiltins "all" = some (.builtin "all") := by decide +kernel
theorem boot_any' : bootBuiltins "any" = some (.builtin "any") := by decide +kernel
theorem pd_all (hcm : X.calm = true) (hg : Gl X "all") (hm : X.mg "all" = none) (ha : PDs c X W [a] fs) (he : starEach [a] X.env = (false, eval a X.env) :: starEach [] X.env := by rfl) : PD c X W (.Call (.Name "all" p) [a] [] pos) (mcall (g1 gAll) fs) := by
  refine pd_callB (cr_all hcm) (CallS.one fun F ρ σ H v d z Q s rv eq q => ?_) hg hm boot_all' ha (by decide) (by decide) he rfl
  cases rv with
  | lst h1 r1 =>
    obtain ⟨bs, e1, e2⟩ := Option.map_eq_some_iff.mp eq
    subst e2
    have e3 := bools_v r1 e1
    subst e3
    exact ⟨_, bs, rfl, SqL.of (s.le _ _ h1), q _ F H s (Mv.refl _ _ _ _) (.bl _)⟩
  | _ => cases eq
theorem pd_any (hcm : X.calm = true) (hg : Gl X "any") (hm : X.mg "any" = none) (ha : PDs c X W [a] fs) (he : starEach [a] X.env = (false, eval a X.env) :: starEach [] X.env := by rfl) : PD c X W (.Call (.Name "any" p) [a] [] pos) (mcall (g1 gAny) fs) := by
  refine pd_callB (cr_any hcm) (CallS.one fun F ρ σ H v d z Q s rv eq q => ?_) hg hm boot_any' ha (by decide) (by decide) he rfl
  cases rv with
  | lst h1 r1 =>
    obtain ⟨bs, e1, e2⟩ := Option.map_eq_some_iff.mp eq
    subst e2
    have e3 := bools_v r1 e1
    subst e3
    exact ⟨_, bs, rfl, SqL.of (s.le _ _ h1), q _ F H s (Mv.refl _ _ _ _) (.bl _)⟩
  | _ => cases eq
/-! isinstance -/
def tyN : D → String
  | .none => "NoneType"
  | .bool _ => "bool"
  | .int _ => "int"
  | .str _ => "str"
  | .list _ => "list"
  | .tuple _ => "tuple"
  | .dict _ => "dict"
def isTn (T n : String) : Bool := n == T || (T == "int" && n == "bool")
def isT (T : String) (d : D) : Bool := isTn T (tyN d)
theorem ty_x {F H : Hp} (le : Same F H) {v : V} {d : D} (r : Rp c.K F v d) : TyX c.K H v (.type (tyN d)) := by
  cases r with
  | non => exact .base .non
  | bl b => exact .base (.bl b)
  | int i => exact .base (.int i)
  | str x => exact .base (.str x)
  | lst h _ => exact .base (.lst (le _ _ h))
  | tup h _ =>
    rcases h with (h | ⟨o, h⟩) | ⟨o, its, n, h1, h2, _⟩
    · exact .base (.tup (le _ _ h))
    · exact .fTuple (le _ _ h)
    · exact .kTuple h1 h2
theorem kit_d (T : String) (hT : T = "int" ∨ T = "bool" ∨ T = "str" ∨ T = "list" ∨ T = "tuple") (d : D) : kitB (tyN d) T = some (isT T d) := by
  have hn : tyN d ∈ ["NoneType", "bool", "int", "str", "list", "tuple", "dict"] := by cases d <;> simp [tyN]
  have key : ∀ T ∈ ["int", "bool", "str", "list", "tuple"], ∀ n ∈ ["NoneType", "bool", "int", "str", "list", "tuple", "dict"], kitB n T = some (isTn T n) := by decide +kernel
  exact key T (by rcases hT with rfl | rfl | rfl | rfl | rfl <;> simp) _ hn
theorem boot_isi' : bootBuiltins "isinstance" = some (.builtin "isinstance") := by decide +kernel
def misi (T : String) (f : M D) : M D := mbind f fun d => mpure (.bool (isT T d))
theorem pd_isi {y : Str} (T : String) {p2 : Pos} (hT : T = "int" ∨ T = "bool" ∨ T = "str" ∨ T = "list" ∨ T = "tuple") (hg : Gl X "isinstance") (hm : X.mg "isinstance" = none) (hg2 : Gl X y) (hm2 : X.mg y = none) (hv : bootBuiltins y = some (.type T)) (ha : PD c X W a fa)
    (hn : y ≠ "__name__" := by decide) (hd : (y == ("__debug__" : Str)) = false := by decide) (he : starEach [a, .Name y p2] X.env = (false, eval a X.env) :: starEach [.Name y p2] X.env := by rfl) (he2 : starEach [.Name y p2] X.env = (false, eval (.Name y p2) X.env) :: starEach [] X.env := by rfl)
    (hpl : (backTo pos (starEach [.Name y p2] X.env)).any (·.1) = false := by rfl) (hK : X.K = c.K := by rfl) : PD c X W (.Call (.Name "isinstance" p) [a, .Name y p2] [] pos) (misi T fa) := by
  have h2 : PE X (.Name y p2) (tC (.ty T)) := pe_bltn (u := .type T) hg2 hm2 hv rfl hn hd
  refine PE.imp (pe_callB call_isi hg hm boot_isi' (pa_cons ha (pa_cons h2 pa_nil he2) he) (by decide) (by decide) he hpl) fun σ H Q h => ?_
  obtain ⟨F, ρ, s, h⟩ := h.at_
  refine (at_bind s h fun x v F1 H1 ρ1 s1 m1 b1 h1 => ?_).rd s
  refine ⟨v, .ty T, .type (tyN x), .type T, isT T x, rfl, .ty T, ?_, kit_ty (kit_d T hT x), at_pure h1 _ F1 H1 s1 (Mv.refl _ _ _ _) (.bl _)⟩
  rw [hK]
  exact ty_x s1.le b1
end
end L2.DL

set_option maxHeartbeats 1000000
namespace L2.DL
open PySem PySem.Spec PyProof.Rows
/-! ### statements -/
inductive Fl where
  | nx
  | rt (d : D)
  | bk
  | ct
def PostS (c : Anc) (W : WX) (F : Hp) (Dn : Ends) : Rs Fl → Prop
  | .ok .nx ρ' => ∀ σ' F' H', Same F F' → SR c F' ρ' σ' H' → Dn.nx σ' H'
  | .ok (.rt d) ρ' => ∀ v σ' F' H', Same F F' → SR c F' ρ' σ' H' → Rp c.K F' v d → Dn.rt v H'
  | .ok .bk ρ' => ∀ σ' F' H', Same F F' → SR c F' ρ' σ' H' → Dn.bk σ' H'
  | .ok .ct ρ' => ∀ σ' F' H', Same F F' → SR c F' ρ' σ' H' → Dn.ct σ' H'
  | .exc n d ρ' => ∀ σ' F' H', Same F F' → SR c F' ρ' σ' H' → Air c W σ' F' H' n d
theorem Same.tr {H H1 H2 : Hp} (a : Same H H1) (b : Same H1 H2) : Same H H2 := fun c o h => b c o (a c o h)
theorem Same.rf (H : Hp) : Same H H := fun _ _ h => h
theorem PostS.mono {c : Anc} {W : WX} {F F1 : Hp} {Dn : Ends} {r : Rs Fl} (m : Same F F1) (p : PostS c W F Dn r) : PostS c W F1 Dn r := by
  cases r with
  | ok fl ρ' =>
    cases fl with
    | nx => exact fun σ' F' H' s => p σ' F' H' (Same.tr m s)
    | rt d => exact fun v σ' F' H' s => p v σ' F' H' (Same.tr m s)
    | bk => exact fun σ' F' H' s => p σ' F' H' (Same.tr m s)
    | ct => exact fun σ' F' H' s => p σ' F' H' (Same.tr m s)
  | exc n d ρ' => exact fun σ' F' H' s => p σ' F' H' (Same.tr m s)
/-- only the way on differs -/
theorem PostS.nx {c : Anc} {W : WX} {F : Hp} {Dn : Ends} {r : Rs Fl} {N : St → Hp → Prop} (h : ∀ ρ', r = .ok .nx ρ' → ∀ σ' F' H', Same F F' → SR c F' ρ' σ' H' → N σ' H') (p : (∀ ρ', r ≠ .ok .nx ρ') → PostS c W F Dn r) : PostS c W F { Dn with nx := N } r := by
  cases r with
  | ok fl ρ' =>
    cases fl with
    | nx => exact h ρ' rfl
    | rt d => exact p fun _ z => nomatch z
    | bk => exact p fun _ z => nomatch z
    | ct => exact p fun _ z => nomatch z
  | exc n d ρ' => exact p fun _ z => nomatch z
def rSAt (c : Anc) (W : WX) (f : M Fl) (F : Hp) (ρ : List A) (Dn : Ends) : Prop := ∃ r, f ρ = some r ∧ PostS c W F Dn r
def rS (c : Anc) (W : WX) (f : M Fl) : TS := fun Dn σ H => ∃ F ρ, SR c F ρ σ H ∧ rSAt c W f F ρ Dn
abbrev PDS (c : Anc) (X : Cx) (W : WX) (st : Stmt) (f : M Fl) : Prop := PS X st (rS c W f)
abbrev PDSs (c : Anc) (X : Cx) (W : WX) (st : List Stmt) (f : M Fl) : Prop := PSs X st (rS c W f)
section
variable {X : Cx} {c : Anc} {W : WX} {st : Stmt} {rest : List Stmt} {f g : M Fl} {pos : Pos}
/-- an expression's part, then a statement's -/
theorem at_bindS {α β : Type} {B : Hp → β → α → Prop} {f : M α} {k : α → M Fl} {F : Hp} {ρ : List A} {σ : St} {H : Hp} {Dn : Ends} {R : β → Hp → Prop} (s : SR c F ρ σ H)
    (h : rSAt c W (mbind f k) F ρ Dn) (hk : ∀ x v F1 H1 ρ1, SR c F1 ρ1 σ H1 → Mv ρ ρ1 σ F H F1 H1 → B F1 v x → rSAt c W (k x) F1 ρ1 Dn → R v H1) : rd c W B f σ H R := by
  obtain ⟨r, e, p⟩ := h
  unfold mbind at e
  cases q : f ρ with
  | none =>
    rw [q] at e
    cases e
  | some r1 =>
    rw [q] at e
    cases r1 with
    | ok x ρ1 => exact ⟨F, ρ, _, s, q, fun v F1 H1 s1 m1 b1 => hk x v F1 H1 ρ1 s1 m1 b1 ⟨r, e, p.mono m1.ext⟩⟩
    | exc n d ρ1 =>
      have e' : Rs.exc n d ρ1 = r := Option.some.inj e
      subst e'
      exact ⟨F, ρ, _, s, q, fun F' H' s' m' => p σ F' H' m'.ext s'⟩
def mseq (f g : M Fl) : M Fl := mbind f fun fl => match fl with
  | .nx => g
  | o => mpure o
def mskip : M Fl := mpure .nx
theorem pds_nilS : PDSs c X W [] mskip := PSs.imp pss_nil fun σ H Dn ⟨F, ρ, s, r, e, p⟩ => by
  have e' : Rs.ok .nx ρ = r := Option.some.inj e
  subst e'
  exact p σ F H (Same.rf F) s
theorem pds_passS : PDS c X W (.Pass pos) mskip := PS.imp ps_pass fun σ H Dn ⟨F, ρ, s, r, e, p⟩ => by
  have e' : Rs.ok .nx ρ = r := Option.some.inj e
  subst e'
  exact p σ F H (Same.rf F) s
theorem rS_seq {Dn : Ends} {σ : St} {H : Hp} (h : rS c W (mseq f g) Dn σ H) : rS c W f { Dn with nx := rS c W g Dn } σ H := by
  obtain ⟨F, ρ, s, r, e, p⟩ := h
  unfold mseq mbind at e
  cases q : f ρ with
  | none =>
    rw [q] at e
    cases e
  | some r1 =>
    rw [q] at e
    refine ⟨F, ρ, s, r1, q, ?_⟩
    cases r1 with
    | ok fl ρ1 =>
      cases fl with
      | nx => exact fun σ' F' H' m' s' => ⟨F', ρ1, s', r, e, p.mono m'⟩
      | rt d =>
        have e' : Rs.ok (.rt d) ρ1 = r := Option.some.inj e
        subst e'
        exact p
      | bk =>
        have e' : Rs.ok .bk ρ1 = r := Option.some.inj e
        subst e'
        exact p
      | ct =>
        have e' : Rs.ok .ct ρ1 = r := Option.some.inj e
        subst e'
        exact p
    | exc n d ρ1 =>
      have e' : Rs.exc n d ρ1 = r := Option.some.inj e
      subst e'
      exact p
theorem pds_consS (h1 : PDS c X W st f) (h2 : PDSs c X W rest g) : PDSs c X W (st :: rest) (mseq f g) := PSs.imp (pss_cons h1 h2) fun _ _ _ h => rS_seq h
theorem pds_oneS (h1 : PDS c X W st f) : PDSs c X W [st] f := pss_one h1
/-! return, if, expression statements -/
variable {e a : Expr} {fe : M D} {ft : M Bool}
def mret (f : M D) : M Fl := mbind f fun d => mpure (.rt d)
theorem pds_ret (he : PD c X W e fe) : PDS c X W (.Return (some e) pos) (mret fe) := by
  refine PS.imp (ps_ret he) fun σ H Dn ⟨F, ρ, s, h⟩ => ?_
  refine at_bindS s h fun x v F1 H1 ρ1 s1 m1 b1 h1 => ?_
  obtain ⟨r, e, p⟩ := h1
  have e' : Rs.ok (.rt x) ρ1 = r := Option.some.inj e
  subst e'
  exact p v σ F1 H1 (Same.rf F1) s1 b1
def mretN : M Fl := mpure (.rt .none)
theorem pds_retN : PDS c X W (.Return none pos) mretN := by
  refine PS.imp ps_retN fun σ H Dn ⟨F, ρ, s, r, e, p⟩ => ?_
  have e' : Rs.ok (.rt .none) ρ = r := Option.some.inj e
  subst e'
  exact p .non σ F H (Same.rf F) s .non
def mbrk : M Fl := mpure .bk
def mcnt : M Fl := mpure .ct
theorem pds_brk : PDS c X W (.Break pos) mbrk := by
  refine PS.imp ps_break fun σ H Dn ⟨F, ρ, s, r, e, p⟩ => ?_
  have e' : Rs.ok .bk ρ = r := Option.some.inj e
  subst e'
  exact p σ F H (Same.rf F) s
theorem pds_cnt : PDS c X W (.Continue pos) mcnt := by
  refine PS.imp ps_continue fun σ H Dn ⟨F, ρ, s, r, e, p⟩ => ?_
  have e' : Rs.ok .ct ρ = r := Option.some.inj e
  subst e'
  exact p σ F H (Same.rf F) s
def mifS (t : M Bool) (f g : M Fl) : M Fl := mbind t fun x => if x = true then f else g
theorem pds_ifS {sa sb : List Stmt} (ht : PDt c X W e ft) (ha : PDSs c X W sa f) (hb : PDSs c X W sb g) : PDS c X W (.If e sa sb pos) (mifS ft f g) := by
  refine PS.imp (ps_if ht ha hb) fun σ H Dn ⟨F, ρ, s, h⟩ => ?_
  refine at_bindS s h fun x v F1 H1 ρ1 s1 m1 b1 h1 => ?_
  have e : v = x := b1
  subst e
  cases v with
  | true => exact iteT ⟨F1, ρ1, s1, h1⟩
  | false => exact iteF ⟨F1, ρ1, s1, h1⟩
def mdrop (f : M D) : M Fl := mbind f fun _ => mpure .nx
theorem nx_at {F : Hp} {ρ : List A} {σ : St} {H : Hp} {Dn : Ends} (s : SR c F ρ σ H) (h : rSAt c W (mpure .nx) F ρ Dn) : Dn.nx σ H := by
  obtain ⟨r, e, p⟩ := h
  have e' : Rs.ok .nx ρ = r := Option.some.inj e
  subst e'
  exact p σ F H (Same.rf F) s
theorem pds_expr (he : PD c X W e fe) (hs : swapsWith e none pos.line X.env = pure false := by rfl) : PDS c X W (.Expr e pos) (mdrop fe) := by
  refine PS.imp (ps_expr he hs) fun σ H Dn ⟨F, ρ, s, h⟩ => ?_
  exact at_bindS s h fun x v F1 H1 ρ1 s1 m1 b1 h1 => nx_at s1 h1
/-! a name stored -/
def canSet (ρ : List A) (i : Nat) : Bool := match ρ[i]? with
  | some (.own (some _) _) => false
  | some _ => true
  | none => false
def mput (i : Nat) (a : A) : M Fl := fun ρ => if canSet ρ i = true then some (.ok .nx (ρ.set i a)) else none
def mset (i : Nat) (f : M D) : M Fl := mbind f fun d => mput i (.dat d)
theorem canSet_lt {ρ : List A} {i : Nat} (h : canSet ρ i = true) : i < ρ.length := by
  unfold canSet at h
  cases e : ρ[i]? with
  | none => rw [e] at h; cases h
  | some a => exact (List.getElem?_eq_some_iff.mp e).1
theorem SR.setA {F : Hp} {ρ : List A} {σ : St} {H : Hp} {i : Nat} {v : V} {a : A} (s : SR c F ρ σ H) (hi : i < ρ.length) (r : AR c F H a (some v))
    (n : a.isOwn = true → ∀ (j : Nat) (b : A), ρ[j]? = some b → b.isOwn = true → σ[j]? ≠ some (some v)) : SR c F (ρ.set i a) (σ.set i (some v)) H := by
  have hi' : i < σ.length := by rw [s.len]; exact hi
  refine ⟨s.le, s.ext, s.keep, s.new, s.iot, s.iof, s.ioh, by rw [List.length_set, List.length_set]; exact s.len, fun j b h => ?_, fun j k b d p h1 h2 h3 h4 h5 h6 => ?_⟩
  · by_cases z : i = j
    · subst z
      rw [List.getElem?_set_self hi] at h
      cases h
      rw [List.getElem?_set_self hi']
      exact r
    · rw [List.getElem?_set_ne z] at h
      rw [List.getElem?_set_ne z]
      exact s.slot j b h
  · by_cases z : i = j
    · by_cases y : i = k
      · exact z.symm.trans y
      · subst z
        rw [List.getElem?_set_self hi] at h1
        rw [List.getElem?_set_self hi'] at h5
        rw [List.getElem?_set_ne y] at h3 h6
        cases h1
        cases h5
        exact (n h2 k d h3 h4 h6).elim
    · rw [List.getElem?_set_ne z] at h1 h5
      by_cases y : i = k
      · subst y
        rw [List.getElem?_set_self hi] at h3
        rw [List.getElem?_set_self hi'] at h6
        cases h3
        cases h6
        exact (n h4 j b h1 h2 h5).elim
      · rw [List.getElem?_set_ne y] at h3 h6
        exact s.sep j k b d p h1 h2 h3 h4 h5 h6
theorem put_at {F : Hp} {ρ : List A} {σ : St} {H : Hp} {Dn : Ends} {i : Nat} {v : V} {d : D} (s : SR c F ρ σ H) (r : Rp c.K F v d) (h : rSAt c W (mput i (.dat d)) F ρ Dn) : Dn.nx (σ.set i (some v)) H := by
  obtain ⟨r', e, p⟩ := h
  unfold mput at e
  by_cases z : canSet ρ i = true
  · rw [if_pos z] at e
    cases e
    exact p _ F H (Same.rf F) (s.setA (canSet_lt z) r fun q => nomatch q)
  · rw [if_neg z] at e
    cases e
theorem pds_set (i : Nat) {x : Str} {pos' : Pos} (hN : X.N.Nodup) (he : PD c X W e fe) (hi : X.N[i]? = some x := by rfl) (hx : Loc X.env.scope x := by first | exact Or.inl rfl | exact Or.inr rfl) (hs : swapsWith e (some (.Name x pos')) pos.line X.env = pure false := by rfl) (hf : X.fn x = true ∨ X.env.scope.names.lookup x = some .local := by first | exact .inl rfl | exact .inr rfl | assumption) :
    PDS c X W (.Assign [.Name x pos'] e pos) (mset i fe) := by
  refine PS.imp (ps_set hN hi hx he hs hf) fun σ H Dn ⟨F, ρ, s, h⟩ => ?_
  exact at_bindS s h fun x v F1 H1 ρ1 s1 m1 b1 h1 => put_at s1 b1 h1
/-! targets: the slots ks alone may change -/
def Ch (ks : List Nat) (σ σ' : St) : Prop := σ'.length = σ.length ∧ ∀ k, k ∉ ks → σ'[k]? = σ[k]?
theorem Ch.tr {ks ls : List Nat} {σ σ1 σ2 : St} (a : Ch ks σ σ1) (b : Ch ls σ1 σ2) : Ch (ks ++ ls) σ σ2 :=
  ⟨b.1.trans a.1, fun k h => (b.2 k fun z => h (List.mem_append_right _ z)).trans (a.2 k fun z => h (List.mem_append_left _ z))⟩
def rG (c : Anc) (ks : List Nat) (t : D → M Fl) : TG := fun v σ H Q => ∃ F ρ d ρ', SR c F ρ σ H ∧ Rp c.K F v d ∧ t d ρ = some (.ok .nx ρ') ∧ ∀ σ', Ch ks σ σ' → SR c F ρ' σ' H → Q σ' H
abbrev PDG (c : Anc) (X : Cx) (ks : List Nat) (tg : Expr) (t : D → M Fl) : Prop := PG X tg (rG c ks t)
theorem PG.imp {tg : Expr} {t t' : TG} (h : PG X tg t) (i : ∀ v σ H Q, t' v σ H Q → t v σ H Q) : PG X tg t' := ⟨fun pins s σ H v u Q I r q => h.run pins s σ H v u Q I r (i v σ H Q q)⟩
theorem PGs.imp {tg : List Expr} {t t' : TGs} (h : PGs X tg t) (i : ∀ v σ H Q, t' v σ H Q → t v σ H Q) : PGs X tg t' := ⟨fun pins s σ H v u Q I r q => h.run pins s σ H v u Q I r (i v σ H Q q)⟩
def tname (i : Nat) : D → M Fl := fun d => mput i (.dat d)
theorem pdg_name (i : Nat) {x : Str} (hN : X.N.Nodup) (hi : X.N[i]? = some x := by rfl) (hx : Loc X.env.scope x := by first | exact Or.inl rfl | exact Or.inr rfl) (hf : X.fn x = true ∨ X.env.scope.names.lookup x = some .local := by first | exact .inl rfl | exact .inr rfl | assumption) : PDG c X [i] (.Name x pos) (tname i) := by
  refine PG.imp (pg_name hN hi hx hf) fun v σ H Q ⟨F, ρ, d, ρ', s, r, e, p⟩ => ?_
  unfold tname mput at e
  by_cases z : canSet ρ i = true
  · rw [if_pos z] at e
    cases e
    refine p _ ⟨List.length_set .., fun k hk => ?_⟩ (s.setA (canSet_lt z) r fun q => nomatch q)
    exact List.getElem?_set_ne (fun y => hk (by rw [y]; exact List.mem_singleton_self k))
  · rw [if_neg z] at e
    cases e
def rGs (c : Anc) (ks : List Nat) (t : List D → M Fl) : TGs := fun vs σ H Q => ∃ F ρ ds ρ', SR c F ρ σ H ∧ Rps c.K F vs ds ∧ t ds ρ = some (.ok .nx ρ') ∧ ∀ σ', Ch ks σ σ' → SR c F ρ' σ' H → Q σ' H
abbrev PDGs (c : Anc) (X : Cx) (ks : List Nat) (tgs : List Expr) (t : List D → M Fl) : Prop := PGs X tgs (rGs c ks t)
def tnil : List D → M Fl
  | [] => mskip
  | _ => mfail
def tcons (t : D → M Fl) (u : List D → M Fl) : List D → M Fl
  | d :: ds => mseq (t d) (u ds)
  | [] => mfail
theorem pdgs_nil : PDGs c X [] [] tnil := by
  refine PGs.imp pgs_nil fun vs σ H Q ⟨F, ρ, ds, ρ', s, r, e, p⟩ => ?_
  cases r with
  | nil =>
    cases e
    exact ⟨rfl, p σ ⟨rfl, fun _ _ => rfl⟩ s⟩
  | cons _ _ => cases e
theorem mseq_ok {f g : M Fl} {ρ ρ' : List A} (h : mseq f g ρ = some (.ok .nx ρ')) : ∃ ρ1, f ρ = some (.ok .nx ρ1) ∧ g ρ1 = some (.ok .nx ρ') := by
  unfold mseq mbind at h
  cases q : f ρ with
  | none => rw [q] at h; cases h
  | some r1 =>
    rw [q] at h
    cases r1 with
    | ok fl ρ1 =>
      cases fl with
      | nx => exact ⟨ρ1, rfl, h⟩
      | _ => cases h
    | exc n d ρ1 => cases h
theorem pdgs_cons {tg : Expr} {tgs : List Expr} {t : D → M Fl} {u : List D → M Fl} {ks ls : List Nat} (h1 : PDG c X ks tg t) (h2 : PDGs c X ls tgs u) (hs : (assignEach (tg :: tgs) X.env).map (·.2) = assign tg X.env :: (assignEach tgs X.env).map (·.2) := by rfl) : PDGs c X (ks ++ ls) (tg :: tgs) (tcons t u) := by
  refine PGs.imp (pgs_cons h1 h2 hs) fun vs σ H Q ⟨F, ρ, ds, ρ', s, r, e, p⟩ => ?_
  cases r with
  | nil => cases e
  | cons r1 rt =>
    obtain ⟨ρ1, e1, e2⟩ := mseq_ok e
    exact ⟨_, _, rfl, F, ρ, _, ρ1, s, r1, e1, fun σ1 m1 s1 => ⟨F, ρ1, _, ρ', s1, rt, e2, fun σ2 m2 s2 => p σ2 (m1.tr m2) s2⟩⟩
def ttup (n : Nat) (t : List D → M Fl) : D → M Fl
  | .tuple ds => if ds.length = n then t ds else mfail
  | _ => mfail
theorem pdg_tup {tgs : List Expr} {k n : Nat} {t : List D → M Fl} {ks : List Nat} (hc : X.calm = true) (h : PDGs c X ks tgs t) (hn : (assignEach tgs X.env).length = n := by rfl) (hst : (assignEach tgs X.env).findIdx? (·.1) = none := by rfl) (hK : X.K = c.K := by rfl) : PDG c X ks (.Tuple tgs k pos) (ttup n t) := by
  refine PG.imp (pg_tup hc h hn hst) fun v σ H Q ⟨F, ρ, d, ρ', s, r, e, p⟩ => ?_
  rw [hK]
  cases r with
  | @tup a xs ds h1 r1 =>
    have e : (if ds.length = n then t ds else mfail) ρ = some (.ok .nx ρ') := e
    by_cases z : ds.length = n
    · rw [if_pos z] at e
      exact ⟨_, _, rfl, Same.seqT s.le h1, by rw [Rps.len r1]; exact z, F, ρ, ds, ρ', s, r1, e, p⟩
    · rw [if_neg z] at e
      cases e
  | _ => cases e
/-- target = e, of any target -/
def masg (t : D → M Fl) (f : M D) : M Fl := mbind f t
/-- a target gives no error -/
theorem pds_asg {tg : Expr} {t : D → M Fl} {ks : List Nat} (he : PD c X W e fe) (hg : PDG c X ks tg t) (ht : ∀ d ρ r, t d ρ = some r → ∃ ρ', r = .ok .nx ρ') (hs : swapsWithSole [tg] e pos.line X.env = pure false := by rfl) (hw : swappedStores [tg] e X.env = pure none := by rfl)
    (h1 : (assignEach [tg] X.env).map (·.2) = [assign tg X.env] := by rfl) : PDS c X W (.Assign [tg] e pos) (masg t fe) := by
  refine PS.imp (ps_asg he hg hs hw h1) fun σ H Dn ⟨F, ρ, s, h⟩ => ?_
  refine at_bindS s h fun x v F1 H1 ρ1 s1 m1 b1 ⟨r, e, p⟩ => ?_
  obtain ⟨ρ', rfl⟩ := ht x ρ1 r e
  exact ⟨F1, ρ1, x, ρ', s1, b1, e, fun σ' _ s' => p σ' F1 H1 (Same.rf F1) s'⟩
end
end L2.DL

set_option maxHeartbeats 1000000
namespace L2.DL
open PySem PySem.Spec PyProof.Rows
/-! ### a def's promise -/
def PostG (c : Anc) (vs : List V) (Q : VK) (E : XK) : Rs D → Prop
  | .ok d ρ' => ∀ v F' H', SR c F' ρ' (vs.map some) H' → Rp c.K F' v d → Q v H'
  | .exc n d ρ' => ∀ F' H', SR c F' ρ' (vs.map some) H' → ∀ dx v, H' dx = some (.xd [("value", v)]) → Rp c.K F' v d → E (.ref (He.ga c.K n)) (some dx) H'
/-- called with what ρ tells, f ρ is what comes -/
def spG (K : PySem.W.Frag) (n : Nat) (f : List A → Option (Rs D)) : Sp := fun vs H Q E => ∃ F ρ ios r, vs.length = n ∧ SR ⟨K, ios, F, H⟩ F ρ (vs.map some) H ∧ f ρ = some r ∧ PostG ⟨K, ios, F, H⟩ vs Q E r
/-- of a parameter's slot at the end only a lent object is told -/
def cln : A → A → A
  | .own (some k) _, .own (some k') o' => if k = k' then .own (some k) o' else .und
  | _, _ => .und
def clean (ρ ρ' : List A) : List A := List.zipWith cln ρ ρ'
def finG (ρ : List A) : Rs Fl → Option (Rs D)
  | .ok .nx ρ' => if ρ.length ≤ ρ'.length then some (.ok .none (clean ρ ρ')) else none
  | .ok (.rt d) ρ' => if ρ.length ≤ ρ'.length then some (.ok d (clean ρ ρ')) else none
  | .exc n d ρ' => if ρ.length ≤ ρ'.length then some (.exc n d (clean ρ ρ')) else none
  | _ => none
def runG (m : Nat) (fb : M Fl) (ρ : List A) : Option (Rs D) := (fb (ρ ++ List.replicate (m - ρ.length) .und)).bind (finG ρ)
theorem clean_len {m : Nat} {ρ ρ' : List A} (h : ρ.length ≤ ρ'.length) : (clean ρ ρ').length = ρ.length := by
  unfold clean
  rw [List.length_zipWith]
  omega
theorem clean_at {ρ ρ' : List A} {j : Nat} {a : A} (h : (clean ρ ρ')[j]? = some a) : ∃ b b', ρ[j]? = some b ∧ ρ'[j]? = some b' ∧ a = cln b b' := by
  unfold clean at h
  rw [List.getElem?_zipWith] at h
  cases e1 : ρ[j]? with
  | none => rw [e1] at h; cases h
  | some b =>
    cases e2 : ρ'[j]? with
    | none => rw [e1, e2] at h; cases h
    | some b' =>
      rw [e1, e2] at h
      exact ⟨b, b', rfl, rfl, (Option.some.inj h).symm⟩
theorem cln_cases (b b' : A) : cln b b' = .und ∨ ∃ k o o', b = .own (some k) o ∧ b' = .own (some k) o' ∧ cln b b' = .own (some k) o' := by
  cases b with
  | own io o =>
    cases io with
    | none => exact .inl (by cases b' <;> rfl)
    | some k =>
      cases b' with
      | own io' o' =>
        cases io' with
        | none => exact .inl rfl
        | some k' =>
          by_cases e : k = k'
          · subst e
            exact .inr ⟨k, o, o', rfl, rfl, if_pos rfl⟩
          · exact .inl (if_neg e)
      | _ => exact .inl rfl
  | _ => exact .inl (by cases b' <;> rfl)
/-- at the entry -/
theorem SR.start {c : Anc} {F : Hp} {ρ : List A} {vs : List V} {H : Hp} {N : List Str} (s : SR c F ρ (vs.map some) H) (hl : vs.length ≤ N.length) : SR c F (ρ ++ List.replicate (N.length - ρ.length) .und) (L2.start N vs) H := by
  have hρ : ρ.length = vs.length := by rw [← s.len, List.length_map]
  have cases_ : ∀ {j : Nat} {a : A}, (ρ ++ List.replicate (N.length - ρ.length) .und)[j]? = some a → (j < ρ.length ∧ ρ[j]? = some a ∧ (L2.start N vs)[j]? = (vs.map some)[j]?) ∨ a = .und := fun {j a} h => by
    by_cases z : j < ρ.length
    · rw [List.getElem?_append_left z] at h
      refine .inl ⟨z, h, ?_⟩
      unfold L2.start
      rw [List.getElem?_append_left (by rw [List.length_map, ← hρ]; exact z)]
    · rw [List.getElem?_append_right (by omega)] at h
      rw [List.getElem?_replicate] at h
      split at h
      · exact .inr (Option.some.inj h).symm
      · cases h
  refine ⟨s.le, s.ext, s.keep, s.new, s.iot, s.iof, s.ioh, ?_, fun j a h => ?_, fun j k a b p h1 h2 h3 h4 h5 h6 => ?_⟩
  · unfold L2.start
    rw [List.length_append, List.length_append, List.length_map, List.length_replicate, List.length_replicate]
    omega
  · rcases cases_ h with ⟨_, h1, h2⟩ | h1
    · rw [h2]; exact s.slot j a h1
    · subst h1; exact trivial
  · rcases cases_ h1 with ⟨_, q1, q2⟩ | q
    · rcases cases_ h3 with ⟨_, q3, q4⟩ | q
      · rw [q2] at h5
        rw [q4] at h6
        exact s.sep j k a b p q1 h2 q3 h4 h5 h6
      · subst q; cases h4
    · subst q; cases h2
/-- at the end -/
theorem SR.end_ {c : Anc} {F F' : Hp} {ρ ρ' : List A} {vs : List V} {σ' : St} {H H' : Hp} (s : SR c F ρ (vs.map some) H) (s' : SR c F' ρ' σ' H') (hl : ρ.length ≤ ρ'.length) : SR c F' (clean ρ ρ') (vs.map some) H' := by
  have hρ : ρ.length = vs.length := by rw [← s.len, List.length_map]
  refine ⟨s'.le, s'.ext, s'.keep, s'.new, s'.iot, s'.iof, s'.ioh, by rw [clean_len (m := 0) hl, List.length_map]; exact hρ.symm, fun j a h => ?_, fun j k a b p h1 h2 h3 h4 h5 h6 => ?_⟩
  · obtain ⟨b, b', e1, e2, rfl⟩ := clean_at h
    rcases cln_cases b b' with q | ⟨k, o, o', rfl, rfl, q⟩
    · rw [q]; exact trivial
    · rw [q]
      obtain ⟨p, x1, x2, _⟩ := (s.slot j _ e1).own
      obtain ⟨p', y1, y2, y3, y4⟩ := (s'.slot j _ e2).own
      have ep : p = p' := Option.some.inj ((show c.ios[k]? = some p from x2).symm.trans (show c.ios[k]? = some p' from y2))
      subst ep
      rw [x1]
      exact ⟨y2, y3, y4⟩
  · obtain ⟨d, d', e1, e2, rfl⟩ := clean_at h1
    obtain ⟨g, g', e3, e4, rfl⟩ := clean_at h3
    rcases cln_cases d d' with q | ⟨m, o, o', rfl, rfl, q⟩
    · rw [q] at h2; cases h2
    · rcases cln_cases g g' with q' | ⟨m2, o2, o2', rfl, rfl, q'⟩
      · rw [q'] at h4; cases h4
      · exact s.sep j k _ _ p e1 rfl e3 rfl h5 h6
section
variable {P : Program} {w : World} {K : PySem.W.Frag} {mg : Str → Option Value} {base : Heap} {x qual : Str} {params : Arguments} {body : List Stmt} {scope : Scope} {f : Addr} {fd : FuncData}
/-- THE RULE for a def -/
theorem fn_okG {N ps : List Str} {k : Nat} {fb : M Fl} (F : FunD K x qual params body scope [] [] f fd) (S : FnScope N ps scope)
    (hb : ∀ (ios : List Addr) (F0 H0 : Hp) (cdv : Value) (A : Around) (outer : List Env) (s : Shared) (H : Hp) (E : XK), Room k (A.deeper (envOfC qual scope s.heap.objs.size f cdv)) →
      Takes (cxOf (L2.CX P w) P w K mg base N qual scope f cdv A outer s H E) (fun cls d _ H => E cls d H) →
      PDSs ⟨K, ios, F0, H0⟩ (cxOf (L2.CX P w) P w K mg base N qual scope f cdv A outer s H E) (fun cls d _ H => E cls d H) body fb) : FnOk P w K mg base (L2.CX P w) (k + 1) f fd ps (spG K ps.length (runG N.length fb)) := by
  refine F.ok S (fun vs H Q E ⟨_, _, _, _, h, _⟩ => h) fun cdv A outer s H vs Q E hr h => ?_
  obtain ⟨F, ρ, ios, r, hl, sr, e, p⟩ := h
  refine ⟨_, hb ios F H cdv A outer s H E hr (takes_of rfl rfl rfl rfl), ?_⟩
  have hN : vs.length ≤ N.length := by
    rw [hl, ← S.pre, List.length_take]
    exact Nat.min_le_right _ _
  have hρ : ρ.length = vs.length := by rw [← sr.len, List.length_map]
  have s0 := sr.start hN
  have lenOf : ∀ {F' ρ' σ' H'}, SR (⟨K, ios, F, H⟩ : Anc) F' ρ' σ' H' → σ'.length = N.length → ρ.length ≤ ρ'.length := fun {F' ρ' σ' H'} z y => by
    rw [← z.len, y]
    omega
  unfold runG at e
  cases q : fb (ρ ++ List.replicate (N.length - ρ.length) .und) with
  | none => rw [q] at e; cases e
  | some r1 =>
    rw [q] at e
    refine ⟨F, _, s0, r1, q, ?_⟩
    have e : finG ρ r1 = some r := e
    cases r1 with
    | ok fl ρ' =>
      by_cases hz : ρ.length ≤ ρ'.length
      · cases fl with
        | nx =>
          have e : (if ρ.length ≤ ρ'.length then some (Rs.ok PyData.none (clean ρ ρ')) else none) = some r := e
          rw [if_pos hz] at e
          cases e
          exact fun σ' F' H' m' s' => p .non F' H' (sr.end_ s' hz) .non
        | rt d =>
          have e : (if ρ.length ≤ ρ'.length then some (Rs.ok d (clean ρ ρ')) else none) = some r := e
          rw [if_pos hz] at e
          cases e
          exact fun v σ' F' H' m' s' b' => p v F' H' (sr.end_ s' hz) b'
        | bk => cases e
        | ct => cases e
      · cases fl with
        | nx =>
          have e : (if ρ.length ≤ ρ'.length then some (Rs.ok PyData.none (clean ρ ρ')) else none) = some r := e
          rw [if_neg hz] at e
          cases e
        | rt d =>
          have e : (if ρ.length ≤ ρ'.length then some (Rs.ok d (clean ρ ρ')) else none) = some r := e
          rw [if_neg hz] at e
          cases e
        | bk => cases e
        | ct => cases e
    | exc n d ρ' =>
      have e : (if ρ.length ≤ ρ'.length then some (Rs.exc n d (clean ρ ρ')) else none) = some r := e
      by_cases hz : ρ.length ≤ ρ'.length
      · rw [if_pos hz] at e
        cases e
        exact fun σ' F' H' m' s' dx v h1 h2 => p F' H' (sr.end_ s' hz) dx v h1 h2
      · rw [if_neg hz] at e
        cases e
end
end L2.DL

set_option maxHeartbeats 1000000
namespace L2.DL
open PySem PySem.Spec PyProof.Rows
/-! ### calls of defs -/
structure Cal (P : Program) (w : World) (K : PySem.W.Frag) (mg : Str → Option Value) (base : Heap) (k : Nat) (x : Str) (n : Nat) (f : List A → Option (Rs D)) : Prop where
  ex : ∃ (a : Addr) (fd : FuncData) (ps : List Str), FnOk P w K mg base (L2.CX P w) k a fd ps (spG K n f) ∧ mg x = some (.ref a) ∧ PySem.W.keepIn K (.ref a) = true ∧ Binds K fd ps []
/-- a call lays at most new things and changes what is lent -/
theorem SR.call {c : Anc} {F F1 : Hp} {ρ ρv' : List A} {σ : St} {H H1 : Hp} {vs : List V} {ios : List Addr} (s : SR c F ρ σ H) (s' : SR ⟨c.K, ios, F, H⟩ F1 ρv' (vs.map some) H1)
    (hio : ∀ b ∈ ios, Own ρ σ b) (ρ2 : List A) (hl : ρ2.length = ρ.length) (hs : ∀ (i : Nat) (a : A), ρ2[i]? = some a → (ρ[i]? = some a ∧ ((a.isOwn = true) → ∀ p, σ[i]? = some (some (.ref p)) → p ∉ ios)) ∨ AR c F1 H1 a (σ[i]?.join))
    (hw : ∀ (i : Nat) (a : A), ρ2[i]? = some a → a.isOwn = true → ∃ b, ρ[i]? = some b ∧ b.isOwn = true) : SR c F1 ρ2 σ H1 ∧ Mv ρ ρ2 σ F H F1 H1 := by
  have ext : Same F F1 := s'.ext
  have keep : ∀ b o, b ∉ ios → H b = some o → H1 b = some o := s'.keep
  have new : ∀ b o, F1 b = some o → F b = some o ∨ H b = none := s'.new
  have nF : ∀ b ∈ ios, F b = none := fun b hb => by
    cases e : F b with
    | none => rfl
    | some o =>
      have z := s'.iof b hb
      rw [ext b o e] at z; cases z
  refine ⟨⟨s'.le, fun b o h => ext b o (s.ext b o h), fun b o hb h => ?_, fun b o h => ?_, fun b hb => ?_, fun b hb => ?_, s.ioh, by rw [hl]; exact s.len, fun i a h => ?_, fun i j a b p h1 h2 h3 h4 h5 h6 => ?_⟩, ⟨ext, fun b o h n => keep b o (fun z => n (hio b z)) h, fun b o h => (new b o h).imp id .inl, fun b ⟨i, a, h1, h2, h3⟩ => ?_⟩⟩
  · by_cases z : b ∈ ios
    · obtain ⟨i, a, h1, h2, h3⟩ := hio b z
      cases a with
      | own io ob =>
        obtain ⟨p, e1, e2, e3, _⟩ := s.ownAt h1
        have ep : b = p := by
          have q := h3.symm.trans e1
          cases q; rfl
        subst ep
        cases io with
        | none =>
          have e2 : c.H0 b = none := e2
          rw [h] at e2; cases e2
        | some k =>
          have e2 : c.ios[k]? = some b := e2
          exact (hb (List.mem_of_getElem? e2)).elim
      | _ => cases h2
    · exact keep b o z (s.keep b o hb h)
  · rcases new b o h with h | h
    · exact s.new b o h
    · refine .inr ?_
      cases q : c.H0 b with
      | none => rfl
      | some y =>
        by_cases z : b ∈ c.ios
        · obtain ⟨y', e', _⟩ := s.iot b z
          rw [h] at e'; cases e'
        · rw [s.keep b y z q] at h; cases h
  · by_cases z : b ∈ ios
    · exact s'.iot b z
    · obtain ⟨o, e, m⟩ := s.iot b hb
      exact ⟨o, keep b o z e, m⟩
  · cases e : F1 b with
    | none => rfl
    | some o =>
      rcases new b o e with h | h
      · rw [s.iof b hb] at h; cases h
      · obtain ⟨o', e', _⟩ := s.iot b hb
        rw [h] at e'; cases e'
  · rcases hs i a h with ⟨h1, h2⟩ | h1
    · have q := s.slot i a h1
      cases a with
      | und => exact trivial
      | dat d =>
        obtain ⟨v, e1, r⟩ := q.dat
        rw [e1]
        exact Rp.mono ext r
      | own io ob =>
        obtain ⟨p, e1, e2, e3, o, e4, e5⟩ := q.own
        rw [e1]
        have np := h2 rfl p (join_some e1)
        refine ⟨e2, ?_, o, keep p o np e4, e5.mono ext⟩
        cases e : F1 p with
        | none => rfl
        | some y =>
          rcases new p y e with h | h
          · rw [e3] at h; cases h
          · rw [e4] at h; cases h
    · exact h1
  · obtain ⟨a', g1, g2⟩ := hw i a h1 h2
    obtain ⟨b', g3, g4⟩ := hw j b h3 h4
    exact s.sep i j a' b' p g1 g2 g3 g4 h5 h6
  · obtain ⟨a', g1, g2⟩ := hw i a h1 h2
    exact ⟨i, a', g1, g2, h3⟩
/-- the callee's entry: data alone -/
theorem SR.entry {c : Anc} {F : Hp} {ρ : List A} {σ : St} {H : Hp} {vs : List V} {ds : List D} (s : SR c F ρ σ H) (r : Rps c.K F vs ds) : SR ⟨c.K, [], F, H⟩ F (ds.map .dat) (vs.map some) H := by
  refine ⟨s.le, Same.rf F, fun b o _ h => h, fun b o h => .inl h, fun b hb => absurd hb (by simp), fun b hb => absurd hb (by simp), fun b hb => absurd hb (by simp), by rw [List.length_map, List.length_map]; exact Rps.len r, fun i a h => ?_, fun i j a b p h1 h2 => ?_⟩
  · rw [List.getElem?_map] at h
    cases e : ds[i]? with
    | none => rw [e] at h; cases h
    | some d =>
      rw [e] at h
      cases h
      obtain ⟨v, e1, r1⟩ := Rps.at_ (i := i) r e
      rw [List.getElem?_map, e1]
      exact r1
  · rw [List.getElem?_map] at h1
    cases e : ds[i]? with
    | none => rw [e] at h1; cases h1
    | some d =>
      rw [e] at h1
      cases h1
      cases h2
def backF (ρ : List A) : Rs D → Rs D
  | .ok d _ => .ok d ρ
  | .exc n d _ => .exc n d ρ
def mcallF (n : Nat) (f : List A → Option (Rs D)) (fs : M (List D)) : M D := mbind fs fun ds => fun ρ => if ds.length = n then (f (ds.map .dat)).map (backF ρ) else none
section
variable {X : Cx} {c : Anc} {W : WX} {e : Expr} {es : List Expr} {fs : M (List D)} {pos p : Pos} {x : Str} {k n : Nat} {f : List A → Option (Rs D)}
theorem pd_call (G : Cal X.prog X.w X.K X.mg X.base k x n f) (hr : Room k X.A) (tk : Takes X W) (hg : Gl X x) (ha : PDs c X W (e :: es) fs) (hdb : (x == ("__debug__" : Str)) = false := by decide)
    (he : starEach (e :: es) X.env = (false, eval e X.env) :: starEach es X.env := by rfl) (hpl : (backTo pos (starEach es X.env)).any (·.1) = false := by rfl) (hK : X.K = c.K := by rfl) : PD c X W (.Call (.Name x p) (e :: es) [] pos) (mcallF n f fs) := by
  obtain ⟨a, fd, ps, F0, gf, kp, b⟩ := G.ex
  refine PE.imp (pe_callS F0 hr hg gf kp b (fun σ => passAt tk σ) ha hdb he hpl) fun σ H Q h => ?_
  obtain ⟨F, ρ, s, h⟩ := h.at_
  refine (at_bind s h fun ds vs F1 H1 ρ1 s1 m1 b1 h1 => ?_).rd s
  obtain ⟨r, e1, p1⟩ := h1
  have e1 : (if ds.length = n then (f (ds.map .dat)).map (backF ρ1) else none) = some r := e1
  by_cases hn' : ds.length = n
  case neg =>
    rw [if_neg hn'] at e1
    cases e1
  rw [if_pos hn'] at e1
  obtain ⟨r1, q, e2⟩ := Option.map_eq_some_iff.mp e1
  have hn : vs.length = n := by rw [Rps.len b1, hn']
  rw [hK]
  refine ⟨F1, ds.map .dat, [], r1, hn, s1.entry b1, q, ?_⟩
  subst e2
  cases r1 with
  | ok d ρ' =>
    intro v F2 H2 s2 r2
    obtain ⟨s3, m3⟩ := s1.call s2 (fun b hb => absurd hb (by simp)) ρ1 rfl (fun i a h => .inl ⟨h, fun _ _ _ => by simp⟩) (fun i a h1 h2 => ⟨a, h1, h2⟩)
    exact p1 v F2 H2 s3 m3 r2
  | exc nm d ρ' =>
    intro F2 H2 s2 dx v h1 h2
    obtain ⟨s3, m3⟩ := s1.call s2 (fun b hb => absurd hb (by simp)) ρ1 rfl (fun i a h => .inl ⟨h, fun _ _ _ => by simp⟩) (fun i a h1 h2 => ⟨a, h1, h2⟩)
    exact p1 F2 H2 s3 m3 dx v h1 h2
/-- the first argument lent: the object of slot j's own -/
def backR (j : Nat) (io : Option Nat) (ρ : List A) : Rs D → Option (Rs D)
  | .ok d (.own (some 0) o' :: _) => some (.ok d (ρ.set j (.own io o')))
  | .exc n d (.own (some 0) o' :: _) => some (.exc n d (ρ.set j (.own io o')))
  | _ => none
def atOwn (ρ : List A) (j : Nat) : Option (Option Nat × O) := match ρ[j]? with
  | some (.own io o) => some (io, o)
  | _ => none
theorem atOwn_ok {ρ : List A} {j : Nat} {io : Option Nat} {o : O} (h : atOwn ρ j = some (io, o)) : ρ[j]? = some (.own io o) := by
  unfold atOwn at h
  cases e : ρ[j]? with
  | none => rw [e] at h; cases h
  | some a =>
    rw [e] at h
    cases a with
    | own io' o' => cases h; rfl
    | _ => cases h
def mcallR (n : Nat) (f : List A → Option (Rs D)) (j : Nat) (fs : M (List D)) : M D := mbind (fun ρ => (atOwn ρ j).map fun _ => .ok () ρ) fun _ => mbind fs fun ds => fun ρ => if ds.length + 1 = n then (atOwn ρ j).bind fun z =>
  (f (.own (some 0) z.2 :: ds.map .dat)).bind (backR j z.1 ρ) else none
theorem SR.entryR {F : Hp} {ρ : List A} {σ : St} {H : Hp} {vs : List V} {ds : List D} {j : Nat} {io : Option Nat} {o : O} {q : Addr} (s : SR c F ρ σ H) (r : Rps c.K F vs ds) (e : ρ[j]? = some (.own io o)) (eq : σ[j]? = some (some (.ref q))) :
    SR ⟨c.K, [q], F, H⟩ F (.own (some 0) o :: ds.map .dat) ((V.ref q :: vs).map some) H := by
  obtain ⟨q', e1, e2, e3, ho, e4, e5⟩ := s.ownAt e
  have z := e1.symm.trans eq
  cases z
  have s0 := s.entry r
  refine ⟨s.le, Same.rf F, fun b o _ h => h, fun b o h => .inl h, fun b hb => ?_, fun b hb => ?_, fun b hb => ?_, by simp [Rps.len r], fun i a h => ?_, fun i k a b p h1 h2 h3 h4 h5 h6 => ?_⟩
  · have z : b = q := by simpa using hb
    subst z
    refine ⟨ho, e4, ?_⟩
    cases o with
    | l _ => cases ho <;> first | exact trivial | exact e5.elim
    | k _ => cases ho <;> first | exact trivial | exact e5.elim
  · have z : b = q := by simpa using hb
    subst z
    exact e3
  · have z : b = q := by simpa using hb
    subst z
    exact ⟨ho, e4⟩
  · cases i with
    | zero =>
      cases h
      exact ⟨rfl, e3, ho, e4, e5⟩
    | succ i =>
      have h : (ds.map A.dat)[i]? = some a := h
      have z := s0.slot i a h
      rw [List.getElem?_map] at h
      cases y : ds[i]? with
      | none => rw [y] at h; cases h
      | some d =>
        rw [y] at h
        cases h
        obtain ⟨v, e1, r1⟩ := z.dat
        have e2 : (List.map some (V.ref q :: vs))[i + 1]?.join = some v := e1
        rw [e2]
        exact r1
  · have only : ∀ {i : Nat} {a : A}, (A.own (some 0) o :: ds.map .dat)[i]? = some a → a.isOwn = true → i = 0 := fun {i a} h h' => by
      cases i with
      | zero => rfl
      | succ i =>
        have h : (ds.map A.dat)[i]? = some a := h
        rw [List.getElem?_map] at h
        cases y : ds[i]? with
        | none => rw [y] at h; cases h
        | some d =>
          rw [y] at h
          cases h
          cases h'
    rw [only h1 h2, only h3 h4]
theorem pd_callR {y : Str} {p2 : Pos} (j : Nat) (G : Cal X.prog X.w X.K X.mg X.base k x n f) (hr : Room k X.A) (tk : Takes X W) (hg : Gl X x) (ha : PDs c X W es fs) (hN : X.N[j]? = some y := by rfl) (hv : Vis X.env.scope y := by first | exact Or.inl rfl | exact Or.inr (Or.inl rfl) | exact Or.inr (Or.inr rfl))
    (hd : (y == ("__debug__" : Str)) = false := by decide) (hcd : (y == ("__classdict__" : Str)) = false := by decide) (hdb : (x == ("__debug__" : Str)) = false := by decide)
    (he : starEach (.Name y p2 :: es) X.env = (false, eval (.Name y p2) X.env) :: starEach es X.env := by rfl) (hpl : (backTo pos (starEach es X.env)).any (·.1) = false := by rfl) (hK : X.K = c.K := by rfl) : PD c X W (.Call (.Name x p) (.Name y p2 :: es) [] pos) (mcallR n f j fs) := by
  obtain ⟨a, fd, ps, F0, gf, kp, b⟩ := G.ex
  refine PE.imp (pe_callS F0 hr hg gf kp b (fun σ => passAt tk σ) (pa_cons (pe_var hN hv hd hcd) ha he) hdb he hpl) fun σ H Q h => ?_
  obtain ⟨F, ρ, s, h⟩ := h.at_
  obtain ⟨r0, e0, p0⟩ := h
  unfold mcallR mbind at e0
  dsimp only at e0
  cases q0 : atOwn ρ j with
  | none => rw [q0] at e0; cases e0
  | some z0 =>
    rw [q0] at e0
    obtain ⟨io0, o0⟩ := z0
    obtain ⟨q, eq, _⟩ := s.ownAt (atOwn_ok q0)
    refine ⟨_, eq, ?_⟩
    have h : rdAt c W (BE c) (mbind fs fun ds => fun ρ => if ds.length + 1 = n then (atOwn ρ j).bind fun z => (f (.own (some 0) z.2 :: ds.map .dat)).bind (backR j z.1 ρ) else none) F ρ σ H Q := ⟨r0, e0, p0⟩
    refine (at_bind s h fun ds vs F1 H1 ρ1 s1 m1 b1 h1 => ?_).rd s
    obtain ⟨r, e1, p1⟩ := h1
    have e1 : (if ds.length + 1 = n then (atOwn ρ1 j).bind fun z => (f (.own (some 0) z.2 :: ds.map .dat)).bind (backR j z.1 ρ1) else none) = some r := e1
    by_cases hn' : ds.length + 1 = n
    case neg =>
      rw [if_neg hn'] at e1
      cases e1
    rw [if_pos hn'] at e1
    obtain ⟨⟨io, o⟩, q1, e2⟩ := Option.bind_eq_some_iff.mp e1
    obtain ⟨r1, q2, e3⟩ := Option.bind_eq_some_iff.mp e2
    have a1 := atOwn_ok q1
    obtain ⟨q', eq', i1, i2, _⟩ := s1.ownAt a1
    have z := eq'.symm.trans eq
    cases z
    have hj : j < ρ1.length := (List.getElem?_eq_some_iff.mp a1).1
    rw [hK]
    refine ⟨F1, _, [q], r1, by rw [← hn', List.length_cons, Rps.len b1], s1.entryR b1 a1 eq, q2, ?_⟩
    have back : ∀ {F2 H2 ρ' o'}, SR (⟨c.K, [q], F1, H1⟩ : Anc) F2 (.own (some 0) o' :: ρ') ((V.ref q :: vs).map some) H2 → SR c F2 (ρ1.set j (.own io o')) σ H2 ∧ Mv ρ1 (ρ1.set j (.own io o')) σ F1 H1 F2 H2 := fun {F2 H2 ρ' o'} s2 => by
      refine s1.call s2 (fun b hb => ?_) _ (List.length_set ..) (fun i a h => ?_) (fun i a h1 h2 => ?_)
      · have z : b = q := by simpa using hb
        subst z
        exact ⟨j, _, a1, rfl, eq⟩
      · by_cases z : j = i
        · subst z
          rw [List.getElem?_set_self hj] at h
          cases h
          obtain ⟨q', x1, x2, x3, x4⟩ := (s2.slot 0 _ rfl).own
          cases x1
          rw [eq]
          exact .inr ⟨i1, x3, x4⟩
        · rw [List.getElem?_set_ne z] at h
          refine .inl ⟨h, fun ho p hp hm => ?_⟩
          have y : p = q := by simpa using hm
          subst y
          exact z (s1.sep j i _ a p a1 rfl h ho eq hp)
      · by_cases z : j = i
        · subst z
          exact ⟨_, a1, rfl⟩
        · rw [List.getElem?_set_ne z] at h1
          exact ⟨a, h1, h2⟩
    cases r1 with
    | ok d ρ' =>
      cases ρ' with
      | nil => cases e3
      | cons a ρ' =>
        cases a with
        | own io' o' =>
          cases io' with
          | none => cases e3
          | some k' =>
            cases k' with
            | succ _ => cases e3
            | zero =>
              cases e3
              intro v F2 H2 s2 r2
              obtain ⟨s3, m3⟩ := back s2
              exact p1 v F2 H2 s3 m3 r2
        | _ => cases e3
    | exc nm d ρ' =>
      cases ρ' with
      | nil => cases e3
      | cons a ρ' =>
        cases a with
        | own io' o' =>
          cases io' with
          | none => cases e3
          | some k' =>
            cases k' with
            | succ _ => cases e3
            | zero =>
              cases e3
              intro F2 H2 s2 dx v h1 h2
              obtain ⟨s3, m3⟩ := back s2
              exact p1 F2 H2 s3 m3 dx v h1 h2
        | _ => cases e3
end
end L2.DL

set_option maxHeartbeats 1000000
namespace L2.DL
open PySem PySem.Spec PyProof.Rows
/-! ### what a loop walks, as data -/
structure ItD (c : Anc) (F : Hp) (J : It) (ds : List D) : Prop where
  go : ∀ i H1, Same F H1 → i < ds.length → J.go i H1
  stop : ∀ i H1, Same F H1 → ds.length ≤ i → J.stop i H1
  yld : ∀ i H1 x H2 F1 ρ σ d, Same F F1 → SR c F1 ρ σ H1 → ds[i]? = some d → J.yld i H1 x H2 → ∃ F2, SR c F2 ρ σ H2 ∧ Mv ρ ρ σ F1 H1 F2 H2 ∧ Rp c.K F2 x d
/-- the reading of what is walked -/
def rI (c : Anc) (W : WX) (f : M (List D)) : TI := fun σ H R => rd c W (fun F J ds => ItD c F J ds) f σ H R
abbrev PDI (c : Anc) (X : Cx) (W : WX) (tg e : Expr) (f : M (List D)) : Prop := PI X tg e (rI c W f)
section
variable {X : Cx} {c : Anc} {W : WX} {tg e a : Expr} {es : List Expr} {fe : M D} {pos : Pos}
theorem PI.imp {tg e : Expr} {t t' : TI} (h : PI X tg e t) (i : ∀ σ H R, t' σ H R → t σ H R) : PI X tg e t' := ⟨fun pins s σ H R I q => h.run pins s σ H R I (i σ H R q)⟩
def mitL (f : M D) : M (List D) := mbind f fun d => match d with
  | .list xs => mpure xs
  | _ => mfail
def mitT (f : M D) : M (List D) := mbind f fun d => match d with
  | .tuple xs => mpure xs
  | _ => mfail
def mitS (f : M D) : M (List D) := mbind f fun d => match d with
  | .str x => mpure (x.cps.toList.map fun c => .str ⟨#[c]⟩)
  | _ => mfail
theorem at_fail {α β : Type} {B : Hp → β → α → Prop} {F : Hp} {ρ : List A} {σ : St} {H : Hp} {Q : β → Hp → Prop} {P : Prop} (h : rdAt c W B mfail F ρ σ H Q) : P := by
  obtain ⟨r, e, _⟩ := h
  cases e
theorem itd_list {F : Hp} {a : Addr} {xs : List V} {ds : List D} (h : F a = some (.lst xs)) (r : Rps c.K F xs ds) : ItD c F (Itl c.K a) ds := by
  refine ⟨fun i H1 s hi => ?_, fun i H1 s hi => ⟨xs, SqL.of (s _ _ h), by rw [Rps.len r]; exact hi⟩, fun i H1 x H2 F1 ρ σ d sF s hd ⟨e, y⟩ => ?_⟩
  · have hi' : i < xs.length := by rw [Rps.len r]; exact hi
    exact ⟨xs, xs[i], SqL.of (s _ _ h), List.getElem?_eq_getElem hi'⟩
  · subst e
    obtain ⟨v, e1, r1⟩ := Rps.at_ (i := i) r hd
    have e2 := y xs (SqL.of (s.le _ _ (sF _ _ h)))
    have e3 := e2.symm.trans e1
    cases e3
    exact ⟨F1, s, Mv.refl _ _ _ _, Rp.mono sF r1⟩
theorem pdi_list (he : PD c X W e fe) (hK : X.K = c.K := by rfl) : PDI c X W tg e (mitL fe) := by
  refine PI.imp (pi_list he) fun σ H R h => ?_
  obtain ⟨F, ρ, s, h⟩ := h.at_
  rw [hK]
  refine (at_bind s h fun x v F1 H1 ρ1 s1 m1 b1 h1 => ?_).rd s
  cases b1 with
  | lst ha ra => exact ⟨_, rfl, ⟨_, SqL.of (s1.le _ _ ha)⟩, at_pure h1 _ F1 H1 s1 (Mv.refl _ _ _ _) (itd_list ha ra)⟩
  | _ => exact at_fail h1
theorem itd_tup {F : Hp} {a : Addr} {xs : List V} {ds : List D} (h : SqT c.K F a xs) (r : Rps c.K F xs ds) (inj : ∀ {H : Hp} {ys : List V}, Same F H → SqT c.K H a ys → True) : ItD c F (Itt c.K a) ds := by
  refine ⟨fun i H1 s hi => ?_, fun i H1 s hi => ⟨xs, Same.seqT s h, by rw [Rps.len r]; exact hi⟩, fun i H1 x H2 F1 ρ σ d sF s hd ⟨e, y⟩ => ?_⟩
  · have hi' : i < xs.length := by rw [Rps.len r]; exact hi
    exact ⟨xs, xs[i], Same.seqT s h, List.getElem?_eq_getElem hi'⟩
  · subst e
    obtain ⟨v, e1, r1⟩ := Rps.at_ (i := i) r hd
    have e2 := y xs (Same.seqT s.le (Same.seqT sF h))
    have e3 := e2.symm.trans e1
    cases e3
    exact ⟨F1, s, Mv.refl _ _ _ _, Rp.mono sF r1⟩
theorem pdi_tup (he : PD c X W e fe) (hK : X.K = c.K := by rfl) : PDI c X W tg e (mitT fe) := by
  refine PI.imp (pi_tup he) fun σ H R h => ?_
  obtain ⟨F, ρ, s, h⟩ := h.at_
  rw [hK]
  refine (at_bind s h fun x v F1 H1 ρ1 s1 m1 b1 h1 => ?_).rd s
  cases b1 with
  | tup ha ra => exact ⟨_, rfl, ⟨_, Same.seqT s1.le ha⟩, at_pure h1 _ F1 H1 s1 (Mv.refl _ _ _ _) (itd_tup ha ra fun _ _ => trivial)⟩
  | _ => exact at_fail h1
theorem pdi_str (he : PD c X W e fe) : PDI c X W tg e (mitS fe) := by
  refine PI.imp (pi_str he) fun σ H R h => ?_
  obtain ⟨F, ρ, s, h⟩ := h.at_
  refine (at_bind s h fun x v F1 H1 ρ1 s1 m1 b1 h1 => ?_).rd s
  cases b1 with
  | str z =>
    refine ⟨z, rfl, at_pure h1 _ F1 H1 s1 (Mv.refl _ _ _ _) ⟨fun i H2 _ hi => ?_, fun i H2 _ hi => ?_, fun i H2 y H3 F2 ρ' σ' d sF s' hd ⟨e, ch, e1, e2⟩ => ?_⟩⟩
    · show i < z.cps.size
      simpa using hi
    · show z.cps.size ≤ i
      simpa using hi
    · subst e
      subst e2
      have e3 : z.cps.toList[i]? = some ch := by rw [Array.getElem?_toList]; exact e1
      rw [List.getElem?_map, e3] at hd
      cases hd
      exact ⟨F2, s', Mv.refl _ _ _ _, .str _⟩
  | _ => exact at_fail h1
/-! ranges -/
def rngL (lo : Int) (n : Nat) : List D := (List.range n).map fun i => .int (lo + (i : Nat))
def cR (i : Int) : Bool := decide (-(2 ^ 62) ≤ i) && decide (i < 2 ^ 62)
theorem cR_ok {i : Int} (h : cR i = true) : -(2 ^ 62) ≤ i ∧ i < 2 ^ 62 := ⟨of_decide_eq_true (Bool.and_eq_true_iff.mp h).1, of_decide_eq_true (Bool.and_eq_true_iff.mp h).2⟩
def grng1 : D → Option (List D)
  | .int j => if cR j = true then some (rngL 0 j.toNat) else none
  | _ => none
def grng2 : D → D → Option (List D)
  | .int i, .int j => if cR i = true ∧ cR j = true then some (rngL i (j - i).toNat) else none
  | _, _ => none
def mrng1 (f : M D) : M (List D) := mbind f fun x => mopt (grng1 x)
def mrng2 (f g : M D) : M (List D) := mbind f fun x => mbind g fun y => mopt (grng2 x y)
theorem itd_rng {F : Hp} {lo : Int} {n : Nat} : ItD c F (Itr lo n) (rngL lo n) := by
  have hl : (rngL lo n).length = n := by unfold rngL; rw [List.length_map, List.length_range]
  refine ⟨fun i H1 _ hi => ?_, fun i H1 _ hi => ?_, fun i H1 x H2 F1 ρ σ d sF s hd ⟨e, y⟩ => ?_⟩
  · show i < n
    rw [hl] at hi; exact hi
  · show n ≤ i
    rw [hl] at hi; exact hi
  · subst e
    subst y
    unfold rngL at hd
    rw [List.getElem?_map] at hd
    cases q : (List.range n)[i]? with
    | none => rw [q] at hd; cases hd
    | some k =>
      rw [q] at hd
      cases hd
      have hk : i < n ∧ k = i := by
        obtain ⟨h1, h2⟩ := List.getElem?_eq_some_iff.mp q
        rw [List.length_range] at h1
        rw [List.getElem_range] at h2
        exact ⟨h1, h2.symm⟩
      rw [hk.2]
      exact ⟨F1, s, Mv.refl _ _ _ _, .int _⟩
theorem pdi_rng1 {p : Pos} (hg : Gl X "range") (hm : X.mg "range" = none) (ha : PD c X W a fe) (hs : starEach [a] X.env = [(false, eval a X.env)] := by rfl) : PDI c X W tg (.Call (.Name "range" p) [a] [] pos) (mrng1 fe) := by
  refine PI.imp (pi_range1 hg hm (pa_cons ha pa_nil hs) hs) fun σ H R h => ?_
  obtain ⟨F, ρ, s, h⟩ := h.at_
  refine (at_bind s h fun x v F1 H1 ρ1 s1 m1 b1 h1 => ?_).rd s
  obtain ⟨ds, e, p1⟩ := at_opt h1
  cases b1 with
  | int j =>
    have e : (if cR j = true then some (rngL 0 j.toNat) else none) = some ds := e
    by_cases z : cR j = true
    · rw [if_pos z] at e
      cases e
      exact ⟨j, rfl, (cR_ok z).1, (cR_ok z).2, p1 _ F1 H1 s1 (Mv.refl _ _ _ _) itd_rng⟩
    · rw [if_neg z] at e
      cases e
  | _ => cases e
theorem pdi_rng2 {b : Expr} {fb : M D} {p : Pos} (hg : Gl X "range") (hm : X.mg "range" = none) (ha : PD c X W a fe) (hb : PD c X W b fb) (hs : starEach [a, b] X.env = [(false, eval a X.env), (false, eval b X.env)] := by rfl) (hs2 : starEach [b] X.env = [(false, eval b X.env)] := by rfl) : PDI c X W tg (.Call (.Name "range" p) [a, b] [] pos) (mrng2 fe fb) := by
  refine PI.imp (pi_range2 hg hm (pa_cons ha (pa_cons hb pa_nil hs2) (by rw [hs, hs2])) hs hs2) fun σ H R h => ?_
  obtain ⟨F, ρ, s, h⟩ := h.at_
  refine (at_bind s h fun x v F1 H1 ρ1 s1 m1 b1 h1 => (at_bind s1 h1 fun y u F2 H2 ρ2 s2 m2 b2 h2 => ?_).rd s1).rd s
  obtain ⟨ds, e, p1⟩ := at_opt h2
  cases b1 with
  | int i =>
    cases b2 with
    | int j =>
      have e : (if cR i = true ∧ cR j = true then some (rngL i (j - i).toNat) else none) = some ds := e
      by_cases z : cR i = true ∧ cR j = true
      · rw [if_pos z] at e
        cases e
        exact ⟨i, j, rfl, ⟨(cR_ok z.1).1, (cR_ok z.1).2, (cR_ok z.2).1, (cR_ok z.2).2⟩, p1 _ F2 H2 s2 (Mv.refl _ _ _ _) itd_rng⟩
      · rw [if_neg z] at e
        cases e
    | _ => cases e
  | _ => cases e
/-! ### for -/
variable {f : M Fl} {body : List Stmt}
def mfor (t : D → M Fl) (b : M Fl) : List D → M Fl
  | [] => mskip
  | d :: ds => mbind (t d) fun _ => mbind b fun fl => match fl with
    | .nx => mfor t b ds
    | .ct => mfor t b ds
    | .bk => mpure .nx
    | .rt x => mpure (.rt x)
def mforS (fi : M (List D)) (t : D → M Fl) (b : M Fl) : M Fl := mbind fi (mfor t b)
theorem pds_for {iter : Expr} {fi : M (List D)} {t : D → M Fl} {ks : List Nat} (hp : PassesOwn (model X.prog X.w) X.A X.env X.xe) (hc : X.calm = true) (hi : PDI c X W tg iter fi) (hg : PDG c X ks tg t) (ht : ∀ d ρ r, t d ρ = some r → ∃ ρ', r = .ok .nx ρ') (hb : PDSs c X W body f)
    (hs : ∀ x, foldedSetIterable iter X.env x = pure x := by intro _; rfl) : PDS c X W (.For tg iter body [] pos) (mforS fi t f) := by
  refine PS.imp (ps_for hp hc hi hg hb hs) fun σ H Dn ⟨F, ρ, s, h⟩ => ?_
  refine at_bindS s h fun ds J F1 H1 ρ1 s1 m1 b1 h1 => ?_
  refine ⟨fun i m σ2 H2 => ∃ F2 ρ2, m = ds.length - i ∧ i ≤ ds.length ∧ Same F1 F2 ∧ SR c F2 ρ2 σ2 H2 ∧ rSAt c W (mfor t f (ds.drop i)) F2 ρ2 Dn, ⟨ds.length, F1, ρ1, by simp, Nat.zero_le _, Same.rf F1, s1, h1⟩, fun i m σ2 H2 hW => ?_⟩
  obtain ⟨F2, ρ2, em, hi2, sF, s2, hr⟩ := hW
  by_cases hlt : i < ds.length
  · refine .inr ⟨b1.go i H2 (Same.tr sF s2.le) hlt, fun σ' H' => ∃ m', m' < m ∧ ∃ F2 ρ2, m' = ds.length - (i + 1) ∧ i + 1 ≤ ds.length ∧ Same F1 F2 ∧ SR c F2 ρ2 σ' H' ∧ rSAt c W (mfor t f (ds.drop (i + 1))) F2 ρ2 Dn, fun σ' H' z => z, fun x H' y => ?_⟩
    obtain ⟨F3, s3, m3, r3⟩ := b1.yld i H2 x H' F2 ρ2 σ2 ds[i] sF s2 (List.getElem?_eq_getElem hlt) y
    rw [List.drop_eq_getElem_cons hlt] at hr
    obtain ⟨r, e, p⟩ := hr
    have e : mbind (t ds[i]) (fun _ => mbind f fun fl => match fl with
      | .nx => mfor t f (ds.drop (i + 1))
      | .ct => mfor t f (ds.drop (i + 1))
      | .bk => mpure .nx
      | .rt x => mpure (.rt x)) ρ2 = some r := e
    unfold mbind at e
    dsimp only at e
    cases q : t ds[i] ρ2 with
    | none => rw [q] at e; cases e
    | some rt =>
      obtain ⟨ρ3, rfl⟩ := ht _ _ _ q
      rw [q] at e
      dsimp only at e
      refine ⟨F3, ρ2, ds[i], ρ3, s3, r3, q, fun σ4 m4 s4 => ?_⟩
      have sF4 : Same F1 F3 := Same.tr sF m3.ext
      cases q2 : f ρ3 with
      | none => rw [q2] at e; cases e
      | some rb =>
        rw [q2] at e
        refine ⟨F3, ρ3, s4, rb, q2, ?_⟩
        have again : ∀ {ρ' : List A}, mfor t f (ds.drop (i + 1)) ρ' = some r → ∀ σ' F' H', Same F3 F' → SR c F' ρ' σ' H' → ∃ m', m' < m ∧ ∃ F2 ρ2, m' = ds.length - (i + 1) ∧ i + 1 ≤ ds.length ∧ Same F1 F2 ∧ SR c F2 ρ2 σ' H' ∧ rSAt c W (mfor t f (ds.drop (i + 1))) F2 ρ2 Dn := fun {ρ'} e' σ' F' H' m' s' =>
          ⟨ds.length - (i + 1), by omega, F', ρ', rfl, hlt, Same.tr sF4 m', s', r, e', p.mono (Same.tr m3.ext m')⟩
        have p4 := p.mono m3.ext
        cases rb with
        | ok fl ρ' =>
          cases fl with
          | nx => exact again e
          | ct => exact again e
          | bk =>
            have e' : Rs.ok .nx ρ' = r := Option.some.inj e
            subst e'
            exact p4
          | rt x =>
            have e' : Rs.ok (.rt x) ρ' = r := Option.some.inj e
            subst e'
            exact p4
        | exc n d ρ' =>
          have e' : Rs.exc n d ρ' = r := Option.some.inj e
          subst e'
          exact p4
  · have ei : i = ds.length := by omega
    subst ei
    rw [List.drop_length] at hr
    obtain ⟨r, e, p⟩ := hr
    have e' : Rs.ok .nx ρ2 = r := Option.some.inj e
    subst e'
    exact .inl ⟨b1.stop _ H2 (Same.tr sF s2.le) (Nat.le_refl _), p σ2 F2 H2 (Same.rf F2) s2⟩
theorem tname_nx {i : Nat} {d : D} {ρ : List A} {r : Rs Fl} (h : tname i d ρ = some r) : ∃ ρ', r = .ok .nx ρ' := by
  unfold tname mput at h
  by_cases z : canSet ρ i = true
  · rw [if_pos z] at h
    exact ⟨_, (Option.some.inj h).symm⟩
  · rw [if_neg z] at h
    cases h
end
end L2.DL

set_option maxHeartbeats 1000000
namespace L2.DL
open PySem PySem.Spec PyProof.Rows
/-! ### list comprehensions -/
def wipeA (ρ : List A) : List Nat → List A
  | [] => ρ
  | v :: vs => (wipeA ρ vs).set v .und
theorem wipeA_length (ρ : List A) : ∀ vs : List Nat, (wipeA ρ vs).length = ρ.length
  | [] => rfl
  | v :: vs => by unfold wipeA; rw [List.length_set, wipeA_length ρ vs]
theorem wipeA_in {ρ : List A} {i : Nat} {a : A} : ∀ {vs : List Nat}, i ∈ vs → (wipeA ρ vs)[i]? = some a → a = .und
  | [], h, _ => absurd h (by simp)
  | v :: vs, h, e => by
    unfold wipeA at e
    by_cases z : v = i
    · subst z
      by_cases hl : v < (wipeA ρ vs).length
      · rw [List.getElem?_set_self hl] at e
        exact (Option.some.inj e).symm
      · rw [List.getElem?_eq_none (by simpa using hl)] at e
        cases e
    · rw [List.getElem?_set_ne z] at e
      exact wipeA_in ((List.mem_cons.mp h).resolve_left fun y => z y.symm) e
theorem wipeA_out {ρ : List A} {i : Nat} : ∀ {vs : List Nat}, i ∉ vs → (wipeA ρ vs)[i]? = ρ[i]?
  | [], _ => rfl
  | v :: vs, h => by
    unfold wipeA
    rw [List.getElem?_set_ne (fun z => h (by rw [z]; exact List.mem_cons_self ..)), wipeA_out fun z => h (List.mem_cons_of_mem _ z)]
theorem wipe_out {σ : St} {i : Nat} : ∀ {vs : List Nat}, i ∉ vs → (wipe σ vs)[i]? = σ[i]?
  | [], _ => rfl
  | v :: vs, h => by
    unfold wipe
    rw [List.getElem?_set_ne (fun z => h (by rw [z]; exact List.mem_cons_self ..)), wipe_out fun z => h (List.mem_cons_of_mem _ z)]
theorem wipe_in {σ : St} {i : Nat} : ∀ {vs : List Nat}, i ∈ vs → (wipe σ vs)[i]?.join = none
  | [], h => absurd h (by simp)
  | v :: vs, h => by
    unfold wipe
    by_cases z : v = i
    · subst z
      by_cases hl : v < (wipe σ vs).length
      · rw [List.getElem?_set_self hl]; rfl
      · rw [List.getElem?_eq_none (by simpa using hl)]; rfl
    · rw [List.getElem?_set_ne z]
      exact wipe_in ((List.mem_cons.mp h).resolve_left fun y => z y.symm)
/-- nothing is told of the slots vs -/
def Und (ρ : List A) (vs : List Nat) : Prop := ∀ i ∈ vs, ∀ a, ρ[i]? = some a → a = .und
theorem wipeA_und (ρ : List A) (vs : List Nat) : Und (wipeA ρ vs) vs := fun i hi a e => wipeA_in hi e
section
variable {c : Anc} {F : Hp} {ρ : List A} {σ σ' : St} {H : Hp} {vs : List Nat}
/-- the slots change where nothing is told -/
theorem SR.slots (s : SR c F ρ σ H) (hl : σ'.length = σ.length) (u : Und ρ vs) (h : ∀ k, k ∉ vs → σ'[k]? = σ[k]?) : SR c F ρ σ' H := by
  refine ⟨s.le, s.ext, s.keep, s.new, s.iot, s.iof, s.ioh, hl.trans s.len, fun i a e => ?_, fun i j a b p h1 h2 h3 h4 h5 h6 => ?_⟩
  · by_cases z : i ∈ vs
    · rw [u i z a e]; exact trivial
    · rw [h i z]; exact s.slot i a e
  · have n1 : i ∉ vs := fun z => by rw [u i z a h1] at h2; cases h2
    have n2 : j ∉ vs := fun z => by rw [u j z b h3] at h4; cases h4
    rw [h i n1] at h5
    rw [h j n2] at h6
    exact s.sep i j a b p h1 h2 h3 h4 h5 h6
/-- less is told -/
theorem SR.less {ρ' : List A} (s : SR c F ρ σ H) (hl : ρ'.length = ρ.length) (h : ∀ (i : Nat) a, ρ'[i]? = some a → a = .und ∨ ρ[i]? = some a) : SR c F ρ' σ H := by
  refine ⟨s.le, s.ext, s.keep, s.new, s.iot, s.iof, s.ioh, s.len.trans hl.symm, fun i a e => ?_, fun i j a b p h1 h2 h3 h4 h5 h6 => ?_⟩
  · rcases h i a e with z | z
    · rw [z]; exact trivial
    · exact s.slot i a z
  · rcases h i a h1 with z | z
    · rw [z] at h2; cases h2
    · rcases h j b h3 with y | y
      · rw [y] at h4; cases h4
      · exact s.sep i j a b p z h2 y h4 h5 h6
theorem wipeA_less (ρ : List A) (vs : List Nat) (i : Nat) (a : A) (e : (wipeA ρ vs)[i]? = some a) : a = .und ∨ ρ[i]? = some a := by
  by_cases z : i ∈ vs
  · exact .inl (wipeA_in z e)
  · rw [wipeA_out z] at e; exact .inr e
/-- a place that nobody knows of changes -/
theorem SR.free {p : Addr} {o : HO} (s : SR c F ρ σ H) (h1 : F p = none) (h2 : ¬ Own ρ σ p) (h3 : p ∉ c.ios) (h4 : c.H0 p = none) : SR c F ρ σ (upd H p o) := by
  refine ⟨fun b x h => ?_, s.ext, fun b x hb h => ?_, s.new, fun b hb => ?_, s.iof, s.ioh, s.len, fun i a h => ?_, s.sep⟩
  · rw [upd_ne (fun z => by rw [z, h1] at h; cases h)]; exact s.le b x h
  · rw [upd_ne (fun z => by rw [z, h4] at h; cases h)]; exact s.keep b x hb h
  · rw [upd_ne (fun z => h3 (by rw [← z]; exact hb))]; exact s.iot b hb
  · have q := s.slot i a h
    cases a with
    | own io ob =>
      obtain ⟨b, e1, e2, e3, x, e4, e5⟩ := q.own
      rw [e1]
      refine ⟨e2, e3, x, ?_, e5⟩
      rw [upd_ne (fun z => h2 ⟨i, _, h, rfl, by rw [← z]; exact join_some e1⟩)]
      exact e4
    | und => exact trivial
    | dat d =>
      obtain ⟨v, e1, r⟩ := q.dat
      rw [e1]
      exact r
end
structure TgOk (t : D → M Fl) : Prop where
  ok : ∀ d ρ r, t d ρ = some r → ∃ ρ', r = .ok .nx ρ' ∧ ρ'.length = ρ.length ∧ ∀ (i : Nat) a, ρ'[i]? = some a → a.isOwn = true → ρ[i]? = some a
structure TgsOk (t : List D → M Fl) : Prop where
  ok : ∀ d ρ r, t d ρ = some r → ∃ ρ', r = .ok .nx ρ' ∧ ρ'.length = ρ.length ∧ ∀ (i : Nat) a, ρ'[i]? = some a → a.isOwn = true → ρ[i]? = some a
theorem TgOk.nx {t : D → M Fl} (h : TgOk t) : ∀ d ρ r, t d ρ = some r → ∃ ρ', r = .ok .nx ρ' := fun d ρ r e => let ⟨ρ', x, _⟩ := h.ok d ρ r e; ⟨ρ', x⟩
theorem tok_name {i : Nat} : TgOk (tname i) := ⟨fun d ρ r h => by
  unfold tname mput at h
  by_cases z : canSet ρ i = true
  · rw [if_pos z] at h
    refine ⟨_, (Option.some.inj h).symm, List.length_set .., fun j a e ha => ?_⟩
    by_cases y : i = j
    · subst y
      rw [List.getElem?_set_self (canSet_lt z)] at e
      cases e
      cases ha
    · rw [List.getElem?_set_ne y] at e
      exact e
  · rw [if_neg z] at h
    cases h⟩
theorem tok_nil : TgsOk tnil := ⟨fun d ρ r h => by
  cases d with
  | nil => exact ⟨ρ, (Option.some.inj h).symm, rfl, fun i a e _ => e⟩
  | cons _ _ => cases h⟩
theorem tok_cons {t : D → M Fl} {u : List D → M Fl} (h1 : TgOk t) (h2 : TgsOk u) : TgsOk (tcons t u) := ⟨fun d ρ r h => by
  cases d with
  | nil => cases h
  | cons d ds =>
    have h : mseq (t d) (u ds) ρ = some r := h
    unfold mseq mbind at h
    dsimp only at h
    cases q : t d ρ with
    | none => rw [q] at h; cases h
    | some r1 =>
      obtain ⟨ρ1, rfl, l1, o1⟩ := h1.ok _ _ _ q
      rw [q] at h
      obtain ⟨ρ2, e2, l2, o2⟩ := h2.ok _ _ _ h
      exact ⟨ρ2, e2, l2.trans l1, fun i a e ha => o1 i a (o2 i a e ha) ha⟩⟩
theorem tok_tup {n : Nat} {t : List D → M Fl} (h1 : TgsOk t) : TgOk (ttup n t) := ⟨fun d ρ r h => by
  cases d with
  | tuple ds =>
    have h : (if ds.length = n then t ds else mfail) ρ = some r := h
    by_cases z : ds.length = n
    · rw [if_pos z] at h
      exact h1.ok _ _ _ h
    · rw [if_neg z] at h
      cases h
  | _ => cases h⟩
/-- the tests of a clause -/
def lcL (t : D → M Fl) (cd : M Bool) (fe : M D) (vs : List Nat) : List D → List D → List A → Option (List D × List A)
  | [], acc, ρ => some (acc, ρ)
  | d :: ds, acc, ρ => match t d ρ with
    | some (.ok .nx ρ1) => (match cd ρ1 with
      | some (.ok true ρ2) => (match fe ρ2 with
        | some (.ok y ρ3) => if acc.length < sizeLine then lcL t cd fe vs ds (acc ++ [y]) (wipeA ρ3 vs) else none
        | _ => none)
      | some (.ok false ρ2) => lcL t cd fe vs ds acc (wipeA ρ2 vs)
      | _ => none)
    | _ => none
def mlc (fi : M (List D)) (t : D → M Fl) (cd : M Bool) (fe : M D) (vs : List Nat) : M D := mbind fi fun ds => fun ρ => (lcL t cd fe vs ds [] (wipeA ρ vs)).map fun z => .ok (.list z.1) z.2
def WN : WX := fun _ _ _ _ => False
def PDts (c : Anc) (X : Cx) (ifs : List Expr) (f : M Bool) : Prop := PTs X ifs (rT c WN f)
section
variable {X : Cx} {c : Anc} {W : WX} {elt tg iter e : Expr} {ifs : List Expr} {fi : M (List D)} {t : D → M Fl} {cd : M Bool} {fe : M D} {ks : List Nat} {pos : Pos}
theorem pdts_nil : PDts c X [] (mpure true) := ⟨fun pins s σ H Q I h => pts_nil.run pins s σ H Q I (at_pure h.at_.choose_spec.choose_spec.2 true _ H h.at_.choose_spec.choose_spec.1 (Mv.refl _ _ _ _) rfl)⟩
theorem pdts_one {cd : M Bool} (h : PDt c X WN e cd) : PDts c X [e] cd := pts_one h
theorem noexc {α β : Type} {B : Hp → β → α → Prop} {Fx : Hp} {ρ : List A} {σ : St} {H : Hp} {Q : β → Hp → Prop} {f : M α} {a : α} {ρ' : List A} (e : f ρ = some (.ok a ρ')) (h : ∀ v F' H', SR c F' ρ' σ H' → Mv ρ ρ' σ Fx H F' H' → B F' v a → Q v H') : rdAt c WN B f Fx ρ σ H Q := ⟨_, e, h⟩
theorem lc_read {wi : TI} {vs : List Nat} (hks : ∀ k ∈ ks, k ∈ vs) (ht : TgOk t) {σ : St} {H : Hp} {Q : VK} (h : rE c W (mlc fi t cd fe vs) σ H Q) : tLc (rI c W fi) (rG c ks t) (rT c WN cd) (rE c WN fe) vs σ H Q := by
  obtain ⟨F, ρ, s, h⟩ := h.at_
  refine (at_bind s h fun ds J F1 H1 ρ1 s1 m1 b1 h1 => ?_).rd s
  obtain ⟨r, e, p⟩ := h1
  obtain ⟨⟨accF, ρF⟩, eL, er⟩ := Option.map_eq_some_iff.mp e
  subst er
  intro D hD
  have nio : D ∉ c.ios := fun z => by
    obtain ⟨o, q, _⟩ := s1.iot D z
    rw [hD] at q; cases q
  have nH0 : c.H0 D = none := by
    cases q : c.H0 D with
    | none => rfl
    | some o =>
      rw [s1.keep D o nio q] at hD; cases hD
  have nF1 : F1 D = none := by
    cases q : F1 D with
    | none => rfl
    | some o => rw [s1.le D o q] at hD; cases hD
  have nOwn1 : ¬ Own ρ1 σ D := fun ⟨i, a, h1, h2, h3⟩ => by
    cases a with
    | own io ob =>
      obtain ⟨p', x1, _, _, o, x4, _⟩ := s1.ownAt h1
      have z := x1.symm.trans h3
      cases z
      rw [hD] at x4; cases x4
    | _ => cases h2
  let Inv_ : Nat → Nat → Hp → Prop := fun i m H => ∃ F2 ρ2 acc av, m = ds.length - i ∧ i ≤ ds.length ∧ SR c F2 ρ2 σ H ∧ Und ρ2 vs ∧ (∀ b, Own ρ2 σ b → Own ρ1 σ b) ∧ F2 D = none ∧ H D = some (.lst av) ∧ Rps c.K F2 av acc ∧
    lcL t cd fe vs (ds.drop i) acc ρ2 = some (accF, ρF) ∧ Same F1 F2 ∧ (∀ b o, H1 b = some o → ¬ Own ρ1 σ b → H b = some o) ∧ (∀ b o, F2 b = some o → F1 b = some o ∨ H1 b = none ∨ Own ρ1 σ b)
  refine ⟨Inv_, ⟨ds.length, F1, wipeA ρ1 vs, [], [], by simp, Nat.zero_le _, ?_, wipeA_und _ _, fun b ⟨i, a, h1, h2, h3⟩ => ?_, nF1, upd_same, .nil, eL, Same.rf F1, fun b o h _ => ?_, fun b o h => .inl h⟩, fun i m H2 hW => ?_⟩
  · have s2 : SR c F1 (wipeA ρ1 vs) σ H1 := s1.less (wipeA_length _ _) (wipeA_less ρ1 vs)
    exact s2.free nF1 (fun ⟨i, a, h1, h2, h3⟩ => nOwn1 ⟨i, a, (wipeA_less ρ1 vs i a h1).resolve_left (fun z => by rw [z] at h2; cases h2), h2, h3⟩) nio nH0
  · exact ⟨i, a, (wipeA_less ρ1 vs i a h1).resolve_left (fun z => by rw [z] at h2; cases h2), h2, h3⟩
  · rw [upd_ne (fun z => by rw [z, hD] at h; cases h)]; exact h
  obtain ⟨F2, ρ2, acc, av, em, hi2, s2, und, sub, nF2, eD, rA', eL2, sF, kp, nw⟩ := hW
  by_cases hlt : i < ds.length
  · refine .inr ⟨b1.go i H2 (Same.tr sF s2.le) hlt, fun H' => ∃ m', m' < m ∧ Inv_ (i + 1) m' H', fun H' z => z, fun x H' y => ?_⟩
    obtain ⟨F3, s3, m3, r3⟩ := b1.yld i H2 x H' F2 ρ2 σ ds[i] sF s2 (List.getElem?_eq_getElem hlt) y
    rw [List.drop_eq_getElem_cons hlt] at eL2
    unfold lcL at eL2
    cases q : t ds[i] ρ2 with
    | none => rw [q] at eL2; cases eL2
    | some rt =>
      obtain ⟨ρ3, rfl, l3, o3⟩ := ht.ok _ _ _ q
      rw [q] at eL2
      dsimp only at eL2
      have s3' : SR c F3 ρ2 (wipe σ vs) H' := s3.slots (wipe_length σ vs) und fun k hk => wipe_out hk
      refine ⟨F3, ρ2, ds[i], ρ3, s3', r3, q, fun σ4 ch s4 => ?_⟩
      have hw : wipe σ4 vs = wipe σ vs := by
        apply List.ext_getElem?
        intro k
        by_cases hk : k ∈ vs
        · have l4 : (wipe σ4 vs).length = (wipe σ vs).length := by rw [wipe_length, wipe_length, ch.1, wipe_length]
          have a1 := wipe_in (σ := σ4) hk
          have a2 := wipe_in (σ := σ) hk
          by_cases hl : k < (wipe σ vs).length
          · rw [List.getElem?_eq_getElem hl] at a2 ⊢
            rw [List.getElem?_eq_getElem (by rw [l4]; exact hl)] at a1 ⊢
            have a1 : (wipe σ4 vs)[k]'(by rw [l4]; exact hl) = none := a1
            have a2 : (wipe σ vs)[k] = none := a2
            rw [a1, a2]
          · rw [List.getElem?_eq_none (by omega), List.getElem?_eq_none (by omega)]
        · rw [wipe_out hk, ch.2 k (fun z => hk (hks k z)), wipe_out hk]
      have sl4 : ∀ k, k ∉ vs → σ4[k]? = σ[k]? := fun k hk => by rw [ch.2 k (fun z => hk (hks k z)), wipe_out hk]
      have own4 : ∀ {ρx : List A}, (∀ b, Own ρx σ4 b → Own ρ3 σ4 b) → ∀ b, Own ρx σ4 b → Own ρ2 σ b := fun {ρx} hx b hb => by
        obtain ⟨k, a, h1, h2, h3⟩ := hx b hb
        have h1' := o3 k a h1 h2
        have nk : k ∉ vs := fun z => by
          rw [und k z a h1'] at h2; cases h2
        rw [sl4 k nk] at h3
        exact ⟨k, a, h1', h2, h3⟩
      have nD3 : F3 D = none := by
        cases z : F3 D with
        | none => rfl
        | some o =>
          rcases m3.new D o z with y | y | y
          · rw [nF2] at y; cases y
          · rw [eD] at y; cases y
          · exact (nOwn1 (sub D y)).elim
      have eD3 : H' D = some (.lst av) := m3.keep D _ eD fun z => nOwn1 (sub D z)
      refine ⟨hw, ?_⟩
      have kp3 : ∀ b o, H1 b = some o → ¬ Own ρ1 σ b → H' b = some o := fun b o h n => m3.keep b o (kp b o h n) fun z => n (sub b z)
      have nw3 : ∀ b o, F3 b = some o → F1 b = some o ∨ H1 b = none ∨ Own ρ1 σ b := fun b o h => by
        rcases m3.new b o h with h | h | h
        · exact nw b o h
        · cases z : H1 b with
          | none => exact .inr (.inl rfl)
          | some o' =>
            by_cases w : Own ρ1 σ b
            · exact .inr (.inr w)
            · rw [kp b o' z w] at h; cases h
        · exact .inr (.inr (sub b h))
      have stepMv : ∀ {ρx ρy : List A} {Fx Hx Fy Hy : Hp}, (∀ b, Own ρx σ4 b → Own ρ1 σ b) → Mv ρx ρy σ4 Fx Hx Fy Hy → (∀ b o, H1 b = some o → ¬ Own ρ1 σ b → Hx b = some o) → (∀ b o, Fx b = some o → F1 b = some o ∨ H1 b = none ∨ Own ρ1 σ b) →
          (∀ b o, H1 b = some o → ¬ Own ρ1 σ b → Hy b = some o) ∧ (∀ b o, Fy b = some o → F1 b = some o ∨ H1 b = none ∨ Own ρ1 σ b) := fun {ρx ρy Fx Hx Fy Hy} ow mv k1 n1 => by
        refine ⟨fun b o h n => mv.keep b o (k1 b o h n) fun z => n (ow b z), fun b o h => ?_⟩
        rcases mv.new b o h with h | h | h
        · exact n1 b o h
        · cases z : H1 b with
          | none => exact .inr (.inl rfl)
          | some o' =>
            by_cases w : Own ρ1 σ b
            · exact .inr (.inr w)
            · rw [k1 b o' z w] at h; cases h
        · exact .inr (.inr (ow b h))
      have ow3 : ∀ b, Own ρ3 σ4 b → Own ρ1 σ b := fun b hb => sub b (own4 (fun _ z => z) b hb)
      cases q2 : cd ρ3 with
      | none => rw [q2] at eL2; cases eL2
      | some rc =>
        rw [q2] at eL2
        cases rc with
        | exc n d ρ' => cases eL2
        | ok bb ρ4 =>
          refine rdAt.rd s4 (noexc q2 fun vb F4 H4 s5 m5 ev => ?_)
          have ev : vb = bb := ev
          subst ev
          obtain ⟨kp4, nw4⟩ := stepMv ow3 m5 kp3 nw3
          have ow4 : ∀ b, Own ρ4 σ4 b → Own ρ1 σ b := fun b hb => ow3 b (m5.sub b hb)
          have nD4 : F4 D = none := by
            cases z : F4 D with
            | none => rfl
            | some o =>
              rcases m5.new D o z with y | y | y
              · rw [nD3] at y; cases y
              · rw [eD3] at y; cases y
              · exact (nOwn1 (ow3 D y)).elim
          have eD4 : H4 D = some (.lst av) := m5.keep D _ eD3 fun z => nOwn1 (ow3 D z)
          have wow : ∀ {ρx : List A}, (∀ b, Own ρx σ4 b → Own ρ1 σ b) → ∀ b, Own (wipeA ρx vs) σ b → Own ρ1 σ b := fun {ρx} hx b ⟨k, a, h1, h2, h3⟩ => by
            have nk : k ∉ vs := fun z => by
              rw [wipeA_in z h1] at h2; cases h2
            refine hx b ⟨k, a, ?_, h2, by rw [sl4 k nk]; exact h3⟩
            rw [← wipeA_out nk]; exact h1
          have back : ∀ {Fx Hx : Hp} {ρx : List A}, SR c Fx ρx σ4 Hx → SR c Fx (wipeA ρx vs) σ Hx := fun {Fx Hx ρx} sx =>
            (sx.less (wipeA_length _ _) (wipeA_less ρx vs)).slots (by rw [ch.1, wipe_length]) (wipeA_und _ _) fun k hk => (sl4 k hk).symm
          cases vb with
          | false =>
            refine iteF ⟨ds.length - (i + 1), by omega, F4, wipeA ρ4 vs, acc, av, rfl, hlt, back s5, wipeA_und _ _, wow ow4, nD4, eD4, Rps.mono (Same.tr m3.ext m5.ext) rA', eL2, Same.tr sF (Same.tr m3.ext m5.ext), kp4, nw4⟩
          | true =>
            refine iteT ?_
            dsimp only at eL2
            cases q3 : fe ρ4 with
            | none => rw [q3] at eL2; cases eL2
            | some re =>
              rw [q3] at eL2
              cases re with
              | exc n d ρ' => cases eL2
              | ok yd ρ5 =>
                dsimp only at eL2
                refine rdAt.rd s5 (noexc q3 fun yv F5 H5 s6 m6 ry => ?_)
                by_cases hz : acc.length < sizeLine
                case neg =>
                  rw [if_neg hz] at eL2
                  cases eL2
                rw [if_pos hz] at eL2
                obtain ⟨kp5, nw5⟩ := stepMv ow4 m6 kp4 nw4
                have ow5 : ∀ b, Own ρ5 σ4 b → Own ρ1 σ b := fun b hb => ow4 b (m6.sub b hb)
                have nD5 : F5 D = none := by
                  cases z : F5 D with
                  | none => rfl
                  | some o =>
                    rcases m6.new D o z with y | y | y
                    · rw [nD4] at y; cases y
                    · rw [eD4] at y; cases y
                    · exact (nOwn1 (ow4 D y)).elim
                have eD5 : H5 D = some (.lst av) := m6.keep D _ eD4 fun z => nOwn1 (ow4 D z)
                have sF5 : Same F2 F5 := Same.tr m3.ext (Same.tr m5.ext m6.ext)
                refine ⟨av, eD5, by rw [Rps.len rA']; exact hz, ds.length - (i + 1), by omega, F5, wipeA ρ5 vs, acc ++ [yd], av ++ [yv], rfl, hlt, (back s6).free nD5 (fun z => nOwn1 (wow ow5 D z)) nio nH0, wipeA_und _ _, wow ow5, nD5, upd_same, Rps.app (Rps.mono sF5 rA') (.cons ry .nil), eL2, Same.tr sF sF5, fun b o h n => ?_, nw5⟩
                rw [upd_ne (fun z => by rw [z, hD] at h; cases h)]
                exact kp5 b o h n
  · have ei : i = ds.length := by omega
    subst ei
    rw [List.drop_length] at eL2
    have e2 : (acc, ρ2) = (accF, ρF) := Option.some.inj eL2
    cases e2
    refine .inl ⟨b1.stop _ H2 (Same.tr sF s2.le) (Nat.le_refl _), ?_⟩
    have sD : Same F2 (upd F2 D (.lst av)) := fun b x h => by rw [upd_ne (ne_of_none h nF2)]; exact h
    refine p (.ref D) (upd F2 D (.lst av)) H2 ⟨fun b x h => ?_, fun b x h => sD b x (s2.ext b x h), s2.keep, fun b x h => ?_, s2.iot, fun b hb => ?_, s2.ioh, s2.len, fun j a h => ?_, s2.sep⟩ ⟨Same.tr sF sD, kp, fun b x h => ?_, sub⟩ (.lst upd_same (Rps.mono sD rA'))
    · by_cases z : b = D
      · subst z; rw [upd_same] at h; rw [eD]; exact h
      · rw [upd_ne z] at h; exact s2.le b x h
    · by_cases z : b = D
      · subst z; exact .inr nH0
      · rw [upd_ne z] at h; exact s2.new b x h
    · rw [upd_ne (fun z => nio (by rw [← z]; exact hb))]; exact s2.iof b hb
    · refine (s2.slot j a h).mono sD fun q nq eq ha => ?_
      rw [upd_ne (fun z => ?_)]; exact nq
      subst z
      exact nOwn1 (sub q ⟨j, a, h, ha, join_some eq⟩)
    · by_cases z : b = D
      · subst z; exact .inr (.inl hD)
      · rw [upd_ne z] at h; exact nw b x h
theorem pd_lc {own : List (Str × Nat)} {scope : Scope} (hc : X.calm = true) (hN : X.N.Nodup) (hi : PDI c X W tg iter fi) (ok : BlkOk X.N X.env.scope scope own) (hks : ∀ k ∈ ks, k ∈ own.map (·.2)) (ht : TgOk t)
    (hg : ∀ (s : Shared) (H : Hp) (C : Addr) (cl : List (Str × Addr)) (fp : List Addr), PDG c (X.blk s H scope (compEnvC scope cl C X.env) fp) ks tg t) (hts : ∀ (s : Shared) (H : Hp) (C : Addr) (cl : List (Str × Addr)) (fp : List Addr), PDts c (X.blk s H scope (compEnvC scope cl C X.env) fp) ifs cd)
    (he : ∀ (s : Shared) (H : Hp) (C : Addr) (cl : List (Str × Addr)) (fp : List Addr), PD c (X.blk s H scope (compEnvC scope cl C X.env) fp) WN elt fe) (hs : ∀ x, foldedSetIterable iter X.env x = pure x := by intro _; rfl) : PD c X W (.ListComp elt [⟨tg, iter, ifs, 0⟩] scope pos) (mlc fi t cd fe (own.map (·.2))) := by
  exact PE.imp (pe_lc hc hN hi ok hg hts he hs) fun σ H Q h => lc_read (wi := rI c W fi) hks ht h
theorem pds_setLc {own : List (Str × Nat)} {scope : Scope} (i : Nat) {y : Str} {py spos : Pos} (hc : X.calm = true) (hN : X.N.Nodup) (hi : PDI c X W tg iter fi) (ok : BlkOk X.N X.env.scope scope own) (hks : ∀ k ∈ ks, k ∈ own.map (·.2)) (ht : TgOk t)
    (hg : ∀ (s : Shared) (H : Hp) (C : Addr) (cl : List (Str × Addr)) (fp : List Addr), PDG c (X.blk s H scope (compEnvC scope cl C X.env) fp) ks tg t) (hts : ∀ (s : Shared) (H : Hp) (C : Addr) (cl : List (Str × Addr)) (fp : List Addr), PDts c (X.blk s H scope (compEnvC scope cl C X.env) fp) ifs cd)
    (he : ∀ (s : Shared) (H : Hp) (C : Addr) (cl : List (Str × Addr)) (fp : List Addr), PD c (X.blk s H scope (compEnvC scope cl C X.env) fp) WN elt fe) (hy : X.N[i]? = some y := by rfl) (hyl : X.env.scope.names.lookup y = some .local := by rfl)
    (hsw : swapsWith (.ListComp elt [⟨tg, iter, ifs, 0⟩] scope pos) (some (.Name y py)) spos.line X.env = pure true := by exact sw_true rfl rfl rfl (by decide +kernel)) (hs : ∀ x, foldedSetIterable iter X.env x = pure x := by intro _; rfl) :
    PDS c X W (.Assign [.Name y py] (.ListComp elt [⟨tg, iter, ifs, 0⟩] scope pos) spos) (mset i (mlc fi t cd fe (own.map (·.2)))) := by
  refine PS.imp (ps_setLc hc hN hy hyl hsw hi ok hg hts he hs) fun σ H Dn ⟨F, ρ, s, h⟩ => ?_
  exact lc_read (wi := rI c W fi) hks ht (at_bindS s h fun x v F1 H1 ρ1 s1 m1 b1 h1 => put_at s1 b1 h1)
end
end L2.DL

set_option maxHeartbeats 1000000
namespace L2.DL
open PySem PySem.Spec PyProof.Rows
section
variable {X : Cx} {c : Anc} {W : WX} {e a : Expr} {es : List Expr} {fe : M D} {fs : M (List D)} {pos : Pos}
/-! ### a, b = x, y -/
def mpar (is : List Nat) (fs : M (List D)) : M Fl := mbind fs fun ds => fun ρ => if ds.length = is.length ∧ is.all (canSet ρ) = true then some (.ok .nx ((is.zip ds).foldl (fun r p => r.set p.1 (.dat p.2)) ρ)) else none
theorem canSet_dat {ρ : List A} {i j : Nat} {d : D} (h : canSet ρ j = true) : canSet (ρ.set i (.dat d)) j = true := by
  unfold canSet at h ⊢
  by_cases z : i = j
  · subst z
    by_cases hl : i < ρ.length
    · rw [List.getElem?_set_self hl]
    · rw [List.getElem?_eq_none (by omega)] at h
      cases h
  · rw [List.getElem?_set_ne z]; exact h
theorem pds_par2 (i j : Nat) {x y : Str} {a b : Expr} {px py pt : Pos} {kt k2 pt2} (hc : X.calm = true) (hN : X.N.Nodup) (ha : PDs c X W [a, b] fs) (hij : i ≠ j := by decide) (hi : X.N[i]? = some x := by rfl) (hj : X.N[j]? = some y := by rfl)
    (hx : X.env.scope.names.lookup x = some .local := by rfl) (hy : X.env.scope.names.lookup y = some .local := by rfl) (hw : swappedStores [.Tuple [.Name x px, .Name y py] kt pt] (.Tuple [a, b] k2 pt2) X.env = pure (some [x, y]) := by rfl)
    (hs : swapsWithSole [.Tuple [.Name x px, .Name y py] kt pt] (.Tuple [a, b] k2 pt2) pos.line X.env = pure false := by rfl) :
    PDS c X W (.Assign [.Tuple [.Name x px, .Name y py] kt pt] (.Tuple [a, b] k2 pt2) pos) (mpar [i, j] fs) := by
  refine PS.imp (ps_par hc hN hi hj hij hx hy ha hw hs) fun σ H Dn ⟨F, ρ, s, h⟩ => ?_
  refine at_bindS s h fun ds vs F1 H1 ρ1 s1 m1 b1 ⟨r, e, p⟩ => ?_
  have e : (if ds.length = 2 ∧ [i, j].all (canSet ρ1) = true then some (Rs.ok Fl.nx (([i, j].zip ds).foldl (fun r p => r.set p.1 (.dat p.2)) ρ1)) else none) = some r := e
  by_cases z : ds.length = 2 ∧ [i, j].all (canSet ρ1) = true
  · rw [if_pos z] at e
    obtain ⟨z1, z2⟩ := z
    match ds, b1, z1 with
    | [d1, d2], .cons r1 (.cons r2 .nil), _ =>
      cases e
      have c1 : canSet ρ1 i = true := List.all_eq_true.mp z2 i (by simp)
      have c2 : canSet ρ1 j = true := List.all_eq_true.mp z2 j (by simp)
      have sA := s1.setA (canSet_lt c1) (a := .dat d1) r1 fun q => nomatch q
      have sB := sA.setA (canSet_lt (canSet_dat (i := i) (d := d1) c2)) (a := .dat d2) r2 fun q => nomatch q
      exact ⟨_, _, rfl, p _ F1 H1 (Same.rf F1) sB⟩
  · rw [if_neg z] at e
    cases e
theorem pds_par3 (i j l : Nat) {x y z : Str} {a b d : Expr} {px py pz pt : Pos} {kt k2 pt2} (hc : X.calm = true) (hN : X.N.Nodup) (ha : PDs c X W [a, b, d] fs) (hij : i ≠ j := by decide) (hil : i ≠ l := by decide) (hjl : j ≠ l := by decide) (hi : X.N[i]? = some x := by rfl) (hj : X.N[j]? = some y := by rfl) (hl : X.N[l]? = some z := by rfl)
    (hx : X.env.scope.names.lookup x = some .local := by rfl) (hy : X.env.scope.names.lookup y = some .local := by rfl) (hz : X.env.scope.names.lookup z = some .local := by rfl) (hw : swappedStores [.Tuple [.Name x px, .Name y py, .Name z pz] kt pt] (.Tuple [a, b, d] k2 pt2) X.env = pure (some [x, y, z]) := by rfl)
    (hs : swapsWithSole [.Tuple [.Name x px, .Name y py, .Name z pz] kt pt] (.Tuple [a, b, d] k2 pt2) pos.line X.env = pure false := by rfl) :
    PDS c X W (.Assign [.Tuple [.Name x px, .Name y py, .Name z pz] kt pt] (.Tuple [a, b, d] k2 pt2) pos) (mpar [i, j, l] fs) := by
  refine PS.imp (ps_par3 hc hN hi hj hl hij hil hjl hx hy hz ha hw hs) fun σ H Dn ⟨F, ρ, s, h⟩ => ?_
  refine at_bindS s h fun ds vs F1 H1 ρ1 s1 m1 b1 ⟨r, e, p⟩ => ?_
  have e : (if ds.length = 3 ∧ [i, j, l].all (canSet ρ1) = true then some (Rs.ok Fl.nx (([i, j, l].zip ds).foldl (fun r p => r.set p.1 (.dat p.2)) ρ1)) else none) = some r := e
  by_cases z : ds.length = 3 ∧ [i, j, l].all (canSet ρ1) = true
  · rw [if_pos z] at e
    obtain ⟨z1, z2⟩ := z
    match ds, b1, z1 with
    | [d1, d2, d3], .cons r1 (.cons r2 (.cons r3 .nil)), _ =>
      cases e
      have c1 : canSet ρ1 i = true := List.all_eq_true.mp z2 i (by simp)
      have c2 : canSet ρ1 j = true := List.all_eq_true.mp z2 j (by simp)
      have c3 : canSet ρ1 l = true := List.all_eq_true.mp z2 l (by simp)
      have sA := s1.setA (canSet_lt c1) (a := .dat d1) r1 fun q => nomatch q
      have sB := sA.setA (canSet_lt (canSet_dat (i := i) (d := d1) c2)) (a := .dat d2) r2 fun q => nomatch q
      have sC := sB.setA (canSet_lt (canSet_dat (i := j) (d := d2) (canSet_dat (i := i) (d := d1) c3))) (a := .dat d3) r3 fun q => nomatch q
      exact ⟨_, _, _, rfl, p _ F1 H1 (Same.rf F1) sC⟩
  · rw [if_neg z] at e
    cases e
/-! ### errors of the own classes -/
/-- what the head tells of an own error class x; fI: where MirrorsError's __init__ stands -/
structure ExF (K : PySem.W.Frag) (mg : Str → Option Value) (fI : Addr) (x : Str) : Prop where
  g : mg x = some (.ref (He.ga K x))
  T : OexC K (He.ga K x)
  iC : PySem.W.findIn K (.ref (He.ga K x)) "__init__" = some (some (.ref fI))
  tI : PySem.W.typeIn K (.ref fI) = some (.type "function")
  nv : PySem.W.findIn K (.ref (He.ga K x)) "value" = some none
  xf : XfC K (He.ga K x)
/-- __init__(self, value) of an own error class -/
def spInit (K : PySem.W.Frag) : Sp := fun vs H Q _ => ∃ (a C : Addr) (y : V), vs = [.ref a, y] ∧ OexC K C ∧ PySem.W.findIn K (.ref C) "value" = some none ∧ H a = some (exo a C none) ∧ ∀ dx, H dx = none → dx ≠ a → Q .non (upd (upd H dx (exd dx [("value", y)])) a (exo a C (some dx)))
/-- the promise of __init__ at the module -/
structure IniOk (P : Program) (w : World) (K : PySem.W.Frag) (mg : Str → Option Value) (base : Heap) (fI : Addr) : Prop where
  ex : ∃ (fd : FuncData) (ps : List Str), FnOk P w K mg base (L2.CX P w) 1 fI fd ps (spInit K) ∧ Binds K fd ps []
def mraise (x : Str) (f : M D) : M Fl := mbind f fun d => fun ρ => some (.exc x d ρ)
/-- an untracked thing is laid beside the data -/
theorem SR.beside {F : Hp} {ρ : List A} {σ : St} {H : Hp} {p : Addr} {o : HO} (s : SR c F ρ σ H) (n : H p = none) : SR c F ρ σ (upd H p o) := by
  refine s.free ?_ (fun ⟨i, a, h1, h2, h3⟩ => ?_) (fun z => ?_) ?_
  · cases q : F p with
    | none => rfl
    | some x => rw [s.le _ _ q] at n; cases n
  · cases a with
    | own io ob =>
      obtain ⟨b, e1, _, _, x, e4, _⟩ := s.ownAt h1
      have z := e1.symm.trans h3
      cases z
      rw [n] at e4; cases e4
    | _ => cases h2
  · obtain ⟨x, q, _⟩ := s.iot p z
    rw [n] at q; cases q
  · cases q : c.H0 p with
    | none => rfl
    | some x =>
      by_cases z : p ∈ c.ios
      · obtain ⟨x, q, _⟩ := s.iot p z
        rw [n] at q; cases q
      · rw [s.keep p x z q] at n; cases n
theorem pds_raise {x : Str} {p pos' : Pos} {fI : Addr} {k : Nat} (hc : X.calm = true) (tk : Takes X W) (E : ExF X.K X.mg fI x) (I : IniOk X.prog X.w X.K X.mg X.base fI) (hr : Room (k + 2) X.A) (hg : Gl X x) (ha : PD c X W e fe) (hdb : (x == ("__debug__" : Str)) = false := by decide)
    (he : starEach [e] X.env = (false, eval e X.env) :: starEach [] X.env := by rfl) (hK : X.K = c.K := by rfl) : PDS c X W (.Raise (some (.Call (.Name x p) [e] [] pos)) none pos') (mraise x fe) := by
  obtain ⟨fd, ps, F1, b1⟩ := I.ex
  have mk := pmk_oex (p := p) (pos := pos) E.T E.iC E.tI F1 (hr.mono (by omega)) b1 .nil passL hg E.g (pa_cons ha pa_nil he) hdb he rfl
  refine PS.imp (ps_raise hc tk mk) fun σ H Dn ⟨F, ρ, s, h⟩ => ?_
  refine at_bindS s h fun d v F1 H1 ρ1 s1 m1 b1 ⟨r, e, p⟩ => ?_
  have e' : Rs.exc x d ρ1 = r := Option.some.inj e
  subst e'
  refine ⟨by simp, fun a na => ⟨a, He.ga X.K x, v, rfl, E.T, E.nv, upd_same, fun dx nd ne => ⟨rfl, dx, [("value", v)], upd_same, ?_, ?_, ?_⟩⟩⟩
  · rw [upd_ne ne, upd_same]
  · rw [upd_ne ne] at nd; exact nd
  · rw [upd_ne ne] at nd
    have eH : upd (del (upd (upd (upd H1 a (exo a (He.ga X.K x) none)) dx (exd dx [("value", v)])) a (exo a (He.ga X.K x) (some dx))) a) dx (.xd [("value", v)]) = upd H1 dx (.xd [("value", v)]) := by
      funext b
      by_cases z : b = dx
      · subst z; rw [upd_same, upd_same]
      · rw [upd_ne z, upd_ne z]
        by_cases y : b = a
        · subst y; rw [del_same, na]
        · rw [del_ne y, upd_ne y, upd_ne z, upd_ne y]
    rw [eH, hK]
    exact p σ F1 _ (Same.rf F1) (s1.beside nd) dx v upd_same b1
end
end L2.DL

set_option maxHeartbeats 1000000
namespace L2.DL
open PySem PySem.Spec PyProof.Rows
/-! ### __init__(self, value): ValueError.__init__(self, value); self.value = value -/
section
variable {P : Program} {w : World} {K : PySem.W.Frag} {mg : Str → Option Value} {base : Heap} {x qual : Str} {params : Arguments} {scope : Scope} {f : Addr} {fd : FuncData}
theorem ini_ok {p1 p2 p3 p4 p5 p6 p7 p8 p9 p10 : Pos} (F : FunD K x qual params [.Expr (.Call (.Attribute (.Name "ValueError" p1) "__init__" p2) [.Name "self" p3, .Name "value" p4] [] p5) p6, .Assign [.Attribute (.Name "self" p7) "value" p8] (.Name "value" p9) p10] scope [] [] f fd)
    (S : FnScope ["self", "value"] ["self", "value"] scope) (l1 : scope.names.lookup ("self" : Str) = some .local) (l2 : scope.names.lookup ("value" : Str) = some .local) (l3 : scope.names.lookup ("ValueError" : Str) = some .globalImplicit)
    (hm : mg "ValueError" = none) (vV : PySem.W.findCls K (.type "ValueError") (.type "type") "__init__" = some (.val (.builtin "ValueError.__init__")))
    (hb : Binds K fd ["self", "value"] []) (pl : Env → Sem Bool)
    (hc : ∀ env, eval (.Call (.Attribute (.Name "ValueError" p1) "__init__" p2) [.Name "self" p3, .Name "value" p4] [] p5) env = (do
      let ov ← eval (.Name "ValueError" p1) env
      standAt p2.atName
      let (f, first) ← holding [ov] (getMethod ov "__init__" (pl env))
      callWith p5 f first (backTo p5 (starEach [.Name "self" p3, .Name "value" p4] env)) (backToKw p5 (keywordEach [] env)))) : IniOk P w K mg base f := by
  refine ⟨fd, ["self", "value"], F.ok S (fun vs H Q E h => ?_) (fun cdv A outer s H vs Q E hr h => ?_), hb⟩
  · obtain ⟨a, C, y, rfl, _⟩ := h
    rfl
  · obtain ⟨a, C, y, rfl, T, nv, ea, q⟩ := h
    refine ⟨_, pss_cons (ps_expr (pe_veinit (pl := pl _) (show Gl _ _ from l3) hm vV (pa_cons (pv 0 rfl (.inl l1)) (pa_cons (pv 1 rfl (.inl l2)) pa_nil)) (hc _))) (pss_one (ps_ost (pv 0 rfl (.inl l1)) (pv 1 rfl (.inl l2)))), ?_⟩
    refine ⟨_, rfl, _, rfl, a, C, [y], rfl, by simp, T, ea, ?_⟩
    refine ⟨y, rfl, _, rfl, a, C, rfl, T, nv, .inl ⟨ea, fun dx nd ne => ?_⟩⟩
    exact q dx nd ne
end
end L2.DL

set_option maxHeartbeats 1000000
namespace L2.DL
open PySem PySem.Spec PyProof.Rows
/-! ### try: .. except X1 as n1: .. except X2 as n2: .. -/
abbrev SuiT := Addr → Value → Option Addr → TS
def cut (i : Nat) (Dn : Ends) : Ends := ⟨fun σ H => Dn.nx (σ.set i none) H, Dn.rt, fun σ H => Dn.bk (σ.set i none) H, fun σ H => Dn.ct (σ.set i none) H⟩
/-- what the named clauses wish of an error of the body -/
def wNm (K : PySem.W.Frag) (Wx : WX) (Dn : Ends) : List (Value × Nat × SuiT) → WX
  | [] => Wx
  | p :: ps => fun cl od σ H => ∃ b, PySem.W.exmOne K cl p.1 = some b ∧ (b = true → ∀ z, H z = none → p.2.2 z cl od (cut p.2.1 Dn) (σ.set p.2.1 (some (.ref z))) H) ∧ (b = false → wNm K Wx Dn ps cl od σ H)
inductive HNs (X : Cx) : List ExceptHandler → List (Value × Nat × SuiT) → Prop
  | nil : HNs X [] []
  | cons {x n : Str} {v : Value} {i : Nat} {ts : SuiT} {st : Stmt} {sts : List Stmt} {p1 p2 : Pos} {hs : List ExceptHandler} {l : List (Value × Nat × SuiT)} (nm : Names X x v) (hi : X.N[i]? = some n) (hn : X.env.kindOf n = some .local)
      (su : ∀ (z : Addr) (oz : Obj) (cl : Value) (od : Option Addr) (q : List (Addr × Obj)), Zc cl od oz → (∃ fs, oz.data = .fields fs) → PSs (X.suite z ((z, oz) :: q)) (st :: sts) (ts z cl od)) (rest : HNs X hs l) : HNs X (.ExceptHandler (some (.Name x p1)) (some n) (st :: sts) p2 :: hs) ((v, i, ts) :: l)
section
variable {X : Cx} {pos : Pos} {b : List Stmt} {h0 : ExceptHandler} {hs : List ExceptHandler} {l : List (Value × Nat × SuiT)} {tb : WX → TS} {Wx : WX}
theorem ps_try_names (st : X.stack = X.env :: X.outer) (fr : X.env.frame = some X.env.locals) (hN : X.N.Nodup) (tk : Takes X Wx)
    (body : ∀ (W : WX) (q : List (Addr × Obj)) (xe : Value → Shared → Prop), Takes (X.tr q xe) W → PassesOwn (model X.prog X.w) X.A X.env xe → PSs (X.tr q xe) b (tb W)) (hh : HNs X (h0 :: hs) l) :
    PS X (.Try b (h0 :: hs) [] [] pos) (fun Dn σ H => tb (wNm X.K Wx Dn l) Dn σ H) := by
  constructor
  intro pins s σ H Dn I t0
  have iok := I.ok
  have frm : X.A.frames = some (X.env :: X.outer) := iok.frames.trans (congrArg _ st)
  apply wpAny_Try_except
  have B := body (wNm X.K Wx Dn l) (X.pn ++ pins) (fun ev s1 => wpAny (model X.prog X.w) X.A (noteFrame ev X.env) (fun _ s2 => wpAny (model X.prog X.w) X.A (setFlight ev none) (fun _ s3 => wpAny (model X.prog X.w) X.A (handleBy ev X.env (h0 :: hs)) (SP X pins Dn) X.xe s3) X.xe s2) X.xe s1)
  refine wpAny_mono ((B (fun u s9 caught => ?_) PassesOwn.looking).run [] s σ H Dn (I.toTry _) t0) (fun fl s1 sp => ?_) fun _ _ z => z
  · obtain ⟨z, Bn, sI, pn9, σ9, H9, cl, od, rfl, J0, nb, u9, sk, zn, os, ag, wish⟩ := caught
    have J := J0.ofTry iok
    have sk' : Sky Bn (X.env :: X.outer) z (Zc cl od) X.env.locals s9.heap := st ▸ sk
    refine Sky.land Zc.steady frm fr sk' fun g3 f3 u3 => ?_
    have K3 : Inv X pins σ9 H9 { s9 with heap := g3 } := J.landed nb f3.1 (u9.trans u3) os ag
    obtain ⟨oz, vz, ez, cz, dz⟩ := f3.there
    have away : z ∉ frs (X.env :: X.outer) := fun hm => by
      obtain ⟨_, o9, e9, nf⟩ := f3.2.2.1.mem hm
      rw [ez] at e9
      cases e9
      exact nf _ dz
    have zL : z ≠ X.env.locals := fun y => away (List.mem_filterMap.mpr ⟨_, List.mem_cons_self, y ▸ fr⟩)
    have zF : z ∉ X.fs := fun hm => by
      obtain ⟨e1, e2, e3⟩ := List.mem_filterMap.mp hm
      exact away (List.mem_filterMap.mpr ⟨e1, List.mem_cons_of_mem _ e2, e3⟩)
    have S3 := K3.suite ez dz zn zL zF
    have all : ∀ {ks : List ExceptHandler} {m : List (Value × Nat × SuiT)}, HNs X ks m → wNm X.K Wx Dn m cl od σ9 H9 → wpAny (model X.prog X.w) X.A (handleBy (.ref z) X.env ks) (SP X pins Dn) X.xe { s9 with heap := g3 } := by
      intro ks m hk
      induction hk with
      | nil =>
        intro w9
        apply wpAny_handleBy_nil
        obtain ⟨k1, k2, k3, oo, vv, T, oT, tt, x1, x2, x3, x4, x5⟩ := id f3
        unfold PySem.passOn
        refine wpAny_bind (wpAny_field x1 x3 x4 ?_)
        rw [if_neg (by simp : ¬ ((Value.ref T == Value.none) = true))]
        refine wpAny_bind ?_
        rw [fr]
        refine HandSPX.setFlight_upZ f3 fun g4 k4 u4 => wpAny_throw ?_
        exact tk _ _ ⟨z, Bn, sI, pins, σ9, H9, cl, od, rfl, J, nb, (u9.trans u3).trans u4, .inr (.inr (st.symm ▸ k4)), zn, os, ag, w9⟩
      | @cons x n v i ts st0 sts p1 p2 ks m nm hi hn su rest ih =>
        intro ⟨bb, w1, wy, wn⟩
        refine wpAny_handleBy_cons (codeAny_handlers_test ?_) (by rintro ⟨⟩)
        have lk : PySem.W.Looks (model X.prog X.w) g3 (typeOf (.ref z)) cl := by
          intro A Q E s k q
          exact wpAny_typeOf_ref (k _ _ ez) (cz.1.symm ▸ q)
        have ld : ∀ {Q E : Value → Shared → Prop}, Q v { s9 with heap := g3 } → wpAny (model X.prog X.w) (X.A.mark (some (.ref z))) (eval (.Name x p1) X.env) Q E { s9 with heap := g3 } := by
          intro Q E q
          rcases nm with ⟨n1, n2, n3 | ⟨n3, n4, n5⟩⟩
          · exact ld_glob (X := X.suite z ((z, oz) :: (X.pn ++ pins))) S3 n1 n3 q n2
          · exact ld_blt (X := X.suite z ((z, oz) :: (X.pn ++ pins))) S3 n1 n3 n4 q n5 n2
        refine ld ((PySem.W.exm_one (M := model X.prog X.w) K3.kIn lk w1).here ?_)
        cases bb with
        | false => exact ih (wn rfl)
        | true =>
          apply codeAny_handlers_suite_as
          refine HandSPX.lands_againZ f3 fun g4 f4 u4 => ?_
          have K4 : Inv X pins σ9 H9 { s9 with heap := g4 } := J.landed nb f4.1 ((u9.trans u3).trans u4) os ag
          obtain ⟨oy, vy, ey, cy, dy⟩ := f4.there
          refine store_ok (X := X.suite z ((z, oy) :: (X.pn ++ pins))) (v := .ref z) (K4.suite ey dy zn zL zF) hN hi (Or.inl hn) rfl (fun s5 S5 => ?_) (Or.inr hn)
          refine wpAny_mono ((su z oy cl od (X.pn ++ pins) cy ⟨_, dy⟩).run [] s5 _ H9 _ S5 (wy rfl z zn)) (fun fl s6 sp => ?_) fun _ _ y => y.elim
          have fin : ∀ {σ6 : St} {H6 : Hp} {Q : Shared → Prop}, Inv (X.suite z ((z, oy) :: (X.pn ++ pins))) [] σ6 H6 s6 → (∀ s7, Inv X pins (σ6.set i none) H6 s7 → Q s7) → wpAny (model X.prog X.w) X.A (do bindName X.env n .none; unbindBehindTheSuite X.env n p2) (fun _ s7 => Q s7) X.xe s6 :=
            fun S6 hq => gone_ok (S6.unsuite iok) hN hi hn hq
          cases fl with
          | ret u =>
            obtain ⟨v6, σ6, H6, S6, r6, q6⟩ := sp
            exact fin S6 fun s7 J7 => ⟨v6, _, H6, J7, r6, q6⟩
          | next =>
            obtain ⟨σ6, H6, S6, q6⟩ := sp
            exact fin S6 fun s7 J7 => ⟨_, H6, J7, q6⟩
          | brk =>
            obtain ⟨σ6, H6, S6, q6⟩ := sp
            exact fin S6 fun s7 J7 => ⟨_, H6, J7, q6⟩
          | cont =>
            obtain ⟨σ6, H6, S6, q6⟩ := sp
            exact fin S6 fun s7 J7 => ⟨_, H6, J7, q6⟩
    exact all hh wish
  · cases fl with
    | ret u =>
      obtain ⟨v6, σ6, H6, S6, r6, q6⟩ := sp
      exact ⟨v6, σ6, H6, S6.ofTry iok, r6, q6⟩
    | next =>
      obtain ⟨σ6, H6, S6, q6⟩ := sp
      exact wpAny_execs_nil ⟨σ6, H6, S6.ofTry iok, q6⟩
    | brk =>
      obtain ⟨σ6, H6, S6, q6⟩ := sp
      exact ⟨σ6, H6, S6.ofTry iok, q6⟩
    | cont =>
      obtain ⟨σ6, H6, S6, q6⟩ := sp
      exact ⟨σ6, H6, S6.ofTry iok, q6⟩
end
end L2.DL
namespace L2.DL
open PySem PySem.Spec PyProof.Rows
/-- in a clause's suite: the caught error's value -/
structure Cau (c : Anc) (i : Nat) (z : Addr) (cl : Value) (od : Option Addr) (F : Hp) (ρ : List A) (σ : St) (H : Hp) (dv : D) : Prop where
  ex : ∃ (C dd : Addr) (v : V), cl = .ref C ∧ XfC c.K C ∧ PySem.W.findIn c.K (.ref C) "value" = some none ∧ od = some dd ∧ σ[i]? = some (some (.ref z)) ∧ H dd = some (.xd [("value", v)]) ∧ Rp c.K F v dv
  s : SR c F ρ σ H
/-- an expression over the caught error's value -/
def rV (c : Anc) (i : Nat) (g : D → D) (z : Addr) (cl : Value) (od : Option Addr) : TE := fun σ H Q => ∃ F ρ dv, Cau c i z cl od F ρ σ H dv ∧ ∀ w F1 H1, Same F F1 → SR c F1 ρ σ H1 → Rp c.K F1 w (g dv) → Q w H1
def SuV (c : Anc) (X : Cx) (i : Nat) (e : Expr) (g : D → D) : Prop := ∀ (z : Addr) (oz : Obj) (cl : Value) (od : Option Addr) (q : List (Addr × Obj)), Zc cl od oz → (∃ fs, oz.data = .fields fs) → PE (X.suite z ((z, oz) :: q)) e (rV c i g z cl od)
/-- a suite -/
def tSu (c : Anc) (W : WX) (i : Nat) (fs : D → M Fl) : SuiT := fun z cl od Dn σ H => ∃ F ρ dv, Cau c i z cl od F ρ σ H dv ∧ (∀ n d ρ', fs dv ρ ≠ some (.exc n d ρ')) ∧ rSAt c W (fs dv) F ρ Dn
def SuOk (c : Anc) (X : Cx) (W : WX) (i : Nat) (st : Stmt) (fs : D → M Fl) : Prop := ∀ (z : Addr) (oz : Obj) (cl : Value) (od : Option Addr) (q : List (Addr × Obj)), Zc cl od oz → (∃ fs, oz.data = .fields fs) → PSs (X.suite z ((z, oz) :: q)) [st] (tSu c W i fs z cl od)
section
variable {X : Cx} {c : Anc} {W : WX} {e : Expr} {g : D → D} {pos : Pos} {i : Nat}
theorem sv_val {n : Str} {p p2 : Pos} (hi : X.N[i]? = some n := by rfl) (hn : X.env.scope.names.lookup n = some .local := by rfl) (h1 : (n == ("__debug__" : Str)) = false := by decide) (h2 : (n == ("__classdict__" : Str)) = false := by decide)
    (hb : attributeBase (.Name n p) "value" X.env (eval (.Name n p) X.env) = eval (.Name n p) X.env := by rfl) (hK : X.K = c.K := by rfl) : SuV c X i (.Attribute (.Name n p) "value" p2) (fun d => d) := by
  intro z oz cl od q hz hf
  by_cases y : ∃ C, cl = .ref C ∧ XfC c.K C ∧ PySem.W.findIn c.K (.ref C) "value" = some none
  · obtain ⟨C, rfl, x1, x2⟩ := y
    have p1 : PE (X.suite z ((z, oz) :: q)) (.Name n p) (tVar i) := pe_var hi (.inl hn) h1 h2
    refine PE.imp (pe_xf (by rw [hK]; exact x1) (by rw [hK]; exact x2) hz hf p1 hb) fun σ H Q ⟨F, ρ, dv, ⟨⟨C1, dd, v, e1, _, _, e2, e3, e4, r⟩, s⟩, k⟩ => ?_
    exact ⟨_, e3, rfl, rfl, dd, _, v, e2, e4, rfl, k v F H (Same.rf F) s r⟩
  · exact ⟨fun _ _ _ _ _ _ ⟨_, _, _, ⟨⟨C, _, _, e1, x1, x2, _⟩, _⟩, _⟩ => (y ⟨C, e1, x1, x2⟩).elim⟩
theorem sv_tup {k : Str} {p1 p2 : Pos} {kk kt} (hv : SuV c X i e g)
    (h1 : starEach [.Constant (.str k) kk p1, e] X.env = (false, eval (.Constant (.str k) kk p1) X.env) :: starEach [e] X.env := by rfl) (h2 : starEach [e] X.env = (false, eval e X.env) :: starEach [] X.env := by rfl) :
    SuV c X i (.Tuple [.Constant (.str k) kk p1, e] kt p2) (fun d => .tuple [.str k, g d]) := by
  intro z oz cl od q hz hf
  refine PE.imp (pe_tup (pa_cons (X := X.suite z ((z, oz) :: q)) (pe_str (x := k)) (pa_cons (hv z oz cl od q hz hf) pa_nil h2) h1)) fun σ H Q ⟨F, ρ, dv, ca, kk⟩ => ?_
  refine ⟨F, ρ, dv, ca, fun w F1 H1 sF s1 r1 => ⟨by show 2 ≤ sizeLine; rw [sizeLine_eq]; omega, fun p np => ?_⟩⟩
  obtain ⟨s2, m2, r2⟩ := new_tup s1 np (.cons (.str k) (.cons r1 .nil))
  exact kk _ _ _ (Same.tr sF m2.ext) s2 r2
theorem su_set {j : Nat} {y : Str} {p : Pos} (hN : X.N.Nodup) (hv : SuV c X i e g) (hj : X.N[j]? = some y := by rfl) (hy : X.env.scope.names.lookup y = some .local := by rfl) (hs : swapsWith e (some (.Name y p)) pos.line X.env = pure false := by rfl) :
    SuOk c X W i (.Assign [.Name y p] e pos) (fun d => mput j (.dat (g d))) := by
  intro z oz cl od q hz hf
  refine PSs.imp (pss_one (ps_set (X := X.suite z ((z, oz) :: q)) hN hj (.inl hy) (hv z oz cl od q hz hf) hs (.inr hy))) fun σ H Dn ⟨F, ρ, dv, ca, _, r, e1, p⟩ => ?_
  refine ⟨F, ρ, dv, ca, fun w F1 H1 sF s1 r1 => put_at s1 r1 ⟨r, e1, p.mono sF⟩⟩
theorem su_ret (hv : SuV c X i e g) : SuOk c X W i (.Return (some e) pos) (fun d => mpure (.rt (g d))) := by
  intro z oz cl od q hz hf
  refine PSs.imp (pss_one (ps_ret (hv z oz cl od q hz hf))) fun σ H Dn ⟨F, ρ, dv, ca, _, r, e1, p⟩ => ?_
  refine ⟨F, ρ, dv, ca, fun w F1 H1 sF s1 r1 => ?_⟩
  have e' : Rs.ok (.rt (g dv)) ρ = r := Option.some.inj e1
  subst e'
  exact p w σ F1 H1 sF s1 r1
end
/-- a clause: the class, its name's slot, the suite -/
structure Cl where
  x : Str
  i : Nat
  fs : D → M Fl
/-- which clause catches an error of the class n -/
def pick (cat : Str → Str → Option Bool) (n : Str) : List Cl → Option (Option Cl)
  | [] => some none
  | h :: hs => match cat n h.x with
    | none => none
    | some true => some (some h)
    | some false => pick cat n hs
def wipe1 (i : Nat) : Rs Fl → Option (Rs Fl)
  | .ok (.rt d) ρ => some (.ok (.rt d) (ρ.set i .und))
  | .ok fl ρ => some (.ok fl (ρ.set i .und))
  | .exc _ _ _ => none
def mtry (cat : Str → Str → Option Bool) (fb : M Fl) (hs : List Cl) : M Fl := fun ρ => match fb ρ with
  | some (.exc n d ρ') => (match pick cat n hs with
    | some (some h) => if canSet ρ' h.i = true then (h.fs d (ρ'.set h.i .und)).bind (wipe1 h.i) else none
    | some none => some (.exc n d ρ')
    | none => none)
  | r => r
inductive ClsOk (c : Anc) (X : Cx) (W : WX) : List ExceptHandler → List Cl → Prop
  | nil : ClsOk c X W [] []
  | cons {x n : Str} {i : Nat} {fs : D → M Fl} {st : Stmt} {p1 p2 : Pos} {hs : List ExceptHandler} {l : List Cl} (g : Gl X x) (hx : (x == ("__debug__" : Str)) = false) (gx : X.mg x = some (.ref (He.ga X.K x))) (hi : X.N[i]? = some n) (hn : X.env.scope.names.lookup n = some .local)
      (su : SuOk c X W i st fs) (rest : ClsOk c X W hs l) : ClsOk c X W (.ExceptHandler (some (.Name x p1)) (some n) [st] p2 :: hs) (⟨x, i, fs⟩ :: l)
/-- the facts of the classes -/
structure Cats (K : PySem.W.Frag) (cat : Str → Str → Option Bool) : Prop where
  one : ∀ n x b, cat n x = some b → PySem.W.exmOne K (.ref (He.ga K n)) (.ref (He.ga K x)) = some b
  xf : ∀ n x b, cat n x = some b → XfC K (He.ga K n) ∧ PySem.W.findIn K (.ref (He.ga K n)) "value" = some none
section
variable {X : Cx} {c : Anc} {W : WX} {pos : Pos} {body : List Stmt} {fb : M Fl} {cat : Str → Str → Option Bool} {h0 : ExceptHandler} {hs : List ExceptHandler} {l : List Cl}
theorem ClsOk.hns {hs : List ExceptHandler} {l : List Cl} (h : ClsOk c X W hs l) : HNs X hs (l.map fun k => (.ref (He.ga X.K k.x), k.i, tSu c W k.i k.fs)) := by
  induction h with
  | nil => exact .nil
  | cons g hx gx hi hn su rest ih => exact .cons ⟨g, hx, .inl gx⟩ hi hn su ih
theorem SR.und1 {F : Hp} {ρ : List A} {σ : St} {H : Hp} {i : Nat} (s : SR c F ρ σ H) (o : Option V) : SR c F (ρ.set i .und) (σ.set i o) H := by
  refine ⟨s.le, s.ext, s.keep, s.new, s.iot, s.iof, s.ioh, by rw [List.length_set, List.length_set]; exact s.len, fun j a e => ?_, fun j k a b p e1 h1 e2 h2 t1 t2 => ?_⟩
  · by_cases z : i = j
    · subst z
      by_cases hl : i < ρ.length
      · rw [List.getElem?_set_self hl] at e
        cases e
        exact trivial
      · rw [List.getElem?_eq_none (by rw [List.length_set]; omega)] at e
        cases e
    · rw [List.getElem?_set_ne z] at e ⊢
      exact s.slot j a e
  · have ni : ∀ {m : Nat} {x : A}, (ρ.set i .und)[m]? = some x → x.isOwn = true → i ≠ m := fun {m x} e h z => by
      subst z
      by_cases hl : i < ρ.length
      · rw [List.getElem?_set_self hl] at e
        cases e
        cases h
      · rw [List.getElem?_eq_none (by rw [List.length_set]; omega)] at e
        cases e
    have z1 := ni e1 h1
    have z2 := ni e2 h2
    rw [List.getElem?_set_ne z1] at e1 t1
    rw [List.getElem?_set_ne z2] at e2 t2
    exact s.sep j k a b p e1 h1 e2 h2 t1 t2
theorem pds_try (st : X.stack = X.env :: X.outer) (fr : X.env.frame = some X.env.locals) (hN : X.N.Nodup) (tk : Takes X W) (C : Cats X.K cat)
    (hb : ∀ (W' : WX) (q : List (Addr × Obj)) (xe : Value → Shared → Prop), Takes (X.tr q xe) W' → PassesOwn (model X.prog X.w) X.A X.env xe → PDSs c (X.tr q xe) W' body fb) (hh : ClsOk c X W (h0 :: hs) l) (hK : X.K = c.K := by rfl) :
    PDS c X W (.Try body (h0 :: hs) [] [] pos) (mtry cat fb l) := by
  refine PS.imp (ps_try_names st fr hN tk (fun W' q xe t p => hb W' q xe t p) hh.hns) fun σ H Dn ht => ?_
  obtain ⟨F, ρ, s, r, e, p⟩ := ht
  unfold mtry at e
  cases q : fb ρ with
  | none => rw [q] at e; cases e
  | some r1 =>
    rw [q] at e
    refine ⟨F, ρ, s, r1, q, ?_⟩
    cases r1 with
    | ok fl ρ1 =>
      cases e
      cases fl <;> exact p
    | exc n d ρ1 =>
      intro σ' F' H' sF s' dx v ex rv
      have eK : He.ga c.K n = He.ga X.K n := by rw [hK]
      rw [eK]
      replace e : (match pick cat n l with | some (some h) => if canSet ρ1 h.i = true then (h.fs d (ρ1.set h.i .und)).bind (wipe1 h.i) else none | some none => some (.exc n d ρ1) | none => none) = some r := e
      clear hh
      induction l with
      | nil =>
        have e' : Rs.exc n d ρ1 = r := Option.some.inj e
        subst e'
        rw [← eK]
        exact p σ' F' H' sF s' dx v ex rv
      | cons k ks ih =>
        unfold pick at e
        cases y : cat n k.x with
        | none => rw [y] at e; cases e
        | some b =>
          rw [y] at e
          refine ⟨b, C.one _ _ _ y, fun eb z zn => ?_, fun eb => ?_⟩
          · subst eb
            have e : (if canSet ρ1 k.i = true then (k.fs d (ρ1.set k.i .und)).bind (wipe1 k.i) else none) = some r := e
            by_cases w : canSet ρ1 k.i = true
            · rw [if_pos w] at e
              cases u : k.fs d (ρ1.set k.i .und) with
              | none => rw [u] at e; cases e
              | some r2 =>
                rw [u] at e
                have e : wipe1 k.i r2 = some r := e
                obtain ⟨x1, x2⟩ := C.xf _ _ _ y
                have hl : k.i < σ'.length := by rw [s'.len]; exact canSet_lt w
                refine ⟨F', ρ1.set k.i .und, d, ⟨⟨He.ga X.K n, dx, v, rfl, by rw [← hK]; exact x1, by rw [← hK]; exact x2, rfl, by rw [List.getElem?_set_self hl], ex, rv⟩, s'.und1 _⟩, fun n' d' ρ' h' => ?_, r2, u, ?_⟩
                · rw [u] at h'
                  cases h'
                  cases e
                · cases r2 with
                  | exc _ _ _ => cases e
                  | ok fl ρ2 =>
                    cases fl with
                    | nx => cases e; exact fun σ9 F9 H9 m9 s9 => p _ F9 H9 (Same.tr sF m9) (s9.und1 none)
                    | rt d9 => cases e; exact fun v9 σ9 F9 H9 m9 s9 r9 => p v9 _ F9 H9 (Same.tr sF m9) (s9.und1 none) r9
                    | bk => cases e; exact fun σ9 F9 H9 m9 s9 => p _ F9 H9 (Same.tr sF m9) (s9.und1 none)
                    | ct => cases e; exact fun σ9 F9 H9 m9 s9 => p _ F9 H9 (Same.tr sF m9) (s9.und1 none)
            · rw [if_neg w] at e
              cases e
          · subst eb
            exact ih e
end
end L2.DL

set_option maxHeartbeats 1000000
namespace L2.DL
open PySem PySem.Spec PyProof.Rows
/-! ### an own object read and written in place -/
section
variable {X : Cx} {c : Anc} {W : WX} {e : Expr} {fe fb : M D} {pos : Pos} {i : Nat}
theorem or_mut {F : Hp} {o : O} {h : HO} (r : OR c.K F o h) : Mut (some h) := by
  cases o <;> cases h <;> first | exact trivial | exact r.elim
theorem SR.ownUpd {F : Hp} {ρ : List A} {σ : St} {H : Hp} {io : Option Nat} {o o' : O} {p : Addr} {h' : HO} (s : SR c F ρ σ H) (e : ρ[i]? = some (.own io o)) (ep : σ[i]? = some (some (.ref p))) (r : OR c.K F o' h') : SR c F (ρ.set i (.own io o')) σ (upd H p h') := by
  obtain ⟨q, e1, h0, nF, h, hp, r0⟩ := s.ownAt e
  have z := e1.symm.trans ep
  cases z
  have hi : i < ρ.length := (List.getElem?_eq_some_iff.mp e).1
  have back : ∀ {j : Nat} {a : A}, (ρ.set i (.own io o'))[j]? = some a → a.isOwn = true → ∃ b, ρ[j]? = some b ∧ b.isOwn = true := fun {j a} h ha => by
    by_cases y : i = j
    · subst y
      exact ⟨_, e, rfl⟩
    · rw [List.getElem?_set_ne y] at h
      exact ⟨a, h, ha⟩
  refine ⟨fun b x hb => ?_, s.ext, fun b x hb hx => ?_, s.new, fun b hb => ?_, s.iof, s.ioh, by rw [List.length_set]; exact s.len, fun j a h => ?_, fun j k a b p' h1 h2 h3 h4 h5 h6 => ?_⟩
  · have ne : b ≠ p := fun y => by
      subst y
      rw [nF] at hb
      cases hb
    rw [upd_ne ne]
    exact s.le b x hb
  · have ne : b ≠ p := fun y => by
      subst y
      cases io with
      | none =>
        have h0 : c.H0 b = none := h0
        rw [h0] at hx; cases hx
      | some k => exact hb (List.mem_of_getElem? h0)
    rw [upd_ne ne]
    exact s.keep b x hb hx
  · by_cases y : b = p
    · subst y
      exact ⟨h', upd_same, or_mut r⟩
    · rw [upd_ne y]
      exact s.iot b hb
  · by_cases y : i = j
    · subst y
      rw [List.getElem?_set_self hi] at h
      cases h
      rw [ep]
      exact ⟨h0, nF, h', upd_same, r⟩
    · rw [List.getElem?_set_ne y] at h
      have q := s.slot j a h
      cases a with
      | und => exact trivial
      | dat d =>
        obtain ⟨v, e1, r1⟩ := q.dat
        rw [e1]
        exact r1
      | own io2 o2 =>
        obtain ⟨p2, e2, g0, g1, x, g2, g3⟩ := q.own
        rw [e2]
        have ne : p2 ≠ p := fun w => by
          subst w
          exact y (s.sep i j _ _ p2 e rfl h rfl ep (join_some e2))
        exact ⟨g0, g1, x, by rw [upd_ne ne]; exact g2, g3⟩
  · obtain ⟨a', g1, g2⟩ := back h1 h2
    obtain ⟨b', g3, g4⟩ := back h3 h4
    exact s.sep j k a' b' p' g1 g2 g3 g4 h5 h6
/-- what stands in a slot, as data, the slot left as it is -/
def peek (ρ : List A) (i : Nat) : Option D := match ρ[i]? with
  | some (.dat d) => some d
  | some (.own _ (.l ds)) => some (.list ds)
  | _ => none
theorem peek_cases {ρ : List A} {i : Nat} {d : D} (h : peek ρ i = some d) : ρ[i]? = some (.dat d) ∨ ∃ io ds, ρ[i]? = some (.own io (.l ds)) ∧ d = .list ds := by
  unfold peek at h
  cases e : ρ[i]? with
  | none => rw [e] at h; cases h
  | some a =>
    rw [e] at h
    cases a with
    | und => cases h
    | dat d' => cases h; exact .inl rfl
    | own io o =>
      cases o with
      | k _ => cases h
      | l ds => cases h; exact .inr ⟨io, ds, rfl, rfl⟩
theorem peek_some {F : Hp} {ρ : List A} {σ : St} {H : Hp} {d : D} (s : SR c F ρ σ H) (h : peek ρ i = some d) : ∃ v, σ[i]? = some (some v) := by
  rcases peek_cases h with h | ⟨io, ds, h, _⟩
  · obtain ⟨v, e, _⟩ := s.dat h
    exact ⟨v, e⟩
  · obtain ⟨p, e, _⟩ := s.ownAt h
    exact ⟨_, e⟩
def msee (i : Nat) : M Unit := fun ρ => (peek ρ i).map fun _ => .ok () ρ
def mpeek (i : Nat) : M D := fun ρ => (peek ρ i).map fun d => .ok d ρ
/-- x[e]: x a name -/
def mixN (i : Nat) (fb : M D) : M D := mbind (msee i) fun _ => mbind fb fun y => mbind (mpeek i) fun x => mopt (gIx x y)
theorem at_see {β : Type} {B : Hp → β → D → Prop} {k : Unit → M D} {F : Hp} {ρ : List A} {σ : St} {H : Hp} {Q : β → Hp → Prop} (h : rdAt c W B (mbind (msee i) k) F ρ σ H Q) : (∃ d, peek ρ i = some d) ∧ rdAt c W B (k ()) F ρ σ H Q := by
  obtain ⟨r, e, p⟩ := h
  unfold mbind msee at e
  cases q : peek ρ i with
  | none => rw [q] at e; cases e
  | some d =>
    rw [q] at e
    exact ⟨⟨d, rfl⟩, r, e, p⟩
theorem at_peek {β : Type} {B : Hp → β → D → Prop} {k : D → M D} {F : Hp} {ρ : List A} {σ : St} {H : Hp} {Q : β → Hp → Prop} (h : rdAt c W B (mbind (mpeek i) k) F ρ σ H Q) : ∃ d, peek ρ i = some d ∧ rdAt c W B (k d) F ρ σ H Q := by
  obtain ⟨r, e, p⟩ := h
  unfold mbind mpeek at e
  cases q : peek ρ i with
  | none => rw [q] at e; cases e
  | some d =>
    rw [q] at e
    exact ⟨d, rfl, r, e, p⟩
theorem pd_ixN (i : Nat) {x : Str} {p : Pos} (hb : PD c X W e fb) (hN : X.N[i]? = some x := by rfl) (hv : Vis X.env.scope x := by first | exact Or.inl rfl | exact Or.inr (Or.inl rfl) | exact Or.inr (Or.inr rfl)) (hd : (x == ("__debug__" : Str)) = false := by decide)
    (hcd : (x == ("__classdict__" : Str)) = false := by decide) (hs : PlainIx e := by exact fun _ _ => rfl) (hK : X.K = c.K := by rfl) : PD c X W (.Subscript (.Name x p) e pos) (mixN i fb) := by
  refine PE.imp (pe_ix ix_seq (pe_var hN hv hd hcd) hb hs) fun σ H Q h => ?_
  obtain ⟨F, ρ, s, h⟩ := h.at_
  obtain ⟨⟨d, hd⟩, h⟩ := at_see h
  obtain ⟨v, ev⟩ := peek_some s hd
  refine ⟨v, ev, (at_bind s h fun y u F1 H1 ρ1 s1 m1 b1 h1 => ?_).rd s⟩
  obtain ⟨d1, h2, h3⟩ := at_peek h1
  obtain ⟨z, e3, p3⟩ := at_opt h3
  rcases peek_cases h2 with q | ⟨io, ds, q, rfl⟩
  · obtain ⟨v1, e4, r4⟩ := s1.dat q
    have z := e4.symm.trans ev
    cases z
    exact s_ix hK F1 ρ1 σ H1 _ u d1 y _ Q s1 r4 b1 e3 p3
  · obtain ⟨p1, e4, _, _, ho, e5, r5⟩ := s1.ownAt q
    have z := e4.symm.trans ev
    cases z
    cases y <;> try (simp [gIx] at e3; done)
    cases b1
    cases ho <;> try exact r5.elim
    obtain ⟨v2, e6, r6⟩ := at_both r5 e3
    exact .inl ⟨_, _, _, v2, rfl, rfl, SqL.of e5, e6, p3 v2 F1 H1 s1 (Mv.refl _ _ _ _) r6⟩
/-- x[e] = v: x a name, an own list -/
def setAt (ρ : List A) (i : Nat) (k : D) (d : D) : Option (List A) := match ρ[i]?, k with
  | some (.own io (.l ds)), .int n => (ixN ds.length n).map fun j => ρ.set i (.own io (.l (ds.set j d)))
  | _, _ => none
def msetIx (i : Nat) (fe fb : M D) : M Fl := mbind fe fun d => mbind (msee i) fun _ => mbind fb fun k => fun ρ => (setAt ρ i k d).map fun ρ' => .ok .nx ρ'
theorem pds_setIx (i : Nat) {x : Str} {b : Expr} {p p2 : Pos} (he : PD c X W e fe) (hb : PD c X W b fb) (hN : X.N[i]? = some x := by rfl) (hv : Vis X.env.scope x := by first | exact Or.inl rfl | exact Or.inr (Or.inl rfl) | exact Or.inr (Or.inr rfl)) (hd : (x == ("__debug__" : Str)) = false := by decide)
    (hcd : (x == ("__classdict__" : Str)) = false := by decide) (ha : ∀ v, assign (.Subscript (.Name x p) b p2) X.env v = (do
      let ov ← holding [v] (eval (.Name x p) X.env)
      let iv ← holding [v, ov] (eval b X.env)
      standAt p2
      holding [v, ov, iv] (setItem ov iv v)
      release [v, ov, iv] []) := by intro _; rfl) (hs : swapsWithSole [.Subscript (.Name x p) b p2] e pos.line X.env = pure false := by rfl) (hw : swappedStores [.Subscript (.Name x p) b p2] e X.env = pure none := by rfl)
    (h1 : (assignEach [.Subscript (.Name x p) b p2] X.env).map (·.2) = [assign (.Subscript (.Name x p) b p2) X.env] := by rfl) (hK : X.K = c.K := by rfl) : PDS c X W (.Assign [.Subscript (.Name x p) b p2] e pos) (msetIx i fe fb) := by
  refine PS.imp (ps_asg he (pg_sub (pe_var hN hv hd hcd) hb set_list ha) hs hw h1) fun σ H Dn ht => ?_
  obtain ⟨F, ρ, s, h⟩ := ht
  refine at_bindS s h fun d v F1 H1 ρ1 s1 m1 b1 h1 => ?_
  obtain ⟨r, e1, p1⟩ := h1
  unfold mbind msee at e1
  cases q : peek ρ1 i with
  | none => rw [q] at e1; cases e1
  | some d0 =>
    rw [q] at e1
    obtain ⟨u, eu⟩ := peek_some s1 q
    refine ⟨u, eu, ?_⟩
    refine at_bindS s1 ⟨r, e1, p1⟩ fun k y F2 H2 ρ2 s2 m2 b2 h2 => ?_
    obtain ⟨r2, e2, p2⟩ := h2
    obtain ⟨ρ3, e3, e4⟩ := Option.map_eq_some_iff.mp e2
    subst e4
    unfold setAt at e3
    cases q2 : ρ2[i]? with
    | none => rw [q2] at e3; cases e3
    | some a =>
      rw [q2] at e3
      cases a with
      | und => cases k <;> cases e3
      | dat _ => cases k <;> cases e3
      | own io o =>
        cases o with
        | k _ => cases k <;> cases e3
        | l ds =>
          cases k <;> try (cases e3; done)
          cases b2
          rename_i n
          obtain ⟨j, e5, e6⟩ := Option.map_eq_some_iff.mp e3
          subst e6
          obtain ⟨a, x1, _, _, ho, x2, x3⟩ := s2.ownAt q2
          have z := x1.symm.trans eu
          cases z
          cases ho <;> try exact x3.elim
          rename_i xs
          refine ⟨a, xs, n, j, rfl, rfl, x2, by rw [Rps.len x3]; exact e5, ?_⟩
          refine p2 σ F2 _ (Same.rf F2) (s2.ownUpd (o' := .l (ds.set j d)) (h' := .lst (xs.set j v)) q2 eu ?_)
          exact Rps.set (Rp.mono m2.ext b1) j x3
end
end L2.DL

set_option maxHeartbeats 1000000
namespace L2.DL
open PySem PySem.Spec PyProof.Rows
/-! plain subscripts -/
theorem px_int {i : Int} {k p} : PlainIx (.Constant (.int i) k p) := fun _ _ => rfl
theorem px_name {i : Str} {p} : PlainIx (.Name i p) := fun _ _ => rfl
theorem px_bin {a b : Expr} {o p} : PlainIx (.BinOp a o b p) := fun _ _ => rfl
theorem px_un {a : Expr} {o p} : PlainIx (.UnaryOp o a p) := fun _ _ => rfl
theorem px_call {a : Expr} {es ks p} : PlainIx (.Call a es ks p) := fun _ _ => rfl
theorem px_sub {a b : Expr} {p} : PlainIx (.Subscript a b p) := fun _ _ => rfl
theorem px_if {a b c : Expr} {p} : PlainIx (.IfExp a b c p) := fun _ _ => rfl
theorem px_cmp {a : Expr} {os es p} : PlainIx (.Compare a os es p) := fun _ _ => rfl
theorem px_tup {es k p} : PlainIx (.Tuple es k p) := fun _ _ => rfl
theorem px_attr {a : Expr} {n p} : PlainIx (.Attribute a n p) := fun _ _ => rfl
theorem px_str {i : Str} {k p} : PlainIx (.Constant (.str i) k p) := fun _ _ => rfl
section
variable {X : Cx} {c : Anc} {W : WX} {e a : Expr} {es : List Expr} {fe fa : M D} {pos p : Pos} {i : Nat}
/-! ### isinstance(x, (T1, T2, ..)) -/
def isTs (Ts : List String) (d : D) : Bool := Ts.any fun T => isT T d
def misiT (Ts : List String) (f : M D) : M D := mbind f fun d => mpure (.bool (isTs Ts d))
def KitT (T : String) : Prop := T = "int" ∨ T = "bool" ∨ T = "str" ∨ T = "list" ∨ T = "tuple"
theorem kit_any {K : PySem.W.Frag} {d : D} : ∀ {Ts : List String}, (∀ T ∈ Ts, KitT T) → PySem.W.kitAny K (.type (tyN d)) (Ts.map Value.type) = some (isTs Ts d)
  | [], _ => kitAny_nil
  | T :: Ts, h => by
    refine kitAny_cons (b := isT T d) (kit_ty (kit_d T (h T (by simp)) d)) (fun hb => ?_) fun hb => ?_
    · rw [kit_any (fun T' hT => h T' (by simp [hT]))]
      unfold isTs
      rw [List.any_cons, hb, Bool.false_or]
    · unfold isTs
      rw [List.any_cons, hb, Bool.true_or]
/-- names of types -/
structure TyNm (X : Cx) (y : Str) (T : String) : Prop where
  g : Gl X y
  m : X.mg y = none
  v : bootBuiltins y = some (.type T)
  k : KitT T
  n : y ≠ "__name__"
  d : (y == ("__debug__" : Str)) = false
theorem TyNm.pe {y : Str} {T : String} (t : TyNm X y T) : PE X (.Name y p) (tC (.ty T)) := pe_bltn (u := .type T) t.g t.m t.v rfl t.n t.d
theorem pd_isi2 {y z : Str} (S T : String) {p1 p2 p3 : Pos} {kt} (t1 : TyNm X y S) (t2 : TyNm X z T) (hg : Gl X "isinstance") (hm : X.mg "isinstance" = none) (ha : PD c X W a fa)
    (he : starEach [a, .Tuple [.Name y p1, .Name z p2] kt p3] X.env = (false, eval a X.env) :: starEach [.Tuple [.Name y p1, .Name z p2] kt p3] X.env := by rfl)
    (he2 : starEach [.Tuple [.Name y p1, .Name z p2] kt p3] X.env = (false, eval (.Tuple [.Name y p1, .Name z p2] kt p3) X.env) :: starEach [] X.env := by rfl)
    (he3 : starEach [.Name y p1, .Name z p2] X.env = (false, eval (.Name y p1) X.env) :: starEach [.Name z p2] X.env := by rfl) (he4 : starEach [.Name z p2] X.env = (false, eval (.Name z p2) X.env) :: starEach [] X.env := by rfl)
    (hpl : (backTo pos (starEach [.Tuple [.Name y p1, .Name z p2] kt p3] X.env)).any (·.1) = false := by rfl) (hK : X.K = c.K := by rfl) :
    PD c X W (.Call (.Name "isinstance" p) [a, .Tuple [.Name y p1, .Name z p2] kt p3] [] pos) (misiT [S, T] fa) := by
  have h2 := pe_tup (x1 := kt) (pos := p3) (pa_cons (t1.pe (p := p1)) (pa_cons (t2.pe (p := p2)) pa_nil he4) he3)
  refine PE.imp (pe_callB call_isiT hg hm boot_isi' (pa_cons ha (pa_cons h2 pa_nil he2) he) (by decide) (by decide) he hpl) fun σ H Q h => ?_
  obtain ⟨F, ρ, s, h⟩ := h.at_
  refine (at_bind s h fun x v F1 H1 ρ1 s1 m1 b1 h1 => ?_).rd s
  refine ⟨by show 2 ≤ sizeLine; rw [sizeLine_eq]; omega, fun q nq => ?_⟩
  refine ⟨v, q, [.ty S, .ty T], .type (tyN x), [.type S, .type T], isTs [S, T] x, rfl, upd_same, .cons (.ty S) (.cons (.ty T) .nil), ?_, kit_any (Ts := [S, T]) (fun T' h' => ?_), ?_⟩
  · rw [hK]
    exact ty_x (s1.beside nq).le b1
  · simp only [List.mem_cons, List.not_mem_nil, or_false] at h'
    rcases h' with rfl | rfl
    · exact t1.k
    · exact t2.k
  · refine at_pure h1 _ F1 _ (s1.beside nq) ⟨Same.rf F1, fun b o hb _ => ?_, fun b o hb => .inl hb, fun b hb => hb⟩ (.bl _)
    rw [upd_ne (ne_of_none hb nq)]
    exact hb
/-! ### slices -/
def cutA {α : Type} (xs : List α) (lo hi : Option Int) : List α := (xs.drop (HT.sIx xs.length 0 lo)).take (HT.sIx xs.length xs.length hi - HT.sIx xs.length 0 lo)
theorem Rps.cut {F : Hp} {vs : List V} {ds : List D} (r : Rps c.K F vs ds) (lo hi : Option Int) : Rps c.K F (cutV vs lo hi) (cutA ds lo hi) := by
  unfold cutV cutA
  rw [r.len]
  exact Rps.take _ (Rps.drop _ r)
def gSl (d : D) (lo hi : Option Int) : Option D := match d with
  | .list ds => some (.list (cutA ds lo hi))
  | .tuple ds => some (.tuple (cutA ds lo hi))
  | .str z => if z.length ≤ sizeLine then some (.str (cutS z lo hi)) else none
  | _ => none
abbrev rO (c : Anc) (W : WX) (f : M (Option Int)) : TO := rd c W (fun _ x y => x = y) f
def mpart (f : M D) : M (Option Int) := mbind f fun d => match d with
  | .int i => mpure (some i)
  | _ => mfail
abbrev PDo (c : Anc) (X : Cx) (W : WX) (e : Option Expr) (f : M (Option Int)) : Prop := PO X e (rO c W f)
theorem PO.imp {e : Option Expr} {t t' : TO} (h : PO X e t) (i : ∀ σ H Q, t' σ H Q → t σ H Q) : PO X e t' := ⟨fun pins s σ H Q I q => h.run pins s σ H Q I (i σ H Q q)⟩
theorem pdo_none : PDo c X W none (mpure none) := PO.imp po_none fun σ H Q h => by
  obtain ⟨F, ρ, s, h⟩ := h.at_
  exact at_pure h _ F H s (Mv.refl _ _ _ _) rfl
theorem pdo_some (h : PD c X W e fe) : PDo c X W (some e) (mpart fe) := PO.imp (po_some h) fun σ H Q h => by
  obtain ⟨F, ρ, s, h⟩ := h.at_
  refine (at_bind s h fun x v F1 H1 ρ1 s1 m1 b1 h1 => ?_).rd s
  cases x <;> try (obtain ⟨_, e, _⟩ := h1; cases e; done)
  cases b1
  exact ⟨_, rfl, at_pure h1 _ F1 H1 s1 (Mv.refl _ _ _ _) rfl⟩
def msl (fe : M D) (fl fh : M (Option Int)) : M D := mbind fe fun d => mbind fl fun l => mbind fh fun h => mopt (gSl d l h)
theorem sl_all : SlR X (fun x lo hi H Q => rSlL X.K x lo hi H Q ∨ (rSlA X.K x lo hi H Q ∨ rSlS x lo hi H Q)) := .or sl_list (.or sl_tupA sl_str)
theorem cut_whole {α : Type} {xs : List α} {lo hi : Option Int} (h1 : HT.sIx xs.length 0 lo = 0) (h2 : HT.sIx xs.length xs.length hi = xs.length) : cutA xs lo hi = xs := by
  unfold cutA
  rw [h1, h2, List.drop_zero, Nat.sub_zero, List.take_length]
theorem pd_slice {lo hi : Option Expr} {fl fh : M (Option Int)} {p2 : Pos} (he : PD c X W e fe) (hl : PDo c X W lo fl) (hh : PDo c X W hi fh) (hK : X.K = c.K := by rfl) : PD c X W (.Subscript e (.Slice lo hi none p2) pos) (msl fe fl fh) := by
  refine PE.imp (pe_slice sl_all he hl hh) fun σ H Q h => ?_
  obtain ⟨F, ρ, s, h⟩ := h.at_
  refine (at_bind s h fun x v F1 H1 ρ1 s1 m1 b1 h1 => (at_bind s1 h1 fun l l' F2 H2 ρ2 s2 m2 b2 h2 => (at_bind s2 h2 fun u u' F3 H3 ρ3 s3 m3 b3 h3 => ?_).rd s2).rd s1).rd s
  subst b2 b3
  obtain ⟨z, e4, p4⟩ := at_opt h3
  have b1 := Rp.mono m3.ext (Rp.mono m2.ext b1)
  rw [hK]
  cases b1 with
  | lst ha ra =>
    cases e4
    refine .inl ⟨_, _, rfl, SqL.of (s3.le _ _ ha), fun q nq => ?_⟩
    obtain ⟨s5, m5, r5⟩ := new_lst s3 nq (Rps.cut (c := c) ra l' u')
    exact p4 _ _ _ s5 m5 r5
  | tup ha ra =>
    cases e4
    refine .inr (.inl ⟨_, _, rfl, Same.seqT s3.le ha, fun hw => ?_, fun _ q nq => ?_⟩)
    · rw [Rps.len ra] at hw
      refine p4 _ F3 H3 s3 (Mv.refl _ _ _ _) ?_
      rw [cut_whole hw.1 hw.2]
      exact .tup ha ra
    · obtain ⟨s5, m5, r5⟩ := new_tup s3 nq (Rps.cut (c := c) ra l' u')
      exact p4 _ _ _ s5 m5 r5
  | str x =>
    have e4 : (if x.length ≤ sizeLine then some (PyData.str (cutS x l' u')) else none) = some z := e4
    by_cases hz : x.length ≤ sizeLine
    · rw [if_pos hz] at e4
      cases e4
      exact .inr (.inr ⟨x, rfl, hz, p4 _ F3 H3 s3 (Mv.refl _ _ _ _) (.str _)⟩)
    · rw [if_neg hz] at e4
      cases e4
  | _ => cases e4
/-! ### x is True, x is not False: of bools -/
def gIsB : D → D → Option D
  | .bool a, .bool b => some (.bool (decide (a = b)))
  | _, _ => none
def gNtB : D → D → Option D
  | .bool a, .bool b => some (.bool (!decide (a = b)))
  | _, _ => none
theorem s_isB : OpS c rIsB gIsB := by
  intro F ρ σ H x y d e z Q s rx ry eq q
  cases rx <;> try (simp [gIsB] at eq; done)
  cases ry <;> try (simp [gIsB] at eq; done)
  cases eq
  exact ⟨_, _, rfl, rfl, q _ F H s (Mv.refl _ _ _ _) (.bl _)⟩
theorem s_ntB : OpS c rNotB gNtB := by
  intro F ρ σ H x y d e z Q s rx ry eq q
  cases rx <;> try (simp [gNtB] at eq; done)
  cases ry <;> try (simp [gNtB] at eq; done)
  cases eq
  exact ⟨_, _, rfl, rfl, q _ F H s (Mv.refl _ _ _ _) (.bl _)⟩
section
variable {b : Expr} {fb : M D}
theorem pd_is (ha : PD c X W a fa) (hb : PD c X W b fb) : PD c X W (.Compare a [.Is] [b] pos) (mop gIsB fa fb) := pd_cmp op_isBl s_isB ha hb (nomark _)
theorem pd_isnt (ha : PD c X W a fa) (hb : PD c X W b fb) : PD c X W (.Compare a [.IsNot] [b] pos) (mop gNtB fa fb) := pd_cmp op_notBl s_ntB ha hb (nomark _)
theorem pt_is (ha : PD c X W a fa) (hb : PD c X W b fb) : PDt c X W (.Compare a [.Is] [b] pos) (mtst (mop gIsB fa fb)) := pt_rel op_isBl s_isB ha hb (nomark _)
theorem pt_isnt (ha : PD c X W a fa) (hb : PD c X W b fb) : PDt c X W (.Compare a [.IsNot] [b] pos) (mtst (mop gNtB fa fb)) := pt_rel op_notBl s_ntB ha hb (nomark _)
end
/-! ### what is walked: a list, a tuple, a text -/
def mitA (f : M D) : M (List D) := mbind f fun d => match d with
  | .list xs => mpure xs
  | .tuple xs => mpure xs
  | .str x => mpure (x.cps.toList.map fun c => .str ⟨#[c]⟩)
  | _ => mfail
theorem PI.or {tg e : Expr} {t t' : TI} (h : PI X tg e t) (h' : PI X tg e t') : PI X tg e (fun σ H R => t σ H R ∨ t' σ H R) := ⟨fun pins s σ H R I q => q.elim (h.run pins s σ H R I) (h'.run pins s σ H R I)⟩
theorem pdi_all {tg : Expr} (he : PD c X W e fe) (hK : X.K = c.K := by rfl) : PDI c X W tg e (mitA fe) := by
  refine PI.imp (PI.or (pdi_list he hK) (PI.or (pdi_tup he hK) (pdi_str he))) fun σ H R h => ?_
  obtain ⟨F, ρ, r, s, e, p⟩ := h
  unfold mitA mbind at e
  have fin : ∀ {f : M (List D)}, f ρ = some r → rI c W f σ H R := fun h => ⟨F, ρ, r, s, h, p⟩
  cases q : fe ρ with
  | none => rw [q] at e; cases e
  | some r1 =>
    rw [q] at e
    cases r1 with
    | exc n d ρ1 => exact .inl (fin (by unfold mitL mbind; rw [q]; exact e))
    | ok d ρ1 =>
      cases d with
      | list xs => exact .inl (fin (by unfold mitL mbind; rw [q]; exact e))
      | tuple xs => exact .inr (.inl (fin (by unfold mitT mbind; rw [q]; exact e)))
      | str xs => exact .inr (.inr (fin (by unfold mitS mbind; rw [q]; exact e)))
      | _ => cases e
theorem takesN {X : Cx} : Takes X WN := takes_none5
/-- never called -/
theorem fn_ok0 {P : Program} {w : World} {K : PySem.W.Frag} {mg : Str → Option Value} {base : Heap} {x qual : Str} {params : Arguments} {body : List Stmt} {scope : Scope} {f : Addr} {fd : FuncData} {N ps : List Str} {k : Nat} (F : FunD K x qual params body scope [] [] f fd) (S : FnScope N ps scope) :
    FnOk P w K mg base (L2.CX P w) (k + 1) f fd ps (spG K ps.length fun _ => none) := by
  refine F.ok S (fun vs H Q E ⟨_, _, _, _, h, _⟩ => h) fun cdv Ar outer s H vs Q E hr h => ?_
  obtain ⟨F, ρ, ios, r, hl, sr, e, p⟩ := h
  cases e
end
end L2.DL

set_option maxHeartbeats 1000000
namespace L2.DL
open PySem PySem.Spec PyProof.Rows
/-! ### f(a, .., k = b, ..) -/
/-- positional values, then the keywords' values at the places ix -/
def kwOrd {α : Type} (n m : Nat) (ix : List Nat) (us ws : List α) : List α := if us.length = n ∧ ws.length = m then us ++ ix.filterMap (fun i => ws[i]?) else []
theorem vals_get {vs : List V} {us : List Value} (r : Vals vs us) (i : Nat) : (vs[i]? = none ∧ us[i]? = none) ∨ ∃ v u, vs[i]? = some v ∧ us[i]? = some u ∧ RelV v u := by
  induction r generalizing i with
  | nil => exact .inl ⟨rfl, rfl⟩
  | cons h _ ih => cases i with
    | zero => exact .inr ⟨_, _, rfl, rfl, h⟩
    | succ i => exact ih i
theorem vals_ix {vs : List V} {us : List Value} (r : Vals vs us) : ∀ ix : List Nat, Vals (ix.filterMap fun i => vs[i]?) (ix.filterMap fun i => us[i]?)
  | [] => .nil
  | i :: ix => by
    rcases vals_get r i with ⟨h1, h2⟩ | ⟨v, u, h1, h2, h3⟩
    · rw [List.filterMap_cons_none h1, List.filterMap_cons_none h2]
      exact vals_ix r ix
    · rw [List.filterMap_cons_some h1, List.filterMap_cons_some h2]
      exact .cons h3 (vals_ix r ix)
theorem rps_ix {K : PySem.W.Frag} {F : Hp} {vs : List V} {ds : List D} (r : Rps K F vs ds) : ∀ ix : List Nat, Rps K F (ix.filterMap fun i => vs[i]?) (ix.filterMap fun i => ds[i]?)
  | [] => .nil
  | i :: ix => by
    cases e : ds[i]? with
    | none =>
      have e2 : vs[i]? = none := by
        rw [List.getElem?_eq_none_iff] at e ⊢
        rw [r.len]
        exact e
      rw [List.filterMap_cons_none e, List.filterMap_cons_none e2]
      exact rps_ix r ix
    | some d =>
      obtain ⟨v, h1, h2⟩ := Rps.at_ (i := i) r e
      rw [List.filterMap_cons_some h1, List.filterMap_cons_some e]
      exact .cons h2 (rps_ix r ix)
/-- a def called with keywords ks behind n positional arguments -/
structure CalK (P : Program) (w : World) (K : PySem.W.Frag) (mg : Str → Option Value) (base : Heap) (k : Nat) (x : Str) (n : Nat) (f : List A → Option (Rs D)) (np : Nat) (ks : List Str) (ix : List Nat) : Prop where
  ex : ∃ (a : Addr) (fd : FuncData) (ps : List Str), FnOk P w K mg base (L2.CX P w) k a fd ps (spG K n f) ∧ mg x = some (.ref a) ∧ PySem.W.keepIn K (.ref a) = true ∧ 0 < ps.length ∧
    ∀ us ws : List Value, us.length = np → ws.length = ks.length → bindArgs fd ⟨us, ks.zip ws⟩ = pure (ps.zip (us ++ ix.filterMap fun i => ws[i]?))
theorem kbinds {K : PySem.W.Frag} {fd : FuncData} {ps ks : List Str} {np : Nat} {ix : List Nat} (h0 : 0 < ps.length) (h : ∀ us ws : List Value, us.length = np → ws.length = ks.length → bindArgs fd ⟨us, ks.zip ws⟩ = pure (ps.zip (us ++ ix.filterMap fun i => ws[i]?))) :
    KBinds K fd ps ks (kwOrd np ks.length ix) (kwOrd np ks.length ix) := by
  refine ⟨fun s us ws _ hl => ?_, fun {vs us zs ws} r rz => ?_⟩
  · unfold kwOrd at hl ⊢
    by_cases c : us.length = np ∧ ws.length = ks.length
    · rw [if_pos c] at hl ⊢
      exact .of_eq (h us ws c.1 c.2)
    · rw [if_neg c] at hl
      simp at hl
      omega
  · unfold kwOrd
    rw [r.length, rz.length]
    by_cases c : us.length = np ∧ ws.length = ks.length
    · rw [if_pos c, if_pos c]
      exact Vals.append r (vals_ix rz ix)
    · rw [if_neg c, if_neg c]
      exact .nil
section
variable {X : Cx} {c : Anc} {W : WX} {e : Expr} {es : List Expr} {fs fk : M (List D)} {pos p : Pos} {x : Str} {k n np : Nat} {f : List A → Option (Rs D)} {ks : List Str} {ix : List Nat} {kws : List Keyword} {nm : Option Str} {kpos : Pos} {fe : M D}
abbrev PDk (c : Anc) (X : Cx) (W : WX) (kws : List Keyword) (f : M (List D)) : Prop := PK X kws (rA c W f)
theorem PK.imp {t t' : TA} (h : PK X kws t) (i : ∀ σ H Q, t' σ H Q → t σ H Q) : PK X kws t' := ⟨fun pos pins s σ H Q I q => h.run pos pins s σ H Q I (i σ H Q q)⟩
theorem pdk_nil : PDk c X W [] mnil := PK.imp pk_nil fun σ H Q h => by
  obtain ⟨F, ρ, s, h⟩ := h.at_
  exact at_pure h _ F H s (Mv.refl _ _ _ _) .nil
theorem pdk_cons (he : PD c X W e fe) (hk : PDk c X W kws fk) : PDk c X W (⟨nm, e, kpos⟩ :: kws) (mcons fe fk) := PK.imp (pk_cons he hk) fun σ H Q h => by
  obtain ⟨F, ρ, s, h⟩ := h.at_
  refine (at_bind s h fun d v F1 H1 ρ1 s1 m1 b1 h1 => (at_bind s1 h1 fun ds vs F2 H2 ρ2 s2 m2 b2 h2 => ?_).rd s1).rd s
  exact at_pure h2 _ F2 H2 s2 (Mv.refl _ _ _ _) (.cons (Rp.mono m2.ext b1) b2)
/-- of the positional and the keyword values: the call -/
def mcallK (n : Nat) (f : List A → Option (Rs D)) (np m : Nat) (ix : List Nat) (fs fk : M (List D)) : M D := mbind fs fun ds => mbind fk fun es => fun ρ => if ds.length = np ∧ es.length = m ∧ (ds ++ ix.filterMap fun i => es[i]?).length = n then (f ((ds ++ ix.filterMap fun i => es[i]?).map .dat)).map (backF ρ) else none
def tCallKS (sp : Sp) (gV : List V → List V → List V) (E : St → XK) (t tk : TA) : TE := fun σ H Q => t σ H fun vs H1 => tk σ H1 fun zs H2 => sp (gV vs zs) H2 Q (E σ)
theorem run_kw {CX : CXT} {a : Addr} {fd : FuncData} {ps : List Str} {sp : Sp} {E : St → XK} {g : List Value → List Value → List Value} {gV : List V → List V → List V} {pins : List (Addr × Obj)} {σ : St} {H : Hp} {s : Shared} {Q : VK} {us ws : List Value} {vs zs : List V}
    (F : FnOk X.prog X.w X.K X.mg X.base CX k a fd ps sp) (hr : Room k X.A) (hb : KBinds X.K fd ps ks g gV) (hx : PassesAt CX X σ (E σ)) (I : Inv X pins σ H s) (r : Vals vs us) (rz : Vals zs ws) (h : sp (gV vs zs) H Q (E σ)) :
    wpAny (model X.prog X.w) X.A (call (.ref a) us (ks.zip ws)) (EP X pins σ Q) X.xe s := by
  have r2 := hb.rel r rz
  have hl : (g us ws).length = ps.length := r2.length ▸ F.len _ _ _ _ h
  have go := F.run X.A X.stack s H ⟨us, ks.zip ws⟩ (g us ws) (gV vs zs) Q (E σ) hr I.env0 (hb.to s us ws I.kIn hl) r2 h
  refine wpAny_call (codeAny_mono go fun res s' hq => ?_)
  match res, hq with
  | .error er, hq => exact hx pins H s er s' I hq
  | .ok (.ret u), hq => exact I.after hq
theorem pe_callKS {CX : CXT} {a : Addr} {fd : FuncData} {ps : List Str} {sp : Sp} {E : St → XK} {g : List Value → List Value → List Value} {gV : List V → List V → List V} {t tk : TA} (F : FnOk X.prog X.w X.K X.mg X.base CX k a fd ps sp) (hr : Room k X.A) (hg : Gl X x) (hm : X.mg x = some (.ref a)) (hk : PySem.W.keepIn X.K (.ref a) = true) (hb : KBinds X.K fd ps ks g gV)
    (hx : ∀ σ, PassesAt CX X σ (E σ)) (ha : PA X (e :: es) t) (hkw : PK X kws tk) (hall : (backToKw pos (keywordEach kws X.env)).all (·.1.isSome) = true := by rfl) (hks : (backToKw pos (keywordEach kws X.env)).filterMap (·.1) = ks := by rfl) (hdb : (x == ("__debug__" : Str)) = false := by decide)
    (he : starEach (e :: es) X.env = (false, eval e X.env) :: starEach es X.env := by rfl) (hpl : ((backTo pos (starEach (e :: es) X.env)).any (·.1) || (backToKw pos (keywordEach kws X.env)).any (·.1.isNone)) = false := by rfl) : PE X (.Call (.Name x p) (e :: es) kws pos) (tCallKS sp gV E t tk) := by
  constructor
  intro pins s σ H Q I h
  refine wpAny_Call_Name_kw (ld_glob I hg hm ?_ hdb)
  refine PySem.W.callWith_KW (h₀ := X.base) I.ok.mod.kin hk hall ?_ hpl he
  refine thn (ha.run pos pins s σ H _ I h) fun us s1 ⟨vs, H1, I1, r, q⟩ => thn (hkw.run pos pins s1 σ H1 _ I1 q) fun ws s2 ⟨zs, H2, I2, rz, q2⟩ => ⟨I2.kIn, ?_⟩
  rw [hks]
  exact run_kw F hr hb (hx σ) I2 r rz q2
theorem pe_callKS0 {CX : CXT} {a : Addr} {fd : FuncData} {ps : List Str} {sp : Sp} {E : St → XK} {g : List Value → List Value → List Value} {gV : List V → List V → List V} {tk : TA} (F : FnOk X.prog X.w X.K X.mg X.base CX k a fd ps sp) (hr : Room k X.A) (hg : Gl X x) (hm : X.mg x = some (.ref a)) (hk : PySem.W.keepIn X.K (.ref a) = true) (hb : KBinds X.K fd ps ks g gV)
    (hx : ∀ σ, PassesAt CX X σ (E σ)) (hkw : PK X kws tk) (hall : (backToKw pos (keywordEach kws X.env)).all (·.1.isSome) = true := by rfl) (hks : (backToKw pos (keywordEach kws X.env)).filterMap (·.1) = ks := by rfl) (hdb : (x == ("__debug__" : Str)) = false := by decide)
    (hpl : ((backTo pos (starEach [] X.env)).any (·.1) || (backToKw pos (keywordEach kws X.env)).any (·.1.isNone)) = false := by rfl) : PE X (.Call (.Name x p) [] kws pos) (tCallKS sp gV E tNil tk) := by
  constructor
  intro pins s σ H Q I h
  refine wpAny_Call_Name_kw (ld_glob I hg hm ?_ hdb)
  refine PySem.W.callWith_KW0 (h₀ := X.base) I.ok.mod.kin hk hall ?_ hpl
  refine thn (hkw.run pos pins s σ H _ I h) fun ws s2 ⟨zs, H2, I2, rz, q2⟩ => ⟨I2.kIn, ?_⟩
  rw [hks]
  exact run_kw F hr hb (hx σ) I2 .nil rz q2
theorem callK_at {Q : VK} {σ : St} {H : Hp} {vs zs : List V} {ds es : List D} {F1 : Hp} {ρ1 : List A} (s1 : SR c F1 ρ1 σ H) (b1 : Rps c.K F1 vs ds) (b2 : Rps c.K F1 zs es) (hK : X.K = c.K)
    (h : rdAt c W (BE c) (fun ρ => if ds.length = np ∧ es.length = ks.length ∧ (ds ++ ix.filterMap fun i => es[i]?).length = n then (f ((ds ++ ix.filterMap fun i => es[i]?).map .dat)).map (backF ρ) else none) F1 ρ1 σ H Q) : spG X.K n f (kwOrd np ks.length ix vs zs) H Q (WE W σ) := by
  obtain ⟨r, e1, p1⟩ := h
  replace e1 : (if ds.length = np ∧ es.length = ks.length ∧ (ds ++ ix.filterMap fun i => es[i]?).length = n then (f ((ds ++ ix.filterMap fun i => es[i]?).map .dat)).map (backF ρ1) else none) = some r := e1
  by_cases hn' : ds.length = np ∧ es.length = ks.length ∧ (ds ++ ix.filterMap fun i => es[i]?).length = n
  case neg =>
    rw [if_neg hn'] at e1
    cases e1
  rw [if_pos hn'] at e1
  obtain ⟨r1, q, e2⟩ := Option.map_eq_some_iff.mp e1
  have eo : kwOrd np ks.length ix vs zs = vs ++ ix.filterMap fun i => zs[i]? := by
    unfold kwOrd
    rw [if_pos ⟨b1.len.trans hn'.1, b2.len.trans hn'.2.1⟩]
  have b3 := Rps.app b1 (rps_ix b2 ix)
  rw [eo, hK]
  refine ⟨F1, _, [], r1, by rw [b3.len]; exact hn'.2.2, s1.entry b3, q, ?_⟩
  subst e2
  cases r1 with
  | ok d ρ' =>
    intro v F2 H2 s2 r2
    obtain ⟨s3, m3⟩ := s1.call s2 (fun b hb => absurd hb (by simp)) ρ1 rfl (fun i a h => .inl ⟨h, fun _ _ _ => by simp⟩) (fun i a h1 h2 => ⟨a, h1, h2⟩)
    exact p1 v F2 H2 s3 m3 r2
  | exc nm d ρ' =>
    intro F2 H2 s2 dx v h1 h2
    obtain ⟨s3, m3⟩ := s1.call s2 (fun b hb => absurd hb (by simp)) ρ1 rfl (fun i a h => .inl ⟨h, fun _ _ _ => by simp⟩) (fun i a h1 h2 => ⟨a, h1, h2⟩)
    exact p1 F2 H2 s3 m3 dx v h1 h2
theorem pd_callK (G : CalK X.prog X.w X.K X.mg X.base k x n f np ks ix) (hr : Room k X.A) (tk : Takes X W) (hg : Gl X x) (ha : PDs c X W (e :: es) fs) (hkw : PDk c X W kws fk) (hall : (backToKw pos (keywordEach kws X.env)).all (·.1.isSome) = true := by rfl) (hks : (backToKw pos (keywordEach kws X.env)).filterMap (·.1) = ks := by rfl)
    (hdb : (x == ("__debug__" : Str)) = false := by decide) (he : starEach (e :: es) X.env = (false, eval e X.env) :: starEach es X.env := by rfl) (hpl : ((backTo pos (starEach (e :: es) X.env)).any (·.1) || (backToKw pos (keywordEach kws X.env)).any (·.1.isNone)) = false := by rfl) (hK : X.K = c.K := by rfl) :
    PD c X W (.Call (.Name x p) (e :: es) kws pos) (mcallK n f np ks.length ix fs fk) := by
  obtain ⟨a, fd, ps, F0, gf, kp, h0, b⟩ := G.ex
  refine PE.imp (pe_callKS F0 hr hg gf kp (kbinds h0 b) (fun σ => passAt tk σ) ha hkw hall hks hdb he hpl) fun σ H Q h => ?_
  obtain ⟨F, ρ, s, h⟩ := h.at_
  refine (at_bind s h fun ds vs F1 H1 ρ1 s1 m1 b1 h1 => (at_bind s1 h1 fun es zs F2 H2 ρ2 s2 m2 b2 h2 => ?_).rd s1).rd s
  exact callK_at s2 (Rps.mono m2.ext b1) b2 hK h2
theorem pd_callK0 (G : CalK X.prog X.w X.K X.mg X.base k x n f 0 ks ix) (hr : Room k X.A) (tk : Takes X W) (hg : Gl X x) (hkw : PDk c X W kws fk) (hall : (backToKw pos (keywordEach kws X.env)).all (·.1.isSome) = true := by rfl) (hks : (backToKw pos (keywordEach kws X.env)).filterMap (·.1) = ks := by rfl)
    (hdb : (x == ("__debug__" : Str)) = false := by decide) (hpl : ((backTo pos (starEach [] X.env)).any (·.1) || (backToKw pos (keywordEach kws X.env)).any (·.1.isNone)) = false := by rfl) (hK : X.K = c.K := by rfl) :
    PD c X W (.Call (.Name x p) [] kws pos) (mcallK n f 0 ks.length ix mnil fk) := by
  obtain ⟨a, fd, ps, F0, gf, kp, h0, b⟩ := G.ex
  refine PE.imp (pe_callKS0 F0 hr hg gf kp (kbinds h0 b) (fun σ => passAt tk σ) hkw hall hks hdb hpl) fun σ H Q h => ?_
  obtain ⟨F, ρ, s, h⟩ := h.at_
  replace h : rdAt c W (BE c) (mbind fk fun es => fun ρ => if ([] : List D).length = 0 ∧ es.length = ks.length ∧ ([] ++ ix.filterMap fun i => es[i]?).length = n then (f (([] ++ ix.filterMap fun i => es[i]?).map .dat)).map (backF ρ) else none) F ρ σ H Q := h
  refine (at_bind s h fun es zs F2 H2 ρ2 s2 m2 b2 h2 => ?_).rd s
  exact callK_at (ds := []) s2 .nil b2 hK h2
end
end L2.DL

set_option maxHeartbeats 1000000
namespace L2.DL
open PySem PySem.Spec PyProof.Rows
/-! ### a def that returns a list of its own making: return [..] -/
def spO (K : PySem.W.Frag) (n : Nat) (f : List A → Option (List D)) : Sp := fun vs H Q _ => ∃ F ds os, vs.length = n ∧ Rps K F vs ds ∧ SR ⟨K, [], F, H⟩ F (ds.map .dat) (vs.map some) H ∧ f (ds.map .dat) = some os ∧
  ∀ p us F' H' ρ', H' p = none → SR ⟨K, [], F, H⟩ F' ρ' (vs.map some) H' → Rps K F' us os → Q (.ref p) (upd H' p (.lst us))
def runO (m : Nat) (fs : M (List D)) (ρ : List A) : Option (List D) := match fs (ρ ++ List.replicate (m - ρ.length) .und) with
  | some (.ok os ρ') => if ρ.length ≤ ρ'.length ∧ os.length ≤ sizeLine then some os else none
  | _ => none
section
variable {P : Program} {w : World} {K : PySem.W.Frag} {mg : Str → Option Value} {base : Heap} {x qual : Str} {params : Arguments} {scope : Scope} {f : Addr} {fd : FuncData} {es : List Expr} {p1 p2 : Pos}
theorem fn_okO {N ps : List Str} {k : Nat} {fs : M (List D)} (F : FunD K x qual params [.Return (some (.List es p1)) p2] scope [] [] f fd) (S : FnScope N ps scope)
    (hb : ∀ (ios : List Addr) (F0 H0 : Hp) (cdv : Value) (A : Around) (outer : List Env) (s : Shared) (H : Hp) (E : XK), Room k (A.deeper (envOfC qual scope s.heap.objs.size f cdv)) →
      Takes (cxOf (L2.CX P w) P w K mg base N qual scope f cdv A outer s H E) (fun cls d _ H => E cls d H) →
      PDs ⟨K, ios, F0, H0⟩ (cxOf (L2.CX P w) P w K mg base N qual scope f cdv A outer s H E) (fun cls d _ H => E cls d H) es fs) : FnOk P w K mg base (L2.CX P w) (k + 1) f fd ps (spO K ps.length (runO N.length fs)) := by
  refine F.ok S (fun vs H Q E ⟨_, _, _, h, _⟩ => h) fun cdv Ar outer s H vs Q E hr h => ?_
  obtain ⟨F, ds, os, hl, hv, sr, e, p⟩ := h
  have ha := hb [] F H cdv Ar outer s H E hr (takes_of rfl rfl rfl rfl)
  refine ⟨_, pss_one (ps_ret (pe_lst ha)), ?_⟩
  have hN : vs.length ≤ N.length := by
    rw [hl, ← S.pre, List.length_take]
    exact Nat.min_le_right _ _
  have s0 := sr.start hN
  unfold runO at e
  cases q : fs (ds.map .dat ++ List.replicate (N.length - (ds.map A.dat).length) .und) with
  | none => rw [q] at e; cases e
  | some r1 =>
    rw [q] at e
    cases r1 with
    | exc n d ρ1 => cases e
    | ok os1 ρ1 =>
      replace e : (if (ds.map A.dat).length ≤ ρ1.length ∧ os1.length ≤ sizeLine then some os1 else none) = some os := e
      by_cases z : (ds.map A.dat).length ≤ ρ1.length ∧ os1.length ≤ sizeLine
      · rw [if_pos z] at e
        cases e
        refine ⟨F, _, _, s0, q, fun us F' H' s' m' b' => ⟨by rw [Rps.len b']; exact z.2, fun p' np => ?_⟩⟩
        exact p p' us F' H' _ np (sr.end_ s' z.1) b'
      · rw [if_neg z] at e
        cases e
end
structure CalO (P : Program) (w : World) (K : PySem.W.Frag) (mg : Str → Option Value) (base : Heap) (k : Nat) (x : Str) (n : Nat) (f : List A → Option (List D)) : Prop where
  ex : ∃ (a : Addr) (fd : FuncData) (ps : List Str), FnOk P w K mg base (L2.CX P w) k a fd ps (spO K n f) ∧ mg x = some (.ref a) ∧ PySem.W.keepIn K (.ref a) = true ∧ Binds K fd ps []
/-- x = f(..): the list is the slot's own -/
def mcallO (n : Nat) (f : List A → Option (List D)) (i : Nat) (fs : M (List D)) : M Fl := mbind fs fun ds => fun ρ => if ds.length = n then (f (ds.map .dat)).bind fun os => if canSet ρ i = true then some (.ok .nx (ρ.set i (.own none (.l os)))) else none else none
section
variable {X : Cx} {c : Anc} {W : WX} {e : Expr} {es : List Expr} {fs : M (List D)} {pos p p' : Pos} {x y : Str} {k n : Nat} {f : List A → Option (List D)}
theorem pds_setO (i : Nat) (hN : X.N.Nodup) (G : CalO X.prog X.w X.K X.mg X.base k x n f) (hr : Room k X.A) (tk : Takes X W) (hg : Gl X x) (ha : PDs c X W (e :: es) fs) (hi : X.N[i]? = some y := by rfl) (hy : X.env.scope.names.lookup y = some .local := by rfl) (hdb : (x == ("__debug__" : Str)) = false := by decide)
    (he : starEach (e :: es) X.env = (false, eval e X.env) :: starEach es X.env := by rfl) (hpl : (backTo pos (starEach es X.env)).any (·.1) = false := by rfl) (hs : swapsWith (.Call (.Name x p) (e :: es) [] pos) (some (.Name y p')) pos'.line X.env = pure false := by rfl) (hK : X.K = c.K := by rfl) :
    PDS c X W (.Assign [.Name y p'] (.Call (.Name x p) (e :: es) [] pos) pos') (mcallO n f i fs) := by
  obtain ⟨a, fd, ps, F0, gf, kp, b⟩ := G.ex
  refine PS.imp (ps_set hN hi (.inl hy) (pe_callS F0 hr hg gf kp b (fun σ => passAt tk σ) ha hdb he hpl) hs (.inr hy)) fun σ H Dn ht => ?_
  obtain ⟨F, ρ, s, h⟩ := ht
  refine at_bindS s h fun ds vs F1 H1 ρ1 s1 m1 b1 h1 => ?_
  obtain ⟨r, e1, p1⟩ := h1
  replace e1 : (if ds.length = n then (f (ds.map .dat)).bind fun os => if canSet ρ1 i = true then some (.ok .nx (ρ1.set i (.own none (.l os)))) else none else none) = some r := e1
  by_cases hn' : ds.length = n
  case neg =>
    rw [if_neg hn'] at e1
    cases e1
  rw [if_pos hn'] at e1
  cases q : f (ds.map .dat) with
  | none => rw [q] at e1; cases e1
  | some os =>
    rw [q] at e1
    replace e1 : (if canSet ρ1 i = true then some (.ok .nx (ρ1.set i (.own none (.l os)))) else none) = some r := e1
    by_cases z : canSet ρ1 i = true
    case neg =>
      rw [if_neg z] at e1
      cases e1
    rw [if_pos z] at e1
    cases e1
    rw [hK]
    refine ⟨F1, ds, os, by rw [b1.len, hn'], b1, s1.entry b1, q, fun l us F2 H2 ρ' nl s2 r2 => ?_⟩
    obtain ⟨s3, m3⟩ := s1.call s2 (fun b hb => absurd hb (by simp)) ρ1 rfl (fun i a h => .inl ⟨h, fun _ _ _ => by simp⟩) (fun i a h1 h2 => ⟨a, h1, h2⟩)
    refine p1 _ F2 _ m3.ext ((s3.beside (o := .lst us) nl).setA (canSet_lt z) (a := .own none (.l os)) ⟨?_, ?_, _, upd_same, r2⟩ fun _ j b e2 e3 e4 => ?_)
    · show c.H0 l = none
      cases y : c.H0 l with
      | none => rfl
      | some o =>
        by_cases u : l ∈ c.ios
        · obtain ⟨x, g, _⟩ := s3.iot l u
          rw [nl] at g; cases g
        · have := s3.keep l o u y
          rw [nl] at this; cases this
    · cases y : F2 l with
      | none => rfl
      | some o =>
        have := s3.le l o y
        rw [nl] at this; cases this
    · cases b with
      | own io ob =>
        obtain ⟨p2, g1, _, _, h2, g2, _⟩ := s3.ownAt e2
        have z2 := g1.symm.trans e4
        cases z2
        rw [nl] at g2; cases g2
      | _ => cases e3
end
end L2.DL

set_option maxHeartbeats 1000000
namespace L2.DL
open PySem PySem.Spec PyProof.Rows
/-! ### plain maths: what a denotation gives -/
/-- m gives a value and slots with Q -/
def Wp {α : Type} (m : M α) (ρ : List A) (Q : α → List A → Prop) : Prop := ∃ a ρ', m ρ = some (.ok a ρ') ∧ Q a ρ'
/-- a def's value, its arguments' slots afterwards -/
def Gv (f : List A → Option (Rs D)) (ρ : List A) (Q : D → List A → Prop) : Prop := ∃ d ρ', f ρ = some (.ok d ρ') ∧ Q d ρ'
section
variable {α β : Type} {ρ : List A} {Q : α → List A → Prop}
theorem Wp.mono {m : M α} {Q' : α → List A → Prop} (h : Wp m ρ Q) (i : ∀ a ρ', Q a ρ' → Q' a ρ') : Wp m ρ Q' := let ⟨a, ρ', e, q⟩ := h; ⟨a, ρ', e, i a ρ' q⟩
theorem Gv.mono {f : List A → Option (Rs D)} {Q Q' : D → List A → Prop} (h : Gv f ρ Q) (i : ∀ a ρ', Q a ρ' → Q' a ρ') : Gv f ρ Q' := let ⟨a, ρ', e, q⟩ := h; ⟨a, ρ', e, i a ρ' q⟩
@[simp] theorem wp_pure {a : α} : Wp (mpure a) ρ Q ↔ Q a ρ := ⟨fun ⟨_, _, e, q⟩ => by cases e; exact q, fun q => ⟨_, _, rfl, q⟩⟩
@[simp] theorem wp_bind {m : M β} {k : β → M α} : Wp (mbind m k) ρ Q ↔ Wp m ρ fun b ρ' => Wp (k b) ρ' Q := by
  constructor
  · rintro ⟨a, ρ', e, q⟩
    unfold mbind at e
    cases h : m ρ with
    | none => rw [h] at e; cases e
    | some r =>
      rw [h] at e
      cases r with
      | ok b ρ1 => exact ⟨b, ρ1, h, a, ρ', e, q⟩
      | exc _ _ _ => cases e
  · rintro ⟨b, ρ1, h, a, ρ', e, q⟩
    refine ⟨a, ρ', ?_, q⟩
    unfold mbind
    rw [h]
    exact e
@[simp] theorem wp_opt {o : Option α} : Wp (mopt o) ρ Q ↔ ∃ a, o = some a ∧ Q a ρ := by
  constructor
  · rintro ⟨a, ρ', e, q⟩
    cases o with
    | none => cases e
    | some b => cases e; exact ⟨_, rfl, q⟩
  · rintro ⟨a, e, q⟩
    subst e
    exact ⟨a, ρ, rfl, q⟩
@[simp] theorem wp_fail : Wp (mfail : M α) ρ Q ↔ False := ⟨fun ⟨_, _, e, _⟩ => (by cases e), fun h => h.elim⟩
theorem wp_guard {c : Prop} [Decidable c] {g : M α} : Wp (fun ρ => if c then g ρ else none) ρ Q ↔ c ∧ Wp g ρ Q := by
  unfold Wp
  by_cases h : c
  · simp [h]
  · simp [h]
end
section
variable {ρ : List A} {Q : D → List A → Prop} {R : Fl → List A → Prop} {T : Bool → List A → Prop} {L : List D → List A → Prop} {fa fb fe : M D} {ga gb : M Bool} {fs : M (List D)} {i j n : Nat}
theorem wp_dat {d : D} (e : ρ[i]? = some (.dat d)) (q : Q d ρ) : Wp (mvar i) ρ Q := ⟨d, ρ, by unfold mvar; rw [e], q⟩
@[simp] theorem wp_var : Wp (mvar i) ρ Q ↔ match ρ[i]? with
    | some (.dat d) => Q d ρ
    | some (.own none (.l ds)) => Q (.list ds) (ρ.set i (.dat (.list ds)))
    | _ => False := by
  unfold Wp mvar
  cases e : ρ[i]? with
  | none => simp
  | some a =>
    cases a with
    | und => simp
    | dat d => exact ⟨fun ⟨a, ρ', e, q⟩ => by cases e; exact q, fun q => ⟨_, _, rfl, q⟩⟩
    | own io o =>
      cases io with
      | some _ => simp
      | none => cases o with
        | k _ => simp
        | l ds => exact ⟨fun ⟨a, ρ', e, q⟩ => by cases e; exact q, fun q => ⟨_, _, rfl, q⟩⟩
@[simp] theorem wp_op {g : D → D → Option D} : Wp (mop g fa fb) ρ Q ↔ Wp fa ρ fun x ρ1 => Wp fb ρ1 fun y ρ2 => ∃ z, g x y = some z ∧ Q z ρ2 := by
  unfold mop
  simp only [wp_bind, wp_opt]
@[simp] theorem wp_neg : Wp (mneg fa) ρ Q ↔ Wp fa ρ fun x ρ1 => ∃ k, x = .int k ∧ Q (.int (-k)) ρ1 := by
  unfold mneg
  rw [wp_bind]
  constructor
  · refine fun h => h.mono fun x ρ1 h => ?_
    cases x <;> first | exact (wp_fail.mp h).elim | exact ⟨_, rfl, wp_pure.mp h⟩
  · refine fun h => h.mono fun x ρ1 ⟨k, e, q⟩ => ?_
    subst e
    exact wp_pure.mpr q
@[simp] theorem wp_is : Wp (mis fa) ρ Q ↔ Wp fa ρ fun x ρ1 => Q (.bool (isNon x)) ρ1 := by unfold mis; simp only [wp_bind, wp_pure]
@[simp] theorem wp_isnt : Wp (misnt fa) ρ Q ↔ Wp fa ρ fun x ρ1 => Q (.bool (!isNon x)) ρ1 := by unfold misnt; simp only [wp_bind, wp_pure]
@[simp] theorem wp_tru : Wp (mtru fa) ρ T ↔ Wp fa ρ fun x ρ1 => ∃ b, tru x = some b ∧ T b ρ1 := by unfold mtru; simp only [wp_bind, wp_opt]
@[simp] theorem wp_tst : Wp (mtst fa) ρ T ↔ Wp fa ρ fun x ρ1 => ∃ b, x = .bool b ∧ T b ρ1 := by
  unfold mtst
  rw [wp_bind]
  constructor
  · refine fun h => h.mono fun x ρ1 h => ?_
    cases x <;> first | exact (wp_fail.mp h).elim | exact ⟨_, rfl, wp_pure.mp h⟩
  · refine fun h => h.mono fun x ρ1 ⟨k, e, q⟩ => ?_
    subst e
    exact wp_pure.mpr q
theorem wp_ite {α : Type} {f g : M α} {Q : α → List A → Prop} {b : Bool} : Wp (if b = true then f else g) ρ Q ↔ (b = true → Wp f ρ Q) ∧ (b = false → Wp g ρ Q) := by
  cases b <;> simp
@[simp] theorem wp_and : Wp (mand ga gb) ρ T ↔ Wp ga ρ fun x ρ1 => (x = true → Wp gb ρ1 T) ∧ (x = false → T false ρ1) := by unfold mand; simp only [wp_bind, wp_pure, wp_ite]
@[simp] theorem wp_or : Wp (mor ga gb) ρ T ↔ Wp ga ρ fun x ρ1 => (x = true → T true ρ1) ∧ (x = false → Wp gb ρ1 T) := by unfold mor; simp only [wp_bind, wp_pure, wp_ite]
@[simp] theorem wp_not : Wp (mnot ga) ρ T ↔ Wp ga ρ fun x ρ1 => T (!x) ρ1 := by unfold mnot; simp only [wp_bind, wp_pure]
@[simp] theorem wp_andV : Wp (mandV fa fb) ρ Q ↔ Wp fa ρ fun x ρ1 => ∃ b, tru x = some b ∧ (b = true → Wp fb ρ1 Q) ∧ (b = false → Q x ρ1) := by unfold mandV; simp only [wp_bind, wp_pure, wp_opt, wp_ite]
@[simp] theorem wp_orV : Wp (morV fa fb) ρ Q ↔ Wp fa ρ fun x ρ1 => ∃ b, tru x = some b ∧ (b = true → Q x ρ1) ∧ (b = false → Wp fb ρ1 Q) := by unfold morV; simp only [wp_bind, wp_pure, wp_opt, wp_ite]
@[simp] theorem wp_notV : Wp (mnotV fa) ρ Q ↔ Wp fa ρ fun x ρ1 => ∃ b, tru x = some b ∧ Q (.bool (!b)) ρ1 := by unfold mnotV; simp only [wp_bind, wp_pure, wp_opt]
@[simp] theorem wp_if : Wp (mif ga fa fb) ρ Q ↔ Wp ga ρ fun x ρ1 => (x = true → Wp fa ρ1 Q) ∧ (x = false → Wp fb ρ1 Q) := by unfold mif; simp only [wp_bind, wp_ite]
@[simp] theorem wp_nil : Wp mnil ρ L ↔ L [] ρ := wp_pure
@[simp] theorem wp_cons : Wp (mcons fa fs) ρ L ↔ Wp fa ρ fun x ρ1 => Wp fs ρ1 fun xs ρ2 => L (x :: xs) ρ2 := by unfold mcons; simp only [wp_bind, wp_pure]
@[simp] theorem wp_tup : Wp (mtup fs) ρ Q ↔ Wp fs ρ fun xs ρ1 => xs.length ≤ sizeLine ∧ Q (.tuple xs) ρ1 := by
  unfold mtup
  simp only [wp_bind, wp_opt]
  refine ⟨fun h => h.mono fun xs ρ1 ⟨a, e, q⟩ => ?_, fun h => h.mono fun xs ρ1 ⟨hl, q⟩ => ⟨_, if_pos hl, q⟩⟩
  by_cases hl : xs.length ≤ sizeLine
  · rw [if_pos hl] at e
    cases e
    exact ⟨hl, q⟩
  · rw [if_neg hl] at e
    cases e
@[simp] theorem wp_lst : Wp (mlst fs) ρ Q ↔ Wp fs ρ fun xs ρ1 => xs.length ≤ sizeLine ∧ Q (.list xs) ρ1 := by
  unfold mlst
  simp only [wp_bind, wp_opt]
  refine ⟨fun h => h.mono fun xs ρ1 ⟨a, e, q⟩ => ?_, fun h => h.mono fun xs ρ1 ⟨hl, q⟩ => ⟨_, if_pos hl, q⟩⟩
  by_cases hl : xs.length ≤ sizeLine
  · rw [if_pos hl] at e
    cases e
    exact ⟨hl, q⟩
  · rw [if_neg hl] at e
    cases e
@[simp] theorem wp_call {g : List D → Option D} : Wp (mcall g fs) ρ Q ↔ Wp fs ρ fun xs ρ1 => ∃ z, g xs = some z ∧ Q z ρ1 := by unfold mcall; simp only [wp_bind, wp_opt]
@[simp] theorem wp_isi {T : String} : Wp (misi T fa) ρ Q ↔ Wp fa ρ fun x ρ1 => Q (.bool (isT T x)) ρ1 := by unfold misi; simp only [wp_bind, wp_pure]
@[simp] theorem wp_isiT {T : List String} : Wp (misiT T fa) ρ Q ↔ Wp fa ρ fun x ρ1 => Q (.bool (isTs T x)) ρ1 := by unfold misiT; simp only [wp_bind, wp_pure]
@[simp] theorem wp_part {P : Option Int → List A → Prop} : Wp (mpart fa) ρ P ↔ Wp fa ρ fun x ρ1 => ∃ k, x = .int k ∧ P (some k) ρ1 := by
  unfold mpart
  rw [wp_bind]
  constructor
  · refine fun h => h.mono fun x ρ1 h => ?_
    cases x <;> first | exact (wp_fail.mp h).elim | exact ⟨_, rfl, wp_pure.mp h⟩
  · refine fun h => h.mono fun x ρ1 ⟨k, e, q⟩ => ?_
    subst e
    exact wp_pure.mpr q
@[simp] theorem wp_sl {fl fh : M (Option Int)} : Wp (msl fa fl fh) ρ Q ↔ Wp fa ρ fun d ρ1 => Wp fl ρ1 fun l ρ2 => Wp fh ρ2 fun h ρ3 => ∃ z, gSl d l h = some z ∧ Q z ρ3 := by unfold msl; simp only [wp_bind, wp_opt]
theorem wp_see {α : Type} {k : M α} {Q : α → List A → Prop} : (Wp (msee i) ρ fun _ ρ1 => Wp k ρ1 Q) ↔ (peek ρ i).isSome = true ∧ Wp k ρ Q := by
  constructor
  · rintro ⟨_, _, e, h⟩
    obtain ⟨d, e1, e2⟩ := Option.map_eq_some_iff.mp e
    cases e2
    exact ⟨by rw [e1]; rfl, h⟩
  · rintro ⟨e, h⟩
    obtain ⟨d, e1⟩ := Option.isSome_iff_exists.mp e
    exact ⟨(), ρ, by unfold msee; rw [e1]; rfl, h⟩
theorem wp_peek : Wp (mpeek i) ρ Q ↔ ∃ x, peek ρ i = some x ∧ Q x ρ := by
  constructor
  · rintro ⟨_, _, e, h⟩
    obtain ⟨d, e1, e2⟩ := Option.map_eq_some_iff.mp e
    cases e2
    exact ⟨_, e1, h⟩
  · rintro ⟨d, e, h⟩
    exact ⟨d, ρ, by unfold mpeek; rw [e]; rfl, h⟩
@[simp] theorem wp_ixN : Wp (mixN i fb) ρ Q ↔ (peek ρ i).isSome = true ∧ Wp fb ρ fun y ρ1 => ∃ x, peek ρ1 i = some x ∧ ∃ z, gIx x y = some z ∧ Q z ρ1 := by
  unfold mixN
  simp only [wp_bind, wp_opt, wp_see, wp_peek]
/-! calls -/
theorem wp_backF {o : Option (Rs D)} : Wp (fun ρ => o.map (backF ρ)) ρ Q ↔ ∃ d ρ', o = some (.ok d ρ') ∧ Q d ρ := by
  constructor
  · rintro ⟨a, ρ', e, q⟩
    obtain ⟨r, e1, e2⟩ := Option.map_eq_some_iff.mp e
    cases r with
    | ok b ρ2 => cases e2; exact ⟨_, ρ2, e1, q⟩
    | exc _ _ _ => cases e2
  · rintro ⟨a, ρ', e, q⟩
    exact ⟨a, ρ, by show o.map _ = _; rw [e]; rfl, q⟩
@[simp] theorem wp_callF {f : List A → Option (Rs D)} : Wp (mcallF n f fs) ρ Q ↔ Wp fs ρ fun xs ρ1 => xs.length = n ∧ Gv f (xs.map .dat) fun d _ => Q d ρ1 := by
  unfold mcallF
  simp only [wp_bind, wp_guard, wp_backF, Gv]
@[simp] theorem wp_callK {f : List A → Option (Rs D)} {np m : Nat} {ix : List Nat} {fk : M (List D)} : Wp (mcallK n f np m ix fs fk) ρ Q ↔ Wp fs ρ fun xs ρ1 => Wp fk ρ1 fun ys ρ2 => (xs.length = np ∧ ys.length = m ∧ (xs ++ ix.filterMap fun i => ys[i]?).length = n) ∧ Gv f ((xs ++ ix.filterMap fun i => ys[i]?).map .dat) fun d _ => Q d ρ2 := by
  unfold mcallK
  simp only [wp_bind, wp_guard, wp_backF, Gv]
/-- lent: the object in slot j -/
theorem wp_callR {f : List A → Option (Rs D)} (io : Option Nat) (o : O) (h0 : ρ[j]? = some (.own io o))
    (h : Wp fs ρ fun xs ρ1 => xs.length + 1 = n ∧ ρ1[j]? = some (.own io o) ∧ Gv f (.own (some 0) o :: xs.map .dat) fun d ρ2 => ∃ o' r, ρ2 = .own (some 0) o' :: r ∧ Q d (ρ1.set j (.own io o'))) : Wp (mcallR n f j fs) ρ Q := by
  unfold mcallR
  rw [wp_bind]
  have a0 : atOwn ρ j = some (io, o) := by unfold atOwn; rw [h0]
  refine ⟨(), ρ, by show (atOwn ρ j).map _ = _; rw [a0]; rfl, ?_⟩
  show Wp (mbind fs _) ρ Q
  rw [wp_bind]
  refine h.mono fun xs ρ1 ⟨hl, h1, d, ρ2, e, o', r, e2, q⟩ => ⟨d, _, ?_, q⟩
  have a1 : atOwn ρ1 j = some (io, o) := by unfold atOwn; rw [h1]
  subst e2
  show (if xs.length + 1 = n then (atOwn ρ1 j).bind fun z => (f (.own (some 0) z.2 :: xs.map .dat)).bind (backR j z.1 ρ1) else none) = _
  rw [if_pos hl, a1]
  show (f (.own (some 0) o :: xs.map .dat)).bind (backR j io ρ1) = _
  rw [e]
  rfl
/-! statements -/
@[simp] theorem wp_seq {a b : M Fl} : Wp (mseq a b) ρ R ↔ Wp a ρ fun fl ρ1 => match fl with
    | .nx => Wp b ρ1 R
    | o => R o ρ1 := by
  unfold mseq
  rw [wp_bind]
  constructor
  · refine fun h => h.mono fun fl ρ1 h => ?_
    cases fl <;> first | exact h | exact wp_pure.mp h
  · refine fun h => h.mono fun fl ρ1 h => ?_
    cases fl <;> first | exact h | exact wp_pure.mpr h
@[simp] theorem wp_ret : Wp (mret fa) ρ R ↔ Wp fa ρ fun d ρ1 => R (.rt d) ρ1 := by unfold mret; simp only [wp_bind, wp_pure]
@[simp] theorem wp_retN : Wp mretN ρ R ↔ R (.rt .none) ρ := wp_pure
@[simp] theorem wp_skip : Wp mskip ρ R ↔ R .nx ρ := wp_pure
@[simp] theorem wp_brk : Wp mbrk ρ R ↔ R .bk ρ := wp_pure
@[simp] theorem wp_cnt : Wp mcnt ρ R ↔ R .ct ρ := wp_pure
@[simp] theorem wp_ifS {a b : M Fl} : Wp (mifS ga a b) ρ R ↔ Wp ga ρ fun x ρ1 => (x = true → Wp a ρ1 R) ∧ (x = false → Wp b ρ1 R) := by unfold mifS; simp only [wp_bind, wp_ite]
@[simp] theorem wp_drop : Wp (mdrop fa) ρ R ↔ Wp fa ρ fun _ ρ1 => R .nx ρ1 := by unfold mdrop; simp only [wp_bind, wp_pure]
@[simp] theorem wp_put {a : A} : Wp (mput i a) ρ R ↔ canSet ρ i = true ∧ R .nx (ρ.set i a) := by
  unfold Wp mput
  by_cases h : canSet ρ i = true
  · rw [if_pos h]
    exact ⟨fun ⟨a, ρ', e, q⟩ => by cases e; exact ⟨h, q⟩, fun q => ⟨_, _, rfl, q.2⟩⟩
  · simp [h]
@[simp] theorem wp_set : Wp (mset i fa) ρ R ↔ Wp fa ρ fun d ρ1 => canSet ρ1 i = true ∧ R .nx (ρ1.set i (.dat d)) := by unfold mset; simp only [wp_bind, wp_put]
@[simp] theorem wp_par {is : List Nat} : Wp (mpar is fs) ρ R ↔ Wp fs ρ fun ds ρ1 => ds.length = is.length ∧ is.all (canSet ρ1) = true ∧ R .nx ((is.zip ds).foldl (fun r p => r.set p.1 (.dat p.2)) ρ1) := by
  unfold mpar
  rw [wp_bind]
  refine ⟨fun h => h.mono fun ds ρ1 ⟨a, ρ2, e, q⟩ => ?_, fun h => h.mono fun ds ρ1 ⟨h1, h2, q⟩ => ⟨_, _, if_pos ⟨h1, h2⟩, q⟩⟩
  replace e : (if ds.length = is.length ∧ is.all (canSet ρ1) = true then some (Rs.ok Fl.nx ((is.zip ds).foldl (fun r p => r.set p.1 (.dat p.2)) ρ1)) else none) = some (.ok a ρ2) := e
  by_cases hl : ds.length = is.length ∧ is.all (canSet ρ1) = true
  · rw [if_pos hl] at e
    cases e
    exact ⟨hl.1, hl.2, q⟩
  · rw [if_neg hl] at e
    cases e
@[simp] theorem wp_setIx : Wp (msetIx i fe fb) ρ R ↔ Wp fe ρ fun d ρ1 => (peek ρ1 i).isSome = true ∧ Wp fb ρ1 fun k ρ2 => ∃ ρ3, setAt ρ2 i k d = some ρ3 ∧ R .nx ρ3 := by
  unfold msetIx
  simp only [wp_bind, wp_see]
  have go : ∀ k d ρ2, Wp (fun ρ => (setAt ρ i k d).map fun ρ' => Rs.ok Fl.nx ρ') ρ2 R ↔ ∃ ρ3, setAt ρ2 i k d = some ρ3 ∧ R .nx ρ3 := by
    intro k d ρ2
    constructor
    · rintro ⟨a, ρ3, e, r⟩
      obtain ⟨ρ4, e1, e2⟩ := Option.map_eq_some_iff.mp e
      cases e2
      exact ⟨_, e1, r⟩
    · rintro ⟨ρ3, e, r⟩
      exact ⟨_, _, by show (setAt ρ2 i k d).map _ = _; rw [e]; rfl, r⟩
  simp only [go]
/-- a for: Inv holds of the things yet to come -/
theorem wp_for {t : D → M Fl} {b : M Fl} (Inv : List D → List A → Prop) (step : ∀ d ds ρ, Inv (d :: ds) ρ → Wp (t d) ρ fun _ ρ1 => Wp b ρ1 fun fl ρ2 => match fl with
    | .nx => Inv ds ρ2
    | .ct => Inv ds ρ2
    | .bk => R .nx ρ2
    | .rt x => R (.rt x) ρ2) (fin : ∀ ρ, Inv [] ρ → R .nx ρ) : ∀ (ds : List D) (ρ : List A), Inv ds ρ → Wp (mfor t b ds) ρ R
  | [], ρ, h => wp_skip.mpr (fin ρ h)
  | d :: ds, ρ, h => by
    unfold mfor
    rw [wp_bind]
    refine (step d ds ρ h).mono fun _ ρ1 h => ?_
    rw [wp_bind]
    refine h.mono fun fl ρ2 h => ?_
    cases fl with
    | nx => exact wp_for Inv step fin ds ρ2 h
    | ct => exact wp_for Inv step fin ds ρ2 h
    | bk => exact wp_pure.mpr h
    | rt x => exact wp_pure.mpr h
@[simp] theorem wp_forS {fi : M (List D)} {t : D → M Fl} {b : M Fl} : Wp (mforS fi t b) ρ R ↔ Wp fi ρ fun ds ρ1 => Wp (mfor t b ds) ρ1 R := by unfold mforS; rw [wp_bind]
/-- a def: its body -/
theorem gv_run {m : Nat} {fb : M Fl} {Q : D → List A → Prop} (h : Wp fb (ρ ++ List.replicate (m - ρ.length) .und) fun fl ρ' => ρ.length ≤ ρ'.length ∧ match fl with
    | .nx => Q .none (clean ρ ρ')
    | .rt d => Q d (clean ρ ρ')
    | _ => False) : Gv (runG m fb) ρ Q := by
  obtain ⟨fl, ρ', e, hl, q⟩ := h
  unfold Gv runG
  rw [e]
  cases fl with
  | nx => exact ⟨.none, _, if_pos hl, q⟩
  | rt d => exact ⟨d, _, if_pos hl, q⟩
  | bk => exact q.elim
  | ct => exact q.elim
theorem ex_and {α : Type} {o : Option α} {a : α} {P : α → Prop} (h1 : o = some a) (h2 : P a) : ∃ a, o = some a ∧ P a := ⟨a, h1, h2⟩
theorem ex_bool {x : D} {b : Bool} {P : Bool → Prop} (h1 : x = .bool b) (h2 : P b) : ∃ b, x = .bool b ∧ P b := ⟨b, h1, h2⟩
theorem ex_int {x : D} {k : Int} {P : Int → Prop} (h1 : x = .int k) (h2 : P k) : ∃ k, x = .int k ∧ P k := ⟨k, h1, h2⟩
theorem wp_ixN2 (h1 : (peek ρ i).isSome = true) (h2 : Wp fb ρ fun y ρ1 => ∃ x, peek ρ1 i = some x ∧ ∃ z, gIx x y = some z ∧ Q z ρ1) : Wp (mixN i fb) ρ Q := wp_ixN.mpr ⟨h1, h2⟩
theorem sz {k : Nat} (h : k ≤ 1000) : k ≤ sizeLine := by rw [sizeLine_eq]; omega
theorem gEq_int (i j : Int) : gEq (.int i) (.int j) = some (.bool (i == j)) := by
  simp [gEq, SeqAt.shaped, PyData.canLay0, PyData.depth, PyData.eqv]
/-- an and, its first part true or not -/
theorem yes {P R : Prop} (h : P) : ((true : Bool) = true → P) ∧ ((true : Bool) = false → R) := ⟨fun _ => h, fun z => nomatch z⟩
theorem no {P R : Prop} (h : R) : ((false : Bool) = true → P) ∧ ((false : Bool) = false → R) := ⟨fun z => (nomatch z), fun _ => h⟩
theorem both {b : Bool} {P R : Prop} (h1 : b = true → P) (h2 : b = false → R) : (b = true → P) ∧ (b = false → R) := ⟨h1, h2⟩
theorem gv_of_eq {f : List A → Option (Rs D)} {ρ ρ' : List A} {d : D} {Q : D → List A → Prop} (e : f ρ = some (.ok d ρ')) : Gv f ρ Q ↔ Q d ρ' :=
  ⟨fun ⟨a, r, e', q⟩ => by rw [e] at e'; cases e'; exact q, fun q => ⟨_, _, e, q⟩⟩
theorem eq_of_gv {f : List A → Option (Rs D)} {ρ ρ' : List A} {d : D} (h : Gv f ρ fun a r => a = d ∧ r = ρ') : f ρ = some (.ok d ρ') := by
  obtain ⟨a, r, e, rfl, rfl⟩ := h
  exact e
end
end L2.DL

set_option maxHeartbeats 1000000
namespace L2.DL
open PySem PySem.Spec PyProof.Rows
/-- m ends in an error -/
def Wx {α : Type} (m : M α) (ρ : List A) (X : Str → D → List A → Prop) : Prop := ∃ n d ρ', m ρ = some (.exc n d ρ') ∧ X n d ρ'
def Gx (f : List A → Option (Rs D)) (ρ : List A) (X : Str → D → List A → Prop) : Prop := ∃ n d ρ', f ρ = some (.exc n d ρ') ∧ X n d ρ'
section
variable {α β : Type} {ρ : List A} {X : Str → D → List A → Prop} {fa fb fe : M D} {ga : M Bool} {fs : M (List D)} {i j n : Nat} {a b : M Fl} {R : Fl → List A → Prop}
theorem Wx.mono {m : M α} {X' : Str → D → List A → Prop} (h : Wx m ρ X) (i : ∀ n d ρ', X n d ρ' → X' n d ρ') : Wx m ρ X' := let ⟨n, d, ρ', e, q⟩ := h; ⟨n, d, ρ', e, i n d ρ' q⟩
theorem wx_bind1 {m : M α} {k : α → M β} (h : Wx m ρ X) : Wx (mbind m k) ρ X := by
  obtain ⟨n, d, ρ', e, q⟩ := h
  exact ⟨n, d, ρ', by unfold mbind; rw [e], q⟩
theorem wx_bind2 {m : M α} {k : α → M β} (h : Wp m ρ fun a ρ1 => Wx (k a) ρ1 X) : Wx (mbind m k) ρ X := by
  obtain ⟨a, ρ1, e, n, d, ρ', e2, q⟩ := h
  exact ⟨n, d, ρ', by unfold mbind; rw [e]; exact e2, q⟩
theorem wx_seq1 (h : Wx a ρ X) : Wx (mseq a b) ρ X := wx_bind1 h
theorem wx_seq2 (h : Wp a ρ fun fl ρ1 => fl = .nx ∧ Wx b ρ1 X) : Wx (mseq a b) ρ X := wx_bind2 (h.mono fun fl ρ1 ⟨e, q⟩ => by subst e; exact q)
theorem wx_ifS (h : Wp ga ρ fun x ρ1 => (x = true → Wx a ρ1 X) ∧ (x = false → Wx b ρ1 X)) : Wx (mifS ga a b) ρ X := wx_bind2 (h.mono fun x ρ1 ⟨h1, h2⟩ => by
  cases x with
  | true => exact h1 rfl
  | false => exact h2 rfl)
theorem wx_raise {x : Str} (h : Wp fe ρ fun d ρ1 => X x d ρ1) : Wx (mraise x fe) ρ X := wx_bind2 (h.mono fun d ρ1 q => ⟨x, d, ρ1, rfl, q⟩)
theorem wx_drop (h : Wx fe ρ X) : Wx (mdrop fe) ρ X := wx_bind1 h
theorem wx_ret (h : Wx fe ρ X) : Wx (mret fe) ρ X := wx_bind1 h
theorem wx_set (h : Wx fe ρ X) : Wx (mset i fe) ρ X := wx_bind1 h
theorem wx_callF {f : List A → Option (Rs D)} (h : Wp fs ρ fun xs ρ1 => xs.length = n ∧ Gx f (xs.map .dat) fun m d _ => X m d ρ1) : Wx (mcallF n f fs) ρ X := wx_bind2 (h.mono fun xs ρ1 ⟨hl, m, d, ρ', e, q⟩ => ⟨m, d, ρ1, by
  show (if xs.length = n then (f (xs.map .dat)).map (backF ρ1) else none) = _
  rw [if_pos hl, e]
  rfl, q⟩)
theorem gx_run {m : Nat} {fb : M Fl} (h : Wx fb (ρ ++ List.replicate (m - ρ.length) .und) fun n d ρ' => ρ.length ≤ ρ'.length ∧ X n d (clean ρ ρ')) : Gx (runG m fb) ρ X := by
  obtain ⟨n, d, ρ', e, hl, q⟩ := h
  unfold Gx runG
  rw [e]
  exact ⟨n, d, _, if_pos hl, q⟩
theorem wp_try1 {cat : Str → Str → Option Bool} {fb : M Fl} {hs : List Cl} (h : Wp fb ρ R) : Wp (mtry cat fb hs) ρ R := by
  obtain ⟨a, ρ', e, q⟩ := h
  exact ⟨a, ρ', by unfold mtry; rw [e], q⟩
theorem wp_try2 {cat : Str → Str → Option Bool} {fb : M Fl} {hs : List Cl} (h : Wx fb ρ fun n d ρ1 => ∃ k, pick cat n hs = some (some k) ∧ canSet ρ1 k.i = true ∧ Wp (k.fs d) (ρ1.set k.i .und) fun fl ρ2 => R fl (ρ2.set k.i .und)) : Wp (mtry cat fb hs) ρ R := by
  obtain ⟨n, d, ρ1, e, k, e1, e2, fl, ρ2, e3, q⟩ := h
  refine ⟨fl, _, ?_, q⟩
  unfold mtry
  rw [e]
  show (match pick cat n hs with | some (some h) => if canSet ρ1 h.i = true then (h.fs d (ρ1.set h.i .und)).bind (wipe1 h.i) else none | some none => some (.exc n d ρ1) | none => none) = _
  rw [e1]
  show (if canSet ρ1 k.i = true then (k.fs d (ρ1.set k.i .und)).bind (wipe1 k.i) else none) = _
  rw [if_pos e2, e3]
  cases fl <;> rfl
@[simp] theorem wp_rng1 {L : List D → List A → Prop} : Wp (mrng1 fa) ρ L ↔ Wp fa ρ fun x ρ1 => ∃ ds, grng1 x = some ds ∧ L ds ρ1 := by unfold mrng1; simp only [wp_bind, wp_opt]
@[simp] theorem wp_rng2 {L : List D → List A → Prop} : Wp (mrng2 fa fb) ρ L ↔ Wp fa ρ fun x ρ1 => Wp fb ρ1 fun y ρ2 => ∃ ds, grng2 x y = some ds ∧ L ds ρ2 := by unfold mrng2; simp only [wp_bind, wp_opt]
def itA : D → Option (List D)
  | .list xs => some xs
  | .tuple xs => some xs
  | .str x => some (x.cps.toList.map fun c => .str ⟨#[c]⟩)
  | _ => none
@[simp] theorem wp_itA {L : List D → List A → Prop} : Wp (mitA fa) ρ L ↔ Wp fa ρ fun x ρ1 => ∃ ds, itA x = some ds ∧ L ds ρ1 := by
  unfold mitA
  rw [wp_bind]
  refine ⟨fun h => h.mono fun x ρ1 h => ?_, fun h => h.mono fun x ρ1 ⟨ds, e, q⟩ => ?_⟩
  · cases x <;> first | exact ⟨_, rfl, wp_pure.mp h⟩ | exact (wp_fail.mp h).elim
  · cases x <;> first | (cases e; exact wp_pure.mpr q) | cases e
@[simp] theorem wp_tname {d : D} : Wp (tname i d) ρ R ↔ canSet ρ i = true ∧ R .nx (ρ.set i (.dat d)) := wp_put
theorem wp_callO {f : List A → Option (List D)} (h : Wp fs ρ fun xs ρ1 => xs.length = n ∧ ∃ os, f (xs.map .dat) = some os ∧ canSet ρ1 i = true ∧ R .nx (ρ1.set i (.own none (.l os)))) : Wp (mcallO n f i fs) ρ R := by
  unfold mcallO
  rw [wp_bind]
  refine h.mono fun xs ρ1 ⟨hl, os, e, c, q⟩ => ⟨.nx, _, ?_, q⟩
  show (if xs.length = n then (f (xs.map .dat)).bind fun os => if canSet ρ1 i = true then some (Rs.ok Fl.nx (ρ1.set i (.own none (.l os)))) else none else none) = _
  rw [if_pos hl, e]
  show (if canSet ρ1 i = true then some (Rs.ok Fl.nx (ρ1.set i (.own none (.l os)))) else none) = _
  rw [if_pos c]
/-- a comprehension: Inv of the things yet to come, of what stands, of the slots -/
theorem wp_lcL {t : D → M Fl} {cd : M Bool} {vs : List Nat} {Q : D → List A → Prop} (Inv : List D → List D → List A → Prop) (step : ∀ d ds acc ρ, Inv (d :: ds) acc ρ → Wp (t d) ρ fun fl ρ1 => fl = .nx ∧ Wp cd ρ1 fun b ρ2 =>
      (b = true → Wp fe ρ2 fun y ρ3 => acc.length < sizeLine ∧ Inv ds (acc ++ [y]) (wipeA ρ3 vs)) ∧ (b = false → Inv ds acc (wipeA ρ2 vs)))
    (fin : ∀ acc ρ, Inv [] acc ρ → Q (.list acc) ρ) : ∀ (ds acc : List D) (ρ : List A), Inv ds acc ρ → ∃ z, lcL t cd fe vs ds acc ρ = some z ∧ Q (.list z.1) z.2
  | [], acc, ρ, h => ⟨(acc, ρ), rfl, fin acc ρ h⟩
  | d :: ds, acc, ρ, h => by
    obtain ⟨fl, ρ1, e1, rfl, b, ρ2, e2, h1, h2⟩ := step d ds acc ρ h
    unfold lcL
    rw [e1]
    show ∃ z, (match cd ρ1 with
      | some (.ok true ρ2) => (match fe ρ2 with
        | some (.ok y ρ3) => if acc.length < sizeLine then lcL t cd fe vs ds (acc ++ [y]) (wipeA ρ3 vs) else none
        | _ => none)
      | some (.ok false ρ2) => lcL t cd fe vs ds acc (wipeA ρ2 vs)
      | _ => none) = some z ∧ Q (.list z.1) z.2
    rw [e2]
    cases b with
    | false => exact wp_lcL Inv step fin ds acc _ (h2 rfl)
    | true =>
      obtain ⟨y, ρ3, e3, hl, h3⟩ := h1 rfl
      show ∃ z, (match fe ρ2 with
        | some (.ok y ρ3) => if acc.length < sizeLine then lcL t cd fe vs ds (acc ++ [y]) (wipeA ρ3 vs) else none
        | _ => none) = some z ∧ Q (.list z.1) z.2
      rw [e3]
      show ∃ z, (if acc.length < sizeLine then lcL t cd fe vs ds (acc ++ [y]) (wipeA ρ3 vs) else none) = some z ∧ Q (.list z.1) z.2
      rw [if_pos hl]
      exact wp_lcL Inv step fin ds _ _ h3
theorem wp_lc {fi : M (List D)} {t : D → M Fl} {cd : M Bool} {vs : List Nat} {Q : D → List A → Prop} (h : Wp fi ρ fun ds ρ1 => ∃ Inv : List D → List D → List A → Prop, (∀ d ds acc ρ, Inv (d :: ds) acc ρ → Wp (t d) ρ fun fl ρ1 => fl = .nx ∧ Wp cd ρ1 fun b ρ2 =>
      (b = true → Wp fe ρ2 fun y ρ3 => acc.length < sizeLine ∧ Inv ds (acc ++ [y]) (wipeA ρ3 vs)) ∧ (b = false → Inv ds acc (wipeA ρ2 vs))) ∧
    (∀ acc ρ, Inv [] acc ρ → Q (.list acc) ρ) ∧ Inv ds [] (wipeA ρ1 vs)) : Wp (mlc fi t cd fe vs) ρ Q := by
  unfold mlc
  rw [wp_bind]
  refine h.mono fun ds ρ1 ⟨Inv, st, fin, h0⟩ => ?_
  obtain ⟨z, e, q⟩ := wp_lcL Inv st fin ds [] _ h0
  exact ⟨_, _, by show (lcL t cd fe vs ds [] (wipeA ρ1 vs)).map _ = _; rw [e]; rfl, q⟩
end
end L2.DL

set_option maxHeartbeats 1000000
namespace L2.DL
open PySem PySem.Spec PyProof.Rows
/-! ### the law's def: feed = _law_feed(script), then the rest over data -/
def Ext (H H' : Hp) : Prop := ∀ b o, H b = some o → H' b = some o
/-- [list(script[:63]), 0, 0] -/
def spFeed (K : PySem.W.Frag) : Sp := fun vs H Q _ => ∃ (a : Addr) (ns : List Int), vs = [.ref a] ∧ ns.length ≤ 63 ∧ SqL K H a (ns.map V.int) ∧ ∀ (H' : Hp) (p l : Addr), Ext H H' → H l = none → H' l = some (.lst (ns.map V.int)) → H' p = none → Q (.ref p) (upd H' p (.lst [.ref l, .int 0, .int 0]))
section
variable {P : Program} {w : World} {K : PySem.W.Frag} {mg : Str → Option Value} {base : Heap} {x qual : Str} {params : Arguments} {scope : Scope} {f : Addr} {fd : FuncData}
theorem feed_ok {p1 p2 p3 p4 p5 p6 p7 p8 p9 p10 : Pos} {k1 k2 k3} (F : FunD K x qual params [.Return (some (.List [.Call (.Name "list" p1) [.Subscript (.Name "script" p2) (.Slice none (some (.Constant (.int 63) k1 p3)) none p4) p5] [] p6, .Constant (.int 0) k2 p7, .Constant (.int 0) k3 p8] p9)) p10] scope [] [] f fd)
    (S : FnScope ["script"] ["script"] scope) (l1 : scope.names.lookup ("script" : Str) = some .local) (l2 : scope.names.lookup ("list" : Str) = some .globalImplicit) (hm : mg "list" = none)
    (h1 : ∀ env, starEach [.Call (.Name "list" p1) [.Subscript (.Name "script" p2) (.Slice none (some (.Constant (.int 63) k1 p3)) none p4) p5] [] p6, .Constant (.int 0) k2 p7, .Constant (.int 0) k3 p8] env = (false, eval (.Call (.Name "list" p1) [.Subscript (.Name "script" p2) (.Slice none (some (.Constant (.int 63) k1 p3)) none p4) p5] [] p6) env) :: starEach [.Constant (.int 0) k2 p7, .Constant (.int 0) k3 p8] env) :
    FnOk P w K mg base (L2.CX P w) 1 f fd ["script"] (spFeed K) := by
  refine F.ok S (fun vs H Q E ⟨_, _, e, _⟩ => by rw [e] <;> rfl) fun cdv Ar outer s H vs Q E hr h => ?_
  obtain ⟨a, ns, rfl, hn, hs, q⟩ := h
  refine ⟨_, pss_one (ps_ret (pe_lst (pa_cons (pe_callTy call_list_of (show Gl _ _ from l2) hm boot_list' (pa_cons (pe_slice sl_list (pv 0 rfl (.inl l1)) po_none (po_some pe_int)) pa_nil)) (pa_cons pe_int (pa_cons pe_int pa_nil)) (h1 _)))), ?_⟩
  refine ⟨_, rfl, ?_⟩
  refine ⟨63, rfl, a, _, rfl, hs, fun p1 n1 => ?_⟩
  have hc : cutV (ns.map V.int) none (some 63) = ns.map V.int := by
    unfold cutV
    have e2 : HT.sIx (ns.map V.int).length (ns.map V.int).length (some 63) = (ns.map V.int).length := by
      show min (63 : Int).toNat (ns.map V.int).length = _
      rw [List.length_map]
      show min 63 ns.length = _
      omega
    rw [e2, HT.sIx_none, List.drop_zero, Nat.sub_zero, List.take_length]
  rw [hc]
  refine ⟨p1, _, rfl, .inl (SqL.of upd_same), fun l nl => ?_⟩
  refine ⟨by show 3 ≤ sizeLine; rw [sizeLine_eq]; omega, fun p np => ?_⟩
  have hl : l ≠ p1 := fun z => by
    subst z
    rw [upd_same] at nl
    cases nl
  refine q _ p l (fun b o hb => ?_) ?_ upd_same np
  · have x1 : b ≠ p1 := fun z => by subst z; rw [n1] at hb; cases hb
    have x2 : b ≠ l := fun z => by subst z; rw [upd_ne hl] at nl; rw [nl] at hb; cases hb
    rw [upd_ne x2, upd_ne x1]
    exact hb
  · rw [upd_ne hl] at nl
    exact nl
/-- the law's promise -/
def spLawD (K : PySem.W.Frag) (m : Nat) (fb : M Fl) : Sp := fun vs H Q _ => ∃ (a : Addr) (ns : List Int) (ρ' : List A), vs = [.ref a] ∧ ns.length ≤ 63 ∧ SqL K H a (ns.map V.int) ∧ fb (.und :: .own none (.l [.list (ns.map .int), .int 0, .int 0]) :: List.replicate (m - 2) .und) = some (.ok (.rt (.bool true)) ρ') ∧ ∀ H', Q (.bl true) H'
theorem rps_ints {F : Hp} : ∀ ns : List Int, Rps K F (ns.map V.int) (ns.map .int)
  | [] => .nil
  | n :: ns => .cons (.int n) (rps_ints ns)
theorem fn_okL {N : List Str} {k kf : Nat} {fb : M Fl} {rest : List Stmt} {y g : Str} {p1 p2 p3 p4 p5 : Pos} {a0 : Addr} {fd0 : FuncData} (F : FunD K x qual params (.Assign [.Name y p1] (.Call (.Name g p2) [.Name "script" p3] [] p4) p5 :: rest) scope [] [] f fd) (S : FnScope N ["script"] scope) (F0 : FnOk P w K mg base (L2.CX P w) kf a0 fd0 ["script"] (spFeed K)) (b0 : Binds K fd0 ["script"] []) (g0 : mg g = some (.ref a0)) (kp0 : PySem.W.keepIn K (.ref a0) = true)
    (hkf : kf ≤ k) (hN : ∃ N2 : List Str, N = ("script" : Str) :: y :: N2) (l1 : scope.names.lookup ("script" : Str) = some .local) (l2 : scope.names.lookup g = some .globalImplicit) (hy : Loc scope y) (hf : (∀ cdv Ar outer s H E, (cxOf (L2.CX P w) P w K mg base N qual scope f cdv Ar outer s H E).fn y = true) ∨ scope.names.lookup y = some .local) (hdb : (g == ("__debug__" : Str)) = false)
    (h1 : ∀ env, starEach [.Name "script" p3] env = (false, eval (.Name "script" p3) env) :: starEach [] env) (h2 : ∀ env, swapsWith (.Call (.Name g p2) [.Name "script" p3] [] p4) (some (.Name y p1)) p5.line env = pure false)
    (hb : ∀ (ios : List Addr) (F0 H0 : Hp) (cdv : Value) (A : Around) (outer : List Env) (s : Shared) (H : Hp) (E : XK), Room k (A.deeper (envOfC qual scope s.heap.objs.size f cdv)) →
      Takes (cxOf (L2.CX P w) P w K mg base N qual scope f cdv A outer s H E) (fun cls d _ H => E cls d H) →
      PDSs ⟨K, ios, F0, H0⟩ (cxOf (L2.CX P w) P w K mg base N qual scope f cdv A outer s H E) (fun cls d _ H => E cls d H) rest fb) : FnOk P w K mg base (L2.CX P w) (k + 1) f fd ["script"] (spLawD K N.length fb) := by
  refine F.ok S (fun vs H Q E ⟨_, _, _, e, _⟩ => by rw [e] <;> rfl) fun cdv Ar outer s H vs Q E hr h => ?_
  obtain ⟨a, ns, ρ', rfl, hn, hs, he, q⟩ := h
  obtain ⟨N2, eN⟩ := hN
  have tk : Takes (cxOf (L2.CX P w) P w K mg base N qual scope f cdv Ar outer s H E) (fun cls d _ H => E cls d H) := takes_of rfl rfl rfl rfl
  have i0 : (cxOf (L2.CX P w) P w K mg base N qual scope f cdv Ar outer s H E).N[0]? = some ("script" : Str) := by show N[0]? = some ("script" : Str); rw [eN]; rfl
  have i1 : (cxOf (L2.CX P w) P w K mg base N qual scope f cdv Ar outer s H E).N[1]? = some y := by show N[1]? = some y; rw [eN]; rfl
  have st := ps_set (pos := p5) (pos' := p1) S.nd i1 (show Loc (cxOf (L2.CX P w) P w K mg base N qual scope f cdv Ar outer s H E).env.scope y from hy) (pe_callS (p := p2) (pos := p4) (E := WE fun cls d _ H => E cls d H) F0 (hr.mono hkf) (show Gl _ _ from l2) g0 kp0 b0 (fun σ => passAt tk σ) (pa_cons (pv 0 (pos := p3) i0 (.inl l1)) pa_nil (h1 _)) hdb (h1 _) rfl) (h2 _) (hf.elim (fun z => .inl (z cdv Ar outer s H E)) .inr)
  refine ⟨_, pss_cons st (hb [] (fun _ => none) H cdv Ar outer s H E hr tk), ?_⟩
  subst eN
  refine ⟨_, rfl, ?_⟩
  refine ⟨a, ns, rfl, hn, hs, fun H' p l ext nl el np => ?_⟩
  have lp : l ≠ p := fun z => by subst z; rw [np] at el; cases el
  have Hp0 : H p = none := by
    cases z : H p with
    | none => rfl
    | some o => rw [ext p o z] at np; cases np
  refine ⟨fun b => if b = l then some (.lst (ns.map V.int)) else none, .und :: .own none (.l [.list (ns.map .int), .int 0, .int 0]) :: List.replicate N2.length .und, ⟨fun b o hb => ?_, fun b o hb => (nomatch hb), fun b o _ hb => ?_, fun b o hb => ?_, fun b hb => absurd hb (by simp), fun b hb => absurd hb (by simp), fun b hb => absurd hb (by simp), ?_, fun i A e => ?_, fun i j A B q' e1 h1 e2 h2 t1 t2 => ?_⟩, ⟨_, he, ?_⟩⟩
  · by_cases z : b = l
    · subst z
      rw [if_pos rfl] at hb
      cases hb
      rw [upd_ne lp]
      exact el
    · rw [if_neg z] at hb
      cases hb
  · replace hb : H b = some o := hb
    have : b ≠ p := fun z => by subst z; rw [Hp0] at hb; cases hb
    rw [upd_ne this]
    exact ext b o hb
  · by_cases z : b = l
    · subst z
      exact .inr nl
    · rw [if_neg z] at hb
      cases hb
  · simp [L2.start]
  · match i, e with
    | 0, e => cases e; exact trivial
    | 1, e =>
      cases e
      refine ⟨Hp0, if_neg fun z => lp z.symm, _, upd_same, ?_⟩
      refine .cons (.lst (if_pos rfl) ?_) (.cons (.int 0) (.cons (.int 0) .nil))
      exact rps_ints ns
    | i + 2, e =>
      rw [List.getElem?_cons_succ, List.getElem?_cons_succ, List.getElem?_replicate] at e
      split at e
      · cases e
        exact trivial
      · cases e
  · have one : ∀ {i : Nat} {A : L2.DL.A}, (.und :: .own none (.l [.list (ns.map .int), .int 0, .int 0]) :: List.replicate N2.length .und : List L2.DL.A)[i]? = some A → A.isOwn = true → i = 1 := fun {i A} e h => by
      match i, e with
      | 0, e => cases e; cases h
      | 1, e => rfl
      | i + 2, e =>
        rw [List.getElem?_cons_succ, List.getElem?_cons_succ, List.getElem?_replicate] at e
        split at e
        · cases e
          cases h
        · cases e
    rw [one e1 h1, one e2 h2]
  · intro v σ' F' H'' _ _ r
    cases r
    exact q H''
end
end L2.DL

set_option maxHeartbeats 0
namespace Hd
open PySem PySem.Spec PyProof.Rows L2
def top (i : Nat) : Stmt := PySem.Challenge.pw_wholemirrors_k01_numbers.main.body.getD i (.Pass ⟨0, 0, 0, 0⟩)
abbrev S_MirrorsError_init : Stmt := inClass (top 1) 0
abbrev S_is_integer : Stmt := top 4
abbrev S_is_pair : Stmt := top 5
abbrev S_sum_of : Stmt := top 7
abbrev S_times_of : Stmt := top 8
abbrev S_sign_of_integer : Stmt := top 9
abbrev S_sign_of : Stmt := top 10
abbrev S_is_number : Stmt := top 11
abbrev S_check_numbers : Stmt := top 12
abbrev S_plus : Stmt := top 13
abbrev S_times : Stmt := top 14
abbrev S_sign : Stmt := top 15
abbrev S__law_feed : Stmt := top 17
abbrev S__law_drawn : Stmt := top 18
abbrev S__law_same : Stmt := top 19
abbrev S__law_sign : Stmt := top 20
abbrev S__law_whole : Stmt := top 21
abbrev S__law_near : Stmt := top 22
abbrev S__law_number : Stmt := top 23
abbrev S__law_asked : Stmt := top 24
abbrev S__law_right : Stmt := top 25
abbrev S_law : Stmt := top 26
abbrev FnP (K : PySem.W.Frag) (x q : Str) (st : Stmt) (f : Addr) (fd : FuncData) : Prop := FunD K x q (defArgs st) (defBody st) (defScope st) [] [] f fd
def mkD (a : Str × Option Str) (x q : Str) (st : Stmt) : He.DefD := ⟨a, x, q, defArgs st, defBody st, defScope st, [], []⟩
def fn : List He.DefD := [
  mkD ("MirrorsError", some "__init__") "__init__" "MirrorsError.__init__" S_MirrorsError_init,
  mkD ("is_integer", none) "is_integer" "is_integer" S_is_integer,
  mkD ("is_pair", none) "is_pair" "is_pair" S_is_pair,
  mkD ("sum_of", none) "sum_of" "sum_of" S_sum_of,
  mkD ("times_of", none) "times_of" "times_of" S_times_of,
  mkD ("sign_of_integer", none) "sign_of_integer" "sign_of_integer" S_sign_of_integer,
  mkD ("sign_of", none) "sign_of" "sign_of" S_sign_of,
  mkD ("is_number", none) "is_number" "is_number" S_is_number,
  mkD ("check_numbers", none) "check_numbers" "check_numbers" S_check_numbers,
  mkD ("plus", none) "plus" "plus" S_plus,
  mkD ("times", none) "times" "times" S_times,
  mkD ("sign", none) "sign" "sign" S_sign,
  mkD ("_law_feed", none) "_law_feed" "_law_feed" S__law_feed,
  mkD ("_law_drawn", none) "_law_drawn" "_law_drawn" S__law_drawn,
  mkD ("_law_same", none) "_law_same" "_law_same" S__law_same,
  mkD ("_law_sign", none) "_law_sign" "_law_sign" S__law_sign,
  mkD ("_law_whole", none) "_law_whole" "_law_whole" S__law_whole,
  mkD ("_law_near", none) "_law_near" "_law_near" S__law_near,
  mkD ("_law_number", none) "_law_number" "_law_number" S__law_number,
  mkD ("_law_asked", none) "_law_asked" "_law_asked" S__law_asked,
  mkD ("_law_right", none) "_law_right" "_law_right" S__law_right,
  mkD ("law", none) "law" "law" S_law]
def fa : List He.Fa := [.glo "is_integer", .glo "is_pair", .glo "sum_of", .glo "times_of", .glo "sign_of_integer", .glo "sign_of", .glo "is_number", .glo "check_numbers", .glo "plus", .glo "times", .glo "sign", .glo "_law_feed", .glo "_law_drawn", .glo "_law_same", .glo "_law_sign", .glo "_law_whole", .glo "_law_near", .glo "_law_number", .glo "_law_asked", .glo "_law_right", .glo "law", .glo "MirrorsError", .glo "InvalidNumber", .free "ValueError", .free "isinstance", .free "bool", .free "int", .free "range", .free "tuple", .free "list", .free "str", .free "len", .free "all"]
def xs : List Str := ["MirrorsError", "InvalidNumber"]
/-! exception classes: what the walk wants of them, as a Bool over the written part -/
def isRefsVE : List Value → Bool
  | .ref _ :: r => PySem.HandSPX.refsVE r
  | _ => false
def exB (K : PySem.W.Frag) (x : Str) : Bool := (match K.lookup (He.ga K x) with
  | some ⟨.type t, _, .cls cd, sl⟩ => decide (t = "type") && (match cd.mro, sl.toList with
    | .ref C :: bm, [_, _, _, _, some (.builtin n), _] => decide (C = He.ga K x) && decide (n = "ValueError.__new__") && cd.hasDict && !cd.hasDel && PySem.HandSPX.refsVE bm
    | _, _ => false)
  | _ => false) && decide (PySem.W.findIn K (.ref (He.ga K x)) "__setattr__" = some (some (.builtin "object.__setattr__"))) && decide (PySem.W.findIn K (.ref (He.ga K x)) "__getattribute__" = some (some (.builtin "BaseException.__getattribute__")))
  && decide (PySem.W.findIn K (.ref (He.ga K x)) "__getattr__" = some none) && decide (PySem.W.findIn K (.ref (He.ga K x)) "value" = some none)
  && decide (PySem.W.findIn K (.ref (He.ga K x)) "__init__" = some (some (.ref (He.fAd K ("MirrorsError", some "__init__"))))) && decide (PySem.W.typeIn K (.ref (He.fAd K ("MirrorsError", some "__init__"))) = some (.type "function"))
  && decide (PySem.W.subIn K (.ref (He.ga K x)) (.type "BaseException") = some true) && decide (PySem.W.typeIn K (.ref (He.ga K x)) = some (.type "type")) && PySem.W.keepIn K (.ref (He.ga K x))
  && (match PySem.W.findCls K (.type "ValueError") (.type "type") "__init__" with
    | some (.val (.builtin n)) => decide (n = "ValueError.__init__")
    | _ => false)
/-- of two classes: whether an error of the one is caught by the other's name -/
def exY (K : PySem.W.Frag) (x y : Str) : Bool := decide (PySem.W.exmOne K (.ref (He.ga K x)) (.ref (He.ga K y)) = some (decide (x = y) || decide (y = "MirrorsError")))
def exA (K : PySem.W.Frag) : Bool := xs.all (exB K) && xs.all fun x => xs.all fun y => exY K x y
def hookX (n : Nat) (fa : List He.Fa) (fn : List He.DefD) : PySem.W.Hook where
  α := He.AlD × Bool
  obs := fun s => (He.obsDG n fa fn s.heap.get?, exA (He.frG s.heap.get? (He.asD s.heap.get? n)))
  val := fun _ => (He.valD fn, true)
  says := fun _ h => ∃ K : PySem.W.Frag, K.In h ∧ He.SaysD fa fn K ∧ exA K = true
  of := fun _ _ e => ⟨_, He.frG_in, congrArg Prod.fst e, congrArg Prod.snd e⟩
  keeps := fun _ _ _ ⟨K, hK, c⟩ k => ⟨K, PySem.W.Frag.In.keeps hK k, c⟩
abbrev R : PySem.W.OpenRow := PySem.W.OpenLaw.row PySem.Challenge.rw_wholemirrors_k01_numbers
abbrev hk : PySem.W.Hook := hookX 4 fa fn
def ob (s : PySem.W.SharedT) : He.AlD × Bool := (He.obsDG 4 fa fn (HandSHeadRun.getT s), exA (He.frG (HandSHeadRun.getT s) (He.asD (HandSHeadRun.getT s) 4)))
theorem ob_eq (s : PySem.W.SharedT) : ob s = hk.obs s.abs := by
  have e : HandSHeadRun.getT s = s.abs.heap.get? := funext fun a => HandSHeadRun.getT_eq s a
  unfold ob
  rw [e]
  rfl
def loose : List Str := ["is_integer", "is_pair", "sum_of", "times_of", "sign_of_integer", "sign_of", "is_number", "check_numbers", "plus", "times", "sign", "_law_feed", "_law_drawn", "_law_same", "_law_sign", "_law_whole", "_law_near", "_law_number", "_law_asked", "_law_right", "MirrorsError", "InvalidNumber"]
theorem run (w : World) : HandSHeadRun.RunEq R (PySem.W.view R.prog [26]) hk ob 3000 loose w := by
  intro os
  kernel_rfl
end Hd

set_option maxHeartbeats 1000000
namespace Hd
open PySem PySem.Spec PyProof.Rows L2 L2.DL
def cat (n x : Str) : Option Bool := if xs.contains n && xs.contains x then some (n == x || x == "MirrorsError") else none
theorem exB_ok {K : PySem.W.Frag} {x : Str} (h : exB K x = true) : OexC K (He.ga K x) ∧ PySem.W.findIn K (.ref (He.ga K x)) "__init__" = some (some (.ref (He.fAd K ("MirrorsError", some "__init__")))) ∧ PySem.W.typeIn K (.ref (He.fAd K ("MirrorsError", some "__init__"))) = some (.type "function") ∧
    PySem.W.findIn K (.ref (He.ga K x)) "value" = some none ∧ XfC K (He.ga K x) ∧ PySem.W.findCls K (.type "ValueError") (.type "type") "__init__" = some (.val (.builtin "ValueError.__init__")) := by
  unfold exB at h
  simp only [Bool.and_eq_true, decide_eq_true_eq] at h
  obtain ⟨⟨⟨⟨⟨⟨⟨⟨⟨⟨h1, h2⟩, h3⟩, h4⟩, h5⟩, h6⟩, h7⟩, h8⟩, h9⟩, h10⟩, h11⟩ := h
  have hcls : ∃ nm q N bs bm sn sub ab col dd k0 k1 k2 k3 k5, K.lookup (He.ga K x) = some (excClassObj nm q (He.ga K x) N bs bm true sn sub ab col dd k0 k1 k2 k3 k5 "ValueError.__new__") ∧ PySem.HandSPX.refsVE bm = true := by
    split at h1
    · rename_i t dct cd sl ho
      rw [Bool.and_eq_true] at h1
      obtain ⟨a1, a2⟩ := h1
      have a1 := of_decide_eq_true a1
      split at a2
      · rename_i C bm k0 k1 k2 k3 n k5 hm hs
        simp only [Bool.and_eq_true, decide_eq_true_eq, Bool.not_eq_true'] at a2
        obtain ⟨⟨⟨⟨b1, b2⟩, b3⟩, b4⟩, b5⟩ := a2
        obtain ⟨nm, bs, mro, ns, qn, hd, sn, sub, ab, col, hdel⟩ := cd
        dsimp only at hm b3 b4
        subst hm b1 b2 b3 b4 a1
        have e : sl = #[k0, k1, k2, k3, some (.builtin "ValueError.__new__"), k5] := by
          obtain ⟨l⟩ := sl
          simp only at hs
          rw [hs]
        subst e
        exact ⟨nm, qn, ns, bs, bm, sn, sub, ab, col, dct, k0, k1, k2, k3, k5, ho, b5⟩
      · cases a2
    · cases h1
  refine ⟨⟨hcls, h2, h8, h9, h10⟩, h6, h7, h5, ⟨h3, h4, h8, ?_⟩, ?_⟩
  · obtain ⟨nm, q, N, bs, bm, sn, sub, ab, col, dd, k0, k1, k2, k3, k5, e, _⟩ := hcls
    unfold PySem.W.hasDictIn PySem.W.clsIn
    rw [e]
    rfl
  · split at h11
    · rename_i n e
      rw [e, of_decide_eq_true h11]
    · cases h11
theorem exA_ok {K : PySem.W.Frag} (h : exA K = true) {x : Str} (hx : x ∈ xs) : exB K x = true := List.all_eq_true.mp (Bool.and_eq_true_iff.mp h).1 x hx
theorem cats_ok {K : PySem.W.Frag} (h : exA K = true) : Cats K cat := by
  have key : ∀ n x b, cat n x = some b → n ∈ xs ∧ x ∈ xs ∧ b = (decide (n = x) || decide (x = "MirrorsError")) := fun n x b e => by
    unfold cat at e
    by_cases z : (xs.contains n && xs.contains x) = true
    · rw [if_pos z] at e
      cases e
      obtain ⟨z1, z2⟩ := Bool.and_eq_true_iff.mp z
      refine ⟨List.contains_iff_mem.mp z1, List.contains_iff_mem.mp z2, ?_⟩
      rw [Bool.eq_iff_iff]
      simp
    · rw [if_neg z] at e
      cases e
  refine ⟨fun n x b e => ?_, fun n x b e => ?_⟩
  · obtain ⟨z1, z2, rfl⟩ := key n x b e
    exact of_decide_eq_true (List.all_eq_true.mp (List.all_eq_true.mp (Bool.and_eq_true_iff.mp h).2 n z1) x z2)
  · obtain ⟨z1, _⟩ := key n x b e
    obtain ⟨_, _, _, h4, h5, _⟩ := exB_ok (exA_ok h z1)
    exact ⟨h5, h4⟩
/-- keyword calls of a def without defaults -/
theorem bindsKw {K : PySem.W.Frag} {x qual : Str} {params : Arguments} {body : List Stmt} {scope : Scope} {f : Addr} {fd : FuncData} {ps ks : List Str} {np : Nat} {ix : List Nat} (F : FunD K x qual params body scope [] [] f fd)
    (h : ∀ (kV doc pm : Value) (an : Option Addr) (cdv ct : Value) (us ws : List Value), us.length = np → ws.length = ks.length → bindArgs (PySem.W.fnOf x qual params body scope .none kV doc pm an cdv ct) ⟨us, ks.zip ws⟩ = pure (ps.zip (us ++ ix.filterMap fun i => ws[i]?))) :
    ∀ us ws : List Value, us.length = np → ws.length = ks.length → bindArgs fd ⟨us, ks.zip ws⟩ = pure (ps.zip (us ++ ix.filterMap fun i => ws[i]?)) := by
  obtain ⟨oc, od, dV, kV, doc, pm, an, cdv, ct, osl, rfl, lk, hcd, hD, hK⟩ := F.ex
  rcases hD with ⟨_, rfl⟩ | ⟨e, _⟩
  · exact h kV doc pm an cdv ct
  · exact absurd rfl e
end Hd

set_option maxHeartbeats 1000000
namespace L2.DL
open PySem PySem.Spec PyProof.Rows
/-- the walk to the law's def, its errors in the air -/
theorem walk_D {l : PySem.W.OpenLaw} {m j : Nat} {pq : Program} {lo : List Str} {XP : (Str → Option Value) → Heap → Prop} {YP : World → Heap → Prop} {dr : DefRec} {y : Str} (most : l.most = some m) (small : m ≤ sizeLine) (nodef : dr.params.defaults = []) (room : Room j callerA)
    (F : ∀ (w : World) (mg : Str → Option Value) (fl : Addr) (g : Heap), YP w g → g.Ns mainGlobals mg → mg dr.name = some (.ref fl) → ∃ (K : PySem.W.Frag) (fd : FuncData) (sp : Sp), K.In g ∧ (∀ (s : Shared) (u : Value), BindsTo s fd ⟨[u], []⟩ [(y, u)]) ∧
      (∀ (H : Hp) (p : Addr) (zs : List Int), zs.length ≤ m → SqL K H p (zs.map V.int) → sp [.ref p] H (fun v _ => v = .bl true) fun _ _ _ => False) ∧ ∀ base : Heap, K.In base → base.Ns mainGlobals mg → FnOk l.prog w K mg base (L2.CX l.prog w) j fl fd [y] sp) :
    PySem.W.WalkO pq lo XP YP l.row.toRowW dr [] (fun f vs => PySem.call f vs) := by
  refine Att.attach_call most nodef ?_
  intro w t0 t1 mg mb fl ob pm cd doc p vals zs G Y h1 h2 h3 h4 h5 h6 h7 h8
  obtain ⟨K, fd, sp, inK, bd, prom, ok⟩ := F w mg fl _ Y G.T.g h4
  refine law_call inK G.T.g G.T.b G.T.builtins G.T.nolimit h8 h5 h6 (Nat.le_trans h7 small) room ok bd (fun H _ sq => prom H p zs h7 sq) ?_
  rintro H u s9 ⟨_, _, _, _, _, _, _, _, _, _, _, _, z⟩
  exact z
end L2.DL

set_option maxHeartbeats 4000000

namespace Hd
open PySem PySem.Spec PyProof.Rows L2 L2.DL
/-! is_integer -/
abbrev N_is_integer : List Str := ["value"]
theorem nd_is_integer : N_is_integer.Nodup := by decide +kernel
theorem sc_is_integer : FnScope N_is_integer ["value"] (defScope S_is_integer) := ⟨rfl, rfl, rfl, nd_is_integer, rfl, by decide +kernel, by decide +kernel⟩
def fb_is_integer : M Fl := (mret (mandV (misi "int" (mvar 0)) (mnotV (misi "bool" (mvar 0)))))
def f_is_integer : List A → Option (Rs D) := runG 1 fb_is_integer
theorem ok_is_integer {P : Program} {w : World} {K : PySem.W.Frag} {mg : Str → Option Value} {base : Heap} {f : Addr} {fd : FuncData} (F : FnP K "is_integer" "is_integer" S_is_integer f fd) (m_isinstance : mg "isinstance" = none) (m_int : mg "int" = none) (m_bool : mg "bool" = none) : FnOk P w K mg base (L2.CX P w) 2 f fd ["value"] (spG K 1 f_is_integer) := fn_okG (N := N_is_integer) (ps := ["value"]) (k := 1) (fb := fb_is_integer) F sc_is_integer fun ios F0 H0 cdv Ar outer s H E hr tk => by
  have nd := nd_is_integer
  have hp := passes_of (X := cxOf (L2.CX P w) P w K mg base N_is_integer "is_integer" (defScope S_is_integer) f cdv Ar outer s H E) rfl
  exact (pds_oneS (pds_ret (pd_andV (pd_isi "int" (by decide) rfl m_isinstance rfl m_int (by decide +kernel) (pd_var 0)) (pd_oneV (pd_notV (pd_isi "bool" (by decide) rfl m_isinstance rfl m_bool (by decide +kernel) (pd_var 0)))))))
/-! is_pair -/
abbrev N_is_pair : List Str := ["value"]
theorem nd_is_pair : N_is_pair.Nodup := by decide +kernel
theorem sc_is_pair : FnScope N_is_pair ["value"] (defScope S_is_pair) := ⟨rfl, rfl, rfl, nd_is_pair, rfl, by decide +kernel, by decide +kernel⟩
def fb_is_pair : M Fl := (mret (mandV (misi "tuple" (mvar 0)) (mandV (mop gEq (mcall (g1 gLen) (mcons (mvar 0) mnil)) (mpure (.int 2))) (mandV (mcallF 1 f_is_integer (mcons (mop gIx (mvar 0) (mpure (.int 0))) mnil)) (mcallF 1 f_is_integer (mcons (mop gIx (mvar 0) (mpure (.int 1))) mnil))))))
def f_is_pair : List A → Option (Rs D) := runG 1 fb_is_pair
theorem ok_is_pair {P : Program} {w : World} {K : PySem.W.Frag} {mg : Str → Option Value} {base : Heap} {f : Addr} {fd : FuncData} (F : FnP K "is_pair" "is_pair" S_is_pair f fd) (m_isinstance : mg "isinstance" = none) (m_tuple : mg "tuple" = none) (m_len : mg "len" = none) (c_is_integer : Cal P w K mg base 2 "is_integer" 1 f_is_integer) : FnOk P w K mg base (L2.CX P w) 3 f fd ["value"] (spG K 1 f_is_pair) := fn_okG (N := N_is_pair) (ps := ["value"]) (k := 2) (fb := fb_is_pair) F sc_is_pair fun ios F0 H0 cdv Ar outer s H E hr tk => by
  have nd := nd_is_pair
  have hp := passes_of (X := cxOf (L2.CX P w) P w K mg base N_is_pair "is_pair" (defScope S_is_pair) f cdv Ar outer s H E) rfl
  exact (pds_oneS (pds_ret (pd_andV (pd_isi "tuple" (by decide) rfl m_isinstance rfl m_tuple (by decide +kernel) (pd_var 0)) (pd_andV (pd_eq hr (pd_len rfl m_len (pds_cons (pd_var 0) pds_nil)) pd_int) (pd_andV (pd_call c_is_integer (hr.mono (by decide)) tk rfl (pds_cons (pd_ix (pd_var 0) pd_int px_int) pds_nil)) (pd_oneV (pd_call c_is_integer (hr.mono (by decide)) tk rfl (pds_cons (pd_ix (pd_var 0) pd_int px_int) pds_nil))))))))
/-! sum_of -/
abbrev N_sum_of : List Str := ["one", "other"]
theorem nd_sum_of : N_sum_of.Nodup := by decide +kernel
theorem sc_sum_of : FnScope N_sum_of ["one", "other"] (defScope S_sum_of) := ⟨rfl, rfl, rfl, nd_sum_of, rfl, by decide +kernel, by decide +kernel⟩
def fb_sum_of : M Fl := (mret (mtup (mcons (mop gAdd (mop gIx (mvar 0) (mpure (.int 0))) (mop gIx (mvar 1) (mpure (.int 0)))) (mcons (mop gAdd (mop gIx (mvar 0) (mpure (.int 1))) (mop gIx (mvar 1) (mpure (.int 1)))) mnil))))
def f_sum_of : List A → Option (Rs D) := runG 2 fb_sum_of
theorem ok_sum_of {P : Program} {w : World} {K : PySem.W.Frag} {mg : Str → Option Value} {base : Heap} {f : Addr} {fd : FuncData} (F : FnP K "sum_of" "sum_of" S_sum_of f fd)  : FnOk P w K mg base (L2.CX P w) 2 f fd ["one", "other"] (spG K 2 f_sum_of) := fn_okG (N := N_sum_of) (ps := ["one", "other"]) (k := 1) (fb := fb_sum_of) F sc_sum_of fun ios F0 H0 cdv Ar outer s H E hr tk => by
  have nd := nd_sum_of
  have hp := passes_of (X := cxOf (L2.CX P w) P w K mg base N_sum_of "sum_of" (defScope S_sum_of) f cdv Ar outer s H E) rfl
  exact (pds_oneS (pds_ret (pd_tup (pds_cons (pd_add (pd_ix (pd_var 0) pd_int px_int) (pd_ix (pd_var 1) pd_int px_int)) (pds_cons (pd_add (pd_ix (pd_var 0) pd_int px_int) (pd_ix (pd_var 1) pd_int px_int)) pds_nil)))))
/-! times_of -/
abbrev N_times_of : List Str := ["one", "other", "both"]
theorem nd_times_of : N_times_of.Nodup := by decide +kernel
theorem sc_times_of : FnScope N_times_of ["one", "other"] (defScope S_times_of) := ⟨rfl, rfl, rfl, nd_times_of, rfl, by decide +kernel, by decide +kernel⟩
def fb_times_of : M Fl := (mseq (mset 2 (mop gMul (mop gIx (mvar 0) (mpure (.int 1))) (mop gIx (mvar 1) (mpure (.int 1)))))
  (mret (mtup (mcons (mop gAdd (mop gMul (mop gIx (mvar 0) (mpure (.int 0))) (mop gIx (mvar 1) (mpure (.int 0)))) (mvar 2)) (mcons (mop gAdd (mop gAdd (mop gMul (mop gIx (mvar 0) (mpure (.int 0))) (mop gIx (mvar 1) (mpure (.int 1)))) (mop gMul (mop gIx (mvar 0) (mpure (.int 1))) (mop gIx (mvar 1) (mpure (.int 0))))) (mvar 2)) mnil)))))
def f_times_of : List A → Option (Rs D) := runG 3 fb_times_of
theorem ok_times_of {P : Program} {w : World} {K : PySem.W.Frag} {mg : Str → Option Value} {base : Heap} {f : Addr} {fd : FuncData} (F : FnP K "times_of" "times_of" S_times_of f fd)  : FnOk P w K mg base (L2.CX P w) 2 f fd ["one", "other"] (spG K 2 f_times_of) := fn_okG (N := N_times_of) (ps := ["one", "other"]) (k := 1) (fb := fb_times_of) F sc_times_of fun ios F0 H0 cdv Ar outer s H E hr tk => by
  have nd := nd_times_of
  have hp := passes_of (X := cxOf (L2.CX P w) P w K mg base N_times_of "times_of" (defScope S_times_of) f cdv Ar outer s H E) rfl
  exact (pds_consS (pds_set 2 nd (pd_mul (pd_ix (pd_var 0) pd_int px_int) (pd_ix (pd_var 1) pd_int px_int)))
    (pds_oneS (pds_ret (pd_tup (pds_cons (pd_add (pd_mul (pd_ix (pd_var 0) pd_int px_int) (pd_ix (pd_var 1) pd_int px_int)) (pd_var 2)) (pds_cons (pd_add (pd_add (pd_mul (pd_ix (pd_var 0) pd_int px_int) (pd_ix (pd_var 1) pd_int px_int)) (pd_mul (pd_ix (pd_var 0) pd_int px_int) (pd_ix (pd_var 1) pd_int px_int))) (pd_var 2)) pds_nil))))))
/-! sign_of_integer -/
abbrev N_sign_of_integer : List Str := ["number"]
theorem nd_sign_of_integer : N_sign_of_integer.Nodup := by decide +kernel
theorem sc_sign_of_integer : FnScope N_sign_of_integer ["number"] (defScope S_sign_of_integer) := ⟨rfl, rfl, rfl, nd_sign_of_integer, rfl, by decide +kernel, by decide +kernel⟩
def fb_sign_of_integer : M Fl := (mret (mop gSub (mop gGt (mvar 0) (mpure (.int 0))) (mop gLt (mvar 0) (mpure (.int 0)))))
def f_sign_of_integer : List A → Option (Rs D) := runG 1 fb_sign_of_integer
theorem ok_sign_of_integer {P : Program} {w : World} {K : PySem.W.Frag} {mg : Str → Option Value} {base : Heap} {f : Addr} {fd : FuncData} (F : FnP K "sign_of_integer" "sign_of_integer" S_sign_of_integer f fd)  : FnOk P w K mg base (L2.CX P w) 2 f fd ["number"] (spG K 1 f_sign_of_integer) := fn_okG (N := N_sign_of_integer) (ps := ["number"]) (k := 1) (fb := fb_sign_of_integer) F sc_sign_of_integer fun ios F0 H0 cdv Ar outer s H E hr tk => by
  have nd := nd_sign_of_integer
  have hp := passes_of (X := cxOf (L2.CX P w) P w K mg base N_sign_of_integer "sign_of_integer" (defScope S_sign_of_integer) f cdv Ar outer s H E) rfl
  exact (pds_oneS (pds_ret (pd_sub (pd_gt (pd_var 0) pd_int) (pd_lt (pd_var 0) pd_int))))
/-! sign_of -/
abbrev N_sign_of : List Str := ["number", "whole", "root"]
theorem nd_sign_of : N_sign_of.Nodup := by decide +kernel
theorem sc_sign_of : FnScope N_sign_of ["number"] (defScope S_sign_of) := ⟨rfl, rfl, rfl, nd_sign_of, rfl, by decide +kernel, by decide +kernel⟩
def fb_sign_of : M Fl := (mseq (mpar [1, 2] (mcons (mop gAdd (mop gMul (mpure (.int 2)) (mop gIx (mvar 0) (mpure (.int 0)))) (mop gIx (mvar 0) (mpure (.int 1)))) (mcons (mop gIx (mvar 0) (mpure (.int 1))) mnil)))
  (mseq (mifS (mand (mtst (mop gGe (mvar 1) (mpure (.int 0)))) (mtst (mop gGe (mvar 2) (mpure (.int 0)))))
  (mret (mcallF 1 f_sign_of_integer (mcons (mop gAdd (mvar 1) (mvar 2)) mnil)))
  mskip)
  (mseq (mifS (mand (mtst (mop gLe (mvar 1) (mpure (.int 0)))) (mtst (mop gLe (mvar 2) (mpure (.int 0)))))
  (mret (mcallF 1 f_sign_of_integer (mcons (mop gAdd (mvar 1) (mvar 2)) mnil)))
  mskip)
  (mret (mif (mtst (mop gGt (mop gMul (mvar 1) (mvar 1)) (mop gMul (mop gMul (mpure (.int 5)) (mvar 2)) (mvar 2)))) (mcallF 1 f_sign_of_integer (mcons (mvar 1) mnil)) (mcallF 1 f_sign_of_integer (mcons (mvar 2) mnil)))))))
def f_sign_of : List A → Option (Rs D) := runG 3 fb_sign_of
theorem ok_sign_of {P : Program} {w : World} {K : PySem.W.Frag} {mg : Str → Option Value} {base : Heap} {f : Addr} {fd : FuncData} (F : FnP K "sign_of" "sign_of" S_sign_of f fd) (c_sign_of_integer : Cal P w K mg base 2 "sign_of_integer" 1 f_sign_of_integer) : FnOk P w K mg base (L2.CX P w) 3 f fd ["number"] (spG K 1 f_sign_of) := fn_okG (N := N_sign_of) (ps := ["number"]) (k := 2) (fb := fb_sign_of) F sc_sign_of fun ios F0 H0 cdv Ar outer s H E hr tk => by
  have nd := nd_sign_of
  have hp := passes_of (X := cxOf (L2.CX P w) P w K mg base N_sign_of "sign_of" (defScope S_sign_of) f cdv Ar outer s H E) rfl
  exact (pds_consS (pds_par2 1 2 rfl nd (pds_cons (pd_add (pd_mul pd_int (pd_ix (pd_var 0) pd_int px_int)) (pd_ix (pd_var 0) pd_int px_int)) (pds_cons (pd_ix (pd_var 0) pd_int px_int) pds_nil)))
    (pds_consS (pds_ifS (pt_w (pw_andD (pt_ge (pd_var 1) pd_int) (pw_and1D (pt_ge (pd_var 2) pd_int)))) (pds_oneS (pds_ret (pd_call c_sign_of_integer (hr.mono (by decide)) tk rfl (pds_cons (pd_add (pd_var 1) (pd_var 2)) pds_nil)))) pds_nilS)
    (pds_consS (pds_ifS (pt_w (pw_andD (pt_le (pd_var 1) pd_int) (pw_and1D (pt_le (pd_var 2) pd_int)))) (pds_oneS (pds_ret (pd_call c_sign_of_integer (hr.mono (by decide)) tk rfl (pds_cons (pd_add (pd_var 1) (pd_var 2)) pds_nil)))) pds_nilS)
    (pds_oneS (pds_ret (pd_if (pt_gt (pd_mul (pd_var 1) (pd_var 1)) (pd_mul (pd_mul pd_int (pd_var 2)) (pd_var 2))) (pd_call c_sign_of_integer (hr.mono (by decide)) tk rfl (pds_cons (pd_var 1) pds_nil)) (pd_call c_sign_of_integer (hr.mono (by decide)) tk rfl (pds_cons (pd_var 2) pds_nil))))))))
/-! is_number -/
abbrev N_is_number : List Str := ["value"]
theorem nd_is_number : N_is_number.Nodup := by decide +kernel
theorem sc_is_number : FnScope N_is_number ["value"] (defScope S_is_number) := ⟨rfl, rfl, rfl, nd_is_number, rfl, by decide +kernel, by decide +kernel⟩
def fb_is_number : M Fl := (mret (mcallF 1 f_is_pair (mcons (mvar 0) mnil)))
def f_is_number : List A → Option (Rs D) := runG 1 fb_is_number
theorem ok_is_number {P : Program} {w : World} {K : PySem.W.Frag} {mg : Str → Option Value} {base : Heap} {f : Addr} {fd : FuncData} (F : FnP K "is_number" "is_number" S_is_number f fd) (c_is_pair : Cal P w K mg base 3 "is_pair" 1 f_is_pair) : FnOk P w K mg base (L2.CX P w) 4 f fd ["value"] (spG K 1 f_is_number) := fn_okG (N := N_is_number) (ps := ["value"]) (k := 3) (fb := fb_is_number) F sc_is_number fun ios F0 H0 cdv Ar outer s H E hr tk => by
  have nd := nd_is_number
  have hp := passes_of (X := cxOf (L2.CX P w) P w K mg base N_is_number "is_number" (defScope S_is_number) f cdv Ar outer s H E) rfl
  exact (pds_oneS (pds_ret (pd_call c_is_pair (hr.mono (by decide)) tk rfl (pds_cons (pd_var 0) pds_nil))))
/-! check_numbers -/
abbrev N_check_numbers : List Str := ["number", "second_number"]
theorem nd_check_numbers : N_check_numbers.Nodup := by decide +kernel
theorem sc_check_numbers : FnScope N_check_numbers ["number", "second_number"] (defScope S_check_numbers) := ⟨rfl, rfl, rfl, nd_check_numbers, rfl, by decide +kernel, by decide +kernel⟩
def fb_check_numbers : M Fl := (mseq (mifS (mnot (mtru (mcallF 1 f_is_pair (mcons (mvar 0) mnil))))
  (mraise "InvalidNumber" (mvar 0))
  mskip)
  (mifS (mnot (mtru (mcallF 1 f_is_pair (mcons (mvar 1) mnil))))
  (mraise "InvalidNumber" (mvar 1))
  mskip))
def f_check_numbers : List A → Option (Rs D) := runG 2 fb_check_numbers
theorem ok_check_numbers {P : Program} {w : World} {K : PySem.W.Frag} {mg : Str → Option Value} {base : Heap} {f : Addr} {fd : FuncData} (F : FnP K "check_numbers" "check_numbers" S_check_numbers f fd) {fI : Addr} (c_is_pair : Cal P w K mg base 3 "is_pair" 1 f_is_pair) (x_InvalidNumber : ExF K mg fI "InvalidNumber") (ini : IniOk P w K mg base fI) : FnOk P w K mg base (L2.CX P w) 4 f fd ["number", "second_number"] (spG K 2 f_check_numbers) := fn_okG (N := N_check_numbers) (ps := ["number", "second_number"]) (k := 3) (fb := fb_check_numbers) F sc_check_numbers fun ios F0 H0 cdv Ar outer s H E hr tk => by
  have nd := nd_check_numbers
  have hp := passes_of (X := cxOf (L2.CX P w) P w K mg base N_check_numbers "check_numbers" (defScope S_check_numbers) f cdv Ar outer s H E) rfl
  exact (pds_consS (pds_ifS (pt_notD (pt_tru (pd_call c_is_pair (hr.mono (by decide)) tk rfl (pds_cons (pd_var 0) pds_nil)))) (pds_oneS (pds_raise (k := 0) rfl tk x_InvalidNumber ini (hr.mono (by decide)) rfl (pd_var 0))) pds_nilS)
    (pds_oneS (pds_ifS (pt_notD (pt_tru (pd_call c_is_pair (hr.mono (by decide)) tk rfl (pds_cons (pd_var 1) pds_nil)))) (pds_oneS (pds_raise (k := 0) rfl tk x_InvalidNumber ini (hr.mono (by decide)) rfl (pd_var 1))) pds_nilS)))
/-! plus -/
abbrev N_plus : List Str := ["number", "second_number"]
theorem nd_plus : N_plus.Nodup := by decide +kernel
theorem sc_plus : FnScope N_plus ["number", "second_number"] (defScope S_plus) := ⟨rfl, rfl, rfl, nd_plus, rfl, by decide +kernel, by decide +kernel⟩
def fb_plus : M Fl := (mseq (mdrop (mcallF 2 f_check_numbers (mcons (mvar 0) (mcons (mvar 1) mnil))))
  (mret (mcallF 2 f_sum_of (mcons (mvar 0) (mcons (mvar 1) mnil)))))
def f_plus : List A → Option (Rs D) := runG 2 fb_plus
theorem ok_plus {P : Program} {w : World} {K : PySem.W.Frag} {mg : Str → Option Value} {base : Heap} {f : Addr} {fd : FuncData} (F : FnP K "plus" "plus" S_plus f fd) (c_check_numbers : Cal P w K mg base 4 "check_numbers" 2 f_check_numbers) (c_sum_of : Cal P w K mg base 2 "sum_of" 2 f_sum_of) : FnOk P w K mg base (L2.CX P w) 5 f fd ["number", "second_number"] (spG K 2 f_plus) := fn_okG (N := N_plus) (ps := ["number", "second_number"]) (k := 4) (fb := fb_plus) F sc_plus fun ios F0 H0 cdv Ar outer s H E hr tk => by
  have nd := nd_plus
  have hp := passes_of (X := cxOf (L2.CX P w) P w K mg base N_plus "plus" (defScope S_plus) f cdv Ar outer s H E) rfl
  exact (pds_consS (pds_expr (pd_call c_check_numbers (hr.mono (by decide)) tk rfl (pds_cons (pd_var 0) (pds_cons (pd_var 1) pds_nil))))
    (pds_oneS (pds_ret (pd_call c_sum_of (hr.mono (by decide)) tk rfl (pds_cons (pd_var 0) (pds_cons (pd_var 1) pds_nil))))))
/-! times -/
abbrev N_times : List Str := ["number", "second_number"]
theorem nd_times : N_times.Nodup := by decide +kernel
theorem sc_times : FnScope N_times ["number", "second_number"] (defScope S_times) := ⟨rfl, rfl, rfl, nd_times, rfl, by decide +kernel, by decide +kernel⟩
def fb_times : M Fl := (mseq (mdrop (mcallF 2 f_check_numbers (mcons (mvar 0) (mcons (mvar 1) mnil))))
  (mret (mcallF 2 f_times_of (mcons (mvar 0) (mcons (mvar 1) mnil)))))
def f_times : List A → Option (Rs D) := runG 2 fb_times
theorem ok_times {P : Program} {w : World} {K : PySem.W.Frag} {mg : Str → Option Value} {base : Heap} {f : Addr} {fd : FuncData} (F : FnP K "times" "times" S_times f fd) (c_check_numbers : Cal P w K mg base 4 "check_numbers" 2 f_check_numbers) (c_times_of : Cal P w K mg base 2 "times_of" 2 f_times_of) : FnOk P w K mg base (L2.CX P w) 5 f fd ["number", "second_number"] (spG K 2 f_times) := fn_okG (N := N_times) (ps := ["number", "second_number"]) (k := 4) (fb := fb_times) F sc_times fun ios F0 H0 cdv Ar outer s H E hr tk => by
  have nd := nd_times
  have hp := passes_of (X := cxOf (L2.CX P w) P w K mg base N_times "times" (defScope S_times) f cdv Ar outer s H E) rfl
  exact (pds_consS (pds_expr (pd_call c_check_numbers (hr.mono (by decide)) tk rfl (pds_cons (pd_var 0) (pds_cons (pd_var 1) pds_nil))))
    (pds_oneS (pds_ret (pd_call c_times_of (hr.mono (by decide)) tk rfl (pds_cons (pd_var 0) (pds_cons (pd_var 1) pds_nil))))))
/-! sign -/
abbrev N_sign : List Str := ["number"]
theorem nd_sign : N_sign.Nodup := by decide +kernel
theorem sc_sign : FnScope N_sign ["number"] (defScope S_sign) := ⟨rfl, rfl, rfl, nd_sign, rfl, by decide +kernel, by decide +kernel⟩
def fb_sign : M Fl := (mseq (mifS (mnot (mtru (mcallF 1 f_is_pair (mcons (mvar 0) mnil))))
  (mraise "InvalidNumber" (mvar 0))
  mskip)
  (mret (mcallF 1 f_sign_of (mcons (mvar 0) mnil))))
def f_sign : List A → Option (Rs D) := runG 1 fb_sign
theorem ok_sign {P : Program} {w : World} {K : PySem.W.Frag} {mg : Str → Option Value} {base : Heap} {f : Addr} {fd : FuncData} (F : FnP K "sign" "sign" S_sign f fd) {fI : Addr} (c_is_pair : Cal P w K mg base 3 "is_pair" 1 f_is_pair) (x_InvalidNumber : ExF K mg fI "InvalidNumber") (c_sign_of : Cal P w K mg base 3 "sign_of" 1 f_sign_of) (ini : IniOk P w K mg base fI) : FnOk P w K mg base (L2.CX P w) 4 f fd ["number"] (spG K 1 f_sign) := fn_okG (N := N_sign) (ps := ["number"]) (k := 3) (fb := fb_sign) F sc_sign fun ios F0 H0 cdv Ar outer s H E hr tk => by
  have nd := nd_sign
  have hp := passes_of (X := cxOf (L2.CX P w) P w K mg base N_sign "sign" (defScope S_sign) f cdv Ar outer s H E) rfl
  exact (pds_consS (pds_ifS (pt_notD (pt_tru (pd_call c_is_pair (hr.mono (by decide)) tk rfl (pds_cons (pd_var 0) pds_nil)))) (pds_oneS (pds_raise (k := 0) rfl tk x_InvalidNumber ini (hr.mono (by decide)) rfl (pd_var 0))) pds_nilS)
    (pds_oneS (pds_ret (pd_call c_sign_of (hr.mono (by decide)) tk rfl (pds_cons (pd_var 0) pds_nil)))))
/-! _law_feed -/
abbrev N__law_feed : List Str := ["script"]
theorem nd__law_feed : N__law_feed.Nodup := by decide +kernel
theorem sc__law_feed : FnScope N__law_feed ["script"] (defScope S__law_feed) := ⟨rfl, rfl, rfl, nd__law_feed, rfl, by decide +kernel, by decide +kernel⟩
theorem ok__law_feed {P : Program} {w : World} {K : PySem.W.Frag} {mg : Str → Option Value} {base : Heap} {f : Addr} {fd : FuncData} (F : FnP K "_law_feed" "_law_feed" S__law_feed f fd) (m_list : mg "list" = none) : FnOk P w K mg base (L2.CX P w) 1 f fd ["script"] (spFeed K) := feed_ok F sc__law_feed rfl rfl m_list (fun _ => rfl)
/-! _law_drawn -/
abbrev N__law_drawn : List Str := ["feed", "many", "cells", "at", "cell", "first", "second", "digit"]
theorem nd__law_drawn : N__law_drawn.Nodup := by decide +kernel
theorem sc__law_drawn : FnScope N__law_drawn ["feed", "many"] (defScope S__law_drawn) := ⟨rfl, rfl, rfl, nd__law_drawn, rfl, by decide +kernel, by decide +kernel⟩
def fb__law_drawn : M Fl := (mseq (mifS (mtst (mop gEq (mixN 0 (mpure (.int 2))) (mpure (.int 0))))
  (mseq (mset 2 (mixN 0 (mpure (.int 0))))
  (mseq (mset 3 (mixN 0 (mpure (.int 1))))
  (mseq (msetIx 0 (mop gAdd (mvar 3) (mpure (.int 1))) (mpure (.int 1)))
  (mseq (mset 4 (mpure (.int 0)))
  (mseq (mifS (mtst (mop gGt (mcall (g1 gLen) (mcons (mvar 2) mnil)) (mpure (.int 0))))
  (mset 4 (mop gIx (mvar 2) (mop gMod (mcall (g1 gInt) (mcons (mvar 3) mnil)) (mcall (g1 gLen) (mcons (mvar 2) mnil)))))
  mskip)
  (mseq (mifS (mor (mtst (mop gGe (mvar 3) (mcall (g1 gLen) (mcons (mvar 2) mnil)))) (mtst (mop gLt (mvar 4) (mop gPow (mpure (.int 10)) (mpure (.int 18))))))
  (mseq (mset 5 (mop gMod (mcall (g1 gInt) (mcons (mop gAdd (mop gAdd (mop gAdd (mop gMod (mcall (g1 gInt) (mcons (mvar 4) mnil)) (mpure (.int 999979))) (mop gMul (mop gMul (mvar 3) (mvar 3)) (mpure (.int 307)))) (mop gMul (mvar 3) (mpure (.int 53)))) (mpure (.int 17))) mnil)) (mpure (.int 999979))))
  (mseq (mset 6 (mop gMod (mcall (g1 gInt) (mcons (mop gAdd (mop gAdd (mop gMul (mop gMul (mvar 5) (mvar 5)) (mpure (.int 5))) (mop gMul (mvar 5) (mpure (.int 11)))) (mvar 3)) mnil)) (mpure (.int 2147483629))))
  (mret (mop gMod (mcall (g1 gInt) (mcons (mop gMod (mcall (g1 gInt) (mcons (mop gMul (mvar 6) (mpure (.int 69621))) mnil)) (mpure (.int 2147483647))) mnil)) (mvar 1)))))
  mskip)
  (msetIx 0 (mvar 4) (mpure (.int 2)))))))))
  mskip)
  (mseq (mset 7 (mop gMod (mcall (g1 gInt) (mcons (mixN 0 (mpure (.int 2))) mnil)) (mvar 1)))
  (mseq (msetIx 0 (mop gDiv (mcall (g1 gInt) (mcons (mixN 0 (mpure (.int 2))) mnil)) (mvar 1)) (mpure (.int 2)))
  (mret (mvar 7)))))
def f__law_drawn : List A → Option (Rs D) := runG 8 fb__law_drawn
theorem ok__law_drawn {P : Program} {w : World} {K : PySem.W.Frag} {mg : Str → Option Value} {base : Heap} {f : Addr} {fd : FuncData} (F : FnP K "_law_drawn" "_law_drawn" S__law_drawn f fd) (m_len : mg "len" = none) (m_int : mg "int" = none) : FnOk P w K mg base (L2.CX P w) 2 f fd ["feed", "many"] (spG K 2 f__law_drawn) := fn_okG (N := N__law_drawn) (ps := ["feed", "many"]) (k := 1) (fb := fb__law_drawn) F sc__law_drawn fun ios F0 H0 cdv Ar outer s H E hr tk => by
  have nd := nd__law_drawn
  have hp := passes_of (X := cxOf (L2.CX P w) P w K mg base N__law_drawn "_law_drawn" (defScope S__law_drawn) f cdv Ar outer s H E) rfl
  exact (pds_consS (pds_ifS (pt_eq hr (pd_ixN 0 pd_int (hs := px_int)) pd_int) (pds_consS (pds_set 2 nd (pd_ixN 0 pd_int (hs := px_int)))
    (pds_consS (pds_set 3 nd (pd_ixN 0 pd_int (hs := px_int)))
    (pds_consS (pds_setIx 0 (pd_add (pd_var 3) pd_int) pd_int)
    (pds_consS (pds_set 4 nd pd_int)
    (pds_consS (pds_ifS (pt_gt (pd_len rfl m_len (pds_cons (pd_var 2) pds_nil)) pd_int) (pds_oneS (pds_set 4 nd (pd_ix (pd_var 2) (pd_mod (pd_intC rfl m_int (pds_cons (pd_var 3) pds_nil)) (pd_len rfl m_len (pds_cons (pd_var 2) pds_nil))) px_bin))) pds_nilS)
    (pds_consS (pds_ifS (pt_w (pw_orD (pt_ge (pd_var 3) (pd_len rfl m_len (pds_cons (pd_var 2) pds_nil))) (pw_or1D (pt_lt (pd_var 4) (pd_pow pd_int pd_int))))) (pds_consS (pds_set 5 nd (pd_mod (pd_intC rfl m_int (pds_cons (pd_add (pd_add (pd_add (pd_mod (pd_intC rfl m_int (pds_cons (pd_var 4) pds_nil)) pd_int) (pd_mul (pd_mul (pd_var 3) (pd_var 3)) pd_int)) (pd_mul (pd_var 3) pd_int)) pd_int) pds_nil)) pd_int))
    (pds_consS (pds_set 6 nd (pd_mod (pd_intC rfl m_int (pds_cons (pd_add (pd_add (pd_mul (pd_mul (pd_var 5) (pd_var 5)) pd_int) (pd_mul (pd_var 5) pd_int)) (pd_var 3)) pds_nil)) pd_int))
    (pds_oneS (pds_ret (pd_mod (pd_intC rfl m_int (pds_cons (pd_mod (pd_intC rfl m_int (pds_cons (pd_mul (pd_var 6) pd_int) pds_nil)) pd_int) pds_nil)) (pd_var 1)))))) pds_nilS)
    (pds_oneS (pds_setIx 0 (pd_var 4) pd_int)))))))) pds_nilS)
    (pds_consS (pds_set 7 nd (pd_mod (pd_intC rfl m_int (pds_cons (pd_ixN 0 pd_int (hs := px_int)) pds_nil)) (pd_var 1)))
    (pds_consS (pds_setIx 0 (pd_div (pd_intC rfl m_int (pds_cons (pd_ixN 0 pd_int (hs := px_int)) pds_nil)) (pd_var 1)) pd_int)
    (pds_oneS (pds_ret (pd_var 7))))))
/-! _law_same -/
abbrev N__law_same : List Str := ["found", "due", "at"]
theorem nd__law_same : N__law_same.Nodup := by decide +kernel
theorem sc__law_same : FnScope N__law_same ["found", "due"] (defScope S__law_same) := ⟨rfl, rfl, rfl, nd__law_same, rfl, by decide +kernel, by decide +kernel⟩
def fb__law_same (f__law_same : List A → Option (Rs D)) : M Fl := (mseq (mifS (mtru (misiT ["tuple", "list"] (mvar 1)))
  (mseq (mifS (mor (mtst (mop gNe (misi "tuple" (mvar 0)) (misi "tuple" (mvar 1)))) (mtst (mop gNe (misi "list" (mvar 0)) (misi "list" (mvar 1)))))
  (mret (mpure (.bool false)))
  mskip)
  (mret (mandV (mop gEq (mcall (g1 gLen) (mcons (mvar 0) mnil)) (mcall (g1 gLen) (mcons (mvar 1) mnil))) (mcall (g1 gAll) (mcons (mlc (mrng1 (mcall (g1 gLen) (mcons (mvar 1) mnil))) (tname 2) (mpure true) (mcallF 2 f__law_same (mcons (mop gIx (mvar 0) (mvar 2)) (mcons (mop gIx (mvar 1) (mvar 2)) mnil))) [2]) mnil)))))
  mskip)
  (mseq (mifS (mtst (mis (mvar 1)))
  (mret (mis (mvar 0)))
  mskip)
  (mseq (mifS (mtru (misi "bool" (mvar 1)))
  (mret (mandV (misi "bool" (mvar 0)) (mop gEq (mvar 0) (mvar 1))))
  mskip)
  (mseq (mifS (mtru (misi "int" (mvar 1)))
  (mret (mandV (misi "int" (mvar 0)) (mandV (mnotV (misi "bool" (mvar 0))) (mop gEq (mvar 0) (mvar 1)))))
  mskip)
  (mret (mandV (misi "str" (mvar 0)) (mop gEq (mvar 0) (mvar 1))))))))
def g__law_same : Nat → List A → Option (Rs D)
  | 0 => fun _ => none
  | m + 1 => runG 3 (fb__law_same (g__law_same m))
def f__law_same : List A → Option (Rs D) := g__law_same 12
theorem ok1__law_same {P : Program} {w : World} {K : PySem.W.Frag} {mg : Str → Option Value} {base : Heap} {f : Addr} {fd : FuncData} (F : FnP K "_law_same" "_law_same" S__law_same f fd) (gf : mg "_law_same" = some (.ref f)) (kf : PySem.W.keepIn K (.ref f) = true) (bf : Binds K fd ["found", "due"] []) (m_isinstance : mg "isinstance" = none) (m_tuple : mg "tuple" = none) (m_list : mg "list" = none) (m_len : mg "len" = none) (m_range : mg "range" = none) (m_all : mg "all" = none) (m_bool : mg "bool" = none) (m_int : mg "int" = none) (m_str : mg "str" = none) : ∀ m : Nat, FnOk P w K mg base (L2.CX P w) (2 + m) f fd ["found", "due"] (spG K 2 (g__law_same m))
  | 0 => fn_ok0 (k := 1) F sc__law_same
  | m + 1 => by
    have c__law_same : Cal P w K mg base (2 + m) "_law_same" 2 (g__law_same m) := ⟨f, fd, _, ok1__law_same F gf kf bf m_isinstance m_tuple m_list m_len m_range m_all m_bool m_int m_str m, gf, kf, bf⟩
    exact fn_okG (N := N__law_same) (ps := ["found", "due"]) (k := 2 + m) (fb := fb__law_same (g__law_same m)) F sc__law_same fun ios F0 H0 cdv Ar outer s H E hr tk => by
      have nd := nd__law_same
      have hp := passes_of (X := cxOf (L2.CX P w) P w K mg base N__law_same "_law_same" (defScope S__law_same) f cdv Ar outer s H E) rfl
      exact (pds_consS (pds_ifS (pt_tru (pd_isi2 "tuple" "list" ⟨rfl, m_tuple, by decide +kernel, by unfold KitT; decide, by decide, by decide⟩ ⟨rfl, m_list, by decide +kernel, by unfold KitT; decide, by decide, by decide⟩ rfl m_isinstance (pd_var 1))) (pds_consS (pds_ifS (pt_w (pw_orD (pt_ne hr (pd_isi "tuple" (by decide) rfl m_isinstance rfl m_tuple (by decide +kernel) (pd_var 0)) (pd_isi "tuple" (by decide) rfl m_isinstance rfl m_tuple (by decide +kernel) (pd_var 1))) (pw_or1D (pt_ne hr (pd_isi "list" (by decide) rfl m_isinstance rfl m_list (by decide +kernel) (pd_var 0)) (pd_isi "list" (by decide) rfl m_isinstance rfl m_list (by decide +kernel) (pd_var 1)))))) (pds_oneS (pds_ret pd_bl)) pds_nilS)
    (pds_oneS (pds_ret (pd_andV (pd_eq hr (pd_len rfl m_len (pds_cons (pd_var 0) pds_nil)) (pd_len rfl m_len (pds_cons (pd_var 1) pds_nil))) (pd_oneV (pd_all rfl rfl m_all (pds_cons (pd_lc (own := [("at", 2)]) rfl nd (pdi_rng1 rfl m_range (pd_len rfl m_len (pds_cons (pd_var 1) pds_nil))) (blkOk_by (N := N__law_same) (sc := defScope S__law_same) (by decide +kernel)) (by decide) tok_name (fun s H C cl fp => (pdg_name 2 nd)) (fun s H C cl fp => pdts_nil) (fun s H C cl fp => (pd_call c__law_same hr takesN rfl (pds_cons (pd_ix (pd_var 0) (pd_var 2) px_name) (pds_cons (pd_ix (pd_var 1) (pd_var 2) px_name) pds_nil))))) pds_nil))))))) pds_nilS)
    (pds_consS (pds_ifS (pt_isN (pd_var 1)) (pds_oneS (pds_ret (pd_isN (pd_var 0)))) pds_nilS)
    (pds_consS (pds_ifS (pt_tru (pd_isi "bool" (by decide) rfl m_isinstance rfl m_bool (by decide +kernel) (pd_var 1))) (pds_oneS (pds_ret (pd_andV (pd_isi "bool" (by decide) rfl m_isinstance rfl m_bool (by decide +kernel) (pd_var 0)) (pd_oneV (pd_eq hr (pd_var 0) (pd_var 1)))))) pds_nilS)
    (pds_consS (pds_ifS (pt_tru (pd_isi "int" (by decide) rfl m_isinstance rfl m_int (by decide +kernel) (pd_var 1))) (pds_oneS (pds_ret (pd_andV (pd_isi "int" (by decide) rfl m_isinstance rfl m_int (by decide +kernel) (pd_var 0)) (pd_andV (pd_notV (pd_isi "bool" (by decide) rfl m_isinstance rfl m_bool (by decide +kernel) (pd_var 0))) (pd_oneV (pd_eq hr (pd_var 0) (pd_var 1))))))) pds_nilS)
    (pds_oneS (pds_ret (pd_andV (pd_isi "str" (by decide) rfl m_isinstance rfl m_str (by decide +kernel) (pd_var 0)) (pd_oneV (pd_eq hr (pd_var 0) (pd_var 1))))))))))
theorem ok__law_same {P : Program} {w : World} {K : PySem.W.Frag} {mg : Str → Option Value} {base : Heap} {f : Addr} {fd : FuncData} (F : FnP K "_law_same" "_law_same" S__law_same f fd) (gf : mg "_law_same" = some (.ref f)) (kf : PySem.W.keepIn K (.ref f) = true) (bf : Binds K fd ["found", "due"] []) (m_isinstance : mg "isinstance" = none) (m_tuple : mg "tuple" = none) (m_list : mg "list" = none) (m_len : mg "len" = none) (m_range : mg "range" = none) (m_all : mg "all" = none) (m_bool : mg "bool" = none) (m_int : mg "int" = none) (m_str : mg "str" = none) : FnOk P w K mg base (L2.CX P w) 14 f fd ["found", "due"] (spG K 2 f__law_same) := ok1__law_same F gf kf bf m_isinstance m_tuple m_list m_len m_range m_all m_bool m_int m_str 12
/-! _law_sign -/
abbrev N__law_sign : List Str := ["number", "whole", "root", "total", "greater"]
theorem nd__law_sign : N__law_sign.Nodup := by decide +kernel
theorem sc__law_sign : FnScope N__law_sign ["number"] (defScope S__law_sign) := ⟨rfl, rfl, rfl, nd__law_sign, rfl, by decide +kernel, by decide +kernel⟩
def fb__law_sign : M Fl := (mseq (mset 1 (mop gAdd (mop gMul (mpure (.int 2)) (mop gIx (mvar 0) (mpure (.int 0)))) (mop gIx (mvar 0) (mpure (.int 1)))))
  (mseq (mset 2 (mop gIx (mvar 0) (mpure (.int 1))))
  (mseq (mifS (mtst (mop gGe (mop gMul (mvar 1) (mvar 2)) (mpure (.int 0))))
  (mseq (mset 3 (mop gAdd (mvar 1) (mvar 2)))
  (mret (mop gSub (mcall (g1 gInt) (mcons (mop gGt (mvar 3) (mpure (.int 0))) mnil)) (mcall (g1 gInt) (mcons (mop gLt (mvar 3) (mpure (.int 0))) mnil)))))
  mskip)
  (mseq (mset 4 (mvar 1))
  (mseq (mifS (mtst (mop gLt (mop gMul (mvar 1) (mvar 1)) (mop gMul (mop gMul (mpure (.int 5)) (mvar 2)) (mvar 2))))
  (mset 4 (mvar 2))
  mskip)
  (mret (mop gSub (mcall (g1 gInt) (mcons (mop gGt (mvar 4) (mpure (.int 0))) mnil)) (mcall (g1 gInt) (mcons (mop gLt (mvar 4) (mpure (.int 0))) mnil)))))))))
def f__law_sign : List A → Option (Rs D) := runG 5 fb__law_sign
theorem ok__law_sign {P : Program} {w : World} {K : PySem.W.Frag} {mg : Str → Option Value} {base : Heap} {f : Addr} {fd : FuncData} (F : FnP K "_law_sign" "_law_sign" S__law_sign f fd) (m_int : mg "int" = none) : FnOk P w K mg base (L2.CX P w) 2 f fd ["number"] (spG K 1 f__law_sign) := fn_okG (N := N__law_sign) (ps := ["number"]) (k := 1) (fb := fb__law_sign) F sc__law_sign fun ios F0 H0 cdv Ar outer s H E hr tk => by
  have nd := nd__law_sign
  have hp := passes_of (X := cxOf (L2.CX P w) P w K mg base N__law_sign "_law_sign" (defScope S__law_sign) f cdv Ar outer s H E) rfl
  exact (pds_consS (pds_set 1 nd (pd_add (pd_mul pd_int (pd_ix (pd_var 0) pd_int px_int)) (pd_ix (pd_var 0) pd_int px_int)))
    (pds_consS (pds_set 2 nd (pd_ix (pd_var 0) pd_int px_int))
    (pds_consS (pds_ifS (pt_ge (pd_mul (pd_var 1) (pd_var 2)) pd_int) (pds_consS (pds_set 3 nd (pd_add (pd_var 1) (pd_var 2)))
    (pds_oneS (pds_ret (pd_sub (pd_intC rfl m_int (pds_cons (pd_gt (pd_var 3) pd_int) pds_nil)) (pd_intC rfl m_int (pds_cons (pd_lt (pd_var 3) pd_int) pds_nil)))))) pds_nilS)
    (pds_consS (pds_set 4 nd (pd_var 1))
    (pds_consS (pds_ifS (pt_lt (pd_mul (pd_var 1) (pd_var 1)) (pd_mul (pd_mul pd_int (pd_var 2)) (pd_var 2))) (pds_oneS (pds_set 4 nd (pd_var 2))) pds_nilS)
    (pds_oneS (pds_ret (pd_sub (pd_intC rfl m_int (pds_cons (pd_gt (pd_var 4) pd_int) pds_nil)) (pd_intC rfl m_int (pds_cons (pd_lt (pd_var 4) pd_int) pds_nil))))))))))
/-! _law_whole -/
abbrev N__law_whole : List Str := ["feed", "kind", "own"]
theorem nd__law_whole : N__law_whole.Nodup := by decide +kernel
theorem sc__law_whole : FnScope N__law_whole ["feed"] (defScope S__law_whole) := ⟨rfl, rfl, rfl, nd__law_whole, rfl, by decide +kernel, by decide +kernel⟩
def fb__law_whole : M Fl := (mseq (mset 1 (mcallR 2 f__law_drawn 0 (mcons (mpure (.int 3)) mnil)))
  (mseq (mset 2 (mcallR 2 f__law_drawn 0 (mcons (mop gIx (mlst (mcons (mpure (.int 3)) (mcons (mpure (.int 100)) (mcons (mpure (.int 9999)) mnil)))) (mvar 1)) mnil)))
  (mret (mop gMul (mvar 2) (mop gIx (mlst (mcons (mpure (.int 1)) (mcons (mneg (mpure (.int 1))) mnil))) (mcallR 2 f__law_drawn 0 (mcons (mpure (.int 2)) mnil)))))))
def f__law_whole : List A → Option (Rs D) := runG 3 fb__law_whole
theorem ok__law_whole {P : Program} {w : World} {K : PySem.W.Frag} {mg : Str → Option Value} {base : Heap} {f : Addr} {fd : FuncData} (F : FnP K "_law_whole" "_law_whole" S__law_whole f fd) (c__law_drawn : Cal P w K mg base 2 "_law_drawn" 2 f__law_drawn) : FnOk P w K mg base (L2.CX P w) 3 f fd ["feed"] (spG K 1 f__law_whole) := fn_okG (N := N__law_whole) (ps := ["feed"]) (k := 2) (fb := fb__law_whole) F sc__law_whole fun ios F0 H0 cdv Ar outer s H E hr tk => by
  have nd := nd__law_whole
  have hp := passes_of (X := cxOf (L2.CX P w) P w K mg base N__law_whole "_law_whole" (defScope S__law_whole) f cdv Ar outer s H E) rfl
  exact (pds_consS (pds_set 1 nd (pd_callR 0 c__law_drawn (hr.mono (by decide)) tk rfl (pds_cons pd_int pds_nil)))
    (pds_consS (pds_set 2 nd (pd_callR 0 c__law_drawn (hr.mono (by decide)) tk rfl (pds_cons (pd_ix (pd_lst (pds_cons pd_int (pds_cons pd_int (pds_cons pd_int pds_nil)))) (pd_var 1) px_name) pds_nil)))
    (pds_oneS (pds_ret (pd_mul (pd_var 2) (pd_ix (pd_lst (pds_cons pd_int (pds_cons (pd_neg pd_int) pds_nil))) (pd_callR 0 c__law_drawn (hr.mono (by decide)) tk rfl (pds_cons pd_int pds_nil)) px_call))))))
/-! _law_near -/
abbrev N__law_near : List Str := ["feed", "most", "one", "other", "turn", "way"]
theorem nd__law_near : N__law_near.Nodup := by decide +kernel
theorem sc__law_near : FnScope N__law_near ["feed", "most"] (defScope S__law_near) := ⟨rfl, rfl, rfl, nd__law_near, rfl, by decide +kernel, by decide +kernel⟩
def fb__law_near : M Fl := (mseq (mset 2 (mpure (.int 1)))
  (mseq (mset 3 (mpure (.int 1)))
  (mseq (mforS (mrng1 (mcallR 2 f__law_drawn 0 (mcons (mvar 1) mnil))) (tname 4)
  (mpar [2, 3] (mcons (mvar 3) (mcons (mop gAdd (mvar 2) (mvar 3)) mnil))))
  (mseq (mset 5 (mcallR 2 f__law_drawn 0 (mcons (mpure (.int 2)) mnil)))
  (mret (mop gIx (mlst (mcons (mtup (mcons (mvar 2) (mcons (mneg (mvar 3)) mnil))) (mcons (mtup (mcons (mneg (mvar 3)) (mcons (mvar 2) mnil))) (mcons (mtup (mcons (mvar 3) (mcons (mneg (mvar 2)) mnil))) (mcons (mtup (mcons (mneg (mvar 2)) (mcons (mvar 3) mnil))) mnil))))) (mop gAdd (mop gMul (mpure (.int 2)) (mvar 5)) (mcallR 2 f__law_drawn 0 (mcons (mpure (.int 2)) mnil)))))))))
def f__law_near : List A → Option (Rs D) := runG 6 fb__law_near
theorem ok__law_near {P : Program} {w : World} {K : PySem.W.Frag} {mg : Str → Option Value} {base : Heap} {f : Addr} {fd : FuncData} (F : FnP K "_law_near" "_law_near" S__law_near f fd) (m_range : mg "range" = none) (c__law_drawn : Cal P w K mg base 2 "_law_drawn" 2 f__law_drawn) : FnOk P w K mg base (L2.CX P w) 3 f fd ["feed", "most"] (spG K 2 f__law_near) := fn_okG (N := N__law_near) (ps := ["feed", "most"]) (k := 2) (fb := fb__law_near) F sc__law_near fun ios F0 H0 cdv Ar outer s H E hr tk => by
  have nd := nd__law_near
  have hp := passes_of (X := cxOf (L2.CX P w) P w K mg base N__law_near "_law_near" (defScope S__law_near) f cdv Ar outer s H E) rfl
  exact (pds_consS (pds_set 2 nd pd_int)
    (pds_consS (pds_set 3 nd pd_int)
    (pds_consS (pds_for hp rfl (pdi_rng1 rfl m_range (pd_callR 0 c__law_drawn (hr.mono (by decide)) tk rfl (pds_cons (pd_var 1) pds_nil))) (pdg_name 4 nd) tok_name.nx (pds_oneS (pds_par2 2 3 rfl nd (pds_cons (pd_var 3) (pds_cons (pd_add (pd_var 2) (pd_var 3)) pds_nil)))))
    (pds_consS (pds_set 5 nd (pd_callR 0 c__law_drawn (hr.mono (by decide)) tk rfl (pds_cons pd_int pds_nil)))
    (pds_oneS (pds_ret (pd_ix (pd_lst (pds_cons (pd_tup (pds_cons (pd_var 2) (pds_cons (pd_neg (pd_var 3)) pds_nil))) (pds_cons (pd_tup (pds_cons (pd_neg (pd_var 3)) (pds_cons (pd_var 2) pds_nil))) (pds_cons (pd_tup (pds_cons (pd_var 3) (pds_cons (pd_neg (pd_var 2)) pds_nil))) (pds_cons (pd_tup (pds_cons (pd_neg (pd_var 2)) (pds_cons (pd_var 3) pds_nil))) pds_nil))))) (pd_add (pd_mul pd_int (pd_var 5)) (pd_callR 0 c__law_drawn (hr.mono (by decide)) tk rfl (pds_cons pd_int pds_nil))) px_bin)))))))
/-! _law_number -/
abbrev N__law_number : List Str := ["feed"]
theorem nd__law_number : N__law_number.Nodup := by decide +kernel
theorem sc__law_number : FnScope N__law_number ["feed"] (defScope S__law_number) := ⟨rfl, rfl, rfl, nd__law_number, rfl, by decide +kernel, by decide +kernel⟩
def fb__law_number : M Fl := (mseq (mifS (mtst (mop gEq (mcallR 2 f__law_drawn 0 (mcons (mpure (.int 3)) mnil)) (mpure (.int 0))))
  (mret (mcallR 2 f__law_near 0 (mcons (mpure (.int 18)) mnil)))
  mskip)
  (mret (mtup (mcons (mcallR 1 f__law_whole 0 mnil) (mcons (mcallR 1 f__law_whole 0 mnil) mnil)))))
def f__law_number : List A → Option (Rs D) := runG 1 fb__law_number
theorem ok__law_number {P : Program} {w : World} {K : PySem.W.Frag} {mg : Str → Option Value} {base : Heap} {f : Addr} {fd : FuncData} (F : FnP K "_law_number" "_law_number" S__law_number f fd) (c__law_drawn : Cal P w K mg base 2 "_law_drawn" 2 f__law_drawn) (c__law_near : Cal P w K mg base 3 "_law_near" 2 f__law_near) (c__law_whole : Cal P w K mg base 3 "_law_whole" 1 f__law_whole) : FnOk P w K mg base (L2.CX P w) 4 f fd ["feed"] (spG K 1 f__law_number) := fn_okG (N := N__law_number) (ps := ["feed"]) (k := 3) (fb := fb__law_number) F sc__law_number fun ios F0 H0 cdv Ar outer s H E hr tk => by
  have nd := nd__law_number
  have hp := passes_of (X := cxOf (L2.CX P w) P w K mg base N__law_number "_law_number" (defScope S__law_number) f cdv Ar outer s H E) rfl
  exact (pds_consS (pds_ifS (pt_eq hr (pd_callR 0 c__law_drawn (hr.mono (by decide)) tk rfl (pds_cons pd_int pds_nil)) pd_int) (pds_oneS (pds_ret (pd_callR 0 c__law_near (hr.mono (by decide)) tk rfl (pds_cons pd_int pds_nil)))) pds_nilS)
    (pds_oneS (pds_ret (pd_tup (pds_cons (pd_callR 0 c__law_whole (hr.mono (by decide)) tk rfl pds_nil) (pds_cons (pd_callR 0 c__law_whole (hr.mono (by decide)) tk rfl pds_nil) pds_nil))))))
/-! _law_asked -/
abbrev N__law_asked : List Str := ["way", "one", "other", "told", "error"]
theorem nd__law_asked : N__law_asked.Nodup := by decide +kernel
theorem sc__law_asked : FnScope N__law_asked ["way", "one", "other"] (defScope S__law_asked) := ⟨rfl, rfl, rfl, nd__law_asked, rfl, by decide +kernel, by decide +kernel⟩
def fb__law_asked : M Fl := (mseq (mset 3 (mtup (mcons (mpure (.str "none")) (mcons (mpure .none) mnil))))
  (mseq (mtry cat (mifS (mtst (mop gEq (mvar 0) (mpure (.int 0))))
  (mdrop (mcallF 2 f_plus (mcons (mvar 1) (mcons (mvar 2) mnil))))
  (mifS (mtst (mop gEq (mvar 0) (mpure (.int 1))))
  (mdrop (mcallF 2 f_times (mcons (mvar 1) (mcons (mvar 2) mnil))))
  (mdrop (mcallF 1 f_sign (mcons (mvar 1) mnil))))) (⟨"InvalidNumber", 4, (fun d => mput 3 (.dat (.tuple [.str "number", d])))⟩ :: []))
  (mret (mvar 3))))
def f__law_asked : List A → Option (Rs D) := runG 5 fb__law_asked
theorem ok__law_asked {P : Program} {w : World} {K : PySem.W.Frag} {mg : Str → Option Value} {base : Heap} {f : Addr} {fd : FuncData} (F : FnP K "_law_asked" "_law_asked" S__law_asked f fd) {fI : Addr} (c_plus : Cal P w K mg base 5 "plus" 2 f_plus) (c_times : Cal P w K mg base 5 "times" 2 f_times) (c_sign : Cal P w K mg base 4 "sign" 1 f_sign) (cats : Cats K cat) (x_InvalidNumber : ExF K mg fI "InvalidNumber") (ini : IniOk P w K mg base fI) : FnOk P w K mg base (L2.CX P w) 6 f fd ["way", "one", "other"] (spG K 3 f__law_asked) := fn_okG (N := N__law_asked) (ps := ["way", "one", "other"]) (k := 5) (fb := fb__law_asked) F sc__law_asked fun ios F0 H0 cdv Ar outer s H E hr tk => by
  have nd := nd__law_asked
  have hp := passes_of (X := cxOf (L2.CX P w) P w K mg base N__law_asked "_law_asked" (defScope S__law_asked) f cdv Ar outer s H E) rfl
  exact (pds_consS (pds_set 3 nd (pd_tup (pds_cons pd_str (pds_cons pd_non pds_nil))))
    (pds_consS (pds_try rfl rfl nd tk cats (fun W1 q1 xe1 tk1 hp1 => (pds_oneS (pds_ifS (pt_eq hr (pd_var 0) pd_int) (pds_oneS (pds_expr (pd_call c_plus (hr.mono (by decide)) tk1 rfl (pds_cons (pd_var 1) (pds_cons (pd_var 2) pds_nil))))) (pds_oneS (pds_ifS (pt_eq hr (pd_var 0) pd_int) (pds_oneS (pds_expr (pd_call c_times (hr.mono (by decide)) tk1 rfl (pds_cons (pd_var 1) (pds_cons (pd_var 2) pds_nil))))) (pds_oneS (pds_expr (pd_call c_sign (hr.mono (by decide)) tk1 rfl (pds_cons (pd_var 1) pds_nil))))))))) (.cons rfl (by decide) x_InvalidNumber.g rfl rfl (su_set nd (sv_tup sv_val)) .nil))
    (pds_oneS (pds_ret (pd_var 3)))))
/-! _law_right -/
abbrev N__law_right : List Str := ["one", "other", "third", "total", "made", "signs"]
theorem nd__law_right : N__law_right.Nodup := by decide +kernel
theorem sc__law_right : FnScope N__law_right ["one", "other", "third"] (defScope S__law_right) := ⟨rfl, rfl, rfl, nd__law_right, rfl, by decide +kernel, by decide +kernel⟩
def fb__law_right : M Fl := (mseq (mset 3 (mcallF 2 f_plus (mcons (mvar 0) (mcons (mvar 1) mnil))))
  (mseq (mset 4 (mcallF 2 f_times (mcons (mvar 0) (mcons (mvar 1) mnil))))
  (mseq (mifS (mnot (mtru (mcallF 2 f__law_same (mcons (mvar 3) (mcons (mtup (mcons (mop gAdd (mop gIx (mvar 0) (mpure (.int 0))) (mop gIx (mvar 1) (mpure (.int 0)))) (mcons (mop gAdd (mop gIx (mvar 0) (mpure (.int 1))) (mop gIx (mvar 1) (mpure (.int 1)))) mnil))) mnil)))))
  (mret (mpure (.bool false)))
  mskip)
  (mseq (mifS (mnot (mtru (mcallF 2 f__law_same (mcons (mvar 4) (mcons (mtup (mcons (mop gAdd (mop gMul (mop gIx (mvar 0) (mpure (.int 0))) (mop gIx (mvar 1) (mpure (.int 0)))) (mop gMul (mop gIx (mvar 0) (mpure (.int 1))) (mop gIx (mvar 1) (mpure (.int 1))))) (mcons (mop gAdd (mop gAdd (mop gMul (mop gIx (mvar 0) (mpure (.int 0))) (mop gIx (mvar 1) (mpure (.int 1)))) (mop gMul (mop gIx (mvar 0) (mpure (.int 1))) (mop gIx (mvar 1) (mpure (.int 0))))) (mop gMul (mop gIx (mvar 0) (mpure (.int 1))) (mop gIx (mvar 1) (mpure (.int 1))))) mnil))) mnil)))))
  (mret (mpure (.bool false)))
  mskip)
  (mseq (mifS (mnot (mtru (mcallF 2 f__law_same (mcons (mlst (mcons (mcallF 2 f_plus (mcons (mvar 1) (mcons (mvar 0) mnil))) (mcons (mcallF 2 f_times (mcons (mvar 1) (mcons (mvar 0) mnil))) mnil))) (mcons (mlst (mcons (mvar 3) (mcons (mvar 4) mnil))) mnil)))))
  (mret (mpure (.bool false)))
  mskip)
  (mseq (mifS (mor (mnot (mtru (mcallF 2 f__law_same (mcons (mcallK 2 f_plus 0 2 [0, 1] mnil (mcons (mvar 0) (mcons (mvar 1) mnil))) (mcons (mvar 3) mnil))))) (mnot (mtru (mcallF 2 f__law_same (mcons (mcallK 2 f_times 0 2 [1, 0] mnil (mcons (mvar 1) (mcons (mvar 0) mnil))) (mcons (mvar 4) mnil))))))
  (mret (mpure (.bool false)))
  mskip)
  (mseq (mifS (mnot (mtru (mcallF 2 f__law_same (mcons (mcallF 2 f_times (mcons (mvar 0) (mcons (mcallF 2 f_plus (mcons (mvar 1) (mcons (mvar 2) mnil))) mnil))) (mcons (mcallF 2 f_plus (mcons (mvar 4) (mcons (mcallF 2 f_times (mcons (mvar 0) (mcons (mvar 2) mnil))) mnil))) mnil)))))
  (mret (mpure (.bool false)))
  mskip)
  (mseq (mset 5 (mlst (mcons (mcallF 1 f_sign (mcons (mvar 0) mnil)) (mcons (mcallF 1 f_sign (mcons (mvar 1) mnil)) (mcons (mcallK 1 f_sign 0 1 [0] mnil (mcons (mvar 2) mnil)) mnil)))))
  (mseq (mifS (mnot (mtru (mcallF 2 f__law_same (mcons (mvar 5) (mcons (mlst (mcons (mcallF 1 f__law_sign (mcons (mvar 0) mnil)) (mcons (mcallF 1 f__law_sign (mcons (mvar 1) mnil)) (mcons (mcallF 1 f__law_sign (mcons (mvar 2) mnil)) mnil)))) mnil)))))
  (mret (mpure (.bool false)))
  mskip)
  (mseq (mifS (mor (mnot (mtru (mcallF 2 f__law_same (mcons (mcallF 1 f_sign (mcons (mvar 4) mnil)) (mcons (mop gMul (mop gIx (mvar 5) (mpure (.int 0))) (mop gIx (mvar 5) (mpure (.int 1)))) mnil))))) (mnot (mtru (mcallF 2 f__law_same (mcons (mcallF 1 f_sign (mcons (mtup (mcons (mneg (mop gIx (mvar 0) (mpure (.int 0)))) (mcons (mneg (mop gIx (mvar 0) (mpure (.int 1)))) mnil))) mnil)) (mcons (mneg (mop gIx (mvar 5) (mpure (.int 0)))) mnil))))))
  (mret (mpure (.bool false)))
  mskip)
  (mret (mop gEq (mop gEq (mop gIx (mvar 5) (mpure (.int 0))) (mpure (.int 0))) (mop gEq (mvar 0) (mtup (mcons (mpure (.int 0)) (mcons (mpure (.int 0)) mnil))))))))))))))))
def f__law_right : List A → Option (Rs D) := runG 6 fb__law_right
theorem ok__law_right {P : Program} {w : World} {K : PySem.W.Frag} {mg : Str → Option Value} {base : Heap} {f : Addr} {fd : FuncData} (F : FnP K "_law_right" "_law_right" S__law_right f fd) (c_plus : Cal P w K mg base 5 "plus" 2 f_plus) (c_times : Cal P w K mg base 5 "times" 2 f_times) (c__law_same : Cal P w K mg base 14 "_law_same" 2 f__law_same) (k_plus_0_number_second_number : CalK P w K mg base 5 "plus" 2 f_plus 0 ["number", "second_number"] [0, 1]) (k_times_0_second_number_number : CalK P w K mg base 5 "times" 2 f_times 0 ["second_number", "number"] [1, 0]) (c_sign : Cal P w K mg base 4 "sign" 1 f_sign) (k_sign_0_number : CalK P w K mg base 4 "sign" 1 f_sign 0 ["number"] [0]) (c__law_sign : Cal P w K mg base 2 "_law_sign" 1 f__law_sign) : FnOk P w K mg base (L2.CX P w) 15 f fd ["one", "other", "third"] (spG K 3 f__law_right) := fn_okG (N := N__law_right) (ps := ["one", "other", "third"]) (k := 14) (fb := fb__law_right) F sc__law_right fun ios F0 H0 cdv Ar outer s H E hr tk => by
  have nd := nd__law_right
  have hp := passes_of (X := cxOf (L2.CX P w) P w K mg base N__law_right "_law_right" (defScope S__law_right) f cdv Ar outer s H E) rfl
  exact (pds_consS (pds_set 3 nd (pd_call c_plus (hr.mono (by decide)) tk rfl (pds_cons (pd_var 0) (pds_cons (pd_var 1) pds_nil))))
    (pds_consS (pds_set 4 nd (pd_call c_times (hr.mono (by decide)) tk rfl (pds_cons (pd_var 0) (pds_cons (pd_var 1) pds_nil))))
    (pds_consS (pds_ifS (pt_notD (pt_tru (pd_call c__law_same (hr.mono (by decide)) tk rfl (pds_cons (pd_var 3) (pds_cons (pd_tup (pds_cons (pd_add (pd_ix (pd_var 0) pd_int px_int) (pd_ix (pd_var 1) pd_int px_int)) (pds_cons (pd_add (pd_ix (pd_var 0) pd_int px_int) (pd_ix (pd_var 1) pd_int px_int)) pds_nil))) pds_nil))))) (pds_oneS (pds_ret pd_bl)) pds_nilS)
    (pds_consS (pds_ifS (pt_notD (pt_tru (pd_call c__law_same (hr.mono (by decide)) tk rfl (pds_cons (pd_var 4) (pds_cons (pd_tup (pds_cons (pd_add (pd_mul (pd_ix (pd_var 0) pd_int px_int) (pd_ix (pd_var 1) pd_int px_int)) (pd_mul (pd_ix (pd_var 0) pd_int px_int) (pd_ix (pd_var 1) pd_int px_int))) (pds_cons (pd_add (pd_add (pd_mul (pd_ix (pd_var 0) pd_int px_int) (pd_ix (pd_var 1) pd_int px_int)) (pd_mul (pd_ix (pd_var 0) pd_int px_int) (pd_ix (pd_var 1) pd_int px_int))) (pd_mul (pd_ix (pd_var 0) pd_int px_int) (pd_ix (pd_var 1) pd_int px_int))) pds_nil))) pds_nil))))) (pds_oneS (pds_ret pd_bl)) pds_nilS)
    (pds_consS (pds_ifS (pt_notD (pt_tru (pd_call c__law_same (hr.mono (by decide)) tk rfl (pds_cons (pd_lst (pds_cons (pd_call c_plus (hr.mono (by decide)) tk rfl (pds_cons (pd_var 1) (pds_cons (pd_var 0) pds_nil))) (pds_cons (pd_call c_times (hr.mono (by decide)) tk rfl (pds_cons (pd_var 1) (pds_cons (pd_var 0) pds_nil))) pds_nil))) (pds_cons (pd_lst (pds_cons (pd_var 3) (pds_cons (pd_var 4) pds_nil))) pds_nil))))) (pds_oneS (pds_ret pd_bl)) pds_nilS)
    (pds_consS (pds_ifS (pt_w (pw_orD (pt_notD (pt_tru (pd_call c__law_same (hr.mono (by decide)) tk rfl (pds_cons (pd_callK0 (ks := ["number", "second_number"]) k_plus_0_number_second_number (hr.mono (by decide)) tk rfl (pdk_cons (pd_var 0) (pdk_cons (pd_var 1) pdk_nil))) (pds_cons (pd_var 3) pds_nil))))) (pw_or1D (pt_notD (pt_tru (pd_call c__law_same (hr.mono (by decide)) tk rfl (pds_cons (pd_callK0 (ks := ["second_number", "number"]) k_times_0_second_number_number (hr.mono (by decide)) tk rfl (pdk_cons (pd_var 1) (pdk_cons (pd_var 0) pdk_nil))) (pds_cons (pd_var 4) pds_nil)))))))) (pds_oneS (pds_ret pd_bl)) pds_nilS)
    (pds_consS (pds_ifS (pt_notD (pt_tru (pd_call c__law_same (hr.mono (by decide)) tk rfl (pds_cons (pd_call c_times (hr.mono (by decide)) tk rfl (pds_cons (pd_var 0) (pds_cons (pd_call c_plus (hr.mono (by decide)) tk rfl (pds_cons (pd_var 1) (pds_cons (pd_var 2) pds_nil))) pds_nil))) (pds_cons (pd_call c_plus (hr.mono (by decide)) tk rfl (pds_cons (pd_var 4) (pds_cons (pd_call c_times (hr.mono (by decide)) tk rfl (pds_cons (pd_var 0) (pds_cons (pd_var 2) pds_nil))) pds_nil))) pds_nil))))) (pds_oneS (pds_ret pd_bl)) pds_nilS)
    (pds_consS (pds_set 5 nd (pd_lst (pds_cons (pd_call c_sign (hr.mono (by decide)) tk rfl (pds_cons (pd_var 0) pds_nil)) (pds_cons (pd_call c_sign (hr.mono (by decide)) tk rfl (pds_cons (pd_var 1) pds_nil)) (pds_cons (pd_callK0 (ks := ["number"]) k_sign_0_number (hr.mono (by decide)) tk rfl (pdk_cons (pd_var 2) pdk_nil)) pds_nil)))))
    (pds_consS (pds_ifS (pt_notD (pt_tru (pd_call c__law_same (hr.mono (by decide)) tk rfl (pds_cons (pd_var 5) (pds_cons (pd_lst (pds_cons (pd_call c__law_sign (hr.mono (by decide)) tk rfl (pds_cons (pd_var 0) pds_nil)) (pds_cons (pd_call c__law_sign (hr.mono (by decide)) tk rfl (pds_cons (pd_var 1) pds_nil)) (pds_cons (pd_call c__law_sign (hr.mono (by decide)) tk rfl (pds_cons (pd_var 2) pds_nil)) pds_nil)))) pds_nil))))) (pds_oneS (pds_ret pd_bl)) pds_nilS)
    (pds_consS (pds_ifS (pt_w (pw_orD (pt_notD (pt_tru (pd_call c__law_same (hr.mono (by decide)) tk rfl (pds_cons (pd_call c_sign (hr.mono (by decide)) tk rfl (pds_cons (pd_var 4) pds_nil)) (pds_cons (pd_mul (pd_ix (pd_var 5) pd_int px_int) (pd_ix (pd_var 5) pd_int px_int)) pds_nil))))) (pw_or1D (pt_notD (pt_tru (pd_call c__law_same (hr.mono (by decide)) tk rfl (pds_cons (pd_call c_sign (hr.mono (by decide)) tk rfl (pds_cons (pd_tup (pds_cons (pd_neg (pd_ix (pd_var 0) pd_int px_int)) (pds_cons (pd_neg (pd_ix (pd_var 0) pd_int px_int)) pds_nil))) pds_nil)) (pds_cons (pd_neg (pd_ix (pd_var 5) pd_int px_int)) pds_nil)))))))) (pds_oneS (pds_ret pd_bl)) pds_nilS)
    (pds_oneS (pds_ret (pd_eq hr (pd_eq hr (pd_ix (pd_var 5) pd_int px_int) pd_int) (pd_eq hr (pd_var 0) (pd_tup (pds_cons pd_int (pds_cons pd_int pds_nil)))))))))))))))))
/-! law -/
abbrev N_law : List Str := ["script", "feed", "turn", "one", "other", "third", "far", "wrong", "way"]
theorem nd_law : N_law.Nodup := by decide +kernel
theorem sc_law : FnScope N_law ["script"] (defScope S_law) := ⟨rfl, rfl, rfl, nd_law, rfl, by decide +kernel, by decide +kernel⟩
def fb_law : M Fl := (mseq (mforS (mrng1 (mpure (.int 6))) (tname 2)
  (mseq (mpar [3, 4, 5] (mcons (mcallR 1 f__law_number 1 mnil) (mcons (mcallR 1 f__law_number 1 mnil) (mcons (mcallR 1 f__law_number 1 mnil) mnil))))
  (mseq (mset 6 (mcallR 2 f__law_near 1 (mcons (mpure (.int 40)) mnil)))
  (mseq (mifS (mnot (mtru (mcallF 2 f__law_same (mcons (mcallF 1 f_sign (mcons (mvar 6) mnil)) (mcons (mcallF 1 f__law_sign (mcons (mvar 6) mnil)) mnil)))))
  (mret (mpure (.bool false)))
  mskip)
  (mseq (mifS (mor (mnot (mtru (mcallF 3 f__law_right (mcons (mvar 3) (mcons (mvar 4) (mcons (mvar 5) mnil)))))) (mor (mtst (mop gNtB (mcallF 1 f_is_number (mcons (mvar 3) mnil)) (mpure (.bool true)))) (mtst (mop gNtB (mcallK 1 f_is_number 0 1 [0] mnil (mcons (mvar 4) mnil)) (mpure (.bool true))))))
  (mret (mpure (.bool false)))
  mskip)
  (mseq (mset 7 (mop gIx (mlst (mcons (mpure .none) (mcons (mpure (.int 3)) (mcons (mtup (mcons (mpure (.int 1)) mnil)) (mcons (mtup (mcons (mpure (.int 1)) (mcons (mpure (.int 2)) (mcons (mpure (.int 3)) mnil)))) (mcons (mlst (mcons (mpure (.int 1)) (mcons (mpure (.int 2)) mnil))) (mcons (mtup (mcons (mpure (.int 1)) (mcons (mpure (.bool true)) mnil))) (mcons (mtup (mcons (mpure (.str "1")) (mcons (mpure (.int 2)) mnil))) (mcons (mtup (mcons (mpure (.int 1)) (mcons (mpure .none) mnil))) (mcons (mtup mnil) (mcons (mpure (.str "12")) (mcons (mtup (mcons (mtup (mcons (mpure (.int 1)) (mcons (mpure (.int 2)) mnil))) (mcons (mpure (.int 3)) mnil))) mnil)))))))))))) (mcallR 2 f__law_drawn 1 (mcons (mpure (.int 11)) mnil))))
  (mseq (mifS (mtst (mop gNtB (mcallF 1 f_is_number (mcons (mvar 7) mnil)) (mpure (.bool false))))
  (mret (mpure (.bool false)))
  mskip)
  (mseq (mset 8 (mcallR 2 f__law_drawn 1 (mcons (mpure (.int 3)) mnil)))
  (mseq (mifS (mnot (mtru (mcallF 2 f__law_same (mcons (mcallF 3 f__law_asked (mcons (mvar 8) (mcons (mvar 7) (mcons (mop gIx (mlst (mcons (mvar 4) (mcons (mpure .none) mnil))) (mcallR 2 f__law_drawn 1 (mcons (mpure (.int 2)) mnil))) mnil)))) (mcons (mtup (mcons (mpure (.str "number")) (mcons (mvar 7) mnil))) mnil)))))
  (mret (mpure (.bool false)))
  mskip)
  (mifS (mand (mtst (mop gLt (mvar 8) (mpure (.int 2)))) (mnot (mtru (mcallF 2 f__law_same (mcons (mcallF 3 f__law_asked (mcons (mvar 8) (mcons (mvar 3) (mcons (mvar 7) mnil)))) (mcons (mtup (mcons (mpure (.str "number")) (mcons (mvar 7) mnil))) mnil))))))
  (mret (mpure (.bool false)))
  mskip))))))))))
  (mret (mcallF 2 f__law_same (mcons (mlst (mcons (mcallF 1 f_sign (mcons (mtup (mcons (mpure (.int 0)) (mcons (mpure (.int 0)) mnil))) mnil)) (mcons (mcallF 1 f_sign (mcons (mtup (mcons (mpure (.int 1)) (mcons (mpure (.int 0)) mnil))) mnil)) (mcons (mcallF 1 f_sign (mcons (mtup (mcons (mneg (mpure (.int 3))) (mcons (mpure (.int 2)) mnil))) mnil)) (mcons (mcallF 1 f_sign (mcons (mtup (mcons (mpure (.int 5)) (mcons (mneg (mpure (.int 3))) mnil))) mnil)) mnil))))) (mcons (mlst (mcons (mpure (.int 0)) (mcons (mpure (.int 1)) (mcons (mpure (.int 1)) (mcons (mpure (.int 1)) mnil))))) mnil)))))
theorem ok_law {P : Program} {w : World} {K : PySem.W.Frag} {mg : Str → Option Value} {base : Heap} {f : Addr} {fd : FuncData} {a0 : Addr} {fd0 : FuncData} (F : FnP K "law" "law" S_law f fd) (Ff : FnOk P w K mg base (L2.CX P w) 1 a0 fd0 ["script"] (spFeed K)) (bf : Binds K fd0 ["script"] []) (gf : mg "_law_feed" = some (.ref a0)) (kf : PySem.W.keepIn K (.ref a0) = true) (m_range : mg "range" = none) (c__law_number : Cal P w K mg base 4 "_law_number" 1 f__law_number) (c__law_near : Cal P w K mg base 3 "_law_near" 2 f__law_near) (c__law_same : Cal P w K mg base 14 "_law_same" 2 f__law_same) (c__law_sign : Cal P w K mg base 2 "_law_sign" 1 f__law_sign) (c_sign : Cal P w K mg base 4 "sign" 1 f_sign) (c__law_right : Cal P w K mg base 15 "_law_right" 3 f__law_right) (c_is_number : Cal P w K mg base 4 "is_number" 1 f_is_number) (k_is_number_0_value : CalK P w K mg base 4 "is_number" 1 f_is_number 0 ["value"] [0]) (c__law_drawn : Cal P w K mg base 2 "_law_drawn" 2 f__law_drawn) (c__law_asked : Cal P w K mg base 6 "_law_asked" 3 f__law_asked) : FnOk P w K mg base (L2.CX P w) 16 f fd ["script"] (spLawD K 9 fb_law) := fn_okL (N := N_law) (k := 15) (fb := fb_law) F sc_law Ff bf gf kf (by decide) ⟨_, rfl⟩ rfl rfl (by first | exact Or.inl rfl | exact Or.inr rfl) (by first | exact Or.inr rfl | exact Or.inl fun _ _ _ _ _ _ => rfl) (by decide) (fun _ => rfl) (fun _ => rfl) fun ios F0 H0 cdv Ar outer s H E hr tk => by
  have nd := nd_law
  have hp := passes_of (X := cxOf (L2.CX P w) P w K mg base N_law "law" (defScope S_law) f cdv Ar outer s H E) rfl
  exact (pds_consS (pds_for hp rfl (pdi_rng1 rfl m_range pd_int) (pdg_name 2 nd) tok_name.nx (pds_consS (pds_par3 3 4 5 rfl nd (pds_cons (pd_callR 1 c__law_number (hr.mono (by decide)) tk rfl pds_nil) (pds_cons (pd_callR 1 c__law_number (hr.mono (by decide)) tk rfl pds_nil) (pds_cons (pd_callR 1 c__law_number (hr.mono (by decide)) tk rfl pds_nil) pds_nil))))
    (pds_consS (pds_set 6 nd (pd_callR 1 c__law_near (hr.mono (by decide)) tk rfl (pds_cons pd_int pds_nil)))
    (pds_consS (pds_ifS (pt_notD (pt_tru (pd_call c__law_same (hr.mono (by decide)) tk rfl (pds_cons (pd_call c_sign (hr.mono (by decide)) tk rfl (pds_cons (pd_var 6) pds_nil)) (pds_cons (pd_call c__law_sign (hr.mono (by decide)) tk rfl (pds_cons (pd_var 6) pds_nil)) pds_nil))))) (pds_oneS (pds_ret pd_bl)) pds_nilS)
    (pds_consS (pds_ifS (pt_w (pw_orD (pt_notD (pt_tru (pd_call c__law_right (hr.mono (by decide)) tk rfl (pds_cons (pd_var 3) (pds_cons (pd_var 4) (pds_cons (pd_var 5) pds_nil)))))) (pw_orD (pt_isnt (pd_call c_is_number (hr.mono (by decide)) tk rfl (pds_cons (pd_var 3) pds_nil)) pd_bl) (pw_or1D (pt_isnt (pd_callK0 (ks := ["value"]) k_is_number_0_value (hr.mono (by decide)) tk rfl (pdk_cons (pd_var 4) pdk_nil)) pd_bl))))) (pds_oneS (pds_ret pd_bl)) pds_nilS)
    (pds_consS (pds_set 7 nd (pd_ix (pd_lst (pds_cons pd_non (pds_cons pd_int (pds_cons (pd_tup (pds_cons pd_int pds_nil)) (pds_cons (pd_tup (pds_cons pd_int (pds_cons pd_int (pds_cons pd_int pds_nil)))) (pds_cons (pd_lst (pds_cons pd_int (pds_cons pd_int pds_nil))) (pds_cons (pd_tup (pds_cons pd_int (pds_cons pd_bl pds_nil))) (pds_cons (pd_tup (pds_cons pd_str (pds_cons pd_int pds_nil))) (pds_cons (pd_tup (pds_cons pd_int (pds_cons pd_non pds_nil))) (pds_cons (pd_tup pds_nil) (pds_cons pd_str (pds_cons (pd_tup (pds_cons (pd_tup (pds_cons pd_int (pds_cons pd_int pds_nil))) (pds_cons pd_int pds_nil))) pds_nil)))))))))))) (pd_callR 1 c__law_drawn (hr.mono (by decide)) tk rfl (pds_cons pd_int pds_nil)) px_call))
    (pds_consS (pds_ifS (pt_isnt (pd_call c_is_number (hr.mono (by decide)) tk rfl (pds_cons (pd_var 7) pds_nil)) pd_bl) (pds_oneS (pds_ret pd_bl)) pds_nilS)
    (pds_consS (pds_set 8 nd (pd_callR 1 c__law_drawn (hr.mono (by decide)) tk rfl (pds_cons pd_int pds_nil)))
    (pds_consS (pds_ifS (pt_notD (pt_tru (pd_call c__law_same (hr.mono (by decide)) tk rfl (pds_cons (pd_call c__law_asked (hr.mono (by decide)) tk rfl (pds_cons (pd_var 8) (pds_cons (pd_var 7) (pds_cons (pd_ix (pd_lst (pds_cons (pd_var 4) (pds_cons pd_non pds_nil))) (pd_callR 1 c__law_drawn (hr.mono (by decide)) tk rfl (pds_cons pd_int pds_nil)) px_call) pds_nil)))) (pds_cons (pd_tup (pds_cons pd_str (pds_cons (pd_var 7) pds_nil))) pds_nil))))) (pds_oneS (pds_ret pd_bl)) pds_nilS)
    (pds_oneS (pds_ifS (pt_w (pw_andD (pt_lt (pd_var 8) pd_int) (pw_and1D (pt_notD (pt_tru (pd_call c__law_same (hr.mono (by decide)) tk rfl (pds_cons (pd_call c__law_asked (hr.mono (by decide)) tk rfl (pds_cons (pd_var 8) (pds_cons (pd_var 3) (pds_cons (pd_var 7) pds_nil)))) (pds_cons (pd_tup (pds_cons pd_str (pds_cons (pd_var 7) pds_nil))) pds_nil)))))))) (pds_oneS (pds_ret pd_bl)) pds_nilS)))))))))))
    (pds_oneS (pds_ret (pd_call c__law_same (hr.mono (by decide)) tk rfl (pds_cons (pd_lst (pds_cons (pd_call c_sign (hr.mono (by decide)) tk rfl (pds_cons (pd_tup (pds_cons pd_int (pds_cons pd_int pds_nil))) pds_nil)) (pds_cons (pd_call c_sign (hr.mono (by decide)) tk rfl (pds_cons (pd_tup (pds_cons pd_int (pds_cons pd_int pds_nil))) pds_nil)) (pds_cons (pd_call c_sign (hr.mono (by decide)) tk rfl (pds_cons (pd_tup (pds_cons (pd_neg pd_int) (pds_cons pd_int pds_nil))) pds_nil)) (pds_cons (pd_call c_sign (hr.mono (by decide)) tk rfl (pds_cons (pd_tup (pds_cons pd_int (pds_cons (pd_neg pd_int) pds_nil))) pds_nil)) pds_nil))))) (pds_cons (pd_lst (pds_cons pd_int (pds_cons pd_int (pds_cons pd_int (pds_cons pd_int pds_nil))))) pds_nil))))))
end Hd

set_option maxHeartbeats 4000000
namespace Hd
open PySem PySem.Spec PyProof.Rows L2 L2.DL
/-! the facts of the head -/
theorem facts {P : Program} {w : World} {K : PySem.W.Frag} {h : Heap} {mg : Str → Option Value} {fl : Addr} (X : K.In h) (G : h.Ns mainGlobals mg) (hfa : mg ("law" : Str) = some (.ref fl)) (c : He.SaysD fa fn K) (e : exA K = true) :
    ∃ fd : FuncData, (∀ (s : Shared) (v : Value), BindsTo s fd ⟨[v], []⟩ [("script", v)]) ∧ ∀ base : Heap, K.In base → base.Ns mainGlobals mg → FnOk P w K mg base (L2.CX P w) 16 fl fd ["script"] (spLawD K 9 fb_law) := by
  have m_isinstance : mg "isinstance" = none := He.free_ok X G (c.fact 24 (f := .free "isinstance") rfl)
  have m_int : mg "int" = none := He.free_ok X G (c.fact 26 (f := .free "int") rfl)
  have m_bool : mg "bool" = none := He.free_ok X G (c.fact 25 (f := .free "bool") rfl)
  have m_tuple : mg "tuple" = none := He.free_ok X G (c.fact 28 (f := .free "tuple") rfl)
  have m_len : mg "len" = none := He.free_ok X G (c.fact 31 (f := .free "len") rfl)
  have m_list : mg "list" = none := He.free_ok X G (c.fact 29 (f := .free "list") rfl)
  have m_range : mg "range" = none := He.free_ok X G (c.fact 27 (f := .free "range") rfl)
  have m_all : mg "all" = none := He.free_ok X G (c.fact 32 (f := .free "all") rfl)
  have m_str : mg "str" = none := He.free_ok X G (c.fact 30 (f := .free "str") rfl)
  have cats := cats_ok e
  have x_InvalidNumber : ExF K mg (He.fAd K ("MirrorsError", some "__init__")) "InvalidNumber" := by
    obtain ⟨z1, z2, z3, z4, z5, _⟩ := exB_ok (exA_ok e (x := "InvalidNumber") (by decide +kernel))
    exact ⟨He.glo_ok X G (c.fact 22 (f := .glo "InvalidNumber") rfl), z1, z2, z3, z4, z5⟩
  have vV := (exB_ok (exA_ok e (x := "MirrorsError") (by decide +kernel))).2.2.2.2.2
  obtain ⟨fdI, FI⟩ := c.def_ 0 (d := mkD ("MirrorsError", some "__init__") "__init__" "MirrorsError.__init__" S_MirrorsError_init) rfl
  have bI : Binds K fdI ["self", "value"] [] := FI.bindsN fun _ _ _ _ _ _ us hl => match us, hl with | [_, _], _ => rfl
  have m_VE : mg "ValueError" = none := He.free_ok X G (c.fact 23 (f := .free "ValueError") rfl)
  have ini : ∀ base : Heap, IniOk P w K mg base (He.fAd K ("MirrorsError", some "__init__")) := fun base => ini_ok FI ⟨rfl, rfl, rfl, by decide +kernel, rfl, by decide +kernel, by decide +kernel⟩ rfl rfl rfl m_VE vV bI _ (fun _ => rfl)
  obtain ⟨d_is_integer, F_is_integer⟩ := c.def_ 1 (d := mkD ("is_integer", none) "is_integer" "is_integer" S_is_integer) rfl
  have gl_is_integer : mg "is_integer" = some (.ref (He.fAd K ("is_integer", none))) := He.glo_ok X G (c.fact 0 (f := .glo "is_integer") rfl)
  have b_is_integer : Binds K d_is_integer ["value"] [] := F_is_integer.bindsN fun _ _ _ _ _ _ us hl => match us, hl with | [_], _ => rfl
  obtain ⟨d_is_pair, F_is_pair⟩ := c.def_ 2 (d := mkD ("is_pair", none) "is_pair" "is_pair" S_is_pair) rfl
  have gl_is_pair : mg "is_pair" = some (.ref (He.fAd K ("is_pair", none))) := He.glo_ok X G (c.fact 1 (f := .glo "is_pair") rfl)
  have b_is_pair : Binds K d_is_pair ["value"] [] := F_is_pair.bindsN fun _ _ _ _ _ _ us hl => match us, hl with | [_], _ => rfl
  obtain ⟨d_sum_of, F_sum_of⟩ := c.def_ 3 (d := mkD ("sum_of", none) "sum_of" "sum_of" S_sum_of) rfl
  have gl_sum_of : mg "sum_of" = some (.ref (He.fAd K ("sum_of", none))) := He.glo_ok X G (c.fact 2 (f := .glo "sum_of") rfl)
  have b_sum_of : Binds K d_sum_of ["one", "other"] [] := F_sum_of.bindsN fun _ _ _ _ _ _ us hl => match us, hl with | [_, _], _ => rfl
  obtain ⟨d_times_of, F_times_of⟩ := c.def_ 4 (d := mkD ("times_of", none) "times_of" "times_of" S_times_of) rfl
  have gl_times_of : mg "times_of" = some (.ref (He.fAd K ("times_of", none))) := He.glo_ok X G (c.fact 3 (f := .glo "times_of") rfl)
  have b_times_of : Binds K d_times_of ["one", "other"] [] := F_times_of.bindsN fun _ _ _ _ _ _ us hl => match us, hl with | [_, _], _ => rfl
  obtain ⟨d_sign_of_integer, F_sign_of_integer⟩ := c.def_ 5 (d := mkD ("sign_of_integer", none) "sign_of_integer" "sign_of_integer" S_sign_of_integer) rfl
  have gl_sign_of_integer : mg "sign_of_integer" = some (.ref (He.fAd K ("sign_of_integer", none))) := He.glo_ok X G (c.fact 4 (f := .glo "sign_of_integer") rfl)
  have b_sign_of_integer : Binds K d_sign_of_integer ["number"] [] := F_sign_of_integer.bindsN fun _ _ _ _ _ _ us hl => match us, hl with | [_], _ => rfl
  obtain ⟨d_sign_of, F_sign_of⟩ := c.def_ 6 (d := mkD ("sign_of", none) "sign_of" "sign_of" S_sign_of) rfl
  have gl_sign_of : mg "sign_of" = some (.ref (He.fAd K ("sign_of", none))) := He.glo_ok X G (c.fact 5 (f := .glo "sign_of") rfl)
  have b_sign_of : Binds K d_sign_of ["number"] [] := F_sign_of.bindsN fun _ _ _ _ _ _ us hl => match us, hl with | [_], _ => rfl
  obtain ⟨d_is_number, F_is_number⟩ := c.def_ 7 (d := mkD ("is_number", none) "is_number" "is_number" S_is_number) rfl
  have gl_is_number : mg "is_number" = some (.ref (He.fAd K ("is_number", none))) := He.glo_ok X G (c.fact 6 (f := .glo "is_number") rfl)
  have b_is_number : Binds K d_is_number ["value"] [] := F_is_number.bindsN fun _ _ _ _ _ _ us hl => match us, hl with | [_], _ => rfl
  obtain ⟨d_check_numbers, F_check_numbers⟩ := c.def_ 8 (d := mkD ("check_numbers", none) "check_numbers" "check_numbers" S_check_numbers) rfl
  have gl_check_numbers : mg "check_numbers" = some (.ref (He.fAd K ("check_numbers", none))) := He.glo_ok X G (c.fact 7 (f := .glo "check_numbers") rfl)
  have b_check_numbers : Binds K d_check_numbers ["number", "second_number"] [] := F_check_numbers.bindsN fun _ _ _ _ _ _ us hl => match us, hl with | [_, _], _ => rfl
  obtain ⟨d_plus, F_plus⟩ := c.def_ 9 (d := mkD ("plus", none) "plus" "plus" S_plus) rfl
  have gl_plus : mg "plus" = some (.ref (He.fAd K ("plus", none))) := He.glo_ok X G (c.fact 8 (f := .glo "plus") rfl)
  have b_plus : Binds K d_plus ["number", "second_number"] [] := F_plus.bindsN fun _ _ _ _ _ _ us hl => match us, hl with | [_, _], _ => rfl
  obtain ⟨d_times, F_times⟩ := c.def_ 10 (d := mkD ("times", none) "times" "times" S_times) rfl
  have gl_times : mg "times" = some (.ref (He.fAd K ("times", none))) := He.glo_ok X G (c.fact 9 (f := .glo "times") rfl)
  have b_times : Binds K d_times ["number", "second_number"] [] := F_times.bindsN fun _ _ _ _ _ _ us hl => match us, hl with | [_, _], _ => rfl
  obtain ⟨d_sign, F_sign⟩ := c.def_ 11 (d := mkD ("sign", none) "sign" "sign" S_sign) rfl
  have gl_sign : mg "sign" = some (.ref (He.fAd K ("sign", none))) := He.glo_ok X G (c.fact 10 (f := .glo "sign") rfl)
  have b_sign : Binds K d_sign ["number"] [] := F_sign.bindsN fun _ _ _ _ _ _ us hl => match us, hl with | [_], _ => rfl
  obtain ⟨d__law_feed, F__law_feed⟩ := c.def_ 12 (d := mkD ("_law_feed", none) "_law_feed" "_law_feed" S__law_feed) rfl
  have gl__law_feed : mg "_law_feed" = some (.ref (He.fAd K ("_law_feed", none))) := He.glo_ok X G (c.fact 11 (f := .glo "_law_feed") rfl)
  have b__law_feed : Binds K d__law_feed ["script"] [] := F__law_feed.bindsN fun _ _ _ _ _ _ us hl => match us, hl with | [_], _ => rfl
  obtain ⟨d__law_drawn, F__law_drawn⟩ := c.def_ 13 (d := mkD ("_law_drawn", none) "_law_drawn" "_law_drawn" S__law_drawn) rfl
  have gl__law_drawn : mg "_law_drawn" = some (.ref (He.fAd K ("_law_drawn", none))) := He.glo_ok X G (c.fact 12 (f := .glo "_law_drawn") rfl)
  have b__law_drawn : Binds K d__law_drawn ["feed", "many"] [] := F__law_drawn.bindsN fun _ _ _ _ _ _ us hl => match us, hl with | [_, _], _ => rfl
  obtain ⟨d__law_same, F__law_same⟩ := c.def_ 14 (d := mkD ("_law_same", none) "_law_same" "_law_same" S__law_same) rfl
  have gl__law_same : mg "_law_same" = some (.ref (He.fAd K ("_law_same", none))) := He.glo_ok X G (c.fact 13 (f := .glo "_law_same") rfl)
  have b__law_same : Binds K d__law_same ["found", "due"] [] := F__law_same.bindsN fun _ _ _ _ _ _ us hl => match us, hl with | [_, _], _ => rfl
  obtain ⟨d__law_sign, F__law_sign⟩ := c.def_ 15 (d := mkD ("_law_sign", none) "_law_sign" "_law_sign" S__law_sign) rfl
  have gl__law_sign : mg "_law_sign" = some (.ref (He.fAd K ("_law_sign", none))) := He.glo_ok X G (c.fact 14 (f := .glo "_law_sign") rfl)
  have b__law_sign : Binds K d__law_sign ["number"] [] := F__law_sign.bindsN fun _ _ _ _ _ _ us hl => match us, hl with | [_], _ => rfl
  obtain ⟨d__law_whole, F__law_whole⟩ := c.def_ 16 (d := mkD ("_law_whole", none) "_law_whole" "_law_whole" S__law_whole) rfl
  have gl__law_whole : mg "_law_whole" = some (.ref (He.fAd K ("_law_whole", none))) := He.glo_ok X G (c.fact 15 (f := .glo "_law_whole") rfl)
  have b__law_whole : Binds K d__law_whole ["feed"] [] := F__law_whole.bindsN fun _ _ _ _ _ _ us hl => match us, hl with | [_], _ => rfl
  obtain ⟨d__law_near, F__law_near⟩ := c.def_ 17 (d := mkD ("_law_near", none) "_law_near" "_law_near" S__law_near) rfl
  have gl__law_near : mg "_law_near" = some (.ref (He.fAd K ("_law_near", none))) := He.glo_ok X G (c.fact 16 (f := .glo "_law_near") rfl)
  have b__law_near : Binds K d__law_near ["feed", "most"] [] := F__law_near.bindsN fun _ _ _ _ _ _ us hl => match us, hl with | [_, _], _ => rfl
  obtain ⟨d__law_number, F__law_number⟩ := c.def_ 18 (d := mkD ("_law_number", none) "_law_number" "_law_number" S__law_number) rfl
  have gl__law_number : mg "_law_number" = some (.ref (He.fAd K ("_law_number", none))) := He.glo_ok X G (c.fact 17 (f := .glo "_law_number") rfl)
  have b__law_number : Binds K d__law_number ["feed"] [] := F__law_number.bindsN fun _ _ _ _ _ _ us hl => match us, hl with | [_], _ => rfl
  obtain ⟨d__law_asked, F__law_asked⟩ := c.def_ 19 (d := mkD ("_law_asked", none) "_law_asked" "_law_asked" S__law_asked) rfl
  have gl__law_asked : mg "_law_asked" = some (.ref (He.fAd K ("_law_asked", none))) := He.glo_ok X G (c.fact 18 (f := .glo "_law_asked") rfl)
  have b__law_asked : Binds K d__law_asked ["way", "one", "other"] [] := F__law_asked.bindsN fun _ _ _ _ _ _ us hl => match us, hl with | [_, _, _], _ => rfl
  obtain ⟨d__law_right, F__law_right⟩ := c.def_ 20 (d := mkD ("_law_right", none) "_law_right" "_law_right" S__law_right) rfl
  have gl__law_right : mg "_law_right" = some (.ref (He.fAd K ("_law_right", none))) := He.glo_ok X G (c.fact 19 (f := .glo "_law_right") rfl)
  have b__law_right : Binds K d__law_right ["one", "other", "third"] [] := F__law_right.bindsN fun _ _ _ _ _ _ us hl => match us, hl with | [_, _, _], _ => rfl
  obtain ⟨d_law, F_law⟩ := c.def_ 21 (d := mkD ("law", none) "law" "law" S_law) rfl
  have gl_law : mg "law" = some (.ref (He.fAd K ("law", none))) := He.glo_ok X G (c.fact 20 (f := .glo "law") rfl)
  have b_law : Binds K d_law ["script"] [] := F_law.bindsN fun _ _ _ _ _ _ us hl => match us, hl with | [_], _ => rfl
  have eL := hfa.symm.trans gl_law
  cases eL
  refine ⟨d_law, fun s v => FunD.bindsA (ps := ["script"]) F_law (fun _ _ _ _ _ _ us hl => match us, hl with | [_], _ => rfl) s [v] rfl, fun base _ _ => ?_⟩
  have k_ok_is_integer := ok_is_integer (P := P) (w := w) (mg := mg) (base := base) F_is_integer m_isinstance m_int m_bool
  have c_is_integer : Cal P w K mg base 2 "is_integer" 1 f_is_integer := ⟨_, _, _, k_ok_is_integer, gl_is_integer, F_is_integer.kp, b_is_integer⟩
  have k_ok_is_pair := ok_is_pair (P := P) (w := w) (mg := mg) (base := base) F_is_pair m_isinstance m_tuple m_len c_is_integer
  have c_is_pair : Cal P w K mg base 3 "is_pair" 1 f_is_pair := ⟨_, _, _, k_ok_is_pair, gl_is_pair, F_is_pair.kp, b_is_pair⟩
  have k_ok_sum_of := ok_sum_of (P := P) (w := w) (mg := mg) (base := base) F_sum_of 
  have c_sum_of : Cal P w K mg base 2 "sum_of" 2 f_sum_of := ⟨_, _, _, k_ok_sum_of, gl_sum_of, F_sum_of.kp, b_sum_of⟩
  have k_ok_times_of := ok_times_of (P := P) (w := w) (mg := mg) (base := base) F_times_of 
  have c_times_of : Cal P w K mg base 2 "times_of" 2 f_times_of := ⟨_, _, _, k_ok_times_of, gl_times_of, F_times_of.kp, b_times_of⟩
  have k_ok_sign_of_integer := ok_sign_of_integer (P := P) (w := w) (mg := mg) (base := base) F_sign_of_integer 
  have c_sign_of_integer : Cal P w K mg base 2 "sign_of_integer" 1 f_sign_of_integer := ⟨_, _, _, k_ok_sign_of_integer, gl_sign_of_integer, F_sign_of_integer.kp, b_sign_of_integer⟩
  have k_ok_sign_of := ok_sign_of (P := P) (w := w) (mg := mg) (base := base) F_sign_of c_sign_of_integer
  have c_sign_of : Cal P w K mg base 3 "sign_of" 1 f_sign_of := ⟨_, _, _, k_ok_sign_of, gl_sign_of, F_sign_of.kp, b_sign_of⟩
  have k_ok_is_number := ok_is_number (P := P) (w := w) (mg := mg) (base := base) F_is_number c_is_pair
  have c_is_number : Cal P w K mg base 4 "is_number" 1 f_is_number := ⟨_, _, _, k_ok_is_number, gl_is_number, F_is_number.kp, b_is_number⟩
  have k_is_number_0_value : CalK P w K mg base 4 "is_number" 1 f_is_number 0 ["value"] [0] := ⟨_, _, _, k_ok_is_number, gl_is_number, F_is_number.kp, by decide, bindsKw F_is_number fun _ _ _ _ _ _ us ws hu hw => match us, ws, hu, hw with | [], [_], _, _ => rfl⟩
  have k_ok_check_numbers := ok_check_numbers (P := P) (w := w) (mg := mg) (base := base) F_check_numbers c_is_pair x_InvalidNumber (ini base)
  have c_check_numbers : Cal P w K mg base 4 "check_numbers" 2 f_check_numbers := ⟨_, _, _, k_ok_check_numbers, gl_check_numbers, F_check_numbers.kp, b_check_numbers⟩
  have k_ok_plus := ok_plus (P := P) (w := w) (mg := mg) (base := base) F_plus c_check_numbers c_sum_of
  have c_plus : Cal P w K mg base 5 "plus" 2 f_plus := ⟨_, _, _, k_ok_plus, gl_plus, F_plus.kp, b_plus⟩
  have k_plus_0_number_second_number : CalK P w K mg base 5 "plus" 2 f_plus 0 ["number", "second_number"] [0, 1] := ⟨_, _, _, k_ok_plus, gl_plus, F_plus.kp, by decide, bindsKw F_plus fun _ _ _ _ _ _ us ws hu hw => match us, ws, hu, hw with | [], [_, _], _, _ => rfl⟩
  have k_ok_times := ok_times (P := P) (w := w) (mg := mg) (base := base) F_times c_check_numbers c_times_of
  have c_times : Cal P w K mg base 5 "times" 2 f_times := ⟨_, _, _, k_ok_times, gl_times, F_times.kp, b_times⟩
  have k_times_0_second_number_number : CalK P w K mg base 5 "times" 2 f_times 0 ["second_number", "number"] [1, 0] := ⟨_, _, _, k_ok_times, gl_times, F_times.kp, by decide, bindsKw F_times fun _ _ _ _ _ _ us ws hu hw => match us, ws, hu, hw with | [], [_, _], _, _ => rfl⟩
  have k_ok_sign := ok_sign (P := P) (w := w) (mg := mg) (base := base) F_sign c_is_pair x_InvalidNumber c_sign_of (ini base)
  have c_sign : Cal P w K mg base 4 "sign" 1 f_sign := ⟨_, _, _, k_ok_sign, gl_sign, F_sign.kp, b_sign⟩
  have k_sign_0_number : CalK P w K mg base 4 "sign" 1 f_sign 0 ["number"] [0] := ⟨_, _, _, k_ok_sign, gl_sign, F_sign.kp, by decide, bindsKw F_sign fun _ _ _ _ _ _ us ws hu hw => match us, ws, hu, hw with | [], [_], _, _ => rfl⟩
  have ok__law_feed := Hd.ok__law_feed (P := P) (w := w) (mg := mg) (base := base) F__law_feed m_list
  have k_ok__law_drawn := ok__law_drawn (P := P) (w := w) (mg := mg) (base := base) F__law_drawn m_len m_int
  have c__law_drawn : Cal P w K mg base 2 "_law_drawn" 2 f__law_drawn := ⟨_, _, _, k_ok__law_drawn, gl__law_drawn, F__law_drawn.kp, b__law_drawn⟩
  have k_ok__law_same := ok__law_same (P := P) (w := w) (mg := mg) (base := base) F__law_same gl__law_same F__law_same.kp b__law_same m_isinstance m_tuple m_list m_len m_range m_all m_bool m_int m_str
  have c__law_same : Cal P w K mg base 14 "_law_same" 2 f__law_same := ⟨_, _, _, k_ok__law_same, gl__law_same, F__law_same.kp, b__law_same⟩
  have k_ok__law_sign := ok__law_sign (P := P) (w := w) (mg := mg) (base := base) F__law_sign m_int
  have c__law_sign : Cal P w K mg base 2 "_law_sign" 1 f__law_sign := ⟨_, _, _, k_ok__law_sign, gl__law_sign, F__law_sign.kp, b__law_sign⟩
  have k_ok__law_whole := ok__law_whole (P := P) (w := w) (mg := mg) (base := base) F__law_whole c__law_drawn
  have c__law_whole : Cal P w K mg base 3 "_law_whole" 1 f__law_whole := ⟨_, _, _, k_ok__law_whole, gl__law_whole, F__law_whole.kp, b__law_whole⟩
  have k_ok__law_near := ok__law_near (P := P) (w := w) (mg := mg) (base := base) F__law_near m_range c__law_drawn
  have c__law_near : Cal P w K mg base 3 "_law_near" 2 f__law_near := ⟨_, _, _, k_ok__law_near, gl__law_near, F__law_near.kp, b__law_near⟩
  have k_ok__law_number := ok__law_number (P := P) (w := w) (mg := mg) (base := base) F__law_number c__law_drawn c__law_near c__law_whole
  have c__law_number : Cal P w K mg base 4 "_law_number" 1 f__law_number := ⟨_, _, _, k_ok__law_number, gl__law_number, F__law_number.kp, b__law_number⟩
  have k_ok__law_asked := ok__law_asked (P := P) (w := w) (mg := mg) (base := base) F__law_asked c_plus c_times c_sign cats x_InvalidNumber (ini base)
  have c__law_asked : Cal P w K mg base 6 "_law_asked" 3 f__law_asked := ⟨_, _, _, k_ok__law_asked, gl__law_asked, F__law_asked.kp, b__law_asked⟩
  have k_ok__law_right := ok__law_right (P := P) (w := w) (mg := mg) (base := base) F__law_right c_plus c_times c__law_same k_plus_0_number_second_number k_times_0_second_number_number c_sign k_sign_0_number c__law_sign
  have c__law_right : Cal P w K mg base 15 "_law_right" 3 f__law_right := ⟨_, _, _, k_ok__law_right, gl__law_right, F__law_right.kp, b__law_right⟩
  exact ok_law F_law ok__law_feed b__law_feed gl__law_feed F__law_feed.kp m_range c__law_number c__law_near c__law_same c__law_sign c_sign c__law_right c_is_number k_is_number_0_value c__law_drawn c__law_asked
end Hd

set_option maxHeartbeats 1000000
namespace Hd
open PySem PySem.Spec PyProof.Rows L2 L2.DL
def isInt : D → Bool
  | .int _ => true
  | _ => false
theorem v_is_integer (v : D) {Q : D → List A → Prop} (q : Q (.bool (isInt v)) [.und]) : Gv f_is_integer [.dat v] Q := by
  apply gv_run
  unfold fb_is_integer
  cases v <;> ((repeat' (first | with_reducible refine wp_seq.mpr ?_ | with_reducible refine wp_ret.mpr ?_ | with_reducible refine wp_retN.mpr ?_ | with_reducible refine wp_skip.mpr ?_ | with_reducible refine wp_brk.mpr ?_ | with_reducible refine wp_cnt.mpr ?_ | with_reducible refine wp_ifS.mpr ?_ | with_reducible refine wp_drop.mpr ?_ | with_reducible refine wp_set.mpr ?_ | with_reducible refine wp_par.mpr ?_ | with_reducible refine wp_setIx.mpr ?_ | with_reducible refine wp_forS.mpr ?_ | with_reducible refine wp_op.mpr ?_ | with_reducible refine wp_neg.mpr ?_ | with_reducible refine wp_is.mpr ?_ | with_reducible refine wp_isnt.mpr ?_ | with_reducible refine wp_tru.mpr ?_ | with_reducible refine wp_tst.mpr ?_ | with_reducible refine wp_and.mpr ?_ | with_reducible refine wp_or.mpr ?_ | with_reducible refine wp_not.mpr ?_ | with_reducible refine wp_andV.mpr ?_ | with_reducible refine wp_orV.mpr ?_ | with_reducible refine wp_notV.mpr ?_ | with_reducible refine wp_if.mpr ?_ | with_reducible refine wp_nil.mpr ?_ | with_reducible refine wp_cons.mpr ?_ | with_reducible refine wp_tup.mpr ?_ | with_reducible refine wp_lst.mpr ?_ | with_reducible refine wp_call.mpr ?_ | with_reducible refine wp_isi.mpr ?_ | with_reducible refine wp_isiT.mpr ?_ | with_reducible refine wp_part.mpr ?_ | with_reducible refine wp_sl.mpr ?_ | with_reducible refine wp_callF.mpr ?_ | with_reducible refine wp_callK.mpr ?_ | with_reducible refine wp_pure.mpr ?_ | with_reducible refine wp_put.mpr ?_ | with_reducible refine wp_rng1.mpr ?_ | with_reducible refine wp_rng2.mpr ?_ | with_reducible refine wp_itA.mpr ?_ | with_reducible refine wp_tname.mpr ?_ | ((with_reducible apply wp_dat); exact rfl) | ((with_reducible apply wp_ixN2); exact rfl) | refine yes ?_ | refine no ?_ | refine And.intro (Nat.le_of_ble_eq_true rfl) ?_ | refine And.intro (sz (Nat.le_of_ble_eq_true rfl)) ?_ | refine Exists.intro _ (And.intro (gEq_int _ _) ?_) | ((with_reducible apply ex_and); exact rfl) | ((with_reducible apply ex_bool); exact rfl) | ((with_reducible apply ex_int); exact rfl) | ((with_reducible refine And.intro ?_ ?_); exact rfl) | fail))) <;> exact q
def isPair : D → Bool
  | .tuple [x, y] => isInt x && isInt y
  | _ => false
theorem v_is_pair (v : D) {Q : D → List A → Prop} (q : Q (.bool (isPair v)) [.und]) : Gv f_is_pair [.dat v] Q := by
  apply gv_run
  unfold fb_is_pair
  cases v with
  | tuple ds =>
    match ds, q with
    | [], q =>
      (repeat' (first | with_reducible refine wp_seq.mpr ?_ | with_reducible refine wp_ret.mpr ?_ | with_reducible refine wp_retN.mpr ?_ | with_reducible refine wp_skip.mpr ?_ | with_reducible refine wp_brk.mpr ?_ | with_reducible refine wp_cnt.mpr ?_ | with_reducible refine wp_ifS.mpr ?_ | with_reducible refine wp_drop.mpr ?_ | with_reducible refine wp_set.mpr ?_ | with_reducible refine wp_par.mpr ?_ | with_reducible refine wp_setIx.mpr ?_ | with_reducible refine wp_forS.mpr ?_ | with_reducible refine wp_op.mpr ?_ | with_reducible refine wp_neg.mpr ?_ | with_reducible refine wp_is.mpr ?_ | with_reducible refine wp_isnt.mpr ?_ | with_reducible refine wp_tru.mpr ?_ | with_reducible refine wp_tst.mpr ?_ | with_reducible refine wp_and.mpr ?_ | with_reducible refine wp_or.mpr ?_ | with_reducible refine wp_not.mpr ?_ | with_reducible refine wp_andV.mpr ?_ | with_reducible refine wp_orV.mpr ?_ | with_reducible refine wp_notV.mpr ?_ | with_reducible refine wp_if.mpr ?_ | with_reducible refine wp_nil.mpr ?_ | with_reducible refine wp_cons.mpr ?_ | with_reducible refine wp_tup.mpr ?_ | with_reducible refine wp_lst.mpr ?_ | with_reducible refine wp_call.mpr ?_ | with_reducible refine wp_isi.mpr ?_ | with_reducible refine wp_isiT.mpr ?_ | with_reducible refine wp_part.mpr ?_ | with_reducible refine wp_sl.mpr ?_ | with_reducible refine wp_callF.mpr ?_ | with_reducible refine wp_callK.mpr ?_ | with_reducible refine wp_pure.mpr ?_ | with_reducible refine wp_put.mpr ?_ | with_reducible refine wp_rng1.mpr ?_ | with_reducible refine wp_rng2.mpr ?_ | with_reducible refine wp_itA.mpr ?_ | with_reducible refine wp_tname.mpr ?_ | ((with_reducible apply wp_dat); exact rfl) | ((with_reducible apply wp_ixN2); exact rfl) | refine yes ?_ | refine no ?_ | refine And.intro (Nat.le_of_ble_eq_true rfl) ?_ | refine And.intro (sz (Nat.le_of_ble_eq_true rfl)) ?_ | refine Exists.intro _ (And.intro (gEq_int _ _) ?_) | ((with_reducible apply ex_and); exact rfl) | ((with_reducible apply ex_bool); exact rfl) | ((with_reducible apply ex_int); exact rfl) | ((with_reducible refine And.intro ?_ ?_); exact rfl) | fail))
      exact q
    | [x], q =>
      (repeat' (first | with_reducible refine wp_seq.mpr ?_ | with_reducible refine wp_ret.mpr ?_ | with_reducible refine wp_retN.mpr ?_ | with_reducible refine wp_skip.mpr ?_ | with_reducible refine wp_brk.mpr ?_ | with_reducible refine wp_cnt.mpr ?_ | with_reducible refine wp_ifS.mpr ?_ | with_reducible refine wp_drop.mpr ?_ | with_reducible refine wp_set.mpr ?_ | with_reducible refine wp_par.mpr ?_ | with_reducible refine wp_setIx.mpr ?_ | with_reducible refine wp_forS.mpr ?_ | with_reducible refine wp_op.mpr ?_ | with_reducible refine wp_neg.mpr ?_ | with_reducible refine wp_is.mpr ?_ | with_reducible refine wp_isnt.mpr ?_ | with_reducible refine wp_tru.mpr ?_ | with_reducible refine wp_tst.mpr ?_ | with_reducible refine wp_and.mpr ?_ | with_reducible refine wp_or.mpr ?_ | with_reducible refine wp_not.mpr ?_ | with_reducible refine wp_andV.mpr ?_ | with_reducible refine wp_orV.mpr ?_ | with_reducible refine wp_notV.mpr ?_ | with_reducible refine wp_if.mpr ?_ | with_reducible refine wp_nil.mpr ?_ | with_reducible refine wp_cons.mpr ?_ | with_reducible refine wp_tup.mpr ?_ | with_reducible refine wp_lst.mpr ?_ | with_reducible refine wp_call.mpr ?_ | with_reducible refine wp_isi.mpr ?_ | with_reducible refine wp_isiT.mpr ?_ | with_reducible refine wp_part.mpr ?_ | with_reducible refine wp_sl.mpr ?_ | with_reducible refine wp_callF.mpr ?_ | with_reducible refine wp_callK.mpr ?_ | with_reducible refine wp_pure.mpr ?_ | with_reducible refine wp_put.mpr ?_ | with_reducible refine wp_rng1.mpr ?_ | with_reducible refine wp_rng2.mpr ?_ | with_reducible refine wp_itA.mpr ?_ | with_reducible refine wp_tname.mpr ?_ | ((with_reducible apply wp_dat); exact rfl) | ((with_reducible apply wp_ixN2); exact rfl) | refine yes ?_ | refine no ?_ | refine And.intro (Nat.le_of_ble_eq_true rfl) ?_ | refine And.intro (sz (Nat.le_of_ble_eq_true rfl)) ?_ | refine Exists.intro _ (And.intro (gEq_int _ _) ?_) | ((with_reducible apply ex_and); exact rfl) | ((with_reducible apply ex_bool); exact rfl) | ((with_reducible apply ex_int); exact rfl) | ((with_reducible refine And.intro ?_ ?_); exact rfl) | fail))
      exact q
    | [x, y], q =>
      (repeat' (first | refine v_is_integer _ ?_ | with_reducible refine wp_seq.mpr ?_ | with_reducible refine wp_ret.mpr ?_ | with_reducible refine wp_retN.mpr ?_ | with_reducible refine wp_skip.mpr ?_ | with_reducible refine wp_brk.mpr ?_ | with_reducible refine wp_cnt.mpr ?_ | with_reducible refine wp_ifS.mpr ?_ | with_reducible refine wp_drop.mpr ?_ | with_reducible refine wp_set.mpr ?_ | with_reducible refine wp_par.mpr ?_ | with_reducible refine wp_setIx.mpr ?_ | with_reducible refine wp_forS.mpr ?_ | with_reducible refine wp_op.mpr ?_ | with_reducible refine wp_neg.mpr ?_ | with_reducible refine wp_is.mpr ?_ | with_reducible refine wp_isnt.mpr ?_ | with_reducible refine wp_tru.mpr ?_ | with_reducible refine wp_tst.mpr ?_ | with_reducible refine wp_and.mpr ?_ | with_reducible refine wp_or.mpr ?_ | with_reducible refine wp_not.mpr ?_ | with_reducible refine wp_andV.mpr ?_ | with_reducible refine wp_orV.mpr ?_ | with_reducible refine wp_notV.mpr ?_ | with_reducible refine wp_if.mpr ?_ | with_reducible refine wp_nil.mpr ?_ | with_reducible refine wp_cons.mpr ?_ | with_reducible refine wp_tup.mpr ?_ | with_reducible refine wp_lst.mpr ?_ | with_reducible refine wp_call.mpr ?_ | with_reducible refine wp_isi.mpr ?_ | with_reducible refine wp_isiT.mpr ?_ | with_reducible refine wp_part.mpr ?_ | with_reducible refine wp_sl.mpr ?_ | with_reducible refine wp_callF.mpr ?_ | with_reducible refine wp_callK.mpr ?_ | with_reducible refine wp_pure.mpr ?_ | with_reducible refine wp_put.mpr ?_ | with_reducible refine wp_rng1.mpr ?_ | with_reducible refine wp_rng2.mpr ?_ | with_reducible refine wp_itA.mpr ?_ | with_reducible refine wp_tname.mpr ?_ | ((with_reducible apply wp_dat); exact rfl) | ((with_reducible apply wp_ixN2); exact rfl) | refine yes ?_ | refine no ?_ | refine And.intro (Nat.le_of_ble_eq_true rfl) ?_ | refine And.intro (sz (Nat.le_of_ble_eq_true rfl)) ?_ | refine Exists.intro _ (And.intro (gEq_int _ _) ?_) | ((with_reducible apply ex_and); exact rfl) | ((with_reducible apply ex_bool); exact rfl) | ((with_reducible apply ex_int); exact rfl) | ((with_reducible refine And.intro ?_ ?_); exact rfl) | (refine both (fun hb => ?_) (fun hb => ?_)) | fail))
      · rw [show isPair (.tuple [x, y]) = isInt y from by simp [isPair, hb]] at q
        exact q
      · rw [show isPair (.tuple [x, y]) = false from by simp [isPair, hb]] at q
        rw [hb]
        exact q
    | x :: y :: z :: r, q =>
      (repeat' (first | with_reducible refine wp_seq.mpr ?_ | with_reducible refine wp_ret.mpr ?_ | with_reducible refine wp_retN.mpr ?_ | with_reducible refine wp_skip.mpr ?_ | with_reducible refine wp_brk.mpr ?_ | with_reducible refine wp_cnt.mpr ?_ | with_reducible refine wp_ifS.mpr ?_ | with_reducible refine wp_drop.mpr ?_ | with_reducible refine wp_set.mpr ?_ | with_reducible refine wp_par.mpr ?_ | with_reducible refine wp_setIx.mpr ?_ | with_reducible refine wp_forS.mpr ?_ | with_reducible refine wp_op.mpr ?_ | with_reducible refine wp_neg.mpr ?_ | with_reducible refine wp_is.mpr ?_ | with_reducible refine wp_isnt.mpr ?_ | with_reducible refine wp_tru.mpr ?_ | with_reducible refine wp_tst.mpr ?_ | with_reducible refine wp_and.mpr ?_ | with_reducible refine wp_or.mpr ?_ | with_reducible refine wp_not.mpr ?_ | with_reducible refine wp_andV.mpr ?_ | with_reducible refine wp_orV.mpr ?_ | with_reducible refine wp_notV.mpr ?_ | with_reducible refine wp_if.mpr ?_ | with_reducible refine wp_nil.mpr ?_ | with_reducible refine wp_cons.mpr ?_ | with_reducible refine wp_tup.mpr ?_ | with_reducible refine wp_lst.mpr ?_ | with_reducible refine wp_call.mpr ?_ | with_reducible refine wp_isi.mpr ?_ | with_reducible refine wp_isiT.mpr ?_ | with_reducible refine wp_part.mpr ?_ | with_reducible refine wp_sl.mpr ?_ | with_reducible refine wp_callF.mpr ?_ | with_reducible refine wp_callK.mpr ?_ | with_reducible refine wp_pure.mpr ?_ | with_reducible refine wp_put.mpr ?_ | with_reducible refine wp_rng1.mpr ?_ | with_reducible refine wp_rng2.mpr ?_ | with_reducible refine wp_itA.mpr ?_ | with_reducible refine wp_tname.mpr ?_ | ((with_reducible apply wp_dat); exact rfl) | ((with_reducible apply wp_ixN2); exact rfl) | refine yes ?_ | refine no ?_ | refine And.intro (Nat.le_of_ble_eq_true rfl) ?_ | refine And.intro (sz (Nat.le_of_ble_eq_true rfl)) ?_ | refine Exists.intro _ (And.intro (gEq_int _ _) ?_) | ((with_reducible apply ex_and); exact rfl) | ((with_reducible apply ex_bool); exact rfl) | ((with_reducible apply ex_int); exact rfl) | ((with_reducible refine And.intro ?_ ?_); exact rfl) | fail))
      exact q
  | _ =>
    (repeat' (first | with_reducible refine wp_seq.mpr ?_ | with_reducible refine wp_ret.mpr ?_ | with_reducible refine wp_retN.mpr ?_ | with_reducible refine wp_skip.mpr ?_ | with_reducible refine wp_brk.mpr ?_ | with_reducible refine wp_cnt.mpr ?_ | with_reducible refine wp_ifS.mpr ?_ | with_reducible refine wp_drop.mpr ?_ | with_reducible refine wp_set.mpr ?_ | with_reducible refine wp_par.mpr ?_ | with_reducible refine wp_setIx.mpr ?_ | with_reducible refine wp_forS.mpr ?_ | with_reducible refine wp_op.mpr ?_ | with_reducible refine wp_neg.mpr ?_ | with_reducible refine wp_is.mpr ?_ | with_reducible refine wp_isnt.mpr ?_ | with_reducible refine wp_tru.mpr ?_ | with_reducible refine wp_tst.mpr ?_ | with_reducible refine wp_and.mpr ?_ | with_reducible refine wp_or.mpr ?_ | with_reducible refine wp_not.mpr ?_ | with_reducible refine wp_andV.mpr ?_ | with_reducible refine wp_orV.mpr ?_ | with_reducible refine wp_notV.mpr ?_ | with_reducible refine wp_if.mpr ?_ | with_reducible refine wp_nil.mpr ?_ | with_reducible refine wp_cons.mpr ?_ | with_reducible refine wp_tup.mpr ?_ | with_reducible refine wp_lst.mpr ?_ | with_reducible refine wp_call.mpr ?_ | with_reducible refine wp_isi.mpr ?_ | with_reducible refine wp_isiT.mpr ?_ | with_reducible refine wp_part.mpr ?_ | with_reducible refine wp_sl.mpr ?_ | with_reducible refine wp_callF.mpr ?_ | with_reducible refine wp_callK.mpr ?_ | with_reducible refine wp_pure.mpr ?_ | with_reducible refine wp_put.mpr ?_ | with_reducible refine wp_rng1.mpr ?_ | with_reducible refine wp_rng2.mpr ?_ | with_reducible refine wp_itA.mpr ?_ | with_reducible refine wp_tname.mpr ?_ | ((with_reducible apply wp_dat); exact rfl) | ((with_reducible apply wp_ixN2); exact rfl) | refine yes ?_ | refine no ?_ | refine And.intro (Nat.le_of_ble_eq_true rfl) ?_ | refine And.intro (sz (Nat.le_of_ble_eq_true rfl)) ?_ | refine Exists.intro _ (And.intro (gEq_int _ _) ?_) | ((with_reducible apply ex_and); exact rfl) | ((with_reducible apply ex_bool); exact rfl) | ((with_reducible apply ex_int); exact rfl) | ((with_reducible refine And.intro ?_ ?_); exact rfl) | fail))
    exact q

mutual
/-- data of which _law_same can tell -/
def sml : D → Bool
  | .none => true
  | .bool _ => true
  | .int _ => true
  | .str x => PyData.strOk x
  | .list xs => decide (xs.length < 100000) && smlAll xs
  | .tuple xs => decide (xs.length < 100000) && smlAll xs
  | .dict _ => false
def smlAll : List D → Bool
  | [] => true
  | x :: xs => sml x && smlAll xs
end
theorem smlAll_at : ∀ {xs : List D} {i : Nat} {d : D}, smlAll xs = true → xs[i]? = some d → sml d = true
  | x :: xs, 0, d, h, e => by
    cases e
    unfold smlAll at h
    exact (Bool.and_eq_true_iff.mp h).1
  | x :: xs, i + 1, d, h, e => by
    unfold smlAll at h
    exact smlAll_at (i := i) (Bool.and_eq_true_iff.mp h).2 e
theorem depthAll_at : ∀ {xs : List D} {i : Nat} {d : D}, xs[i]? = some d → d.depth ≤ PyData.depthAll xs
  | x :: xs, 0, d, e => by
    cases e
    unfold PyData.depthAll
    exact Nat.le_max_left _ _
  | x :: xs, i + 1, d, e => by
    unfold PyData.depthAll
    exact Nat.le_trans (depthAll_at (i := i) e) (Nat.le_max_right _ _)
theorem gEq_b (a b : Bool) : gEq (.bool a) (.bool b) = some (.bool (a == b)) := by
  simp [gEq, SeqAt.shaped, PyData.canLay0, PyData.depth, PyData.eqv]
theorem gNe_b (a b : Bool) : gNe (.bool a) (.bool b) = some (.bool (!(a == b))) := by
  simp [gNe, SeqAt.shaped, PyData.canLay0, PyData.depth, PyData.eqv]
theorem gEq_s (a : Str) (h : PyData.strOk a = true) : gEq (.str a) (.str a) = some (.bool true) := by
  simp [gEq, SeqAt.shaped, PyData.canLay0, PyData.depth, PyData.eqv, h]
theorem atI_n {xs : List D} {j : Nat} {d : D} (h : xs[j]? = some d) : atI xs (0 + (j : Nat) : Int) = some d := by
  rw [Int.zero_add]
  exact atI_nat h
/-- the walk over equal things gives truths alone -/
theorem same_lc {fi : M (List D)} (f : List A → Option (Rs D)) (xs : List D) (kd : D) (hfi : Wp fi [.dat kd, .dat kd, .und] fun ds ρ1 => ds = rngL 0 xs.length ∧ ρ1 = [.dat kd, .dat kd, .und]) (hx : xs.length < 100000) (hk : ∀ (j : Nat) (d : D), xs[j]? = some d → gIx kd (.int (0 + (j : Nat))) = some d) (hf : ∀ (j : Nat) (d : D), xs[j]? = some d → Gv f [.dat d, .dat d] fun r _ => r = .bool true) {Q : D → List A → Prop}
    (q : Q (.list (List.replicate xs.length (.bool true))) [.dat kd, .dat kd, .und]) :
    Wp (mlc fi (tname 2) (mpure true) (mcallF 2 f (mcons (mop gIx (mvar 0) (mvar 2)) (mcons (mop gIx (mvar 1) (mvar 2)) mnil))) [2]) [.dat kd, .dat kd, .und] Q := by
  refine wp_lc (hfi.mono ?_)
  rintro _ _ ⟨rfl, rfl⟩
  refine ⟨fun ds acc ρ => ∃ k, ds = ((List.range xs.length).map fun i => PyData.int (0 + (i : Nat))).drop k ∧ k + ds.length = xs.length ∧ acc = List.replicate k (.bool true) ∧ ρ = [.dat kd, .dat kd, .und], ?_, ?_, ?_⟩
  · rintro d ds acc ρ ⟨k, e1, e2, rfl, rfl⟩
    have hlt : k < xs.length := by simp at e2; omega
    have hd : d = .int (0 + (k : Nat)) ∧ ds = ((List.range xs.length).map fun i => PyData.int (0 + (i : Nat))).drop (k + 1) := by
      rw [List.drop_eq_getElem_cons (by simpa using hlt)] at e1
      simp at e1
      exact ⟨by simp [e1.1], by rw [e1.2]; simp⟩
    obtain ⟨rfl, hds⟩ := hd
    obtain ⟨y, hy⟩ : ∃ y, xs[k]? = some y := ⟨xs[k], List.getElem?_eq_getElem hlt⟩
    (repeat' (first | refine ⟨_, hk k y hy, ?_⟩ | with_reducible refine wp_seq.mpr ?_ | with_reducible refine wp_ret.mpr ?_ | with_reducible refine wp_retN.mpr ?_ | with_reducible refine wp_skip.mpr ?_ | with_reducible refine wp_brk.mpr ?_ | with_reducible refine wp_cnt.mpr ?_ | with_reducible refine wp_ifS.mpr ?_ | with_reducible refine wp_drop.mpr ?_ | with_reducible refine wp_set.mpr ?_ | with_reducible refine wp_par.mpr ?_ | with_reducible refine wp_setIx.mpr ?_ | with_reducible refine wp_forS.mpr ?_ | with_reducible refine wp_op.mpr ?_ | with_reducible refine wp_neg.mpr ?_ | with_reducible refine wp_is.mpr ?_ | with_reducible refine wp_isnt.mpr ?_ | with_reducible refine wp_tru.mpr ?_ | with_reducible refine wp_tst.mpr ?_ | with_reducible refine wp_and.mpr ?_ | with_reducible refine wp_or.mpr ?_ | with_reducible refine wp_not.mpr ?_ | with_reducible refine wp_andV.mpr ?_ | with_reducible refine wp_orV.mpr ?_ | with_reducible refine wp_notV.mpr ?_ | with_reducible refine wp_if.mpr ?_ | with_reducible refine wp_nil.mpr ?_ | with_reducible refine wp_cons.mpr ?_ | with_reducible refine wp_tup.mpr ?_ | with_reducible refine wp_lst.mpr ?_ | with_reducible refine wp_call.mpr ?_ | with_reducible refine wp_isi.mpr ?_ | with_reducible refine wp_isiT.mpr ?_ | with_reducible refine wp_part.mpr ?_ | with_reducible refine wp_sl.mpr ?_ | with_reducible refine wp_callF.mpr ?_ | with_reducible refine wp_callK.mpr ?_ | with_reducible refine wp_pure.mpr ?_ | with_reducible refine wp_put.mpr ?_ | with_reducible refine wp_rng1.mpr ?_ | with_reducible refine wp_rng2.mpr ?_ | with_reducible refine wp_itA.mpr ?_ | with_reducible refine wp_tname.mpr ?_ | ((with_reducible apply wp_dat); exact rfl) | ((with_reducible apply wp_ixN2); exact rfl) | refine yes ?_ | refine no ?_ | refine And.intro (Nat.le_of_ble_eq_true rfl) ?_ | refine And.intro (sz (Nat.le_of_ble_eq_true rfl)) ?_ | refine Exists.intro _ (And.intro (gEq_int _ _) ?_) | ((with_reducible apply ex_and); exact rfl) | ((with_reducible apply ex_bool); exact rfl) | ((with_reducible apply ex_int); exact rfl) | ((with_reducible refine And.intro ?_ ?_); exact rfl) | fail))
    refine (hf k y hy).mono ?_
    rintro _ _ rfl
    refine ⟨?_, k + 1, hds, ?_, ?_, rfl⟩
    · rw [List.length_replicate, sizeLine_eq]
      omega
    · simp at e2
      omega
    · rw [List.replicate_succ']
  · rintro acc ρ ⟨k, e1, e2, rfl, rfl⟩
    have hk : k = xs.length := by simpa using e2
    subst hk
    exact q
  · refine ⟨0, rfl, ?_, rfl, rfl⟩
    simp [rngL]

theorem gAll_true : ∀ n : Nat, g1 gAll [.list (List.replicate n (.bool true))] = some (.bool true) := by
  have h : ∀ n : Nat, bools (List.replicate n (PyData.bool true)) = some (List.replicate n true) := by
    intro n
    induction n with
    | zero => rfl
    | succ n ih =>
      rw [List.replicate_succ, List.replicate_succ]
      show (bools (List.replicate n (.bool true))).map (true :: ·) = _
      rw [ih]
      rfl
  intro n
  show (bools _).map _ = _
  rw [h]
  simp
theorem cR_len {n : Nat} (h : n < 100000) : cR (n : Int) = true := by
  unfold cR
  rw [Bool.and_eq_true]
  exact ⟨decide_eq_true (by omega), decide_eq_true (by omega)⟩
theorem grng1_len {n : Nat} (h : n < 100000) : grng1 (.int (n : Int)) = some (rngL 0 n) := by
  show (if cR (n : Int) = true then some (rngL 0 (n : Int).toNat) else none) = _
  rw [if_pos (cR_len h)]
  simp
theorem same_refl : ∀ (m : Nat) (d : D), sml d = true → d.depth ≤ m → ∀ {Q : D → List A → Prop}, Q (.bool true) [.und, .und] → Gv (g__law_same (m + 1)) [.dat d, .dat d] Q := by
  intro m
  induction m with
  | zero =>
    intro d h hd Q q
    apply gv_run
    unfold fb__law_same
    cases d with
    | list xs => simp [PyData.depth] at hd
    | tuple xs => simp [PyData.depth] at hd
    | dict _ => cases h
    | none => ((repeat' (first | with_reducible refine wp_seq.mpr ?_ | with_reducible refine wp_ret.mpr ?_ | with_reducible refine wp_retN.mpr ?_ | with_reducible refine wp_skip.mpr ?_ | with_reducible refine wp_brk.mpr ?_ | with_reducible refine wp_cnt.mpr ?_ | with_reducible refine wp_ifS.mpr ?_ | with_reducible refine wp_drop.mpr ?_ | with_reducible refine wp_set.mpr ?_ | with_reducible refine wp_par.mpr ?_ | with_reducible refine wp_setIx.mpr ?_ | with_reducible refine wp_forS.mpr ?_ | with_reducible refine wp_op.mpr ?_ | with_reducible refine wp_neg.mpr ?_ | with_reducible refine wp_is.mpr ?_ | with_reducible refine wp_isnt.mpr ?_ | with_reducible refine wp_tru.mpr ?_ | with_reducible refine wp_tst.mpr ?_ | with_reducible refine wp_and.mpr ?_ | with_reducible refine wp_or.mpr ?_ | with_reducible refine wp_not.mpr ?_ | with_reducible refine wp_andV.mpr ?_ | with_reducible refine wp_orV.mpr ?_ | with_reducible refine wp_notV.mpr ?_ | with_reducible refine wp_if.mpr ?_ | with_reducible refine wp_nil.mpr ?_ | with_reducible refine wp_cons.mpr ?_ | with_reducible refine wp_tup.mpr ?_ | with_reducible refine wp_lst.mpr ?_ | with_reducible refine wp_call.mpr ?_ | with_reducible refine wp_isi.mpr ?_ | with_reducible refine wp_isiT.mpr ?_ | with_reducible refine wp_part.mpr ?_ | with_reducible refine wp_sl.mpr ?_ | with_reducible refine wp_callF.mpr ?_ | with_reducible refine wp_callK.mpr ?_ | with_reducible refine wp_pure.mpr ?_ | with_reducible refine wp_put.mpr ?_ | with_reducible refine wp_rng1.mpr ?_ | with_reducible refine wp_rng2.mpr ?_ | with_reducible refine wp_itA.mpr ?_ | with_reducible refine wp_tname.mpr ?_ | ((with_reducible apply wp_dat); exact rfl) | ((with_reducible apply wp_ixN2); exact rfl) | refine yes ?_ | refine no ?_ | refine And.intro (Nat.le_of_ble_eq_true rfl) ?_ | refine And.intro (sz (Nat.le_of_ble_eq_true rfl)) ?_ | refine Exists.intro _ (And.intro (gEq_int _ _) ?_) | ((with_reducible apply ex_and); exact rfl) | ((with_reducible apply ex_bool); exact rfl) | ((with_reducible apply ex_int); exact rfl) | ((with_reducible refine And.intro ?_ ?_); exact rfl) | fail))); exact q
    | bool b =>
      (repeat' (first | with_reducible refine ex_and (gEq_b _ _) ?_ | with_reducible refine wp_seq.mpr ?_ | with_reducible refine wp_ret.mpr ?_ | with_reducible refine wp_retN.mpr ?_ | with_reducible refine wp_skip.mpr ?_ | with_reducible refine wp_brk.mpr ?_ | with_reducible refine wp_cnt.mpr ?_ | with_reducible refine wp_ifS.mpr ?_ | with_reducible refine wp_drop.mpr ?_ | with_reducible refine wp_set.mpr ?_ | with_reducible refine wp_par.mpr ?_ | with_reducible refine wp_setIx.mpr ?_ | with_reducible refine wp_forS.mpr ?_ | with_reducible refine wp_op.mpr ?_ | with_reducible refine wp_neg.mpr ?_ | with_reducible refine wp_is.mpr ?_ | with_reducible refine wp_isnt.mpr ?_ | with_reducible refine wp_tru.mpr ?_ | with_reducible refine wp_tst.mpr ?_ | with_reducible refine wp_and.mpr ?_ | with_reducible refine wp_or.mpr ?_ | with_reducible refine wp_not.mpr ?_ | with_reducible refine wp_andV.mpr ?_ | with_reducible refine wp_orV.mpr ?_ | with_reducible refine wp_notV.mpr ?_ | with_reducible refine wp_if.mpr ?_ | with_reducible refine wp_nil.mpr ?_ | with_reducible refine wp_cons.mpr ?_ | with_reducible refine wp_tup.mpr ?_ | with_reducible refine wp_lst.mpr ?_ | with_reducible refine wp_call.mpr ?_ | with_reducible refine wp_isi.mpr ?_ | with_reducible refine wp_isiT.mpr ?_ | with_reducible refine wp_part.mpr ?_ | with_reducible refine wp_sl.mpr ?_ | with_reducible refine wp_callF.mpr ?_ | with_reducible refine wp_callK.mpr ?_ | with_reducible refine wp_pure.mpr ?_ | with_reducible refine wp_put.mpr ?_ | with_reducible refine wp_rng1.mpr ?_ | with_reducible refine wp_rng2.mpr ?_ | with_reducible refine wp_itA.mpr ?_ | with_reducible refine wp_tname.mpr ?_ | ((with_reducible apply wp_dat); exact rfl) | ((with_reducible apply wp_ixN2); exact rfl) | refine yes ?_ | refine no ?_ | refine And.intro (Nat.le_of_ble_eq_true rfl) ?_ | refine And.intro (sz (Nat.le_of_ble_eq_true rfl)) ?_ | refine Exists.intro _ (And.intro (gEq_int _ _) ?_) | ((with_reducible apply ex_and); exact rfl) | ((with_reducible apply ex_bool); exact rfl) | ((with_reducible apply ex_int); exact rfl) | ((with_reducible refine And.intro ?_ ?_); exact rfl) | fail))
      rw [show (b == b) = true from by simp]
      exact q
    | int i =>
      (repeat' (first | with_reducible refine wp_seq.mpr ?_ | with_reducible refine wp_ret.mpr ?_ | with_reducible refine wp_retN.mpr ?_ | with_reducible refine wp_skip.mpr ?_ | with_reducible refine wp_brk.mpr ?_ | with_reducible refine wp_cnt.mpr ?_ | with_reducible refine wp_ifS.mpr ?_ | with_reducible refine wp_drop.mpr ?_ | with_reducible refine wp_set.mpr ?_ | with_reducible refine wp_par.mpr ?_ | with_reducible refine wp_setIx.mpr ?_ | with_reducible refine wp_forS.mpr ?_ | with_reducible refine wp_op.mpr ?_ | with_reducible refine wp_neg.mpr ?_ | with_reducible refine wp_is.mpr ?_ | with_reducible refine wp_isnt.mpr ?_ | with_reducible refine wp_tru.mpr ?_ | with_reducible refine wp_tst.mpr ?_ | with_reducible refine wp_and.mpr ?_ | with_reducible refine wp_or.mpr ?_ | with_reducible refine wp_not.mpr ?_ | with_reducible refine wp_andV.mpr ?_ | with_reducible refine wp_orV.mpr ?_ | with_reducible refine wp_notV.mpr ?_ | with_reducible refine wp_if.mpr ?_ | with_reducible refine wp_nil.mpr ?_ | with_reducible refine wp_cons.mpr ?_ | with_reducible refine wp_tup.mpr ?_ | with_reducible refine wp_lst.mpr ?_ | with_reducible refine wp_call.mpr ?_ | with_reducible refine wp_isi.mpr ?_ | with_reducible refine wp_isiT.mpr ?_ | with_reducible refine wp_part.mpr ?_ | with_reducible refine wp_sl.mpr ?_ | with_reducible refine wp_callF.mpr ?_ | with_reducible refine wp_callK.mpr ?_ | with_reducible refine wp_pure.mpr ?_ | with_reducible refine wp_put.mpr ?_ | with_reducible refine wp_rng1.mpr ?_ | with_reducible refine wp_rng2.mpr ?_ | with_reducible refine wp_itA.mpr ?_ | with_reducible refine wp_tname.mpr ?_ | ((with_reducible apply wp_dat); exact rfl) | ((with_reducible apply wp_ixN2); exact rfl) | refine yes ?_ | refine no ?_ | refine And.intro (Nat.le_of_ble_eq_true rfl) ?_ | refine And.intro (sz (Nat.le_of_ble_eq_true rfl)) ?_ | refine Exists.intro _ (And.intro (gEq_int _ _) ?_) | ((with_reducible apply ex_and); exact rfl) | ((with_reducible apply ex_bool); exact rfl) | ((with_reducible apply ex_int); exact rfl) | ((with_reducible refine And.intro ?_ ?_); exact rfl) | fail))
      rw [show (i == i) = true from by simp]
      exact q
    | str x =>
      replace h : PyData.strOk x = true := h
      (repeat' (first | with_reducible refine ex_and (gEq_s x h) ?_ | with_reducible refine wp_seq.mpr ?_ | with_reducible refine wp_ret.mpr ?_ | with_reducible refine wp_retN.mpr ?_ | with_reducible refine wp_skip.mpr ?_ | with_reducible refine wp_brk.mpr ?_ | with_reducible refine wp_cnt.mpr ?_ | with_reducible refine wp_ifS.mpr ?_ | with_reducible refine wp_drop.mpr ?_ | with_reducible refine wp_set.mpr ?_ | with_reducible refine wp_par.mpr ?_ | with_reducible refine wp_setIx.mpr ?_ | with_reducible refine wp_forS.mpr ?_ | with_reducible refine wp_op.mpr ?_ | with_reducible refine wp_neg.mpr ?_ | with_reducible refine wp_is.mpr ?_ | with_reducible refine wp_isnt.mpr ?_ | with_reducible refine wp_tru.mpr ?_ | with_reducible refine wp_tst.mpr ?_ | with_reducible refine wp_and.mpr ?_ | with_reducible refine wp_or.mpr ?_ | with_reducible refine wp_not.mpr ?_ | with_reducible refine wp_andV.mpr ?_ | with_reducible refine wp_orV.mpr ?_ | with_reducible refine wp_notV.mpr ?_ | with_reducible refine wp_if.mpr ?_ | with_reducible refine wp_nil.mpr ?_ | with_reducible refine wp_cons.mpr ?_ | with_reducible refine wp_tup.mpr ?_ | with_reducible refine wp_lst.mpr ?_ | with_reducible refine wp_call.mpr ?_ | with_reducible refine wp_isi.mpr ?_ | with_reducible refine wp_isiT.mpr ?_ | with_reducible refine wp_part.mpr ?_ | with_reducible refine wp_sl.mpr ?_ | with_reducible refine wp_callF.mpr ?_ | with_reducible refine wp_callK.mpr ?_ | with_reducible refine wp_pure.mpr ?_ | with_reducible refine wp_put.mpr ?_ | with_reducible refine wp_rng1.mpr ?_ | with_reducible refine wp_rng2.mpr ?_ | with_reducible refine wp_itA.mpr ?_ | with_reducible refine wp_tname.mpr ?_ | ((with_reducible apply wp_dat); exact rfl) | ((with_reducible apply wp_ixN2); exact rfl) | refine yes ?_ | refine no ?_ | refine And.intro (Nat.le_of_ble_eq_true rfl) ?_ | refine And.intro (sz (Nat.le_of_ble_eq_true rfl)) ?_ | refine Exists.intro _ (And.intro (gEq_int _ _) ?_) | ((with_reducible apply ex_and); exact rfl) | ((with_reducible apply ex_bool); exact rfl) | ((with_reducible apply ex_int); exact rfl) | ((with_reducible refine And.intro ?_ ?_); exact rfl) | fail))
      exact q
  | succ m ih =>
    intro d h hd Q q
    apply gv_run
    show Wp (fb__law_same (g__law_same (m + 1))) _ _
    unfold fb__law_same
    cases d with
    | dict _ => cases h
    | none => ((repeat' (first | with_reducible refine wp_seq.mpr ?_ | with_reducible refine wp_ret.mpr ?_ | with_reducible refine wp_retN.mpr ?_ | with_reducible refine wp_skip.mpr ?_ | with_reducible refine wp_brk.mpr ?_ | with_reducible refine wp_cnt.mpr ?_ | with_reducible refine wp_ifS.mpr ?_ | with_reducible refine wp_drop.mpr ?_ | with_reducible refine wp_set.mpr ?_ | with_reducible refine wp_par.mpr ?_ | with_reducible refine wp_setIx.mpr ?_ | with_reducible refine wp_forS.mpr ?_ | with_reducible refine wp_op.mpr ?_ | with_reducible refine wp_neg.mpr ?_ | with_reducible refine wp_is.mpr ?_ | with_reducible refine wp_isnt.mpr ?_ | with_reducible refine wp_tru.mpr ?_ | with_reducible refine wp_tst.mpr ?_ | with_reducible refine wp_and.mpr ?_ | with_reducible refine wp_or.mpr ?_ | with_reducible refine wp_not.mpr ?_ | with_reducible refine wp_andV.mpr ?_ | with_reducible refine wp_orV.mpr ?_ | with_reducible refine wp_notV.mpr ?_ | with_reducible refine wp_if.mpr ?_ | with_reducible refine wp_nil.mpr ?_ | with_reducible refine wp_cons.mpr ?_ | with_reducible refine wp_tup.mpr ?_ | with_reducible refine wp_lst.mpr ?_ | with_reducible refine wp_call.mpr ?_ | with_reducible refine wp_isi.mpr ?_ | with_reducible refine wp_isiT.mpr ?_ | with_reducible refine wp_part.mpr ?_ | with_reducible refine wp_sl.mpr ?_ | with_reducible refine wp_callF.mpr ?_ | with_reducible refine wp_callK.mpr ?_ | with_reducible refine wp_pure.mpr ?_ | with_reducible refine wp_put.mpr ?_ | with_reducible refine wp_rng1.mpr ?_ | with_reducible refine wp_rng2.mpr ?_ | with_reducible refine wp_itA.mpr ?_ | with_reducible refine wp_tname.mpr ?_ | ((with_reducible apply wp_dat); exact rfl) | ((with_reducible apply wp_ixN2); exact rfl) | refine yes ?_ | refine no ?_ | refine And.intro (Nat.le_of_ble_eq_true rfl) ?_ | refine And.intro (sz (Nat.le_of_ble_eq_true rfl)) ?_ | refine Exists.intro _ (And.intro (gEq_int _ _) ?_) | ((with_reducible apply ex_and); exact rfl) | ((with_reducible apply ex_bool); exact rfl) | ((with_reducible apply ex_int); exact rfl) | ((with_reducible refine And.intro ?_ ?_); exact rfl) | fail))); exact q
    | bool b =>
      (repeat' (first | with_reducible refine ex_and (gEq_b _ _) ?_ | with_reducible refine wp_seq.mpr ?_ | with_reducible refine wp_ret.mpr ?_ | with_reducible refine wp_retN.mpr ?_ | with_reducible refine wp_skip.mpr ?_ | with_reducible refine wp_brk.mpr ?_ | with_reducible refine wp_cnt.mpr ?_ | with_reducible refine wp_ifS.mpr ?_ | with_reducible refine wp_drop.mpr ?_ | with_reducible refine wp_set.mpr ?_ | with_reducible refine wp_par.mpr ?_ | with_reducible refine wp_setIx.mpr ?_ | with_reducible refine wp_forS.mpr ?_ | with_reducible refine wp_op.mpr ?_ | with_reducible refine wp_neg.mpr ?_ | with_reducible refine wp_is.mpr ?_ | with_reducible refine wp_isnt.mpr ?_ | with_reducible refine wp_tru.mpr ?_ | with_reducible refine wp_tst.mpr ?_ | with_reducible refine wp_and.mpr ?_ | with_reducible refine wp_or.mpr ?_ | with_reducible refine wp_not.mpr ?_ | with_reducible refine wp_andV.mpr ?_ | with_reducible refine wp_orV.mpr ?_ | with_reducible refine wp_notV.mpr ?_ | with_reducible refine wp_if.mpr ?_ | with_reducible refine wp_nil.mpr ?_ | with_reducible refine wp_cons.mpr ?_ | with_reducible refine wp_tup.mpr ?_ | with_reducible refine wp_lst.mpr ?_ | with_reducible refine wp_call.mpr ?_ | with_reducible refine wp_isi.mpr ?_ | with_reducible refine wp_isiT.mpr ?_ | with_reducible refine wp_part.mpr ?_ | with_reducible refine wp_sl.mpr ?_ | with_reducible refine wp_callF.mpr ?_ | with_reducible refine wp_callK.mpr ?_ | with_reducible refine wp_pure.mpr ?_ | with_reducible refine wp_put.mpr ?_ | with_reducible refine wp_rng1.mpr ?_ | with_reducible refine wp_rng2.mpr ?_ | with_reducible refine wp_itA.mpr ?_ | with_reducible refine wp_tname.mpr ?_ | ((with_reducible apply wp_dat); exact rfl) | ((with_reducible apply wp_ixN2); exact rfl) | refine yes ?_ | refine no ?_ | refine And.intro (Nat.le_of_ble_eq_true rfl) ?_ | refine And.intro (sz (Nat.le_of_ble_eq_true rfl)) ?_ | refine Exists.intro _ (And.intro (gEq_int _ _) ?_) | ((with_reducible apply ex_and); exact rfl) | ((with_reducible apply ex_bool); exact rfl) | ((with_reducible apply ex_int); exact rfl) | ((with_reducible refine And.intro ?_ ?_); exact rfl) | fail))
      rw [show (b == b) = true from by simp]
      exact q
    | int i =>
      (repeat' (first | with_reducible refine wp_seq.mpr ?_ | with_reducible refine wp_ret.mpr ?_ | with_reducible refine wp_retN.mpr ?_ | with_reducible refine wp_skip.mpr ?_ | with_reducible refine wp_brk.mpr ?_ | with_reducible refine wp_cnt.mpr ?_ | with_reducible refine wp_ifS.mpr ?_ | with_reducible refine wp_drop.mpr ?_ | with_reducible refine wp_set.mpr ?_ | with_reducible refine wp_par.mpr ?_ | with_reducible refine wp_setIx.mpr ?_ | with_reducible refine wp_forS.mpr ?_ | with_reducible refine wp_op.mpr ?_ | with_reducible refine wp_neg.mpr ?_ | with_reducible refine wp_is.mpr ?_ | with_reducible refine wp_isnt.mpr ?_ | with_reducible refine wp_tru.mpr ?_ | with_reducible refine wp_tst.mpr ?_ | with_reducible refine wp_and.mpr ?_ | with_reducible refine wp_or.mpr ?_ | with_reducible refine wp_not.mpr ?_ | with_reducible refine wp_andV.mpr ?_ | with_reducible refine wp_orV.mpr ?_ | with_reducible refine wp_notV.mpr ?_ | with_reducible refine wp_if.mpr ?_ | with_reducible refine wp_nil.mpr ?_ | with_reducible refine wp_cons.mpr ?_ | with_reducible refine wp_tup.mpr ?_ | with_reducible refine wp_lst.mpr ?_ | with_reducible refine wp_call.mpr ?_ | with_reducible refine wp_isi.mpr ?_ | with_reducible refine wp_isiT.mpr ?_ | with_reducible refine wp_part.mpr ?_ | with_reducible refine wp_sl.mpr ?_ | with_reducible refine wp_callF.mpr ?_ | with_reducible refine wp_callK.mpr ?_ | with_reducible refine wp_pure.mpr ?_ | with_reducible refine wp_put.mpr ?_ | with_reducible refine wp_rng1.mpr ?_ | with_reducible refine wp_rng2.mpr ?_ | with_reducible refine wp_itA.mpr ?_ | with_reducible refine wp_tname.mpr ?_ | ((with_reducible apply wp_dat); exact rfl) | ((with_reducible apply wp_ixN2); exact rfl) | refine yes ?_ | refine no ?_ | refine And.intro (Nat.le_of_ble_eq_true rfl) ?_ | refine And.intro (sz (Nat.le_of_ble_eq_true rfl)) ?_ | refine Exists.intro _ (And.intro (gEq_int _ _) ?_) | ((with_reducible apply ex_and); exact rfl) | ((with_reducible apply ex_bool); exact rfl) | ((with_reducible apply ex_int); exact rfl) | ((with_reducible refine And.intro ?_ ?_); exact rfl) | fail))
      rw [show (i == i) = true from by simp]
      exact q
    | str x =>
      replace h : PyData.strOk x = true := h
      (repeat' (first | with_reducible refine ex_and (gEq_s x h) ?_ | with_reducible refine wp_seq.mpr ?_ | with_reducible refine wp_ret.mpr ?_ | with_reducible refine wp_retN.mpr ?_ | with_reducible refine wp_skip.mpr ?_ | with_reducible refine wp_brk.mpr ?_ | with_reducible refine wp_cnt.mpr ?_ | with_reducible refine wp_ifS.mpr ?_ | with_reducible refine wp_drop.mpr ?_ | with_reducible refine wp_set.mpr ?_ | with_reducible refine wp_par.mpr ?_ | with_reducible refine wp_setIx.mpr ?_ | with_reducible refine wp_forS.mpr ?_ | with_reducible refine wp_op.mpr ?_ | with_reducible refine wp_neg.mpr ?_ | with_reducible refine wp_is.mpr ?_ | with_reducible refine wp_isnt.mpr ?_ | with_reducible refine wp_tru.mpr ?_ | with_reducible refine wp_tst.mpr ?_ | with_reducible refine wp_and.mpr ?_ | with_reducible refine wp_or.mpr ?_ | with_reducible refine wp_not.mpr ?_ | with_reducible refine wp_andV.mpr ?_ | with_reducible refine wp_orV.mpr ?_ | with_reducible refine wp_notV.mpr ?_ | with_reducible refine wp_if.mpr ?_ | with_reducible refine wp_nil.mpr ?_ | with_reducible refine wp_cons.mpr ?_ | with_reducible refine wp_tup.mpr ?_ | with_reducible refine wp_lst.mpr ?_ | with_reducible refine wp_call.mpr ?_ | with_reducible refine wp_isi.mpr ?_ | with_reducible refine wp_isiT.mpr ?_ | with_reducible refine wp_part.mpr ?_ | with_reducible refine wp_sl.mpr ?_ | with_reducible refine wp_callF.mpr ?_ | with_reducible refine wp_callK.mpr ?_ | with_reducible refine wp_pure.mpr ?_ | with_reducible refine wp_put.mpr ?_ | with_reducible refine wp_rng1.mpr ?_ | with_reducible refine wp_rng2.mpr ?_ | with_reducible refine wp_itA.mpr ?_ | with_reducible refine wp_tname.mpr ?_ | ((with_reducible apply wp_dat); exact rfl) | ((with_reducible apply wp_ixN2); exact rfl) | refine yes ?_ | refine no ?_ | refine And.intro (Nat.le_of_ble_eq_true rfl) ?_ | refine And.intro (sz (Nat.le_of_ble_eq_true rfl)) ?_ | refine Exists.intro _ (And.intro (gEq_int _ _) ?_) | ((with_reducible apply ex_and); exact rfl) | ((with_reducible apply ex_bool); exact rfl) | ((with_reducible apply ex_int); exact rfl) | ((with_reducible refine And.intro ?_ ?_); exact rfl) | fail))
      exact q
    | list xs =>
      unfold sml at h
      obtain ⟨h1, h2⟩ := Bool.and_eq_true_iff.mp h
      have h1 := of_decide_eq_true h1
      have hf : ∀ (j : Nat) (d : D), xs[j]? = some d → Gv (g__law_same (m + 1)) [.dat d, .dat d] fun r _ => r = .bool true := fun j d e => ih d (smlAll_at h2 e) (by
        have := depthAll_at e
        unfold PyData.depth at hd
        omega) rfl
      (repeat' (first | with_reducible refine ex_and (gNe_b _ _) ?_ | with_reducible refine wp_seq.mpr ?_ | with_reducible refine wp_ret.mpr ?_ | with_reducible refine wp_retN.mpr ?_ | with_reducible refine wp_skip.mpr ?_ | with_reducible refine wp_brk.mpr ?_ | with_reducible refine wp_cnt.mpr ?_ | with_reducible refine wp_ifS.mpr ?_ | with_reducible refine wp_drop.mpr ?_ | with_reducible refine wp_set.mpr ?_ | with_reducible refine wp_par.mpr ?_ | with_reducible refine wp_setIx.mpr ?_ | with_reducible refine wp_forS.mpr ?_ | with_reducible refine wp_op.mpr ?_ | with_reducible refine wp_neg.mpr ?_ | with_reducible refine wp_is.mpr ?_ | with_reducible refine wp_isnt.mpr ?_ | with_reducible refine wp_tru.mpr ?_ | with_reducible refine wp_tst.mpr ?_ | with_reducible refine wp_and.mpr ?_ | with_reducible refine wp_or.mpr ?_ | with_reducible refine wp_not.mpr ?_ | with_reducible refine wp_andV.mpr ?_ | with_reducible refine wp_orV.mpr ?_ | with_reducible refine wp_notV.mpr ?_ | with_reducible refine wp_if.mpr ?_ | with_reducible refine wp_nil.mpr ?_ | with_reducible refine wp_cons.mpr ?_ | with_reducible refine wp_tup.mpr ?_ | with_reducible refine wp_lst.mpr ?_ | with_reducible refine wp_call.mpr ?_ | with_reducible refine wp_isi.mpr ?_ | with_reducible refine wp_isiT.mpr ?_ | with_reducible refine wp_part.mpr ?_ | with_reducible refine wp_sl.mpr ?_ | with_reducible refine wp_callF.mpr ?_ | with_reducible refine wp_callK.mpr ?_ | with_reducible refine wp_pure.mpr ?_ | with_reducible refine wp_put.mpr ?_ | with_reducible refine wp_rng1.mpr ?_ | with_reducible refine wp_rng2.mpr ?_ | with_reducible refine wp_itA.mpr ?_ | with_reducible refine wp_tname.mpr ?_ | ((with_reducible apply wp_dat); exact rfl) | ((with_reducible apply wp_ixN2); exact rfl) | refine yes ?_ | refine no ?_ | refine And.intro (Nat.le_of_ble_eq_true rfl) ?_ | refine And.intro (sz (Nat.le_of_ble_eq_true rfl)) ?_ | refine Exists.intro _ (And.intro (gEq_int _ _) ?_) | ((with_reducible apply ex_and); exact rfl) | ((with_reducible apply ex_bool); exact rfl) | ((with_reducible apply ex_int); exact rfl) | ((with_reducible refine And.intro ?_ ?_); exact rfl) | fail))
      rw [show ((xs.length : Int) == xs.length) = true from by simp]
      (repeat' (first | with_reducible refine wp_seq.mpr ?_ | with_reducible refine wp_ret.mpr ?_ | with_reducible refine wp_retN.mpr ?_ | with_reducible refine wp_skip.mpr ?_ | with_reducible refine wp_brk.mpr ?_ | with_reducible refine wp_cnt.mpr ?_ | with_reducible refine wp_ifS.mpr ?_ | with_reducible refine wp_drop.mpr ?_ | with_reducible refine wp_set.mpr ?_ | with_reducible refine wp_par.mpr ?_ | with_reducible refine wp_setIx.mpr ?_ | with_reducible refine wp_forS.mpr ?_ | with_reducible refine wp_op.mpr ?_ | with_reducible refine wp_neg.mpr ?_ | with_reducible refine wp_is.mpr ?_ | with_reducible refine wp_isnt.mpr ?_ | with_reducible refine wp_tru.mpr ?_ | with_reducible refine wp_tst.mpr ?_ | with_reducible refine wp_and.mpr ?_ | with_reducible refine wp_or.mpr ?_ | with_reducible refine wp_not.mpr ?_ | with_reducible refine wp_andV.mpr ?_ | with_reducible refine wp_orV.mpr ?_ | with_reducible refine wp_notV.mpr ?_ | with_reducible refine wp_if.mpr ?_ | with_reducible refine wp_nil.mpr ?_ | with_reducible refine wp_cons.mpr ?_ | with_reducible refine wp_tup.mpr ?_ | with_reducible refine wp_lst.mpr ?_ | with_reducible refine wp_call.mpr ?_ | with_reducible refine wp_isi.mpr ?_ | with_reducible refine wp_isiT.mpr ?_ | with_reducible refine wp_part.mpr ?_ | with_reducible refine wp_sl.mpr ?_ | with_reducible refine wp_callF.mpr ?_ | with_reducible refine wp_callK.mpr ?_ | with_reducible refine wp_pure.mpr ?_ | with_reducible refine wp_put.mpr ?_ | with_reducible refine wp_rng1.mpr ?_ | with_reducible refine wp_rng2.mpr ?_ | with_reducible refine wp_itA.mpr ?_ | with_reducible refine wp_tname.mpr ?_ | ((with_reducible apply wp_dat); exact rfl) | ((with_reducible apply wp_ixN2); exact rfl) | refine yes ?_ | refine no ?_ | refine And.intro (Nat.le_of_ble_eq_true rfl) ?_ | refine And.intro (sz (Nat.le_of_ble_eq_true rfl)) ?_ | refine Exists.intro _ (And.intro (gEq_int _ _) ?_) | ((with_reducible apply ex_and); exact rfl) | ((with_reducible apply ex_bool); exact rfl) | ((with_reducible apply ex_int); exact rfl) | ((with_reducible refine And.intro ?_ ?_); exact rfl) | fail))
      refine same_lc _ xs _ ?_ h1 ?_ hf ?_
      · (repeat' (first | with_reducible refine ex_and (grng1_len h1) ?_ | with_reducible refine wp_seq.mpr ?_ | with_reducible refine wp_ret.mpr ?_ | with_reducible refine wp_retN.mpr ?_ | with_reducible refine wp_skip.mpr ?_ | with_reducible refine wp_brk.mpr ?_ | with_reducible refine wp_cnt.mpr ?_ | with_reducible refine wp_ifS.mpr ?_ | with_reducible refine wp_drop.mpr ?_ | with_reducible refine wp_set.mpr ?_ | with_reducible refine wp_par.mpr ?_ | with_reducible refine wp_setIx.mpr ?_ | with_reducible refine wp_forS.mpr ?_ | with_reducible refine wp_op.mpr ?_ | with_reducible refine wp_neg.mpr ?_ | with_reducible refine wp_is.mpr ?_ | with_reducible refine wp_isnt.mpr ?_ | with_reducible refine wp_tru.mpr ?_ | with_reducible refine wp_tst.mpr ?_ | with_reducible refine wp_and.mpr ?_ | with_reducible refine wp_or.mpr ?_ | with_reducible refine wp_not.mpr ?_ | with_reducible refine wp_andV.mpr ?_ | with_reducible refine wp_orV.mpr ?_ | with_reducible refine wp_notV.mpr ?_ | with_reducible refine wp_if.mpr ?_ | with_reducible refine wp_nil.mpr ?_ | with_reducible refine wp_cons.mpr ?_ | with_reducible refine wp_tup.mpr ?_ | with_reducible refine wp_lst.mpr ?_ | with_reducible refine wp_call.mpr ?_ | with_reducible refine wp_isi.mpr ?_ | with_reducible refine wp_isiT.mpr ?_ | with_reducible refine wp_part.mpr ?_ | with_reducible refine wp_sl.mpr ?_ | with_reducible refine wp_callF.mpr ?_ | with_reducible refine wp_callK.mpr ?_ | with_reducible refine wp_pure.mpr ?_ | with_reducible refine wp_put.mpr ?_ | with_reducible refine wp_rng1.mpr ?_ | with_reducible refine wp_rng2.mpr ?_ | with_reducible refine wp_itA.mpr ?_ | with_reducible refine wp_tname.mpr ?_ | ((with_reducible apply wp_dat); exact rfl) | ((with_reducible apply wp_ixN2); exact rfl) | refine yes ?_ | refine no ?_ | refine And.intro (Nat.le_of_ble_eq_true rfl) ?_ | refine And.intro (sz (Nat.le_of_ble_eq_true rfl)) ?_ | refine Exists.intro _ (And.intro (gEq_int _ _) ?_) | ((with_reducible apply ex_and); exact rfl) | ((with_reducible apply ex_bool); exact rfl) | ((with_reducible apply ex_int); exact rfl) | ((with_reducible refine And.intro ?_ ?_); exact rfl) | fail))
        rfl
      · intro j d e
        exact atI_n e
      · (repeat' (first | with_reducible refine ex_and (gAll_true _) ?_ | with_reducible refine wp_seq.mpr ?_ | with_reducible refine wp_ret.mpr ?_ | with_reducible refine wp_retN.mpr ?_ | with_reducible refine wp_skip.mpr ?_ | with_reducible refine wp_brk.mpr ?_ | with_reducible refine wp_cnt.mpr ?_ | with_reducible refine wp_ifS.mpr ?_ | with_reducible refine wp_drop.mpr ?_ | with_reducible refine wp_set.mpr ?_ | with_reducible refine wp_par.mpr ?_ | with_reducible refine wp_setIx.mpr ?_ | with_reducible refine wp_forS.mpr ?_ | with_reducible refine wp_op.mpr ?_ | with_reducible refine wp_neg.mpr ?_ | with_reducible refine wp_is.mpr ?_ | with_reducible refine wp_isnt.mpr ?_ | with_reducible refine wp_tru.mpr ?_ | with_reducible refine wp_tst.mpr ?_ | with_reducible refine wp_and.mpr ?_ | with_reducible refine wp_or.mpr ?_ | with_reducible refine wp_not.mpr ?_ | with_reducible refine wp_andV.mpr ?_ | with_reducible refine wp_orV.mpr ?_ | with_reducible refine wp_notV.mpr ?_ | with_reducible refine wp_if.mpr ?_ | with_reducible refine wp_nil.mpr ?_ | with_reducible refine wp_cons.mpr ?_ | with_reducible refine wp_tup.mpr ?_ | with_reducible refine wp_lst.mpr ?_ | with_reducible refine wp_call.mpr ?_ | with_reducible refine wp_isi.mpr ?_ | with_reducible refine wp_isiT.mpr ?_ | with_reducible refine wp_part.mpr ?_ | with_reducible refine wp_sl.mpr ?_ | with_reducible refine wp_callF.mpr ?_ | with_reducible refine wp_callK.mpr ?_ | with_reducible refine wp_pure.mpr ?_ | with_reducible refine wp_put.mpr ?_ | with_reducible refine wp_rng1.mpr ?_ | with_reducible refine wp_rng2.mpr ?_ | with_reducible refine wp_itA.mpr ?_ | with_reducible refine wp_tname.mpr ?_ | ((with_reducible apply wp_dat); exact rfl) | ((with_reducible apply wp_ixN2); exact rfl) | refine yes ?_ | refine no ?_ | refine And.intro (Nat.le_of_ble_eq_true rfl) ?_ | refine And.intro (sz (Nat.le_of_ble_eq_true rfl)) ?_ | refine Exists.intro _ (And.intro (gEq_int _ _) ?_) | ((with_reducible apply ex_and); exact rfl) | ((with_reducible apply ex_bool); exact rfl) | ((with_reducible apply ex_int); exact rfl) | ((with_reducible refine And.intro ?_ ?_); exact rfl) | fail))
        exact q
    | tuple xs =>
      unfold sml at h
      obtain ⟨h1, h2⟩ := Bool.and_eq_true_iff.mp h
      have h1 := of_decide_eq_true h1
      have hf : ∀ (j : Nat) (d : D), xs[j]? = some d → Gv (g__law_same (m + 1)) [.dat d, .dat d] fun r _ => r = .bool true := fun j d e => ih d (smlAll_at h2 e) (by
        have := depthAll_at e
        unfold PyData.depth at hd
        omega) rfl
      (repeat' (first | with_reducible refine ex_and (gNe_b _ _) ?_ | with_reducible refine wp_seq.mpr ?_ | with_reducible refine wp_ret.mpr ?_ | with_reducible refine wp_retN.mpr ?_ | with_reducible refine wp_skip.mpr ?_ | with_reducible refine wp_brk.mpr ?_ | with_reducible refine wp_cnt.mpr ?_ | with_reducible refine wp_ifS.mpr ?_ | with_reducible refine wp_drop.mpr ?_ | with_reducible refine wp_set.mpr ?_ | with_reducible refine wp_par.mpr ?_ | with_reducible refine wp_setIx.mpr ?_ | with_reducible refine wp_forS.mpr ?_ | with_reducible refine wp_op.mpr ?_ | with_reducible refine wp_neg.mpr ?_ | with_reducible refine wp_is.mpr ?_ | with_reducible refine wp_isnt.mpr ?_ | with_reducible refine wp_tru.mpr ?_ | with_reducible refine wp_tst.mpr ?_ | with_reducible refine wp_and.mpr ?_ | with_reducible refine wp_or.mpr ?_ | with_reducible refine wp_not.mpr ?_ | with_reducible refine wp_andV.mpr ?_ | with_reducible refine wp_orV.mpr ?_ | with_reducible refine wp_notV.mpr ?_ | with_reducible refine wp_if.mpr ?_ | with_reducible refine wp_nil.mpr ?_ | with_reducible refine wp_cons.mpr ?_ | with_reducible refine wp_tup.mpr ?_ | with_reducible refine wp_lst.mpr ?_ | with_reducible refine wp_call.mpr ?_ | with_reducible refine wp_isi.mpr ?_ | with_reducible refine wp_isiT.mpr ?_ | with_reducible refine wp_part.mpr ?_ | with_reducible refine wp_sl.mpr ?_ | with_reducible refine wp_callF.mpr ?_ | with_reducible refine wp_callK.mpr ?_ | with_reducible refine wp_pure.mpr ?_ | with_reducible refine wp_put.mpr ?_ | with_reducible refine wp_rng1.mpr ?_ | with_reducible refine wp_rng2.mpr ?_ | with_reducible refine wp_itA.mpr ?_ | with_reducible refine wp_tname.mpr ?_ | ((with_reducible apply wp_dat); exact rfl) | ((with_reducible apply wp_ixN2); exact rfl) | refine yes ?_ | refine no ?_ | refine And.intro (Nat.le_of_ble_eq_true rfl) ?_ | refine And.intro (sz (Nat.le_of_ble_eq_true rfl)) ?_ | refine Exists.intro _ (And.intro (gEq_int _ _) ?_) | ((with_reducible apply ex_and); exact rfl) | ((with_reducible apply ex_bool); exact rfl) | ((with_reducible apply ex_int); exact rfl) | ((with_reducible refine And.intro ?_ ?_); exact rfl) | fail))
      rw [show ((xs.length : Int) == xs.length) = true from by simp]
      (repeat' (first | with_reducible refine wp_seq.mpr ?_ | with_reducible refine wp_ret.mpr ?_ | with_reducible refine wp_retN.mpr ?_ | with_reducible refine wp_skip.mpr ?_ | with_reducible refine wp_brk.mpr ?_ | with_reducible refine wp_cnt.mpr ?_ | with_reducible refine wp_ifS.mpr ?_ | with_reducible refine wp_drop.mpr ?_ | with_reducible refine wp_set.mpr ?_ | with_reducible refine wp_par.mpr ?_ | with_reducible refine wp_setIx.mpr ?_ | with_reducible refine wp_forS.mpr ?_ | with_reducible refine wp_op.mpr ?_ | with_reducible refine wp_neg.mpr ?_ | with_reducible refine wp_is.mpr ?_ | with_reducible refine wp_isnt.mpr ?_ | with_reducible refine wp_tru.mpr ?_ | with_reducible refine wp_tst.mpr ?_ | with_reducible refine wp_and.mpr ?_ | with_reducible refine wp_or.mpr ?_ | with_reducible refine wp_not.mpr ?_ | with_reducible refine wp_andV.mpr ?_ | with_reducible refine wp_orV.mpr ?_ | with_reducible refine wp_notV.mpr ?_ | with_reducible refine wp_if.mpr ?_ | with_reducible refine wp_nil.mpr ?_ | with_reducible refine wp_cons.mpr ?_ | with_reducible refine wp_tup.mpr ?_ | with_reducible refine wp_lst.mpr ?_ | with_reducible refine wp_call.mpr ?_ | with_reducible refine wp_isi.mpr ?_ | with_reducible refine wp_isiT.mpr ?_ | with_reducible refine wp_part.mpr ?_ | with_reducible refine wp_sl.mpr ?_ | with_reducible refine wp_callF.mpr ?_ | with_reducible refine wp_callK.mpr ?_ | with_reducible refine wp_pure.mpr ?_ | with_reducible refine wp_put.mpr ?_ | with_reducible refine wp_rng1.mpr ?_ | with_reducible refine wp_rng2.mpr ?_ | with_reducible refine wp_itA.mpr ?_ | with_reducible refine wp_tname.mpr ?_ | ((with_reducible apply wp_dat); exact rfl) | ((with_reducible apply wp_ixN2); exact rfl) | refine yes ?_ | refine no ?_ | refine And.intro (Nat.le_of_ble_eq_true rfl) ?_ | refine And.intro (sz (Nat.le_of_ble_eq_true rfl)) ?_ | refine Exists.intro _ (And.intro (gEq_int _ _) ?_) | ((with_reducible apply ex_and); exact rfl) | ((with_reducible apply ex_bool); exact rfl) | ((with_reducible apply ex_int); exact rfl) | ((with_reducible refine And.intro ?_ ?_); exact rfl) | fail))
      refine same_lc _ xs _ ?_ h1 ?_ hf ?_
      · (repeat' (first | with_reducible refine ex_and (grng1_len h1) ?_ | with_reducible refine wp_seq.mpr ?_ | with_reducible refine wp_ret.mpr ?_ | with_reducible refine wp_retN.mpr ?_ | with_reducible refine wp_skip.mpr ?_ | with_reducible refine wp_brk.mpr ?_ | with_reducible refine wp_cnt.mpr ?_ | with_reducible refine wp_ifS.mpr ?_ | with_reducible refine wp_drop.mpr ?_ | with_reducible refine wp_set.mpr ?_ | with_reducible refine wp_par.mpr ?_ | with_reducible refine wp_setIx.mpr ?_ | with_reducible refine wp_forS.mpr ?_ | with_reducible refine wp_op.mpr ?_ | with_reducible refine wp_neg.mpr ?_ | with_reducible refine wp_is.mpr ?_ | with_reducible refine wp_isnt.mpr ?_ | with_reducible refine wp_tru.mpr ?_ | with_reducible refine wp_tst.mpr ?_ | with_reducible refine wp_and.mpr ?_ | with_reducible refine wp_or.mpr ?_ | with_reducible refine wp_not.mpr ?_ | with_reducible refine wp_andV.mpr ?_ | with_reducible refine wp_orV.mpr ?_ | with_reducible refine wp_notV.mpr ?_ | with_reducible refine wp_if.mpr ?_ | with_reducible refine wp_nil.mpr ?_ | with_reducible refine wp_cons.mpr ?_ | with_reducible refine wp_tup.mpr ?_ | with_reducible refine wp_lst.mpr ?_ | with_reducible refine wp_call.mpr ?_ | with_reducible refine wp_isi.mpr ?_ | with_reducible refine wp_isiT.mpr ?_ | with_reducible refine wp_part.mpr ?_ | with_reducible refine wp_sl.mpr ?_ | with_reducible refine wp_callF.mpr ?_ | with_reducible refine wp_callK.mpr ?_ | with_reducible refine wp_pure.mpr ?_ | with_reducible refine wp_put.mpr ?_ | with_reducible refine wp_rng1.mpr ?_ | with_reducible refine wp_rng2.mpr ?_ | with_reducible refine wp_itA.mpr ?_ | with_reducible refine wp_tname.mpr ?_ | ((with_reducible apply wp_dat); exact rfl) | ((with_reducible apply wp_ixN2); exact rfl) | refine yes ?_ | refine no ?_ | refine And.intro (Nat.le_of_ble_eq_true rfl) ?_ | refine And.intro (sz (Nat.le_of_ble_eq_true rfl)) ?_ | refine Exists.intro _ (And.intro (gEq_int _ _) ?_) | ((with_reducible apply ex_and); exact rfl) | ((with_reducible apply ex_bool); exact rfl) | ((with_reducible apply ex_int); exact rfl) | ((with_reducible refine And.intro ?_ ?_); exact rfl) | fail))
        rfl
      · intro j d e
        exact atI_n e
      · (repeat' (first | with_reducible refine ex_and (gAll_true _) ?_ | with_reducible refine wp_seq.mpr ?_ | with_reducible refine wp_ret.mpr ?_ | with_reducible refine wp_retN.mpr ?_ | with_reducible refine wp_skip.mpr ?_ | with_reducible refine wp_brk.mpr ?_ | with_reducible refine wp_cnt.mpr ?_ | with_reducible refine wp_ifS.mpr ?_ | with_reducible refine wp_drop.mpr ?_ | with_reducible refine wp_set.mpr ?_ | with_reducible refine wp_par.mpr ?_ | with_reducible refine wp_setIx.mpr ?_ | with_reducible refine wp_forS.mpr ?_ | with_reducible refine wp_op.mpr ?_ | with_reducible refine wp_neg.mpr ?_ | with_reducible refine wp_is.mpr ?_ | with_reducible refine wp_isnt.mpr ?_ | with_reducible refine wp_tru.mpr ?_ | with_reducible refine wp_tst.mpr ?_ | with_reducible refine wp_and.mpr ?_ | with_reducible refine wp_or.mpr ?_ | with_reducible refine wp_not.mpr ?_ | with_reducible refine wp_andV.mpr ?_ | with_reducible refine wp_orV.mpr ?_ | with_reducible refine wp_notV.mpr ?_ | with_reducible refine wp_if.mpr ?_ | with_reducible refine wp_nil.mpr ?_ | with_reducible refine wp_cons.mpr ?_ | with_reducible refine wp_tup.mpr ?_ | with_reducible refine wp_lst.mpr ?_ | with_reducible refine wp_call.mpr ?_ | with_reducible refine wp_isi.mpr ?_ | with_reducible refine wp_isiT.mpr ?_ | with_reducible refine wp_part.mpr ?_ | with_reducible refine wp_sl.mpr ?_ | with_reducible refine wp_callF.mpr ?_ | with_reducible refine wp_callK.mpr ?_ | with_reducible refine wp_pure.mpr ?_ | with_reducible refine wp_put.mpr ?_ | with_reducible refine wp_rng1.mpr ?_ | with_reducible refine wp_rng2.mpr ?_ | with_reducible refine wp_itA.mpr ?_ | with_reducible refine wp_tname.mpr ?_ | ((with_reducible apply wp_dat); exact rfl) | ((with_reducible apply wp_ixN2); exact rfl) | refine yes ?_ | refine no ?_ | refine And.intro (Nat.le_of_ble_eq_true rfl) ?_ | refine And.intro (sz (Nat.le_of_ble_eq_true rfl)) ?_ | refine Exists.intro _ (And.intro (gEq_int _ _) ?_) | ((with_reducible apply ex_and); exact rfl) | ((with_reducible apply ex_bool); exact rfl) | ((with_reducible apply ex_int); exact rfl) | ((with_reducible refine And.intro ?_ ?_); exact rfl) | fail))
        exact q
end Hd

set_option maxHeartbeats 1000000
namespace Hd
open PySem PySem.Spec PyProof.Rows L2 L2.DL
abbrev pr (a b : Int) : D := .tuple [.int a, .int b]
theorem gMul_ok {i j : Int} (h : CMulW i j) : gMul (.int i) (.int j) = some (.int (i * j)) := by
  unfold gMul g2I
  exact if_pos (decide_eq_true (show i.natAbs.log2 + j.natAbs.log2 < 1000000 from h))
/-- fewer than k bits -/
def Bd (k : Nat) (x : Int) : Prop := x.natAbs < 2 ^ k
theorem Bd.mono {j k : Nat} {x : Int} (h : Bd j x) (l : j ≤ k) : Bd k x := Nat.lt_of_lt_of_le h (Nat.pow_le_pow_right (by decide) l)
theorem Bd.mul {j k : Nat} {x y : Int} (h : Bd j x) (g : Bd k y) : Bd (j + k) (x * y) := wide_lt h g
theorem Bd.add {k : Nat} {x y : Int} (h : Bd k x) (g : Bd k y) : Bd (k + 1) (x + y) := by
  unfold Bd at *
  rw [Nat.pow_succ]
  omega
theorem Bd.neg {k : Nat} {x : Int} (h : Bd k x) : Bd k (-x) := by
  unfold Bd at *
  rw [Int.natAbs_neg]
  exact h
theorem Bd.cm {j k : Nat} {x y : Int} (h : Bd j x) (g : Bd k y) (h0 : 0 < j := by decide) (h1 : 0 < k := by decide) (l : j + k ≤ 1000000 := by decide) : CMulW x y := wide_mul h g h0 h1 l
theorem isPair_pr (a b : Int) : isPair (pr a b) = true := rfl
theorem v_sum_of (a b c d : Int) {Q : D → List A → Prop} (q : Q (pr (a + c) (b + d)) [.und, .und]) : Gv f_sum_of [.dat (pr a b), .dat (pr c d)] Q := by
  apply gv_run
  unfold fb_sum_of
  (repeat' (first | with_reducible refine wp_seq.mpr ?_ | with_reducible refine wp_ret.mpr ?_ | with_reducible refine wp_retN.mpr ?_ | with_reducible refine wp_skip.mpr ?_ | with_reducible refine wp_brk.mpr ?_ | with_reducible refine wp_cnt.mpr ?_ | with_reducible refine wp_ifS.mpr ?_ | with_reducible refine wp_drop.mpr ?_ | with_reducible refine wp_set.mpr ?_ | with_reducible refine wp_par.mpr ?_ | with_reducible refine wp_setIx.mpr ?_ | with_reducible refine wp_forS.mpr ?_ | with_reducible refine wp_op.mpr ?_ | with_reducible refine wp_neg.mpr ?_ | with_reducible refine wp_is.mpr ?_ | with_reducible refine wp_isnt.mpr ?_ | with_reducible refine wp_tru.mpr ?_ | with_reducible refine wp_tst.mpr ?_ | with_reducible refine wp_and.mpr ?_ | with_reducible refine wp_or.mpr ?_ | with_reducible refine wp_not.mpr ?_ | with_reducible refine wp_andV.mpr ?_ | with_reducible refine wp_orV.mpr ?_ | with_reducible refine wp_notV.mpr ?_ | with_reducible refine wp_if.mpr ?_ | with_reducible refine wp_nil.mpr ?_ | with_reducible refine wp_cons.mpr ?_ | with_reducible refine wp_tup.mpr ?_ | with_reducible refine wp_lst.mpr ?_ | with_reducible refine wp_call.mpr ?_ | with_reducible refine wp_isi.mpr ?_ | with_reducible refine wp_isiT.mpr ?_ | with_reducible refine wp_part.mpr ?_ | with_reducible refine wp_sl.mpr ?_ | with_reducible refine wp_callF.mpr ?_ | with_reducible refine wp_callK.mpr ?_ | with_reducible refine wp_pure.mpr ?_ | with_reducible refine wp_put.mpr ?_ | with_reducible refine wp_rng1.mpr ?_ | with_reducible refine wp_rng2.mpr ?_ | with_reducible refine wp_itA.mpr ?_ | with_reducible refine wp_tname.mpr ?_ | ((with_reducible apply wp_dat); exact rfl) | ((with_reducible apply wp_ixN2); exact rfl) | refine yes ?_ | refine no ?_ | refine And.intro (Nat.le_of_ble_eq_true rfl) ?_ | refine And.intro (sz (Nat.le_of_ble_eq_true rfl)) ?_ | refine Exists.intro _ (And.intro (gEq_int _ _) ?_) | ((with_reducible apply ex_and); exact rfl) | ((with_reducible apply ex_bool); exact rfl) | ((with_reducible apply ex_int); exact rfl) | ((with_reducible refine And.intro ?_ ?_); exact rfl) | fail))
  exact q
theorem v_times_of (a b c d : Int) (h1 : CMulW b d) (h2 : CMulW a c) (h3 : CMulW a d) (h4 : CMulW b c) {Q : D → List A → Prop} (q : Q (pr (a * c + b * d) (a * d + b * c + b * d)) [.und, .und]) : Gv f_times_of [.dat (pr a b), .dat (pr c d)] Q := by
  apply gv_run
  unfold fb_times_of
  (repeat' (first | with_reducible refine ex_and (gMul_ok h1) ?_ | with_reducible refine ex_and (gMul_ok h2) ?_ | with_reducible refine ex_and (gMul_ok h3) ?_ | with_reducible refine ex_and (gMul_ok h4) ?_ | with_reducible refine wp_seq.mpr ?_ | with_reducible refine wp_ret.mpr ?_ | with_reducible refine wp_retN.mpr ?_ | with_reducible refine wp_skip.mpr ?_ | with_reducible refine wp_brk.mpr ?_ | with_reducible refine wp_cnt.mpr ?_ | with_reducible refine wp_ifS.mpr ?_ | with_reducible refine wp_drop.mpr ?_ | with_reducible refine wp_set.mpr ?_ | with_reducible refine wp_par.mpr ?_ | with_reducible refine wp_setIx.mpr ?_ | with_reducible refine wp_forS.mpr ?_ | with_reducible refine wp_op.mpr ?_ | with_reducible refine wp_neg.mpr ?_ | with_reducible refine wp_is.mpr ?_ | with_reducible refine wp_isnt.mpr ?_ | with_reducible refine wp_tru.mpr ?_ | with_reducible refine wp_tst.mpr ?_ | with_reducible refine wp_and.mpr ?_ | with_reducible refine wp_or.mpr ?_ | with_reducible refine wp_not.mpr ?_ | with_reducible refine wp_andV.mpr ?_ | with_reducible refine wp_orV.mpr ?_ | with_reducible refine wp_notV.mpr ?_ | with_reducible refine wp_if.mpr ?_ | with_reducible refine wp_nil.mpr ?_ | with_reducible refine wp_cons.mpr ?_ | with_reducible refine wp_tup.mpr ?_ | with_reducible refine wp_lst.mpr ?_ | with_reducible refine wp_call.mpr ?_ | with_reducible refine wp_isi.mpr ?_ | with_reducible refine wp_isiT.mpr ?_ | with_reducible refine wp_part.mpr ?_ | with_reducible refine wp_sl.mpr ?_ | with_reducible refine wp_callF.mpr ?_ | with_reducible refine wp_callK.mpr ?_ | with_reducible refine wp_pure.mpr ?_ | with_reducible refine wp_put.mpr ?_ | with_reducible refine wp_rng1.mpr ?_ | with_reducible refine wp_rng2.mpr ?_ | with_reducible refine wp_itA.mpr ?_ | with_reducible refine wp_tname.mpr ?_ | ((with_reducible apply wp_dat); exact rfl) | ((with_reducible apply wp_ixN2); exact rfl) | refine yes ?_ | refine no ?_ | refine And.intro (Nat.le_of_ble_eq_true rfl) ?_ | refine And.intro (sz (Nat.le_of_ble_eq_true rfl)) ?_ | refine Exists.intro _ (And.intro (gEq_int _ _) ?_) | ((with_reducible apply ex_and); exact rfl) | ((with_reducible apply ex_bool); exact rfl) | ((with_reducible apply ex_int); exact rfl) | ((with_reducible refine And.intro ?_ ?_); exact rfl) | fail))
  exact q
def sgI (x : Int) : Int := b2i (decide (0 < x)) - b2i (decide (x < 0))
theorem v_sign_of_integer (x : Int) {Q : D → List A → Prop} (q : Q (.int (sgI x)) [.und]) : Gv f_sign_of_integer [.dat (.int x)] Q := by
  apply gv_run
  unfold fb_sign_of_integer
  (repeat' (first | with_reducible refine wp_seq.mpr ?_ | with_reducible refine wp_ret.mpr ?_ | with_reducible refine wp_retN.mpr ?_ | with_reducible refine wp_skip.mpr ?_ | with_reducible refine wp_brk.mpr ?_ | with_reducible refine wp_cnt.mpr ?_ | with_reducible refine wp_ifS.mpr ?_ | with_reducible refine wp_drop.mpr ?_ | with_reducible refine wp_set.mpr ?_ | with_reducible refine wp_par.mpr ?_ | with_reducible refine wp_setIx.mpr ?_ | with_reducible refine wp_forS.mpr ?_ | with_reducible refine wp_op.mpr ?_ | with_reducible refine wp_neg.mpr ?_ | with_reducible refine wp_is.mpr ?_ | with_reducible refine wp_isnt.mpr ?_ | with_reducible refine wp_tru.mpr ?_ | with_reducible refine wp_tst.mpr ?_ | with_reducible refine wp_and.mpr ?_ | with_reducible refine wp_or.mpr ?_ | with_reducible refine wp_not.mpr ?_ | with_reducible refine wp_andV.mpr ?_ | with_reducible refine wp_orV.mpr ?_ | with_reducible refine wp_notV.mpr ?_ | with_reducible refine wp_if.mpr ?_ | with_reducible refine wp_nil.mpr ?_ | with_reducible refine wp_cons.mpr ?_ | with_reducible refine wp_tup.mpr ?_ | with_reducible refine wp_lst.mpr ?_ | with_reducible refine wp_call.mpr ?_ | with_reducible refine wp_isi.mpr ?_ | with_reducible refine wp_isiT.mpr ?_ | with_reducible refine wp_part.mpr ?_ | with_reducible refine wp_sl.mpr ?_ | with_reducible refine wp_callF.mpr ?_ | with_reducible refine wp_callK.mpr ?_ | with_reducible refine wp_pure.mpr ?_ | with_reducible refine wp_put.mpr ?_ | with_reducible refine wp_rng1.mpr ?_ | with_reducible refine wp_rng2.mpr ?_ | with_reducible refine wp_itA.mpr ?_ | with_reducible refine wp_tname.mpr ?_ | ((with_reducible apply wp_dat); exact rfl) | ((with_reducible apply wp_ixN2); exact rfl) | refine yes ?_ | refine no ?_ | refine And.intro (Nat.le_of_ble_eq_true rfl) ?_ | refine And.intro (sz (Nat.le_of_ble_eq_true rfl)) ?_ | refine Exists.intro _ (And.intro (gEq_int _ _) ?_) | ((with_reducible apply ex_and); exact rfl) | ((with_reducible apply ex_bool); exact rfl) | ((with_reducible apply ex_int); exact rfl) | ((with_reducible refine And.intro ?_ ?_); exact rfl) | fail))
  exact q
def sgP (w r : Int) : Int := if 0 ≤ w ∧ 0 ≤ r then sgI (w + r) else if w ≤ 0 ∧ r ≤ 0 then sgI (w + r) else if 5 * r * r < w * w then sgI w else sgI r
theorem v_sign_of (a b : Int) (h1 : CMulW 2 a) (h2 : CMulW (2 * a + b) (2 * a + b)) (h3 : CMulW 5 b) (h4 : CMulW (5 * b) b) {Q : D → List A → Prop} (q : ∀ s, s = sgP (2 * a + b) b → Q (.int s) [.und]) : Gv f_sign_of [.dat (pr a b)] Q := by
  apply gv_run
  unfold fb_sign_of
  (repeat' (first | with_reducible refine ex_and (gMul_ok h1) ?_ | with_reducible refine ex_and (gMul_ok h2) ?_ | with_reducible refine ex_and (gMul_ok h3) ?_ | with_reducible refine ex_and (gMul_ok h4) ?_ | with_reducible refine wp_seq.mpr ?_ | with_reducible refine wp_ret.mpr ?_ | with_reducible refine wp_retN.mpr ?_ | with_reducible refine wp_skip.mpr ?_ | with_reducible refine wp_brk.mpr ?_ | with_reducible refine wp_cnt.mpr ?_ | with_reducible refine wp_ifS.mpr ?_ | with_reducible refine wp_drop.mpr ?_ | with_reducible refine wp_set.mpr ?_ | with_reducible refine wp_par.mpr ?_ | with_reducible refine wp_setIx.mpr ?_ | with_reducible refine wp_forS.mpr ?_ | with_reducible refine wp_op.mpr ?_ | with_reducible refine wp_neg.mpr ?_ | with_reducible refine wp_is.mpr ?_ | with_reducible refine wp_isnt.mpr ?_ | with_reducible refine wp_tru.mpr ?_ | with_reducible refine wp_tst.mpr ?_ | with_reducible refine wp_and.mpr ?_ | with_reducible refine wp_or.mpr ?_ | with_reducible refine wp_not.mpr ?_ | with_reducible refine wp_andV.mpr ?_ | with_reducible refine wp_orV.mpr ?_ | with_reducible refine wp_notV.mpr ?_ | with_reducible refine wp_if.mpr ?_ | with_reducible refine wp_nil.mpr ?_ | with_reducible refine wp_cons.mpr ?_ | with_reducible refine wp_tup.mpr ?_ | with_reducible refine wp_lst.mpr ?_ | with_reducible refine wp_call.mpr ?_ | with_reducible refine wp_isi.mpr ?_ | with_reducible refine wp_isiT.mpr ?_ | with_reducible refine wp_part.mpr ?_ | with_reducible refine wp_sl.mpr ?_ | with_reducible refine wp_callF.mpr ?_ | with_reducible refine wp_callK.mpr ?_ | with_reducible refine wp_pure.mpr ?_ | with_reducible refine wp_put.mpr ?_ | with_reducible refine wp_rng1.mpr ?_ | with_reducible refine wp_rng2.mpr ?_ | with_reducible refine wp_itA.mpr ?_ | with_reducible refine wp_tname.mpr ?_ | ((with_reducible apply wp_dat); exact rfl) | ((with_reducible apply wp_ixN2); exact rfl) | refine yes ?_ | refine no ?_ | refine And.intro (Nat.le_of_ble_eq_true rfl) ?_ | refine And.intro (sz (Nat.le_of_ble_eq_true rfl)) ?_ | refine Exists.intro _ (And.intro (gEq_int _ _) ?_) | ((with_reducible apply ex_and); exact rfl) | ((with_reducible apply ex_bool); exact rfl) | ((with_reducible apply ex_int); exact rfl) | ((with_reducible refine And.intro ?_ ?_); exact rfl) | with_reducible refine both (fun hb => ?_) (fun hb => ?_) | refine v_sign_of_integer _ ?_ | fail))
  all_goals
    refine q _ ?_
    simp only [decide_eq_true_eq, decide_eq_false_iff_not] at *
    unfold sgP
    grind
theorem v_is_number (v : D) {Q : D → List A → Prop} (q : Q (.bool (isPair v)) [.und]) : Gv f_is_number [.dat v] Q := by
  apply gv_run
  unfold fb_is_number
  (repeat' (first | refine v_is_pair _ ?_ | with_reducible refine wp_seq.mpr ?_ | with_reducible refine wp_ret.mpr ?_ | with_reducible refine wp_retN.mpr ?_ | with_reducible refine wp_skip.mpr ?_ | with_reducible refine wp_brk.mpr ?_ | with_reducible refine wp_cnt.mpr ?_ | with_reducible refine wp_ifS.mpr ?_ | with_reducible refine wp_drop.mpr ?_ | with_reducible refine wp_set.mpr ?_ | with_reducible refine wp_par.mpr ?_ | with_reducible refine wp_setIx.mpr ?_ | with_reducible refine wp_forS.mpr ?_ | with_reducible refine wp_op.mpr ?_ | with_reducible refine wp_neg.mpr ?_ | with_reducible refine wp_is.mpr ?_ | with_reducible refine wp_isnt.mpr ?_ | with_reducible refine wp_tru.mpr ?_ | with_reducible refine wp_tst.mpr ?_ | with_reducible refine wp_and.mpr ?_ | with_reducible refine wp_or.mpr ?_ | with_reducible refine wp_not.mpr ?_ | with_reducible refine wp_andV.mpr ?_ | with_reducible refine wp_orV.mpr ?_ | with_reducible refine wp_notV.mpr ?_ | with_reducible refine wp_if.mpr ?_ | with_reducible refine wp_nil.mpr ?_ | with_reducible refine wp_cons.mpr ?_ | with_reducible refine wp_tup.mpr ?_ | with_reducible refine wp_lst.mpr ?_ | with_reducible refine wp_call.mpr ?_ | with_reducible refine wp_isi.mpr ?_ | with_reducible refine wp_isiT.mpr ?_ | with_reducible refine wp_part.mpr ?_ | with_reducible refine wp_sl.mpr ?_ | with_reducible refine wp_callF.mpr ?_ | with_reducible refine wp_callK.mpr ?_ | with_reducible refine wp_pure.mpr ?_ | with_reducible refine wp_put.mpr ?_ | with_reducible refine wp_rng1.mpr ?_ | with_reducible refine wp_rng2.mpr ?_ | with_reducible refine wp_itA.mpr ?_ | with_reducible refine wp_tname.mpr ?_ | ((with_reducible apply wp_dat); exact rfl) | ((with_reducible apply wp_ixN2); exact rfl) | refine yes ?_ | refine no ?_ | refine And.intro (Nat.le_of_ble_eq_true rfl) ?_ | refine And.intro (sz (Nat.le_of_ble_eq_true rfl)) ?_ | refine Exists.intro _ (And.intro (gEq_int _ _) ?_) | ((with_reducible apply ex_and); exact rfl) | ((with_reducible apply ex_bool); exact rfl) | ((with_reducible apply ex_int); exact rfl) | ((with_reducible refine And.intro ?_ ?_); exact rfl) | fail))
  exact q
theorem v_check_numbers (v w : D) (hv : isPair v = true) (hw : isPair w = true) {Q : D → List A → Prop} (q : Q .none [.und, .und]) : Gv f_check_numbers [.dat v, .dat w] Q := by
  apply gv_run
  unfold fb_check_numbers
  (repeat' (first | refine v_is_pair _ ?_ | with_reducible refine wp_seq.mpr ?_ | with_reducible refine wp_ret.mpr ?_ | with_reducible refine wp_retN.mpr ?_ | with_reducible refine wp_skip.mpr ?_ | with_reducible refine wp_brk.mpr ?_ | with_reducible refine wp_cnt.mpr ?_ | with_reducible refine wp_ifS.mpr ?_ | with_reducible refine wp_drop.mpr ?_ | with_reducible refine wp_set.mpr ?_ | with_reducible refine wp_par.mpr ?_ | with_reducible refine wp_setIx.mpr ?_ | with_reducible refine wp_forS.mpr ?_ | with_reducible refine wp_op.mpr ?_ | with_reducible refine wp_neg.mpr ?_ | with_reducible refine wp_is.mpr ?_ | with_reducible refine wp_isnt.mpr ?_ | with_reducible refine wp_tru.mpr ?_ | with_reducible refine wp_tst.mpr ?_ | with_reducible refine wp_and.mpr ?_ | with_reducible refine wp_or.mpr ?_ | with_reducible refine wp_not.mpr ?_ | with_reducible refine wp_andV.mpr ?_ | with_reducible refine wp_orV.mpr ?_ | with_reducible refine wp_notV.mpr ?_ | with_reducible refine wp_if.mpr ?_ | with_reducible refine wp_nil.mpr ?_ | with_reducible refine wp_cons.mpr ?_ | with_reducible refine wp_tup.mpr ?_ | with_reducible refine wp_lst.mpr ?_ | with_reducible refine wp_call.mpr ?_ | with_reducible refine wp_isi.mpr ?_ | with_reducible refine wp_isiT.mpr ?_ | with_reducible refine wp_part.mpr ?_ | with_reducible refine wp_sl.mpr ?_ | with_reducible refine wp_callF.mpr ?_ | with_reducible refine wp_callK.mpr ?_ | with_reducible refine wp_pure.mpr ?_ | with_reducible refine wp_put.mpr ?_ | with_reducible refine wp_rng1.mpr ?_ | with_reducible refine wp_rng2.mpr ?_ | with_reducible refine wp_itA.mpr ?_ | with_reducible refine wp_tname.mpr ?_ | ((with_reducible apply wp_dat); exact rfl) | ((with_reducible apply wp_ixN2); exact rfl) | refine yes ?_ | refine no ?_ | refine And.intro (Nat.le_of_ble_eq_true rfl) ?_ | refine And.intro (sz (Nat.le_of_ble_eq_true rfl)) ?_ | refine Exists.intro _ (And.intro (gEq_int _ _) ?_) | ((with_reducible apply ex_and); exact rfl) | ((with_reducible apply ex_bool); exact rfl) | ((with_reducible apply ex_int); exact rfl) | ((with_reducible refine And.intro ?_ ?_); exact rfl) | (rw [hv]) | (rw [hw]) | fail))
  exact q
theorem x_check_numbers (v w : D) (h : isPair v = false ∨ (isPair v = true ∧ isPair w = false)) {X : Str → D → List A → Prop} (q1 : isPair v = false → X "InvalidNumber" v [.und, .und]) (q2 : isPair v = true → X "InvalidNumber" w [.und, .und]) : Gx f_check_numbers [.dat v, .dat w] X := by
  apply gx_run
  unfold fb_check_numbers
  rcases h with h | ⟨h1, h2⟩
  · apply wx_seq1
    apply wx_ifS
    (repeat' (first | refine v_is_pair _ ?_ | with_reducible refine wp_seq.mpr ?_ | with_reducible refine wp_ret.mpr ?_ | with_reducible refine wp_retN.mpr ?_ | with_reducible refine wp_skip.mpr ?_ | with_reducible refine wp_brk.mpr ?_ | with_reducible refine wp_cnt.mpr ?_ | with_reducible refine wp_ifS.mpr ?_ | with_reducible refine wp_drop.mpr ?_ | with_reducible refine wp_set.mpr ?_ | with_reducible refine wp_par.mpr ?_ | with_reducible refine wp_setIx.mpr ?_ | with_reducible refine wp_forS.mpr ?_ | with_reducible refine wp_op.mpr ?_ | with_reducible refine wp_neg.mpr ?_ | with_reducible refine wp_is.mpr ?_ | with_reducible refine wp_isnt.mpr ?_ | with_reducible refine wp_tru.mpr ?_ | with_reducible refine wp_tst.mpr ?_ | with_reducible refine wp_and.mpr ?_ | with_reducible refine wp_or.mpr ?_ | with_reducible refine wp_not.mpr ?_ | with_reducible refine wp_andV.mpr ?_ | with_reducible refine wp_orV.mpr ?_ | with_reducible refine wp_notV.mpr ?_ | with_reducible refine wp_if.mpr ?_ | with_reducible refine wp_nil.mpr ?_ | with_reducible refine wp_cons.mpr ?_ | with_reducible refine wp_tup.mpr ?_ | with_reducible refine wp_lst.mpr ?_ | with_reducible refine wp_call.mpr ?_ | with_reducible refine wp_isi.mpr ?_ | with_reducible refine wp_isiT.mpr ?_ | with_reducible refine wp_part.mpr ?_ | with_reducible refine wp_sl.mpr ?_ | with_reducible refine wp_callF.mpr ?_ | with_reducible refine wp_callK.mpr ?_ | with_reducible refine wp_pure.mpr ?_ | with_reducible refine wp_put.mpr ?_ | with_reducible refine wp_rng1.mpr ?_ | with_reducible refine wp_rng2.mpr ?_ | with_reducible refine wp_itA.mpr ?_ | with_reducible refine wp_tname.mpr ?_ | ((with_reducible apply wp_dat); exact rfl) | ((with_reducible apply wp_ixN2); exact rfl) | refine yes ?_ | refine no ?_ | refine And.intro (Nat.le_of_ble_eq_true rfl) ?_ | refine And.intro (sz (Nat.le_of_ble_eq_true rfl)) ?_ | refine Exists.intro _ (And.intro (gEq_int _ _) ?_) | ((with_reducible apply ex_and); exact rfl) | ((with_reducible apply ex_bool); exact rfl) | ((with_reducible apply ex_int); exact rfl) | ((with_reducible refine And.intro ?_ ?_); exact rfl) | (rw [h]) | apply wx_raise | fail))
    exact q1 h
  · apply wx_seq2
    (repeat' (first | refine v_is_pair _ ?_ | with_reducible refine wp_seq.mpr ?_ | with_reducible refine wp_ret.mpr ?_ | with_reducible refine wp_retN.mpr ?_ | with_reducible refine wp_skip.mpr ?_ | with_reducible refine wp_brk.mpr ?_ | with_reducible refine wp_cnt.mpr ?_ | with_reducible refine wp_ifS.mpr ?_ | with_reducible refine wp_drop.mpr ?_ | with_reducible refine wp_set.mpr ?_ | with_reducible refine wp_par.mpr ?_ | with_reducible refine wp_setIx.mpr ?_ | with_reducible refine wp_forS.mpr ?_ | with_reducible refine wp_op.mpr ?_ | with_reducible refine wp_neg.mpr ?_ | with_reducible refine wp_is.mpr ?_ | with_reducible refine wp_isnt.mpr ?_ | with_reducible refine wp_tru.mpr ?_ | with_reducible refine wp_tst.mpr ?_ | with_reducible refine wp_and.mpr ?_ | with_reducible refine wp_or.mpr ?_ | with_reducible refine wp_not.mpr ?_ | with_reducible refine wp_andV.mpr ?_ | with_reducible refine wp_orV.mpr ?_ | with_reducible refine wp_notV.mpr ?_ | with_reducible refine wp_if.mpr ?_ | with_reducible refine wp_nil.mpr ?_ | with_reducible refine wp_cons.mpr ?_ | with_reducible refine wp_tup.mpr ?_ | with_reducible refine wp_lst.mpr ?_ | with_reducible refine wp_call.mpr ?_ | with_reducible refine wp_isi.mpr ?_ | with_reducible refine wp_isiT.mpr ?_ | with_reducible refine wp_part.mpr ?_ | with_reducible refine wp_sl.mpr ?_ | with_reducible refine wp_callF.mpr ?_ | with_reducible refine wp_callK.mpr ?_ | with_reducible refine wp_pure.mpr ?_ | with_reducible refine wp_put.mpr ?_ | with_reducible refine wp_rng1.mpr ?_ | with_reducible refine wp_rng2.mpr ?_ | with_reducible refine wp_itA.mpr ?_ | with_reducible refine wp_tname.mpr ?_ | ((with_reducible apply wp_dat); exact rfl) | ((with_reducible apply wp_ixN2); exact rfl) | refine yes ?_ | refine no ?_ | refine And.intro (Nat.le_of_ble_eq_true rfl) ?_ | refine And.intro (sz (Nat.le_of_ble_eq_true rfl)) ?_ | refine Exists.intro _ (And.intro (gEq_int _ _) ?_) | ((with_reducible apply ex_and); exact rfl) | ((with_reducible apply ex_bool); exact rfl) | ((with_reducible apply ex_int); exact rfl) | ((with_reducible refine And.intro ?_ ?_); exact rfl) | (rw [h1]) | fail))
    apply wx_ifS
    (repeat' (first | refine v_is_pair _ ?_ | with_reducible refine wp_seq.mpr ?_ | with_reducible refine wp_ret.mpr ?_ | with_reducible refine wp_retN.mpr ?_ | with_reducible refine wp_skip.mpr ?_ | with_reducible refine wp_brk.mpr ?_ | with_reducible refine wp_cnt.mpr ?_ | with_reducible refine wp_ifS.mpr ?_ | with_reducible refine wp_drop.mpr ?_ | with_reducible refine wp_set.mpr ?_ | with_reducible refine wp_par.mpr ?_ | with_reducible refine wp_setIx.mpr ?_ | with_reducible refine wp_forS.mpr ?_ | with_reducible refine wp_op.mpr ?_ | with_reducible refine wp_neg.mpr ?_ | with_reducible refine wp_is.mpr ?_ | with_reducible refine wp_isnt.mpr ?_ | with_reducible refine wp_tru.mpr ?_ | with_reducible refine wp_tst.mpr ?_ | with_reducible refine wp_and.mpr ?_ | with_reducible refine wp_or.mpr ?_ | with_reducible refine wp_not.mpr ?_ | with_reducible refine wp_andV.mpr ?_ | with_reducible refine wp_orV.mpr ?_ | with_reducible refine wp_notV.mpr ?_ | with_reducible refine wp_if.mpr ?_ | with_reducible refine wp_nil.mpr ?_ | with_reducible refine wp_cons.mpr ?_ | with_reducible refine wp_tup.mpr ?_ | with_reducible refine wp_lst.mpr ?_ | with_reducible refine wp_call.mpr ?_ | with_reducible refine wp_isi.mpr ?_ | with_reducible refine wp_isiT.mpr ?_ | with_reducible refine wp_part.mpr ?_ | with_reducible refine wp_sl.mpr ?_ | with_reducible refine wp_callF.mpr ?_ | with_reducible refine wp_callK.mpr ?_ | with_reducible refine wp_pure.mpr ?_ | with_reducible refine wp_put.mpr ?_ | with_reducible refine wp_rng1.mpr ?_ | with_reducible refine wp_rng2.mpr ?_ | with_reducible refine wp_itA.mpr ?_ | with_reducible refine wp_tname.mpr ?_ | ((with_reducible apply wp_dat); exact rfl) | ((with_reducible apply wp_ixN2); exact rfl) | refine yes ?_ | refine no ?_ | refine And.intro (Nat.le_of_ble_eq_true rfl) ?_ | refine And.intro (sz (Nat.le_of_ble_eq_true rfl)) ?_ | refine Exists.intro _ (And.intro (gEq_int _ _) ?_) | ((with_reducible apply ex_and); exact rfl) | ((with_reducible apply ex_bool); exact rfl) | ((with_reducible apply ex_int); exact rfl) | ((with_reducible refine And.intro ?_ ?_); exact rfl) | (rw [h2]) | apply wx_raise | fail))
    exact q2 h1
end Hd

set_option maxHeartbeats 1000000
namespace Hd
open PySem PySem.Spec PyProof.Rows L2 L2.DL
theorem v_plus (a b c d : Int) {Q : D → List A → Prop} (q : Q (pr (a + c) (b + d)) [.und, .und]) : Gv f_plus [.dat (pr a b), .dat (pr c d)] Q := by
  apply gv_run
  unfold fb_plus
  (repeat' (first | with_reducible refine wp_seq.mpr ?_ | with_reducible refine wp_ret.mpr ?_ | with_reducible refine wp_retN.mpr ?_ | with_reducible refine wp_skip.mpr ?_ | with_reducible refine wp_brk.mpr ?_ | with_reducible refine wp_cnt.mpr ?_ | with_reducible refine wp_ifS.mpr ?_ | with_reducible refine wp_drop.mpr ?_ | with_reducible refine wp_set.mpr ?_ | with_reducible refine wp_par.mpr ?_ | with_reducible refine wp_setIx.mpr ?_ | with_reducible refine wp_forS.mpr ?_ | with_reducible refine wp_op.mpr ?_ | with_reducible refine wp_neg.mpr ?_ | with_reducible refine wp_is.mpr ?_ | with_reducible refine wp_isnt.mpr ?_ | with_reducible refine wp_tru.mpr ?_ | with_reducible refine wp_tst.mpr ?_ | with_reducible refine wp_and.mpr ?_ | with_reducible refine wp_or.mpr ?_ | with_reducible refine wp_not.mpr ?_ | with_reducible refine wp_andV.mpr ?_ | with_reducible refine wp_orV.mpr ?_ | with_reducible refine wp_notV.mpr ?_ | with_reducible refine wp_if.mpr ?_ | with_reducible refine wp_nil.mpr ?_ | with_reducible refine wp_cons.mpr ?_ | with_reducible refine wp_tup.mpr ?_ | with_reducible refine wp_lst.mpr ?_ | with_reducible refine wp_call.mpr ?_ | with_reducible refine wp_isi.mpr ?_ | with_reducible refine wp_isiT.mpr ?_ | with_reducible refine wp_part.mpr ?_ | with_reducible refine wp_sl.mpr ?_ | with_reducible refine wp_callF.mpr ?_ | with_reducible refine wp_callK.mpr ?_ | with_reducible refine wp_pure.mpr ?_ | with_reducible refine wp_put.mpr ?_ | with_reducible refine wp_rng1.mpr ?_ | with_reducible refine wp_rng2.mpr ?_ | with_reducible refine wp_itA.mpr ?_ | with_reducible refine wp_tname.mpr ?_ | ((with_reducible apply wp_dat); exact rfl) | ((with_reducible apply wp_ixN2); exact rfl) | refine yes ?_ | refine no ?_ | refine And.intro (Nat.le_of_ble_eq_true rfl) ?_ | refine And.intro (sz (Nat.le_of_ble_eq_true rfl)) ?_ | refine Exists.intro _ (And.intro (gEq_int _ _) ?_) | ((with_reducible apply ex_and); exact rfl) | ((with_reducible apply ex_bool); exact rfl) | ((with_reducible apply ex_int); exact rfl) | ((with_reducible refine And.intro ?_ ?_); exact rfl) | refine v_check_numbers _ _ rfl rfl ?_ | refine v_sum_of _ _ _ _ ?_ | fail))
  exact q
theorem v_times (a b c d : Int) (h1 : CMulW b d) (h2 : CMulW a c) (h3 : CMulW a d) (h4 : CMulW b c) {Q : D → List A → Prop} (q : Q (pr (a * c + b * d) (a * d + b * c + b * d)) [.und, .und]) : Gv f_times [.dat (pr a b), .dat (pr c d)] Q := by
  apply gv_run
  unfold fb_times
  (repeat' (first | with_reducible refine wp_seq.mpr ?_ | with_reducible refine wp_ret.mpr ?_ | with_reducible refine wp_retN.mpr ?_ | with_reducible refine wp_skip.mpr ?_ | with_reducible refine wp_brk.mpr ?_ | with_reducible refine wp_cnt.mpr ?_ | with_reducible refine wp_ifS.mpr ?_ | with_reducible refine wp_drop.mpr ?_ | with_reducible refine wp_set.mpr ?_ | with_reducible refine wp_par.mpr ?_ | with_reducible refine wp_setIx.mpr ?_ | with_reducible refine wp_forS.mpr ?_ | with_reducible refine wp_op.mpr ?_ | with_reducible refine wp_neg.mpr ?_ | with_reducible refine wp_is.mpr ?_ | with_reducible refine wp_isnt.mpr ?_ | with_reducible refine wp_tru.mpr ?_ | with_reducible refine wp_tst.mpr ?_ | with_reducible refine wp_and.mpr ?_ | with_reducible refine wp_or.mpr ?_ | with_reducible refine wp_not.mpr ?_ | with_reducible refine wp_andV.mpr ?_ | with_reducible refine wp_orV.mpr ?_ | with_reducible refine wp_notV.mpr ?_ | with_reducible refine wp_if.mpr ?_ | with_reducible refine wp_nil.mpr ?_ | with_reducible refine wp_cons.mpr ?_ | with_reducible refine wp_tup.mpr ?_ | with_reducible refine wp_lst.mpr ?_ | with_reducible refine wp_call.mpr ?_ | with_reducible refine wp_isi.mpr ?_ | with_reducible refine wp_isiT.mpr ?_ | with_reducible refine wp_part.mpr ?_ | with_reducible refine wp_sl.mpr ?_ | with_reducible refine wp_callF.mpr ?_ | with_reducible refine wp_callK.mpr ?_ | with_reducible refine wp_pure.mpr ?_ | with_reducible refine wp_put.mpr ?_ | with_reducible refine wp_rng1.mpr ?_ | with_reducible refine wp_rng2.mpr ?_ | with_reducible refine wp_itA.mpr ?_ | with_reducible refine wp_tname.mpr ?_ | ((with_reducible apply wp_dat); exact rfl) | ((with_reducible apply wp_ixN2); exact rfl) | refine yes ?_ | refine no ?_ | refine And.intro (Nat.le_of_ble_eq_true rfl) ?_ | refine And.intro (sz (Nat.le_of_ble_eq_true rfl)) ?_ | refine Exists.intro _ (And.intro (gEq_int _ _) ?_) | ((with_reducible apply ex_and); exact rfl) | ((with_reducible apply ex_bool); exact rfl) | ((with_reducible apply ex_int); exact rfl) | ((with_reducible refine And.intro ?_ ?_); exact rfl) | refine v_check_numbers _ _ rfl rfl ?_ | refine v_times_of _ _ _ _ h1 h2 h3 h4 ?_ | fail))
  exact q
theorem v_sign (a b : Int) (h1 : CMulW 2 a) (h2 : CMulW (2 * a + b) (2 * a + b)) (h3 : CMulW 5 b) (h4 : CMulW (5 * b) b) {Q : D → List A → Prop} (q : Q (.int (sgP (2 * a + b) b)) [.und]) : Gv f_sign [.dat (pr a b)] Q := by
  apply gv_run
  unfold fb_sign
  (repeat' (first | with_reducible refine wp_seq.mpr ?_ | with_reducible refine wp_ret.mpr ?_ | with_reducible refine wp_retN.mpr ?_ | with_reducible refine wp_skip.mpr ?_ | with_reducible refine wp_brk.mpr ?_ | with_reducible refine wp_cnt.mpr ?_ | with_reducible refine wp_ifS.mpr ?_ | with_reducible refine wp_drop.mpr ?_ | with_reducible refine wp_set.mpr ?_ | with_reducible refine wp_par.mpr ?_ | with_reducible refine wp_setIx.mpr ?_ | with_reducible refine wp_forS.mpr ?_ | with_reducible refine wp_op.mpr ?_ | with_reducible refine wp_neg.mpr ?_ | with_reducible refine wp_is.mpr ?_ | with_reducible refine wp_isnt.mpr ?_ | with_reducible refine wp_tru.mpr ?_ | with_reducible refine wp_tst.mpr ?_ | with_reducible refine wp_and.mpr ?_ | with_reducible refine wp_or.mpr ?_ | with_reducible refine wp_not.mpr ?_ | with_reducible refine wp_andV.mpr ?_ | with_reducible refine wp_orV.mpr ?_ | with_reducible refine wp_notV.mpr ?_ | with_reducible refine wp_if.mpr ?_ | with_reducible refine wp_nil.mpr ?_ | with_reducible refine wp_cons.mpr ?_ | with_reducible refine wp_tup.mpr ?_ | with_reducible refine wp_lst.mpr ?_ | with_reducible refine wp_call.mpr ?_ | with_reducible refine wp_isi.mpr ?_ | with_reducible refine wp_isiT.mpr ?_ | with_reducible refine wp_part.mpr ?_ | with_reducible refine wp_sl.mpr ?_ | with_reducible refine wp_callF.mpr ?_ | with_reducible refine wp_callK.mpr ?_ | with_reducible refine wp_pure.mpr ?_ | with_reducible refine wp_put.mpr ?_ | with_reducible refine wp_rng1.mpr ?_ | with_reducible refine wp_rng2.mpr ?_ | with_reducible refine wp_itA.mpr ?_ | with_reducible refine wp_tname.mpr ?_ | ((with_reducible apply wp_dat); exact rfl) | ((with_reducible apply wp_ixN2); exact rfl) | refine yes ?_ | refine no ?_ | refine And.intro (Nat.le_of_ble_eq_true rfl) ?_ | refine And.intro (sz (Nat.le_of_ble_eq_true rfl)) ?_ | refine Exists.intro _ (And.intro (gEq_int _ _) ?_) | ((with_reducible apply ex_and); exact rfl) | ((with_reducible apply ex_bool); exact rfl) | ((with_reducible apply ex_int); exact rfl) | ((with_reducible refine And.intro ?_ ?_); exact rfl) | refine v_is_pair _ ?_ | refine v_sign_of _ _ h1 h2 h3 h4 ?_ | fail))
  rintro _ rfl
  (repeat' (first | with_reducible refine wp_seq.mpr ?_ | with_reducible refine wp_ret.mpr ?_ | with_reducible refine wp_retN.mpr ?_ | with_reducible refine wp_skip.mpr ?_ | with_reducible refine wp_brk.mpr ?_ | with_reducible refine wp_cnt.mpr ?_ | with_reducible refine wp_ifS.mpr ?_ | with_reducible refine wp_drop.mpr ?_ | with_reducible refine wp_set.mpr ?_ | with_reducible refine wp_par.mpr ?_ | with_reducible refine wp_setIx.mpr ?_ | with_reducible refine wp_forS.mpr ?_ | with_reducible refine wp_op.mpr ?_ | with_reducible refine wp_neg.mpr ?_ | with_reducible refine wp_is.mpr ?_ | with_reducible refine wp_isnt.mpr ?_ | with_reducible refine wp_tru.mpr ?_ | with_reducible refine wp_tst.mpr ?_ | with_reducible refine wp_and.mpr ?_ | with_reducible refine wp_or.mpr ?_ | with_reducible refine wp_not.mpr ?_ | with_reducible refine wp_andV.mpr ?_ | with_reducible refine wp_orV.mpr ?_ | with_reducible refine wp_notV.mpr ?_ | with_reducible refine wp_if.mpr ?_ | with_reducible refine wp_nil.mpr ?_ | with_reducible refine wp_cons.mpr ?_ | with_reducible refine wp_tup.mpr ?_ | with_reducible refine wp_lst.mpr ?_ | with_reducible refine wp_call.mpr ?_ | with_reducible refine wp_isi.mpr ?_ | with_reducible refine wp_isiT.mpr ?_ | with_reducible refine wp_part.mpr ?_ | with_reducible refine wp_sl.mpr ?_ | with_reducible refine wp_callF.mpr ?_ | with_reducible refine wp_callK.mpr ?_ | with_reducible refine wp_pure.mpr ?_ | with_reducible refine wp_put.mpr ?_ | with_reducible refine wp_rng1.mpr ?_ | with_reducible refine wp_rng2.mpr ?_ | with_reducible refine wp_itA.mpr ?_ | with_reducible refine wp_tname.mpr ?_ | ((with_reducible apply wp_dat); exact rfl) | ((with_reducible apply wp_ixN2); exact rfl) | refine yes ?_ | refine no ?_ | refine And.intro (Nat.le_of_ble_eq_true rfl) ?_ | refine And.intro (sz (Nat.le_of_ble_eq_true rfl)) ?_ | refine Exists.intro _ (And.intro (gEq_int _ _) ?_) | ((with_reducible apply ex_and); exact rfl) | ((with_reducible apply ex_bool); exact rfl) | ((with_reducible apply ex_int); exact rfl) | ((with_reducible refine And.intro ?_ ?_); exact rfl) | fail))
  exact q
theorem x_plus (v w : D) (h : isPair v = false ∨ (isPair v = true ∧ isPair w = false)) {X : Str → D → List A → Prop} (q1 : isPair v = false → X "InvalidNumber" v [.und, .und]) (q2 : isPair v = true → X "InvalidNumber" w [.und, .und]) : Gx f_plus [.dat v, .dat w] X := by
  apply gx_run
  unfold fb_plus
  apply wx_seq1
  apply wx_drop
  apply wx_callF
  (repeat' (first | with_reducible refine wp_seq.mpr ?_ | with_reducible refine wp_ret.mpr ?_ | with_reducible refine wp_retN.mpr ?_ | with_reducible refine wp_skip.mpr ?_ | with_reducible refine wp_brk.mpr ?_ | with_reducible refine wp_cnt.mpr ?_ | with_reducible refine wp_ifS.mpr ?_ | with_reducible refine wp_drop.mpr ?_ | with_reducible refine wp_set.mpr ?_ | with_reducible refine wp_par.mpr ?_ | with_reducible refine wp_setIx.mpr ?_ | with_reducible refine wp_forS.mpr ?_ | with_reducible refine wp_op.mpr ?_ | with_reducible refine wp_neg.mpr ?_ | with_reducible refine wp_is.mpr ?_ | with_reducible refine wp_isnt.mpr ?_ | with_reducible refine wp_tru.mpr ?_ | with_reducible refine wp_tst.mpr ?_ | with_reducible refine wp_and.mpr ?_ | with_reducible refine wp_or.mpr ?_ | with_reducible refine wp_not.mpr ?_ | with_reducible refine wp_andV.mpr ?_ | with_reducible refine wp_orV.mpr ?_ | with_reducible refine wp_notV.mpr ?_ | with_reducible refine wp_if.mpr ?_ | with_reducible refine wp_nil.mpr ?_ | with_reducible refine wp_cons.mpr ?_ | with_reducible refine wp_tup.mpr ?_ | with_reducible refine wp_lst.mpr ?_ | with_reducible refine wp_call.mpr ?_ | with_reducible refine wp_isi.mpr ?_ | with_reducible refine wp_isiT.mpr ?_ | with_reducible refine wp_part.mpr ?_ | with_reducible refine wp_sl.mpr ?_ | with_reducible refine wp_callF.mpr ?_ | with_reducible refine wp_callK.mpr ?_ | with_reducible refine wp_pure.mpr ?_ | with_reducible refine wp_put.mpr ?_ | with_reducible refine wp_rng1.mpr ?_ | with_reducible refine wp_rng2.mpr ?_ | with_reducible refine wp_itA.mpr ?_ | with_reducible refine wp_tname.mpr ?_ | ((with_reducible apply wp_dat); exact rfl) | ((with_reducible apply wp_ixN2); exact rfl) | refine yes ?_ | refine no ?_ | refine And.intro (Nat.le_of_ble_eq_true rfl) ?_ | refine And.intro (sz (Nat.le_of_ble_eq_true rfl)) ?_ | refine Exists.intro _ (And.intro (gEq_int _ _) ?_) | ((with_reducible apply ex_and); exact rfl) | ((with_reducible apply ex_bool); exact rfl) | ((with_reducible apply ex_int); exact rfl) | ((with_reducible refine And.intro ?_ ?_); exact rfl) | fail))
  exact x_check_numbers v w h (fun e => ⟨Nat.le_of_ble_eq_true rfl, q1 e⟩) (fun e => ⟨Nat.le_of_ble_eq_true rfl, q2 e⟩)
theorem x_times (v w : D) (h : isPair v = false ∨ (isPair v = true ∧ isPair w = false)) {X : Str → D → List A → Prop} (q1 : isPair v = false → X "InvalidNumber" v [.und, .und]) (q2 : isPair v = true → X "InvalidNumber" w [.und, .und]) : Gx f_times [.dat v, .dat w] X := by
  apply gx_run
  unfold fb_times
  apply wx_seq1
  apply wx_drop
  apply wx_callF
  (repeat' (first | with_reducible refine wp_seq.mpr ?_ | with_reducible refine wp_ret.mpr ?_ | with_reducible refine wp_retN.mpr ?_ | with_reducible refine wp_skip.mpr ?_ | with_reducible refine wp_brk.mpr ?_ | with_reducible refine wp_cnt.mpr ?_ | with_reducible refine wp_ifS.mpr ?_ | with_reducible refine wp_drop.mpr ?_ | with_reducible refine wp_set.mpr ?_ | with_reducible refine wp_par.mpr ?_ | with_reducible refine wp_setIx.mpr ?_ | with_reducible refine wp_forS.mpr ?_ | with_reducible refine wp_op.mpr ?_ | with_reducible refine wp_neg.mpr ?_ | with_reducible refine wp_is.mpr ?_ | with_reducible refine wp_isnt.mpr ?_ | with_reducible refine wp_tru.mpr ?_ | with_reducible refine wp_tst.mpr ?_ | with_reducible refine wp_and.mpr ?_ | with_reducible refine wp_or.mpr ?_ | with_reducible refine wp_not.mpr ?_ | with_reducible refine wp_andV.mpr ?_ | with_reducible refine wp_orV.mpr ?_ | with_reducible refine wp_notV.mpr ?_ | with_reducible refine wp_if.mpr ?_ | with_reducible refine wp_nil.mpr ?_ | with_reducible refine wp_cons.mpr ?_ | with_reducible refine wp_tup.mpr ?_ | with_reducible refine wp_lst.mpr ?_ | with_reducible refine wp_call.mpr ?_ | with_reducible refine wp_isi.mpr ?_ | with_reducible refine wp_isiT.mpr ?_ | with_reducible refine wp_part.mpr ?_ | with_reducible refine wp_sl.mpr ?_ | with_reducible refine wp_callF.mpr ?_ | with_reducible refine wp_callK.mpr ?_ | with_reducible refine wp_pure.mpr ?_ | with_reducible refine wp_put.mpr ?_ | with_reducible refine wp_rng1.mpr ?_ | with_reducible refine wp_rng2.mpr ?_ | with_reducible refine wp_itA.mpr ?_ | with_reducible refine wp_tname.mpr ?_ | ((with_reducible apply wp_dat); exact rfl) | ((with_reducible apply wp_ixN2); exact rfl) | refine yes ?_ | refine no ?_ | refine And.intro (Nat.le_of_ble_eq_true rfl) ?_ | refine And.intro (sz (Nat.le_of_ble_eq_true rfl)) ?_ | refine Exists.intro _ (And.intro (gEq_int _ _) ?_) | ((with_reducible apply ex_and); exact rfl) | ((with_reducible apply ex_bool); exact rfl) | ((with_reducible apply ex_int); exact rfl) | ((with_reducible refine And.intro ?_ ?_); exact rfl) | fail))
  exact x_check_numbers v w h (fun e => ⟨Nat.le_of_ble_eq_true rfl, q1 e⟩) (fun e => ⟨Nat.le_of_ble_eq_true rfl, q2 e⟩)
theorem x_sign (v : D) (h : isPair v = false) {X : Str → D → List A → Prop} (q : X "InvalidNumber" v [.und]) : Gx f_sign [.dat v] X := by
  apply gx_run
  unfold fb_sign
  apply wx_seq1
  apply wx_ifS
  (repeat' (first | refine v_is_pair _ ?_ | with_reducible refine wp_seq.mpr ?_ | with_reducible refine wp_ret.mpr ?_ | with_reducible refine wp_retN.mpr ?_ | with_reducible refine wp_skip.mpr ?_ | with_reducible refine wp_brk.mpr ?_ | with_reducible refine wp_cnt.mpr ?_ | with_reducible refine wp_ifS.mpr ?_ | with_reducible refine wp_drop.mpr ?_ | with_reducible refine wp_set.mpr ?_ | with_reducible refine wp_par.mpr ?_ | with_reducible refine wp_setIx.mpr ?_ | with_reducible refine wp_forS.mpr ?_ | with_reducible refine wp_op.mpr ?_ | with_reducible refine wp_neg.mpr ?_ | with_reducible refine wp_is.mpr ?_ | with_reducible refine wp_isnt.mpr ?_ | with_reducible refine wp_tru.mpr ?_ | with_reducible refine wp_tst.mpr ?_ | with_reducible refine wp_and.mpr ?_ | with_reducible refine wp_or.mpr ?_ | with_reducible refine wp_not.mpr ?_ | with_reducible refine wp_andV.mpr ?_ | with_reducible refine wp_orV.mpr ?_ | with_reducible refine wp_notV.mpr ?_ | with_reducible refine wp_if.mpr ?_ | with_reducible refine wp_nil.mpr ?_ | with_reducible refine wp_cons.mpr ?_ | with_reducible refine wp_tup.mpr ?_ | with_reducible refine wp_lst.mpr ?_ | with_reducible refine wp_call.mpr ?_ | with_reducible refine wp_isi.mpr ?_ | with_reducible refine wp_isiT.mpr ?_ | with_reducible refine wp_part.mpr ?_ | with_reducible refine wp_sl.mpr ?_ | with_reducible refine wp_callF.mpr ?_ | with_reducible refine wp_callK.mpr ?_ | with_reducible refine wp_pure.mpr ?_ | with_reducible refine wp_put.mpr ?_ | with_reducible refine wp_rng1.mpr ?_ | with_reducible refine wp_rng2.mpr ?_ | with_reducible refine wp_itA.mpr ?_ | with_reducible refine wp_tname.mpr ?_ | ((with_reducible apply wp_dat); exact rfl) | ((with_reducible apply wp_ixN2); exact rfl) | refine yes ?_ | refine no ?_ | refine And.intro (Nat.le_of_ble_eq_true rfl) ?_ | refine And.intro (sz (Nat.le_of_ble_eq_true rfl)) ?_ | refine Exists.intro _ (And.intro (gEq_int _ _) ?_) | ((with_reducible apply ex_and); exact rfl) | ((with_reducible apply ex_bool); exact rfl) | ((with_reducible apply ex_int); exact rfl) | ((with_reducible refine And.intro ?_ ?_); exact rfl) | (rw [h]) | apply wx_raise | fail))
  exact q
def sgL (w r : Int) : Int := if 0 ≤ w * r then sgI (w + r) else if w * w < 5 * r * r then sgI r else sgI w
theorem v_law_sign (a b : Int) (h1 : CMulW 2 a) (h2 : CMulW (2 * a + b) (2 * a + b)) (h3 : CMulW 5 b) (h4 : CMulW (5 * b) b) (h5 : CMulW (2 * a + b) b) {Q : D → List A → Prop} (q : Q (.int (sgL (2 * a + b) b)) [.und]) : Gv f__law_sign [.dat (pr a b)] Q := by
  have q' : ∀ s, s = sgL (2 * a + b) b → Q (.int s) [.und] := fun s e => e ▸ q
  clear q
  apply gv_run
  unfold fb__law_sign
  (repeat' (first | with_reducible refine ex_and (gMul_ok h1) ?_ | with_reducible refine ex_and (gMul_ok h2) ?_ | with_reducible refine ex_and (gMul_ok h3) ?_ | with_reducible refine ex_and (gMul_ok h4) ?_ | with_reducible refine ex_and (gMul_ok h5) ?_ | with_reducible refine wp_seq.mpr ?_ | with_reducible refine wp_ret.mpr ?_ | with_reducible refine wp_retN.mpr ?_ | with_reducible refine wp_skip.mpr ?_ | with_reducible refine wp_brk.mpr ?_ | with_reducible refine wp_cnt.mpr ?_ | with_reducible refine wp_ifS.mpr ?_ | with_reducible refine wp_drop.mpr ?_ | with_reducible refine wp_set.mpr ?_ | with_reducible refine wp_par.mpr ?_ | with_reducible refine wp_setIx.mpr ?_ | with_reducible refine wp_forS.mpr ?_ | with_reducible refine wp_op.mpr ?_ | with_reducible refine wp_neg.mpr ?_ | with_reducible refine wp_is.mpr ?_ | with_reducible refine wp_isnt.mpr ?_ | with_reducible refine wp_tru.mpr ?_ | with_reducible refine wp_tst.mpr ?_ | with_reducible refine wp_and.mpr ?_ | with_reducible refine wp_or.mpr ?_ | with_reducible refine wp_not.mpr ?_ | with_reducible refine wp_andV.mpr ?_ | with_reducible refine wp_orV.mpr ?_ | with_reducible refine wp_notV.mpr ?_ | with_reducible refine wp_if.mpr ?_ | with_reducible refine wp_nil.mpr ?_ | with_reducible refine wp_cons.mpr ?_ | with_reducible refine wp_tup.mpr ?_ | with_reducible refine wp_lst.mpr ?_ | with_reducible refine wp_call.mpr ?_ | with_reducible refine wp_isi.mpr ?_ | with_reducible refine wp_isiT.mpr ?_ | with_reducible refine wp_part.mpr ?_ | with_reducible refine wp_sl.mpr ?_ | with_reducible refine wp_callF.mpr ?_ | with_reducible refine wp_callK.mpr ?_ | with_reducible refine wp_pure.mpr ?_ | with_reducible refine wp_put.mpr ?_ | with_reducible refine wp_rng1.mpr ?_ | with_reducible refine wp_rng2.mpr ?_ | with_reducible refine wp_itA.mpr ?_ | with_reducible refine wp_tname.mpr ?_ | ((with_reducible apply wp_dat); exact rfl) | ((with_reducible apply wp_ixN2); exact rfl) | refine yes ?_ | refine no ?_ | refine And.intro (Nat.le_of_ble_eq_true rfl) ?_ | refine And.intro (sz (Nat.le_of_ble_eq_true rfl)) ?_ | refine Exists.intro _ (And.intro (gEq_int _ _) ?_) | ((with_reducible apply ex_and); exact rfl) | ((with_reducible apply ex_bool); exact rfl) | ((with_reducible apply ex_int); exact rfl) | ((with_reducible refine And.intro ?_ ?_); exact rfl) | with_reducible refine both (fun hb => ?_) (fun hb => ?_) | fail))
  all_goals
    refine q' _ ?_
    simp only [decide_eq_true_eq, decide_eq_false_iff_not] at *
    unfold sgL sgI b2i
    grind
end Hd

set_option maxHeartbeats 2000000
namespace Hd
open PySem PySem.Spec PyProof.Rows L2 L2.DL
/-- the law's feed: numbers, how many were drawn, what is left of the one at hand -/
def FD (n : Int) (fd : List D) : Prop := ∃ (ns : List Int) (t r : Int), fd = [.list (ns.map .int), .int t, .int r] ∧ ns.length ≤ 63 ∧ 0 ≤ t ∧ t ≤ n
theorem FD.mono {n m : Int} {fd : List D} (h : FD n fd) (l : n ≤ m) : FD m fd := by
  obtain ⟨ns, t, r, e, h1, h2, h3⟩ := h
  exact ⟨ns, t, r, e, h1, h2, by omega⟩
theorem gMod_ok {i j : Int} (h : 0 < j) : gMod (.int i) (.int j) = some (.int (i % j)) := if_pos (decide_eq_true h)
theorem gDiv_ok {i j : Int} (h : 0 < j) (g : j < 2 ^ 64) : gDiv (.int i) (.int j) = some (.int (i / j)) := by
  refine if_pos ?_
  unfold cDiv
  rw [Bool.and_eq_true]
  refine ⟨decide_eq_true h, decide_eq_true ?_⟩
  have := PySem.Flt.log2_lt_of (k := 64) (n := j.natAbs) (by decide) (by omega)
  omega
theorem bd_of {k : Nat} {x : Int} (h0 : 0 ≤ x) (h : x < 2 ^ k) : Bd k x := by
  unfold Bd
  have : ((x.natAbs : Nat) : Int) < ((2 ^ k : Nat) : Int) := by
    rw [Int.natAbs_of_nonneg h0]
    simpa using h
  exact Int.ofNat_lt.mp this
theorem bd_mod (x : Int) {m : Int} {k : Nat} (h0 : 0 < m) (h : m ≤ 2 ^ k) : Bd k (x % m) := bd_of (Int.emod_nonneg _ (by omega)) (Int.lt_of_lt_of_le (Int.emod_lt_of_pos _ h0) h)
theorem gMul_m1 (x : Int) : gMul (.int (x % 999979)) (.int (x % 999979)) = some (.int (x % 999979 * (x % 999979))) := gMul_ok (Bd.cm (bd_mod (k := 20) x (by decide) (by decide)) (bd_mod (k := 20) x (by decide) (by decide)))
theorem gMul_m2 (x : Int) : gMul (.int (x % 999979 * (x % 999979))) (.int 5) = some (.int (x % 999979 * (x % 999979) * 5)) := gMul_ok (Bd.cm ((bd_mod (k := 20) x (by decide) (by decide)).mul (bd_mod (k := 20) x (by decide) (by decide))) (bd_of (k := 3) (by decide) (by decide)))
theorem gMul_m3 (x : Int) : gMul (.int (x % 999979)) (.int 11) = some (.int (x % 999979 * 11)) := gMul_ok (Bd.cm (bd_mod (k := 20) x (by decide) (by decide)) (bd_of (k := 4) (by decide) (by decide)))
theorem gMul_m4 (x : Int) : gMul (.int (x % 2147483629)) (.int 69621) = some (.int (x % 2147483629 * 69621)) := gMul_ok (Bd.cm (bd_mod (k := 31) x (by decide) (by decide)) (bd_of (k := 17) (by decide) (by decide)))
theorem gIx_cells {ns : List Int} {t : Int} (h : 0 < ns.length) : ∃ c : Int, gIx (.list (ns.map PyData.int)) (.int (t % (ns.length : Int))) = some (.int c) := by
  have h1 : 0 ≤ t % (ns.length : Int) := Int.emod_nonneg _ (by omega)
  have h2 : t % (ns.length : Int) < ns.length := Int.emod_lt_of_pos _ (by omega)
  obtain ⟨k, hk⟩ := Int.eq_ofNat_of_zero_le h1
  rw [hk] at h2 ⊢
  have hl : k < ns.length := by omega
  refine ⟨ns[k], ?_⟩
  show atI (ns.map PyData.int) (k : Int) = _
  apply atI_nat
  simp [hl]
theorem cell_step {ns : List Int} {t : Int} {P : D → Prop} (h : decide (0 < ((ns.map PyData.int).length : Int)) = true) (k : ∀ c : Int, P (.int c)) : ∃ z, gMod (.int t) (.int ((ns.map PyData.int).length : Int)) = some z ∧ ∃ y, gIx (.list (ns.map PyData.int)) z = some y ∧ P y := by
  have h' : 0 < ((ns.map PyData.int).length : Int) := of_decide_eq_true h
  obtain ⟨c, hc⟩ := gIx_cells (ns := ns) (t := t) (by simpa using h')
  refine ⟨_, gMod_ok h', .int c, ?_, k c⟩
  rw [List.length_map]
  exact hc
theorem v_drawn {n many : Int} {fd : List D} (hf : FD n fd) (hn : n < 2 ^ 100) (h0 : 0 < many) (h1 : many < 2 ^ 64) {Q : D → List A → Prop} (q : ∀ v fd', 0 ≤ v → v < many → FD (n + 1) fd' → Q (.int v) [.own (some 0) (.l fd'), .und]) :
    Gv f__law_drawn [.own (some 0) (.l fd), .dat (.int many)] Q := by
  obtain ⟨ns, t, r, rfl, hl, ht, htn⟩ := hf
  have bt : Bd 100 t := bd_of ht (by omega)
  have c1 : CMulW t t := Bd.cm bt bt
  have c2 : CMulW (t * t) 307 := Bd.cm (bt.mul bt) (bd_of (k := 10) (by decide) (by decide))
  have c3 : CMulW t 53 := Bd.cm bt (bd_of (k := 10) (by decide) (by decide))
  have md : ∀ x : Int, 0 ≤ x % many ∧ x % many < many := fun x => ⟨Int.emod_nonneg _ (by omega), Int.emod_lt_of_pos _ h0⟩
  have f1 : ∀ r' : Int, FD (n + 1) [.list (ns.map .int), .int (t + 1), .int r'] := fun r' => ⟨ns, t + 1, r', rfl, hl, by omega, by omega⟩
  have f0 : ∀ r' : Int, FD (n + 1) [.list (ns.map .int), .int t, .int r'] := fun r' => ⟨ns, t, r', rfl, hl, by omega, by omega⟩
  apply gv_run
  unfold fb__law_drawn
  (repeat' (first | with_reducible refine ex_and (gMul_ok c1) ?_ | with_reducible refine ex_and (gMul_ok c2) ?_ | with_reducible refine ex_and (gMul_ok c3) ?_ | with_reducible refine ex_and (gMul_m1 _) ?_ | with_reducible refine ex_and (gMul_m2 _) ?_ | with_reducible refine ex_and (gMul_m3 _) ?_ | with_reducible refine ex_and (gMul_m4 _) ?_ | with_reducible refine ex_and (gMod_ok h0) ?_ | with_reducible refine ex_and (gDiv_ok h0 h1) ?_ | with_reducible refine wp_seq.mpr ?_ | with_reducible refine wp_ret.mpr ?_ | with_reducible refine wp_retN.mpr ?_ | with_reducible refine wp_skip.mpr ?_ | with_reducible refine wp_brk.mpr ?_ | with_reducible refine wp_cnt.mpr ?_ | with_reducible refine wp_ifS.mpr ?_ | with_reducible refine wp_drop.mpr ?_ | with_reducible refine wp_set.mpr ?_ | with_reducible refine wp_par.mpr ?_ | with_reducible refine wp_setIx.mpr ?_ | with_reducible refine wp_forS.mpr ?_ | with_reducible refine wp_op.mpr ?_ | with_reducible refine wp_neg.mpr ?_ | with_reducible refine wp_is.mpr ?_ | with_reducible refine wp_isnt.mpr ?_ | with_reducible refine wp_tru.mpr ?_ | with_reducible refine wp_tst.mpr ?_ | with_reducible refine wp_and.mpr ?_ | with_reducible refine wp_or.mpr ?_ | with_reducible refine wp_not.mpr ?_ | with_reducible refine wp_andV.mpr ?_ | with_reducible refine wp_orV.mpr ?_ | with_reducible refine wp_notV.mpr ?_ | with_reducible refine wp_if.mpr ?_ | with_reducible refine wp_nil.mpr ?_ | with_reducible refine wp_cons.mpr ?_ | with_reducible refine wp_tup.mpr ?_ | with_reducible refine wp_lst.mpr ?_ | with_reducible refine wp_call.mpr ?_ | with_reducible refine wp_isi.mpr ?_ | with_reducible refine wp_isiT.mpr ?_ | with_reducible refine wp_part.mpr ?_ | with_reducible refine wp_sl.mpr ?_ | with_reducible refine wp_callF.mpr ?_ | with_reducible refine wp_callK.mpr ?_ | with_reducible refine wp_pure.mpr ?_ | with_reducible refine wp_put.mpr ?_ | with_reducible refine wp_rng1.mpr ?_ | with_reducible refine wp_rng2.mpr ?_ | with_reducible refine wp_itA.mpr ?_ | with_reducible refine wp_tname.mpr ?_ | ((with_reducible apply wp_dat); exact rfl) | ((with_reducible apply wp_ixN2); exact rfl) | refine yes ?_ | refine no ?_ | refine And.intro (Nat.le_of_ble_eq_true rfl) ?_ | refine And.intro (sz (Nat.le_of_ble_eq_true rfl)) ?_ | refine Exists.intro _ (And.intro (gEq_int _ _) ?_) | ((with_reducible apply ex_and); exact rfl) | ((with_reducible apply ex_bool); exact rfl) | ((with_reducible apply ex_int); exact rfl) | ((with_reducible refine And.intro ?_ ?_); exact rfl) | (with_reducible refine cell_step (by assumption) (fun c => ?_)) | with_reducible refine both (fun hb => ?_) (fun hb => ?_) | fail))
  all_goals first
    | exact q _ _ (md _).1 (md _).2 (f1 _)
    | exact q _ _ (md _).1 (md _).2 (f0 _)
    | trace_state
end Hd

set_option maxHeartbeats 2000000
namespace Hd
open PySem PySem.Spec PyProof.Rows L2 L2.DL
theorem wp_draw {j : Nat} {ρ : List A} {io : Option Nat} {fd : List D} {n many : Int} {fs : M (List D)} {Q : D → List A → Prop} (h0 : ρ[j]? = some (.own io (.l fd))) (hs : Wp fs ρ fun xs ρ1 => xs = [.int many] ∧ ρ1 = ρ) (hf : FD n fd) (hn : n < 2 ^ 100) (m0 : 0 < many) (m1 : many < 2 ^ 64)
    (q : ∀ v fd', 0 ≤ v → v < many → FD (n + 1) fd' → Q (.int v) (ρ.set j (.own io (.l fd')))) : Wp (mcallR 2 f__law_drawn j fs) ρ Q := by
  refine wp_callR io (.l fd) h0 (hs.mono ?_)
  rintro _ _ ⟨rfl, rfl⟩
  refine ⟨rfl, h0, ?_⟩
  refine v_drawn hf hn m0 m1 fun v fd' a b c => ?_
  exact ⟨_, _, rfl, q v fd' a b c⟩
/-- another def that draws -/
theorem wp_lend {j n : Nat} {ρ : List A} {io : Option Nat} {fd : List D} {f : List A → Option (Rs D)} {fs : M (List D)} {xs : List D} {Q : D → List A → Prop} (h0 : ρ[j]? = some (.own io (.l fd))) (hs : Wp fs ρ fun ys ρ1 => ys = xs ∧ ρ1 = ρ) (hn : xs.length + 1 = n)
    (h : Gv f (.own (some 0) (.l fd) :: xs.map .dat) fun d ρ2 => ∃ fd' r, ρ2 = .own (some 0) (.l fd') :: r ∧ Q d (ρ.set j (.own io (.l fd')))) : Wp (mcallR n f j fs) ρ Q := by
  refine wp_callR io (.l fd) h0 (hs.mono ?_)
  rintro _ _ ⟨rfl, rfl⟩
  exact ⟨hn, h0, h.mono fun d ρ2 ⟨fd', r, e, q⟩ => ⟨_, r, e, q⟩⟩
theorem v_whole {n : Int} {fd : List D} (hf : FD n fd) (hn : n + 3 < 2 ^ 100) {Q : D → List A → Prop} (q : ∀ v fd', Bd 14 v → FD (n + 3) fd' → Q (.int v) [.own (some 0) (.l fd')]) : Gv f__law_whole [.own (some 0) (.l fd)] Q := by
  have q' : ∀ o v fd', 0 ≤ o → o < 9999 → v = o * 1 ∨ v = o * (-1) → FD (n + 1 + 1 + 1) fd' → Q (.int v) [.own (some 0) (.l fd')] := fun o v fd' h1 h2 h3 h4 => q v fd' (by unfold Bd; omega) (h4.mono (by omega))
  clear q
  have bm : ∀ o : Int, 0 ≤ o → o < 9999 → CMulW o 1 ∧ CMulW o (-1) := fun o h1 h2 => ⟨Bd.cm (j := 14) (k := 1) (by unfold Bd; omega) (by unfold Bd; decide), Bd.cm (j := 14) (k := 1) (by unfold Bd; omega) (by unfold Bd; decide)⟩
  apply gv_run
  unfold fb__law_whole
  (repeat' (first | with_reducible refine wp_seq.mpr ?_ | with_reducible refine wp_ret.mpr ?_ | with_reducible refine wp_retN.mpr ?_ | with_reducible refine wp_skip.mpr ?_ | with_reducible refine wp_brk.mpr ?_ | with_reducible refine wp_cnt.mpr ?_ | with_reducible refine wp_ifS.mpr ?_ | with_reducible refine wp_drop.mpr ?_ | with_reducible refine wp_set.mpr ?_ | with_reducible refine wp_par.mpr ?_ | with_reducible refine wp_setIx.mpr ?_ | with_reducible refine wp_forS.mpr ?_ | with_reducible refine wp_op.mpr ?_ | with_reducible refine wp_neg.mpr ?_ | with_reducible refine wp_is.mpr ?_ | with_reducible refine wp_isnt.mpr ?_ | with_reducible refine wp_tru.mpr ?_ | with_reducible refine wp_tst.mpr ?_ | with_reducible refine wp_and.mpr ?_ | with_reducible refine wp_or.mpr ?_ | with_reducible refine wp_not.mpr ?_ | with_reducible refine wp_andV.mpr ?_ | with_reducible refine wp_orV.mpr ?_ | with_reducible refine wp_notV.mpr ?_ | with_reducible refine wp_if.mpr ?_ | with_reducible refine wp_nil.mpr ?_ | with_reducible refine wp_cons.mpr ?_ | with_reducible refine wp_tup.mpr ?_ | with_reducible refine wp_lst.mpr ?_ | with_reducible refine wp_call.mpr ?_ | with_reducible refine wp_isi.mpr ?_ | with_reducible refine wp_isiT.mpr ?_ | with_reducible refine wp_part.mpr ?_ | with_reducible refine wp_sl.mpr ?_ | with_reducible refine wp_callF.mpr ?_ | with_reducible refine wp_callK.mpr ?_ | with_reducible refine wp_pure.mpr ?_ | with_reducible refine wp_put.mpr ?_ | with_reducible refine wp_rng1.mpr ?_ | with_reducible refine wp_rng2.mpr ?_ | with_reducible refine wp_itA.mpr ?_ | with_reducible refine wp_tname.mpr ?_ | ((with_reducible apply wp_dat); exact rfl) | ((with_reducible apply wp_ixN2); exact rfl) | refine yes ?_ | refine no ?_ | refine And.intro (Nat.le_of_ble_eq_true rfl) ?_ | refine And.intro (sz (Nat.le_of_ble_eq_true rfl)) ?_ | refine Exists.intro _ (And.intro (gEq_int _ _) ?_) | ((with_reducible apply ex_and); exact rfl) | ((with_reducible apply ex_bool); exact rfl) | ((with_reducible apply ex_int); exact rfl) | ((with_reducible refine And.intro ?_ ?_); exact rfl) | fail))
  refine wp_draw (many := 3) rfl ⟨_, _, rfl, rfl, rfl⟩ hf (by omega) (by decide) (by decide) fun v fd1 v0 v1 hf1 => ?_
  (repeat' (first | with_reducible refine wp_seq.mpr ?_ | with_reducible refine wp_ret.mpr ?_ | with_reducible refine wp_retN.mpr ?_ | with_reducible refine wp_skip.mpr ?_ | with_reducible refine wp_brk.mpr ?_ | with_reducible refine wp_cnt.mpr ?_ | with_reducible refine wp_ifS.mpr ?_ | with_reducible refine wp_drop.mpr ?_ | with_reducible refine wp_set.mpr ?_ | with_reducible refine wp_par.mpr ?_ | with_reducible refine wp_setIx.mpr ?_ | with_reducible refine wp_forS.mpr ?_ | with_reducible refine wp_op.mpr ?_ | with_reducible refine wp_neg.mpr ?_ | with_reducible refine wp_is.mpr ?_ | with_reducible refine wp_isnt.mpr ?_ | with_reducible refine wp_tru.mpr ?_ | with_reducible refine wp_tst.mpr ?_ | with_reducible refine wp_and.mpr ?_ | with_reducible refine wp_or.mpr ?_ | with_reducible refine wp_not.mpr ?_ | with_reducible refine wp_andV.mpr ?_ | with_reducible refine wp_orV.mpr ?_ | with_reducible refine wp_notV.mpr ?_ | with_reducible refine wp_if.mpr ?_ | with_reducible refine wp_nil.mpr ?_ | with_reducible refine wp_cons.mpr ?_ | with_reducible refine wp_tup.mpr ?_ | with_reducible refine wp_lst.mpr ?_ | with_reducible refine wp_call.mpr ?_ | with_reducible refine wp_isi.mpr ?_ | with_reducible refine wp_isiT.mpr ?_ | with_reducible refine wp_part.mpr ?_ | with_reducible refine wp_sl.mpr ?_ | with_reducible refine wp_callF.mpr ?_ | with_reducible refine wp_callK.mpr ?_ | with_reducible refine wp_pure.mpr ?_ | with_reducible refine wp_put.mpr ?_ | with_reducible refine wp_rng1.mpr ?_ | with_reducible refine wp_rng2.mpr ?_ | with_reducible refine wp_itA.mpr ?_ | with_reducible refine wp_tname.mpr ?_ | ((with_reducible apply wp_dat); exact rfl) | ((with_reducible apply wp_ixN2); exact rfl) | refine yes ?_ | refine no ?_ | refine And.intro (Nat.le_of_ble_eq_true rfl) ?_ | refine And.intro (sz (Nat.le_of_ble_eq_true rfl)) ?_ | refine Exists.intro _ (And.intro (gEq_int _ _) ?_) | ((with_reducible apply ex_and); exact rfl) | ((with_reducible apply ex_bool); exact rfl) | ((with_reducible apply ex_int); exact rfl) | ((with_reducible refine And.intro ?_ ?_); exact rfl) | fail))
  have hv : v = 0 ∨ v = 1 ∨ v = 2 := by omega
  rcases hv with rfl | rfl | rfl
  · refine wp_draw (many := 3) rfl ?_ hf1 (by omega) (by decide) (by decide) fun o fd2 o0 o1 hf2 => ?_
    · (repeat' (first | with_reducible refine wp_seq.mpr ?_ | with_reducible refine wp_ret.mpr ?_ | with_reducible refine wp_retN.mpr ?_ | with_reducible refine wp_skip.mpr ?_ | with_reducible refine wp_brk.mpr ?_ | with_reducible refine wp_cnt.mpr ?_ | with_reducible refine wp_ifS.mpr ?_ | with_reducible refine wp_drop.mpr ?_ | with_reducible refine wp_set.mpr ?_ | with_reducible refine wp_par.mpr ?_ | with_reducible refine wp_setIx.mpr ?_ | with_reducible refine wp_forS.mpr ?_ | with_reducible refine wp_op.mpr ?_ | with_reducible refine wp_neg.mpr ?_ | with_reducible refine wp_is.mpr ?_ | with_reducible refine wp_isnt.mpr ?_ | with_reducible refine wp_tru.mpr ?_ | with_reducible refine wp_tst.mpr ?_ | with_reducible refine wp_and.mpr ?_ | with_reducible refine wp_or.mpr ?_ | with_reducible refine wp_not.mpr ?_ | with_reducible refine wp_andV.mpr ?_ | with_reducible refine wp_orV.mpr ?_ | with_reducible refine wp_notV.mpr ?_ | with_reducible refine wp_if.mpr ?_ | with_reducible refine wp_nil.mpr ?_ | with_reducible refine wp_cons.mpr ?_ | with_reducible refine wp_tup.mpr ?_ | with_reducible refine wp_lst.mpr ?_ | with_reducible refine wp_call.mpr ?_ | with_reducible refine wp_isi.mpr ?_ | with_reducible refine wp_isiT.mpr ?_ | with_reducible refine wp_part.mpr ?_ | with_reducible refine wp_sl.mpr ?_ | with_reducible refine wp_callF.mpr ?_ | with_reducible refine wp_callK.mpr ?_ | with_reducible refine wp_pure.mpr ?_ | with_reducible refine wp_put.mpr ?_ | with_reducible refine wp_rng1.mpr ?_ | with_reducible refine wp_rng2.mpr ?_ | with_reducible refine wp_itA.mpr ?_ | with_reducible refine wp_tname.mpr ?_ | ((with_reducible apply wp_dat); exact rfl) | ((with_reducible apply wp_ixN2); exact rfl) | refine yes ?_ | refine no ?_ | refine And.intro (Nat.le_of_ble_eq_true rfl) ?_ | refine And.intro (sz (Nat.le_of_ble_eq_true rfl)) ?_ | refine Exists.intro _ (And.intro (gEq_int _ _) ?_) | ((with_reducible apply ex_and); exact rfl) | ((with_reducible apply ex_bool); exact rfl) | ((with_reducible apply ex_int); exact rfl) | ((with_reducible refine And.intro ?_ ?_); exact rfl) | fail))
      exact rfl
    have bb := bm o o0 (by omega)
    (repeat' (first | with_reducible refine wp_seq.mpr ?_ | with_reducible refine wp_ret.mpr ?_ | with_reducible refine wp_retN.mpr ?_ | with_reducible refine wp_skip.mpr ?_ | with_reducible refine wp_brk.mpr ?_ | with_reducible refine wp_cnt.mpr ?_ | with_reducible refine wp_ifS.mpr ?_ | with_reducible refine wp_drop.mpr ?_ | with_reducible refine wp_set.mpr ?_ | with_reducible refine wp_par.mpr ?_ | with_reducible refine wp_setIx.mpr ?_ | with_reducible refine wp_forS.mpr ?_ | with_reducible refine wp_op.mpr ?_ | with_reducible refine wp_neg.mpr ?_ | with_reducible refine wp_is.mpr ?_ | with_reducible refine wp_isnt.mpr ?_ | with_reducible refine wp_tru.mpr ?_ | with_reducible refine wp_tst.mpr ?_ | with_reducible refine wp_and.mpr ?_ | with_reducible refine wp_or.mpr ?_ | with_reducible refine wp_not.mpr ?_ | with_reducible refine wp_andV.mpr ?_ | with_reducible refine wp_orV.mpr ?_ | with_reducible refine wp_notV.mpr ?_ | with_reducible refine wp_if.mpr ?_ | with_reducible refine wp_nil.mpr ?_ | with_reducible refine wp_cons.mpr ?_ | with_reducible refine wp_tup.mpr ?_ | with_reducible refine wp_lst.mpr ?_ | with_reducible refine wp_call.mpr ?_ | with_reducible refine wp_isi.mpr ?_ | with_reducible refine wp_isiT.mpr ?_ | with_reducible refine wp_part.mpr ?_ | with_reducible refine wp_sl.mpr ?_ | with_reducible refine wp_callF.mpr ?_ | with_reducible refine wp_callK.mpr ?_ | with_reducible refine wp_pure.mpr ?_ | with_reducible refine wp_put.mpr ?_ | with_reducible refine wp_rng1.mpr ?_ | with_reducible refine wp_rng2.mpr ?_ | with_reducible refine wp_itA.mpr ?_ | with_reducible refine wp_tname.mpr ?_ | ((with_reducible apply wp_dat); exact rfl) | ((with_reducible apply wp_ixN2); exact rfl) | refine yes ?_ | refine no ?_ | refine And.intro (Nat.le_of_ble_eq_true rfl) ?_ | refine And.intro (sz (Nat.le_of_ble_eq_true rfl)) ?_ | refine Exists.intro _ (And.intro (gEq_int _ _) ?_) | ((with_reducible apply ex_and); exact rfl) | ((with_reducible apply ex_bool); exact rfl) | ((with_reducible apply ex_int); exact rfl) | ((with_reducible refine And.intro ?_ ?_); exact rfl) | fail))
    refine wp_draw (many := 2) rfl ?_ hf2 (by omega) (by decide) (by decide) fun s fd3 s0 s1 hf3 => ?_
    · (repeat' (first | with_reducible refine wp_seq.mpr ?_ | with_reducible refine wp_ret.mpr ?_ | with_reducible refine wp_retN.mpr ?_ | with_reducible refine wp_skip.mpr ?_ | with_reducible refine wp_brk.mpr ?_ | with_reducible refine wp_cnt.mpr ?_ | with_reducible refine wp_ifS.mpr ?_ | with_reducible refine wp_drop.mpr ?_ | with_reducible refine wp_set.mpr ?_ | with_reducible refine wp_par.mpr ?_ | with_reducible refine wp_setIx.mpr ?_ | with_reducible refine wp_forS.mpr ?_ | with_reducible refine wp_op.mpr ?_ | with_reducible refine wp_neg.mpr ?_ | with_reducible refine wp_is.mpr ?_ | with_reducible refine wp_isnt.mpr ?_ | with_reducible refine wp_tru.mpr ?_ | with_reducible refine wp_tst.mpr ?_ | with_reducible refine wp_and.mpr ?_ | with_reducible refine wp_or.mpr ?_ | with_reducible refine wp_not.mpr ?_ | with_reducible refine wp_andV.mpr ?_ | with_reducible refine wp_orV.mpr ?_ | with_reducible refine wp_notV.mpr ?_ | with_reducible refine wp_if.mpr ?_ | with_reducible refine wp_nil.mpr ?_ | with_reducible refine wp_cons.mpr ?_ | with_reducible refine wp_tup.mpr ?_ | with_reducible refine wp_lst.mpr ?_ | with_reducible refine wp_call.mpr ?_ | with_reducible refine wp_isi.mpr ?_ | with_reducible refine wp_isiT.mpr ?_ | with_reducible refine wp_part.mpr ?_ | with_reducible refine wp_sl.mpr ?_ | with_reducible refine wp_callF.mpr ?_ | with_reducible refine wp_callK.mpr ?_ | with_reducible refine wp_pure.mpr ?_ | with_reducible refine wp_put.mpr ?_ | with_reducible refine wp_rng1.mpr ?_ | with_reducible refine wp_rng2.mpr ?_ | with_reducible refine wp_itA.mpr ?_ | with_reducible refine wp_tname.mpr ?_ | ((with_reducible apply wp_dat); exact rfl) | ((with_reducible apply wp_ixN2); exact rfl) | refine yes ?_ | refine no ?_ | refine And.intro (Nat.le_of_ble_eq_true rfl) ?_ | refine And.intro (sz (Nat.le_of_ble_eq_true rfl)) ?_ | refine Exists.intro _ (And.intro (gEq_int _ _) ?_) | ((with_reducible apply ex_and); exact rfl) | ((with_reducible apply ex_bool); exact rfl) | ((with_reducible apply ex_int); exact rfl) | ((with_reducible refine And.intro ?_ ?_); exact rfl) | fail))
      exact rfl
    have hs : s = 0 ∨ s = 1 := by omega
    rcases hs with rfl | rfl
    · (repeat' (first | with_reducible refine ex_and (gMul_ok bb.1) ?_ | with_reducible refine wp_seq.mpr ?_ | with_reducible refine wp_ret.mpr ?_ | with_reducible refine wp_retN.mpr ?_ | with_reducible refine wp_skip.mpr ?_ | with_reducible refine wp_brk.mpr ?_ | with_reducible refine wp_cnt.mpr ?_ | with_reducible refine wp_ifS.mpr ?_ | with_reducible refine wp_drop.mpr ?_ | with_reducible refine wp_set.mpr ?_ | with_reducible refine wp_par.mpr ?_ | with_reducible refine wp_setIx.mpr ?_ | with_reducible refine wp_forS.mpr ?_ | with_reducible refine wp_op.mpr ?_ | with_reducible refine wp_neg.mpr ?_ | with_reducible refine wp_is.mpr ?_ | with_reducible refine wp_isnt.mpr ?_ | with_reducible refine wp_tru.mpr ?_ | with_reducible refine wp_tst.mpr ?_ | with_reducible refine wp_and.mpr ?_ | with_reducible refine wp_or.mpr ?_ | with_reducible refine wp_not.mpr ?_ | with_reducible refine wp_andV.mpr ?_ | with_reducible refine wp_orV.mpr ?_ | with_reducible refine wp_notV.mpr ?_ | with_reducible refine wp_if.mpr ?_ | with_reducible refine wp_nil.mpr ?_ | with_reducible refine wp_cons.mpr ?_ | with_reducible refine wp_tup.mpr ?_ | with_reducible refine wp_lst.mpr ?_ | with_reducible refine wp_call.mpr ?_ | with_reducible refine wp_isi.mpr ?_ | with_reducible refine wp_isiT.mpr ?_ | with_reducible refine wp_part.mpr ?_ | with_reducible refine wp_sl.mpr ?_ | with_reducible refine wp_callF.mpr ?_ | with_reducible refine wp_callK.mpr ?_ | with_reducible refine wp_pure.mpr ?_ | with_reducible refine wp_put.mpr ?_ | with_reducible refine wp_rng1.mpr ?_ | with_reducible refine wp_rng2.mpr ?_ | with_reducible refine wp_itA.mpr ?_ | with_reducible refine wp_tname.mpr ?_ | ((with_reducible apply wp_dat); exact rfl) | ((with_reducible apply wp_ixN2); exact rfl) | refine yes ?_ | refine no ?_ | refine And.intro (Nat.le_of_ble_eq_true rfl) ?_ | refine And.intro (sz (Nat.le_of_ble_eq_true rfl)) ?_ | refine Exists.intro _ (And.intro (gEq_int _ _) ?_) | ((with_reducible apply ex_and); exact rfl) | ((with_reducible apply ex_bool); exact rfl) | ((with_reducible apply ex_int); exact rfl) | ((with_reducible refine And.intro ?_ ?_); exact rfl) | fail))
      exact q' o _ _ o0 (by omega) (.inl rfl) hf3
    · (repeat' (first | with_reducible refine ex_and (gMul_ok bb.2) ?_ | with_reducible refine wp_seq.mpr ?_ | with_reducible refine wp_ret.mpr ?_ | with_reducible refine wp_retN.mpr ?_ | with_reducible refine wp_skip.mpr ?_ | with_reducible refine wp_brk.mpr ?_ | with_reducible refine wp_cnt.mpr ?_ | with_reducible refine wp_ifS.mpr ?_ | with_reducible refine wp_drop.mpr ?_ | with_reducible refine wp_set.mpr ?_ | with_reducible refine wp_par.mpr ?_ | with_reducible refine wp_setIx.mpr ?_ | with_reducible refine wp_forS.mpr ?_ | with_reducible refine wp_op.mpr ?_ | with_reducible refine wp_neg.mpr ?_ | with_reducible refine wp_is.mpr ?_ | with_reducible refine wp_isnt.mpr ?_ | with_reducible refine wp_tru.mpr ?_ | with_reducible refine wp_tst.mpr ?_ | with_reducible refine wp_and.mpr ?_ | with_reducible refine wp_or.mpr ?_ | with_reducible refine wp_not.mpr ?_ | with_reducible refine wp_andV.mpr ?_ | with_reducible refine wp_orV.mpr ?_ | with_reducible refine wp_notV.mpr ?_ | with_reducible refine wp_if.mpr ?_ | with_reducible refine wp_nil.mpr ?_ | with_reducible refine wp_cons.mpr ?_ | with_reducible refine wp_tup.mpr ?_ | with_reducible refine wp_lst.mpr ?_ | with_reducible refine wp_call.mpr ?_ | with_reducible refine wp_isi.mpr ?_ | with_reducible refine wp_isiT.mpr ?_ | with_reducible refine wp_part.mpr ?_ | with_reducible refine wp_sl.mpr ?_ | with_reducible refine wp_callF.mpr ?_ | with_reducible refine wp_callK.mpr ?_ | with_reducible refine wp_pure.mpr ?_ | with_reducible refine wp_put.mpr ?_ | with_reducible refine wp_rng1.mpr ?_ | with_reducible refine wp_rng2.mpr ?_ | with_reducible refine wp_itA.mpr ?_ | with_reducible refine wp_tname.mpr ?_ | ((with_reducible apply wp_dat); exact rfl) | ((with_reducible apply wp_ixN2); exact rfl) | refine yes ?_ | refine no ?_ | refine And.intro (Nat.le_of_ble_eq_true rfl) ?_ | refine And.intro (sz (Nat.le_of_ble_eq_true rfl)) ?_ | refine Exists.intro _ (And.intro (gEq_int _ _) ?_) | ((with_reducible apply ex_and); exact rfl) | ((with_reducible apply ex_bool); exact rfl) | ((with_reducible apply ex_int); exact rfl) | ((with_reducible refine And.intro ?_ ?_); exact rfl) | fail))
      exact q' o _ _ o0 (by omega) (.inr rfl) hf3
  · refine wp_draw (many := 100) rfl ?_ hf1 (by omega) (by decide) (by decide) fun o fd2 o0 o1 hf2 => ?_
    · (repeat' (first | with_reducible refine wp_seq.mpr ?_ | with_reducible refine wp_ret.mpr ?_ | with_reducible refine wp_retN.mpr ?_ | with_reducible refine wp_skip.mpr ?_ | with_reducible refine wp_brk.mpr ?_ | with_reducible refine wp_cnt.mpr ?_ | with_reducible refine wp_ifS.mpr ?_ | with_reducible refine wp_drop.mpr ?_ | with_reducible refine wp_set.mpr ?_ | with_reducible refine wp_par.mpr ?_ | with_reducible refine wp_setIx.mpr ?_ | with_reducible refine wp_forS.mpr ?_ | with_reducible refine wp_op.mpr ?_ | with_reducible refine wp_neg.mpr ?_ | with_reducible refine wp_is.mpr ?_ | with_reducible refine wp_isnt.mpr ?_ | with_reducible refine wp_tru.mpr ?_ | with_reducible refine wp_tst.mpr ?_ | with_reducible refine wp_and.mpr ?_ | with_reducible refine wp_or.mpr ?_ | with_reducible refine wp_not.mpr ?_ | with_reducible refine wp_andV.mpr ?_ | with_reducible refine wp_orV.mpr ?_ | with_reducible refine wp_notV.mpr ?_ | with_reducible refine wp_if.mpr ?_ | with_reducible refine wp_nil.mpr ?_ | with_reducible refine wp_cons.mpr ?_ | with_reducible refine wp_tup.mpr ?_ | with_reducible refine wp_lst.mpr ?_ | with_reducible refine wp_call.mpr ?_ | with_reducible refine wp_isi.mpr ?_ | with_reducible refine wp_isiT.mpr ?_ | with_reducible refine wp_part.mpr ?_ | with_reducible refine wp_sl.mpr ?_ | with_reducible refine wp_callF.mpr ?_ | with_reducible refine wp_callK.mpr ?_ | with_reducible refine wp_pure.mpr ?_ | with_reducible refine wp_put.mpr ?_ | with_reducible refine wp_rng1.mpr ?_ | with_reducible refine wp_rng2.mpr ?_ | with_reducible refine wp_itA.mpr ?_ | with_reducible refine wp_tname.mpr ?_ | ((with_reducible apply wp_dat); exact rfl) | ((with_reducible apply wp_ixN2); exact rfl) | refine yes ?_ | refine no ?_ | refine And.intro (Nat.le_of_ble_eq_true rfl) ?_ | refine And.intro (sz (Nat.le_of_ble_eq_true rfl)) ?_ | refine Exists.intro _ (And.intro (gEq_int _ _) ?_) | ((with_reducible apply ex_and); exact rfl) | ((with_reducible apply ex_bool); exact rfl) | ((with_reducible apply ex_int); exact rfl) | ((with_reducible refine And.intro ?_ ?_); exact rfl) | fail))
      exact rfl
    have bb := bm o o0 (by omega)
    (repeat' (first | with_reducible refine wp_seq.mpr ?_ | with_reducible refine wp_ret.mpr ?_ | with_reducible refine wp_retN.mpr ?_ | with_reducible refine wp_skip.mpr ?_ | with_reducible refine wp_brk.mpr ?_ | with_reducible refine wp_cnt.mpr ?_ | with_reducible refine wp_ifS.mpr ?_ | with_reducible refine wp_drop.mpr ?_ | with_reducible refine wp_set.mpr ?_ | with_reducible refine wp_par.mpr ?_ | with_reducible refine wp_setIx.mpr ?_ | with_reducible refine wp_forS.mpr ?_ | with_reducible refine wp_op.mpr ?_ | with_reducible refine wp_neg.mpr ?_ | with_reducible refine wp_is.mpr ?_ | with_reducible refine wp_isnt.mpr ?_ | with_reducible refine wp_tru.mpr ?_ | with_reducible refine wp_tst.mpr ?_ | with_reducible refine wp_and.mpr ?_ | with_reducible refine wp_or.mpr ?_ | with_reducible refine wp_not.mpr ?_ | with_reducible refine wp_andV.mpr ?_ | with_reducible refine wp_orV.mpr ?_ | with_reducible refine wp_notV.mpr ?_ | with_reducible refine wp_if.mpr ?_ | with_reducible refine wp_nil.mpr ?_ | with_reducible refine wp_cons.mpr ?_ | with_reducible refine wp_tup.mpr ?_ | with_reducible refine wp_lst.mpr ?_ | with_reducible refine wp_call.mpr ?_ | with_reducible refine wp_isi.mpr ?_ | with_reducible refine wp_isiT.mpr ?_ | with_reducible refine wp_part.mpr ?_ | with_reducible refine wp_sl.mpr ?_ | with_reducible refine wp_callF.mpr ?_ | with_reducible refine wp_callK.mpr ?_ | with_reducible refine wp_pure.mpr ?_ | with_reducible refine wp_put.mpr ?_ | with_reducible refine wp_rng1.mpr ?_ | with_reducible refine wp_rng2.mpr ?_ | with_reducible refine wp_itA.mpr ?_ | with_reducible refine wp_tname.mpr ?_ | ((with_reducible apply wp_dat); exact rfl) | ((with_reducible apply wp_ixN2); exact rfl) | refine yes ?_ | refine no ?_ | refine And.intro (Nat.le_of_ble_eq_true rfl) ?_ | refine And.intro (sz (Nat.le_of_ble_eq_true rfl)) ?_ | refine Exists.intro _ (And.intro (gEq_int _ _) ?_) | ((with_reducible apply ex_and); exact rfl) | ((with_reducible apply ex_bool); exact rfl) | ((with_reducible apply ex_int); exact rfl) | ((with_reducible refine And.intro ?_ ?_); exact rfl) | fail))
    refine wp_draw (many := 2) rfl ?_ hf2 (by omega) (by decide) (by decide) fun s fd3 s0 s1 hf3 => ?_
    · (repeat' (first | with_reducible refine wp_seq.mpr ?_ | with_reducible refine wp_ret.mpr ?_ | with_reducible refine wp_retN.mpr ?_ | with_reducible refine wp_skip.mpr ?_ | with_reducible refine wp_brk.mpr ?_ | with_reducible refine wp_cnt.mpr ?_ | with_reducible refine wp_ifS.mpr ?_ | with_reducible refine wp_drop.mpr ?_ | with_reducible refine wp_set.mpr ?_ | with_reducible refine wp_par.mpr ?_ | with_reducible refine wp_setIx.mpr ?_ | with_reducible refine wp_forS.mpr ?_ | with_reducible refine wp_op.mpr ?_ | with_reducible refine wp_neg.mpr ?_ | with_reducible refine wp_is.mpr ?_ | with_reducible refine wp_isnt.mpr ?_ | with_reducible refine wp_tru.mpr ?_ | with_reducible refine wp_tst.mpr ?_ | with_reducible refine wp_and.mpr ?_ | with_reducible refine wp_or.mpr ?_ | with_reducible refine wp_not.mpr ?_ | with_reducible refine wp_andV.mpr ?_ | with_reducible refine wp_orV.mpr ?_ | with_reducible refine wp_notV.mpr ?_ | with_reducible refine wp_if.mpr ?_ | with_reducible refine wp_nil.mpr ?_ | with_reducible refine wp_cons.mpr ?_ | with_reducible refine wp_tup.mpr ?_ | with_reducible refine wp_lst.mpr ?_ | with_reducible refine wp_call.mpr ?_ | with_reducible refine wp_isi.mpr ?_ | with_reducible refine wp_isiT.mpr ?_ | with_reducible refine wp_part.mpr ?_ | with_reducible refine wp_sl.mpr ?_ | with_reducible refine wp_callF.mpr ?_ | with_reducible refine wp_callK.mpr ?_ | with_reducible refine wp_pure.mpr ?_ | with_reducible refine wp_put.mpr ?_ | with_reducible refine wp_rng1.mpr ?_ | with_reducible refine wp_rng2.mpr ?_ | with_reducible refine wp_itA.mpr ?_ | with_reducible refine wp_tname.mpr ?_ | ((with_reducible apply wp_dat); exact rfl) | ((with_reducible apply wp_ixN2); exact rfl) | refine yes ?_ | refine no ?_ | refine And.intro (Nat.le_of_ble_eq_true rfl) ?_ | refine And.intro (sz (Nat.le_of_ble_eq_true rfl)) ?_ | refine Exists.intro _ (And.intro (gEq_int _ _) ?_) | ((with_reducible apply ex_and); exact rfl) | ((with_reducible apply ex_bool); exact rfl) | ((with_reducible apply ex_int); exact rfl) | ((with_reducible refine And.intro ?_ ?_); exact rfl) | fail))
      exact rfl
    have hs : s = 0 ∨ s = 1 := by omega
    rcases hs with rfl | rfl
    · (repeat' (first | with_reducible refine ex_and (gMul_ok bb.1) ?_ | with_reducible refine wp_seq.mpr ?_ | with_reducible refine wp_ret.mpr ?_ | with_reducible refine wp_retN.mpr ?_ | with_reducible refine wp_skip.mpr ?_ | with_reducible refine wp_brk.mpr ?_ | with_reducible refine wp_cnt.mpr ?_ | with_reducible refine wp_ifS.mpr ?_ | with_reducible refine wp_drop.mpr ?_ | with_reducible refine wp_set.mpr ?_ | with_reducible refine wp_par.mpr ?_ | with_reducible refine wp_setIx.mpr ?_ | with_reducible refine wp_forS.mpr ?_ | with_reducible refine wp_op.mpr ?_ | with_reducible refine wp_neg.mpr ?_ | with_reducible refine wp_is.mpr ?_ | with_reducible refine wp_isnt.mpr ?_ | with_reducible refine wp_tru.mpr ?_ | with_reducible refine wp_tst.mpr ?_ | with_reducible refine wp_and.mpr ?_ | with_reducible refine wp_or.mpr ?_ | with_reducible refine wp_not.mpr ?_ | with_reducible refine wp_andV.mpr ?_ | with_reducible refine wp_orV.mpr ?_ | with_reducible refine wp_notV.mpr ?_ | with_reducible refine wp_if.mpr ?_ | with_reducible refine wp_nil.mpr ?_ | with_reducible refine wp_cons.mpr ?_ | with_reducible refine wp_tup.mpr ?_ | with_reducible refine wp_lst.mpr ?_ | with_reducible refine wp_call.mpr ?_ | with_reducible refine wp_isi.mpr ?_ | with_reducible refine wp_isiT.mpr ?_ | with_reducible refine wp_part.mpr ?_ | with_reducible refine wp_sl.mpr ?_ | with_reducible refine wp_callF.mpr ?_ | with_reducible refine wp_callK.mpr ?_ | with_reducible refine wp_pure.mpr ?_ | with_reducible refine wp_put.mpr ?_ | with_reducible refine wp_rng1.mpr ?_ | with_reducible refine wp_rng2.mpr ?_ | with_reducible refine wp_itA.mpr ?_ | with_reducible refine wp_tname.mpr ?_ | ((with_reducible apply wp_dat); exact rfl) | ((with_reducible apply wp_ixN2); exact rfl) | refine yes ?_ | refine no ?_ | refine And.intro (Nat.le_of_ble_eq_true rfl) ?_ | refine And.intro (sz (Nat.le_of_ble_eq_true rfl)) ?_ | refine Exists.intro _ (And.intro (gEq_int _ _) ?_) | ((with_reducible apply ex_and); exact rfl) | ((with_reducible apply ex_bool); exact rfl) | ((with_reducible apply ex_int); exact rfl) | ((with_reducible refine And.intro ?_ ?_); exact rfl) | fail))
      exact q' o _ _ o0 (by omega) (.inl rfl) hf3
    · (repeat' (first | with_reducible refine ex_and (gMul_ok bb.2) ?_ | with_reducible refine wp_seq.mpr ?_ | with_reducible refine wp_ret.mpr ?_ | with_reducible refine wp_retN.mpr ?_ | with_reducible refine wp_skip.mpr ?_ | with_reducible refine wp_brk.mpr ?_ | with_reducible refine wp_cnt.mpr ?_ | with_reducible refine wp_ifS.mpr ?_ | with_reducible refine wp_drop.mpr ?_ | with_reducible refine wp_set.mpr ?_ | with_reducible refine wp_par.mpr ?_ | with_reducible refine wp_setIx.mpr ?_ | with_reducible refine wp_forS.mpr ?_ | with_reducible refine wp_op.mpr ?_ | with_reducible refine wp_neg.mpr ?_ | with_reducible refine wp_is.mpr ?_ | with_reducible refine wp_isnt.mpr ?_ | with_reducible refine wp_tru.mpr ?_ | with_reducible refine wp_tst.mpr ?_ | with_reducible refine wp_and.mpr ?_ | with_reducible refine wp_or.mpr ?_ | with_reducible refine wp_not.mpr ?_ | with_reducible refine wp_andV.mpr ?_ | with_reducible refine wp_orV.mpr ?_ | with_reducible refine wp_notV.mpr ?_ | with_reducible refine wp_if.mpr ?_ | with_reducible refine wp_nil.mpr ?_ | with_reducible refine wp_cons.mpr ?_ | with_reducible refine wp_tup.mpr ?_ | with_reducible refine wp_lst.mpr ?_ | with_reducible refine wp_call.mpr ?_ | with_reducible refine wp_isi.mpr ?_ | with_reducible refine wp_isiT.mpr ?_ | with_reducible refine wp_part.mpr ?_ | with_reducible refine wp_sl.mpr ?_ | with_reducible refine wp_callF.mpr ?_ | with_reducible refine wp_callK.mpr ?_ | with_reducible refine wp_pure.mpr ?_ | with_reducible refine wp_put.mpr ?_ | with_reducible refine wp_rng1.mpr ?_ | with_reducible refine wp_rng2.mpr ?_ | with_reducible refine wp_itA.mpr ?_ | with_reducible refine wp_tname.mpr ?_ | ((with_reducible apply wp_dat); exact rfl) | ((with_reducible apply wp_ixN2); exact rfl) | refine yes ?_ | refine no ?_ | refine And.intro (Nat.le_of_ble_eq_true rfl) ?_ | refine And.intro (sz (Nat.le_of_ble_eq_true rfl)) ?_ | refine Exists.intro _ (And.intro (gEq_int _ _) ?_) | ((with_reducible apply ex_and); exact rfl) | ((with_reducible apply ex_bool); exact rfl) | ((with_reducible apply ex_int); exact rfl) | ((with_reducible refine And.intro ?_ ?_); exact rfl) | fail))
      exact q' o _ _ o0 (by omega) (.inr rfl) hf3
  · refine wp_draw (many := 9999) rfl ?_ hf1 (by omega) (by decide) (by decide) fun o fd2 o0 o1 hf2 => ?_
    · (repeat' (first | with_reducible refine wp_seq.mpr ?_ | with_reducible refine wp_ret.mpr ?_ | with_reducible refine wp_retN.mpr ?_ | with_reducible refine wp_skip.mpr ?_ | with_reducible refine wp_brk.mpr ?_ | with_reducible refine wp_cnt.mpr ?_ | with_reducible refine wp_ifS.mpr ?_ | with_reducible refine wp_drop.mpr ?_ | with_reducible refine wp_set.mpr ?_ | with_reducible refine wp_par.mpr ?_ | with_reducible refine wp_setIx.mpr ?_ | with_reducible refine wp_forS.mpr ?_ | with_reducible refine wp_op.mpr ?_ | with_reducible refine wp_neg.mpr ?_ | with_reducible refine wp_is.mpr ?_ | with_reducible refine wp_isnt.mpr ?_ | with_reducible refine wp_tru.mpr ?_ | with_reducible refine wp_tst.mpr ?_ | with_reducible refine wp_and.mpr ?_ | with_reducible refine wp_or.mpr ?_ | with_reducible refine wp_not.mpr ?_ | with_reducible refine wp_andV.mpr ?_ | with_reducible refine wp_orV.mpr ?_ | with_reducible refine wp_notV.mpr ?_ | with_reducible refine wp_if.mpr ?_ | with_reducible refine wp_nil.mpr ?_ | with_reducible refine wp_cons.mpr ?_ | with_reducible refine wp_tup.mpr ?_ | with_reducible refine wp_lst.mpr ?_ | with_reducible refine wp_call.mpr ?_ | with_reducible refine wp_isi.mpr ?_ | with_reducible refine wp_isiT.mpr ?_ | with_reducible refine wp_part.mpr ?_ | with_reducible refine wp_sl.mpr ?_ | with_reducible refine wp_callF.mpr ?_ | with_reducible refine wp_callK.mpr ?_ | with_reducible refine wp_pure.mpr ?_ | with_reducible refine wp_put.mpr ?_ | with_reducible refine wp_rng1.mpr ?_ | with_reducible refine wp_rng2.mpr ?_ | with_reducible refine wp_itA.mpr ?_ | with_reducible refine wp_tname.mpr ?_ | ((with_reducible apply wp_dat); exact rfl) | ((with_reducible apply wp_ixN2); exact rfl) | refine yes ?_ | refine no ?_ | refine And.intro (Nat.le_of_ble_eq_true rfl) ?_ | refine And.intro (sz (Nat.le_of_ble_eq_true rfl)) ?_ | refine Exists.intro _ (And.intro (gEq_int _ _) ?_) | ((with_reducible apply ex_and); exact rfl) | ((with_reducible apply ex_bool); exact rfl) | ((with_reducible apply ex_int); exact rfl) | ((with_reducible refine And.intro ?_ ?_); exact rfl) | fail))
      exact rfl
    have bb := bm o o0 (by omega)
    (repeat' (first | with_reducible refine wp_seq.mpr ?_ | with_reducible refine wp_ret.mpr ?_ | with_reducible refine wp_retN.mpr ?_ | with_reducible refine wp_skip.mpr ?_ | with_reducible refine wp_brk.mpr ?_ | with_reducible refine wp_cnt.mpr ?_ | with_reducible refine wp_ifS.mpr ?_ | with_reducible refine wp_drop.mpr ?_ | with_reducible refine wp_set.mpr ?_ | with_reducible refine wp_par.mpr ?_ | with_reducible refine wp_setIx.mpr ?_ | with_reducible refine wp_forS.mpr ?_ | with_reducible refine wp_op.mpr ?_ | with_reducible refine wp_neg.mpr ?_ | with_reducible refine wp_is.mpr ?_ | with_reducible refine wp_isnt.mpr ?_ | with_reducible refine wp_tru.mpr ?_ | with_reducible refine wp_tst.mpr ?_ | with_reducible refine wp_and.mpr ?_ | with_reducible refine wp_or.mpr ?_ | with_reducible refine wp_not.mpr ?_ | with_reducible refine wp_andV.mpr ?_ | with_reducible refine wp_orV.mpr ?_ | with_reducible refine wp_notV.mpr ?_ | with_reducible refine wp_if.mpr ?_ | with_reducible refine wp_nil.mpr ?_ | with_reducible refine wp_cons.mpr ?_ | with_reducible refine wp_tup.mpr ?_ | with_reducible refine wp_lst.mpr ?_ | with_reducible refine wp_call.mpr ?_ | with_reducible refine wp_isi.mpr ?_ | with_reducible refine wp_isiT.mpr ?_ | with_reducible refine wp_part.mpr ?_ | with_reducible refine wp_sl.mpr ?_ | with_reducible refine wp_callF.mpr ?_ | with_reducible refine wp_callK.mpr ?_ | with_reducible refine wp_pure.mpr ?_ | with_reducible refine wp_put.mpr ?_ | with_reducible refine wp_rng1.mpr ?_ | with_reducible refine wp_rng2.mpr ?_ | with_reducible refine wp_itA.mpr ?_ | with_reducible refine wp_tname.mpr ?_ | ((with_reducible apply wp_dat); exact rfl) | ((with_reducible apply wp_ixN2); exact rfl) | refine yes ?_ | refine no ?_ | refine And.intro (Nat.le_of_ble_eq_true rfl) ?_ | refine And.intro (sz (Nat.le_of_ble_eq_true rfl)) ?_ | refine Exists.intro _ (And.intro (gEq_int _ _) ?_) | ((with_reducible apply ex_and); exact rfl) | ((with_reducible apply ex_bool); exact rfl) | ((with_reducible apply ex_int); exact rfl) | ((with_reducible refine And.intro ?_ ?_); exact rfl) | fail))
    refine wp_draw (many := 2) rfl ?_ hf2 (by omega) (by decide) (by decide) fun s fd3 s0 s1 hf3 => ?_
    · (repeat' (first | with_reducible refine wp_seq.mpr ?_ | with_reducible refine wp_ret.mpr ?_ | with_reducible refine wp_retN.mpr ?_ | with_reducible refine wp_skip.mpr ?_ | with_reducible refine wp_brk.mpr ?_ | with_reducible refine wp_cnt.mpr ?_ | with_reducible refine wp_ifS.mpr ?_ | with_reducible refine wp_drop.mpr ?_ | with_reducible refine wp_set.mpr ?_ | with_reducible refine wp_par.mpr ?_ | with_reducible refine wp_setIx.mpr ?_ | with_reducible refine wp_forS.mpr ?_ | with_reducible refine wp_op.mpr ?_ | with_reducible refine wp_neg.mpr ?_ | with_reducible refine wp_is.mpr ?_ | with_reducible refine wp_isnt.mpr ?_ | with_reducible refine wp_tru.mpr ?_ | with_reducible refine wp_tst.mpr ?_ | with_reducible refine wp_and.mpr ?_ | with_reducible refine wp_or.mpr ?_ | with_reducible refine wp_not.mpr ?_ | with_reducible refine wp_andV.mpr ?_ | with_reducible refine wp_orV.mpr ?_ | with_reducible refine wp_notV.mpr ?_ | with_reducible refine wp_if.mpr ?_ | with_reducible refine wp_nil.mpr ?_ | with_reducible refine wp_cons.mpr ?_ | with_reducible refine wp_tup.mpr ?_ | with_reducible refine wp_lst.mpr ?_ | with_reducible refine wp_call.mpr ?_ | with_reducible refine wp_isi.mpr ?_ | with_reducible refine wp_isiT.mpr ?_ | with_reducible refine wp_part.mpr ?_ | with_reducible refine wp_sl.mpr ?_ | with_reducible refine wp_callF.mpr ?_ | with_reducible refine wp_callK.mpr ?_ | with_reducible refine wp_pure.mpr ?_ | with_reducible refine wp_put.mpr ?_ | with_reducible refine wp_rng1.mpr ?_ | with_reducible refine wp_rng2.mpr ?_ | with_reducible refine wp_itA.mpr ?_ | with_reducible refine wp_tname.mpr ?_ | ((with_reducible apply wp_dat); exact rfl) | ((with_reducible apply wp_ixN2); exact rfl) | refine yes ?_ | refine no ?_ | refine And.intro (Nat.le_of_ble_eq_true rfl) ?_ | refine And.intro (sz (Nat.le_of_ble_eq_true rfl)) ?_ | refine Exists.intro _ (And.intro (gEq_int _ _) ?_) | ((with_reducible apply ex_and); exact rfl) | ((with_reducible apply ex_bool); exact rfl) | ((with_reducible apply ex_int); exact rfl) | ((with_reducible refine And.intro ?_ ?_); exact rfl) | fail))
      exact rfl
    have hs : s = 0 ∨ s = 1 := by omega
    rcases hs with rfl | rfl
    · (repeat' (first | with_reducible refine ex_and (gMul_ok bb.1) ?_ | with_reducible refine wp_seq.mpr ?_ | with_reducible refine wp_ret.mpr ?_ | with_reducible refine wp_retN.mpr ?_ | with_reducible refine wp_skip.mpr ?_ | with_reducible refine wp_brk.mpr ?_ | with_reducible refine wp_cnt.mpr ?_ | with_reducible refine wp_ifS.mpr ?_ | with_reducible refine wp_drop.mpr ?_ | with_reducible refine wp_set.mpr ?_ | with_reducible refine wp_par.mpr ?_ | with_reducible refine wp_setIx.mpr ?_ | with_reducible refine wp_forS.mpr ?_ | with_reducible refine wp_op.mpr ?_ | with_reducible refine wp_neg.mpr ?_ | with_reducible refine wp_is.mpr ?_ | with_reducible refine wp_isnt.mpr ?_ | with_reducible refine wp_tru.mpr ?_ | with_reducible refine wp_tst.mpr ?_ | with_reducible refine wp_and.mpr ?_ | with_reducible refine wp_or.mpr ?_ | with_reducible refine wp_not.mpr ?_ | with_reducible refine wp_andV.mpr ?_ | with_reducible refine wp_orV.mpr ?_ | with_reducible refine wp_notV.mpr ?_ | with_reducible refine wp_if.mpr ?_ | with_reducible refine wp_nil.mpr ?_ | with_reducible refine wp_cons.mpr ?_ | with_reducible refine wp_tup.mpr ?_ | with_reducible refine wp_lst.mpr ?_ | with_reducible refine wp_call.mpr ?_ | with_reducible refine wp_isi.mpr ?_ | with_reducible refine wp_isiT.mpr ?_ | with_reducible refine wp_part.mpr ?_ | with_reducible refine wp_sl.mpr ?_ | with_reducible refine wp_callF.mpr ?_ | with_reducible refine wp_callK.mpr ?_ | with_reducible refine wp_pure.mpr ?_ | with_reducible refine wp_put.mpr ?_ | with_reducible refine wp_rng1.mpr ?_ | with_reducible refine wp_rng2.mpr ?_ | with_reducible refine wp_itA.mpr ?_ | with_reducible refine wp_tname.mpr ?_ | ((with_reducible apply wp_dat); exact rfl) | ((with_reducible apply wp_ixN2); exact rfl) | refine yes ?_ | refine no ?_ | refine And.intro (Nat.le_of_ble_eq_true rfl) ?_ | refine And.intro (sz (Nat.le_of_ble_eq_true rfl)) ?_ | refine Exists.intro _ (And.intro (gEq_int _ _) ?_) | ((with_reducible apply ex_and); exact rfl) | ((with_reducible apply ex_bool); exact rfl) | ((with_reducible apply ex_int); exact rfl) | ((with_reducible refine And.intro ?_ ?_); exact rfl) | fail))
      exact q' o _ _ o0 (by omega) (.inl rfl) hf3
    · (repeat' (first | with_reducible refine ex_and (gMul_ok bb.2) ?_ | with_reducible refine wp_seq.mpr ?_ | with_reducible refine wp_ret.mpr ?_ | with_reducible refine wp_retN.mpr ?_ | with_reducible refine wp_skip.mpr ?_ | with_reducible refine wp_brk.mpr ?_ | with_reducible refine wp_cnt.mpr ?_ | with_reducible refine wp_ifS.mpr ?_ | with_reducible refine wp_drop.mpr ?_ | with_reducible refine wp_set.mpr ?_ | with_reducible refine wp_par.mpr ?_ | with_reducible refine wp_setIx.mpr ?_ | with_reducible refine wp_forS.mpr ?_ | with_reducible refine wp_op.mpr ?_ | with_reducible refine wp_neg.mpr ?_ | with_reducible refine wp_is.mpr ?_ | with_reducible refine wp_isnt.mpr ?_ | with_reducible refine wp_tru.mpr ?_ | with_reducible refine wp_tst.mpr ?_ | with_reducible refine wp_and.mpr ?_ | with_reducible refine wp_or.mpr ?_ | with_reducible refine wp_not.mpr ?_ | with_reducible refine wp_andV.mpr ?_ | with_reducible refine wp_orV.mpr ?_ | with_reducible refine wp_notV.mpr ?_ | with_reducible refine wp_if.mpr ?_ | with_reducible refine wp_nil.mpr ?_ | with_reducible refine wp_cons.mpr ?_ | with_reducible refine wp_tup.mpr ?_ | with_reducible refine wp_lst.mpr ?_ | with_reducible refine wp_call.mpr ?_ | with_reducible refine wp_isi.mpr ?_ | with_reducible refine wp_isiT.mpr ?_ | with_reducible refine wp_part.mpr ?_ | with_reducible refine wp_sl.mpr ?_ | with_reducible refine wp_callF.mpr ?_ | with_reducible refine wp_callK.mpr ?_ | with_reducible refine wp_pure.mpr ?_ | with_reducible refine wp_put.mpr ?_ | with_reducible refine wp_rng1.mpr ?_ | with_reducible refine wp_rng2.mpr ?_ | with_reducible refine wp_itA.mpr ?_ | with_reducible refine wp_tname.mpr ?_ | ((with_reducible apply wp_dat); exact rfl) | ((with_reducible apply wp_ixN2); exact rfl) | refine yes ?_ | refine no ?_ | refine And.intro (Nat.le_of_ble_eq_true rfl) ?_ | refine And.intro (sz (Nat.le_of_ble_eq_true rfl)) ?_ | refine Exists.intro _ (And.intro (gEq_int _ _) ?_) | ((with_reducible apply ex_and); exact rfl) | ((with_reducible apply ex_bool); exact rfl) | ((with_reducible apply ex_int); exact rfl) | ((with_reducible refine And.intro ?_ ?_); exact rfl) | fail))
      exact q' o _ _ o0 (by omega) (.inr rfl) hf3
theorem near_loop {fd : List D} {most : D} (Q : Fl → List A → Prop) (k : Nat) (hk : k ≤ 40) (w : A) (q : ∀ x y : Int, 0 ≤ x → 0 ≤ y → x < 2 ^ 42 → y < 2 ^ 42 → ∀ t : A, Q .nx [.own (some 0) (.l fd), .dat most, .dat (.int x), .dat (.int y), t, .und]) (e4 : w = .und) :
    Wp (mfor (tname 4) (mpar [2, 3] (mcons (mvar 3) (mcons (mop gAdd (mvar 2) (mvar 3)) mnil))) (rngL 0 k)) [.own (some 0) (.l fd), .dat most, .dat (.int 1), .dat (.int 1), w, .und] Q := by
  subst e4
  refine wp_for (fun ds ρ => ∃ (x y : Int) (i : Nat) (t : A), ρ = [.own (some 0) (.l fd), .dat most, .dat (.int x), .dat (.int y), t, .und] ∧ (t = .und ∨ ∃ d, t = .dat d) ∧ i + ds.length = k ∧ 0 ≤ x ∧ 0 ≤ y ∧ x < 2 ^ (i + 1) ∧ y < 2 ^ (i + 1)) ?_ ?_ _ _ ?_
  · rintro d ds ρ ⟨x, y, i, t, rfl, ht, hi, hx, hy, bx, bY⟩
    have fin : ∃ (x' y' : Int) (i' : Nat) (t' : A), [A.own (some 0) (.l fd), .dat most, .dat (.int y), .dat (.int (x + y)), .dat d, .und] = [.own (some 0) (.l fd), .dat most, .dat (.int x'), .dat (.int y'), t', .und] ∧ (t' = .und ∨ ∃ d, t' = .dat d) ∧ i' + ds.length = k ∧ 0 ≤ x' ∧ 0 ≤ y' ∧ x' < 2 ^ (i' + 1) ∧ y' < 2 ^ (i' + 1) := by
      refine ⟨y, x + y, i + 1, .dat d, rfl, .inr ⟨d, rfl⟩, by simp at hi; omega, hy, by omega, ?_, ?_⟩
      · rw [Int.pow_succ]
        omega
      · rw [Int.pow_succ]
        omega
    rcases ht with rfl | ⟨d', rfl⟩
    · (repeat' (first | with_reducible refine wp_seq.mpr ?_ | with_reducible refine wp_ret.mpr ?_ | with_reducible refine wp_retN.mpr ?_ | with_reducible refine wp_skip.mpr ?_ | with_reducible refine wp_brk.mpr ?_ | with_reducible refine wp_cnt.mpr ?_ | with_reducible refine wp_ifS.mpr ?_ | with_reducible refine wp_drop.mpr ?_ | with_reducible refine wp_set.mpr ?_ | with_reducible refine wp_par.mpr ?_ | with_reducible refine wp_setIx.mpr ?_ | with_reducible refine wp_forS.mpr ?_ | with_reducible refine wp_op.mpr ?_ | with_reducible refine wp_neg.mpr ?_ | with_reducible refine wp_is.mpr ?_ | with_reducible refine wp_isnt.mpr ?_ | with_reducible refine wp_tru.mpr ?_ | with_reducible refine wp_tst.mpr ?_ | with_reducible refine wp_and.mpr ?_ | with_reducible refine wp_or.mpr ?_ | with_reducible refine wp_not.mpr ?_ | with_reducible refine wp_andV.mpr ?_ | with_reducible refine wp_orV.mpr ?_ | with_reducible refine wp_notV.mpr ?_ | with_reducible refine wp_if.mpr ?_ | with_reducible refine wp_nil.mpr ?_ | with_reducible refine wp_cons.mpr ?_ | with_reducible refine wp_tup.mpr ?_ | with_reducible refine wp_lst.mpr ?_ | with_reducible refine wp_call.mpr ?_ | with_reducible refine wp_isi.mpr ?_ | with_reducible refine wp_isiT.mpr ?_ | with_reducible refine wp_part.mpr ?_ | with_reducible refine wp_sl.mpr ?_ | with_reducible refine wp_callF.mpr ?_ | with_reducible refine wp_callK.mpr ?_ | with_reducible refine wp_pure.mpr ?_ | with_reducible refine wp_put.mpr ?_ | with_reducible refine wp_rng1.mpr ?_ | with_reducible refine wp_rng2.mpr ?_ | with_reducible refine wp_itA.mpr ?_ | with_reducible refine wp_tname.mpr ?_ | ((with_reducible apply wp_dat); exact rfl) | ((with_reducible apply wp_ixN2); exact rfl) | refine yes ?_ | refine no ?_ | refine And.intro (Nat.le_of_ble_eq_true rfl) ?_ | refine And.intro (sz (Nat.le_of_ble_eq_true rfl)) ?_ | refine Exists.intro _ (And.intro (gEq_int _ _) ?_) | ((with_reducible apply ex_and); exact rfl) | ((with_reducible apply ex_bool); exact rfl) | ((with_reducible apply ex_int); exact rfl) | ((with_reducible refine And.intro ?_ ?_); exact rfl) | fail))
      exact fin
    · (repeat' (first | with_reducible refine wp_seq.mpr ?_ | with_reducible refine wp_ret.mpr ?_ | with_reducible refine wp_retN.mpr ?_ | with_reducible refine wp_skip.mpr ?_ | with_reducible refine wp_brk.mpr ?_ | with_reducible refine wp_cnt.mpr ?_ | with_reducible refine wp_ifS.mpr ?_ | with_reducible refine wp_drop.mpr ?_ | with_reducible refine wp_set.mpr ?_ | with_reducible refine wp_par.mpr ?_ | with_reducible refine wp_setIx.mpr ?_ | with_reducible refine wp_forS.mpr ?_ | with_reducible refine wp_op.mpr ?_ | with_reducible refine wp_neg.mpr ?_ | with_reducible refine wp_is.mpr ?_ | with_reducible refine wp_isnt.mpr ?_ | with_reducible refine wp_tru.mpr ?_ | with_reducible refine wp_tst.mpr ?_ | with_reducible refine wp_and.mpr ?_ | with_reducible refine wp_or.mpr ?_ | with_reducible refine wp_not.mpr ?_ | with_reducible refine wp_andV.mpr ?_ | with_reducible refine wp_orV.mpr ?_ | with_reducible refine wp_notV.mpr ?_ | with_reducible refine wp_if.mpr ?_ | with_reducible refine wp_nil.mpr ?_ | with_reducible refine wp_cons.mpr ?_ | with_reducible refine wp_tup.mpr ?_ | with_reducible refine wp_lst.mpr ?_ | with_reducible refine wp_call.mpr ?_ | with_reducible refine wp_isi.mpr ?_ | with_reducible refine wp_isiT.mpr ?_ | with_reducible refine wp_part.mpr ?_ | with_reducible refine wp_sl.mpr ?_ | with_reducible refine wp_callF.mpr ?_ | with_reducible refine wp_callK.mpr ?_ | with_reducible refine wp_pure.mpr ?_ | with_reducible refine wp_put.mpr ?_ | with_reducible refine wp_rng1.mpr ?_ | with_reducible refine wp_rng2.mpr ?_ | with_reducible refine wp_itA.mpr ?_ | with_reducible refine wp_tname.mpr ?_ | ((with_reducible apply wp_dat); exact rfl) | ((with_reducible apply wp_ixN2); exact rfl) | refine yes ?_ | refine no ?_ | refine And.intro (Nat.le_of_ble_eq_true rfl) ?_ | refine And.intro (sz (Nat.le_of_ble_eq_true rfl)) ?_ | refine Exists.intro _ (And.intro (gEq_int _ _) ?_) | ((with_reducible apply ex_and); exact rfl) | ((with_reducible apply ex_bool); exact rfl) | ((with_reducible apply ex_int); exact rfl) | ((with_reducible refine And.intro ?_ ?_); exact rfl) | fail))
      exact fin
  · rintro ρ ⟨x, y, i, t, rfl, ht, hi, hx, hy, bx, bY⟩
    have hp : (2 : Int) ^ (i + 1) ≤ 2 ^ 42 := by
      have h := Nat.pow_le_pow_right (n := 2) (by decide) (show i + 1 ≤ 42 by simp at hi; omega)
      exact_mod_cast h
    exact q x y hx hy (by omega) (by omega) t
  · exact ⟨1, 1, 0, .und, rfl, .inl rfl, by simp [rngL], by decide, by decide, by decide, by decide⟩
def Num (v : D) : Prop := ∃ a b, v = pr a b ∧ Bd 43 a ∧ Bd 43 b
theorem grng1_lt {v : Int} (h0 : 0 ≤ v) (h : v < 1000) : grng1 (.int v) = some (rngL 0 v.toNat) := by
  show (if cR v = true then some (rngL 0 v.toNat) else none) = _
  rw [if_pos]
  unfold cR
  rw [Bool.and_eq_true]
  exact ⟨decide_eq_true (by omega), decide_eq_true (by omega)⟩
theorem v_near {n most : Int} {fd : List D} (hf : FD n fd) (hn : n + 3 < 2 ^ 100) (m0 : 0 < most) (m1 : most ≤ 40) {Q : D → List A → Prop} (q : ∀ v fd', Num v → FD (n + 3) fd' → Q v [.own (some 0) (.l fd'), .und]) : Gv f__law_near [.own (some 0) (.l fd), .dat (.int most)] Q := by
  have q' : ∀ a b fd', Bd 43 a → Bd 43 b → FD (n + 1 + 1 + 1) fd' → Q (pr a b) [.own (some 0) (.l fd'), .und] := fun a b fd' h1 h2 h4 => q _ fd' ⟨a, b, rfl, h1, h2⟩ (h4.mono (by omega))
  clear q
  apply gv_run
  unfold fb__law_near
  (repeat' (first | with_reducible refine wp_seq.mpr ?_ | with_reducible refine wp_ret.mpr ?_ | with_reducible refine wp_retN.mpr ?_ | with_reducible refine wp_skip.mpr ?_ | with_reducible refine wp_brk.mpr ?_ | with_reducible refine wp_cnt.mpr ?_ | with_reducible refine wp_ifS.mpr ?_ | with_reducible refine wp_drop.mpr ?_ | with_reducible refine wp_set.mpr ?_ | with_reducible refine wp_par.mpr ?_ | with_reducible refine wp_setIx.mpr ?_ | with_reducible refine wp_forS.mpr ?_ | with_reducible refine wp_op.mpr ?_ | with_reducible refine wp_neg.mpr ?_ | with_reducible refine wp_is.mpr ?_ | with_reducible refine wp_isnt.mpr ?_ | with_reducible refine wp_tru.mpr ?_ | with_reducible refine wp_tst.mpr ?_ | with_reducible refine wp_and.mpr ?_ | with_reducible refine wp_or.mpr ?_ | with_reducible refine wp_not.mpr ?_ | with_reducible refine wp_andV.mpr ?_ | with_reducible refine wp_orV.mpr ?_ | with_reducible refine wp_notV.mpr ?_ | with_reducible refine wp_if.mpr ?_ | with_reducible refine wp_nil.mpr ?_ | with_reducible refine wp_cons.mpr ?_ | with_reducible refine wp_tup.mpr ?_ | with_reducible refine wp_lst.mpr ?_ | with_reducible refine wp_call.mpr ?_ | with_reducible refine wp_isi.mpr ?_ | with_reducible refine wp_isiT.mpr ?_ | with_reducible refine wp_part.mpr ?_ | with_reducible refine wp_sl.mpr ?_ | with_reducible refine wp_callF.mpr ?_ | with_reducible refine wp_callK.mpr ?_ | with_reducible refine wp_pure.mpr ?_ | with_reducible refine wp_put.mpr ?_ | with_reducible refine wp_rng1.mpr ?_ | with_reducible refine wp_rng2.mpr ?_ | with_reducible refine wp_itA.mpr ?_ | with_reducible refine wp_tname.mpr ?_ | ((with_reducible apply wp_dat); exact rfl) | ((with_reducible apply wp_ixN2); exact rfl) | refine yes ?_ | refine no ?_ | refine And.intro (Nat.le_of_ble_eq_true rfl) ?_ | refine And.intro (sz (Nat.le_of_ble_eq_true rfl)) ?_ | refine Exists.intro _ (And.intro (gEq_int _ _) ?_) | ((with_reducible apply ex_and); exact rfl) | ((with_reducible apply ex_bool); exact rfl) | ((with_reducible apply ex_int); exact rfl) | ((with_reducible refine And.intro ?_ ?_); exact rfl) | fail))
  refine wp_draw (many := most) rfl ?_ hf (by omega) m0 (by omega) fun v fd1 v0 v1 hf1 => ?_
  · (repeat' (first | with_reducible refine wp_seq.mpr ?_ | with_reducible refine wp_ret.mpr ?_ | with_reducible refine wp_retN.mpr ?_ | with_reducible refine wp_skip.mpr ?_ | with_reducible refine wp_brk.mpr ?_ | with_reducible refine wp_cnt.mpr ?_ | with_reducible refine wp_ifS.mpr ?_ | with_reducible refine wp_drop.mpr ?_ | with_reducible refine wp_set.mpr ?_ | with_reducible refine wp_par.mpr ?_ | with_reducible refine wp_setIx.mpr ?_ | with_reducible refine wp_forS.mpr ?_ | with_reducible refine wp_op.mpr ?_ | with_reducible refine wp_neg.mpr ?_ | with_reducible refine wp_is.mpr ?_ | with_reducible refine wp_isnt.mpr ?_ | with_reducible refine wp_tru.mpr ?_ | with_reducible refine wp_tst.mpr ?_ | with_reducible refine wp_and.mpr ?_ | with_reducible refine wp_or.mpr ?_ | with_reducible refine wp_not.mpr ?_ | with_reducible refine wp_andV.mpr ?_ | with_reducible refine wp_orV.mpr ?_ | with_reducible refine wp_notV.mpr ?_ | with_reducible refine wp_if.mpr ?_ | with_reducible refine wp_nil.mpr ?_ | with_reducible refine wp_cons.mpr ?_ | with_reducible refine wp_tup.mpr ?_ | with_reducible refine wp_lst.mpr ?_ | with_reducible refine wp_call.mpr ?_ | with_reducible refine wp_isi.mpr ?_ | with_reducible refine wp_isiT.mpr ?_ | with_reducible refine wp_part.mpr ?_ | with_reducible refine wp_sl.mpr ?_ | with_reducible refine wp_callF.mpr ?_ | with_reducible refine wp_callK.mpr ?_ | with_reducible refine wp_pure.mpr ?_ | with_reducible refine wp_put.mpr ?_ | with_reducible refine wp_rng1.mpr ?_ | with_reducible refine wp_rng2.mpr ?_ | with_reducible refine wp_itA.mpr ?_ | with_reducible refine wp_tname.mpr ?_ | ((with_reducible apply wp_dat); exact rfl) | ((with_reducible apply wp_ixN2); exact rfl) | refine yes ?_ | refine no ?_ | refine And.intro (Nat.le_of_ble_eq_true rfl) ?_ | refine And.intro (sz (Nat.le_of_ble_eq_true rfl)) ?_ | refine Exists.intro _ (And.intro (gEq_int _ _) ?_) | ((with_reducible apply ex_and); exact rfl) | ((with_reducible apply ex_bool); exact rfl) | ((with_reducible apply ex_int); exact rfl) | ((with_reducible refine And.intro ?_ ?_); exact rfl) | fail))
    exact rfl
  refine ex_and (grng1_lt v0 (by omega)) ?_
  refine near_loop (fd := fd1) (most := .int most) _ v.toNat (by omega) .und (fun x y hx hy bx bY t => ?_) rfl
  have bdx : Bd 43 x := bd_of hx (by omega)
  have bdy : Bd 43 y := bd_of hy (by omega)
  (repeat' (first | with_reducible refine wp_seq.mpr ?_ | with_reducible refine wp_ret.mpr ?_ | with_reducible refine wp_retN.mpr ?_ | with_reducible refine wp_skip.mpr ?_ | with_reducible refine wp_brk.mpr ?_ | with_reducible refine wp_cnt.mpr ?_ | with_reducible refine wp_ifS.mpr ?_ | with_reducible refine wp_drop.mpr ?_ | with_reducible refine wp_set.mpr ?_ | with_reducible refine wp_par.mpr ?_ | with_reducible refine wp_setIx.mpr ?_ | with_reducible refine wp_forS.mpr ?_ | with_reducible refine wp_op.mpr ?_ | with_reducible refine wp_neg.mpr ?_ | with_reducible refine wp_is.mpr ?_ | with_reducible refine wp_isnt.mpr ?_ | with_reducible refine wp_tru.mpr ?_ | with_reducible refine wp_tst.mpr ?_ | with_reducible refine wp_and.mpr ?_ | with_reducible refine wp_or.mpr ?_ | with_reducible refine wp_not.mpr ?_ | with_reducible refine wp_andV.mpr ?_ | with_reducible refine wp_orV.mpr ?_ | with_reducible refine wp_notV.mpr ?_ | with_reducible refine wp_if.mpr ?_ | with_reducible refine wp_nil.mpr ?_ | with_reducible refine wp_cons.mpr ?_ | with_reducible refine wp_tup.mpr ?_ | with_reducible refine wp_lst.mpr ?_ | with_reducible refine wp_call.mpr ?_ | with_reducible refine wp_isi.mpr ?_ | with_reducible refine wp_isiT.mpr ?_ | with_reducible refine wp_part.mpr ?_ | with_reducible refine wp_sl.mpr ?_ | with_reducible refine wp_callF.mpr ?_ | with_reducible refine wp_callK.mpr ?_ | with_reducible refine wp_pure.mpr ?_ | with_reducible refine wp_put.mpr ?_ | with_reducible refine wp_rng1.mpr ?_ | with_reducible refine wp_rng2.mpr ?_ | with_reducible refine wp_itA.mpr ?_ | with_reducible refine wp_tname.mpr ?_ | ((with_reducible apply wp_dat); exact rfl) | ((with_reducible apply wp_ixN2); exact rfl) | refine yes ?_ | refine no ?_ | refine And.intro (Nat.le_of_ble_eq_true rfl) ?_ | refine And.intro (sz (Nat.le_of_ble_eq_true rfl)) ?_ | refine Exists.intro _ (And.intro (gEq_int _ _) ?_) | ((with_reducible apply ex_and); exact rfl) | ((with_reducible apply ex_bool); exact rfl) | ((with_reducible apply ex_int); exact rfl) | ((with_reducible refine And.intro ?_ ?_); exact rfl) | fail))
  refine wp_draw (many := 2) rfl ?_ hf1 (by omega) (by decide) (by decide) fun w fd2 w0 w1 hf2 => ?_
  · (repeat' (first | with_reducible refine wp_seq.mpr ?_ | with_reducible refine wp_ret.mpr ?_ | with_reducible refine wp_retN.mpr ?_ | with_reducible refine wp_skip.mpr ?_ | with_reducible refine wp_brk.mpr ?_ | with_reducible refine wp_cnt.mpr ?_ | with_reducible refine wp_ifS.mpr ?_ | with_reducible refine wp_drop.mpr ?_ | with_reducible refine wp_set.mpr ?_ | with_reducible refine wp_par.mpr ?_ | with_reducible refine wp_setIx.mpr ?_ | with_reducible refine wp_forS.mpr ?_ | with_reducible refine wp_op.mpr ?_ | with_reducible refine wp_neg.mpr ?_ | with_reducible refine wp_is.mpr ?_ | with_reducible refine wp_isnt.mpr ?_ | with_reducible refine wp_tru.mpr ?_ | with_reducible refine wp_tst.mpr ?_ | with_reducible refine wp_and.mpr ?_ | with_reducible refine wp_or.mpr ?_ | with_reducible refine wp_not.mpr ?_ | with_reducible refine wp_andV.mpr ?_ | with_reducible refine wp_orV.mpr ?_ | with_reducible refine wp_notV.mpr ?_ | with_reducible refine wp_if.mpr ?_ | with_reducible refine wp_nil.mpr ?_ | with_reducible refine wp_cons.mpr ?_ | with_reducible refine wp_tup.mpr ?_ | with_reducible refine wp_lst.mpr ?_ | with_reducible refine wp_call.mpr ?_ | with_reducible refine wp_isi.mpr ?_ | with_reducible refine wp_isiT.mpr ?_ | with_reducible refine wp_part.mpr ?_ | with_reducible refine wp_sl.mpr ?_ | with_reducible refine wp_callF.mpr ?_ | with_reducible refine wp_callK.mpr ?_ | with_reducible refine wp_pure.mpr ?_ | with_reducible refine wp_put.mpr ?_ | with_reducible refine wp_rng1.mpr ?_ | with_reducible refine wp_rng2.mpr ?_ | with_reducible refine wp_itA.mpr ?_ | with_reducible refine wp_tname.mpr ?_ | ((with_reducible apply wp_dat); exact rfl) | ((with_reducible apply wp_ixN2); exact rfl) | refine yes ?_ | refine no ?_ | refine And.intro (Nat.le_of_ble_eq_true rfl) ?_ | refine And.intro (sz (Nat.le_of_ble_eq_true rfl)) ?_ | refine Exists.intro _ (And.intro (gEq_int _ _) ?_) | ((with_reducible apply ex_and); exact rfl) | ((with_reducible apply ex_bool); exact rfl) | ((with_reducible apply ex_int); exact rfl) | ((with_reducible refine And.intro ?_ ?_); exact rfl) | fail))
    exact rfl
  have hw : w = 0 ∨ w = 1 := by omega
  rcases hw with rfl | rfl
  · (repeat' (first | with_reducible refine wp_seq.mpr ?_ | with_reducible refine wp_ret.mpr ?_ | with_reducible refine wp_retN.mpr ?_ | with_reducible refine wp_skip.mpr ?_ | with_reducible refine wp_brk.mpr ?_ | with_reducible refine wp_cnt.mpr ?_ | with_reducible refine wp_ifS.mpr ?_ | with_reducible refine wp_drop.mpr ?_ | with_reducible refine wp_set.mpr ?_ | with_reducible refine wp_par.mpr ?_ | with_reducible refine wp_setIx.mpr ?_ | with_reducible refine wp_forS.mpr ?_ | with_reducible refine wp_op.mpr ?_ | with_reducible refine wp_neg.mpr ?_ | with_reducible refine wp_is.mpr ?_ | with_reducible refine wp_isnt.mpr ?_ | with_reducible refine wp_tru.mpr ?_ | with_reducible refine wp_tst.mpr ?_ | with_reducible refine wp_and.mpr ?_ | with_reducible refine wp_or.mpr ?_ | with_reducible refine wp_not.mpr ?_ | with_reducible refine wp_andV.mpr ?_ | with_reducible refine wp_orV.mpr ?_ | with_reducible refine wp_notV.mpr ?_ | with_reducible refine wp_if.mpr ?_ | with_reducible refine wp_nil.mpr ?_ | with_reducible refine wp_cons.mpr ?_ | with_reducible refine wp_tup.mpr ?_ | with_reducible refine wp_lst.mpr ?_ | with_reducible refine wp_call.mpr ?_ | with_reducible refine wp_isi.mpr ?_ | with_reducible refine wp_isiT.mpr ?_ | with_reducible refine wp_part.mpr ?_ | with_reducible refine wp_sl.mpr ?_ | with_reducible refine wp_callF.mpr ?_ | with_reducible refine wp_callK.mpr ?_ | with_reducible refine wp_pure.mpr ?_ | with_reducible refine wp_put.mpr ?_ | with_reducible refine wp_rng1.mpr ?_ | with_reducible refine wp_rng2.mpr ?_ | with_reducible refine wp_itA.mpr ?_ | with_reducible refine wp_tname.mpr ?_ | ((with_reducible apply wp_dat); exact rfl) | ((with_reducible apply wp_ixN2); exact rfl) | refine yes ?_ | refine no ?_ | refine And.intro (Nat.le_of_ble_eq_true rfl) ?_ | refine And.intro (sz (Nat.le_of_ble_eq_true rfl)) ?_ | refine Exists.intro _ (And.intro (gEq_int _ _) ?_) | ((with_reducible apply ex_and); exact rfl) | ((with_reducible apply ex_bool); exact rfl) | ((with_reducible apply ex_int); exact rfl) | ((with_reducible refine And.intro ?_ ?_); exact rfl) | fail))
    refine wp_draw (many := 2) rfl ?_ hf2 (by omega) (by decide) (by decide) fun s fd3 s0 s1 hf3 => ?_
    · (repeat' (first | with_reducible refine wp_seq.mpr ?_ | with_reducible refine wp_ret.mpr ?_ | with_reducible refine wp_retN.mpr ?_ | with_reducible refine wp_skip.mpr ?_ | with_reducible refine wp_brk.mpr ?_ | with_reducible refine wp_cnt.mpr ?_ | with_reducible refine wp_ifS.mpr ?_ | with_reducible refine wp_drop.mpr ?_ | with_reducible refine wp_set.mpr ?_ | with_reducible refine wp_par.mpr ?_ | with_reducible refine wp_setIx.mpr ?_ | with_reducible refine wp_forS.mpr ?_ | with_reducible refine wp_op.mpr ?_ | with_reducible refine wp_neg.mpr ?_ | with_reducible refine wp_is.mpr ?_ | with_reducible refine wp_isnt.mpr ?_ | with_reducible refine wp_tru.mpr ?_ | with_reducible refine wp_tst.mpr ?_ | with_reducible refine wp_and.mpr ?_ | with_reducible refine wp_or.mpr ?_ | with_reducible refine wp_not.mpr ?_ | with_reducible refine wp_andV.mpr ?_ | with_reducible refine wp_orV.mpr ?_ | with_reducible refine wp_notV.mpr ?_ | with_reducible refine wp_if.mpr ?_ | with_reducible refine wp_nil.mpr ?_ | with_reducible refine wp_cons.mpr ?_ | with_reducible refine wp_tup.mpr ?_ | with_reducible refine wp_lst.mpr ?_ | with_reducible refine wp_call.mpr ?_ | with_reducible refine wp_isi.mpr ?_ | with_reducible refine wp_isiT.mpr ?_ | with_reducible refine wp_part.mpr ?_ | with_reducible refine wp_sl.mpr ?_ | with_reducible refine wp_callF.mpr ?_ | with_reducible refine wp_callK.mpr ?_ | with_reducible refine wp_pure.mpr ?_ | with_reducible refine wp_put.mpr ?_ | with_reducible refine wp_rng1.mpr ?_ | with_reducible refine wp_rng2.mpr ?_ | with_reducible refine wp_itA.mpr ?_ | with_reducible refine wp_tname.mpr ?_ | ((with_reducible apply wp_dat); exact rfl) | ((with_reducible apply wp_ixN2); exact rfl) | refine yes ?_ | refine no ?_ | refine And.intro (Nat.le_of_ble_eq_true rfl) ?_ | refine And.intro (sz (Nat.le_of_ble_eq_true rfl)) ?_ | refine Exists.intro _ (And.intro (gEq_int _ _) ?_) | ((with_reducible apply ex_and); exact rfl) | ((with_reducible apply ex_bool); exact rfl) | ((with_reducible apply ex_int); exact rfl) | ((with_reducible refine And.intro ?_ ?_); exact rfl) | fail))
      exact rfl
    have hs : s = 0 ∨ s = 1 := by omega
    rcases hs with rfl | rfl
    · (repeat' (first | with_reducible refine wp_seq.mpr ?_ | with_reducible refine wp_ret.mpr ?_ | with_reducible refine wp_retN.mpr ?_ | with_reducible refine wp_skip.mpr ?_ | with_reducible refine wp_brk.mpr ?_ | with_reducible refine wp_cnt.mpr ?_ | with_reducible refine wp_ifS.mpr ?_ | with_reducible refine wp_drop.mpr ?_ | with_reducible refine wp_set.mpr ?_ | with_reducible refine wp_par.mpr ?_ | with_reducible refine wp_setIx.mpr ?_ | with_reducible refine wp_forS.mpr ?_ | with_reducible refine wp_op.mpr ?_ | with_reducible refine wp_neg.mpr ?_ | with_reducible refine wp_is.mpr ?_ | with_reducible refine wp_isnt.mpr ?_ | with_reducible refine wp_tru.mpr ?_ | with_reducible refine wp_tst.mpr ?_ | with_reducible refine wp_and.mpr ?_ | with_reducible refine wp_or.mpr ?_ | with_reducible refine wp_not.mpr ?_ | with_reducible refine wp_andV.mpr ?_ | with_reducible refine wp_orV.mpr ?_ | with_reducible refine wp_notV.mpr ?_ | with_reducible refine wp_if.mpr ?_ | with_reducible refine wp_nil.mpr ?_ | with_reducible refine wp_cons.mpr ?_ | with_reducible refine wp_tup.mpr ?_ | with_reducible refine wp_lst.mpr ?_ | with_reducible refine wp_call.mpr ?_ | with_reducible refine wp_isi.mpr ?_ | with_reducible refine wp_isiT.mpr ?_ | with_reducible refine wp_part.mpr ?_ | with_reducible refine wp_sl.mpr ?_ | with_reducible refine wp_callF.mpr ?_ | with_reducible refine wp_callK.mpr ?_ | with_reducible refine wp_pure.mpr ?_ | with_reducible refine wp_put.mpr ?_ | with_reducible refine wp_rng1.mpr ?_ | with_reducible refine wp_rng2.mpr ?_ | with_reducible refine wp_itA.mpr ?_ | with_reducible refine wp_tname.mpr ?_ | ((with_reducible apply wp_dat); exact rfl) | ((with_reducible apply wp_ixN2); exact rfl) | refine yes ?_ | refine no ?_ | refine And.intro (Nat.le_of_ble_eq_true rfl) ?_ | refine And.intro (sz (Nat.le_of_ble_eq_true rfl)) ?_ | refine Exists.intro _ (And.intro (gEq_int _ _) ?_) | ((with_reducible apply ex_and); exact rfl) | ((with_reducible apply ex_bool); exact rfl) | ((with_reducible apply ex_int); exact rfl) | ((with_reducible refine And.intro ?_ ?_); exact rfl) | fail))
      exact q' _ _ _ bdx bdy.neg hf3
    · (repeat' (first | with_reducible refine wp_seq.mpr ?_ | with_reducible refine wp_ret.mpr ?_ | with_reducible refine wp_retN.mpr ?_ | with_reducible refine wp_skip.mpr ?_ | with_reducible refine wp_brk.mpr ?_ | with_reducible refine wp_cnt.mpr ?_ | with_reducible refine wp_ifS.mpr ?_ | with_reducible refine wp_drop.mpr ?_ | with_reducible refine wp_set.mpr ?_ | with_reducible refine wp_par.mpr ?_ | with_reducible refine wp_setIx.mpr ?_ | with_reducible refine wp_forS.mpr ?_ | with_reducible refine wp_op.mpr ?_ | with_reducible refine wp_neg.mpr ?_ | with_reducible refine wp_is.mpr ?_ | with_reducible refine wp_isnt.mpr ?_ | with_reducible refine wp_tru.mpr ?_ | with_reducible refine wp_tst.mpr ?_ | with_reducible refine wp_and.mpr ?_ | with_reducible refine wp_or.mpr ?_ | with_reducible refine wp_not.mpr ?_ | with_reducible refine wp_andV.mpr ?_ | with_reducible refine wp_orV.mpr ?_ | with_reducible refine wp_notV.mpr ?_ | with_reducible refine wp_if.mpr ?_ | with_reducible refine wp_nil.mpr ?_ | with_reducible refine wp_cons.mpr ?_ | with_reducible refine wp_tup.mpr ?_ | with_reducible refine wp_lst.mpr ?_ | with_reducible refine wp_call.mpr ?_ | with_reducible refine wp_isi.mpr ?_ | with_reducible refine wp_isiT.mpr ?_ | with_reducible refine wp_part.mpr ?_ | with_reducible refine wp_sl.mpr ?_ | with_reducible refine wp_callF.mpr ?_ | with_reducible refine wp_callK.mpr ?_ | with_reducible refine wp_pure.mpr ?_ | with_reducible refine wp_put.mpr ?_ | with_reducible refine wp_rng1.mpr ?_ | with_reducible refine wp_rng2.mpr ?_ | with_reducible refine wp_itA.mpr ?_ | with_reducible refine wp_tname.mpr ?_ | ((with_reducible apply wp_dat); exact rfl) | ((with_reducible apply wp_ixN2); exact rfl) | refine yes ?_ | refine no ?_ | refine And.intro (Nat.le_of_ble_eq_true rfl) ?_ | refine And.intro (sz (Nat.le_of_ble_eq_true rfl)) ?_ | refine Exists.intro _ (And.intro (gEq_int _ _) ?_) | ((with_reducible apply ex_and); exact rfl) | ((with_reducible apply ex_bool); exact rfl) | ((with_reducible apply ex_int); exact rfl) | ((with_reducible refine And.intro ?_ ?_); exact rfl) | fail))
      exact q' _ _ _ bdy.neg bdx hf3
  · (repeat' (first | with_reducible refine wp_seq.mpr ?_ | with_reducible refine wp_ret.mpr ?_ | with_reducible refine wp_retN.mpr ?_ | with_reducible refine wp_skip.mpr ?_ | with_reducible refine wp_brk.mpr ?_ | with_reducible refine wp_cnt.mpr ?_ | with_reducible refine wp_ifS.mpr ?_ | with_reducible refine wp_drop.mpr ?_ | with_reducible refine wp_set.mpr ?_ | with_reducible refine wp_par.mpr ?_ | with_reducible refine wp_setIx.mpr ?_ | with_reducible refine wp_forS.mpr ?_ | with_reducible refine wp_op.mpr ?_ | with_reducible refine wp_neg.mpr ?_ | with_reducible refine wp_is.mpr ?_ | with_reducible refine wp_isnt.mpr ?_ | with_reducible refine wp_tru.mpr ?_ | with_reducible refine wp_tst.mpr ?_ | with_reducible refine wp_and.mpr ?_ | with_reducible refine wp_or.mpr ?_ | with_reducible refine wp_not.mpr ?_ | with_reducible refine wp_andV.mpr ?_ | with_reducible refine wp_orV.mpr ?_ | with_reducible refine wp_notV.mpr ?_ | with_reducible refine wp_if.mpr ?_ | with_reducible refine wp_nil.mpr ?_ | with_reducible refine wp_cons.mpr ?_ | with_reducible refine wp_tup.mpr ?_ | with_reducible refine wp_lst.mpr ?_ | with_reducible refine wp_call.mpr ?_ | with_reducible refine wp_isi.mpr ?_ | with_reducible refine wp_isiT.mpr ?_ | with_reducible refine wp_part.mpr ?_ | with_reducible refine wp_sl.mpr ?_ | with_reducible refine wp_callF.mpr ?_ | with_reducible refine wp_callK.mpr ?_ | with_reducible refine wp_pure.mpr ?_ | with_reducible refine wp_put.mpr ?_ | with_reducible refine wp_rng1.mpr ?_ | with_reducible refine wp_rng2.mpr ?_ | with_reducible refine wp_itA.mpr ?_ | with_reducible refine wp_tname.mpr ?_ | ((with_reducible apply wp_dat); exact rfl) | ((with_reducible apply wp_ixN2); exact rfl) | refine yes ?_ | refine no ?_ | refine And.intro (Nat.le_of_ble_eq_true rfl) ?_ | refine And.intro (sz (Nat.le_of_ble_eq_true rfl)) ?_ | refine Exists.intro _ (And.intro (gEq_int _ _) ?_) | ((with_reducible apply ex_and); exact rfl) | ((with_reducible apply ex_bool); exact rfl) | ((with_reducible apply ex_int); exact rfl) | ((with_reducible refine And.intro ?_ ?_); exact rfl) | fail))
    refine wp_draw (many := 2) rfl ?_ hf2 (by omega) (by decide) (by decide) fun s fd3 s0 s1 hf3 => ?_
    · (repeat' (first | with_reducible refine wp_seq.mpr ?_ | with_reducible refine wp_ret.mpr ?_ | with_reducible refine wp_retN.mpr ?_ | with_reducible refine wp_skip.mpr ?_ | with_reducible refine wp_brk.mpr ?_ | with_reducible refine wp_cnt.mpr ?_ | with_reducible refine wp_ifS.mpr ?_ | with_reducible refine wp_drop.mpr ?_ | with_reducible refine wp_set.mpr ?_ | with_reducible refine wp_par.mpr ?_ | with_reducible refine wp_setIx.mpr ?_ | with_reducible refine wp_forS.mpr ?_ | with_reducible refine wp_op.mpr ?_ | with_reducible refine wp_neg.mpr ?_ | with_reducible refine wp_is.mpr ?_ | with_reducible refine wp_isnt.mpr ?_ | with_reducible refine wp_tru.mpr ?_ | with_reducible refine wp_tst.mpr ?_ | with_reducible refine wp_and.mpr ?_ | with_reducible refine wp_or.mpr ?_ | with_reducible refine wp_not.mpr ?_ | with_reducible refine wp_andV.mpr ?_ | with_reducible refine wp_orV.mpr ?_ | with_reducible refine wp_notV.mpr ?_ | with_reducible refine wp_if.mpr ?_ | with_reducible refine wp_nil.mpr ?_ | with_reducible refine wp_cons.mpr ?_ | with_reducible refine wp_tup.mpr ?_ | with_reducible refine wp_lst.mpr ?_ | with_reducible refine wp_call.mpr ?_ | with_reducible refine wp_isi.mpr ?_ | with_reducible refine wp_isiT.mpr ?_ | with_reducible refine wp_part.mpr ?_ | with_reducible refine wp_sl.mpr ?_ | with_reducible refine wp_callF.mpr ?_ | with_reducible refine wp_callK.mpr ?_ | with_reducible refine wp_pure.mpr ?_ | with_reducible refine wp_put.mpr ?_ | with_reducible refine wp_rng1.mpr ?_ | with_reducible refine wp_rng2.mpr ?_ | with_reducible refine wp_itA.mpr ?_ | with_reducible refine wp_tname.mpr ?_ | ((with_reducible apply wp_dat); exact rfl) | ((with_reducible apply wp_ixN2); exact rfl) | refine yes ?_ | refine no ?_ | refine And.intro (Nat.le_of_ble_eq_true rfl) ?_ | refine And.intro (sz (Nat.le_of_ble_eq_true rfl)) ?_ | refine Exists.intro _ (And.intro (gEq_int _ _) ?_) | ((with_reducible apply ex_and); exact rfl) | ((with_reducible apply ex_bool); exact rfl) | ((with_reducible apply ex_int); exact rfl) | ((with_reducible refine And.intro ?_ ?_); exact rfl) | fail))
      exact rfl
    have hs : s = 0 ∨ s = 1 := by omega
    rcases hs with rfl | rfl
    · (repeat' (first | with_reducible refine wp_seq.mpr ?_ | with_reducible refine wp_ret.mpr ?_ | with_reducible refine wp_retN.mpr ?_ | with_reducible refine wp_skip.mpr ?_ | with_reducible refine wp_brk.mpr ?_ | with_reducible refine wp_cnt.mpr ?_ | with_reducible refine wp_ifS.mpr ?_ | with_reducible refine wp_drop.mpr ?_ | with_reducible refine wp_set.mpr ?_ | with_reducible refine wp_par.mpr ?_ | with_reducible refine wp_setIx.mpr ?_ | with_reducible refine wp_forS.mpr ?_ | with_reducible refine wp_op.mpr ?_ | with_reducible refine wp_neg.mpr ?_ | with_reducible refine wp_is.mpr ?_ | with_reducible refine wp_isnt.mpr ?_ | with_reducible refine wp_tru.mpr ?_ | with_reducible refine wp_tst.mpr ?_ | with_reducible refine wp_and.mpr ?_ | with_reducible refine wp_or.mpr ?_ | with_reducible refine wp_not.mpr ?_ | with_reducible refine wp_andV.mpr ?_ | with_reducible refine wp_orV.mpr ?_ | with_reducible refine wp_notV.mpr ?_ | with_reducible refine wp_if.mpr ?_ | with_reducible refine wp_nil.mpr ?_ | with_reducible refine wp_cons.mpr ?_ | with_reducible refine wp_tup.mpr ?_ | with_reducible refine wp_lst.mpr ?_ | with_reducible refine wp_call.mpr ?_ | with_reducible refine wp_isi.mpr ?_ | with_reducible refine wp_isiT.mpr ?_ | with_reducible refine wp_part.mpr ?_ | with_reducible refine wp_sl.mpr ?_ | with_reducible refine wp_callF.mpr ?_ | with_reducible refine wp_callK.mpr ?_ | with_reducible refine wp_pure.mpr ?_ | with_reducible refine wp_put.mpr ?_ | with_reducible refine wp_rng1.mpr ?_ | with_reducible refine wp_rng2.mpr ?_ | with_reducible refine wp_itA.mpr ?_ | with_reducible refine wp_tname.mpr ?_ | ((with_reducible apply wp_dat); exact rfl) | ((with_reducible apply wp_ixN2); exact rfl) | refine yes ?_ | refine no ?_ | refine And.intro (Nat.le_of_ble_eq_true rfl) ?_ | refine And.intro (sz (Nat.le_of_ble_eq_true rfl)) ?_ | refine Exists.intro _ (And.intro (gEq_int _ _) ?_) | ((with_reducible apply ex_and); exact rfl) | ((with_reducible apply ex_bool); exact rfl) | ((with_reducible apply ex_int); exact rfl) | ((with_reducible refine And.intro ?_ ?_); exact rfl) | fail))
      exact q' _ _ _ bdy bdx.neg hf3
    · (repeat' (first | with_reducible refine wp_seq.mpr ?_ | with_reducible refine wp_ret.mpr ?_ | with_reducible refine wp_retN.mpr ?_ | with_reducible refine wp_skip.mpr ?_ | with_reducible refine wp_brk.mpr ?_ | with_reducible refine wp_cnt.mpr ?_ | with_reducible refine wp_ifS.mpr ?_ | with_reducible refine wp_drop.mpr ?_ | with_reducible refine wp_set.mpr ?_ | with_reducible refine wp_par.mpr ?_ | with_reducible refine wp_setIx.mpr ?_ | with_reducible refine wp_forS.mpr ?_ | with_reducible refine wp_op.mpr ?_ | with_reducible refine wp_neg.mpr ?_ | with_reducible refine wp_is.mpr ?_ | with_reducible refine wp_isnt.mpr ?_ | with_reducible refine wp_tru.mpr ?_ | with_reducible refine wp_tst.mpr ?_ | with_reducible refine wp_and.mpr ?_ | with_reducible refine wp_or.mpr ?_ | with_reducible refine wp_not.mpr ?_ | with_reducible refine wp_andV.mpr ?_ | with_reducible refine wp_orV.mpr ?_ | with_reducible refine wp_notV.mpr ?_ | with_reducible refine wp_if.mpr ?_ | with_reducible refine wp_nil.mpr ?_ | with_reducible refine wp_cons.mpr ?_ | with_reducible refine wp_tup.mpr ?_ | with_reducible refine wp_lst.mpr ?_ | with_reducible refine wp_call.mpr ?_ | with_reducible refine wp_isi.mpr ?_ | with_reducible refine wp_isiT.mpr ?_ | with_reducible refine wp_part.mpr ?_ | with_reducible refine wp_sl.mpr ?_ | with_reducible refine wp_callF.mpr ?_ | with_reducible refine wp_callK.mpr ?_ | with_reducible refine wp_pure.mpr ?_ | with_reducible refine wp_put.mpr ?_ | with_reducible refine wp_rng1.mpr ?_ | with_reducible refine wp_rng2.mpr ?_ | with_reducible refine wp_itA.mpr ?_ | with_reducible refine wp_tname.mpr ?_ | ((with_reducible apply wp_dat); exact rfl) | ((with_reducible apply wp_ixN2); exact rfl) | refine yes ?_ | refine no ?_ | refine And.intro (Nat.le_of_ble_eq_true rfl) ?_ | refine And.intro (sz (Nat.le_of_ble_eq_true rfl)) ?_ | refine Exists.intro _ (And.intro (gEq_int _ _) ?_) | ((with_reducible apply ex_and); exact rfl) | ((with_reducible apply ex_bool); exact rfl) | ((with_reducible apply ex_int); exact rfl) | ((with_reducible refine And.intro ?_ ?_); exact rfl) | fail))
      exact q' _ _ _ bdx.neg bdy hf3
theorem v_number {n : Int} {fd : List D} (hf : FD n fd) (hn : n + 10 < 2 ^ 100) {Q : D → List A → Prop} (q : ∀ v fd', Num v → FD (n + 10) fd' → Q v [.own (some 0) (.l fd')]) : Gv f__law_number [.own (some 0) (.l fd)] Q := by
  apply gv_run
  unfold fb__law_number
  (repeat' (first | with_reducible refine wp_seq.mpr ?_ | with_reducible refine wp_ret.mpr ?_ | with_reducible refine wp_retN.mpr ?_ | with_reducible refine wp_skip.mpr ?_ | with_reducible refine wp_brk.mpr ?_ | with_reducible refine wp_cnt.mpr ?_ | with_reducible refine wp_ifS.mpr ?_ | with_reducible refine wp_drop.mpr ?_ | with_reducible refine wp_set.mpr ?_ | with_reducible refine wp_par.mpr ?_ | with_reducible refine wp_setIx.mpr ?_ | with_reducible refine wp_forS.mpr ?_ | with_reducible refine wp_op.mpr ?_ | with_reducible refine wp_neg.mpr ?_ | with_reducible refine wp_is.mpr ?_ | with_reducible refine wp_isnt.mpr ?_ | with_reducible refine wp_tru.mpr ?_ | with_reducible refine wp_tst.mpr ?_ | with_reducible refine wp_and.mpr ?_ | with_reducible refine wp_or.mpr ?_ | with_reducible refine wp_not.mpr ?_ | with_reducible refine wp_andV.mpr ?_ | with_reducible refine wp_orV.mpr ?_ | with_reducible refine wp_notV.mpr ?_ | with_reducible refine wp_if.mpr ?_ | with_reducible refine wp_nil.mpr ?_ | with_reducible refine wp_cons.mpr ?_ | with_reducible refine wp_tup.mpr ?_ | with_reducible refine wp_lst.mpr ?_ | with_reducible refine wp_call.mpr ?_ | with_reducible refine wp_isi.mpr ?_ | with_reducible refine wp_isiT.mpr ?_ | with_reducible refine wp_part.mpr ?_ | with_reducible refine wp_sl.mpr ?_ | with_reducible refine wp_callF.mpr ?_ | with_reducible refine wp_callK.mpr ?_ | with_reducible refine wp_pure.mpr ?_ | with_reducible refine wp_put.mpr ?_ | with_reducible refine wp_rng1.mpr ?_ | with_reducible refine wp_rng2.mpr ?_ | with_reducible refine wp_itA.mpr ?_ | with_reducible refine wp_tname.mpr ?_ | ((with_reducible apply wp_dat); exact rfl) | ((with_reducible apply wp_ixN2); exact rfl) | refine yes ?_ | refine no ?_ | refine And.intro (Nat.le_of_ble_eq_true rfl) ?_ | refine And.intro (sz (Nat.le_of_ble_eq_true rfl)) ?_ | refine Exists.intro _ (And.intro (gEq_int _ _) ?_) | ((with_reducible apply ex_and); exact rfl) | ((with_reducible apply ex_bool); exact rfl) | ((with_reducible apply ex_int); exact rfl) | ((with_reducible refine And.intro ?_ ?_); exact rfl) | fail))
  refine wp_draw (many := 3) rfl ?_ hf (by omega) (by decide) (by decide) fun w fd1 w0 w1 hf1 => ?_
  · (repeat' (first | with_reducible refine wp_seq.mpr ?_ | with_reducible refine wp_ret.mpr ?_ | with_reducible refine wp_retN.mpr ?_ | with_reducible refine wp_skip.mpr ?_ | with_reducible refine wp_brk.mpr ?_ | with_reducible refine wp_cnt.mpr ?_ | with_reducible refine wp_ifS.mpr ?_ | with_reducible refine wp_drop.mpr ?_ | with_reducible refine wp_set.mpr ?_ | with_reducible refine wp_par.mpr ?_ | with_reducible refine wp_setIx.mpr ?_ | with_reducible refine wp_forS.mpr ?_ | with_reducible refine wp_op.mpr ?_ | with_reducible refine wp_neg.mpr ?_ | with_reducible refine wp_is.mpr ?_ | with_reducible refine wp_isnt.mpr ?_ | with_reducible refine wp_tru.mpr ?_ | with_reducible refine wp_tst.mpr ?_ | with_reducible refine wp_and.mpr ?_ | with_reducible refine wp_or.mpr ?_ | with_reducible refine wp_not.mpr ?_ | with_reducible refine wp_andV.mpr ?_ | with_reducible refine wp_orV.mpr ?_ | with_reducible refine wp_notV.mpr ?_ | with_reducible refine wp_if.mpr ?_ | with_reducible refine wp_nil.mpr ?_ | with_reducible refine wp_cons.mpr ?_ | with_reducible refine wp_tup.mpr ?_ | with_reducible refine wp_lst.mpr ?_ | with_reducible refine wp_call.mpr ?_ | with_reducible refine wp_isi.mpr ?_ | with_reducible refine wp_isiT.mpr ?_ | with_reducible refine wp_part.mpr ?_ | with_reducible refine wp_sl.mpr ?_ | with_reducible refine wp_callF.mpr ?_ | with_reducible refine wp_callK.mpr ?_ | with_reducible refine wp_pure.mpr ?_ | with_reducible refine wp_put.mpr ?_ | with_reducible refine wp_rng1.mpr ?_ | with_reducible refine wp_rng2.mpr ?_ | with_reducible refine wp_itA.mpr ?_ | with_reducible refine wp_tname.mpr ?_ | ((with_reducible apply wp_dat); exact rfl) | ((with_reducible apply wp_ixN2); exact rfl) | refine yes ?_ | refine no ?_ | refine And.intro (Nat.le_of_ble_eq_true rfl) ?_ | refine And.intro (sz (Nat.le_of_ble_eq_true rfl)) ?_ | refine Exists.intro _ (And.intro (gEq_int _ _) ?_) | ((with_reducible apply ex_and); exact rfl) | ((with_reducible apply ex_bool); exact rfl) | ((with_reducible apply ex_int); exact rfl) | ((with_reducible refine And.intro ?_ ?_); exact rfl) | fail))
    exact rfl
  have hw : w = 0 ∨ w = 1 ∨ w = 2 := by omega
  rcases hw with rfl | rfl | rfl
  · (repeat' (first | with_reducible refine wp_seq.mpr ?_ | with_reducible refine wp_ret.mpr ?_ | with_reducible refine wp_retN.mpr ?_ | with_reducible refine wp_skip.mpr ?_ | with_reducible refine wp_brk.mpr ?_ | with_reducible refine wp_cnt.mpr ?_ | with_reducible refine wp_ifS.mpr ?_ | with_reducible refine wp_drop.mpr ?_ | with_reducible refine wp_set.mpr ?_ | with_reducible refine wp_par.mpr ?_ | with_reducible refine wp_setIx.mpr ?_ | with_reducible refine wp_forS.mpr ?_ | with_reducible refine wp_op.mpr ?_ | with_reducible refine wp_neg.mpr ?_ | with_reducible refine wp_is.mpr ?_ | with_reducible refine wp_isnt.mpr ?_ | with_reducible refine wp_tru.mpr ?_ | with_reducible refine wp_tst.mpr ?_ | with_reducible refine wp_and.mpr ?_ | with_reducible refine wp_or.mpr ?_ | with_reducible refine wp_not.mpr ?_ | with_reducible refine wp_andV.mpr ?_ | with_reducible refine wp_orV.mpr ?_ | with_reducible refine wp_notV.mpr ?_ | with_reducible refine wp_if.mpr ?_ | with_reducible refine wp_nil.mpr ?_ | with_reducible refine wp_cons.mpr ?_ | with_reducible refine wp_tup.mpr ?_ | with_reducible refine wp_lst.mpr ?_ | with_reducible refine wp_call.mpr ?_ | with_reducible refine wp_isi.mpr ?_ | with_reducible refine wp_isiT.mpr ?_ | with_reducible refine wp_part.mpr ?_ | with_reducible refine wp_sl.mpr ?_ | with_reducible refine wp_callF.mpr ?_ | with_reducible refine wp_callK.mpr ?_ | with_reducible refine wp_pure.mpr ?_ | with_reducible refine wp_put.mpr ?_ | with_reducible refine wp_rng1.mpr ?_ | with_reducible refine wp_rng2.mpr ?_ | with_reducible refine wp_itA.mpr ?_ | with_reducible refine wp_tname.mpr ?_ | ((with_reducible apply wp_dat); exact rfl) | ((with_reducible apply wp_ixN2); exact rfl) | refine yes ?_ | refine no ?_ | refine And.intro (Nat.le_of_ble_eq_true rfl) ?_ | refine And.intro (sz (Nat.le_of_ble_eq_true rfl)) ?_ | refine Exists.intro _ (And.intro (gEq_int _ _) ?_) | ((with_reducible apply ex_and); exact rfl) | ((with_reducible apply ex_bool); exact rfl) | ((with_reducible apply ex_int); exact rfl) | ((with_reducible refine And.intro ?_ ?_); exact rfl) | fail))
    refine wp_lend (xs := [.int 18]) rfl ?_ rfl ?_
    · (repeat' (first | with_reducible refine wp_seq.mpr ?_ | with_reducible refine wp_ret.mpr ?_ | with_reducible refine wp_retN.mpr ?_ | with_reducible refine wp_skip.mpr ?_ | with_reducible refine wp_brk.mpr ?_ | with_reducible refine wp_cnt.mpr ?_ | with_reducible refine wp_ifS.mpr ?_ | with_reducible refine wp_drop.mpr ?_ | with_reducible refine wp_set.mpr ?_ | with_reducible refine wp_par.mpr ?_ | with_reducible refine wp_setIx.mpr ?_ | with_reducible refine wp_forS.mpr ?_ | with_reducible refine wp_op.mpr ?_ | with_reducible refine wp_neg.mpr ?_ | with_reducible refine wp_is.mpr ?_ | with_reducible refine wp_isnt.mpr ?_ | with_reducible refine wp_tru.mpr ?_ | with_reducible refine wp_tst.mpr ?_ | with_reducible refine wp_and.mpr ?_ | with_reducible refine wp_or.mpr ?_ | with_reducible refine wp_not.mpr ?_ | with_reducible refine wp_andV.mpr ?_ | with_reducible refine wp_orV.mpr ?_ | with_reducible refine wp_notV.mpr ?_ | with_reducible refine wp_if.mpr ?_ | with_reducible refine wp_nil.mpr ?_ | with_reducible refine wp_cons.mpr ?_ | with_reducible refine wp_tup.mpr ?_ | with_reducible refine wp_lst.mpr ?_ | with_reducible refine wp_call.mpr ?_ | with_reducible refine wp_isi.mpr ?_ | with_reducible refine wp_isiT.mpr ?_ | with_reducible refine wp_part.mpr ?_ | with_reducible refine wp_sl.mpr ?_ | with_reducible refine wp_callF.mpr ?_ | with_reducible refine wp_callK.mpr ?_ | with_reducible refine wp_pure.mpr ?_ | with_reducible refine wp_put.mpr ?_ | with_reducible refine wp_rng1.mpr ?_ | with_reducible refine wp_rng2.mpr ?_ | with_reducible refine wp_itA.mpr ?_ | with_reducible refine wp_tname.mpr ?_ | ((with_reducible apply wp_dat); exact rfl) | ((with_reducible apply wp_ixN2); exact rfl) | refine yes ?_ | refine no ?_ | refine And.intro (Nat.le_of_ble_eq_true rfl) ?_ | refine And.intro (sz (Nat.le_of_ble_eq_true rfl)) ?_ | refine Exists.intro _ (And.intro (gEq_int _ _) ?_) | ((with_reducible apply ex_and); exact rfl) | ((with_reducible apply ex_bool); exact rfl) | ((with_reducible apply ex_int); exact rfl) | ((with_reducible refine And.intro ?_ ?_); exact rfl) | fail))
      exact rfl
    refine v_near hf1 (by omega) (by decide) (by decide) fun v fd2 hv hf2 => ?_
    refine ⟨_, _, rfl, ?_⟩
    (repeat' (first | with_reducible refine wp_seq.mpr ?_ | with_reducible refine wp_ret.mpr ?_ | with_reducible refine wp_retN.mpr ?_ | with_reducible refine wp_skip.mpr ?_ | with_reducible refine wp_brk.mpr ?_ | with_reducible refine wp_cnt.mpr ?_ | with_reducible refine wp_ifS.mpr ?_ | with_reducible refine wp_drop.mpr ?_ | with_reducible refine wp_set.mpr ?_ | with_reducible refine wp_par.mpr ?_ | with_reducible refine wp_setIx.mpr ?_ | with_reducible refine wp_forS.mpr ?_ | with_reducible refine wp_op.mpr ?_ | with_reducible refine wp_neg.mpr ?_ | with_reducible refine wp_is.mpr ?_ | with_reducible refine wp_isnt.mpr ?_ | with_reducible refine wp_tru.mpr ?_ | with_reducible refine wp_tst.mpr ?_ | with_reducible refine wp_and.mpr ?_ | with_reducible refine wp_or.mpr ?_ | with_reducible refine wp_not.mpr ?_ | with_reducible refine wp_andV.mpr ?_ | with_reducible refine wp_orV.mpr ?_ | with_reducible refine wp_notV.mpr ?_ | with_reducible refine wp_if.mpr ?_ | with_reducible refine wp_nil.mpr ?_ | with_reducible refine wp_cons.mpr ?_ | with_reducible refine wp_tup.mpr ?_ | with_reducible refine wp_lst.mpr ?_ | with_reducible refine wp_call.mpr ?_ | with_reducible refine wp_isi.mpr ?_ | with_reducible refine wp_isiT.mpr ?_ | with_reducible refine wp_part.mpr ?_ | with_reducible refine wp_sl.mpr ?_ | with_reducible refine wp_callF.mpr ?_ | with_reducible refine wp_callK.mpr ?_ | with_reducible refine wp_pure.mpr ?_ | with_reducible refine wp_put.mpr ?_ | with_reducible refine wp_rng1.mpr ?_ | with_reducible refine wp_rng2.mpr ?_ | with_reducible refine wp_itA.mpr ?_ | with_reducible refine wp_tname.mpr ?_ | ((with_reducible apply wp_dat); exact rfl) | ((with_reducible apply wp_ixN2); exact rfl) | refine yes ?_ | refine no ?_ | refine And.intro (Nat.le_of_ble_eq_true rfl) ?_ | refine And.intro (sz (Nat.le_of_ble_eq_true rfl)) ?_ | refine Exists.intro _ (And.intro (gEq_int _ _) ?_) | ((with_reducible apply ex_and); exact rfl) | ((with_reducible apply ex_bool); exact rfl) | ((with_reducible apply ex_int); exact rfl) | ((with_reducible refine And.intro ?_ ?_); exact rfl) | fail))
    exact q _ _ hv (hf2.mono (by omega))
  · (repeat' (first | with_reducible refine wp_seq.mpr ?_ | with_reducible refine wp_ret.mpr ?_ | with_reducible refine wp_retN.mpr ?_ | with_reducible refine wp_skip.mpr ?_ | with_reducible refine wp_brk.mpr ?_ | with_reducible refine wp_cnt.mpr ?_ | with_reducible refine wp_ifS.mpr ?_ | with_reducible refine wp_drop.mpr ?_ | with_reducible refine wp_set.mpr ?_ | with_reducible refine wp_par.mpr ?_ | with_reducible refine wp_setIx.mpr ?_ | with_reducible refine wp_forS.mpr ?_ | with_reducible refine wp_op.mpr ?_ | with_reducible refine wp_neg.mpr ?_ | with_reducible refine wp_is.mpr ?_ | with_reducible refine wp_isnt.mpr ?_ | with_reducible refine wp_tru.mpr ?_ | with_reducible refine wp_tst.mpr ?_ | with_reducible refine wp_and.mpr ?_ | with_reducible refine wp_or.mpr ?_ | with_reducible refine wp_not.mpr ?_ | with_reducible refine wp_andV.mpr ?_ | with_reducible refine wp_orV.mpr ?_ | with_reducible refine wp_notV.mpr ?_ | with_reducible refine wp_if.mpr ?_ | with_reducible refine wp_nil.mpr ?_ | with_reducible refine wp_cons.mpr ?_ | with_reducible refine wp_tup.mpr ?_ | with_reducible refine wp_lst.mpr ?_ | with_reducible refine wp_call.mpr ?_ | with_reducible refine wp_isi.mpr ?_ | with_reducible refine wp_isiT.mpr ?_ | with_reducible refine wp_part.mpr ?_ | with_reducible refine wp_sl.mpr ?_ | with_reducible refine wp_callF.mpr ?_ | with_reducible refine wp_callK.mpr ?_ | with_reducible refine wp_pure.mpr ?_ | with_reducible refine wp_put.mpr ?_ | with_reducible refine wp_rng1.mpr ?_ | with_reducible refine wp_rng2.mpr ?_ | with_reducible refine wp_itA.mpr ?_ | with_reducible refine wp_tname.mpr ?_ | ((with_reducible apply wp_dat); exact rfl) | ((with_reducible apply wp_ixN2); exact rfl) | refine yes ?_ | refine no ?_ | refine And.intro (Nat.le_of_ble_eq_true rfl) ?_ | refine And.intro (sz (Nat.le_of_ble_eq_true rfl)) ?_ | refine Exists.intro _ (And.intro (gEq_int _ _) ?_) | ((with_reducible apply ex_and); exact rfl) | ((with_reducible apply ex_bool); exact rfl) | ((with_reducible apply ex_int); exact rfl) | ((with_reducible refine And.intro ?_ ?_); exact rfl) | fail))
    refine wp_lend (xs := []) rfl ?_ rfl ?_
    · (repeat' (first | with_reducible refine wp_seq.mpr ?_ | with_reducible refine wp_ret.mpr ?_ | with_reducible refine wp_retN.mpr ?_ | with_reducible refine wp_skip.mpr ?_ | with_reducible refine wp_brk.mpr ?_ | with_reducible refine wp_cnt.mpr ?_ | with_reducible refine wp_ifS.mpr ?_ | with_reducible refine wp_drop.mpr ?_ | with_reducible refine wp_set.mpr ?_ | with_reducible refine wp_par.mpr ?_ | with_reducible refine wp_setIx.mpr ?_ | with_reducible refine wp_forS.mpr ?_ | with_reducible refine wp_op.mpr ?_ | with_reducible refine wp_neg.mpr ?_ | with_reducible refine wp_is.mpr ?_ | with_reducible refine wp_isnt.mpr ?_ | with_reducible refine wp_tru.mpr ?_ | with_reducible refine wp_tst.mpr ?_ | with_reducible refine wp_and.mpr ?_ | with_reducible refine wp_or.mpr ?_ | with_reducible refine wp_not.mpr ?_ | with_reducible refine wp_andV.mpr ?_ | with_reducible refine wp_orV.mpr ?_ | with_reducible refine wp_notV.mpr ?_ | with_reducible refine wp_if.mpr ?_ | with_reducible refine wp_nil.mpr ?_ | with_reducible refine wp_cons.mpr ?_ | with_reducible refine wp_tup.mpr ?_ | with_reducible refine wp_lst.mpr ?_ | with_reducible refine wp_call.mpr ?_ | with_reducible refine wp_isi.mpr ?_ | with_reducible refine wp_isiT.mpr ?_ | with_reducible refine wp_part.mpr ?_ | with_reducible refine wp_sl.mpr ?_ | with_reducible refine wp_callF.mpr ?_ | with_reducible refine wp_callK.mpr ?_ | with_reducible refine wp_pure.mpr ?_ | with_reducible refine wp_put.mpr ?_ | with_reducible refine wp_rng1.mpr ?_ | with_reducible refine wp_rng2.mpr ?_ | with_reducible refine wp_itA.mpr ?_ | with_reducible refine wp_tname.mpr ?_ | ((with_reducible apply wp_dat); exact rfl) | ((with_reducible apply wp_ixN2); exact rfl) | refine yes ?_ | refine no ?_ | refine And.intro (Nat.le_of_ble_eq_true rfl) ?_ | refine And.intro (sz (Nat.le_of_ble_eq_true rfl)) ?_ | refine Exists.intro _ (And.intro (gEq_int _ _) ?_) | ((with_reducible apply ex_and); exact rfl) | ((with_reducible apply ex_bool); exact rfl) | ((with_reducible apply ex_int); exact rfl) | ((with_reducible refine And.intro ?_ ?_); exact rfl) | fail))
      exact rfl
    refine v_whole hf1 (by omega) fun a fd2 ba hf2 => ?_
    refine ⟨_, _, rfl, ?_⟩
    (repeat' (first | with_reducible refine wp_seq.mpr ?_ | with_reducible refine wp_ret.mpr ?_ | with_reducible refine wp_retN.mpr ?_ | with_reducible refine wp_skip.mpr ?_ | with_reducible refine wp_brk.mpr ?_ | with_reducible refine wp_cnt.mpr ?_ | with_reducible refine wp_ifS.mpr ?_ | with_reducible refine wp_drop.mpr ?_ | with_reducible refine wp_set.mpr ?_ | with_reducible refine wp_par.mpr ?_ | with_reducible refine wp_setIx.mpr ?_ | with_reducible refine wp_forS.mpr ?_ | with_reducible refine wp_op.mpr ?_ | with_reducible refine wp_neg.mpr ?_ | with_reducible refine wp_is.mpr ?_ | with_reducible refine wp_isnt.mpr ?_ | with_reducible refine wp_tru.mpr ?_ | with_reducible refine wp_tst.mpr ?_ | with_reducible refine wp_and.mpr ?_ | with_reducible refine wp_or.mpr ?_ | with_reducible refine wp_not.mpr ?_ | with_reducible refine wp_andV.mpr ?_ | with_reducible refine wp_orV.mpr ?_ | with_reducible refine wp_notV.mpr ?_ | with_reducible refine wp_if.mpr ?_ | with_reducible refine wp_nil.mpr ?_ | with_reducible refine wp_cons.mpr ?_ | with_reducible refine wp_tup.mpr ?_ | with_reducible refine wp_lst.mpr ?_ | with_reducible refine wp_call.mpr ?_ | with_reducible refine wp_isi.mpr ?_ | with_reducible refine wp_isiT.mpr ?_ | with_reducible refine wp_part.mpr ?_ | with_reducible refine wp_sl.mpr ?_ | with_reducible refine wp_callF.mpr ?_ | with_reducible refine wp_callK.mpr ?_ | with_reducible refine wp_pure.mpr ?_ | with_reducible refine wp_put.mpr ?_ | with_reducible refine wp_rng1.mpr ?_ | with_reducible refine wp_rng2.mpr ?_ | with_reducible refine wp_itA.mpr ?_ | with_reducible refine wp_tname.mpr ?_ | ((with_reducible apply wp_dat); exact rfl) | ((with_reducible apply wp_ixN2); exact rfl) | refine yes ?_ | refine no ?_ | refine And.intro (Nat.le_of_ble_eq_true rfl) ?_ | refine And.intro (sz (Nat.le_of_ble_eq_true rfl)) ?_ | refine Exists.intro _ (And.intro (gEq_int _ _) ?_) | ((with_reducible apply ex_and); exact rfl) | ((with_reducible apply ex_bool); exact rfl) | ((with_reducible apply ex_int); exact rfl) | ((with_reducible refine And.intro ?_ ?_); exact rfl) | fail))
    refine wp_lend (xs := []) rfl ?_ rfl ?_
    · (repeat' (first | with_reducible refine wp_seq.mpr ?_ | with_reducible refine wp_ret.mpr ?_ | with_reducible refine wp_retN.mpr ?_ | with_reducible refine wp_skip.mpr ?_ | with_reducible refine wp_brk.mpr ?_ | with_reducible refine wp_cnt.mpr ?_ | with_reducible refine wp_ifS.mpr ?_ | with_reducible refine wp_drop.mpr ?_ | with_reducible refine wp_set.mpr ?_ | with_reducible refine wp_par.mpr ?_ | with_reducible refine wp_setIx.mpr ?_ | with_reducible refine wp_forS.mpr ?_ | with_reducible refine wp_op.mpr ?_ | with_reducible refine wp_neg.mpr ?_ | with_reducible refine wp_is.mpr ?_ | with_reducible refine wp_isnt.mpr ?_ | with_reducible refine wp_tru.mpr ?_ | with_reducible refine wp_tst.mpr ?_ | with_reducible refine wp_and.mpr ?_ | with_reducible refine wp_or.mpr ?_ | with_reducible refine wp_not.mpr ?_ | with_reducible refine wp_andV.mpr ?_ | with_reducible refine wp_orV.mpr ?_ | with_reducible refine wp_notV.mpr ?_ | with_reducible refine wp_if.mpr ?_ | with_reducible refine wp_nil.mpr ?_ | with_reducible refine wp_cons.mpr ?_ | with_reducible refine wp_tup.mpr ?_ | with_reducible refine wp_lst.mpr ?_ | with_reducible refine wp_call.mpr ?_ | with_reducible refine wp_isi.mpr ?_ | with_reducible refine wp_isiT.mpr ?_ | with_reducible refine wp_part.mpr ?_ | with_reducible refine wp_sl.mpr ?_ | with_reducible refine wp_callF.mpr ?_ | with_reducible refine wp_callK.mpr ?_ | with_reducible refine wp_pure.mpr ?_ | with_reducible refine wp_put.mpr ?_ | with_reducible refine wp_rng1.mpr ?_ | with_reducible refine wp_rng2.mpr ?_ | with_reducible refine wp_itA.mpr ?_ | with_reducible refine wp_tname.mpr ?_ | ((with_reducible apply wp_dat); exact rfl) | ((with_reducible apply wp_ixN2); exact rfl) | refine yes ?_ | refine no ?_ | refine And.intro (Nat.le_of_ble_eq_true rfl) ?_ | refine And.intro (sz (Nat.le_of_ble_eq_true rfl)) ?_ | refine Exists.intro _ (And.intro (gEq_int _ _) ?_) | ((with_reducible apply ex_and); exact rfl) | ((with_reducible apply ex_bool); exact rfl) | ((with_reducible apply ex_int); exact rfl) | ((with_reducible refine And.intro ?_ ?_); exact rfl) | fail))
      exact rfl
    refine v_whole hf2 (by omega) fun b fd3 bb hf3 => ?_
    refine ⟨_, _, rfl, ?_⟩
    (repeat' (first | with_reducible refine wp_seq.mpr ?_ | with_reducible refine wp_ret.mpr ?_ | with_reducible refine wp_retN.mpr ?_ | with_reducible refine wp_skip.mpr ?_ | with_reducible refine wp_brk.mpr ?_ | with_reducible refine wp_cnt.mpr ?_ | with_reducible refine wp_ifS.mpr ?_ | with_reducible refine wp_drop.mpr ?_ | with_reducible refine wp_set.mpr ?_ | with_reducible refine wp_par.mpr ?_ | with_reducible refine wp_setIx.mpr ?_ | with_reducible refine wp_forS.mpr ?_ | with_reducible refine wp_op.mpr ?_ | with_reducible refine wp_neg.mpr ?_ | with_reducible refine wp_is.mpr ?_ | with_reducible refine wp_isnt.mpr ?_ | with_reducible refine wp_tru.mpr ?_ | with_reducible refine wp_tst.mpr ?_ | with_reducible refine wp_and.mpr ?_ | with_reducible refine wp_or.mpr ?_ | with_reducible refine wp_not.mpr ?_ | with_reducible refine wp_andV.mpr ?_ | with_reducible refine wp_orV.mpr ?_ | with_reducible refine wp_notV.mpr ?_ | with_reducible refine wp_if.mpr ?_ | with_reducible refine wp_nil.mpr ?_ | with_reducible refine wp_cons.mpr ?_ | with_reducible refine wp_tup.mpr ?_ | with_reducible refine wp_lst.mpr ?_ | with_reducible refine wp_call.mpr ?_ | with_reducible refine wp_isi.mpr ?_ | with_reducible refine wp_isiT.mpr ?_ | with_reducible refine wp_part.mpr ?_ | with_reducible refine wp_sl.mpr ?_ | with_reducible refine wp_callF.mpr ?_ | with_reducible refine wp_callK.mpr ?_ | with_reducible refine wp_pure.mpr ?_ | with_reducible refine wp_put.mpr ?_ | with_reducible refine wp_rng1.mpr ?_ | with_reducible refine wp_rng2.mpr ?_ | with_reducible refine wp_itA.mpr ?_ | with_reducible refine wp_tname.mpr ?_ | ((with_reducible apply wp_dat); exact rfl) | ((with_reducible apply wp_ixN2); exact rfl) | refine yes ?_ | refine no ?_ | refine And.intro (Nat.le_of_ble_eq_true rfl) ?_ | refine And.intro (sz (Nat.le_of_ble_eq_true rfl)) ?_ | refine Exists.intro _ (And.intro (gEq_int _ _) ?_) | ((with_reducible apply ex_and); exact rfl) | ((with_reducible apply ex_bool); exact rfl) | ((with_reducible apply ex_int); exact rfl) | ((with_reducible refine And.intro ?_ ?_); exact rfl) | fail))
    exact q _ _ ⟨a, b, rfl, ba.mono (by decide), bb.mono (by decide)⟩ (hf3.mono (by omega))
  · (repeat' (first | with_reducible refine wp_seq.mpr ?_ | with_reducible refine wp_ret.mpr ?_ | with_reducible refine wp_retN.mpr ?_ | with_reducible refine wp_skip.mpr ?_ | with_reducible refine wp_brk.mpr ?_ | with_reducible refine wp_cnt.mpr ?_ | with_reducible refine wp_ifS.mpr ?_ | with_reducible refine wp_drop.mpr ?_ | with_reducible refine wp_set.mpr ?_ | with_reducible refine wp_par.mpr ?_ | with_reducible refine wp_setIx.mpr ?_ | with_reducible refine wp_forS.mpr ?_ | with_reducible refine wp_op.mpr ?_ | with_reducible refine wp_neg.mpr ?_ | with_reducible refine wp_is.mpr ?_ | with_reducible refine wp_isnt.mpr ?_ | with_reducible refine wp_tru.mpr ?_ | with_reducible refine wp_tst.mpr ?_ | with_reducible refine wp_and.mpr ?_ | with_reducible refine wp_or.mpr ?_ | with_reducible refine wp_not.mpr ?_ | with_reducible refine wp_andV.mpr ?_ | with_reducible refine wp_orV.mpr ?_ | with_reducible refine wp_notV.mpr ?_ | with_reducible refine wp_if.mpr ?_ | with_reducible refine wp_nil.mpr ?_ | with_reducible refine wp_cons.mpr ?_ | with_reducible refine wp_tup.mpr ?_ | with_reducible refine wp_lst.mpr ?_ | with_reducible refine wp_call.mpr ?_ | with_reducible refine wp_isi.mpr ?_ | with_reducible refine wp_isiT.mpr ?_ | with_reducible refine wp_part.mpr ?_ | with_reducible refine wp_sl.mpr ?_ | with_reducible refine wp_callF.mpr ?_ | with_reducible refine wp_callK.mpr ?_ | with_reducible refine wp_pure.mpr ?_ | with_reducible refine wp_put.mpr ?_ | with_reducible refine wp_rng1.mpr ?_ | with_reducible refine wp_rng2.mpr ?_ | with_reducible refine wp_itA.mpr ?_ | with_reducible refine wp_tname.mpr ?_ | ((with_reducible apply wp_dat); exact rfl) | ((with_reducible apply wp_ixN2); exact rfl) | refine yes ?_ | refine no ?_ | refine And.intro (Nat.le_of_ble_eq_true rfl) ?_ | refine And.intro (sz (Nat.le_of_ble_eq_true rfl)) ?_ | refine Exists.intro _ (And.intro (gEq_int _ _) ?_) | ((with_reducible apply ex_and); exact rfl) | ((with_reducible apply ex_bool); exact rfl) | ((with_reducible apply ex_int); exact rfl) | ((with_reducible refine And.intro ?_ ?_); exact rfl) | fail))
    refine wp_lend (xs := []) rfl ?_ rfl ?_
    · (repeat' (first | with_reducible refine wp_seq.mpr ?_ | with_reducible refine wp_ret.mpr ?_ | with_reducible refine wp_retN.mpr ?_ | with_reducible refine wp_skip.mpr ?_ | with_reducible refine wp_brk.mpr ?_ | with_reducible refine wp_cnt.mpr ?_ | with_reducible refine wp_ifS.mpr ?_ | with_reducible refine wp_drop.mpr ?_ | with_reducible refine wp_set.mpr ?_ | with_reducible refine wp_par.mpr ?_ | with_reducible refine wp_setIx.mpr ?_ | with_reducible refine wp_forS.mpr ?_ | with_reducible refine wp_op.mpr ?_ | with_reducible refine wp_neg.mpr ?_ | with_reducible refine wp_is.mpr ?_ | with_reducible refine wp_isnt.mpr ?_ | with_reducible refine wp_tru.mpr ?_ | with_reducible refine wp_tst.mpr ?_ | with_reducible refine wp_and.mpr ?_ | with_reducible refine wp_or.mpr ?_ | with_reducible refine wp_not.mpr ?_ | with_reducible refine wp_andV.mpr ?_ | with_reducible refine wp_orV.mpr ?_ | with_reducible refine wp_notV.mpr ?_ | with_reducible refine wp_if.mpr ?_ | with_reducible refine wp_nil.mpr ?_ | with_reducible refine wp_cons.mpr ?_ | with_reducible refine wp_tup.mpr ?_ | with_reducible refine wp_lst.mpr ?_ | with_reducible refine wp_call.mpr ?_ | with_reducible refine wp_isi.mpr ?_ | with_reducible refine wp_isiT.mpr ?_ | with_reducible refine wp_part.mpr ?_ | with_reducible refine wp_sl.mpr ?_ | with_reducible refine wp_callF.mpr ?_ | with_reducible refine wp_callK.mpr ?_ | with_reducible refine wp_pure.mpr ?_ | with_reducible refine wp_put.mpr ?_ | with_reducible refine wp_rng1.mpr ?_ | with_reducible refine wp_rng2.mpr ?_ | with_reducible refine wp_itA.mpr ?_ | with_reducible refine wp_tname.mpr ?_ | ((with_reducible apply wp_dat); exact rfl) | ((with_reducible apply wp_ixN2); exact rfl) | refine yes ?_ | refine no ?_ | refine And.intro (Nat.le_of_ble_eq_true rfl) ?_ | refine And.intro (sz (Nat.le_of_ble_eq_true rfl)) ?_ | refine Exists.intro _ (And.intro (gEq_int _ _) ?_) | ((with_reducible apply ex_and); exact rfl) | ((with_reducible apply ex_bool); exact rfl) | ((with_reducible apply ex_int); exact rfl) | ((with_reducible refine And.intro ?_ ?_); exact rfl) | fail))
      exact rfl
    refine v_whole hf1 (by omega) fun a fd2 ba hf2 => ?_
    refine ⟨_, _, rfl, ?_⟩
    (repeat' (first | with_reducible refine wp_seq.mpr ?_ | with_reducible refine wp_ret.mpr ?_ | with_reducible refine wp_retN.mpr ?_ | with_reducible refine wp_skip.mpr ?_ | with_reducible refine wp_brk.mpr ?_ | with_reducible refine wp_cnt.mpr ?_ | with_reducible refine wp_ifS.mpr ?_ | with_reducible refine wp_drop.mpr ?_ | with_reducible refine wp_set.mpr ?_ | with_reducible refine wp_par.mpr ?_ | with_reducible refine wp_setIx.mpr ?_ | with_reducible refine wp_forS.mpr ?_ | with_reducible refine wp_op.mpr ?_ | with_reducible refine wp_neg.mpr ?_ | with_reducible refine wp_is.mpr ?_ | with_reducible refine wp_isnt.mpr ?_ | with_reducible refine wp_tru.mpr ?_ | with_reducible refine wp_tst.mpr ?_ | with_reducible refine wp_and.mpr ?_ | with_reducible refine wp_or.mpr ?_ | with_reducible refine wp_not.mpr ?_ | with_reducible refine wp_andV.mpr ?_ | with_reducible refine wp_orV.mpr ?_ | with_reducible refine wp_notV.mpr ?_ | with_reducible refine wp_if.mpr ?_ | with_reducible refine wp_nil.mpr ?_ | with_reducible refine wp_cons.mpr ?_ | with_reducible refine wp_tup.mpr ?_ | with_reducible refine wp_lst.mpr ?_ | with_reducible refine wp_call.mpr ?_ | with_reducible refine wp_isi.mpr ?_ | with_reducible refine wp_isiT.mpr ?_ | with_reducible refine wp_part.mpr ?_ | with_reducible refine wp_sl.mpr ?_ | with_reducible refine wp_callF.mpr ?_ | with_reducible refine wp_callK.mpr ?_ | with_reducible refine wp_pure.mpr ?_ | with_reducible refine wp_put.mpr ?_ | with_reducible refine wp_rng1.mpr ?_ | with_reducible refine wp_rng2.mpr ?_ | with_reducible refine wp_itA.mpr ?_ | with_reducible refine wp_tname.mpr ?_ | ((with_reducible apply wp_dat); exact rfl) | ((with_reducible apply wp_ixN2); exact rfl) | refine yes ?_ | refine no ?_ | refine And.intro (Nat.le_of_ble_eq_true rfl) ?_ | refine And.intro (sz (Nat.le_of_ble_eq_true rfl)) ?_ | refine Exists.intro _ (And.intro (gEq_int _ _) ?_) | ((with_reducible apply ex_and); exact rfl) | ((with_reducible apply ex_bool); exact rfl) | ((with_reducible apply ex_int); exact rfl) | ((with_reducible refine And.intro ?_ ?_); exact rfl) | fail))
    refine wp_lend (xs := []) rfl ?_ rfl ?_
    · (repeat' (first | with_reducible refine wp_seq.mpr ?_ | with_reducible refine wp_ret.mpr ?_ | with_reducible refine wp_retN.mpr ?_ | with_reducible refine wp_skip.mpr ?_ | with_reducible refine wp_brk.mpr ?_ | with_reducible refine wp_cnt.mpr ?_ | with_reducible refine wp_ifS.mpr ?_ | with_reducible refine wp_drop.mpr ?_ | with_reducible refine wp_set.mpr ?_ | with_reducible refine wp_par.mpr ?_ | with_reducible refine wp_setIx.mpr ?_ | with_reducible refine wp_forS.mpr ?_ | with_reducible refine wp_op.mpr ?_ | with_reducible refine wp_neg.mpr ?_ | with_reducible refine wp_is.mpr ?_ | with_reducible refine wp_isnt.mpr ?_ | with_reducible refine wp_tru.mpr ?_ | with_reducible refine wp_tst.mpr ?_ | with_reducible refine wp_and.mpr ?_ | with_reducible refine wp_or.mpr ?_ | with_reducible refine wp_not.mpr ?_ | with_reducible refine wp_andV.mpr ?_ | with_reducible refine wp_orV.mpr ?_ | with_reducible refine wp_notV.mpr ?_ | with_reducible refine wp_if.mpr ?_ | with_reducible refine wp_nil.mpr ?_ | with_reducible refine wp_cons.mpr ?_ | with_reducible refine wp_tup.mpr ?_ | with_reducible refine wp_lst.mpr ?_ | with_reducible refine wp_call.mpr ?_ | with_reducible refine wp_isi.mpr ?_ | with_reducible refine wp_isiT.mpr ?_ | with_reducible refine wp_part.mpr ?_ | with_reducible refine wp_sl.mpr ?_ | with_reducible refine wp_callF.mpr ?_ | with_reducible refine wp_callK.mpr ?_ | with_reducible refine wp_pure.mpr ?_ | with_reducible refine wp_put.mpr ?_ | with_reducible refine wp_rng1.mpr ?_ | with_reducible refine wp_rng2.mpr ?_ | with_reducible refine wp_itA.mpr ?_ | with_reducible refine wp_tname.mpr ?_ | ((with_reducible apply wp_dat); exact rfl) | ((with_reducible apply wp_ixN2); exact rfl) | refine yes ?_ | refine no ?_ | refine And.intro (Nat.le_of_ble_eq_true rfl) ?_ | refine And.intro (sz (Nat.le_of_ble_eq_true rfl)) ?_ | refine Exists.intro _ (And.intro (gEq_int _ _) ?_) | ((with_reducible apply ex_and); exact rfl) | ((with_reducible apply ex_bool); exact rfl) | ((with_reducible apply ex_int); exact rfl) | ((with_reducible refine And.intro ?_ ?_); exact rfl) | fail))
      exact rfl
    refine v_whole hf2 (by omega) fun b fd3 bb hf3 => ?_
    refine ⟨_, _, rfl, ?_⟩
    (repeat' (first | with_reducible refine wp_seq.mpr ?_ | with_reducible refine wp_ret.mpr ?_ | with_reducible refine wp_retN.mpr ?_ | with_reducible refine wp_skip.mpr ?_ | with_reducible refine wp_brk.mpr ?_ | with_reducible refine wp_cnt.mpr ?_ | with_reducible refine wp_ifS.mpr ?_ | with_reducible refine wp_drop.mpr ?_ | with_reducible refine wp_set.mpr ?_ | with_reducible refine wp_par.mpr ?_ | with_reducible refine wp_setIx.mpr ?_ | with_reducible refine wp_forS.mpr ?_ | with_reducible refine wp_op.mpr ?_ | with_reducible refine wp_neg.mpr ?_ | with_reducible refine wp_is.mpr ?_ | with_reducible refine wp_isnt.mpr ?_ | with_reducible refine wp_tru.mpr ?_ | with_reducible refine wp_tst.mpr ?_ | with_reducible refine wp_and.mpr ?_ | with_reducible refine wp_or.mpr ?_ | with_reducible refine wp_not.mpr ?_ | with_reducible refine wp_andV.mpr ?_ | with_reducible refine wp_orV.mpr ?_ | with_reducible refine wp_notV.mpr ?_ | with_reducible refine wp_if.mpr ?_ | with_reducible refine wp_nil.mpr ?_ | with_reducible refine wp_cons.mpr ?_ | with_reducible refine wp_tup.mpr ?_ | with_reducible refine wp_lst.mpr ?_ | with_reducible refine wp_call.mpr ?_ | with_reducible refine wp_isi.mpr ?_ | with_reducible refine wp_isiT.mpr ?_ | with_reducible refine wp_part.mpr ?_ | with_reducible refine wp_sl.mpr ?_ | with_reducible refine wp_callF.mpr ?_ | with_reducible refine wp_callK.mpr ?_ | with_reducible refine wp_pure.mpr ?_ | with_reducible refine wp_put.mpr ?_ | with_reducible refine wp_rng1.mpr ?_ | with_reducible refine wp_rng2.mpr ?_ | with_reducible refine wp_itA.mpr ?_ | with_reducible refine wp_tname.mpr ?_ | ((with_reducible apply wp_dat); exact rfl) | ((with_reducible apply wp_ixN2); exact rfl) | refine yes ?_ | refine no ?_ | refine And.intro (Nat.le_of_ble_eq_true rfl) ?_ | refine And.intro (sz (Nat.le_of_ble_eq_true rfl)) ?_ | refine Exists.intro _ (And.intro (gEq_int _ _) ?_) | ((with_reducible apply ex_and); exact rfl) | ((with_reducible apply ex_bool); exact rfl) | ((with_reducible apply ex_int); exact rfl) | ((with_reducible refine And.intro ?_ ?_); exact rfl) | fail))
    exact q _ _ ⟨a, b, rfl, ba.mono (by decide), bb.mono (by decide)⟩ (hf3.mono (by omega))
end Hd

set_option maxHeartbeats 2000000
namespace Hd
open PySem PySem.Spec PyProof.Rows L2 L2.DL
theorem five_sq {w : Int} (h : (w * w) % 5 = 0) : w % 5 = 0 := by
  have c : w % 5 = 0 ∨ w % 5 = 1 ∨ w % 5 = 2 ∨ w % 5 = 3 ∨ w % 5 = 4 := by omega
  rw [Int.mul_emod] at h
  rcases c with c | c | c | c | c <;> rw [c] at h <;> first | exact c | (exact absurd h (by decide))
theorem sq_nonneg (x : Int) : 0 ≤ x * x := by
  rcases Int.le_total 0 x with h | h
  · exact Int.mul_nonneg h h
  · exact Int.mul_nonneg_of_nonpos_of_nonpos h h
theorem sq_zero {x : Int} (h : x * x ≤ 0) : x = 0 := by
  have h1 : x * x = 0 := by have := sq_nonneg x; omega
  rcases Int.mul_eq_zero.mp h1 with h | h <;> exact h
theorem irr : ∀ (n : Nat) (w r : Int), r.natAbs ≤ n → w * w = 5 * (r * r) → r = 0 := by
  intro n
  induction n with
  | zero => intro w r h _; omega
  | succ n ih =>
    intro w r h e
    have h5 : w % 5 = 0 := five_sq (by omega)
    obtain ⟨k, rfl⟩ : ∃ k, w = 5 * k := ⟨w / 5, by omega⟩
    have e2 : r * r = 5 * (k * k) := by grind
    have h6 : r % 5 = 0 := five_sq (by omega)
    obtain ⟨m, rfl⟩ : ∃ m, r = 5 * m := ⟨r / 5, by omega⟩
    have e3 : k * k = 5 * (m * m) := by grind
    by_cases z : m = 0
    · omega
    · have := ih k m (by omega) e3
      omega
theorem sgI_pos {x : Int} (h : 0 < x) : sgI x = 1 := by
  unfold sgI b2i
  rw [decide_eq_true h, decide_eq_false (show ¬ x < 0 by omega)]
  rfl
theorem sgI_neg {x : Int} (h : x < 0) : sgI x = -1 := by
  unfold sgI b2i
  rw [decide_eq_false (show ¬ 0 < x by omega), decide_eq_true h]
  rfl
theorem sgI_zero : sgI 0 = 0 := rfl
theorem sgI_opp (x : Int) : sgI (-x) = - sgI x := by
  rcases Int.lt_trichotomy x 0 with h | h | h
  · rw [sgI_neg h, sgI_pos (by omega)]; rfl
  · subst h; rfl
  · rw [sgI_pos h, sgI_neg (by omega)]
theorem sgI_mul (x y : Int) : sgI (x * y) = sgI x * sgI y := by
  rcases Int.lt_trichotomy x 0 with h | h | h <;> rcases Int.lt_trichotomy y 0 with g | g | g
  · rw [sgI_neg h, sgI_neg g, sgI_pos (Int.mul_pos_of_neg_of_neg h g)]; rfl
  · subst g; rw [Int.mul_zero, sgI_zero, Int.mul_zero]
  · rw [sgI_neg h, sgI_pos g, sgI_neg (Int.mul_neg_of_neg_of_pos h g)]; rfl
  · subst h; rw [Int.zero_mul, sgI_zero, Int.zero_mul]
  · subst h; rw [Int.zero_mul, sgI_zero, Int.zero_mul]
  · subst h; rw [Int.zero_mul, sgI_zero, Int.zero_mul]
  · rw [sgI_pos h, sgI_neg g, sgI_neg (Int.mul_neg_of_pos_of_neg h g)]; rfl
  · subst g; rw [Int.mul_zero, sgI_zero, Int.mul_zero]
  · rw [sgI_pos h, sgI_pos g, sgI_pos (Int.mul_pos h g)]; rfl
/-- the greater one of two tells the sign -/
theorem sgI_add {x y : Int} (h : y * y < x * x) : sgI (x + y) = sgI x := by
  rcases Int.lt_trichotomy x 0 with hx | hx | hx
  · have : x + y < 0 := by
      rcases Int.lt_or_le (x + y) 0 with g | g
      · exact g
      · have := Int.mul_le_mul (show -x ≤ y by omega) (show -x ≤ y by omega) (by omega) (by omega)
        grind
    rw [sgI_neg hx, sgI_neg this]
  · subst hx
    have := sq_nonneg y
    omega
  · have : 0 < x + y := by
      rcases Int.lt_or_le 0 (x + y) with g | g
      · exact g
      · have := Int.mul_le_mul (show x ≤ -y by omega) (show x ≤ -y by omega) (by omega) (by omega)
        grind
    rw [sgI_pos hx, sgI_pos this]
theorem sgI_two (x : Int) : sgI (2 * x) = sgI x := by
  rw [sgI_mul, sgI_pos (by decide : (0 : Int) < 2), Int.one_mul]
/-- the sign by squares alone -/
theorem sgP_sq (w r : Int) : sgP w r = if 5 * r * r < w * w then sgI w else sgI r := by
  unfold sgP
  have hw := sq_nonneg w
  have hr := sq_nonneg r
  by_cases h1 : 0 ≤ w ∧ 0 ≤ r
  · rw [if_pos h1]
    by_cases h : 5 * r * r < w * w
    · rw [if_pos h]
      have : w ≠ 0 := fun z => by subst z; grind
      rw [sgI_pos (show 0 < w by omega), sgI_pos (by omega)]
    · rw [if_neg h]
      by_cases z : r = 0
      · subst z
        have : w = 0 := sq_zero (by omega)
        subst this
        rfl
      · rw [sgI_pos (show 0 < r by omega), sgI_pos (by omega)]
  · rw [if_neg h1]
    by_cases h2 : w ≤ 0 ∧ r ≤ 0
    · rw [if_pos h2]
      by_cases h : 5 * r * r < w * w
      · rw [if_pos h]
        have : w ≠ 0 := fun z => by subst z; grind
        rw [sgI_neg (show w < 0 by omega), sgI_neg (by omega)]
      · rw [if_neg h]
        by_cases z : r = 0
        · subst z
          have : w = 0 := sq_zero (by omega)
          subst this
          rfl
        · rw [sgI_neg (show r < 0 by omega), sgI_neg (by omega)]
    · rw [if_neg h2]
theorem sgL_eq (w r : Int) : sgL w r = sgP w r := by
  unfold sgL
  by_cases h : 0 ≤ w * r
  · rw [if_pos h]
    unfold sgP
    by_cases h1 : 0 ≤ w ∧ 0 ≤ r
    · rw [if_pos h1]
    · rw [if_neg h1]
      by_cases h2 : w ≤ 0 ∧ r ≤ 0
      · rw [if_pos h2]
      · exfalso
        rcases Int.lt_or_le w 0 with a | a
        · have : 0 < r := by omega
          have := Int.mul_neg_of_neg_of_pos a this
          omega
        · have b : r < 0 := by omega
          have a : 0 < w := by omega
          have := Int.mul_neg_of_pos_of_neg a b
          omega
  · rw [if_neg h, sgP_sq]
    have h0 : w * w ≠ 5 * r * r := fun e => by
      have z := irr r.natAbs w r (Nat.le_refl _) (by grind)
      subst z
      simp at h
    by_cases h3 : w * w < 5 * r * r
    · rw [if_pos h3, if_neg (by omega)]
    · rw [if_neg h3, if_pos (by omega)]
theorem mul_lt {p q P Q : Int} (p0 : 0 ≤ p) (q0 : 0 ≤ q) (h : p < P) (g : q < Q) : p * q < P * Q := by
  have h1 : p * q ≤ p * Q := Int.mul_le_mul_of_nonneg_left (by omega) p0
  have h2 : p * Q < P * Q := Int.mul_lt_mul_of_pos_right h (by omega)
  omega
theorem sg_times (a b c d : Int) : sgP (2 * (a * c + b * d) + (a * d + b * c + b * d)) (a * d + b * c + b * d) = sgP (2 * a + b) b * sgP (2 * c + d) d := by
  obtain ⟨w, hw⟩ : ∃ w, w = 2 * a + b := ⟨_, rfl⟩
  obtain ⟨v, hv⟩ : ∃ v, v = 2 * c + d := ⟨_, rfl⟩
  obtain ⟨s, hs⟩ : ∃ s, s = a * d + b * c + b * d := ⟨_, rfl⟩
  obtain ⟨t, ht⟩ : ∃ t, t = 2 * (a * c + b * d) + s := ⟨_, rfl⟩
  rw [← hs, ← ht, ← hw, ← hv]
  have e1 : 2 * t = w * v + 5 * b * d := by grind
  have e2 : 2 * s = w * d + v * b := by grind
  have e3 : 4 * (t * t - 5 * s * s) = (w * w - 5 * b * b) * (v * v - 5 * d * d) := by grind
  have nb := sq_nonneg b
  have nd := sq_nonneg d
  have nw := sq_nonneg w
  have nv := sq_nonneg v
  rw [sgP_sq, sgP_sq, sgP_sq]
  by_cases h1 : 5 * b * b < w * w <;> by_cases h2 : 5 * d * d < v * v
  · rw [if_pos h1, if_pos h2]
    have := Int.mul_pos (show 0 < w * w - 5 * b * b by omega) (show 0 < v * v - 5 * d * d by omega)
    rw [if_pos (by omega), ← sgI_two t, e1, sgI_add, sgI_mul]
    have := mul_lt (by grind) (by grind) h1 h2
    grind
  · rw [if_pos h1, if_neg h2]
    have := Int.mul_nonneg (show 0 ≤ w * w - 5 * b * b by omega) (show 0 ≤ 5 * d * d - v * v by omega)
    rw [if_neg (by grind), ← sgI_two s, e2]
    by_cases z : d = 0
    · subst z
      have : v = 0 := sq_zero (by omega)
      subst this
      simp [sgI_zero]
    · have hd : 0 < d * d := by
        rcases Int.lt_or_gt_of_ne z with g | g
        · exact Int.mul_pos_of_neg_of_neg g g
        · exact Int.mul_pos g g
      rw [sgI_add, sgI_mul]
      have x1 : (5 * b * b) * (d * d) < (w * w) * (d * d) := Int.mul_lt_mul_of_pos_right h1 hd
      have x2 : (v * v) * (b * b) ≤ (5 * d * d) * (b * b) := Int.mul_le_mul_of_nonneg_right (by omega) nb
      grind
  · rw [if_neg h1, if_pos h2]
    have := Int.mul_nonneg (show 0 ≤ 5 * b * b - w * w by omega) (show 0 ≤ v * v - 5 * d * d by omega)
    rw [if_neg (by grind), ← sgI_two s, e2, Int.add_comm]
    by_cases z : b = 0
    · subst z
      have : w = 0 := sq_zero (by omega)
      subst this
      simp [sgI_zero]
    · have hb : 0 < b * b := by
        rcases Int.lt_or_gt_of_ne z with g | g
        · exact Int.mul_pos_of_neg_of_neg g g
        · exact Int.mul_pos g g
      rw [sgI_add, sgI_mul, Int.mul_comm]
      have x1 : (5 * d * d) * (b * b) < (v * v) * (b * b) := Int.mul_lt_mul_of_pos_right h2 hb
      have x2 : (w * w) * (d * d) ≤ (5 * b * b) * (d * d) := Int.mul_le_mul_of_nonneg_right (by omega) nd
      grind
  · rw [if_neg h1, if_neg h2]
    by_cases z : b = 0
    · subst z
      have : w = 0 := sq_zero (by omega)
      subst this
      have z1 : t = 0 := by grind
      have z2 : s = 0 := by grind
      rw [z1, z2]
      simp [sgI_zero]
    · by_cases y : d = 0
      · subst y
        have : v = 0 := sq_zero (by omega)
        subst this
        have z1 : t = 0 := by grind
        have z2 : s = 0 := by grind
        rw [z1, z2]
        simp [sgI_zero]
      · have n1 : w * w ≠ 5 * b * b := fun e => z (irr b.natAbs w b (Nat.le_refl _) (by grind))
        have n2 : v * v ≠ 5 * d * d := fun e => y (irr d.natAbs v d (Nat.le_refl _) (by grind))
        have := Int.mul_pos (show 0 < 5 * b * b - w * w by omega) (show 0 < 5 * d * d - v * v by omega)
        rw [if_pos (by grind), ← sgI_two t, e1, Int.add_comm, sgI_add, show 5 * b * d = 5 * (b * d) from by grind, sgI_mul, sgI_mul, sgI_pos (by decide : (0 : Int) < 5), Int.one_mul]
        have := mul_lt nw nv (show w * w < 5 * b * b by omega) (show v * v < 5 * d * d by omega)
        grind
theorem sg_opp (a b : Int) : sgP (2 * (-a) + -b) (-b) = - sgP (2 * a + b) b := by
  rw [sgP_sq, sgP_sq]
  have e1 : 5 * (-b) * (-b) = 5 * b * b := by grind
  have e2 : (2 * (-a) + -b) * (2 * (-a) + -b) = (2 * a + b) * (2 * a + b) := by grind
  rw [e1, e2]
  by_cases h : 5 * b * b < (2 * a + b) * (2 * a + b)
  · rw [if_pos h, if_pos h, ← sgI_opp]
    congr 1
    omega
  · rw [if_neg h, if_neg h, ← sgI_opp]
theorem sgI_null {x : Int} (h : sgI x = 0) : x = 0 := by
  rcases Int.lt_trichotomy x 0 with g | g | g
  · rw [sgI_neg g] at h; cases h
  · exact g
  · rw [sgI_pos g] at h; cases h
theorem sg_null (a b : Int) : (sgP (2 * a + b) b == 0) = (decide (a = 0) && decide (b = 0)) := by
  by_cases h : a = 0 ∧ b = 0
  · obtain ⟨rfl, rfl⟩ := h
    rfl
  · have : sgP (2 * a + b) b ≠ 0 := by
      rw [sgP_sq]
      intro e
      by_cases g : 5 * b * b < (2 * a + b) * (2 * a + b)
      · rw [if_pos g] at e
        have z := sgI_null e
        rw [z] at g
        have := sq_nonneg b
        grind
      · rw [if_neg g] at e
        have z := sgI_null e
        subst z
        have y : 2 * a + 0 = 0 := sq_zero (by omega)
        exact h ⟨by omega, rfl⟩
    have e1 : (sgP (2 * a + b) b == 0) = false := by simpa using this
    rw [e1]
    by_cases a0 : a = 0
    · have : b ≠ 0 := fun z => h ⟨a0, z⟩
      simp [this]
    · simp [a0]
end Hd

set_option maxHeartbeats 4000000
namespace Hd
open PySem PySem.Spec PyProof.Rows L2 L2.DL
theorem v_same {x y : D} (e : x = y) (h : sml y = true) (hd : y.depth ≤ 11) {Q : D → List A → Prop} (q : Q (.bool true) [.und, .und]) : Gv f__law_same [.dat x, .dat y] Q := by
  subst e
  exact same_refl 11 x h hd q
theorem v_times50 {a b c d : Int} (ha : Bd 50 a) (hb : Bd 50 b) (hc : Bd 50 c) (hd : Bd 50 d) {Q : D → List A → Prop} (q : Q (pr (a * c + b * d) (a * d + b * c + b * d)) [.und, .und]) : Gv f_times [.dat (pr a b), .dat (pr c d)] Q :=
  v_times a b c d (hb.cm hd) (ha.cm hc) (ha.cm hd) (hb.cm hc) q
theorem b2 : Bd 2 2 := by unfold Bd; decide
theorem b5 : Bd 3 5 := by unfold Bd; decide
theorem dbl {k : Nat} {a b : Int} (ha : Bd k a) (hb : Bd k b) : Bd (k + 3) (2 * a + b) := by
  have h := (b2.mul ha).add (hb.mono (show k ≤ 2 + k by omega))
  exact h.mono (by omega)
theorem v_sign150 {a b : Int} (ha : Bd 150 a) (hb : Bd 150 b) {Q : D → List A → Prop} (q : Q (.int (sgP (2 * a + b) b)) [.und]) : Gv f_sign [.dat (pr a b)] Q :=
  v_sign a b (b2.cm ha) ((dbl ha hb).cm (dbl ha hb)) (b5.cm hb) ((b5.mul hb).cm hb) q
theorem v_law_sign150 {a b : Int} (ha : Bd 150 a) (hb : Bd 150 b) {Q : D → List A → Prop} (q : Q (.int (sgP (2 * a + b) b)) [.und]) : Gv f__law_sign [.dat (pr a b)] Q := by
  refine v_law_sign a b (b2.cm ha) ((dbl ha hb).cm (dbl ha hb)) (b5.cm hb) ((b5.mul hb).cm hb) ((dbl ha hb).cm hb) ?_
  rw [sgL_eq]
  exact q
theorem sgI_range (x : Int) : sgI x = -1 ∨ sgI x = 0 ∨ sgI x = 1 := by
  rcases Int.lt_trichotomy x 0 with g | g | g
  · exact .inl (sgI_neg g)
  · subst g; exact .inr (.inl rfl)
  · exact .inr (.inr (sgI_pos g))
theorem sgP_bd (w r : Int) : Bd 2 (sgP w r) := by
  rw [sgP_sq]
  by_cases h : 5 * r * r < w * w
  · rw [if_pos h]
    rcases sgI_range w with e | e | e <;> rw [e] <;> unfold Bd <;> decide
  · rw [if_neg h]
    rcases sgI_range r with e | e | e <;> rw [e] <;> unfold Bd <;> decide
theorem gEq_pr (a b c d : Int) : gEq (pr a b) (pr c d) = some (.bool (a == c && b == d)) := by
  simp [gEq, SeqAt.shaped, PyData.canLay0, PyData.canLayAll0, PyData.depth, PyData.depthAll, PyData.eqv, PyData.eqvAll]
theorem gvE {f : List A → Option (Rs D)} {ρ ρ' : List A} {Q : D → List A → Prop} (e : ρ = ρ') (h : Gv f ρ' Q) : Gv f ρ Q := e ▸ h
theorem v_plusE {ρ : List A} {a b c d : Int} {Q : D → List A → Prop} (e : ρ = [.dat (pr a b), .dat (pr c d)]) (q : Q (pr (a + c) (b + d)) [.und, .und]) : Gv f_plus ρ Q := by
  subst e
  exact v_plus _ _ _ _ q
theorem v_sameE {ρ : List A} {x y : D} {Q : D → List A → Prop} (e0 : ρ = [.dat x, .dat y]) (e : x = y) (h : sml y = true) (hd : y.depth ≤ 11) (q : Q (.bool true) [.und, .und]) : Gv f__law_same ρ Q := by
  subst e0
  exact v_same e h hd q
theorem v_right {a b c d e f : Int} (ha : Bd 43 a) (hb : Bd 43 b) (hc : Bd 43 c) (hd : Bd 43 d) (he : Bd 43 e) (hf : Bd 43 f) {Q : D → List A → Prop} (q : Q (.bool true) [.und, .und, .und]) : Gv f__law_right [.dat (pr a b), .dat (pr c d), .dat (pr e f)] Q := by
  have A5 := ha.mono (show 43 ≤ 50 by decide)
  have B5 := hb.mono (show 43 ≤ 50 by decide)
  have C5 := hc.mono (show 43 ≤ 50 by decide)
  have D5 := hd.mono (show 43 ≤ 50 by decide)
  have E5 := he.mono (show 43 ≤ 50 by decide)
  have F5 := hf.mono (show 43 ≤ 50 by decide)
  have G5 := (hc.add he).mono (show 44 ≤ 50 by decide)
  have H5 := (hd.add hf).mono (show 44 ≤ 50 by decide)
  have A9 := ha.mono (show 43 ≤ 150 by decide)
  have B9 := hb.mono (show 43 ≤ 150 by decide)
  have C9 := hc.mono (show 43 ≤ 150 by decide)
  have D9 := hd.mono (show 43 ≤ 150 by decide)
  have E9 := he.mono (show 43 ≤ 150 by decide)
  have F9 := hf.mono (show 43 ≤ 150 by decide)
  have M1 : Bd 150 (a * c + b * d) := ((A5.mul C5).add (B5.mul D5)).mono (by decide)
  have M2 : Bd 150 (a * d + b * c + b * d) := (((A5.mul D5).add (B5.mul C5)).add ((B5.mul D5).mono (show 100 ≤ 101 by decide))).mono (by decide)
  have p1 : CMulW (sgP (2 * a + b) b) (sgP (2 * c + d) d) := (sgP_bd _ _).cm (sgP_bd _ _)
  have q' : ∀ t, t = true → Q (.bool t) [.und, .und, .und] := fun t e => e ▸ q
  clear q
  apply gv_run
  unfold fb__law_right
  (repeat' (first | with_reducible refine ex_and (gMul_ok (B5.cm D5)) ?_ | with_reducible refine ex_and (gMul_ok (A5.cm C5)) ?_ | with_reducible refine ex_and (gMul_ok (A5.cm D5)) ?_ | with_reducible refine ex_and (gMul_ok (B5.cm C5)) ?_ | with_reducible refine ex_and (gMul_ok p1) ?_ | with_reducible refine ex_and (gEq_pr _ _ _ _) ?_ | with_reducible refine wp_seq.mpr ?_ | with_reducible refine wp_ret.mpr ?_ | with_reducible refine wp_retN.mpr ?_ | with_reducible refine wp_skip.mpr ?_ | with_reducible refine wp_brk.mpr ?_ | with_reducible refine wp_cnt.mpr ?_ | with_reducible refine wp_ifS.mpr ?_ | with_reducible refine wp_drop.mpr ?_ | with_reducible refine wp_set.mpr ?_ | with_reducible refine wp_par.mpr ?_ | with_reducible refine wp_setIx.mpr ?_ | with_reducible refine wp_forS.mpr ?_ | with_reducible refine wp_op.mpr ?_ | with_reducible refine wp_neg.mpr ?_ | with_reducible refine wp_is.mpr ?_ | with_reducible refine wp_isnt.mpr ?_ | with_reducible refine wp_tru.mpr ?_ | with_reducible refine wp_tst.mpr ?_ | with_reducible refine wp_and.mpr ?_ | with_reducible refine wp_or.mpr ?_ | with_reducible refine wp_not.mpr ?_ | with_reducible refine wp_andV.mpr ?_ | with_reducible refine wp_orV.mpr ?_ | with_reducible refine wp_notV.mpr ?_ | with_reducible refine wp_if.mpr ?_ | with_reducible refine wp_nil.mpr ?_ | with_reducible refine wp_cons.mpr ?_ | with_reducible refine wp_tup.mpr ?_ | with_reducible refine wp_lst.mpr ?_ | with_reducible refine wp_call.mpr ?_ | with_reducible refine wp_isi.mpr ?_ | with_reducible refine wp_isiT.mpr ?_ | with_reducible refine wp_part.mpr ?_ | with_reducible refine wp_sl.mpr ?_ | with_reducible refine wp_callF.mpr ?_ | with_reducible refine wp_callK.mpr ?_ | with_reducible refine wp_pure.mpr ?_ | with_reducible refine wp_put.mpr ?_ | with_reducible refine wp_rng1.mpr ?_ | with_reducible refine wp_rng2.mpr ?_ | with_reducible refine wp_itA.mpr ?_ | with_reducible refine wp_tname.mpr ?_ | ((with_reducible apply wp_dat); exact rfl) | ((with_reducible apply wp_ixN2); exact rfl) | refine yes ?_ | refine no ?_ | refine And.intro (Nat.le_of_ble_eq_true rfl) ?_ | refine And.intro (sz (Nat.le_of_ble_eq_true rfl)) ?_ | refine Exists.intro _ (And.intro (gEq_int _ _) ?_) | ((with_reducible apply ex_and); exact rfl) | ((with_reducible apply ex_bool); exact rfl) | ((with_reducible apply ex_int); exact rfl) | ((with_reducible refine And.intro ?_ ?_); exact rfl) | ((with_reducible refine And.intro ?_ ?_); exact ⟨rfl, rfl, rfl⟩) | ((with_reducible apply v_plusE); exact rfl) | ((with_reducible apply v_sameE); exact rfl) | ((with_reducible refine gvE (f := f_times) ?_ (v_times50 A5 B5 C5 D5 ?_)); exact rfl) | ((with_reducible refine gvE (f := f_times) ?_ (v_times50 C5 D5 A5 B5 ?_)); exact rfl) | ((with_reducible refine gvE (f := f_times) ?_ (v_times50 A5 B5 G5 H5 ?_)); exact rfl) | ((with_reducible refine gvE (f := f_times) ?_ (v_times50 A5 B5 E5 F5 ?_)); exact rfl) | ((with_reducible refine gvE (f := f_sign) ?_ (v_sign150 A9 B9 ?_)); exact rfl) | ((with_reducible refine gvE (f := f_sign) ?_ (v_sign150 C9 D9 ?_)); exact rfl) | ((with_reducible refine gvE (f := f_sign) ?_ (v_sign150 E9 F9 ?_)); exact rfl) | ((with_reducible refine gvE (f := f_sign) ?_ (v_sign150 M1 M2 ?_)); exact rfl) | ((with_reducible refine gvE (f := f_sign) ?_ (v_sign150 A9.neg B9.neg ?_)); exact rfl) | ((with_reducible refine gvE (f := f__law_sign) ?_ (v_law_sign150 A9 B9 ?_)); exact rfl) | ((with_reducible refine gvE (f := f__law_sign) ?_ (v_law_sign150 C9 D9 ?_)); exact rfl) | ((with_reducible refine gvE (f := f__law_sign) ?_ (v_law_sign150 E9 F9 ?_)); exact rfl) | fail))
  all_goals first
    | exact rfl
    | exact Nat.le_of_ble_eq_true rfl
    | (refine congrArg PyData.list (List.cons_eq_cons.mpr ⟨?_, List.cons_eq_cons.mpr ⟨?_, rfl⟩⟩) <;> grind)
    | exact congrArg PyData.int (sg_times a b c d)
    | exact congrArg PyData.int (sg_opp a b)
    | (refine q' _ ?_
       rw [sg_null]
       simp [PyData.eqv]
       grind)
    | grind
theorem v_asked_x {v w : D} {way : Int} (hw : way = 0 ∨ way = 1 ∨ way = 2) (h : (way = 0 ∨ way = 1) ∧ isPair v = true ∧ isPair w = false ∨ isPair v = false) {Q : D → List A → Prop} (q1 : isPair v = false → Q (.tuple [.str "number", v]) [.und, .und, .und]) (q2 : isPair v = true → Q (.tuple [.str "number", w]) [.und, .und, .und]) :
    Gv f__law_asked [.dat (.int way), .dat v, .dat w] Q := by
  have cc : cat "InvalidNumber" "InvalidNumber" = some true := by decide +kernel
  have pk : ∀ (fs : D → M Fl), pick cat "InvalidNumber" (⟨"InvalidNumber", 4, fs⟩ :: []) = some (some ⟨"InvalidNumber", 4, fs⟩) := fun fs => by
    unfold pick
    rw [cc]
  have hp : (way = 0 ∨ way = 1) → isPair v = false ∨ (isPair v = true ∧ isPair w = false) := fun g => by
    rcases h with h | h
    · exact .inr h.2
    · exact .inl h
  apply gv_run
  unfold fb__law_asked
  (repeat' (first | with_reducible refine wp_seq.mpr ?_ | with_reducible refine wp_ret.mpr ?_ | with_reducible refine wp_retN.mpr ?_ | with_reducible refine wp_skip.mpr ?_ | with_reducible refine wp_brk.mpr ?_ | with_reducible refine wp_cnt.mpr ?_ | with_reducible refine wp_ifS.mpr ?_ | with_reducible refine wp_drop.mpr ?_ | with_reducible refine wp_set.mpr ?_ | with_reducible refine wp_par.mpr ?_ | with_reducible refine wp_setIx.mpr ?_ | with_reducible refine wp_forS.mpr ?_ | with_reducible refine wp_op.mpr ?_ | with_reducible refine wp_neg.mpr ?_ | with_reducible refine wp_is.mpr ?_ | with_reducible refine wp_isnt.mpr ?_ | with_reducible refine wp_tru.mpr ?_ | with_reducible refine wp_tst.mpr ?_ | with_reducible refine wp_and.mpr ?_ | with_reducible refine wp_or.mpr ?_ | with_reducible refine wp_not.mpr ?_ | with_reducible refine wp_andV.mpr ?_ | with_reducible refine wp_orV.mpr ?_ | with_reducible refine wp_notV.mpr ?_ | with_reducible refine wp_if.mpr ?_ | with_reducible refine wp_nil.mpr ?_ | with_reducible refine wp_cons.mpr ?_ | with_reducible refine wp_tup.mpr ?_ | with_reducible refine wp_lst.mpr ?_ | with_reducible refine wp_call.mpr ?_ | with_reducible refine wp_isi.mpr ?_ | with_reducible refine wp_isiT.mpr ?_ | with_reducible refine wp_part.mpr ?_ | with_reducible refine wp_sl.mpr ?_ | with_reducible refine wp_callF.mpr ?_ | with_reducible refine wp_callK.mpr ?_ | with_reducible refine wp_pure.mpr ?_ | with_reducible refine wp_put.mpr ?_ | with_reducible refine wp_rng1.mpr ?_ | with_reducible refine wp_rng2.mpr ?_ | with_reducible refine wp_itA.mpr ?_ | with_reducible refine wp_tname.mpr ?_ | ((with_reducible apply wp_dat); exact rfl) | ((with_reducible apply wp_ixN2); exact rfl) | refine yes ?_ | refine no ?_ | refine And.intro (Nat.le_of_ble_eq_true rfl) ?_ | refine And.intro (sz (Nat.le_of_ble_eq_true rfl)) ?_ | refine Exists.intro _ (And.intro (gEq_int _ _) ?_) | ((with_reducible apply ex_and); exact rfl) | ((with_reducible apply ex_bool); exact rfl) | ((with_reducible apply ex_int); exact rfl) | ((with_reducible refine And.intro ?_ ?_); exact rfl) | ((with_reducible refine And.intro ?_ ?_); exact ⟨rfl, rfl, rfl⟩) | fail))
  apply wp_try2
  rcases hw with rfl | rfl | rfl
  · apply wx_ifS
    (repeat' (first | with_reducible refine wp_seq.mpr ?_ | with_reducible refine wp_ret.mpr ?_ | with_reducible refine wp_retN.mpr ?_ | with_reducible refine wp_skip.mpr ?_ | with_reducible refine wp_brk.mpr ?_ | with_reducible refine wp_cnt.mpr ?_ | with_reducible refine wp_ifS.mpr ?_ | with_reducible refine wp_drop.mpr ?_ | with_reducible refine wp_set.mpr ?_ | with_reducible refine wp_par.mpr ?_ | with_reducible refine wp_setIx.mpr ?_ | with_reducible refine wp_forS.mpr ?_ | with_reducible refine wp_op.mpr ?_ | with_reducible refine wp_neg.mpr ?_ | with_reducible refine wp_is.mpr ?_ | with_reducible refine wp_isnt.mpr ?_ | with_reducible refine wp_tru.mpr ?_ | with_reducible refine wp_tst.mpr ?_ | with_reducible refine wp_and.mpr ?_ | with_reducible refine wp_or.mpr ?_ | with_reducible refine wp_not.mpr ?_ | with_reducible refine wp_andV.mpr ?_ | with_reducible refine wp_orV.mpr ?_ | with_reducible refine wp_notV.mpr ?_ | with_reducible refine wp_if.mpr ?_ | with_reducible refine wp_nil.mpr ?_ | with_reducible refine wp_cons.mpr ?_ | with_reducible refine wp_tup.mpr ?_ | with_reducible refine wp_lst.mpr ?_ | with_reducible refine wp_call.mpr ?_ | with_reducible refine wp_isi.mpr ?_ | with_reducible refine wp_isiT.mpr ?_ | with_reducible refine wp_part.mpr ?_ | with_reducible refine wp_sl.mpr ?_ | with_reducible refine wp_callF.mpr ?_ | with_reducible refine wp_callK.mpr ?_ | with_reducible refine wp_pure.mpr ?_ | with_reducible refine wp_put.mpr ?_ | with_reducible refine wp_rng1.mpr ?_ | with_reducible refine wp_rng2.mpr ?_ | with_reducible refine wp_itA.mpr ?_ | with_reducible refine wp_tname.mpr ?_ | ((with_reducible apply wp_dat); exact rfl) | ((with_reducible apply wp_ixN2); exact rfl) | refine yes ?_ | refine no ?_ | refine And.intro (Nat.le_of_ble_eq_true rfl) ?_ | refine And.intro (sz (Nat.le_of_ble_eq_true rfl)) ?_ | refine Exists.intro _ (And.intro (gEq_int _ _) ?_) | ((with_reducible apply ex_and); exact rfl) | ((with_reducible apply ex_bool); exact rfl) | ((with_reducible apply ex_int); exact rfl) | ((with_reducible refine And.intro ?_ ?_); exact rfl) | ((with_reducible refine And.intro ?_ ?_); exact ⟨rfl, rfl, rfl⟩) | fail))
    apply wx_drop
    apply wx_callF
    (repeat' (first | with_reducible refine wp_seq.mpr ?_ | with_reducible refine wp_ret.mpr ?_ | with_reducible refine wp_retN.mpr ?_ | with_reducible refine wp_skip.mpr ?_ | with_reducible refine wp_brk.mpr ?_ | with_reducible refine wp_cnt.mpr ?_ | with_reducible refine wp_ifS.mpr ?_ | with_reducible refine wp_drop.mpr ?_ | with_reducible refine wp_set.mpr ?_ | with_reducible refine wp_par.mpr ?_ | with_reducible refine wp_setIx.mpr ?_ | with_reducible refine wp_forS.mpr ?_ | with_reducible refine wp_op.mpr ?_ | with_reducible refine wp_neg.mpr ?_ | with_reducible refine wp_is.mpr ?_ | with_reducible refine wp_isnt.mpr ?_ | with_reducible refine wp_tru.mpr ?_ | with_reducible refine wp_tst.mpr ?_ | with_reducible refine wp_and.mpr ?_ | with_reducible refine wp_or.mpr ?_ | with_reducible refine wp_not.mpr ?_ | with_reducible refine wp_andV.mpr ?_ | with_reducible refine wp_orV.mpr ?_ | with_reducible refine wp_notV.mpr ?_ | with_reducible refine wp_if.mpr ?_ | with_reducible refine wp_nil.mpr ?_ | with_reducible refine wp_cons.mpr ?_ | with_reducible refine wp_tup.mpr ?_ | with_reducible refine wp_lst.mpr ?_ | with_reducible refine wp_call.mpr ?_ | with_reducible refine wp_isi.mpr ?_ | with_reducible refine wp_isiT.mpr ?_ | with_reducible refine wp_part.mpr ?_ | with_reducible refine wp_sl.mpr ?_ | with_reducible refine wp_callF.mpr ?_ | with_reducible refine wp_callK.mpr ?_ | with_reducible refine wp_pure.mpr ?_ | with_reducible refine wp_put.mpr ?_ | with_reducible refine wp_rng1.mpr ?_ | with_reducible refine wp_rng2.mpr ?_ | with_reducible refine wp_itA.mpr ?_ | with_reducible refine wp_tname.mpr ?_ | ((with_reducible apply wp_dat); exact rfl) | ((with_reducible apply wp_ixN2); exact rfl) | refine yes ?_ | refine no ?_ | refine And.intro (Nat.le_of_ble_eq_true rfl) ?_ | refine And.intro (sz (Nat.le_of_ble_eq_true rfl)) ?_ | refine Exists.intro _ (And.intro (gEq_int _ _) ?_) | ((with_reducible apply ex_and); exact rfl) | ((with_reducible apply ex_bool); exact rfl) | ((with_reducible apply ex_int); exact rfl) | ((with_reducible refine And.intro ?_ ?_); exact rfl) | ((with_reducible refine And.intro ?_ ?_); exact ⟨rfl, rfl, rfl⟩) | fail))
    refine x_plus v w (hp (.inl rfl)) (fun e => ⟨_, pk _, rfl, ?_⟩) (fun e => ⟨_, pk _, rfl, ?_⟩)
    · (repeat' (first | with_reducible refine wp_seq.mpr ?_ | with_reducible refine wp_ret.mpr ?_ | with_reducible refine wp_retN.mpr ?_ | with_reducible refine wp_skip.mpr ?_ | with_reducible refine wp_brk.mpr ?_ | with_reducible refine wp_cnt.mpr ?_ | with_reducible refine wp_ifS.mpr ?_ | with_reducible refine wp_drop.mpr ?_ | with_reducible refine wp_set.mpr ?_ | with_reducible refine wp_par.mpr ?_ | with_reducible refine wp_setIx.mpr ?_ | with_reducible refine wp_forS.mpr ?_ | with_reducible refine wp_op.mpr ?_ | with_reducible refine wp_neg.mpr ?_ | with_reducible refine wp_is.mpr ?_ | with_reducible refine wp_isnt.mpr ?_ | with_reducible refine wp_tru.mpr ?_ | with_reducible refine wp_tst.mpr ?_ | with_reducible refine wp_and.mpr ?_ | with_reducible refine wp_or.mpr ?_ | with_reducible refine wp_not.mpr ?_ | with_reducible refine wp_andV.mpr ?_ | with_reducible refine wp_orV.mpr ?_ | with_reducible refine wp_notV.mpr ?_ | with_reducible refine wp_if.mpr ?_ | with_reducible refine wp_nil.mpr ?_ | with_reducible refine wp_cons.mpr ?_ | with_reducible refine wp_tup.mpr ?_ | with_reducible refine wp_lst.mpr ?_ | with_reducible refine wp_call.mpr ?_ | with_reducible refine wp_isi.mpr ?_ | with_reducible refine wp_isiT.mpr ?_ | with_reducible refine wp_part.mpr ?_ | with_reducible refine wp_sl.mpr ?_ | with_reducible refine wp_callF.mpr ?_ | with_reducible refine wp_callK.mpr ?_ | with_reducible refine wp_pure.mpr ?_ | with_reducible refine wp_put.mpr ?_ | with_reducible refine wp_rng1.mpr ?_ | with_reducible refine wp_rng2.mpr ?_ | with_reducible refine wp_itA.mpr ?_ | with_reducible refine wp_tname.mpr ?_ | ((with_reducible apply wp_dat); exact rfl) | ((with_reducible apply wp_ixN2); exact rfl) | refine yes ?_ | refine no ?_ | refine And.intro (Nat.le_of_ble_eq_true rfl) ?_ | refine And.intro (sz (Nat.le_of_ble_eq_true rfl)) ?_ | refine Exists.intro _ (And.intro (gEq_int _ _) ?_) | ((with_reducible apply ex_and); exact rfl) | ((with_reducible apply ex_bool); exact rfl) | ((with_reducible apply ex_int); exact rfl) | ((with_reducible refine And.intro ?_ ?_); exact rfl) | ((with_reducible refine And.intro ?_ ?_); exact ⟨rfl, rfl, rfl⟩) | fail))
      exact q1 e
    · (repeat' (first | with_reducible refine wp_seq.mpr ?_ | with_reducible refine wp_ret.mpr ?_ | with_reducible refine wp_retN.mpr ?_ | with_reducible refine wp_skip.mpr ?_ | with_reducible refine wp_brk.mpr ?_ | with_reducible refine wp_cnt.mpr ?_ | with_reducible refine wp_ifS.mpr ?_ | with_reducible refine wp_drop.mpr ?_ | with_reducible refine wp_set.mpr ?_ | with_reducible refine wp_par.mpr ?_ | with_reducible refine wp_setIx.mpr ?_ | with_reducible refine wp_forS.mpr ?_ | with_reducible refine wp_op.mpr ?_ | with_reducible refine wp_neg.mpr ?_ | with_reducible refine wp_is.mpr ?_ | with_reducible refine wp_isnt.mpr ?_ | with_reducible refine wp_tru.mpr ?_ | with_reducible refine wp_tst.mpr ?_ | with_reducible refine wp_and.mpr ?_ | with_reducible refine wp_or.mpr ?_ | with_reducible refine wp_not.mpr ?_ | with_reducible refine wp_andV.mpr ?_ | with_reducible refine wp_orV.mpr ?_ | with_reducible refine wp_notV.mpr ?_ | with_reducible refine wp_if.mpr ?_ | with_reducible refine wp_nil.mpr ?_ | with_reducible refine wp_cons.mpr ?_ | with_reducible refine wp_tup.mpr ?_ | with_reducible refine wp_lst.mpr ?_ | with_reducible refine wp_call.mpr ?_ | with_reducible refine wp_isi.mpr ?_ | with_reducible refine wp_isiT.mpr ?_ | with_reducible refine wp_part.mpr ?_ | with_reducible refine wp_sl.mpr ?_ | with_reducible refine wp_callF.mpr ?_ | with_reducible refine wp_callK.mpr ?_ | with_reducible refine wp_pure.mpr ?_ | with_reducible refine wp_put.mpr ?_ | with_reducible refine wp_rng1.mpr ?_ | with_reducible refine wp_rng2.mpr ?_ | with_reducible refine wp_itA.mpr ?_ | with_reducible refine wp_tname.mpr ?_ | ((with_reducible apply wp_dat); exact rfl) | ((with_reducible apply wp_ixN2); exact rfl) | refine yes ?_ | refine no ?_ | refine And.intro (Nat.le_of_ble_eq_true rfl) ?_ | refine And.intro (sz (Nat.le_of_ble_eq_true rfl)) ?_ | refine Exists.intro _ (And.intro (gEq_int _ _) ?_) | ((with_reducible apply ex_and); exact rfl) | ((with_reducible apply ex_bool); exact rfl) | ((with_reducible apply ex_int); exact rfl) | ((with_reducible refine And.intro ?_ ?_); exact rfl) | ((with_reducible refine And.intro ?_ ?_); exact ⟨rfl, rfl, rfl⟩) | fail))
      exact q2 e
  · apply wx_ifS
    (repeat' (first | with_reducible refine wp_seq.mpr ?_ | with_reducible refine wp_ret.mpr ?_ | with_reducible refine wp_retN.mpr ?_ | with_reducible refine wp_skip.mpr ?_ | with_reducible refine wp_brk.mpr ?_ | with_reducible refine wp_cnt.mpr ?_ | with_reducible refine wp_ifS.mpr ?_ | with_reducible refine wp_drop.mpr ?_ | with_reducible refine wp_set.mpr ?_ | with_reducible refine wp_par.mpr ?_ | with_reducible refine wp_setIx.mpr ?_ | with_reducible refine wp_forS.mpr ?_ | with_reducible refine wp_op.mpr ?_ | with_reducible refine wp_neg.mpr ?_ | with_reducible refine wp_is.mpr ?_ | with_reducible refine wp_isnt.mpr ?_ | with_reducible refine wp_tru.mpr ?_ | with_reducible refine wp_tst.mpr ?_ | with_reducible refine wp_and.mpr ?_ | with_reducible refine wp_or.mpr ?_ | with_reducible refine wp_not.mpr ?_ | with_reducible refine wp_andV.mpr ?_ | with_reducible refine wp_orV.mpr ?_ | with_reducible refine wp_notV.mpr ?_ | with_reducible refine wp_if.mpr ?_ | with_reducible refine wp_nil.mpr ?_ | with_reducible refine wp_cons.mpr ?_ | with_reducible refine wp_tup.mpr ?_ | with_reducible refine wp_lst.mpr ?_ | with_reducible refine wp_call.mpr ?_ | with_reducible refine wp_isi.mpr ?_ | with_reducible refine wp_isiT.mpr ?_ | with_reducible refine wp_part.mpr ?_ | with_reducible refine wp_sl.mpr ?_ | with_reducible refine wp_callF.mpr ?_ | with_reducible refine wp_callK.mpr ?_ | with_reducible refine wp_pure.mpr ?_ | with_reducible refine wp_put.mpr ?_ | with_reducible refine wp_rng1.mpr ?_ | with_reducible refine wp_rng2.mpr ?_ | with_reducible refine wp_itA.mpr ?_ | with_reducible refine wp_tname.mpr ?_ | ((with_reducible apply wp_dat); exact rfl) | ((with_reducible apply wp_ixN2); exact rfl) | refine yes ?_ | refine no ?_ | refine And.intro (Nat.le_of_ble_eq_true rfl) ?_ | refine And.intro (sz (Nat.le_of_ble_eq_true rfl)) ?_ | refine Exists.intro _ (And.intro (gEq_int _ _) ?_) | ((with_reducible apply ex_and); exact rfl) | ((with_reducible apply ex_bool); exact rfl) | ((with_reducible apply ex_int); exact rfl) | ((with_reducible refine And.intro ?_ ?_); exact rfl) | ((with_reducible refine And.intro ?_ ?_); exact ⟨rfl, rfl, rfl⟩) | fail))
    apply wx_ifS
    (repeat' (first | with_reducible refine wp_seq.mpr ?_ | with_reducible refine wp_ret.mpr ?_ | with_reducible refine wp_retN.mpr ?_ | with_reducible refine wp_skip.mpr ?_ | with_reducible refine wp_brk.mpr ?_ | with_reducible refine wp_cnt.mpr ?_ | with_reducible refine wp_ifS.mpr ?_ | with_reducible refine wp_drop.mpr ?_ | with_reducible refine wp_set.mpr ?_ | with_reducible refine wp_par.mpr ?_ | with_reducible refine wp_setIx.mpr ?_ | with_reducible refine wp_forS.mpr ?_ | with_reducible refine wp_op.mpr ?_ | with_reducible refine wp_neg.mpr ?_ | with_reducible refine wp_is.mpr ?_ | with_reducible refine wp_isnt.mpr ?_ | with_reducible refine wp_tru.mpr ?_ | with_reducible refine wp_tst.mpr ?_ | with_reducible refine wp_and.mpr ?_ | with_reducible refine wp_or.mpr ?_ | with_reducible refine wp_not.mpr ?_ | with_reducible refine wp_andV.mpr ?_ | with_reducible refine wp_orV.mpr ?_ | with_reducible refine wp_notV.mpr ?_ | with_reducible refine wp_if.mpr ?_ | with_reducible refine wp_nil.mpr ?_ | with_reducible refine wp_cons.mpr ?_ | with_reducible refine wp_tup.mpr ?_ | with_reducible refine wp_lst.mpr ?_ | with_reducible refine wp_call.mpr ?_ | with_reducible refine wp_isi.mpr ?_ | with_reducible refine wp_isiT.mpr ?_ | with_reducible refine wp_part.mpr ?_ | with_reducible refine wp_sl.mpr ?_ | with_reducible refine wp_callF.mpr ?_ | with_reducible refine wp_callK.mpr ?_ | with_reducible refine wp_pure.mpr ?_ | with_reducible refine wp_put.mpr ?_ | with_reducible refine wp_rng1.mpr ?_ | with_reducible refine wp_rng2.mpr ?_ | with_reducible refine wp_itA.mpr ?_ | with_reducible refine wp_tname.mpr ?_ | ((with_reducible apply wp_dat); exact rfl) | ((with_reducible apply wp_ixN2); exact rfl) | refine yes ?_ | refine no ?_ | refine And.intro (Nat.le_of_ble_eq_true rfl) ?_ | refine And.intro (sz (Nat.le_of_ble_eq_true rfl)) ?_ | refine Exists.intro _ (And.intro (gEq_int _ _) ?_) | ((with_reducible apply ex_and); exact rfl) | ((with_reducible apply ex_bool); exact rfl) | ((with_reducible apply ex_int); exact rfl) | ((with_reducible refine And.intro ?_ ?_); exact rfl) | ((with_reducible refine And.intro ?_ ?_); exact ⟨rfl, rfl, rfl⟩) | fail))
    apply wx_drop
    apply wx_callF
    (repeat' (first | with_reducible refine wp_seq.mpr ?_ | with_reducible refine wp_ret.mpr ?_ | with_reducible refine wp_retN.mpr ?_ | with_reducible refine wp_skip.mpr ?_ | with_reducible refine wp_brk.mpr ?_ | with_reducible refine wp_cnt.mpr ?_ | with_reducible refine wp_ifS.mpr ?_ | with_reducible refine wp_drop.mpr ?_ | with_reducible refine wp_set.mpr ?_ | with_reducible refine wp_par.mpr ?_ | with_reducible refine wp_setIx.mpr ?_ | with_reducible refine wp_forS.mpr ?_ | with_reducible refine wp_op.mpr ?_ | with_reducible refine wp_neg.mpr ?_ | with_reducible refine wp_is.mpr ?_ | with_reducible refine wp_isnt.mpr ?_ | with_reducible refine wp_tru.mpr ?_ | with_reducible refine wp_tst.mpr ?_ | with_reducible refine wp_and.mpr ?_ | with_reducible refine wp_or.mpr ?_ | with_reducible refine wp_not.mpr ?_ | with_reducible refine wp_andV.mpr ?_ | with_reducible refine wp_orV.mpr ?_ | with_reducible refine wp_notV.mpr ?_ | with_reducible refine wp_if.mpr ?_ | with_reducible refine wp_nil.mpr ?_ | with_reducible refine wp_cons.mpr ?_ | with_reducible refine wp_tup.mpr ?_ | with_reducible refine wp_lst.mpr ?_ | with_reducible refine wp_call.mpr ?_ | with_reducible refine wp_isi.mpr ?_ | with_reducible refine wp_isiT.mpr ?_ | with_reducible refine wp_part.mpr ?_ | with_reducible refine wp_sl.mpr ?_ | with_reducible refine wp_callF.mpr ?_ | with_reducible refine wp_callK.mpr ?_ | with_reducible refine wp_pure.mpr ?_ | with_reducible refine wp_put.mpr ?_ | with_reducible refine wp_rng1.mpr ?_ | with_reducible refine wp_rng2.mpr ?_ | with_reducible refine wp_itA.mpr ?_ | with_reducible refine wp_tname.mpr ?_ | ((with_reducible apply wp_dat); exact rfl) | ((with_reducible apply wp_ixN2); exact rfl) | refine yes ?_ | refine no ?_ | refine And.intro (Nat.le_of_ble_eq_true rfl) ?_ | refine And.intro (sz (Nat.le_of_ble_eq_true rfl)) ?_ | refine Exists.intro _ (And.intro (gEq_int _ _) ?_) | ((with_reducible apply ex_and); exact rfl) | ((with_reducible apply ex_bool); exact rfl) | ((with_reducible apply ex_int); exact rfl) | ((with_reducible refine And.intro ?_ ?_); exact rfl) | ((with_reducible refine And.intro ?_ ?_); exact ⟨rfl, rfl, rfl⟩) | fail))
    refine x_times v w (hp (.inr rfl)) (fun e => ⟨_, pk _, rfl, ?_⟩) (fun e => ⟨_, pk _, rfl, ?_⟩)
    · (repeat' (first | with_reducible refine wp_seq.mpr ?_ | with_reducible refine wp_ret.mpr ?_ | with_reducible refine wp_retN.mpr ?_ | with_reducible refine wp_skip.mpr ?_ | with_reducible refine wp_brk.mpr ?_ | with_reducible refine wp_cnt.mpr ?_ | with_reducible refine wp_ifS.mpr ?_ | with_reducible refine wp_drop.mpr ?_ | with_reducible refine wp_set.mpr ?_ | with_reducible refine wp_par.mpr ?_ | with_reducible refine wp_setIx.mpr ?_ | with_reducible refine wp_forS.mpr ?_ | with_reducible refine wp_op.mpr ?_ | with_reducible refine wp_neg.mpr ?_ | with_reducible refine wp_is.mpr ?_ | with_reducible refine wp_isnt.mpr ?_ | with_reducible refine wp_tru.mpr ?_ | with_reducible refine wp_tst.mpr ?_ | with_reducible refine wp_and.mpr ?_ | with_reducible refine wp_or.mpr ?_ | with_reducible refine wp_not.mpr ?_ | with_reducible refine wp_andV.mpr ?_ | with_reducible refine wp_orV.mpr ?_ | with_reducible refine wp_notV.mpr ?_ | with_reducible refine wp_if.mpr ?_ | with_reducible refine wp_nil.mpr ?_ | with_reducible refine wp_cons.mpr ?_ | with_reducible refine wp_tup.mpr ?_ | with_reducible refine wp_lst.mpr ?_ | with_reducible refine wp_call.mpr ?_ | with_reducible refine wp_isi.mpr ?_ | with_reducible refine wp_isiT.mpr ?_ | with_reducible refine wp_part.mpr ?_ | with_reducible refine wp_sl.mpr ?_ | with_reducible refine wp_callF.mpr ?_ | with_reducible refine wp_callK.mpr ?_ | with_reducible refine wp_pure.mpr ?_ | with_reducible refine wp_put.mpr ?_ | with_reducible refine wp_rng1.mpr ?_ | with_reducible refine wp_rng2.mpr ?_ | with_reducible refine wp_itA.mpr ?_ | with_reducible refine wp_tname.mpr ?_ | ((with_reducible apply wp_dat); exact rfl) | ((with_reducible apply wp_ixN2); exact rfl) | refine yes ?_ | refine no ?_ | refine And.intro (Nat.le_of_ble_eq_true rfl) ?_ | refine And.intro (sz (Nat.le_of_ble_eq_true rfl)) ?_ | refine Exists.intro _ (And.intro (gEq_int _ _) ?_) | ((with_reducible apply ex_and); exact rfl) | ((with_reducible apply ex_bool); exact rfl) | ((with_reducible apply ex_int); exact rfl) | ((with_reducible refine And.intro ?_ ?_); exact rfl) | ((with_reducible refine And.intro ?_ ?_); exact ⟨rfl, rfl, rfl⟩) | fail))
      exact q1 e
    · (repeat' (first | with_reducible refine wp_seq.mpr ?_ | with_reducible refine wp_ret.mpr ?_ | with_reducible refine wp_retN.mpr ?_ | with_reducible refine wp_skip.mpr ?_ | with_reducible refine wp_brk.mpr ?_ | with_reducible refine wp_cnt.mpr ?_ | with_reducible refine wp_ifS.mpr ?_ | with_reducible refine wp_drop.mpr ?_ | with_reducible refine wp_set.mpr ?_ | with_reducible refine wp_par.mpr ?_ | with_reducible refine wp_setIx.mpr ?_ | with_reducible refine wp_forS.mpr ?_ | with_reducible refine wp_op.mpr ?_ | with_reducible refine wp_neg.mpr ?_ | with_reducible refine wp_is.mpr ?_ | with_reducible refine wp_isnt.mpr ?_ | with_reducible refine wp_tru.mpr ?_ | with_reducible refine wp_tst.mpr ?_ | with_reducible refine wp_and.mpr ?_ | with_reducible refine wp_or.mpr ?_ | with_reducible refine wp_not.mpr ?_ | with_reducible refine wp_andV.mpr ?_ | with_reducible refine wp_orV.mpr ?_ | with_reducible refine wp_notV.mpr ?_ | with_reducible refine wp_if.mpr ?_ | with_reducible refine wp_nil.mpr ?_ | with_reducible refine wp_cons.mpr ?_ | with_reducible refine wp_tup.mpr ?_ | with_reducible refine wp_lst.mpr ?_ | with_reducible refine wp_call.mpr ?_ | with_reducible refine wp_isi.mpr ?_ | with_reducible refine wp_isiT.mpr ?_ | with_reducible refine wp_part.mpr ?_ | with_reducible refine wp_sl.mpr ?_ | with_reducible refine wp_callF.mpr ?_ | with_reducible refine wp_callK.mpr ?_ | with_reducible refine wp_pure.mpr ?_ | with_reducible refine wp_put.mpr ?_ | with_reducible refine wp_rng1.mpr ?_ | with_reducible refine wp_rng2.mpr ?_ | with_reducible refine wp_itA.mpr ?_ | with_reducible refine wp_tname.mpr ?_ | ((with_reducible apply wp_dat); exact rfl) | ((with_reducible apply wp_ixN2); exact rfl) | refine yes ?_ | refine no ?_ | refine And.intro (Nat.le_of_ble_eq_true rfl) ?_ | refine And.intro (sz (Nat.le_of_ble_eq_true rfl)) ?_ | refine Exists.intro _ (And.intro (gEq_int _ _) ?_) | ((with_reducible apply ex_and); exact rfl) | ((with_reducible apply ex_bool); exact rfl) | ((with_reducible apply ex_int); exact rfl) | ((with_reducible refine And.intro ?_ ?_); exact rfl) | ((with_reducible refine And.intro ?_ ?_); exact ⟨rfl, rfl, rfl⟩) | fail))
      exact q2 e
  · apply wx_ifS
    (repeat' (first | with_reducible refine wp_seq.mpr ?_ | with_reducible refine wp_ret.mpr ?_ | with_reducible refine wp_retN.mpr ?_ | with_reducible refine wp_skip.mpr ?_ | with_reducible refine wp_brk.mpr ?_ | with_reducible refine wp_cnt.mpr ?_ | with_reducible refine wp_ifS.mpr ?_ | with_reducible refine wp_drop.mpr ?_ | with_reducible refine wp_set.mpr ?_ | with_reducible refine wp_par.mpr ?_ | with_reducible refine wp_setIx.mpr ?_ | with_reducible refine wp_forS.mpr ?_ | with_reducible refine wp_op.mpr ?_ | with_reducible refine wp_neg.mpr ?_ | with_reducible refine wp_is.mpr ?_ | with_reducible refine wp_isnt.mpr ?_ | with_reducible refine wp_tru.mpr ?_ | with_reducible refine wp_tst.mpr ?_ | with_reducible refine wp_and.mpr ?_ | with_reducible refine wp_or.mpr ?_ | with_reducible refine wp_not.mpr ?_ | with_reducible refine wp_andV.mpr ?_ | with_reducible refine wp_orV.mpr ?_ | with_reducible refine wp_notV.mpr ?_ | with_reducible refine wp_if.mpr ?_ | with_reducible refine wp_nil.mpr ?_ | with_reducible refine wp_cons.mpr ?_ | with_reducible refine wp_tup.mpr ?_ | with_reducible refine wp_lst.mpr ?_ | with_reducible refine wp_call.mpr ?_ | with_reducible refine wp_isi.mpr ?_ | with_reducible refine wp_isiT.mpr ?_ | with_reducible refine wp_part.mpr ?_ | with_reducible refine wp_sl.mpr ?_ | with_reducible refine wp_callF.mpr ?_ | with_reducible refine wp_callK.mpr ?_ | with_reducible refine wp_pure.mpr ?_ | with_reducible refine wp_put.mpr ?_ | with_reducible refine wp_rng1.mpr ?_ | with_reducible refine wp_rng2.mpr ?_ | with_reducible refine wp_itA.mpr ?_ | with_reducible refine wp_tname.mpr ?_ | ((with_reducible apply wp_dat); exact rfl) | ((with_reducible apply wp_ixN2); exact rfl) | refine yes ?_ | refine no ?_ | refine And.intro (Nat.le_of_ble_eq_true rfl) ?_ | refine And.intro (sz (Nat.le_of_ble_eq_true rfl)) ?_ | refine Exists.intro _ (And.intro (gEq_int _ _) ?_) | ((with_reducible apply ex_and); exact rfl) | ((with_reducible apply ex_bool); exact rfl) | ((with_reducible apply ex_int); exact rfl) | ((with_reducible refine And.intro ?_ ?_); exact rfl) | ((with_reducible refine And.intro ?_ ?_); exact ⟨rfl, rfl, rfl⟩) | fail))
    apply wx_ifS
    (repeat' (first | with_reducible refine wp_seq.mpr ?_ | with_reducible refine wp_ret.mpr ?_ | with_reducible refine wp_retN.mpr ?_ | with_reducible refine wp_skip.mpr ?_ | with_reducible refine wp_brk.mpr ?_ | with_reducible refine wp_cnt.mpr ?_ | with_reducible refine wp_ifS.mpr ?_ | with_reducible refine wp_drop.mpr ?_ | with_reducible refine wp_set.mpr ?_ | with_reducible refine wp_par.mpr ?_ | with_reducible refine wp_setIx.mpr ?_ | with_reducible refine wp_forS.mpr ?_ | with_reducible refine wp_op.mpr ?_ | with_reducible refine wp_neg.mpr ?_ | with_reducible refine wp_is.mpr ?_ | with_reducible refine wp_isnt.mpr ?_ | with_reducible refine wp_tru.mpr ?_ | with_reducible refine wp_tst.mpr ?_ | with_reducible refine wp_and.mpr ?_ | with_reducible refine wp_or.mpr ?_ | with_reducible refine wp_not.mpr ?_ | with_reducible refine wp_andV.mpr ?_ | with_reducible refine wp_orV.mpr ?_ | with_reducible refine wp_notV.mpr ?_ | with_reducible refine wp_if.mpr ?_ | with_reducible refine wp_nil.mpr ?_ | with_reducible refine wp_cons.mpr ?_ | with_reducible refine wp_tup.mpr ?_ | with_reducible refine wp_lst.mpr ?_ | with_reducible refine wp_call.mpr ?_ | with_reducible refine wp_isi.mpr ?_ | with_reducible refine wp_isiT.mpr ?_ | with_reducible refine wp_part.mpr ?_ | with_reducible refine wp_sl.mpr ?_ | with_reducible refine wp_callF.mpr ?_ | with_reducible refine wp_callK.mpr ?_ | with_reducible refine wp_pure.mpr ?_ | with_reducible refine wp_put.mpr ?_ | with_reducible refine wp_rng1.mpr ?_ | with_reducible refine wp_rng2.mpr ?_ | with_reducible refine wp_itA.mpr ?_ | with_reducible refine wp_tname.mpr ?_ | ((with_reducible apply wp_dat); exact rfl) | ((with_reducible apply wp_ixN2); exact rfl) | refine yes ?_ | refine no ?_ | refine And.intro (Nat.le_of_ble_eq_true rfl) ?_ | refine And.intro (sz (Nat.le_of_ble_eq_true rfl)) ?_ | refine Exists.intro _ (And.intro (gEq_int _ _) ?_) | ((with_reducible apply ex_and); exact rfl) | ((with_reducible apply ex_bool); exact rfl) | ((with_reducible apply ex_int); exact rfl) | ((with_reducible refine And.intro ?_ ?_); exact rfl) | ((with_reducible refine And.intro ?_ ?_); exact ⟨rfl, rfl, rfl⟩) | fail))
    apply wx_drop
    apply wx_callF
    (repeat' (first | with_reducible refine wp_seq.mpr ?_ | with_reducible refine wp_ret.mpr ?_ | with_reducible refine wp_retN.mpr ?_ | with_reducible refine wp_skip.mpr ?_ | with_reducible refine wp_brk.mpr ?_ | with_reducible refine wp_cnt.mpr ?_ | with_reducible refine wp_ifS.mpr ?_ | with_reducible refine wp_drop.mpr ?_ | with_reducible refine wp_set.mpr ?_ | with_reducible refine wp_par.mpr ?_ | with_reducible refine wp_setIx.mpr ?_ | with_reducible refine wp_forS.mpr ?_ | with_reducible refine wp_op.mpr ?_ | with_reducible refine wp_neg.mpr ?_ | with_reducible refine wp_is.mpr ?_ | with_reducible refine wp_isnt.mpr ?_ | with_reducible refine wp_tru.mpr ?_ | with_reducible refine wp_tst.mpr ?_ | with_reducible refine wp_and.mpr ?_ | with_reducible refine wp_or.mpr ?_ | with_reducible refine wp_not.mpr ?_ | with_reducible refine wp_andV.mpr ?_ | with_reducible refine wp_orV.mpr ?_ | with_reducible refine wp_notV.mpr ?_ | with_reducible refine wp_if.mpr ?_ | with_reducible refine wp_nil.mpr ?_ | with_reducible refine wp_cons.mpr ?_ | with_reducible refine wp_tup.mpr ?_ | with_reducible refine wp_lst.mpr ?_ | with_reducible refine wp_call.mpr ?_ | with_reducible refine wp_isi.mpr ?_ | with_reducible refine wp_isiT.mpr ?_ | with_reducible refine wp_part.mpr ?_ | with_reducible refine wp_sl.mpr ?_ | with_reducible refine wp_callF.mpr ?_ | with_reducible refine wp_callK.mpr ?_ | with_reducible refine wp_pure.mpr ?_ | with_reducible refine wp_put.mpr ?_ | with_reducible refine wp_rng1.mpr ?_ | with_reducible refine wp_rng2.mpr ?_ | with_reducible refine wp_itA.mpr ?_ | with_reducible refine wp_tname.mpr ?_ | ((with_reducible apply wp_dat); exact rfl) | ((with_reducible apply wp_ixN2); exact rfl) | refine yes ?_ | refine no ?_ | refine And.intro (Nat.le_of_ble_eq_true rfl) ?_ | refine And.intro (sz (Nat.le_of_ble_eq_true rfl)) ?_ | refine Exists.intro _ (And.intro (gEq_int _ _) ?_) | ((with_reducible apply ex_and); exact rfl) | ((with_reducible apply ex_bool); exact rfl) | ((with_reducible apply ex_int); exact rfl) | ((with_reducible refine And.intro ?_ ?_); exact rfl) | ((with_reducible refine And.intro ?_ ?_); exact ⟨rfl, rfl, rfl⟩) | fail))
    have e : isPair v = false := by
      rcases h with h | h
      · rcases h.1 with z | z <;> cases z
      · exact h
    refine x_sign v e ⟨_, pk _, rfl, ?_⟩
    (repeat' (first | with_reducible refine wp_seq.mpr ?_ | with_reducible refine wp_ret.mpr ?_ | with_reducible refine wp_retN.mpr ?_ | with_reducible refine wp_skip.mpr ?_ | with_reducible refine wp_brk.mpr ?_ | with_reducible refine wp_cnt.mpr ?_ | with_reducible refine wp_ifS.mpr ?_ | with_reducible refine wp_drop.mpr ?_ | with_reducible refine wp_set.mpr ?_ | with_reducible refine wp_par.mpr ?_ | with_reducible refine wp_setIx.mpr ?_ | with_reducible refine wp_forS.mpr ?_ | with_reducible refine wp_op.mpr ?_ | with_reducible refine wp_neg.mpr ?_ | with_reducible refine wp_is.mpr ?_ | with_reducible refine wp_isnt.mpr ?_ | with_reducible refine wp_tru.mpr ?_ | with_reducible refine wp_tst.mpr ?_ | with_reducible refine wp_and.mpr ?_ | with_reducible refine wp_or.mpr ?_ | with_reducible refine wp_not.mpr ?_ | with_reducible refine wp_andV.mpr ?_ | with_reducible refine wp_orV.mpr ?_ | with_reducible refine wp_notV.mpr ?_ | with_reducible refine wp_if.mpr ?_ | with_reducible refine wp_nil.mpr ?_ | with_reducible refine wp_cons.mpr ?_ | with_reducible refine wp_tup.mpr ?_ | with_reducible refine wp_lst.mpr ?_ | with_reducible refine wp_call.mpr ?_ | with_reducible refine wp_isi.mpr ?_ | with_reducible refine wp_isiT.mpr ?_ | with_reducible refine wp_part.mpr ?_ | with_reducible refine wp_sl.mpr ?_ | with_reducible refine wp_callF.mpr ?_ | with_reducible refine wp_callK.mpr ?_ | with_reducible refine wp_pure.mpr ?_ | with_reducible refine wp_put.mpr ?_ | with_reducible refine wp_rng1.mpr ?_ | with_reducible refine wp_rng2.mpr ?_ | with_reducible refine wp_itA.mpr ?_ | with_reducible refine wp_tname.mpr ?_ | ((with_reducible apply wp_dat); exact rfl) | ((with_reducible apply wp_ixN2); exact rfl) | refine yes ?_ | refine no ?_ | refine And.intro (Nat.le_of_ble_eq_true rfl) ?_ | refine And.intro (sz (Nat.le_of_ble_eq_true rfl)) ?_ | refine Exists.intro _ (And.intro (gEq_int _ _) ?_) | ((with_reducible apply ex_and); exact rfl) | ((with_reducible apply ex_bool); exact rfl) | ((with_reducible apply ex_int); exact rfl) | ((with_reducible refine And.intro ?_ ?_); exact rfl) | ((with_reducible refine And.intro ?_ ?_); exact ⟨rfl, rfl, rfl⟩) | fail))
    exact q1 e
end Hd

set_option maxHeartbeats 4000000
namespace Hd
open PySem PySem.Spec PyProof.Rows L2 L2.DL
abbrev wrongs : List D := [.none, .int 3, .tuple [.int 1], .tuple [.int 1, .int 2, .int 3], .list [.int 1, .int 2], .tuple [.int 1, .bool true], .tuple [.str "1", .int 2], .tuple [.int 1, .none], .tuple [], .str "12", .tuple [.tuple [.int 1, .int 2], .int 3]]
theorem wrong_at {w : Int} (h0 : 0 ≤ w) (h1 : w < 11) : ∃ x, gIx (.list wrongs) (.int w) = some x ∧ isPair x = false ∧ sml x = true ∧ x.depth ≤ 4 := by
  have c : w = 0 ∨ w = 1 ∨ w = 2 ∨ w = 3 ∨ w = 4 ∨ w = 5 ∨ w = 6 ∨ w = 7 ∨ w = 8 ∨ w = 9 ∨ w = 10 := by omega
  rcases c with rfl | rfl | rfl | rfl | rfl | rfl | rfl | rfl | rfl | rfl | rfl
  all_goals exact ⟨_, rfl, by decide +kernel, by decide +kernel, by decide +kernel⟩
theorem sml_num {x : D} (h : sml x = true) : sml (.tuple [.str "number", x]) = true := by
  have e : PyData.strOk "number" = true := by decide +kernel
  simp [sml, smlAll, h, e]
theorem depth_num {x : D} (h : x.depth ≤ 4) : (PyData.tuple [.str "number", x]).depth ≤ 11 := by
  simp [PyData.depth, PyData.depthAll]
  omega
def fb_body : M Fl := (mseq (mpar [3, 4, 5] (mcons (mcallR 1 f__law_number 1 mnil) (mcons (mcallR 1 f__law_number 1 mnil) (mcons (mcallR 1 f__law_number 1 mnil) mnil))))
  (mseq (mset 6 (mcallR 2 f__law_near 1 (mcons (mpure (.int 40)) mnil)))
  (mseq (mifS (mnot (mtru (mcallF 2 f__law_same (mcons (mcallF 1 f_sign (mcons (mvar 6) mnil)) (mcons (mcallF 1 f__law_sign (mcons (mvar 6) mnil)) mnil)))))
  (mret (mpure (.bool false)))
  mskip)
  (mseq (mifS (mor (mnot (mtru (mcallF 3 f__law_right (mcons (mvar 3) (mcons (mvar 4) (mcons (mvar 5) mnil)))))) (mor (mtst (mop gNtB (mcallF 1 f_is_number (mcons (mvar 3) mnil)) (mpure (.bool true)))) (mtst (mop gNtB (mcallK 1 f_is_number 0 1 [0] mnil (mcons (mvar 4) mnil)) (mpure (.bool true))))))
  (mret (mpure (.bool false)))
  mskip)
  (mseq (mset 7 (mop gIx (mlst (mcons (mpure .none) (mcons (mpure (.int 3)) (mcons (mtup (mcons (mpure (.int 1)) mnil)) (mcons (mtup (mcons (mpure (.int 1)) (mcons (mpure (.int 2)) (mcons (mpure (.int 3)) mnil)))) (mcons (mlst (mcons (mpure (.int 1)) (mcons (mpure (.int 2)) mnil))) (mcons (mtup (mcons (mpure (.int 1)) (mcons (mpure (.bool true)) mnil))) (mcons (mtup (mcons (mpure (.str "1")) (mcons (mpure (.int 2)) mnil))) (mcons (mtup (mcons (mpure (.int 1)) (mcons (mpure .none) mnil))) (mcons (mtup mnil) (mcons (mpure (.str "12")) (mcons (mtup (mcons (mtup (mcons (mpure (.int 1)) (mcons (mpure (.int 2)) mnil))) (mcons (mpure (.int 3)) mnil))) mnil)))))))))))) (mcallR 2 f__law_drawn 1 (mcons (mpure (.int 11)) mnil))))
  (mseq (mifS (mtst (mop gNtB (mcallF 1 f_is_number (mcons (mvar 7) mnil)) (mpure (.bool false))))
  (mret (mpure (.bool false)))
  mskip)
  (mseq (mset 8 (mcallR 2 f__law_drawn 1 (mcons (mpure (.int 3)) mnil)))
  (mseq (mifS (mnot (mtru (mcallF 2 f__law_same (mcons (mcallF 3 f__law_asked (mcons (mvar 8) (mcons (mvar 7) (mcons (mop gIx (mlst (mcons (mvar 4) (mcons (mpure .none) mnil))) (mcallR 2 f__law_drawn 1 (mcons (mpure (.int 2)) mnil))) mnil)))) (mcons (mtup (mcons (mpure (.str "number")) (mcons (mvar 7) mnil))) mnil)))))
  (mret (mpure (.bool false)))
  mskip)
  (mifS (mand (mtst (mop gLt (mvar 8) (mpure (.int 2)))) (mnot (mtru (mcallF 2 f__law_same (mcons (mcallF 3 f__law_asked (mcons (mvar 8) (mcons (mvar 3) (mcons (mvar 7) mnil)))) (mcons (mtup (mcons (mpure (.str "number")) (mcons (mvar 7) mnil))) mnil))))))
  (mret (mpure (.bool false)))
  mskip)))))))))

theorem body_und {sc : A} {fd : List D} {n : Int} {d2 : D} (hf : FD n fd) (hn : n + 60 < 2 ^ 100) {R : Fl → List A → Prop} (q : ∀ fd' b2 b3 b4 b5 b6 b7 b8, FD (n + 60) fd' → R .nx [sc, .own none (.l fd'), .dat b2, .dat b3, .dat b4, .dat b5, .dat b6, .dat b7, .dat b8]) :
    Wp fb_body [sc, .own none (.l fd), .dat d2, .und, .und, .und, .und, .und, .und] R := by
  unfold fb_body
  (repeat' (first | with_reducible refine wp_seq.mpr ?_ | with_reducible refine wp_ret.mpr ?_ | with_reducible refine wp_retN.mpr ?_ | with_reducible refine wp_skip.mpr ?_ | with_reducible refine wp_brk.mpr ?_ | with_reducible refine wp_cnt.mpr ?_ | with_reducible refine wp_ifS.mpr ?_ | with_reducible refine wp_drop.mpr ?_ | with_reducible refine wp_set.mpr ?_ | with_reducible refine wp_par.mpr ?_ | with_reducible refine wp_setIx.mpr ?_ | with_reducible refine wp_forS.mpr ?_ | with_reducible refine wp_op.mpr ?_ | with_reducible refine wp_neg.mpr ?_ | with_reducible refine wp_is.mpr ?_ | with_reducible refine wp_isnt.mpr ?_ | with_reducible refine wp_tru.mpr ?_ | with_reducible refine wp_tst.mpr ?_ | with_reducible refine wp_and.mpr ?_ | with_reducible refine wp_or.mpr ?_ | with_reducible refine wp_not.mpr ?_ | with_reducible refine wp_andV.mpr ?_ | with_reducible refine wp_orV.mpr ?_ | with_reducible refine wp_notV.mpr ?_ | with_reducible refine wp_if.mpr ?_ | with_reducible refine wp_nil.mpr ?_ | with_reducible refine wp_cons.mpr ?_ | with_reducible refine wp_tup.mpr ?_ | with_reducible refine wp_lst.mpr ?_ | with_reducible refine wp_call.mpr ?_ | with_reducible refine wp_isi.mpr ?_ | with_reducible refine wp_isiT.mpr ?_ | with_reducible refine wp_part.mpr ?_ | with_reducible refine wp_sl.mpr ?_ | with_reducible refine wp_callF.mpr ?_ | with_reducible refine wp_callK.mpr ?_ | with_reducible refine wp_pure.mpr ?_ | with_reducible refine wp_put.mpr ?_ | with_reducible refine wp_rng1.mpr ?_ | with_reducible refine wp_rng2.mpr ?_ | with_reducible refine wp_itA.mpr ?_ | with_reducible refine wp_tname.mpr ?_ | ((with_reducible apply wp_dat); exact rfl) | ((with_reducible apply wp_ixN2); exact rfl) | refine yes ?_ | refine no ?_ | refine And.intro (Nat.le_of_ble_eq_true rfl) ?_ | refine And.intro (sz (Nat.le_of_ble_eq_true rfl)) ?_ | refine Exists.intro _ (And.intro (gEq_int _ _) ?_) | ((with_reducible apply ex_and); exact rfl) | ((with_reducible apply ex_bool); exact rfl) | ((with_reducible apply ex_int); exact rfl) | ((with_reducible refine And.intro ?_ ?_); exact rfl) | ((with_reducible refine And.intro ?_ ?_); exact ⟨rfl, rfl, rfl⟩) | fail))
  refine wp_lend (xs := []) rfl ?_ rfl ?_
  · (repeat' (first | with_reducible refine wp_seq.mpr ?_ | with_reducible refine wp_ret.mpr ?_ | with_reducible refine wp_retN.mpr ?_ | with_reducible refine wp_skip.mpr ?_ | with_reducible refine wp_brk.mpr ?_ | with_reducible refine wp_cnt.mpr ?_ | with_reducible refine wp_ifS.mpr ?_ | with_reducible refine wp_drop.mpr ?_ | with_reducible refine wp_set.mpr ?_ | with_reducible refine wp_par.mpr ?_ | with_reducible refine wp_setIx.mpr ?_ | with_reducible refine wp_forS.mpr ?_ | with_reducible refine wp_op.mpr ?_ | with_reducible refine wp_neg.mpr ?_ | with_reducible refine wp_is.mpr ?_ | with_reducible refine wp_isnt.mpr ?_ | with_reducible refine wp_tru.mpr ?_ | with_reducible refine wp_tst.mpr ?_ | with_reducible refine wp_and.mpr ?_ | with_reducible refine wp_or.mpr ?_ | with_reducible refine wp_not.mpr ?_ | with_reducible refine wp_andV.mpr ?_ | with_reducible refine wp_orV.mpr ?_ | with_reducible refine wp_notV.mpr ?_ | with_reducible refine wp_if.mpr ?_ | with_reducible refine wp_nil.mpr ?_ | with_reducible refine wp_cons.mpr ?_ | with_reducible refine wp_tup.mpr ?_ | with_reducible refine wp_lst.mpr ?_ | with_reducible refine wp_call.mpr ?_ | with_reducible refine wp_isi.mpr ?_ | with_reducible refine wp_isiT.mpr ?_ | with_reducible refine wp_part.mpr ?_ | with_reducible refine wp_sl.mpr ?_ | with_reducible refine wp_callF.mpr ?_ | with_reducible refine wp_callK.mpr ?_ | with_reducible refine wp_pure.mpr ?_ | with_reducible refine wp_put.mpr ?_ | with_reducible refine wp_rng1.mpr ?_ | with_reducible refine wp_rng2.mpr ?_ | with_reducible refine wp_itA.mpr ?_ | with_reducible refine wp_tname.mpr ?_ | ((with_reducible apply wp_dat); exact rfl) | ((with_reducible apply wp_ixN2); exact rfl) | refine yes ?_ | refine no ?_ | refine And.intro (Nat.le_of_ble_eq_true rfl) ?_ | refine And.intro (sz (Nat.le_of_ble_eq_true rfl)) ?_ | refine Exists.intro _ (And.intro (gEq_int _ _) ?_) | ((with_reducible apply ex_and); exact rfl) | ((with_reducible apply ex_bool); exact rfl) | ((with_reducible apply ex_int); exact rfl) | ((with_reducible refine And.intro ?_ ?_); exact rfl) | ((with_reducible refine And.intro ?_ ?_); exact ⟨rfl, rfl, rfl⟩) | fail))
    exact rfl
  refine v_number hf (by omega) fun x1 fd1 h1 hf1 => ?_
  refine ⟨_, _, rfl, ?_⟩
  (repeat' (first | with_reducible refine wp_seq.mpr ?_ | with_reducible refine wp_ret.mpr ?_ | with_reducible refine wp_retN.mpr ?_ | with_reducible refine wp_skip.mpr ?_ | with_reducible refine wp_brk.mpr ?_ | with_reducible refine wp_cnt.mpr ?_ | with_reducible refine wp_ifS.mpr ?_ | with_reducible refine wp_drop.mpr ?_ | with_reducible refine wp_set.mpr ?_ | with_reducible refine wp_par.mpr ?_ | with_reducible refine wp_setIx.mpr ?_ | with_reducible refine wp_forS.mpr ?_ | with_reducible refine wp_op.mpr ?_ | with_reducible refine wp_neg.mpr ?_ | with_reducible refine wp_is.mpr ?_ | with_reducible refine wp_isnt.mpr ?_ | with_reducible refine wp_tru.mpr ?_ | with_reducible refine wp_tst.mpr ?_ | with_reducible refine wp_and.mpr ?_ | with_reducible refine wp_or.mpr ?_ | with_reducible refine wp_not.mpr ?_ | with_reducible refine wp_andV.mpr ?_ | with_reducible refine wp_orV.mpr ?_ | with_reducible refine wp_notV.mpr ?_ | with_reducible refine wp_if.mpr ?_ | with_reducible refine wp_nil.mpr ?_ | with_reducible refine wp_cons.mpr ?_ | with_reducible refine wp_tup.mpr ?_ | with_reducible refine wp_lst.mpr ?_ | with_reducible refine wp_call.mpr ?_ | with_reducible refine wp_isi.mpr ?_ | with_reducible refine wp_isiT.mpr ?_ | with_reducible refine wp_part.mpr ?_ | with_reducible refine wp_sl.mpr ?_ | with_reducible refine wp_callF.mpr ?_ | with_reducible refine wp_callK.mpr ?_ | with_reducible refine wp_pure.mpr ?_ | with_reducible refine wp_put.mpr ?_ | with_reducible refine wp_rng1.mpr ?_ | with_reducible refine wp_rng2.mpr ?_ | with_reducible refine wp_itA.mpr ?_ | with_reducible refine wp_tname.mpr ?_ | ((with_reducible apply wp_dat); exact rfl) | ((with_reducible apply wp_ixN2); exact rfl) | refine yes ?_ | refine no ?_ | refine And.intro (Nat.le_of_ble_eq_true rfl) ?_ | refine And.intro (sz (Nat.le_of_ble_eq_true rfl)) ?_ | refine Exists.intro _ (And.intro (gEq_int _ _) ?_) | ((with_reducible apply ex_and); exact rfl) | ((with_reducible apply ex_bool); exact rfl) | ((with_reducible apply ex_int); exact rfl) | ((with_reducible refine And.intro ?_ ?_); exact rfl) | ((with_reducible refine And.intro ?_ ?_); exact ⟨rfl, rfl, rfl⟩) | fail))
  refine wp_lend (xs := []) rfl ?_ rfl ?_
  · (repeat' (first | with_reducible refine wp_seq.mpr ?_ | with_reducible refine wp_ret.mpr ?_ | with_reducible refine wp_retN.mpr ?_ | with_reducible refine wp_skip.mpr ?_ | with_reducible refine wp_brk.mpr ?_ | with_reducible refine wp_cnt.mpr ?_ | with_reducible refine wp_ifS.mpr ?_ | with_reducible refine wp_drop.mpr ?_ | with_reducible refine wp_set.mpr ?_ | with_reducible refine wp_par.mpr ?_ | with_reducible refine wp_setIx.mpr ?_ | with_reducible refine wp_forS.mpr ?_ | with_reducible refine wp_op.mpr ?_ | with_reducible refine wp_neg.mpr ?_ | with_reducible refine wp_is.mpr ?_ | with_reducible refine wp_isnt.mpr ?_ | with_reducible refine wp_tru.mpr ?_ | with_reducible refine wp_tst.mpr ?_ | with_reducible refine wp_and.mpr ?_ | with_reducible refine wp_or.mpr ?_ | with_reducible refine wp_not.mpr ?_ | with_reducible refine wp_andV.mpr ?_ | with_reducible refine wp_orV.mpr ?_ | with_reducible refine wp_notV.mpr ?_ | with_reducible refine wp_if.mpr ?_ | with_reducible refine wp_nil.mpr ?_ | with_reducible refine wp_cons.mpr ?_ | with_reducible refine wp_tup.mpr ?_ | with_reducible refine wp_lst.mpr ?_ | with_reducible refine wp_call.mpr ?_ | with_reducible refine wp_isi.mpr ?_ | with_reducible refine wp_isiT.mpr ?_ | with_reducible refine wp_part.mpr ?_ | with_reducible refine wp_sl.mpr ?_ | with_reducible refine wp_callF.mpr ?_ | with_reducible refine wp_callK.mpr ?_ | with_reducible refine wp_pure.mpr ?_ | with_reducible refine wp_put.mpr ?_ | with_reducible refine wp_rng1.mpr ?_ | with_reducible refine wp_rng2.mpr ?_ | with_reducible refine wp_itA.mpr ?_ | with_reducible refine wp_tname.mpr ?_ | ((with_reducible apply wp_dat); exact rfl) | ((with_reducible apply wp_ixN2); exact rfl) | refine yes ?_ | refine no ?_ | refine And.intro (Nat.le_of_ble_eq_true rfl) ?_ | refine And.intro (sz (Nat.le_of_ble_eq_true rfl)) ?_ | refine Exists.intro _ (And.intro (gEq_int _ _) ?_) | ((with_reducible apply ex_and); exact rfl) | ((with_reducible apply ex_bool); exact rfl) | ((with_reducible apply ex_int); exact rfl) | ((with_reducible refine And.intro ?_ ?_); exact rfl) | ((with_reducible refine And.intro ?_ ?_); exact ⟨rfl, rfl, rfl⟩) | fail))
    exact rfl
  refine v_number hf1 (by omega) fun x2 fd2 h2 hf2 => ?_
  refine ⟨_, _, rfl, ?_⟩
  (repeat' (first | with_reducible refine wp_seq.mpr ?_ | with_reducible refine wp_ret.mpr ?_ | with_reducible refine wp_retN.mpr ?_ | with_reducible refine wp_skip.mpr ?_ | with_reducible refine wp_brk.mpr ?_ | with_reducible refine wp_cnt.mpr ?_ | with_reducible refine wp_ifS.mpr ?_ | with_reducible refine wp_drop.mpr ?_ | with_reducible refine wp_set.mpr ?_ | with_reducible refine wp_par.mpr ?_ | with_reducible refine wp_setIx.mpr ?_ | with_reducible refine wp_forS.mpr ?_ | with_reducible refine wp_op.mpr ?_ | with_reducible refine wp_neg.mpr ?_ | with_reducible refine wp_is.mpr ?_ | with_reducible refine wp_isnt.mpr ?_ | with_reducible refine wp_tru.mpr ?_ | with_reducible refine wp_tst.mpr ?_ | with_reducible refine wp_and.mpr ?_ | with_reducible refine wp_or.mpr ?_ | with_reducible refine wp_not.mpr ?_ | with_reducible refine wp_andV.mpr ?_ | with_reducible refine wp_orV.mpr ?_ | with_reducible refine wp_notV.mpr ?_ | with_reducible refine wp_if.mpr ?_ | with_reducible refine wp_nil.mpr ?_ | with_reducible refine wp_cons.mpr ?_ | with_reducible refine wp_tup.mpr ?_ | with_reducible refine wp_lst.mpr ?_ | with_reducible refine wp_call.mpr ?_ | with_reducible refine wp_isi.mpr ?_ | with_reducible refine wp_isiT.mpr ?_ | with_reducible refine wp_part.mpr ?_ | with_reducible refine wp_sl.mpr ?_ | with_reducible refine wp_callF.mpr ?_ | with_reducible refine wp_callK.mpr ?_ | with_reducible refine wp_pure.mpr ?_ | with_reducible refine wp_put.mpr ?_ | with_reducible refine wp_rng1.mpr ?_ | with_reducible refine wp_rng2.mpr ?_ | with_reducible refine wp_itA.mpr ?_ | with_reducible refine wp_tname.mpr ?_ | ((with_reducible apply wp_dat); exact rfl) | ((with_reducible apply wp_ixN2); exact rfl) | refine yes ?_ | refine no ?_ | refine And.intro (Nat.le_of_ble_eq_true rfl) ?_ | refine And.intro (sz (Nat.le_of_ble_eq_true rfl)) ?_ | refine Exists.intro _ (And.intro (gEq_int _ _) ?_) | ((with_reducible apply ex_and); exact rfl) | ((with_reducible apply ex_bool); exact rfl) | ((with_reducible apply ex_int); exact rfl) | ((with_reducible refine And.intro ?_ ?_); exact rfl) | ((with_reducible refine And.intro ?_ ?_); exact ⟨rfl, rfl, rfl⟩) | fail))
  refine wp_lend (xs := []) rfl ?_ rfl ?_
  · (repeat' (first | with_reducible refine wp_seq.mpr ?_ | with_reducible refine wp_ret.mpr ?_ | with_reducible refine wp_retN.mpr ?_ | with_reducible refine wp_skip.mpr ?_ | with_reducible refine wp_brk.mpr ?_ | with_reducible refine wp_cnt.mpr ?_ | with_reducible refine wp_ifS.mpr ?_ | with_reducible refine wp_drop.mpr ?_ | with_reducible refine wp_set.mpr ?_ | with_reducible refine wp_par.mpr ?_ | with_reducible refine wp_setIx.mpr ?_ | with_reducible refine wp_forS.mpr ?_ | with_reducible refine wp_op.mpr ?_ | with_reducible refine wp_neg.mpr ?_ | with_reducible refine wp_is.mpr ?_ | with_reducible refine wp_isnt.mpr ?_ | with_reducible refine wp_tru.mpr ?_ | with_reducible refine wp_tst.mpr ?_ | with_reducible refine wp_and.mpr ?_ | with_reducible refine wp_or.mpr ?_ | with_reducible refine wp_not.mpr ?_ | with_reducible refine wp_andV.mpr ?_ | with_reducible refine wp_orV.mpr ?_ | with_reducible refine wp_notV.mpr ?_ | with_reducible refine wp_if.mpr ?_ | with_reducible refine wp_nil.mpr ?_ | with_reducible refine wp_cons.mpr ?_ | with_reducible refine wp_tup.mpr ?_ | with_reducible refine wp_lst.mpr ?_ | with_reducible refine wp_call.mpr ?_ | with_reducible refine wp_isi.mpr ?_ | with_reducible refine wp_isiT.mpr ?_ | with_reducible refine wp_part.mpr ?_ | with_reducible refine wp_sl.mpr ?_ | with_reducible refine wp_callF.mpr ?_ | with_reducible refine wp_callK.mpr ?_ | with_reducible refine wp_pure.mpr ?_ | with_reducible refine wp_put.mpr ?_ | with_reducible refine wp_rng1.mpr ?_ | with_reducible refine wp_rng2.mpr ?_ | with_reducible refine wp_itA.mpr ?_ | with_reducible refine wp_tname.mpr ?_ | ((with_reducible apply wp_dat); exact rfl) | ((with_reducible apply wp_ixN2); exact rfl) | refine yes ?_ | refine no ?_ | refine And.intro (Nat.le_of_ble_eq_true rfl) ?_ | refine And.intro (sz (Nat.le_of_ble_eq_true rfl)) ?_ | refine Exists.intro _ (And.intro (gEq_int _ _) ?_) | ((with_reducible apply ex_and); exact rfl) | ((with_reducible apply ex_bool); exact rfl) | ((with_reducible apply ex_int); exact rfl) | ((with_reducible refine And.intro ?_ ?_); exact rfl) | ((with_reducible refine And.intro ?_ ?_); exact ⟨rfl, rfl, rfl⟩) | fail))
    exact rfl
  refine v_number hf2 (by omega) fun x3 fd3 h3 hf3 => ?_
  refine ⟨_, _, rfl, ?_⟩
  obtain ⟨a, b, rfl, ha, hb⟩ := h1
  obtain ⟨c, d, rfl, hc, hd⟩ := h2
  obtain ⟨e, f, rfl, he, hf'⟩ := h3
  (repeat' (first | with_reducible refine wp_seq.mpr ?_ | with_reducible refine wp_ret.mpr ?_ | with_reducible refine wp_retN.mpr ?_ | with_reducible refine wp_skip.mpr ?_ | with_reducible refine wp_brk.mpr ?_ | with_reducible refine wp_cnt.mpr ?_ | with_reducible refine wp_ifS.mpr ?_ | with_reducible refine wp_drop.mpr ?_ | with_reducible refine wp_set.mpr ?_ | with_reducible refine wp_par.mpr ?_ | with_reducible refine wp_setIx.mpr ?_ | with_reducible refine wp_forS.mpr ?_ | with_reducible refine wp_op.mpr ?_ | with_reducible refine wp_neg.mpr ?_ | with_reducible refine wp_is.mpr ?_ | with_reducible refine wp_isnt.mpr ?_ | with_reducible refine wp_tru.mpr ?_ | with_reducible refine wp_tst.mpr ?_ | with_reducible refine wp_and.mpr ?_ | with_reducible refine wp_or.mpr ?_ | with_reducible refine wp_not.mpr ?_ | with_reducible refine wp_andV.mpr ?_ | with_reducible refine wp_orV.mpr ?_ | with_reducible refine wp_notV.mpr ?_ | with_reducible refine wp_if.mpr ?_ | with_reducible refine wp_nil.mpr ?_ | with_reducible refine wp_cons.mpr ?_ | with_reducible refine wp_tup.mpr ?_ | with_reducible refine wp_lst.mpr ?_ | with_reducible refine wp_call.mpr ?_ | with_reducible refine wp_isi.mpr ?_ | with_reducible refine wp_isiT.mpr ?_ | with_reducible refine wp_part.mpr ?_ | with_reducible refine wp_sl.mpr ?_ | with_reducible refine wp_callF.mpr ?_ | with_reducible refine wp_callK.mpr ?_ | with_reducible refine wp_pure.mpr ?_ | with_reducible refine wp_put.mpr ?_ | with_reducible refine wp_rng1.mpr ?_ | with_reducible refine wp_rng2.mpr ?_ | with_reducible refine wp_itA.mpr ?_ | with_reducible refine wp_tname.mpr ?_ | ((with_reducible apply wp_dat); exact rfl) | ((with_reducible apply wp_ixN2); exact rfl) | refine yes ?_ | refine no ?_ | refine And.intro (Nat.le_of_ble_eq_true rfl) ?_ | refine And.intro (sz (Nat.le_of_ble_eq_true rfl)) ?_ | refine Exists.intro _ (And.intro (gEq_int _ _) ?_) | ((with_reducible apply ex_and); exact rfl) | ((with_reducible apply ex_bool); exact rfl) | ((with_reducible apply ex_int); exact rfl) | ((with_reducible refine And.intro ?_ ?_); exact rfl) | ((with_reducible refine And.intro ?_ ?_); exact ⟨rfl, rfl, rfl⟩) | fail))
  refine wp_lend (xs := [.int 40]) rfl ?_ rfl ?_
  · (repeat' (first | with_reducible refine wp_seq.mpr ?_ | with_reducible refine wp_ret.mpr ?_ | with_reducible refine wp_retN.mpr ?_ | with_reducible refine wp_skip.mpr ?_ | with_reducible refine wp_brk.mpr ?_ | with_reducible refine wp_cnt.mpr ?_ | with_reducible refine wp_ifS.mpr ?_ | with_reducible refine wp_drop.mpr ?_ | with_reducible refine wp_set.mpr ?_ | with_reducible refine wp_par.mpr ?_ | with_reducible refine wp_setIx.mpr ?_ | with_reducible refine wp_forS.mpr ?_ | with_reducible refine wp_op.mpr ?_ | with_reducible refine wp_neg.mpr ?_ | with_reducible refine wp_is.mpr ?_ | with_reducible refine wp_isnt.mpr ?_ | with_reducible refine wp_tru.mpr ?_ | with_reducible refine wp_tst.mpr ?_ | with_reducible refine wp_and.mpr ?_ | with_reducible refine wp_or.mpr ?_ | with_reducible refine wp_not.mpr ?_ | with_reducible refine wp_andV.mpr ?_ | with_reducible refine wp_orV.mpr ?_ | with_reducible refine wp_notV.mpr ?_ | with_reducible refine wp_if.mpr ?_ | with_reducible refine wp_nil.mpr ?_ | with_reducible refine wp_cons.mpr ?_ | with_reducible refine wp_tup.mpr ?_ | with_reducible refine wp_lst.mpr ?_ | with_reducible refine wp_call.mpr ?_ | with_reducible refine wp_isi.mpr ?_ | with_reducible refine wp_isiT.mpr ?_ | with_reducible refine wp_part.mpr ?_ | with_reducible refine wp_sl.mpr ?_ | with_reducible refine wp_callF.mpr ?_ | with_reducible refine wp_callK.mpr ?_ | with_reducible refine wp_pure.mpr ?_ | with_reducible refine wp_put.mpr ?_ | with_reducible refine wp_rng1.mpr ?_ | with_reducible refine wp_rng2.mpr ?_ | with_reducible refine wp_itA.mpr ?_ | with_reducible refine wp_tname.mpr ?_ | ((with_reducible apply wp_dat); exact rfl) | ((with_reducible apply wp_ixN2); exact rfl) | refine yes ?_ | refine no ?_ | refine And.intro (Nat.le_of_ble_eq_true rfl) ?_ | refine And.intro (sz (Nat.le_of_ble_eq_true rfl)) ?_ | refine Exists.intro _ (And.intro (gEq_int _ _) ?_) | ((with_reducible apply ex_and); exact rfl) | ((with_reducible apply ex_bool); exact rfl) | ((with_reducible apply ex_int); exact rfl) | ((with_reducible refine And.intro ?_ ?_); exact rfl) | ((with_reducible refine And.intro ?_ ?_); exact ⟨rfl, rfl, rfl⟩) | fail))
    exact rfl
  refine v_near hf3 (by omega) (by decide) (by decide) fun x4 fd4 h4 hf4 => ?_
  refine ⟨_, _, rfl, ?_⟩
  obtain ⟨g, h, rfl, hg, hh⟩ := h4
  have G9 := hg.mono (show 43 ≤ 150 by decide)
  have H9 := hh.mono (show 43 ≤ 150 by decide)
  (repeat' (first | with_reducible refine wp_seq.mpr ?_ | with_reducible refine wp_ret.mpr ?_ | with_reducible refine wp_retN.mpr ?_ | with_reducible refine wp_skip.mpr ?_ | with_reducible refine wp_brk.mpr ?_ | with_reducible refine wp_cnt.mpr ?_ | with_reducible refine wp_ifS.mpr ?_ | with_reducible refine wp_drop.mpr ?_ | with_reducible refine wp_set.mpr ?_ | with_reducible refine wp_par.mpr ?_ | with_reducible refine wp_setIx.mpr ?_ | with_reducible refine wp_forS.mpr ?_ | with_reducible refine wp_op.mpr ?_ | with_reducible refine wp_neg.mpr ?_ | with_reducible refine wp_is.mpr ?_ | with_reducible refine wp_isnt.mpr ?_ | with_reducible refine wp_tru.mpr ?_ | with_reducible refine wp_tst.mpr ?_ | with_reducible refine wp_and.mpr ?_ | with_reducible refine wp_or.mpr ?_ | with_reducible refine wp_not.mpr ?_ | with_reducible refine wp_andV.mpr ?_ | with_reducible refine wp_orV.mpr ?_ | with_reducible refine wp_notV.mpr ?_ | with_reducible refine wp_if.mpr ?_ | with_reducible refine wp_nil.mpr ?_ | with_reducible refine wp_cons.mpr ?_ | with_reducible refine wp_tup.mpr ?_ | with_reducible refine wp_lst.mpr ?_ | with_reducible refine wp_call.mpr ?_ | with_reducible refine wp_isi.mpr ?_ | with_reducible refine wp_isiT.mpr ?_ | with_reducible refine wp_part.mpr ?_ | with_reducible refine wp_sl.mpr ?_ | with_reducible refine wp_callF.mpr ?_ | with_reducible refine wp_callK.mpr ?_ | with_reducible refine wp_pure.mpr ?_ | with_reducible refine wp_put.mpr ?_ | with_reducible refine wp_rng1.mpr ?_ | with_reducible refine wp_rng2.mpr ?_ | with_reducible refine wp_itA.mpr ?_ | with_reducible refine wp_tname.mpr ?_ | ((with_reducible apply wp_dat); exact rfl) | ((with_reducible apply wp_ixN2); exact rfl) | refine yes ?_ | refine no ?_ | refine And.intro (Nat.le_of_ble_eq_true rfl) ?_ | refine And.intro (sz (Nat.le_of_ble_eq_true rfl)) ?_ | refine Exists.intro _ (And.intro (gEq_int _ _) ?_) | ((with_reducible apply ex_and); exact rfl) | ((with_reducible apply ex_bool); exact rfl) | ((with_reducible apply ex_int); exact rfl) | ((with_reducible refine And.intro ?_ ?_); exact rfl) | ((with_reducible refine And.intro ?_ ?_); exact ⟨rfl, rfl, rfl⟩) | ((with_reducible refine gvE (f := f_sign) ?_ (v_sign150 G9 H9 ?_)); exact rfl) | ((with_reducible refine gvE (f := f__law_sign) ?_ (v_law_sign150 G9 H9 ?_)); exact rfl) | ((with_reducible apply v_sameE); exact rfl) | (show (_ : D) = _; exact rfl) | (show sml _ = true; exact rfl) | (show PyData.depth _ ≤ 11; exact Nat.le_of_ble_eq_true rfl) | ((with_reducible refine gvE (f := f__law_right) ?_ (v_right ha hb hc hd he hf' ?_)); exact rfl) | ((with_reducible refine gvE (f := f_is_number) ?_ (v_is_number (pr a b) ?_)); exact rfl) | ((with_reducible refine gvE (f := f_is_number) ?_ (v_is_number (pr c d) ?_)); exact rfl) | fail))
  refine wp_draw (many := 11) rfl ?_ hf4 (by omega) (by decide) (by decide) fun w fd5 w0 w1 hf5 => ?_
  · (repeat' (first | with_reducible refine wp_seq.mpr ?_ | with_reducible refine wp_ret.mpr ?_ | with_reducible refine wp_retN.mpr ?_ | with_reducible refine wp_skip.mpr ?_ | with_reducible refine wp_brk.mpr ?_ | with_reducible refine wp_cnt.mpr ?_ | with_reducible refine wp_ifS.mpr ?_ | with_reducible refine wp_drop.mpr ?_ | with_reducible refine wp_set.mpr ?_ | with_reducible refine wp_par.mpr ?_ | with_reducible refine wp_setIx.mpr ?_ | with_reducible refine wp_forS.mpr ?_ | with_reducible refine wp_op.mpr ?_ | with_reducible refine wp_neg.mpr ?_ | with_reducible refine wp_is.mpr ?_ | with_reducible refine wp_isnt.mpr ?_ | with_reducible refine wp_tru.mpr ?_ | with_reducible refine wp_tst.mpr ?_ | with_reducible refine wp_and.mpr ?_ | with_reducible refine wp_or.mpr ?_ | with_reducible refine wp_not.mpr ?_ | with_reducible refine wp_andV.mpr ?_ | with_reducible refine wp_orV.mpr ?_ | with_reducible refine wp_notV.mpr ?_ | with_reducible refine wp_if.mpr ?_ | with_reducible refine wp_nil.mpr ?_ | with_reducible refine wp_cons.mpr ?_ | with_reducible refine wp_tup.mpr ?_ | with_reducible refine wp_lst.mpr ?_ | with_reducible refine wp_call.mpr ?_ | with_reducible refine wp_isi.mpr ?_ | with_reducible refine wp_isiT.mpr ?_ | with_reducible refine wp_part.mpr ?_ | with_reducible refine wp_sl.mpr ?_ | with_reducible refine wp_callF.mpr ?_ | with_reducible refine wp_callK.mpr ?_ | with_reducible refine wp_pure.mpr ?_ | with_reducible refine wp_put.mpr ?_ | with_reducible refine wp_rng1.mpr ?_ | with_reducible refine wp_rng2.mpr ?_ | with_reducible refine wp_itA.mpr ?_ | with_reducible refine wp_tname.mpr ?_ | ((with_reducible apply wp_dat); exact rfl) | ((with_reducible apply wp_ixN2); exact rfl) | refine yes ?_ | refine no ?_ | refine And.intro (Nat.le_of_ble_eq_true rfl) ?_ | refine And.intro (sz (Nat.le_of_ble_eq_true rfl)) ?_ | refine Exists.intro _ (And.intro (gEq_int _ _) ?_) | ((with_reducible apply ex_and); exact rfl) | ((with_reducible apply ex_bool); exact rfl) | ((with_reducible apply ex_int); exact rfl) | ((with_reducible refine And.intro ?_ ?_); exact rfl) | ((with_reducible refine And.intro ?_ ?_); exact ⟨rfl, rfl, rfl⟩) | fail))
    exact rfl
  obtain ⟨x, hx, px, sx, dx⟩ := wrong_at w0 w1
  refine ex_and hx ?_
  (repeat' (first | with_reducible refine wp_seq.mpr ?_ | with_reducible refine wp_ret.mpr ?_ | with_reducible refine wp_retN.mpr ?_ | with_reducible refine wp_skip.mpr ?_ | with_reducible refine wp_brk.mpr ?_ | with_reducible refine wp_cnt.mpr ?_ | with_reducible refine wp_ifS.mpr ?_ | with_reducible refine wp_drop.mpr ?_ | with_reducible refine wp_set.mpr ?_ | with_reducible refine wp_par.mpr ?_ | with_reducible refine wp_setIx.mpr ?_ | with_reducible refine wp_forS.mpr ?_ | with_reducible refine wp_op.mpr ?_ | with_reducible refine wp_neg.mpr ?_ | with_reducible refine wp_is.mpr ?_ | with_reducible refine wp_isnt.mpr ?_ | with_reducible refine wp_tru.mpr ?_ | with_reducible refine wp_tst.mpr ?_ | with_reducible refine wp_and.mpr ?_ | with_reducible refine wp_or.mpr ?_ | with_reducible refine wp_not.mpr ?_ | with_reducible refine wp_andV.mpr ?_ | with_reducible refine wp_orV.mpr ?_ | with_reducible refine wp_notV.mpr ?_ | with_reducible refine wp_if.mpr ?_ | with_reducible refine wp_nil.mpr ?_ | with_reducible refine wp_cons.mpr ?_ | with_reducible refine wp_tup.mpr ?_ | with_reducible refine wp_lst.mpr ?_ | with_reducible refine wp_call.mpr ?_ | with_reducible refine wp_isi.mpr ?_ | with_reducible refine wp_isiT.mpr ?_ | with_reducible refine wp_part.mpr ?_ | with_reducible refine wp_sl.mpr ?_ | with_reducible refine wp_callF.mpr ?_ | with_reducible refine wp_callK.mpr ?_ | with_reducible refine wp_pure.mpr ?_ | with_reducible refine wp_put.mpr ?_ | with_reducible refine wp_rng1.mpr ?_ | with_reducible refine wp_rng2.mpr ?_ | with_reducible refine wp_itA.mpr ?_ | with_reducible refine wp_tname.mpr ?_ | ((with_reducible apply wp_dat); exact rfl) | ((with_reducible apply wp_ixN2); exact rfl) | refine yes ?_ | refine no ?_ | refine And.intro (Nat.le_of_ble_eq_true rfl) ?_ | refine And.intro (sz (Nat.le_of_ble_eq_true rfl)) ?_ | refine Exists.intro _ (And.intro (gEq_int _ _) ?_) | ((with_reducible apply ex_and); exact rfl) | ((with_reducible apply ex_bool); exact rfl) | ((with_reducible apply ex_int); exact rfl) | ((with_reducible refine And.intro ?_ ?_); exact rfl) | ((with_reducible refine And.intro ?_ ?_); exact ⟨rfl, rfl, rfl⟩) | ((with_reducible refine gvE (f := f_is_number) ?_ (v_is_number x ?_)); exact rfl) | (rw [px]) | fail))
  refine wp_draw (many := 3) rfl ?_ hf5 (by omega) (by decide) (by decide) fun way fd6 y0 y1 hf6 => ?_
  · (repeat' (first | with_reducible refine wp_seq.mpr ?_ | with_reducible refine wp_ret.mpr ?_ | with_reducible refine wp_retN.mpr ?_ | with_reducible refine wp_skip.mpr ?_ | with_reducible refine wp_brk.mpr ?_ | with_reducible refine wp_cnt.mpr ?_ | with_reducible refine wp_ifS.mpr ?_ | with_reducible refine wp_drop.mpr ?_ | with_reducible refine wp_set.mpr ?_ | with_reducible refine wp_par.mpr ?_ | with_reducible refine wp_setIx.mpr ?_ | with_reducible refine wp_forS.mpr ?_ | with_reducible refine wp_op.mpr ?_ | with_reducible refine wp_neg.mpr ?_ | with_reducible refine wp_is.mpr ?_ | with_reducible refine wp_isnt.mpr ?_ | with_reducible refine wp_tru.mpr ?_ | with_reducible refine wp_tst.mpr ?_ | with_reducible refine wp_and.mpr ?_ | with_reducible refine wp_or.mpr ?_ | with_reducible refine wp_not.mpr ?_ | with_reducible refine wp_andV.mpr ?_ | with_reducible refine wp_orV.mpr ?_ | with_reducible refine wp_notV.mpr ?_ | with_reducible refine wp_if.mpr ?_ | with_reducible refine wp_nil.mpr ?_ | with_reducible refine wp_cons.mpr ?_ | with_reducible refine wp_tup.mpr ?_ | with_reducible refine wp_lst.mpr ?_ | with_reducible refine wp_call.mpr ?_ | with_reducible refine wp_isi.mpr ?_ | with_reducible refine wp_isiT.mpr ?_ | with_reducible refine wp_part.mpr ?_ | with_reducible refine wp_sl.mpr ?_ | with_reducible refine wp_callF.mpr ?_ | with_reducible refine wp_callK.mpr ?_ | with_reducible refine wp_pure.mpr ?_ | with_reducible refine wp_put.mpr ?_ | with_reducible refine wp_rng1.mpr ?_ | with_reducible refine wp_rng2.mpr ?_ | with_reducible refine wp_itA.mpr ?_ | with_reducible refine wp_tname.mpr ?_ | ((with_reducible apply wp_dat); exact rfl) | ((with_reducible apply wp_ixN2); exact rfl) | refine yes ?_ | refine no ?_ | refine And.intro (Nat.le_of_ble_eq_true rfl) ?_ | refine And.intro (sz (Nat.le_of_ble_eq_true rfl)) ?_ | refine Exists.intro _ (And.intro (gEq_int _ _) ?_) | ((with_reducible apply ex_and); exact rfl) | ((with_reducible apply ex_bool); exact rfl) | ((with_reducible apply ex_int); exact rfl) | ((with_reducible refine And.intro ?_ ?_); exact rfl) | ((with_reducible refine And.intro ?_ ?_); exact ⟨rfl, rfl, rfl⟩) | fail))
    exact rfl
  have hw : way = 0 ∨ way = 1 ∨ way = 2 := by omega
  (repeat' (first | with_reducible refine wp_seq.mpr ?_ | with_reducible refine wp_ret.mpr ?_ | with_reducible refine wp_retN.mpr ?_ | with_reducible refine wp_skip.mpr ?_ | with_reducible refine wp_brk.mpr ?_ | with_reducible refine wp_cnt.mpr ?_ | with_reducible refine wp_ifS.mpr ?_ | with_reducible refine wp_drop.mpr ?_ | with_reducible refine wp_set.mpr ?_ | with_reducible refine wp_par.mpr ?_ | with_reducible refine wp_setIx.mpr ?_ | with_reducible refine wp_forS.mpr ?_ | with_reducible refine wp_op.mpr ?_ | with_reducible refine wp_neg.mpr ?_ | with_reducible refine wp_is.mpr ?_ | with_reducible refine wp_isnt.mpr ?_ | with_reducible refine wp_tru.mpr ?_ | with_reducible refine wp_tst.mpr ?_ | with_reducible refine wp_and.mpr ?_ | with_reducible refine wp_or.mpr ?_ | with_reducible refine wp_not.mpr ?_ | with_reducible refine wp_andV.mpr ?_ | with_reducible refine wp_orV.mpr ?_ | with_reducible refine wp_notV.mpr ?_ | with_reducible refine wp_if.mpr ?_ | with_reducible refine wp_nil.mpr ?_ | with_reducible refine wp_cons.mpr ?_ | with_reducible refine wp_tup.mpr ?_ | with_reducible refine wp_lst.mpr ?_ | with_reducible refine wp_call.mpr ?_ | with_reducible refine wp_isi.mpr ?_ | with_reducible refine wp_isiT.mpr ?_ | with_reducible refine wp_part.mpr ?_ | with_reducible refine wp_sl.mpr ?_ | with_reducible refine wp_callF.mpr ?_ | with_reducible refine wp_callK.mpr ?_ | with_reducible refine wp_pure.mpr ?_ | with_reducible refine wp_put.mpr ?_ | with_reducible refine wp_rng1.mpr ?_ | with_reducible refine wp_rng2.mpr ?_ | with_reducible refine wp_itA.mpr ?_ | with_reducible refine wp_tname.mpr ?_ | ((with_reducible apply wp_dat); exact rfl) | ((with_reducible apply wp_ixN2); exact rfl) | refine yes ?_ | refine no ?_ | refine And.intro (Nat.le_of_ble_eq_true rfl) ?_ | refine And.intro (sz (Nat.le_of_ble_eq_true rfl)) ?_ | refine Exists.intro _ (And.intro (gEq_int _ _) ?_) | ((with_reducible apply ex_and); exact rfl) | ((with_reducible apply ex_bool); exact rfl) | ((with_reducible apply ex_int); exact rfl) | ((with_reducible refine And.intro ?_ ?_); exact rfl) | ((with_reducible refine And.intro ?_ ?_); exact ⟨rfl, rfl, rfl⟩) | fail))
  refine wp_draw (many := 2) rfl ?_ hf6 (by omega) (by decide) (by decide) fun s fd7 s0 s1 hf7 => ?_
  · (repeat' (first | with_reducible refine wp_seq.mpr ?_ | with_reducible refine wp_ret.mpr ?_ | with_reducible refine wp_retN.mpr ?_ | with_reducible refine wp_skip.mpr ?_ | with_reducible refine wp_brk.mpr ?_ | with_reducible refine wp_cnt.mpr ?_ | with_reducible refine wp_ifS.mpr ?_ | with_reducible refine wp_drop.mpr ?_ | with_reducible refine wp_set.mpr ?_ | with_reducible refine wp_par.mpr ?_ | with_reducible refine wp_setIx.mpr ?_ | with_reducible refine wp_forS.mpr ?_ | with_reducible refine wp_op.mpr ?_ | with_reducible refine wp_neg.mpr ?_ | with_reducible refine wp_is.mpr ?_ | with_reducible refine wp_isnt.mpr ?_ | with_reducible refine wp_tru.mpr ?_ | with_reducible refine wp_tst.mpr ?_ | with_reducible refine wp_and.mpr ?_ | with_reducible refine wp_or.mpr ?_ | with_reducible refine wp_not.mpr ?_ | with_reducible refine wp_andV.mpr ?_ | with_reducible refine wp_orV.mpr ?_ | with_reducible refine wp_notV.mpr ?_ | with_reducible refine wp_if.mpr ?_ | with_reducible refine wp_nil.mpr ?_ | with_reducible refine wp_cons.mpr ?_ | with_reducible refine wp_tup.mpr ?_ | with_reducible refine wp_lst.mpr ?_ | with_reducible refine wp_call.mpr ?_ | with_reducible refine wp_isi.mpr ?_ | with_reducible refine wp_isiT.mpr ?_ | with_reducible refine wp_part.mpr ?_ | with_reducible refine wp_sl.mpr ?_ | with_reducible refine wp_callF.mpr ?_ | with_reducible refine wp_callK.mpr ?_ | with_reducible refine wp_pure.mpr ?_ | with_reducible refine wp_put.mpr ?_ | with_reducible refine wp_rng1.mpr ?_ | with_reducible refine wp_rng2.mpr ?_ | with_reducible refine wp_itA.mpr ?_ | with_reducible refine wp_tname.mpr ?_ | ((with_reducible apply wp_dat); exact rfl) | ((with_reducible apply wp_ixN2); exact rfl) | refine yes ?_ | refine no ?_ | refine And.intro (Nat.le_of_ble_eq_true rfl) ?_ | refine And.intro (sz (Nat.le_of_ble_eq_true rfl)) ?_ | refine Exists.intro _ (And.intro (gEq_int _ _) ?_) | ((with_reducible apply ex_and); exact rfl) | ((with_reducible apply ex_bool); exact rfl) | ((with_reducible apply ex_int); exact rfl) | ((with_reducible refine And.intro ?_ ?_); exact rfl) | ((with_reducible refine And.intro ?_ ?_); exact ⟨rfl, rfl, rfl⟩) | fail))
    exact rfl
  have hs : ∃ v2, gIx (.list [pr c d, .none]) (.int s) = some v2 := by
    have hs : s = 0 ∨ s = 1 := by omega
    rcases hs with rfl | rfl
    · exact ⟨_, rfl⟩
    · exact ⟨_, rfl⟩
  obtain ⟨v2, hv2⟩ := hs
  refine ex_and hv2 ?_
  (repeat' (first | with_reducible refine wp_seq.mpr ?_ | with_reducible refine wp_ret.mpr ?_ | with_reducible refine wp_retN.mpr ?_ | with_reducible refine wp_skip.mpr ?_ | with_reducible refine wp_brk.mpr ?_ | with_reducible refine wp_cnt.mpr ?_ | with_reducible refine wp_ifS.mpr ?_ | with_reducible refine wp_drop.mpr ?_ | with_reducible refine wp_set.mpr ?_ | with_reducible refine wp_par.mpr ?_ | with_reducible refine wp_setIx.mpr ?_ | with_reducible refine wp_forS.mpr ?_ | with_reducible refine wp_op.mpr ?_ | with_reducible refine wp_neg.mpr ?_ | with_reducible refine wp_is.mpr ?_ | with_reducible refine wp_isnt.mpr ?_ | with_reducible refine wp_tru.mpr ?_ | with_reducible refine wp_tst.mpr ?_ | with_reducible refine wp_and.mpr ?_ | with_reducible refine wp_or.mpr ?_ | with_reducible refine wp_not.mpr ?_ | with_reducible refine wp_andV.mpr ?_ | with_reducible refine wp_orV.mpr ?_ | with_reducible refine wp_notV.mpr ?_ | with_reducible refine wp_if.mpr ?_ | with_reducible refine wp_nil.mpr ?_ | with_reducible refine wp_cons.mpr ?_ | with_reducible refine wp_tup.mpr ?_ | with_reducible refine wp_lst.mpr ?_ | with_reducible refine wp_call.mpr ?_ | with_reducible refine wp_isi.mpr ?_ | with_reducible refine wp_isiT.mpr ?_ | with_reducible refine wp_part.mpr ?_ | with_reducible refine wp_sl.mpr ?_ | with_reducible refine wp_callF.mpr ?_ | with_reducible refine wp_callK.mpr ?_ | with_reducible refine wp_pure.mpr ?_ | with_reducible refine wp_put.mpr ?_ | with_reducible refine wp_rng1.mpr ?_ | with_reducible refine wp_rng2.mpr ?_ | with_reducible refine wp_itA.mpr ?_ | with_reducible refine wp_tname.mpr ?_ | ((with_reducible apply wp_dat); exact rfl) | ((with_reducible apply wp_ixN2); exact rfl) | refine yes ?_ | refine no ?_ | refine And.intro (Nat.le_of_ble_eq_true rfl) ?_ | refine And.intro (sz (Nat.le_of_ble_eq_true rfl)) ?_ | refine Exists.intro _ (And.intro (gEq_int _ _) ?_) | ((with_reducible apply ex_and); exact rfl) | ((with_reducible apply ex_bool); exact rfl) | ((with_reducible apply ex_int); exact rfl) | ((with_reducible refine And.intro ?_ ?_); exact rfl) | ((with_reducible refine And.intro ?_ ?_); exact ⟨rfl, rfl, rfl⟩) | ((with_reducible refine gvE (f := f__law_asked) ?_ (v_asked_x (v := x) (w := v2) hw (.inr px) (fun _ => ?_) (fun z => absurd (px.symm.trans z) (by decide)))); exact rfl) | ((with_reducible apply v_sameE); exact rfl) | (show (_ : D) = _; exact rfl) | (show sml _ = true; first | exact sml_num sx | exact rfl) | (show PyData.depth _ ≤ 11; first | exact depth_num dx | exact Nat.le_of_ble_eq_true rfl) | fail))
  have po : isPair (pr a b) = true := rfl
  have ask0 : ∀ {Q : D → List A → Prop}, Q (.tuple [.str "number", x]) [.und, .und, .und] → Gv f__law_asked [.dat (.int 0), .dat (pr a b), .dat x] Q := fun k => v_asked_x (.inl rfl) (.inl ⟨.inl rfl, po, px⟩) (fun z => absurd (po.symm.trans z) (by decide)) (fun _ => k)
  have ask1 : ∀ {Q : D → List A → Prop}, Q (.tuple [.str "number", x]) [.und, .und, .und] → Gv f__law_asked [.dat (.int 1), .dat (pr a b), .dat x] Q := fun k => v_asked_x (.inr (.inl rfl)) (.inl ⟨.inr rfl, po, px⟩) (fun z => absurd (po.symm.trans z) (by decide)) (fun _ => k)
  have last := q fd7 d2 (pr a b) (pr c d) (pr e f) (pr g h) x (.int way) (hf7.mono (by omega))
  rcases hw with rfl | rfl | rfl
  · (repeat' (first | with_reducible refine wp_seq.mpr ?_ | with_reducible refine wp_ret.mpr ?_ | with_reducible refine wp_retN.mpr ?_ | with_reducible refine wp_skip.mpr ?_ | with_reducible refine wp_brk.mpr ?_ | with_reducible refine wp_cnt.mpr ?_ | with_reducible refine wp_ifS.mpr ?_ | with_reducible refine wp_drop.mpr ?_ | with_reducible refine wp_set.mpr ?_ | with_reducible refine wp_par.mpr ?_ | with_reducible refine wp_setIx.mpr ?_ | with_reducible refine wp_forS.mpr ?_ | with_reducible refine wp_op.mpr ?_ | with_reducible refine wp_neg.mpr ?_ | with_reducible refine wp_is.mpr ?_ | with_reducible refine wp_isnt.mpr ?_ | with_reducible refine wp_tru.mpr ?_ | with_reducible refine wp_tst.mpr ?_ | with_reducible refine wp_and.mpr ?_ | with_reducible refine wp_or.mpr ?_ | with_reducible refine wp_not.mpr ?_ | with_reducible refine wp_andV.mpr ?_ | with_reducible refine wp_orV.mpr ?_ | with_reducible refine wp_notV.mpr ?_ | with_reducible refine wp_if.mpr ?_ | with_reducible refine wp_nil.mpr ?_ | with_reducible refine wp_cons.mpr ?_ | with_reducible refine wp_tup.mpr ?_ | with_reducible refine wp_lst.mpr ?_ | with_reducible refine wp_call.mpr ?_ | with_reducible refine wp_isi.mpr ?_ | with_reducible refine wp_isiT.mpr ?_ | with_reducible refine wp_part.mpr ?_ | with_reducible refine wp_sl.mpr ?_ | with_reducible refine wp_callF.mpr ?_ | with_reducible refine wp_callK.mpr ?_ | with_reducible refine wp_pure.mpr ?_ | with_reducible refine wp_put.mpr ?_ | with_reducible refine wp_rng1.mpr ?_ | with_reducible refine wp_rng2.mpr ?_ | with_reducible refine wp_itA.mpr ?_ | with_reducible refine wp_tname.mpr ?_ | ((with_reducible apply wp_dat); exact rfl) | ((with_reducible apply wp_ixN2); exact rfl) | refine yes ?_ | refine no ?_ | refine And.intro (Nat.le_of_ble_eq_true rfl) ?_ | refine And.intro (sz (Nat.le_of_ble_eq_true rfl)) ?_ | refine Exists.intro _ (And.intro (gEq_int _ _) ?_) | ((with_reducible apply ex_and); exact rfl) | ((with_reducible apply ex_bool); exact rfl) | ((with_reducible apply ex_int); exact rfl) | ((with_reducible refine And.intro ?_ ?_); exact rfl) | ((with_reducible refine And.intro ?_ ?_); exact ⟨rfl, rfl, rfl⟩) | ((with_reducible refine gvE (f := f__law_asked) ?_ (ask0 ?_)); exact rfl) | ((with_reducible apply v_sameE); exact rfl) | (show (_ : D) = _; exact rfl) | (show sml _ = true; first | exact sml_num sx | exact rfl) | (show PyData.depth _ ≤ 11; first | exact depth_num dx | exact Nat.le_of_ble_eq_true rfl) | fail))
    exact last
  · (repeat' (first | with_reducible refine wp_seq.mpr ?_ | with_reducible refine wp_ret.mpr ?_ | with_reducible refine wp_retN.mpr ?_ | with_reducible refine wp_skip.mpr ?_ | with_reducible refine wp_brk.mpr ?_ | with_reducible refine wp_cnt.mpr ?_ | with_reducible refine wp_ifS.mpr ?_ | with_reducible refine wp_drop.mpr ?_ | with_reducible refine wp_set.mpr ?_ | with_reducible refine wp_par.mpr ?_ | with_reducible refine wp_setIx.mpr ?_ | with_reducible refine wp_forS.mpr ?_ | with_reducible refine wp_op.mpr ?_ | with_reducible refine wp_neg.mpr ?_ | with_reducible refine wp_is.mpr ?_ | with_reducible refine wp_isnt.mpr ?_ | with_reducible refine wp_tru.mpr ?_ | with_reducible refine wp_tst.mpr ?_ | with_reducible refine wp_and.mpr ?_ | with_reducible refine wp_or.mpr ?_ | with_reducible refine wp_not.mpr ?_ | with_reducible refine wp_andV.mpr ?_ | with_reducible refine wp_orV.mpr ?_ | with_reducible refine wp_notV.mpr ?_ | with_reducible refine wp_if.mpr ?_ | with_reducible refine wp_nil.mpr ?_ | with_reducible refine wp_cons.mpr ?_ | with_reducible refine wp_tup.mpr ?_ | with_reducible refine wp_lst.mpr ?_ | with_reducible refine wp_call.mpr ?_ | with_reducible refine wp_isi.mpr ?_ | with_reducible refine wp_isiT.mpr ?_ | with_reducible refine wp_part.mpr ?_ | with_reducible refine wp_sl.mpr ?_ | with_reducible refine wp_callF.mpr ?_ | with_reducible refine wp_callK.mpr ?_ | with_reducible refine wp_pure.mpr ?_ | with_reducible refine wp_put.mpr ?_ | with_reducible refine wp_rng1.mpr ?_ | with_reducible refine wp_rng2.mpr ?_ | with_reducible refine wp_itA.mpr ?_ | with_reducible refine wp_tname.mpr ?_ | ((with_reducible apply wp_dat); exact rfl) | ((with_reducible apply wp_ixN2); exact rfl) | refine yes ?_ | refine no ?_ | refine And.intro (Nat.le_of_ble_eq_true rfl) ?_ | refine And.intro (sz (Nat.le_of_ble_eq_true rfl)) ?_ | refine Exists.intro _ (And.intro (gEq_int _ _) ?_) | ((with_reducible apply ex_and); exact rfl) | ((with_reducible apply ex_bool); exact rfl) | ((with_reducible apply ex_int); exact rfl) | ((with_reducible refine And.intro ?_ ?_); exact rfl) | ((with_reducible refine And.intro ?_ ?_); exact ⟨rfl, rfl, rfl⟩) | ((with_reducible refine gvE (f := f__law_asked) ?_ (ask1 ?_)); exact rfl) | ((with_reducible apply v_sameE); exact rfl) | (show (_ : D) = _; exact rfl) | (show sml _ = true; first | exact sml_num sx | exact rfl) | (show PyData.depth _ ≤ 11; first | exact depth_num dx | exact Nat.le_of_ble_eq_true rfl) | fail))
    exact last
  · (repeat' (first | with_reducible refine wp_seq.mpr ?_ | with_reducible refine wp_ret.mpr ?_ | with_reducible refine wp_retN.mpr ?_ | with_reducible refine wp_skip.mpr ?_ | with_reducible refine wp_brk.mpr ?_ | with_reducible refine wp_cnt.mpr ?_ | with_reducible refine wp_ifS.mpr ?_ | with_reducible refine wp_drop.mpr ?_ | with_reducible refine wp_set.mpr ?_ | with_reducible refine wp_par.mpr ?_ | with_reducible refine wp_setIx.mpr ?_ | with_reducible refine wp_forS.mpr ?_ | with_reducible refine wp_op.mpr ?_ | with_reducible refine wp_neg.mpr ?_ | with_reducible refine wp_is.mpr ?_ | with_reducible refine wp_isnt.mpr ?_ | with_reducible refine wp_tru.mpr ?_ | with_reducible refine wp_tst.mpr ?_ | with_reducible refine wp_and.mpr ?_ | with_reducible refine wp_or.mpr ?_ | with_reducible refine wp_not.mpr ?_ | with_reducible refine wp_andV.mpr ?_ | with_reducible refine wp_orV.mpr ?_ | with_reducible refine wp_notV.mpr ?_ | with_reducible refine wp_if.mpr ?_ | with_reducible refine wp_nil.mpr ?_ | with_reducible refine wp_cons.mpr ?_ | with_reducible refine wp_tup.mpr ?_ | with_reducible refine wp_lst.mpr ?_ | with_reducible refine wp_call.mpr ?_ | with_reducible refine wp_isi.mpr ?_ | with_reducible refine wp_isiT.mpr ?_ | with_reducible refine wp_part.mpr ?_ | with_reducible refine wp_sl.mpr ?_ | with_reducible refine wp_callF.mpr ?_ | with_reducible refine wp_callK.mpr ?_ | with_reducible refine wp_pure.mpr ?_ | with_reducible refine wp_put.mpr ?_ | with_reducible refine wp_rng1.mpr ?_ | with_reducible refine wp_rng2.mpr ?_ | with_reducible refine wp_itA.mpr ?_ | with_reducible refine wp_tname.mpr ?_ | ((with_reducible apply wp_dat); exact rfl) | ((with_reducible apply wp_ixN2); exact rfl) | refine yes ?_ | refine no ?_ | refine And.intro (Nat.le_of_ble_eq_true rfl) ?_ | refine And.intro (sz (Nat.le_of_ble_eq_true rfl)) ?_ | refine Exists.intro _ (And.intro (gEq_int _ _) ?_) | ((with_reducible apply ex_and); exact rfl) | ((with_reducible apply ex_bool); exact rfl) | ((with_reducible apply ex_int); exact rfl) | ((with_reducible refine And.intro ?_ ?_); exact rfl) | ((with_reducible refine And.intro ?_ ?_); exact ⟨rfl, rfl, rfl⟩) | fail))
    exact last

theorem body_dat {sc : A} {fd : List D} {n : Int} {d2 d3 d4 d5 d6 d7 d8 : D} (hf : FD n fd) (hn : n + 60 < 2 ^ 100) {R : Fl → List A → Prop} (q : ∀ fd' b2 b3 b4 b5 b6 b7 b8, FD (n + 60) fd' → R .nx [sc, .own none (.l fd'), .dat b2, .dat b3, .dat b4, .dat b5, .dat b6, .dat b7, .dat b8]) :
    Wp fb_body [sc, .own none (.l fd), .dat d2, .dat d3, .dat d4, .dat d5, .dat d6, .dat d7, .dat d8] R := by
  unfold fb_body
  (repeat' (first | with_reducible refine wp_seq.mpr ?_ | with_reducible refine wp_ret.mpr ?_ | with_reducible refine wp_retN.mpr ?_ | with_reducible refine wp_skip.mpr ?_ | with_reducible refine wp_brk.mpr ?_ | with_reducible refine wp_cnt.mpr ?_ | with_reducible refine wp_ifS.mpr ?_ | with_reducible refine wp_drop.mpr ?_ | with_reducible refine wp_set.mpr ?_ | with_reducible refine wp_par.mpr ?_ | with_reducible refine wp_setIx.mpr ?_ | with_reducible refine wp_forS.mpr ?_ | with_reducible refine wp_op.mpr ?_ | with_reducible refine wp_neg.mpr ?_ | with_reducible refine wp_is.mpr ?_ | with_reducible refine wp_isnt.mpr ?_ | with_reducible refine wp_tru.mpr ?_ | with_reducible refine wp_tst.mpr ?_ | with_reducible refine wp_and.mpr ?_ | with_reducible refine wp_or.mpr ?_ | with_reducible refine wp_not.mpr ?_ | with_reducible refine wp_andV.mpr ?_ | with_reducible refine wp_orV.mpr ?_ | with_reducible refine wp_notV.mpr ?_ | with_reducible refine wp_if.mpr ?_ | with_reducible refine wp_nil.mpr ?_ | with_reducible refine wp_cons.mpr ?_ | with_reducible refine wp_tup.mpr ?_ | with_reducible refine wp_lst.mpr ?_ | with_reducible refine wp_call.mpr ?_ | with_reducible refine wp_isi.mpr ?_ | with_reducible refine wp_isiT.mpr ?_ | with_reducible refine wp_part.mpr ?_ | with_reducible refine wp_sl.mpr ?_ | with_reducible refine wp_callF.mpr ?_ | with_reducible refine wp_callK.mpr ?_ | with_reducible refine wp_pure.mpr ?_ | with_reducible refine wp_put.mpr ?_ | with_reducible refine wp_rng1.mpr ?_ | with_reducible refine wp_rng2.mpr ?_ | with_reducible refine wp_itA.mpr ?_ | with_reducible refine wp_tname.mpr ?_ | ((with_reducible apply wp_dat); exact rfl) | ((with_reducible apply wp_ixN2); exact rfl) | refine yes ?_ | refine no ?_ | refine And.intro (Nat.le_of_ble_eq_true rfl) ?_ | refine And.intro (sz (Nat.le_of_ble_eq_true rfl)) ?_ | refine Exists.intro _ (And.intro (gEq_int _ _) ?_) | ((with_reducible apply ex_and); exact rfl) | ((with_reducible apply ex_bool); exact rfl) | ((with_reducible apply ex_int); exact rfl) | ((with_reducible refine And.intro ?_ ?_); exact rfl) | ((with_reducible refine And.intro ?_ ?_); exact ⟨rfl, rfl, rfl⟩) | fail))
  refine wp_lend (xs := []) rfl ?_ rfl ?_
  · (repeat' (first | with_reducible refine wp_seq.mpr ?_ | with_reducible refine wp_ret.mpr ?_ | with_reducible refine wp_retN.mpr ?_ | with_reducible refine wp_skip.mpr ?_ | with_reducible refine wp_brk.mpr ?_ | with_reducible refine wp_cnt.mpr ?_ | with_reducible refine wp_ifS.mpr ?_ | with_reducible refine wp_drop.mpr ?_ | with_reducible refine wp_set.mpr ?_ | with_reducible refine wp_par.mpr ?_ | with_reducible refine wp_setIx.mpr ?_ | with_reducible refine wp_forS.mpr ?_ | with_reducible refine wp_op.mpr ?_ | with_reducible refine wp_neg.mpr ?_ | with_reducible refine wp_is.mpr ?_ | with_reducible refine wp_isnt.mpr ?_ | with_reducible refine wp_tru.mpr ?_ | with_reducible refine wp_tst.mpr ?_ | with_reducible refine wp_and.mpr ?_ | with_reducible refine wp_or.mpr ?_ | with_reducible refine wp_not.mpr ?_ | with_reducible refine wp_andV.mpr ?_ | with_reducible refine wp_orV.mpr ?_ | with_reducible refine wp_notV.mpr ?_ | with_reducible refine wp_if.mpr ?_ | with_reducible refine wp_nil.mpr ?_ | with_reducible refine wp_cons.mpr ?_ | with_reducible refine wp_tup.mpr ?_ | with_reducible refine wp_lst.mpr ?_ | with_reducible refine wp_call.mpr ?_ | with_reducible refine wp_isi.mpr ?_ | with_reducible refine wp_isiT.mpr ?_ | with_reducible refine wp_part.mpr ?_ | with_reducible refine wp_sl.mpr ?_ | with_reducible refine wp_callF.mpr ?_ | with_reducible refine wp_callK.mpr ?_ | with_reducible refine wp_pure.mpr ?_ | with_reducible refine wp_put.mpr ?_ | with_reducible refine wp_rng1.mpr ?_ | with_reducible refine wp_rng2.mpr ?_ | with_reducible refine wp_itA.mpr ?_ | with_reducible refine wp_tname.mpr ?_ | ((with_reducible apply wp_dat); exact rfl) | ((with_reducible apply wp_ixN2); exact rfl) | refine yes ?_ | refine no ?_ | refine And.intro (Nat.le_of_ble_eq_true rfl) ?_ | refine And.intro (sz (Nat.le_of_ble_eq_true rfl)) ?_ | refine Exists.intro _ (And.intro (gEq_int _ _) ?_) | ((with_reducible apply ex_and); exact rfl) | ((with_reducible apply ex_bool); exact rfl) | ((with_reducible apply ex_int); exact rfl) | ((with_reducible refine And.intro ?_ ?_); exact rfl) | ((with_reducible refine And.intro ?_ ?_); exact ⟨rfl, rfl, rfl⟩) | fail))
    exact rfl
  refine v_number hf (by omega) fun x1 fd1 h1 hf1 => ?_
  refine ⟨_, _, rfl, ?_⟩
  (repeat' (first | with_reducible refine wp_seq.mpr ?_ | with_reducible refine wp_ret.mpr ?_ | with_reducible refine wp_retN.mpr ?_ | with_reducible refine wp_skip.mpr ?_ | with_reducible refine wp_brk.mpr ?_ | with_reducible refine wp_cnt.mpr ?_ | with_reducible refine wp_ifS.mpr ?_ | with_reducible refine wp_drop.mpr ?_ | with_reducible refine wp_set.mpr ?_ | with_reducible refine wp_par.mpr ?_ | with_reducible refine wp_setIx.mpr ?_ | with_reducible refine wp_forS.mpr ?_ | with_reducible refine wp_op.mpr ?_ | with_reducible refine wp_neg.mpr ?_ | with_reducible refine wp_is.mpr ?_ | with_reducible refine wp_isnt.mpr ?_ | with_reducible refine wp_tru.mpr ?_ | with_reducible refine wp_tst.mpr ?_ | with_reducible refine wp_and.mpr ?_ | with_reducible refine wp_or.mpr ?_ | with_reducible refine wp_not.mpr ?_ | with_reducible refine wp_andV.mpr ?_ | with_reducible refine wp_orV.mpr ?_ | with_reducible refine wp_notV.mpr ?_ | with_reducible refine wp_if.mpr ?_ | with_reducible refine wp_nil.mpr ?_ | with_reducible refine wp_cons.mpr ?_ | with_reducible refine wp_tup.mpr ?_ | with_reducible refine wp_lst.mpr ?_ | with_reducible refine wp_call.mpr ?_ | with_reducible refine wp_isi.mpr ?_ | with_reducible refine wp_isiT.mpr ?_ | with_reducible refine wp_part.mpr ?_ | with_reducible refine wp_sl.mpr ?_ | with_reducible refine wp_callF.mpr ?_ | with_reducible refine wp_callK.mpr ?_ | with_reducible refine wp_pure.mpr ?_ | with_reducible refine wp_put.mpr ?_ | with_reducible refine wp_rng1.mpr ?_ | with_reducible refine wp_rng2.mpr ?_ | with_reducible refine wp_itA.mpr ?_ | with_reducible refine wp_tname.mpr ?_ | ((with_reducible apply wp_dat); exact rfl) | ((with_reducible apply wp_ixN2); exact rfl) | refine yes ?_ | refine no ?_ | refine And.intro (Nat.le_of_ble_eq_true rfl) ?_ | refine And.intro (sz (Nat.le_of_ble_eq_true rfl)) ?_ | refine Exists.intro _ (And.intro (gEq_int _ _) ?_) | ((with_reducible apply ex_and); exact rfl) | ((with_reducible apply ex_bool); exact rfl) | ((with_reducible apply ex_int); exact rfl) | ((with_reducible refine And.intro ?_ ?_); exact rfl) | ((with_reducible refine And.intro ?_ ?_); exact ⟨rfl, rfl, rfl⟩) | fail))
  refine wp_lend (xs := []) rfl ?_ rfl ?_
  · (repeat' (first | with_reducible refine wp_seq.mpr ?_ | with_reducible refine wp_ret.mpr ?_ | with_reducible refine wp_retN.mpr ?_ | with_reducible refine wp_skip.mpr ?_ | with_reducible refine wp_brk.mpr ?_ | with_reducible refine wp_cnt.mpr ?_ | with_reducible refine wp_ifS.mpr ?_ | with_reducible refine wp_drop.mpr ?_ | with_reducible refine wp_set.mpr ?_ | with_reducible refine wp_par.mpr ?_ | with_reducible refine wp_setIx.mpr ?_ | with_reducible refine wp_forS.mpr ?_ | with_reducible refine wp_op.mpr ?_ | with_reducible refine wp_neg.mpr ?_ | with_reducible refine wp_is.mpr ?_ | with_reducible refine wp_isnt.mpr ?_ | with_reducible refine wp_tru.mpr ?_ | with_reducible refine wp_tst.mpr ?_ | with_reducible refine wp_and.mpr ?_ | with_reducible refine wp_or.mpr ?_ | with_reducible refine wp_not.mpr ?_ | with_reducible refine wp_andV.mpr ?_ | with_reducible refine wp_orV.mpr ?_ | with_reducible refine wp_notV.mpr ?_ | with_reducible refine wp_if.mpr ?_ | with_reducible refine wp_nil.mpr ?_ | with_reducible refine wp_cons.mpr ?_ | with_reducible refine wp_tup.mpr ?_ | with_reducible refine wp_lst.mpr ?_ | with_reducible refine wp_call.mpr ?_ | with_reducible refine wp_isi.mpr ?_ | with_reducible refine wp_isiT.mpr ?_ | with_reducible refine wp_part.mpr ?_ | with_reducible refine wp_sl.mpr ?_ | with_reducible refine wp_callF.mpr ?_ | with_reducible refine wp_callK.mpr ?_ | with_reducible refine wp_pure.mpr ?_ | with_reducible refine wp_put.mpr ?_ | with_reducible refine wp_rng1.mpr ?_ | with_reducible refine wp_rng2.mpr ?_ | with_reducible refine wp_itA.mpr ?_ | with_reducible refine wp_tname.mpr ?_ | ((with_reducible apply wp_dat); exact rfl) | ((with_reducible apply wp_ixN2); exact rfl) | refine yes ?_ | refine no ?_ | refine And.intro (Nat.le_of_ble_eq_true rfl) ?_ | refine And.intro (sz (Nat.le_of_ble_eq_true rfl)) ?_ | refine Exists.intro _ (And.intro (gEq_int _ _) ?_) | ((with_reducible apply ex_and); exact rfl) | ((with_reducible apply ex_bool); exact rfl) | ((with_reducible apply ex_int); exact rfl) | ((with_reducible refine And.intro ?_ ?_); exact rfl) | ((with_reducible refine And.intro ?_ ?_); exact ⟨rfl, rfl, rfl⟩) | fail))
    exact rfl
  refine v_number hf1 (by omega) fun x2 fd2 h2 hf2 => ?_
  refine ⟨_, _, rfl, ?_⟩
  (repeat' (first | with_reducible refine wp_seq.mpr ?_ | with_reducible refine wp_ret.mpr ?_ | with_reducible refine wp_retN.mpr ?_ | with_reducible refine wp_skip.mpr ?_ | with_reducible refine wp_brk.mpr ?_ | with_reducible refine wp_cnt.mpr ?_ | with_reducible refine wp_ifS.mpr ?_ | with_reducible refine wp_drop.mpr ?_ | with_reducible refine wp_set.mpr ?_ | with_reducible refine wp_par.mpr ?_ | with_reducible refine wp_setIx.mpr ?_ | with_reducible refine wp_forS.mpr ?_ | with_reducible refine wp_op.mpr ?_ | with_reducible refine wp_neg.mpr ?_ | with_reducible refine wp_is.mpr ?_ | with_reducible refine wp_isnt.mpr ?_ | with_reducible refine wp_tru.mpr ?_ | with_reducible refine wp_tst.mpr ?_ | with_reducible refine wp_and.mpr ?_ | with_reducible refine wp_or.mpr ?_ | with_reducible refine wp_not.mpr ?_ | with_reducible refine wp_andV.mpr ?_ | with_reducible refine wp_orV.mpr ?_ | with_reducible refine wp_notV.mpr ?_ | with_reducible refine wp_if.mpr ?_ | with_reducible refine wp_nil.mpr ?_ | with_reducible refine wp_cons.mpr ?_ | with_reducible refine wp_tup.mpr ?_ | with_reducible refine wp_lst.mpr ?_ | with_reducible refine wp_call.mpr ?_ | with_reducible refine wp_isi.mpr ?_ | with_reducible refine wp_isiT.mpr ?_ | with_reducible refine wp_part.mpr ?_ | with_reducible refine wp_sl.mpr ?_ | with_reducible refine wp_callF.mpr ?_ | with_reducible refine wp_callK.mpr ?_ | with_reducible refine wp_pure.mpr ?_ | with_reducible refine wp_put.mpr ?_ | with_reducible refine wp_rng1.mpr ?_ | with_reducible refine wp_rng2.mpr ?_ | with_reducible refine wp_itA.mpr ?_ | with_reducible refine wp_tname.mpr ?_ | ((with_reducible apply wp_dat); exact rfl) | ((with_reducible apply wp_ixN2); exact rfl) | refine yes ?_ | refine no ?_ | refine And.intro (Nat.le_of_ble_eq_true rfl) ?_ | refine And.intro (sz (Nat.le_of_ble_eq_true rfl)) ?_ | refine Exists.intro _ (And.intro (gEq_int _ _) ?_) | ((with_reducible apply ex_and); exact rfl) | ((with_reducible apply ex_bool); exact rfl) | ((with_reducible apply ex_int); exact rfl) | ((with_reducible refine And.intro ?_ ?_); exact rfl) | ((with_reducible refine And.intro ?_ ?_); exact ⟨rfl, rfl, rfl⟩) | fail))
  refine wp_lend (xs := []) rfl ?_ rfl ?_
  · (repeat' (first | with_reducible refine wp_seq.mpr ?_ | with_reducible refine wp_ret.mpr ?_ | with_reducible refine wp_retN.mpr ?_ | with_reducible refine wp_skip.mpr ?_ | with_reducible refine wp_brk.mpr ?_ | with_reducible refine wp_cnt.mpr ?_ | with_reducible refine wp_ifS.mpr ?_ | with_reducible refine wp_drop.mpr ?_ | with_reducible refine wp_set.mpr ?_ | with_reducible refine wp_par.mpr ?_ | with_reducible refine wp_setIx.mpr ?_ | with_reducible refine wp_forS.mpr ?_ | with_reducible refine wp_op.mpr ?_ | with_reducible refine wp_neg.mpr ?_ | with_reducible refine wp_is.mpr ?_ | with_reducible refine wp_isnt.mpr ?_ | with_reducible refine wp_tru.mpr ?_ | with_reducible refine wp_tst.mpr ?_ | with_reducible refine wp_and.mpr ?_ | with_reducible refine wp_or.mpr ?_ | with_reducible refine wp_not.mpr ?_ | with_reducible refine wp_andV.mpr ?_ | with_reducible refine wp_orV.mpr ?_ | with_reducible refine wp_notV.mpr ?_ | with_reducible refine wp_if.mpr ?_ | with_reducible refine wp_nil.mpr ?_ | with_reducible refine wp_cons.mpr ?_ | with_reducible refine wp_tup.mpr ?_ | with_reducible refine wp_lst.mpr ?_ | with_reducible refine wp_call.mpr ?_ | with_reducible refine wp_isi.mpr ?_ | with_reducible refine wp_isiT.mpr ?_ | with_reducible refine wp_part.mpr ?_ | with_reducible refine wp_sl.mpr ?_ | with_reducible refine wp_callF.mpr ?_ | with_reducible refine wp_callK.mpr ?_ | with_reducible refine wp_pure.mpr ?_ | with_reducible refine wp_put.mpr ?_ | with_reducible refine wp_rng1.mpr ?_ | with_reducible refine wp_rng2.mpr ?_ | with_reducible refine wp_itA.mpr ?_ | with_reducible refine wp_tname.mpr ?_ | ((with_reducible apply wp_dat); exact rfl) | ((with_reducible apply wp_ixN2); exact rfl) | refine yes ?_ | refine no ?_ | refine And.intro (Nat.le_of_ble_eq_true rfl) ?_ | refine And.intro (sz (Nat.le_of_ble_eq_true rfl)) ?_ | refine Exists.intro _ (And.intro (gEq_int _ _) ?_) | ((with_reducible apply ex_and); exact rfl) | ((with_reducible apply ex_bool); exact rfl) | ((with_reducible apply ex_int); exact rfl) | ((with_reducible refine And.intro ?_ ?_); exact rfl) | ((with_reducible refine And.intro ?_ ?_); exact ⟨rfl, rfl, rfl⟩) | fail))
    exact rfl
  refine v_number hf2 (by omega) fun x3 fd3 h3 hf3 => ?_
  refine ⟨_, _, rfl, ?_⟩
  obtain ⟨a, b, rfl, ha, hb⟩ := h1
  obtain ⟨c, d, rfl, hc, hd⟩ := h2
  obtain ⟨e, f, rfl, he, hf'⟩ := h3
  (repeat' (first | with_reducible refine wp_seq.mpr ?_ | with_reducible refine wp_ret.mpr ?_ | with_reducible refine wp_retN.mpr ?_ | with_reducible refine wp_skip.mpr ?_ | with_reducible refine wp_brk.mpr ?_ | with_reducible refine wp_cnt.mpr ?_ | with_reducible refine wp_ifS.mpr ?_ | with_reducible refine wp_drop.mpr ?_ | with_reducible refine wp_set.mpr ?_ | with_reducible refine wp_par.mpr ?_ | with_reducible refine wp_setIx.mpr ?_ | with_reducible refine wp_forS.mpr ?_ | with_reducible refine wp_op.mpr ?_ | with_reducible refine wp_neg.mpr ?_ | with_reducible refine wp_is.mpr ?_ | with_reducible refine wp_isnt.mpr ?_ | with_reducible refine wp_tru.mpr ?_ | with_reducible refine wp_tst.mpr ?_ | with_reducible refine wp_and.mpr ?_ | with_reducible refine wp_or.mpr ?_ | with_reducible refine wp_not.mpr ?_ | with_reducible refine wp_andV.mpr ?_ | with_reducible refine wp_orV.mpr ?_ | with_reducible refine wp_notV.mpr ?_ | with_reducible refine wp_if.mpr ?_ | with_reducible refine wp_nil.mpr ?_ | with_reducible refine wp_cons.mpr ?_ | with_reducible refine wp_tup.mpr ?_ | with_reducible refine wp_lst.mpr ?_ | with_reducible refine wp_call.mpr ?_ | with_reducible refine wp_isi.mpr ?_ | with_reducible refine wp_isiT.mpr ?_ | with_reducible refine wp_part.mpr ?_ | with_reducible refine wp_sl.mpr ?_ | with_reducible refine wp_callF.mpr ?_ | with_reducible refine wp_callK.mpr ?_ | with_reducible refine wp_pure.mpr ?_ | with_reducible refine wp_put.mpr ?_ | with_reducible refine wp_rng1.mpr ?_ | with_reducible refine wp_rng2.mpr ?_ | with_reducible refine wp_itA.mpr ?_ | with_reducible refine wp_tname.mpr ?_ | ((with_reducible apply wp_dat); exact rfl) | ((with_reducible apply wp_ixN2); exact rfl) | refine yes ?_ | refine no ?_ | refine And.intro (Nat.le_of_ble_eq_true rfl) ?_ | refine And.intro (sz (Nat.le_of_ble_eq_true rfl)) ?_ | refine Exists.intro _ (And.intro (gEq_int _ _) ?_) | ((with_reducible apply ex_and); exact rfl) | ((with_reducible apply ex_bool); exact rfl) | ((with_reducible apply ex_int); exact rfl) | ((with_reducible refine And.intro ?_ ?_); exact rfl) | ((with_reducible refine And.intro ?_ ?_); exact ⟨rfl, rfl, rfl⟩) | fail))
  refine wp_lend (xs := [.int 40]) rfl ?_ rfl ?_
  · (repeat' (first | with_reducible refine wp_seq.mpr ?_ | with_reducible refine wp_ret.mpr ?_ | with_reducible refine wp_retN.mpr ?_ | with_reducible refine wp_skip.mpr ?_ | with_reducible refine wp_brk.mpr ?_ | with_reducible refine wp_cnt.mpr ?_ | with_reducible refine wp_ifS.mpr ?_ | with_reducible refine wp_drop.mpr ?_ | with_reducible refine wp_set.mpr ?_ | with_reducible refine wp_par.mpr ?_ | with_reducible refine wp_setIx.mpr ?_ | with_reducible refine wp_forS.mpr ?_ | with_reducible refine wp_op.mpr ?_ | with_reducible refine wp_neg.mpr ?_ | with_reducible refine wp_is.mpr ?_ | with_reducible refine wp_isnt.mpr ?_ | with_reducible refine wp_tru.mpr ?_ | with_reducible refine wp_tst.mpr ?_ | with_reducible refine wp_and.mpr ?_ | with_reducible refine wp_or.mpr ?_ | with_reducible refine wp_not.mpr ?_ | with_reducible refine wp_andV.mpr ?_ | with_reducible refine wp_orV.mpr ?_ | with_reducible refine wp_notV.mpr ?_ | with_reducible refine wp_if.mpr ?_ | with_reducible refine wp_nil.mpr ?_ | with_reducible refine wp_cons.mpr ?_ | with_reducible refine wp_tup.mpr ?_ | with_reducible refine wp_lst.mpr ?_ | with_reducible refine wp_call.mpr ?_ | with_reducible refine wp_isi.mpr ?_ | with_reducible refine wp_isiT.mpr ?_ | with_reducible refine wp_part.mpr ?_ | with_reducible refine wp_sl.mpr ?_ | with_reducible refine wp_callF.mpr ?_ | with_reducible refine wp_callK.mpr ?_ | with_reducible refine wp_pure.mpr ?_ | with_reducible refine wp_put.mpr ?_ | with_reducible refine wp_rng1.mpr ?_ | with_reducible refine wp_rng2.mpr ?_ | with_reducible refine wp_itA.mpr ?_ | with_reducible refine wp_tname.mpr ?_ | ((with_reducible apply wp_dat); exact rfl) | ((with_reducible apply wp_ixN2); exact rfl) | refine yes ?_ | refine no ?_ | refine And.intro (Nat.le_of_ble_eq_true rfl) ?_ | refine And.intro (sz (Nat.le_of_ble_eq_true rfl)) ?_ | refine Exists.intro _ (And.intro (gEq_int _ _) ?_) | ((with_reducible apply ex_and); exact rfl) | ((with_reducible apply ex_bool); exact rfl) | ((with_reducible apply ex_int); exact rfl) | ((with_reducible refine And.intro ?_ ?_); exact rfl) | ((with_reducible refine And.intro ?_ ?_); exact ⟨rfl, rfl, rfl⟩) | fail))
    exact rfl
  refine v_near hf3 (by omega) (by decide) (by decide) fun x4 fd4 h4 hf4 => ?_
  refine ⟨_, _, rfl, ?_⟩
  obtain ⟨g, h, rfl, hg, hh⟩ := h4
  have G9 := hg.mono (show 43 ≤ 150 by decide)
  have H9 := hh.mono (show 43 ≤ 150 by decide)
  (repeat' (first | with_reducible refine wp_seq.mpr ?_ | with_reducible refine wp_ret.mpr ?_ | with_reducible refine wp_retN.mpr ?_ | with_reducible refine wp_skip.mpr ?_ | with_reducible refine wp_brk.mpr ?_ | with_reducible refine wp_cnt.mpr ?_ | with_reducible refine wp_ifS.mpr ?_ | with_reducible refine wp_drop.mpr ?_ | with_reducible refine wp_set.mpr ?_ | with_reducible refine wp_par.mpr ?_ | with_reducible refine wp_setIx.mpr ?_ | with_reducible refine wp_forS.mpr ?_ | with_reducible refine wp_op.mpr ?_ | with_reducible refine wp_neg.mpr ?_ | with_reducible refine wp_is.mpr ?_ | with_reducible refine wp_isnt.mpr ?_ | with_reducible refine wp_tru.mpr ?_ | with_reducible refine wp_tst.mpr ?_ | with_reducible refine wp_and.mpr ?_ | with_reducible refine wp_or.mpr ?_ | with_reducible refine wp_not.mpr ?_ | with_reducible refine wp_andV.mpr ?_ | with_reducible refine wp_orV.mpr ?_ | with_reducible refine wp_notV.mpr ?_ | with_reducible refine wp_if.mpr ?_ | with_reducible refine wp_nil.mpr ?_ | with_reducible refine wp_cons.mpr ?_ | with_reducible refine wp_tup.mpr ?_ | with_reducible refine wp_lst.mpr ?_ | with_reducible refine wp_call.mpr ?_ | with_reducible refine wp_isi.mpr ?_ | with_reducible refine wp_isiT.mpr ?_ | with_reducible refine wp_part.mpr ?_ | with_reducible refine wp_sl.mpr ?_ | with_reducible refine wp_callF.mpr ?_ | with_reducible refine wp_callK.mpr ?_ | with_reducible refine wp_pure.mpr ?_ | with_reducible refine wp_put.mpr ?_ | with_reducible refine wp_rng1.mpr ?_ | with_reducible refine wp_rng2.mpr ?_ | with_reducible refine wp_itA.mpr ?_ | with_reducible refine wp_tname.mpr ?_ | ((with_reducible apply wp_dat); exact rfl) | ((with_reducible apply wp_ixN2); exact rfl) | refine yes ?_ | refine no ?_ | refine And.intro (Nat.le_of_ble_eq_true rfl) ?_ | refine And.intro (sz (Nat.le_of_ble_eq_true rfl)) ?_ | refine Exists.intro _ (And.intro (gEq_int _ _) ?_) | ((with_reducible apply ex_and); exact rfl) | ((with_reducible apply ex_bool); exact rfl) | ((with_reducible apply ex_int); exact rfl) | ((with_reducible refine And.intro ?_ ?_); exact rfl) | ((with_reducible refine And.intro ?_ ?_); exact ⟨rfl, rfl, rfl⟩) | ((with_reducible refine gvE (f := f_sign) ?_ (v_sign150 G9 H9 ?_)); exact rfl) | ((with_reducible refine gvE (f := f__law_sign) ?_ (v_law_sign150 G9 H9 ?_)); exact rfl) | ((with_reducible apply v_sameE); exact rfl) | (show (_ : D) = _; exact rfl) | (show sml _ = true; exact rfl) | (show PyData.depth _ ≤ 11; exact Nat.le_of_ble_eq_true rfl) | ((with_reducible refine gvE (f := f__law_right) ?_ (v_right ha hb hc hd he hf' ?_)); exact rfl) | ((with_reducible refine gvE (f := f_is_number) ?_ (v_is_number (pr a b) ?_)); exact rfl) | ((with_reducible refine gvE (f := f_is_number) ?_ (v_is_number (pr c d) ?_)); exact rfl) | fail))
  refine wp_draw (many := 11) rfl ?_ hf4 (by omega) (by decide) (by decide) fun w fd5 w0 w1 hf5 => ?_
  · (repeat' (first | with_reducible refine wp_seq.mpr ?_ | with_reducible refine wp_ret.mpr ?_ | with_reducible refine wp_retN.mpr ?_ | with_reducible refine wp_skip.mpr ?_ | with_reducible refine wp_brk.mpr ?_ | with_reducible refine wp_cnt.mpr ?_ | with_reducible refine wp_ifS.mpr ?_ | with_reducible refine wp_drop.mpr ?_ | with_reducible refine wp_set.mpr ?_ | with_reducible refine wp_par.mpr ?_ | with_reducible refine wp_setIx.mpr ?_ | with_reducible refine wp_forS.mpr ?_ | with_reducible refine wp_op.mpr ?_ | with_reducible refine wp_neg.mpr ?_ | with_reducible refine wp_is.mpr ?_ | with_reducible refine wp_isnt.mpr ?_ | with_reducible refine wp_tru.mpr ?_ | with_reducible refine wp_tst.mpr ?_ | with_reducible refine wp_and.mpr ?_ | with_reducible refine wp_or.mpr ?_ | with_reducible refine wp_not.mpr ?_ | with_reducible refine wp_andV.mpr ?_ | with_reducible refine wp_orV.mpr ?_ | with_reducible refine wp_notV.mpr ?_ | with_reducible refine wp_if.mpr ?_ | with_reducible refine wp_nil.mpr ?_ | with_reducible refine wp_cons.mpr ?_ | with_reducible refine wp_tup.mpr ?_ | with_reducible refine wp_lst.mpr ?_ | with_reducible refine wp_call.mpr ?_ | with_reducible refine wp_isi.mpr ?_ | with_reducible refine wp_isiT.mpr ?_ | with_reducible refine wp_part.mpr ?_ | with_reducible refine wp_sl.mpr ?_ | with_reducible refine wp_callF.mpr ?_ | with_reducible refine wp_callK.mpr ?_ | with_reducible refine wp_pure.mpr ?_ | with_reducible refine wp_put.mpr ?_ | with_reducible refine wp_rng1.mpr ?_ | with_reducible refine wp_rng2.mpr ?_ | with_reducible refine wp_itA.mpr ?_ | with_reducible refine wp_tname.mpr ?_ | ((with_reducible apply wp_dat); exact rfl) | ((with_reducible apply wp_ixN2); exact rfl) | refine yes ?_ | refine no ?_ | refine And.intro (Nat.le_of_ble_eq_true rfl) ?_ | refine And.intro (sz (Nat.le_of_ble_eq_true rfl)) ?_ | refine Exists.intro _ (And.intro (gEq_int _ _) ?_) | ((with_reducible apply ex_and); exact rfl) | ((with_reducible apply ex_bool); exact rfl) | ((with_reducible apply ex_int); exact rfl) | ((with_reducible refine And.intro ?_ ?_); exact rfl) | ((with_reducible refine And.intro ?_ ?_); exact ⟨rfl, rfl, rfl⟩) | fail))
    exact rfl
  obtain ⟨x, hx, px, sx, dx⟩ := wrong_at w0 w1
  refine ex_and hx ?_
  (repeat' (first | with_reducible refine wp_seq.mpr ?_ | with_reducible refine wp_ret.mpr ?_ | with_reducible refine wp_retN.mpr ?_ | with_reducible refine wp_skip.mpr ?_ | with_reducible refine wp_brk.mpr ?_ | with_reducible refine wp_cnt.mpr ?_ | with_reducible refine wp_ifS.mpr ?_ | with_reducible refine wp_drop.mpr ?_ | with_reducible refine wp_set.mpr ?_ | with_reducible refine wp_par.mpr ?_ | with_reducible refine wp_setIx.mpr ?_ | with_reducible refine wp_forS.mpr ?_ | with_reducible refine wp_op.mpr ?_ | with_reducible refine wp_neg.mpr ?_ | with_reducible refine wp_is.mpr ?_ | with_reducible refine wp_isnt.mpr ?_ | with_reducible refine wp_tru.mpr ?_ | with_reducible refine wp_tst.mpr ?_ | with_reducible refine wp_and.mpr ?_ | with_reducible refine wp_or.mpr ?_ | with_reducible refine wp_not.mpr ?_ | with_reducible refine wp_andV.mpr ?_ | with_reducible refine wp_orV.mpr ?_ | with_reducible refine wp_notV.mpr ?_ | with_reducible refine wp_if.mpr ?_ | with_reducible refine wp_nil.mpr ?_ | with_reducible refine wp_cons.mpr ?_ | with_reducible refine wp_tup.mpr ?_ | with_reducible refine wp_lst.mpr ?_ | with_reducible refine wp_call.mpr ?_ | with_reducible refine wp_isi.mpr ?_ | with_reducible refine wp_isiT.mpr ?_ | with_reducible refine wp_part.mpr ?_ | with_reducible refine wp_sl.mpr ?_ | with_reducible refine wp_callF.mpr ?_ | with_reducible refine wp_callK.mpr ?_ | with_reducible refine wp_pure.mpr ?_ | with_reducible refine wp_put.mpr ?_ | with_reducible refine wp_rng1.mpr ?_ | with_reducible refine wp_rng2.mpr ?_ | with_reducible refine wp_itA.mpr ?_ | with_reducible refine wp_tname.mpr ?_ | ((with_reducible apply wp_dat); exact rfl) | ((with_reducible apply wp_ixN2); exact rfl) | refine yes ?_ | refine no ?_ | refine And.intro (Nat.le_of_ble_eq_true rfl) ?_ | refine And.intro (sz (Nat.le_of_ble_eq_true rfl)) ?_ | refine Exists.intro _ (And.intro (gEq_int _ _) ?_) | ((with_reducible apply ex_and); exact rfl) | ((with_reducible apply ex_bool); exact rfl) | ((with_reducible apply ex_int); exact rfl) | ((with_reducible refine And.intro ?_ ?_); exact rfl) | ((with_reducible refine And.intro ?_ ?_); exact ⟨rfl, rfl, rfl⟩) | ((with_reducible refine gvE (f := f_is_number) ?_ (v_is_number x ?_)); exact rfl) | (rw [px]) | fail))
  refine wp_draw (many := 3) rfl ?_ hf5 (by omega) (by decide) (by decide) fun way fd6 y0 y1 hf6 => ?_
  · (repeat' (first | with_reducible refine wp_seq.mpr ?_ | with_reducible refine wp_ret.mpr ?_ | with_reducible refine wp_retN.mpr ?_ | with_reducible refine wp_skip.mpr ?_ | with_reducible refine wp_brk.mpr ?_ | with_reducible refine wp_cnt.mpr ?_ | with_reducible refine wp_ifS.mpr ?_ | with_reducible refine wp_drop.mpr ?_ | with_reducible refine wp_set.mpr ?_ | with_reducible refine wp_par.mpr ?_ | with_reducible refine wp_setIx.mpr ?_ | with_reducible refine wp_forS.mpr ?_ | with_reducible refine wp_op.mpr ?_ | with_reducible refine wp_neg.mpr ?_ | with_reducible refine wp_is.mpr ?_ | with_reducible refine wp_isnt.mpr ?_ | with_reducible refine wp_tru.mpr ?_ | with_reducible refine wp_tst.mpr ?_ | with_reducible refine wp_and.mpr ?_ | with_reducible refine wp_or.mpr ?_ | with_reducible refine wp_not.mpr ?_ | with_reducible refine wp_andV.mpr ?_ | with_reducible refine wp_orV.mpr ?_ | with_reducible refine wp_notV.mpr ?_ | with_reducible refine wp_if.mpr ?_ | with_reducible refine wp_nil.mpr ?_ | with_reducible refine wp_cons.mpr ?_ | with_reducible refine wp_tup.mpr ?_ | with_reducible refine wp_lst.mpr ?_ | with_reducible refine wp_call.mpr ?_ | with_reducible refine wp_isi.mpr ?_ | with_reducible refine wp_isiT.mpr ?_ | with_reducible refine wp_part.mpr ?_ | with_reducible refine wp_sl.mpr ?_ | with_reducible refine wp_callF.mpr ?_ | with_reducible refine wp_callK.mpr ?_ | with_reducible refine wp_pure.mpr ?_ | with_reducible refine wp_put.mpr ?_ | with_reducible refine wp_rng1.mpr ?_ | with_reducible refine wp_rng2.mpr ?_ | with_reducible refine wp_itA.mpr ?_ | with_reducible refine wp_tname.mpr ?_ | ((with_reducible apply wp_dat); exact rfl) | ((with_reducible apply wp_ixN2); exact rfl) | refine yes ?_ | refine no ?_ | refine And.intro (Nat.le_of_ble_eq_true rfl) ?_ | refine And.intro (sz (Nat.le_of_ble_eq_true rfl)) ?_ | refine Exists.intro _ (And.intro (gEq_int _ _) ?_) | ((with_reducible apply ex_and); exact rfl) | ((with_reducible apply ex_bool); exact rfl) | ((with_reducible apply ex_int); exact rfl) | ((with_reducible refine And.intro ?_ ?_); exact rfl) | ((with_reducible refine And.intro ?_ ?_); exact ⟨rfl, rfl, rfl⟩) | fail))
    exact rfl
  have hw : way = 0 ∨ way = 1 ∨ way = 2 := by omega
  (repeat' (first | with_reducible refine wp_seq.mpr ?_ | with_reducible refine wp_ret.mpr ?_ | with_reducible refine wp_retN.mpr ?_ | with_reducible refine wp_skip.mpr ?_ | with_reducible refine wp_brk.mpr ?_ | with_reducible refine wp_cnt.mpr ?_ | with_reducible refine wp_ifS.mpr ?_ | with_reducible refine wp_drop.mpr ?_ | with_reducible refine wp_set.mpr ?_ | with_reducible refine wp_par.mpr ?_ | with_reducible refine wp_setIx.mpr ?_ | with_reducible refine wp_forS.mpr ?_ | with_reducible refine wp_op.mpr ?_ | with_reducible refine wp_neg.mpr ?_ | with_reducible refine wp_is.mpr ?_ | with_reducible refine wp_isnt.mpr ?_ | with_reducible refine wp_tru.mpr ?_ | with_reducible refine wp_tst.mpr ?_ | with_reducible refine wp_and.mpr ?_ | with_reducible refine wp_or.mpr ?_ | with_reducible refine wp_not.mpr ?_ | with_reducible refine wp_andV.mpr ?_ | with_reducible refine wp_orV.mpr ?_ | with_reducible refine wp_notV.mpr ?_ | with_reducible refine wp_if.mpr ?_ | with_reducible refine wp_nil.mpr ?_ | with_reducible refine wp_cons.mpr ?_ | with_reducible refine wp_tup.mpr ?_ | with_reducible refine wp_lst.mpr ?_ | with_reducible refine wp_call.mpr ?_ | with_reducible refine wp_isi.mpr ?_ | with_reducible refine wp_isiT.mpr ?_ | with_reducible refine wp_part.mpr ?_ | with_reducible refine wp_sl.mpr ?_ | with_reducible refine wp_callF.mpr ?_ | with_reducible refine wp_callK.mpr ?_ | with_reducible refine wp_pure.mpr ?_ | with_reducible refine wp_put.mpr ?_ | with_reducible refine wp_rng1.mpr ?_ | with_reducible refine wp_rng2.mpr ?_ | with_reducible refine wp_itA.mpr ?_ | with_reducible refine wp_tname.mpr ?_ | ((with_reducible apply wp_dat); exact rfl) | ((with_reducible apply wp_ixN2); exact rfl) | refine yes ?_ | refine no ?_ | refine And.intro (Nat.le_of_ble_eq_true rfl) ?_ | refine And.intro (sz (Nat.le_of_ble_eq_true rfl)) ?_ | refine Exists.intro _ (And.intro (gEq_int _ _) ?_) | ((with_reducible apply ex_and); exact rfl) | ((with_reducible apply ex_bool); exact rfl) | ((with_reducible apply ex_int); exact rfl) | ((with_reducible refine And.intro ?_ ?_); exact rfl) | ((with_reducible refine And.intro ?_ ?_); exact ⟨rfl, rfl, rfl⟩) | fail))
  refine wp_draw (many := 2) rfl ?_ hf6 (by omega) (by decide) (by decide) fun s fd7 s0 s1 hf7 => ?_
  · (repeat' (first | with_reducible refine wp_seq.mpr ?_ | with_reducible refine wp_ret.mpr ?_ | with_reducible refine wp_retN.mpr ?_ | with_reducible refine wp_skip.mpr ?_ | with_reducible refine wp_brk.mpr ?_ | with_reducible refine wp_cnt.mpr ?_ | with_reducible refine wp_ifS.mpr ?_ | with_reducible refine wp_drop.mpr ?_ | with_reducible refine wp_set.mpr ?_ | with_reducible refine wp_par.mpr ?_ | with_reducible refine wp_setIx.mpr ?_ | with_reducible refine wp_forS.mpr ?_ | with_reducible refine wp_op.mpr ?_ | with_reducible refine wp_neg.mpr ?_ | with_reducible refine wp_is.mpr ?_ | with_reducible refine wp_isnt.mpr ?_ | with_reducible refine wp_tru.mpr ?_ | with_reducible refine wp_tst.mpr ?_ | with_reducible refine wp_and.mpr ?_ | with_reducible refine wp_or.mpr ?_ | with_reducible refine wp_not.mpr ?_ | with_reducible refine wp_andV.mpr ?_ | with_reducible refine wp_orV.mpr ?_ | with_reducible refine wp_notV.mpr ?_ | with_reducible refine wp_if.mpr ?_ | with_reducible refine wp_nil.mpr ?_ | with_reducible refine wp_cons.mpr ?_ | with_reducible refine wp_tup.mpr ?_ | with_reducible refine wp_lst.mpr ?_ | with_reducible refine wp_call.mpr ?_ | with_reducible refine wp_isi.mpr ?_ | with_reducible refine wp_isiT.mpr ?_ | with_reducible refine wp_part.mpr ?_ | with_reducible refine wp_sl.mpr ?_ | with_reducible refine wp_callF.mpr ?_ | with_reducible refine wp_callK.mpr ?_ | with_reducible refine wp_pure.mpr ?_ | with_reducible refine wp_put.mpr ?_ | with_reducible refine wp_rng1.mpr ?_ | with_reducible refine wp_rng2.mpr ?_ | with_reducible refine wp_itA.mpr ?_ | with_reducible refine wp_tname.mpr ?_ | ((with_reducible apply wp_dat); exact rfl) | ((with_reducible apply wp_ixN2); exact rfl) | refine yes ?_ | refine no ?_ | refine And.intro (Nat.le_of_ble_eq_true rfl) ?_ | refine And.intro (sz (Nat.le_of_ble_eq_true rfl)) ?_ | refine Exists.intro _ (And.intro (gEq_int _ _) ?_) | ((with_reducible apply ex_and); exact rfl) | ((with_reducible apply ex_bool); exact rfl) | ((with_reducible apply ex_int); exact rfl) | ((with_reducible refine And.intro ?_ ?_); exact rfl) | ((with_reducible refine And.intro ?_ ?_); exact ⟨rfl, rfl, rfl⟩) | fail))
    exact rfl
  have hs : ∃ v2, gIx (.list [pr c d, .none]) (.int s) = some v2 := by
    have hs : s = 0 ∨ s = 1 := by omega
    rcases hs with rfl | rfl
    · exact ⟨_, rfl⟩
    · exact ⟨_, rfl⟩
  obtain ⟨v2, hv2⟩ := hs
  refine ex_and hv2 ?_
  (repeat' (first | with_reducible refine wp_seq.mpr ?_ | with_reducible refine wp_ret.mpr ?_ | with_reducible refine wp_retN.mpr ?_ | with_reducible refine wp_skip.mpr ?_ | with_reducible refine wp_brk.mpr ?_ | with_reducible refine wp_cnt.mpr ?_ | with_reducible refine wp_ifS.mpr ?_ | with_reducible refine wp_drop.mpr ?_ | with_reducible refine wp_set.mpr ?_ | with_reducible refine wp_par.mpr ?_ | with_reducible refine wp_setIx.mpr ?_ | with_reducible refine wp_forS.mpr ?_ | with_reducible refine wp_op.mpr ?_ | with_reducible refine wp_neg.mpr ?_ | with_reducible refine wp_is.mpr ?_ | with_reducible refine wp_isnt.mpr ?_ | with_reducible refine wp_tru.mpr ?_ | with_reducible refine wp_tst.mpr ?_ | with_reducible refine wp_and.mpr ?_ | with_reducible refine wp_or.mpr ?_ | with_reducible refine wp_not.mpr ?_ | with_reducible refine wp_andV.mpr ?_ | with_reducible refine wp_orV.mpr ?_ | with_reducible refine wp_notV.mpr ?_ | with_reducible refine wp_if.mpr ?_ | with_reducible refine wp_nil.mpr ?_ | with_reducible refine wp_cons.mpr ?_ | with_reducible refine wp_tup.mpr ?_ | with_reducible refine wp_lst.mpr ?_ | with_reducible refine wp_call.mpr ?_ | with_reducible refine wp_isi.mpr ?_ | with_reducible refine wp_isiT.mpr ?_ | with_reducible refine wp_part.mpr ?_ | with_reducible refine wp_sl.mpr ?_ | with_reducible refine wp_callF.mpr ?_ | with_reducible refine wp_callK.mpr ?_ | with_reducible refine wp_pure.mpr ?_ | with_reducible refine wp_put.mpr ?_ | with_reducible refine wp_rng1.mpr ?_ | with_reducible refine wp_rng2.mpr ?_ | with_reducible refine wp_itA.mpr ?_ | with_reducible refine wp_tname.mpr ?_ | ((with_reducible apply wp_dat); exact rfl) | ((with_reducible apply wp_ixN2); exact rfl) | refine yes ?_ | refine no ?_ | refine And.intro (Nat.le_of_ble_eq_true rfl) ?_ | refine And.intro (sz (Nat.le_of_ble_eq_true rfl)) ?_ | refine Exists.intro _ (And.intro (gEq_int _ _) ?_) | ((with_reducible apply ex_and); exact rfl) | ((with_reducible apply ex_bool); exact rfl) | ((with_reducible apply ex_int); exact rfl) | ((with_reducible refine And.intro ?_ ?_); exact rfl) | ((with_reducible refine And.intro ?_ ?_); exact ⟨rfl, rfl, rfl⟩) | ((with_reducible refine gvE (f := f__law_asked) ?_ (v_asked_x (v := x) (w := v2) hw (.inr px) (fun _ => ?_) (fun z => absurd (px.symm.trans z) (by decide)))); exact rfl) | ((with_reducible apply v_sameE); exact rfl) | (show (_ : D) = _; exact rfl) | (show sml _ = true; first | exact sml_num sx | exact rfl) | (show PyData.depth _ ≤ 11; first | exact depth_num dx | exact Nat.le_of_ble_eq_true rfl) | fail))
  have po : isPair (pr a b) = true := rfl
  have ask0 : ∀ {Q : D → List A → Prop}, Q (.tuple [.str "number", x]) [.und, .und, .und] → Gv f__law_asked [.dat (.int 0), .dat (pr a b), .dat x] Q := fun k => v_asked_x (.inl rfl) (.inl ⟨.inl rfl, po, px⟩) (fun z => absurd (po.symm.trans z) (by decide)) (fun _ => k)
  have ask1 : ∀ {Q : D → List A → Prop}, Q (.tuple [.str "number", x]) [.und, .und, .und] → Gv f__law_asked [.dat (.int 1), .dat (pr a b), .dat x] Q := fun k => v_asked_x (.inr (.inl rfl)) (.inl ⟨.inr rfl, po, px⟩) (fun z => absurd (po.symm.trans z) (by decide)) (fun _ => k)
  have last := q fd7 d2 (pr a b) (pr c d) (pr e f) (pr g h) x (.int way) (hf7.mono (by omega))
  rcases hw with rfl | rfl | rfl
  · (repeat' (first | with_reducible refine wp_seq.mpr ?_ | with_reducible refine wp_ret.mpr ?_ | with_reducible refine wp_retN.mpr ?_ | with_reducible refine wp_skip.mpr ?_ | with_reducible refine wp_brk.mpr ?_ | with_reducible refine wp_cnt.mpr ?_ | with_reducible refine wp_ifS.mpr ?_ | with_reducible refine wp_drop.mpr ?_ | with_reducible refine wp_set.mpr ?_ | with_reducible refine wp_par.mpr ?_ | with_reducible refine wp_setIx.mpr ?_ | with_reducible refine wp_forS.mpr ?_ | with_reducible refine wp_op.mpr ?_ | with_reducible refine wp_neg.mpr ?_ | with_reducible refine wp_is.mpr ?_ | with_reducible refine wp_isnt.mpr ?_ | with_reducible refine wp_tru.mpr ?_ | with_reducible refine wp_tst.mpr ?_ | with_reducible refine wp_and.mpr ?_ | with_reducible refine wp_or.mpr ?_ | with_reducible refine wp_not.mpr ?_ | with_reducible refine wp_andV.mpr ?_ | with_reducible refine wp_orV.mpr ?_ | with_reducible refine wp_notV.mpr ?_ | with_reducible refine wp_if.mpr ?_ | with_reducible refine wp_nil.mpr ?_ | with_reducible refine wp_cons.mpr ?_ | with_reducible refine wp_tup.mpr ?_ | with_reducible refine wp_lst.mpr ?_ | with_reducible refine wp_call.mpr ?_ | with_reducible refine wp_isi.mpr ?_ | with_reducible refine wp_isiT.mpr ?_ | with_reducible refine wp_part.mpr ?_ | with_reducible refine wp_sl.mpr ?_ | with_reducible refine wp_callF.mpr ?_ | with_reducible refine wp_callK.mpr ?_ | with_reducible refine wp_pure.mpr ?_ | with_reducible refine wp_put.mpr ?_ | with_reducible refine wp_rng1.mpr ?_ | with_reducible refine wp_rng2.mpr ?_ | with_reducible refine wp_itA.mpr ?_ | with_reducible refine wp_tname.mpr ?_ | ((with_reducible apply wp_dat); exact rfl) | ((with_reducible apply wp_ixN2); exact rfl) | refine yes ?_ | refine no ?_ | refine And.intro (Nat.le_of_ble_eq_true rfl) ?_ | refine And.intro (sz (Nat.le_of_ble_eq_true rfl)) ?_ | refine Exists.intro _ (And.intro (gEq_int _ _) ?_) | ((with_reducible apply ex_and); exact rfl) | ((with_reducible apply ex_bool); exact rfl) | ((with_reducible apply ex_int); exact rfl) | ((with_reducible refine And.intro ?_ ?_); exact rfl) | ((with_reducible refine And.intro ?_ ?_); exact ⟨rfl, rfl, rfl⟩) | ((with_reducible refine gvE (f := f__law_asked) ?_ (ask0 ?_)); exact rfl) | ((with_reducible apply v_sameE); exact rfl) | (show (_ : D) = _; exact rfl) | (show sml _ = true; first | exact sml_num sx | exact rfl) | (show PyData.depth _ ≤ 11; first | exact depth_num dx | exact Nat.le_of_ble_eq_true rfl) | fail))
    exact last
  · (repeat' (first | with_reducible refine wp_seq.mpr ?_ | with_reducible refine wp_ret.mpr ?_ | with_reducible refine wp_retN.mpr ?_ | with_reducible refine wp_skip.mpr ?_ | with_reducible refine wp_brk.mpr ?_ | with_reducible refine wp_cnt.mpr ?_ | with_reducible refine wp_ifS.mpr ?_ | with_reducible refine wp_drop.mpr ?_ | with_reducible refine wp_set.mpr ?_ | with_reducible refine wp_par.mpr ?_ | with_reducible refine wp_setIx.mpr ?_ | with_reducible refine wp_forS.mpr ?_ | with_reducible refine wp_op.mpr ?_ | with_reducible refine wp_neg.mpr ?_ | with_reducible refine wp_is.mpr ?_ | with_reducible refine wp_isnt.mpr ?_ | with_reducible refine wp_tru.mpr ?_ | with_reducible refine wp_tst.mpr ?_ | with_reducible refine wp_and.mpr ?_ | with_reducible refine wp_or.mpr ?_ | with_reducible refine wp_not.mpr ?_ | with_reducible refine wp_andV.mpr ?_ | with_reducible refine wp_orV.mpr ?_ | with_reducible refine wp_notV.mpr ?_ | with_reducible refine wp_if.mpr ?_ | with_reducible refine wp_nil.mpr ?_ | with_reducible refine wp_cons.mpr ?_ | with_reducible refine wp_tup.mpr ?_ | with_reducible refine wp_lst.mpr ?_ | with_reducible refine wp_call.mpr ?_ | with_reducible refine wp_isi.mpr ?_ | with_reducible refine wp_isiT.mpr ?_ | with_reducible refine wp_part.mpr ?_ | with_reducible refine wp_sl.mpr ?_ | with_reducible refine wp_callF.mpr ?_ | with_reducible refine wp_callK.mpr ?_ | with_reducible refine wp_pure.mpr ?_ | with_reducible refine wp_put.mpr ?_ | with_reducible refine wp_rng1.mpr ?_ | with_reducible refine wp_rng2.mpr ?_ | with_reducible refine wp_itA.mpr ?_ | with_reducible refine wp_tname.mpr ?_ | ((with_reducible apply wp_dat); exact rfl) | ((with_reducible apply wp_ixN2); exact rfl) | refine yes ?_ | refine no ?_ | refine And.intro (Nat.le_of_ble_eq_true rfl) ?_ | refine And.intro (sz (Nat.le_of_ble_eq_true rfl)) ?_ | refine Exists.intro _ (And.intro (gEq_int _ _) ?_) | ((with_reducible apply ex_and); exact rfl) | ((with_reducible apply ex_bool); exact rfl) | ((with_reducible apply ex_int); exact rfl) | ((with_reducible refine And.intro ?_ ?_); exact rfl) | ((with_reducible refine And.intro ?_ ?_); exact ⟨rfl, rfl, rfl⟩) | ((with_reducible refine gvE (f := f__law_asked) ?_ (ask1 ?_)); exact rfl) | ((with_reducible apply v_sameE); exact rfl) | (show (_ : D) = _; exact rfl) | (show sml _ = true; first | exact sml_num sx | exact rfl) | (show PyData.depth _ ≤ 11; first | exact depth_num dx | exact Nat.le_of_ble_eq_true rfl) | fail))
    exact last
  · (repeat' (first | with_reducible refine wp_seq.mpr ?_ | with_reducible refine wp_ret.mpr ?_ | with_reducible refine wp_retN.mpr ?_ | with_reducible refine wp_skip.mpr ?_ | with_reducible refine wp_brk.mpr ?_ | with_reducible refine wp_cnt.mpr ?_ | with_reducible refine wp_ifS.mpr ?_ | with_reducible refine wp_drop.mpr ?_ | with_reducible refine wp_set.mpr ?_ | with_reducible refine wp_par.mpr ?_ | with_reducible refine wp_setIx.mpr ?_ | with_reducible refine wp_forS.mpr ?_ | with_reducible refine wp_op.mpr ?_ | with_reducible refine wp_neg.mpr ?_ | with_reducible refine wp_is.mpr ?_ | with_reducible refine wp_isnt.mpr ?_ | with_reducible refine wp_tru.mpr ?_ | with_reducible refine wp_tst.mpr ?_ | with_reducible refine wp_and.mpr ?_ | with_reducible refine wp_or.mpr ?_ | with_reducible refine wp_not.mpr ?_ | with_reducible refine wp_andV.mpr ?_ | with_reducible refine wp_orV.mpr ?_ | with_reducible refine wp_notV.mpr ?_ | with_reducible refine wp_if.mpr ?_ | with_reducible refine wp_nil.mpr ?_ | with_reducible refine wp_cons.mpr ?_ | with_reducible refine wp_tup.mpr ?_ | with_reducible refine wp_lst.mpr ?_ | with_reducible refine wp_call.mpr ?_ | with_reducible refine wp_isi.mpr ?_ | with_reducible refine wp_isiT.mpr ?_ | with_reducible refine wp_part.mpr ?_ | with_reducible refine wp_sl.mpr ?_ | with_reducible refine wp_callF.mpr ?_ | with_reducible refine wp_callK.mpr ?_ | with_reducible refine wp_pure.mpr ?_ | with_reducible refine wp_put.mpr ?_ | with_reducible refine wp_rng1.mpr ?_ | with_reducible refine wp_rng2.mpr ?_ | with_reducible refine wp_itA.mpr ?_ | with_reducible refine wp_tname.mpr ?_ | ((with_reducible apply wp_dat); exact rfl) | ((with_reducible apply wp_ixN2); exact rfl) | refine yes ?_ | refine no ?_ | refine And.intro (Nat.le_of_ble_eq_true rfl) ?_ | refine And.intro (sz (Nat.le_of_ble_eq_true rfl)) ?_ | refine Exists.intro _ (And.intro (gEq_int _ _) ?_) | ((with_reducible apply ex_and); exact rfl) | ((with_reducible apply ex_bool); exact rfl) | ((with_reducible apply ex_int); exact rfl) | ((with_reducible refine And.intro ?_ ?_); exact rfl) | ((with_reducible refine And.intro ?_ ?_); exact ⟨rfl, rfl, rfl⟩) | fail))
    exact last
end Hd

set_option maxHeartbeats 4000000
namespace Hd
open PySem PySem.Spec PyProof.Rows L2 L2.DL
theorem bd_lit (x : Int) (h : x.natAbs < 8 := by decide) : Bd 150 x := by
  unfold Bd
  exact Nat.lt_trans h (by decide)
theorem ends : PyData.list [.int (sgP (2 * 0 + 0) 0), .int (sgP (2 * 1 + 0) 0), .int (sgP (2 * (-3) + 2) 2), .int (sgP (2 * 5 + -3) (-3))] = .list [.int 0, .int 1, .int 1, .int 1] := by
  have e1 : sgP (2 * 0 + 0) 0 = 0 := by decide +kernel
  have e2 : sgP (2 * 1 + 0) 0 = 1 := by decide +kernel
  have e3 : sgP (2 * (-3) + 2) 2 = 1 := by decide +kernel
  have e4 : sgP (2 * 5 + -3) (-3) = 1 := by decide +kernel
  rw [e1, e2, e3, e4]
theorem v_law (ns : List Int) (h : ns.length ≤ 63) : Wp fb_law (.und :: .own none (.l [.list (ns.map .int), .int 0, .int 0]) :: List.replicate (9 - 2) .und) fun fl _ => fl = .rt (.bool true) := by
  have s1 := bd_lit 0
  have s2 := bd_lit 1
  have s3 := bd_lit (-3)
  have s4 := bd_lit 2
  have s5 := bd_lit 5
  unfold fb_law
  refine wp_seq.mpr (wp_forS.mpr ?_)
  (repeat' (first | with_reducible refine ex_and (grng1_lt (v := 6) (by decide) (by decide)) ?_ | with_reducible refine wp_seq.mpr ?_ | with_reducible refine wp_ret.mpr ?_ | with_reducible refine wp_retN.mpr ?_ | with_reducible refine wp_skip.mpr ?_ | with_reducible refine wp_brk.mpr ?_ | with_reducible refine wp_cnt.mpr ?_ | with_reducible refine wp_ifS.mpr ?_ | with_reducible refine wp_drop.mpr ?_ | with_reducible refine wp_set.mpr ?_ | with_reducible refine wp_par.mpr ?_ | with_reducible refine wp_setIx.mpr ?_ | with_reducible refine wp_forS.mpr ?_ | with_reducible refine wp_op.mpr ?_ | with_reducible refine wp_neg.mpr ?_ | with_reducible refine wp_is.mpr ?_ | with_reducible refine wp_isnt.mpr ?_ | with_reducible refine wp_tru.mpr ?_ | with_reducible refine wp_tst.mpr ?_ | with_reducible refine wp_and.mpr ?_ | with_reducible refine wp_or.mpr ?_ | with_reducible refine wp_not.mpr ?_ | with_reducible refine wp_andV.mpr ?_ | with_reducible refine wp_orV.mpr ?_ | with_reducible refine wp_notV.mpr ?_ | with_reducible refine wp_if.mpr ?_ | with_reducible refine wp_nil.mpr ?_ | with_reducible refine wp_cons.mpr ?_ | with_reducible refine wp_tup.mpr ?_ | with_reducible refine wp_lst.mpr ?_ | with_reducible refine wp_call.mpr ?_ | with_reducible refine wp_isi.mpr ?_ | with_reducible refine wp_isiT.mpr ?_ | with_reducible refine wp_part.mpr ?_ | with_reducible refine wp_sl.mpr ?_ | with_reducible refine wp_callF.mpr ?_ | with_reducible refine wp_callK.mpr ?_ | with_reducible refine wp_pure.mpr ?_ | with_reducible refine wp_put.mpr ?_ | with_reducible refine wp_rng1.mpr ?_ | with_reducible refine wp_rng2.mpr ?_ | with_reducible refine wp_itA.mpr ?_ | with_reducible refine wp_tname.mpr ?_ | ((with_reducible apply wp_dat); exact rfl) | ((with_reducible apply wp_ixN2); exact rfl) | refine yes ?_ | refine no ?_ | refine And.intro (Nat.le_of_ble_eq_true rfl) ?_ | refine And.intro (sz (Nat.le_of_ble_eq_true rfl)) ?_ | refine Exists.intro _ (And.intro (gEq_int _ _) ?_) | ((with_reducible apply ex_and); exact rfl) | ((with_reducible apply ex_bool); exact rfl) | ((with_reducible apply ex_int); exact rfl) | ((with_reducible refine And.intro ?_ ?_); exact rfl) | ((with_reducible refine And.intro ?_ ?_); exact ⟨rfl, rfl, rfl⟩) | fail))
  refine wp_for (fun ds ρ => ∃ fd n, FD n fd ∧ n + 60 * ds.length ≤ 360 ∧ (ρ = [.und, .own none (.l fd), .und, .und, .und, .und, .und, .und, .und] ∨ ∃ d2 d3 d4 d5 d6 d7 d8, ρ = [.und, .own none (.l fd), .dat d2, .dat d3, .dat d4, .dat d5, .dat d6, .dat d7, .dat d8])) ?_ ?_ _ _ ?_
  · rintro d ds ρ ⟨fd, n, hf, hn, h1 | ⟨d2, d3, d4, d5, d6, d7, d8, h1⟩⟩
    · subst h1
      refine wp_tname.mpr ⟨rfl, ?_⟩
      refine body_und (d2 := d) hf (by simp at hn; omega) fun fd' b2 b3 b4 b5 b6 b7 b8 hf' => ?_
      exact ⟨fd', n + 60, hf', by simp at hn; omega, .inr ⟨b2, b3, b4, b5, b6, b7, b8, rfl⟩⟩
    · subst h1
      refine wp_tname.mpr ⟨rfl, ?_⟩
      refine body_dat (d2 := d) hf (by simp at hn; omega) fun fd' b2 b3 b4 b5 b6 b7 b8 hf' => ?_
      exact ⟨fd', n + 60, hf', by simp at hn; omega, .inr ⟨b2, b3, b4, b5, b6, b7, b8, rfl⟩⟩
  · rintro ρ ⟨fd, n, hf, hn, h1 | ⟨d2, d3, d4, d5, d6, d7, d8, h1⟩⟩
    · subst h1
      (repeat' (first | with_reducible refine wp_seq.mpr ?_ | with_reducible refine wp_ret.mpr ?_ | with_reducible refine wp_retN.mpr ?_ | with_reducible refine wp_skip.mpr ?_ | with_reducible refine wp_brk.mpr ?_ | with_reducible refine wp_cnt.mpr ?_ | with_reducible refine wp_ifS.mpr ?_ | with_reducible refine wp_drop.mpr ?_ | with_reducible refine wp_set.mpr ?_ | with_reducible refine wp_par.mpr ?_ | with_reducible refine wp_setIx.mpr ?_ | with_reducible refine wp_forS.mpr ?_ | with_reducible refine wp_op.mpr ?_ | with_reducible refine wp_neg.mpr ?_ | with_reducible refine wp_is.mpr ?_ | with_reducible refine wp_isnt.mpr ?_ | with_reducible refine wp_tru.mpr ?_ | with_reducible refine wp_tst.mpr ?_ | with_reducible refine wp_and.mpr ?_ | with_reducible refine wp_or.mpr ?_ | with_reducible refine wp_not.mpr ?_ | with_reducible refine wp_andV.mpr ?_ | with_reducible refine wp_orV.mpr ?_ | with_reducible refine wp_notV.mpr ?_ | with_reducible refine wp_if.mpr ?_ | with_reducible refine wp_nil.mpr ?_ | with_reducible refine wp_cons.mpr ?_ | with_reducible refine wp_tup.mpr ?_ | with_reducible refine wp_lst.mpr ?_ | with_reducible refine wp_call.mpr ?_ | with_reducible refine wp_isi.mpr ?_ | with_reducible refine wp_isiT.mpr ?_ | with_reducible refine wp_part.mpr ?_ | with_reducible refine wp_sl.mpr ?_ | with_reducible refine wp_callF.mpr ?_ | with_reducible refine wp_callK.mpr ?_ | with_reducible refine wp_pure.mpr ?_ | with_reducible refine wp_put.mpr ?_ | with_reducible refine wp_rng1.mpr ?_ | with_reducible refine wp_rng2.mpr ?_ | with_reducible refine wp_itA.mpr ?_ | with_reducible refine wp_tname.mpr ?_ | ((with_reducible apply wp_dat); exact rfl) | ((with_reducible apply wp_ixN2); exact rfl) | refine yes ?_ | refine no ?_ | refine And.intro (Nat.le_of_ble_eq_true rfl) ?_ | refine And.intro (sz (Nat.le_of_ble_eq_true rfl)) ?_ | refine Exists.intro _ (And.intro (gEq_int _ _) ?_) | ((with_reducible apply ex_and); exact rfl) | ((with_reducible apply ex_bool); exact rfl) | ((with_reducible apply ex_int); exact rfl) | ((with_reducible refine And.intro ?_ ?_); exact rfl) | ((with_reducible refine And.intro ?_ ?_); exact ⟨rfl, rfl, rfl⟩) | ((with_reducible refine gvE (f := f_sign) ?_ (v_sign150 s1 s1 ?_)); exact rfl) | ((with_reducible refine gvE (f := f_sign) ?_ (v_sign150 s2 s1 ?_)); exact rfl) | ((with_reducible refine gvE (f := f_sign) ?_ (v_sign150 s3 s4 ?_)); exact rfl) | ((with_reducible refine gvE (f := f_sign) ?_ (v_sign150 s5 s3 ?_)); exact rfl) | ((with_reducible refine gvE (f := f__law_same) ?_ (v_same ends rfl (Nat.le_of_ble_eq_true rfl) ?_)); exact rfl) | fail))
      exact rfl
    · subst h1
      (repeat' (first | with_reducible refine wp_seq.mpr ?_ | with_reducible refine wp_ret.mpr ?_ | with_reducible refine wp_retN.mpr ?_ | with_reducible refine wp_skip.mpr ?_ | with_reducible refine wp_brk.mpr ?_ | with_reducible refine wp_cnt.mpr ?_ | with_reducible refine wp_ifS.mpr ?_ | with_reducible refine wp_drop.mpr ?_ | with_reducible refine wp_set.mpr ?_ | with_reducible refine wp_par.mpr ?_ | with_reducible refine wp_setIx.mpr ?_ | with_reducible refine wp_forS.mpr ?_ | with_reducible refine wp_op.mpr ?_ | with_reducible refine wp_neg.mpr ?_ | with_reducible refine wp_is.mpr ?_ | with_reducible refine wp_isnt.mpr ?_ | with_reducible refine wp_tru.mpr ?_ | with_reducible refine wp_tst.mpr ?_ | with_reducible refine wp_and.mpr ?_ | with_reducible refine wp_or.mpr ?_ | with_reducible refine wp_not.mpr ?_ | with_reducible refine wp_andV.mpr ?_ | with_reducible refine wp_orV.mpr ?_ | with_reducible refine wp_notV.mpr ?_ | with_reducible refine wp_if.mpr ?_ | with_reducible refine wp_nil.mpr ?_ | with_reducible refine wp_cons.mpr ?_ | with_reducible refine wp_tup.mpr ?_ | with_reducible refine wp_lst.mpr ?_ | with_reducible refine wp_call.mpr ?_ | with_reducible refine wp_isi.mpr ?_ | with_reducible refine wp_isiT.mpr ?_ | with_reducible refine wp_part.mpr ?_ | with_reducible refine wp_sl.mpr ?_ | with_reducible refine wp_callF.mpr ?_ | with_reducible refine wp_callK.mpr ?_ | with_reducible refine wp_pure.mpr ?_ | with_reducible refine wp_put.mpr ?_ | with_reducible refine wp_rng1.mpr ?_ | with_reducible refine wp_rng2.mpr ?_ | with_reducible refine wp_itA.mpr ?_ | with_reducible refine wp_tname.mpr ?_ | ((with_reducible apply wp_dat); exact rfl) | ((with_reducible apply wp_ixN2); exact rfl) | refine yes ?_ | refine no ?_ | refine And.intro (Nat.le_of_ble_eq_true rfl) ?_ | refine And.intro (sz (Nat.le_of_ble_eq_true rfl)) ?_ | refine Exists.intro _ (And.intro (gEq_int _ _) ?_) | ((with_reducible apply ex_and); exact rfl) | ((with_reducible apply ex_bool); exact rfl) | ((with_reducible apply ex_int); exact rfl) | ((with_reducible refine And.intro ?_ ?_); exact rfl) | ((with_reducible refine And.intro ?_ ?_); exact ⟨rfl, rfl, rfl⟩) | ((with_reducible refine gvE (f := f_sign) ?_ (v_sign150 s1 s1 ?_)); exact rfl) | ((with_reducible refine gvE (f := f_sign) ?_ (v_sign150 s2 s1 ?_)); exact rfl) | ((with_reducible refine gvE (f := f_sign) ?_ (v_sign150 s3 s4 ?_)); exact rfl) | ((with_reducible refine gvE (f := f_sign) ?_ (v_sign150 s5 s3 ?_)); exact rfl) | ((with_reducible refine gvE (f := f__law_same) ?_ (v_same ends rfl (Nat.le_of_ble_eq_true rfl) ?_)); exact rfl) | fail))
      exact rfl
  · exact ⟨_, 0, ⟨ns, 0, 0, rfl, h, by decide, by decide⟩, by simp [rngL], .inl rfl⟩
theorem law_says {K : PySem.W.Frag} {H : Hp} {p : Addr} (ns : List Int) (h : ns.length ≤ 63) (hs : SqL K H p (ns.map V.int)) {E : XK} : spLawD K 9 fb_law [.ref p] H (fun v _ => v = .bl true) E := by
  obtain ⟨fl, ρ', e, rfl⟩ := v_law ns h
  exact ⟨p, ns, ρ', rfl, h, hs, e, fun _ => rfl⟩
end Hd
open PySem PySem.W PySem.Calls PyProof.Rows
theorem PySem.Challenge.cw_wholemirrors_k01_numbers_holds : PySem.Challenge.rw_wholemirrors_k01_numbers.Holds := by
  w_on; o_law
  refine HandSHeadRun.head_any (r := OpenLaw.row PySem.Challenge.rw_wholemirrors_k01_numbers) (q := view (OpenLaw.row PySem.Challenge.rw_wholemirrors_k01_numbers).prog [26]) (H := Hd.hk) (ob := Hd.ob) (M := 3000) (loose := Hd.loose) (d := HandSHeadRun.topDef (OpenLaw.row PySem.Challenge.rw_wholemirrors_k01_numbers).prog 26) (kwd := []) Hd.ob_eq
    (by kernel_rfl) (fun s => by kernel_rfl) Hd.run (by kernel_rfl) (by kernel_rfl) (by kernel_rfl) (by rfl) (by first | assumption | decide +kernel) (by decide +kernel) ⟨rfl, rfl, rfl, rfl, rfl, by decide +kernel⟩ ?hw ?hc
  case hw => w_witness2
  case hc =>
    refine L2.DL.walk_D (l := PySem.Challenge.rw_wholemirrors_k01_numbers) (m := 63) (j := 16) (y := "script") rfl (by decide) (by kernel_rfl) ⟨rfl, by decide, by decide⟩ ?F
    intro w mg fl g Y ns nm
    obtain ⟨K, inK, says, exs⟩ := Y
    have nl : mg ("law" : PySem.Str) = some (.ref fl) := by
      have e : (HandSHeadRun.topDef (OpenLaw.row PySem.Challenge.rw_wholemirrors_k01_numbers).prog 26).name = ("law" : PySem.Str) := by kernel_rfl
      exact e ▸ nm
    obtain ⟨fd, bd, ok⟩ := Hd.facts (P := (PySem.Challenge.rw_wholemirrors_k01_numbers).prog) (w := w) inK ns nl says exs
    exact ⟨K, fd, _, inK, bd, fun H p zs hl sq => Hd.law_says zs hl sq, ok⟩
