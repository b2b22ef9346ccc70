import PyProof.Rows.All
import Wide.All
import OpenK.AllK
import Wide.FinOn
import PyProof.EqAt
import PyProof.EqKinds
import PyProof.TupleCall
import KE.KStateDown
import Lean
import HandS.ForMost
import HandS.Exc
import HandS.TryOnly
import HandS.ExcOwn
import HandS.ExcIs
import HandS.ExcValue
import HandS.IsInst
import HandS.More
import HandS.Wide
import HandS.Words
import HandS.WordsExc
import HandS.WordsList
import HandS.Defaults
import HandS.Evl
import HandS.Head0
import HandS.Head1
import HandS.Head2
import HandS.HeadEnd
import HandS.HeadHook1
import HandS.HeadHook2
import KE.DataEq
import KE.KExcMore
import KE.KExcIs
import HandS.EndBits
import HandS.Sort
import KE.SortData
import KE.DataMinMax
import KE.DataCmp
import HandS.Deep
import HandS.Rev
import KE.KDictList
import HandS.Dict
import HandS.TupLen
import HandS.Conv
import KE.KDictSum
import KE.KDictDisplayH
import KE.GoesMore
import KE.GoesEnum
import KE.DatumOrd
import HandS.SortKw
import HandS.ExcInit
import HandS.ExcField
import HandS.Text
import HandS.FStr
import HandS.Codes
import KE.GoesRaise
import HandS.TupAny
import PySem.Challenge.RW_sowring_k58_deeds_of_a_book
set_option Elab.async false
set_option linter.all false
set_option maxRecDepth 100000
set_option maxHeartbeats 2000000
/-! G: outcomes, what a value tells, what an expression evaluates to. -/
namespace G
open PySem PySem.Spec PyProof.Rows L2

/-! ### outcomes -/
inductive Cn where
  | SowError | BadBoard | BadPit | BadPits | BadCount | NoSeeds | BadPlan | Unlike | TooLong | TooMany | BadLine | BadRow | BadYard | NoDeed | BadText
  deriving DecidableEq, Repr
def Cn.nm : Cn → Str
  | .SowError => "SowError" | .BadBoard => "BadBoard" | .BadPit => "BadPit" | .BadPits => "BadPits" | .BadCount => "BadCount" | .NoSeeds => "NoSeeds"
  | .BadPlan => "BadPlan" | .Unlike => "Unlike" | .TooLong => "TooLong" | .TooMany => "TooMany" | .BadLine => "BadLine" | .BadRow => "BadRow"
  | .BadYard => "BadYard" | .NoDeed => "NoDeed" | .BadText => "BadText"
inductive Er where
  | own (c : Cn)
  | plan (n : Int)
  deriving DecidableEq, Repr
inductive R (α : Type) where
  | ok (a : α)
  | er (e : Er)
  | bad
  deriving DecidableEq, Repr
def R.bd {α β : Type} (m : R α) (f : α → R β) : R β := match m with
  | .ok a => f a
  | .er e => .er e
  | .bad => .bad
def Wp {α : Type} (m : R α) (k : α → Prop) (e : Er → Prop) : Prop := match m with
  | .ok a => k a
  | .er c => e c
  | .bad => False
section
variable {α β γ : Type} {m : R α} {f : α → R β} {k : β → Prop} {e e' : Er → Prop}
theorem wp_bd : Wp (R.bd m f) k e = Wp m (fun a => Wp (f a) k e) e := by cases m <;> rfl
theorem wp_mono {k k' : α → Prop} (h : Wp m k e) (hk : ∀ a, m = .ok a → k a → k' a) (he : ∀ c, m = .er c → e c → e' c) : Wp m k' e' := by
  cases m with
  | ok a => exact hk a rfl h
  | er c => exact he c rfl h
  | bad => exact h
theorem bd_ok {a : α} : R.bd (.ok a) f = f a := rfl
theorem bd_er {c : Er} : R.bd (.er c) f = .er c := rfl
theorem bd_bad : R.bd .bad f = .bad := rfl
theorem bd_assoc {g : β → R γ} : R.bd (R.bd m f) g = R.bd m fun a => R.bd (f a) g := by cases m <;> rfl
theorem bd_id {m : R α} : R.bd m (fun a => .ok a) = m := by cases m <;> rfl
end
/-- nothing is raised, or it is not promised -/
def R.nx {α : Type} (m : R α) : R α := match m with
  | .ok a => .ok a
  | _ => .bad
/-! ### heaps -/
/-- a tuple never changes: it is seen from everywhere -/
def tupB : Option HO → Bool
  | some (.tup _) => true
  | _ => false
def dif (H0 H : Hp) : Hp := fun b => if tupB (H b) = true then H b else if (H0 b).isSome = true then none else H b
def mix (F H H' : Hp) : Hp := fun b => if (H b).isSome = true then (if tupB (H b) = true then H b else F b) else H' b
theorem dif_some {H0 H : Hp} {b : Addr} {o : HO} (h : dif H0 H b = some o) : (H0 b = none ∨ tupB (some o) = true) ∧ H b = some o := by
  unfold dif at h
  split at h
  · rename_i c
    rw [h] at c
    exact ⟨.inr c, h⟩
  · split at h
    · cases h
    · rename_i c
      refine ⟨.inl ?_, h⟩
      cases q : H0 b with
      | none => rfl
      | some u => rw [q] at c; exact absurd rfl c
theorem dif_of {H0 H : Hp} {b : Addr} {o : HO} (h0 : H0 b = none) (h : H b = some o) : dif H0 H b = some o := by
  unfold dif
  rw [h0]
  split <;> exact h
theorem dif_tup {H0 H : Hp} {b : Addr} {o : HO} (h0 : tupB (some o) = true) (h : H b = some o) : dif H0 H b = some o := by
  unfold dif
  rw [h, if_pos h0]
theorem dif_of' {H0 H : Hp} {b : Addr} {o : HO} (h0 : H0 b = none ∨ tupB (some o) = true) (h : H b = some o) : dif H0 H b = some o := h0.elim (fun z => dif_of z h) fun z => dif_tup z h
theorem mix_new {F H H' : Hp} {p : Addr} (h : H p = none) : mix F H H' p = H' p := by
  unfold mix
  rw [h]
  rfl
theorem mix_tup {F H H' : Hp} {p : Addr} {o : HO} (h : H p = some o) (ho : tupB (some o) = true) : mix F H H' p = some o := by
  unfold mix
  rw [h, if_pos (show (some o).isSome = true from rfl), if_pos ho]
theorem mix_old {F H H' : Hp} {p : Addr} {o : HO} (h : H p = some o) (ho : tupB (some o) = false := by rfl) : mix F H H' p = F p := by
  unfold mix
  rw [h, if_pos (show (some o).isSome = true from rfl), if_neg (by rw [ho]; decide)]
theorem mix_cases {F H H' : Hp} {p : Addr} {o : HO} (h : mix F H H' p = some o) : (H p = none ∧ H' p = some o) ∨ (H p = some o ∧ tupB (some o) = true) ∨ (∃ u, H p = some u ∧ tupB (some u) = false ∧ F p = some o) := by
  cases q : H p with
  | none => rw [mix_new q] at h; exact .inl ⟨rfl, h⟩
  | some u =>
    cases z : tupB (some u) with
    | true => rw [mix_tup q z] at h; cases h; exact .inr (.inl ⟨rfl, z⟩)
    | false => rw [mix_old q z] at h; exact .inr (.inr ⟨u, rfl, z, h⟩)
theorem same_mix {F H H' : Hp} (hF : Same F H) : Same F (mix F H H') := fun b o q => by
  have h := hF b o q
  cases z : tupB (some o) with
  | true => exact mix_tup h z
  | false => rw [mix_old h z]; exact q
theorem mix_same {F H H' : Hp} (hF : Same F H) (e : Same H H') : Same (mix F H H') H' := fun b o q => by
  rcases mix_cases q with ⟨_, h⟩ | ⟨h, _⟩ | ⟨_, _, _, h⟩
  · exact h
  · exact e b o h
  · exact e b o (hF b o h)
theorem mix_mono {F H H' H2 : Hp} (e : Same H' H2) : Same (mix F H H') (mix F H H2) := fun b o q => by
  rcases mix_cases q with ⟨h, h2⟩ | ⟨h, z⟩ | ⟨u, h, z, h2⟩
  · rw [mix_new h]; exact e b o h2
  · exact mix_tup h z
  · rw [mix_old h z]; exact h2
/-- the new part of a later heap lies in the mix -/
theorem dif_mix {F H H1 H' : Hp} (e : Same H H1) (e1 : Same H1 H') : Same (dif H1 H') (mix F H H') := fun b o q => by
  obtain ⟨h1, h2⟩ := dif_some q
  cases z : H b with
  | none => rw [mix_new z]; exact h2
  | some u =>
    rcases h1 with h1 | h1
    · rw [Same.free e h1] at z; cases z
    · have := (e.trans e1) b u z
      rw [h2] at this
      cases this
      exact mix_tup z h1
theorem dif_mono {H0 H H' : Hp} (e : Same H H') : Same (dif H0 H) (dif H0 H') := fun b o q => by
  obtain ⟨h1, h2⟩ := dif_some q
  exact dif_of' h1 (e b o h2)
theorem dif_le {H0 H : Hp} : Same (dif H0 H) H := fun b o q => (dif_some q).2
/-- what is new since H1 is new since H0 -/
theorem dif_back {H0 H1 H' : Hp} (e : Same H0 H1) : Same (dif H1 H') (dif H0 H') := fun b o q => by
  obtain ⟨h1, h2⟩ := dif_some q
  exact dif_of' (h1.elim (fun z => .inl (Same.free e z)) .inr) h2
theorem mix_dif {H0 F H H' : Hp} (e0 : Same H0 H) (hF : Same F H) (e : Same H H') : Same (mix (dif H0 F) H H') (dif H0 (mix F H H')) := fun b o q => by
  rcases mix_cases q with ⟨h, h2⟩ | ⟨h, z⟩ | ⟨u, h, z, h2⟩
  · exact dif_of (Same.free e0 h) (by rw [mix_new h]; exact h2)
  · exact dif_tup z (mix_tup h z)
  · obtain ⟨h3, h4⟩ := dif_some h2
    exact dif_of' h3 (same_mix hF b o h4)
/-! ### what a value tells -/
class Rp (α : Type) where
  rep : PySem.W.Frag → Hp → V → α → Prop
  mono : ∀ {K : PySem.W.Frag} {H H' : Hp} {v : V} {a : α}, Same H H' → rep K H v a → rep K H' v a
inductive All2 {α β : Type} (F : α → β → Prop) : List α → List β → Prop
  | nil : All2 F [] []
  | cons {a : α} {b : β} {l : List α} {l' : List β} : F a b → All2 F l l' → All2 F (a :: l) (b :: l')
section
variable {α β : Type} {F F' : α → β → Prop}
theorem All2.mono (h : ∀ a b, F a b → F' a b) : ∀ {l : List α} {l' : List β}, All2 F l l' → All2 F' l l'
  | _, _, .nil => .nil
  | _, _, .cons r t => .cons (h _ _ r) (All2.mono h t)
theorem All2.length : ∀ {l : List α} {l' : List β}, All2 F l l' → l.length = l'.length
  | _, _, .nil => rfl
  | _, _, .cons r t => by simp [All2.length t]
theorem All2.get : ∀ {l : List α} {l' : List β} {i : Nat} {b : β}, All2 F l l' → l'[i]? = some b → ∃ a, l[i]? = some a ∧ F a b
  | _, _, _, _, .nil, e => by simp at e
  | _, _, 0, _, .cons r t, e => by
    simp at e
    subst e
    exact ⟨_, rfl, r⟩
  | _, _, i + 1, b, .cons r t, e => by
    obtain ⟨a, h1, h2⟩ := All2.get (i := i) (b := b) t (by simpa using e)
    exact ⟨a, by simpa using h1, h2⟩
theorem All2.getL : ∀ {l : List α} {l' : List β} {i : Nat} {a : α}, All2 F l l' → l[i]? = some a → ∃ b, l'[i]? = some b ∧ F a b
  | _, _, _, _, .nil, e => by simp at e
  | _, _, 0, _, .cons r t, e => by
    simp at e
    subst e
    exact ⟨_, rfl, r⟩
  | _, _, i + 1, b, .cons r t, e => by
    obtain ⟨a, h1, h2⟩ := All2.getL (i := i) (a := b) t (by simpa using e)
    exact ⟨a, by simpa using h1, h2⟩
theorem All2.set {a : α} {b : β} (r : F a b) : ∀ {l : List α} {l' : List β} (i : Nat), All2 F l l' → All2 F (l.set i a) (l'.set i b)
  | _, _, _, .nil => .nil
  | _, _, 0, .cons _ t => .cons r t
  | _, _, i + 1, .cons q t => .cons q (All2.set r i t)
theorem All2.append : ∀ {l m : List α} {l' m' : List β}, All2 F l l' → All2 F m m' → All2 F (l ++ m) (l' ++ m')
  | _, _, _, _, .nil, s => s
  | _, _, _, _, .cons r t, s => .cons r (All2.append t s)
theorem All2.take : ∀ {l : List α} {l' : List β} (n : Nat), All2 F l l' → All2 F (l.take n) (l'.take n)
  | _, _, 0, _ => by simp; exact .nil
  | _, _, _ + 1, .nil => .nil
  | _, _, n + 1, .cons r t => .cons r (All2.take n t)
theorem All2.drop : ∀ {l : List α} {l' : List β} (n : Nat), All2 F l l' → All2 F (l.drop n) (l'.drop n)
  | _, _, 0, r => r
  | _, _, _ + 1, .nil => .nil
  | _, _, n + 1, .cons r t => All2.drop n t
theorem All2.dropLast : ∀ {l : List α} {l' : List β}, All2 F l l' → All2 F l.dropLast l'.dropLast := fun {l l'} h => by
  rw [List.dropLast_eq_take, List.dropLast_eq_take, h.length]
  exact h.take _
theorem All2.eraseIdx : ∀ {l : List α} {l' : List β} (i : Nat), All2 F l l' → All2 F (l.eraseIdx i) (l'.eraseIdx i)
  | _, _, _, .nil => .nil
  | _, _, 0, .cons _ t => t
  | _, _, i + 1, .cons q t => .cons q (All2.eraseIdx i t)
theorem All2.reverse : ∀ {l : List α} {l' : List β}, All2 F l l' → All2 F l.reverse l'.reverse
  | _, _, .nil => .nil
  | _, _, .cons r t => by
    rw [List.reverse_cons, List.reverse_cons]
    exact All2.append (All2.reverse t) (.cons r .nil)
theorem All2.rep {a : α} {b : β} (r : F a b) : ∀ n : Nat, All2 F (List.replicate n a) (List.replicate n b)
  | 0 => .nil
  | n + 1 => .cons r (All2.rep r n)
theorem All2.map (enc : β → α) (h : ∀ a b, F a b ↔ a = enc b) : ∀ {l : List α} {l' : List β}, All2 F l l' → l = l'.map enc
  | _, _, .nil => rfl
  | _, _, .cons r t => by rw [(h _ _).mp r, All2.map enc h t]; rfl
theorem All2.ofMap (enc : β → α) (h : ∀ b, F (enc b) b) : ∀ l' : List β, All2 F (l'.map enc) l'
  | [] => .nil
  | b :: t => .cons (h b) (All2.ofMap enc h t)
end
instance : Rp Int where
  rep _ _ v n := v = .int n
  mono _ h := h
instance : Rp Bool where
  rep _ _ v n := v = .bl n
  mono _ h := h
instance : Rp Str where
  rep _ _ v n := v = .str n
  mono _ h := h
instance : Rp Unit where
  rep _ _ v _ := v = .non
  mono _ h := h
instance {α : Type} [Rp α] : Rp (Option α) where
  rep K H v o := match o with
    | none => v = .non
    | some a => v ≠ .non ∧ Rp.rep K H v a
  mono {K H H' v a} e h := by
    cases a with
    | none => exact h
    | some a => exact ⟨h.1, Rp.mono e h.2⟩
instance {α : Type} [Rp α] : Rp (List α) where
  rep K H v xs := ∃ p vs, v = .ref p ∧ H p = some (.lst vs) ∧ All2 (Rp.rep K H) vs xs
  mono {K H H' v a} e h := by
    obtain ⟨p, vs, e1, e2, e3⟩ := h
    exact ⟨p, vs, e1, e p _ e2, e3.mono fun _ _ r => Rp.mono e r⟩
/-- the script: a list that is read alone -/
structure Scr where
  l : List Int
instance : Rp Scr where
  rep K H v s := ∃ p, v = .ref p ∧ SqL K H p (s.l.map V.int)
  mono {K H H' v a} e h := by
    obtain ⟨p, e1, e2⟩ := h
    exact ⟨p, e1, e.seq e2⟩
theorem same_seqT {K : PySem.W.Frag} {H H' : Hp} {a : Addr} {xs : List V} (e : Same H H') (h : SqT K H a xs) : SqT K H' a xs := by
  rcases h with (h | ⟨o, h⟩) | h
  · exact .inl (.inl (e _ _ h))
  · exact .inl (.inr ⟨o, e _ _ h⟩)
  · exact .inr h
instance {α β : Type} [Rp α] [Rp β] : Rp (α × β) where
  rep K H v t := ∃ p x y, v = .ref p ∧ H p = some (.tup [x, y]) ∧ Rp.rep K H x t.1 ∧ Rp.rep K H y t.2
  mono {K H H' v a} e h := by
    obtain ⟨p, x, y, e1, e2, e3, e4⟩ := h
    exact ⟨p, x, y, e1, e p _ e2, Rp.mono e e3, Rp.mono e e4⟩
/-- a triple -/
structure T3 (α β γ : Type) where
  a : α
  b : β
  c : γ
  deriving DecidableEq, Repr
instance {α β γ : Type} [Rp α] [Rp β] [Rp γ] : Rp (T3 α β γ) where
  rep K H v t := ∃ p x y z, v = .ref p ∧ H p = some (.tup [x, y, z]) ∧ Rp.rep K H x t.a ∧ Rp.rep K H y t.b ∧ Rp.rep K H z t.c
  mono {K H H' v a} e h := by
    obtain ⟨p, x, y, z, e1, e2, e3, e4, e5⟩ := h
    exact ⟨p, x, y, z, e1, e p _ e2, Rp.mono e e3, Rp.mono e e4, Rp.mono e e5⟩
/-- a tuple of any length of one kind -/
structure Tu (α : Type) where
  l : List α
  deriving DecidableEq, Repr
instance {α : Type} [Rp α] : Rp (Tu α) where
  rep K H v t := ∃ p vs, v = .ref p ∧ H p = some (.tup vs) ∧ All2 (Rp.rep K H) vs t.l
  mono {K H H' v a} e h := by
    obtain ⟨p, vs, e1, e2, e3⟩ := h
    exact ⟨p, vs, e1, e p _ e2, e3.mono fun _ _ r => Rp.mono e r⟩
theorem rep_ints {K : PySem.W.Frag} {H : Hp} {vs : List V} {ns : List Int} (h : All2 (Rp.rep K H) vs ns) : vs = ns.map V.int := h.map V.int fun _ _ => Iff.rfl
theorem rep_bools {K : PySem.W.Frag} {H : Hp} {vs : List V} {ns : List Bool} (h : All2 (Rp.rep K H) vs ns) : vs = ns.map V.bl := h.map V.bl fun _ _ => Iff.rfl
theorem rep_strs {K : PySem.W.Frag} {H : Hp} {vs : List V} {ns : List Str} (h : All2 (Rp.rep K H) vs ns) : vs = ns.map V.str := h.map V.str fun _ _ => Iff.rfl
theorem ints_rep {K : PySem.W.Frag} {H : Hp} (ns : List Int) : All2 (Rp.rep K H) (ns.map V.int) ns := All2.ofMap V.int (fun _ => rfl) ns
/-- a value that is not None -/
class NN (α : Type) [Rp α] where
  nn : ∀ {K : PySem.W.Frag} {H : Hp} {v : V} {a : α}, Rp.rep K H v a → v ≠ .non
instance : NN Int := ⟨fun h => by rw [show _ = V.int _ from h]; intro q; cases q⟩
instance : NN Bool := ⟨fun h => by rw [show _ = V.bl _ from h]; intro q; cases q⟩
instance : NN Str := ⟨fun h => by rw [show _ = V.str _ from h]; intro q; cases q⟩
instance {α : Type} [Rp α] : NN (List α) := ⟨fun ⟨_, _, h, _⟩ => by rw [h]; intro q; cases q⟩
instance {α β : Type} [Rp α] [Rp β] : NN (α × β) := ⟨fun ⟨_, _, _, h, _⟩ => by rw [h]; intro q; cases q⟩
instance {α β γ : Type} [Rp α] [Rp β] [Rp γ] : NN (T3 α β γ) := ⟨fun ⟨_, _, _, _, h, _⟩ => by rw [h]; intro q; cases q⟩
instance {α : Type} [Rp α] : NN (Tu α) := ⟨fun ⟨_, _, h, _⟩ => by rw [h]; intro q; cases q⟩

/-! ### what an expression evaluates to -/
/-- what is wished of an error behind H0 -/
def EE (K : PySem.W.Frag) (E : XK) (H0 : Hp) : Er → Prop
  | .own c => ∀ H', Same H0 H' → E (.ref (He.ga K c.nm)) none H'
  | .plan n => ∀ d H', Same H0 H' → H0 d = none → (∃ m, H' d = some (.xd [("at", .int n), ("words", .str m)])) → E (.ref (He.ga K "BadPlan")) (some d) H'
theorem EE.mono {K : PySem.W.Frag} {E : XK} {H0 H1 : Hp} (e : Same H0 H1) {c : Er} (h : EE K E H0 c) : EE K E H1 c := by
  cases c with
  | own c => exact fun H' q => h H' (e.trans q)
  | plan n => exact fun d H' q hd hm => h d H' (e.trans q) (e.free hd) hm
def Gr {α : Type} [Rp α] (K : PySem.W.Frag) (E : XK) (te : TE) (σ : L2.St) (F H : Hp) (m : R α) : Prop :=
  ∀ H1, Same H H1 → ∀ Q : VK, Wp m (fun a => ∀ v H2, Same H1 H2 → Rp.rep K (mix F H H2) v a → Q v H2) (EE K E H1) → te σ H1 Q
def GrT (K : PySem.W.Frag) (E : XK) (t : TT) (σ : L2.St) (H : Hp) (m : R Bool) : Prop :=
  ∀ H1, Same H H1 → ∀ Q : Bool → Hp → Prop, Wp m (fun b => ∀ H2, Same H1 H2 → Q b H2) (EE K E H1) → t σ H1 Q
section
variable {K : PySem.W.Frag} {E : XK} {σ : L2.St} {F H : Hp} {ta tb te : TE} {t u : TT} {α β γ δ : Type} [Rp α] [Rp β] [Rp γ] [Rp δ]
/-- two in a row -/
theorem gr_seq {ma : R α} {f : α → R β} {Q : VK} {H1 : Hp} (ha : Gr K E ta σ F H ma) (e : Same H H1) (hq : Wp (R.bd ma f) (fun b => ∀ v H2, Same H1 H2 → Rp.rep K (mix F H H2) v b → Q v H2) (EE K E H1))
    {Q' : VK} (h : ∀ a v H2, Same H1 H2 → Rp.rep K (mix F H H2) v a → Wp (f a) (fun b => ∀ v H3, Same H2 H3 → Rp.rep K (mix F H H3) v b → Q v H3) (EE K E H2) → Q' v H2) : ta σ H1 Q' := by
  refine ha H1 e Q' ?_
  rw [wp_bd] at hq
  exact wp_mono hq (fun a _ ka v H2 e2 r => h a v H2 e2 r (wp_mono ka (fun b _ kb v H3 e3 r3 => kb v H3 (e2.trans e3) r3) fun c _ z => z.mono e2)) fun c _ z => z
theorem gr_seqT {ma : R Bool} {f : Bool → R β} {Q : VK} {H1 : Hp} (ha : GrT K E t σ H ma) (e : Same H H1) (hq : Wp (R.bd ma f) (fun b => ∀ v H2, Same H1 H2 → Rp.rep K (mix F H H2) v b → Q v H2) (EE K E H1))
    {Q' : Bool → Hp → Prop} (h : ∀ a H2, Same H1 H2 → Wp (f a) (fun b => ∀ v H3, Same H2 H3 → Rp.rep K (mix F H H3) v b → Q v H3) (EE K E H2) → Q' a H2) : t σ H1 Q' := by
  refine ha H1 e Q' ?_
  rw [wp_bd] at hq
  exact wp_mono hq (fun a _ ka H2 e2 => h a H2 e2 (wp_mono ka (fun b _ kb v H3 e3 r3 => kb v H3 (e2.trans e3) r3) fun c _ z => z.mono e2)) fun c _ z => z
theorem g_var {i : Nat} {v : V} {a : α} (r : Rp.rep K F v a) (hF : Same F H) (h : σ[i]? = some (some v) := by rfl) : Gr K E (tVar i) σ F H (.ok a) :=
  fun H1 e Q hq => ⟨v, h, hq v H1 (Same.refl _) (Rp.mono (same_mix hF) r)⟩
theorem g_c {v : V} {a : α} (r : ∀ H', Rp.rep K H' v a) : Gr K E (tC v) σ F H (.ok a) := fun H1 e Q hq => hq v H1 (Same.refl _) (r _)
theorem g_int {n : Int} : Gr K E (tC (.int n)) σ F H (.ok n) := g_c fun _ => rfl
theorem g_bl {n : Bool} : Gr K E (tC (.bl n)) σ F H (.ok n) := g_c fun _ => rfl
theorem g_str {n : Str} : Gr K E (tC (.str n)) σ F H (.ok n) := g_c fun _ => rfl
theorem g_unit : Gr K E (tC .non) σ F H (.ok ()) := g_c fun _ => rfl
theorem g_non : Gr K E (tC .non) σ F H (.ok (none : Option α)) := g_c fun _ => rfl
/-- ints, bools, texts tell the same over any heap -/
class Sc (α : Type) [Rp α] where
  enc : α → V
  inj : ∀ {a b : α}, enc a = enc b → a = b
  is : ∀ {K : PySem.W.Frag} {H : Hp} {v : V} {a : α}, Rp.rep K H v a ↔ v = enc a
  sc : ∀ a b : α, scal (enc a) (enc b) = true
  flat : ∀ a : α, flatV (enc a) = true
instance : Sc Int := ⟨V.int, fun h => V.int.inj h, Iff.rfl, fun _ _ => rfl, fun _ => rfl⟩
instance : Sc Bool := ⟨V.bl, fun h => V.bl.inj h, Iff.rfl, fun _ _ => rfl, fun _ => rfl⟩
instance : Sc Str := ⟨V.str, fun h => V.str.inj h, Iff.rfl, fun _ _ => rfl, fun _ => rfl⟩
theorem g_sc [Sc α] {F' : Hp} {m : R α} (h : Gr K E te σ F' H m) : Gr K E te σ F H m := fun H1 e Q hq =>
  h H1 e Q (wp_mono hq (fun a _ k v H2 e2 r => k v H2 e2 (Sc.is.mpr (Sc.is.mp r))) fun _ _ z => z)
theorem g_some [NN α] {m : R α} (h : Gr K E te σ F H m) : Gr K E te σ F H (R.bd m fun a => .ok (some a)) := fun H1 e Q hq =>
  h H1 e Q (by rw [wp_bd] at hq; exact wp_mono hq (fun a _ k v H2 e2 r => k v H2 e2 ⟨NN.nn r, r⟩) fun _ _ z => z)
/-- a value that may be None, known not to be -/
def unO {α : Type} (o : Option α) : R α := match o with
  | some a => .ok a
  | none => .bad
theorem g_un {m : R (Option α)} (h : Gr K E te σ F H m) : Gr K E te σ F H (R.bd m unO) := fun H1 e Q hq =>
  h H1 e Q (by
    rw [wp_bd] at hq
    refine wp_mono hq (fun a _ k v H2 e2 r => ?_) fun _ _ z => z
    cases a with
    | none => exact k.elim
    | some a => exact k v H2 e2 r.2)
/-! operators -/
theorem g_i0 {f : Int → Int → Int} {ma mb : R Int} (ha : Gr K E ta σ F H ma) (hb : Gr K E tb σ F H mb) : Gr K E (tOp (rI0 fun i j => .int (f i j)) ta tb) σ F H (R.bd ma fun a => R.bd mb fun b => .ok (f a b)) := fun H1 e Q hq =>
  gr_seq ha e hq fun a v H2 e2 r hq2 => gr_seq hb (e.trans e2) hq2 fun b w H3 e3 r3 hq3 => ⟨a, b, r, r3, hq3 _ H3 (Same.refl _) rfl⟩
theorem g_b0 {f : Int → Int → Bool} {ma mb : R Int} (ha : Gr K E ta σ F H ma) (hb : Gr K E tb σ F H mb) : Gr K E (tOp (rI0 fun i j => .bl (f i j)) ta tb) σ F H (R.bd ma fun a => R.bd mb fun b => .ok (f a b)) := fun H1 e Q hq =>
  gr_seq ha e hq fun a v H2 e2 r hq2 => gr_seq hb (e.trans e2) hq2 fun b w H3 e3 r3 hq3 => ⟨a, b, r, r3, hq3 _ H3 (Same.refl _) rfl⟩
open Classical in
noncomputable def gd {α : Type} (c : Prop) (m : R α) : R α := if c then m else .bad
theorem gd_pos {α : Type} {c : Prop} {m : R α} (h : c) : gd c m = m := if_pos h
theorem g_iC {C : Int → Int → Prop} [∀ a b, Decidable (C a b)] {f : Int → Int → Int} {ma mb : R Int} (ha : Gr K E ta σ F H ma) (hb : Gr K E tb σ F H mb) :
    Gr K E (tOp (rI C fun i j => .int (f i j)) ta tb) σ F H (R.bd ma fun a => R.bd mb fun b => gd (C a b) (.ok (f a b))) := fun H1 e Q hq =>
  gr_seq ha e hq fun a v H2 e2 r hq2 => gr_seq hb (e.trans e2) hq2 fun b w H3 e3 r3 hq3 => by
    unfold gd at hq3
    split at hq3
    · rename_i c
      exact ⟨a, b, r, r3, c, hq3 _ H3 (Same.refl _) rfl⟩
    · exact hq3.elim
/-- .. with a condition that is known -/
theorem g_iK {C : Int → Int → Prop} {f : Int → Int → Int} {ma : R Int} {b : Int} (hc : ∀ a, C a b) (ha : Gr K E ta σ F H ma) (hb : Gr K E tb σ F H (.ok b)) :
    Gr K E (tOp (rI C fun i j => .int (f i j)) ta tb) σ F H (R.bd ma fun a => .ok (f a b)) := fun H1 e Q hq =>
  gr_seq ha e hq fun a v H2 e2 r hq2 => hb H2 (e.trans e2) _ fun w H3 e3 r3 => ⟨a, b, r, r3, hc a, hq2 _ H3 e3 rfl⟩
/-- * of two factors of together less than 134 million bits -/
def CMulV (i j : Int) : Prop := i.natAbs.log2 + j.natAbs.log2 < 134000000
theorem CMulV.ok {i j : Int} (h : CMulV i j) : IntMulOk i j := by
  have b : ∀ x : Int, Builtin.Int.intBits x ≤ x.natAbs.log2 + 1 := fun x => by
    unfold Builtin.Int.intBits
    split <;> omega
  have h1 := b i
  have h2 := b j
  have h3 : i.natAbs.log2 + j.natAbs.log2 < 134000000 := h
  have e : bitsLine = 134217728 := by decide
  unfold IntMulOk
  intro z
  rw [Bool.and_eq_true] at z
  have z3 := of_decide_eq_true (show decide _ = true from z.2)
  rw [e] at z3
  omega
theorem op_mulV {X : Cx} : OpR X (binaryOp .Mult) (rI CMulV fun i j => .int (i * j)) := opI fun _ _ _ _ _ _ _ hc q => mul_int q hc.ok
theorem wide_mulV {i j : Int} {a b : Nat} (ha : i.natAbs < 2 ^ a) (hb : j.natAbs < 2 ^ b) (h0 : 0 < a) (h1 : 0 < b) (h : a + b ≤ 134000000) : CMulV i j := by
  have x := PySem.Flt.log2_lt_of h0 ha
  have y := PySem.Flt.log2_lt_of h1 hb
  unfold CMulV
  omega
instance {a b : Int} : Decidable (CMulV a b) := by unfold CMulV; exact inferInstance
instance {a b : Int} : Decidable (CDivW a b) := by unfold CDivW; exact inferInstance
noncomputable def mulR (a b : Int) : R Int := gd (CMulV a b) (.ok (a * b))
noncomputable def divR (a b : Int) : R Int := gd (CDivW a b) (.ok (a / b))
noncomputable def modR (a b : Int) : R Int := gd (0 < b) (.ok (a % b))
noncomputable def shrR (a b : Int) : R Int := gd (0 ≤ b) (.ok (a / 2 ^ b.toNat))
theorem g_mul {ma mb : R Int} (ha : Gr K E ta σ F H ma) (hb : Gr K E tb σ F H mb) : Gr K E (tOp (rI CMulV fun i j => .int (i * j)) ta tb) σ F H (R.bd ma fun a => R.bd mb fun b => mulR a b) := g_iC ha hb
theorem g_div {ma mb : R Int} (ha : Gr K E ta σ F H ma) (hb : Gr K E tb σ F H mb) : Gr K E (tOp (rI CDivW fun i j => .int (i / j)) ta tb) σ F H (R.bd ma fun a => R.bd mb fun b => divR a b) := g_iC ha hb
theorem g_mod {ma mb : R Int} (ha : Gr K E ta σ F H ma) (hb : Gr K E tb σ F H mb) : Gr K E (tOp (rI (fun _ j => 0 < j) fun i j => .int (i % j)) ta tb) σ F H (R.bd ma fun a => R.bd mb fun b => modR a b) := g_iC ha hb
theorem g_shr {ma mb : R Int} (ha : Gr K E ta σ F H ma) (hb : Gr K E tb σ F H mb) : Gr K E (tOp (rI (fun _ j => 0 ≤ j) fun i j => .int (i / 2 ^ j.toNat)) ta tb) σ F H (R.bd ma fun a => R.bd mb fun b => shrR a b) := g_iC ha hb
/-- a written factor -/
theorem g_mulL {ma : R Int} {b : Int} (hc : -(2 ^ 64) < b ∧ b < 2 ^ 64) (ha : Gr K E ta σ F H ma) (hb : Gr K E tb σ F H (.ok b)) : Gr K E (tOp (rI CMul fun i j => .int (i * j)) ta tb) σ F H (R.bd ma fun a => .ok (a * b)) := g_iK (fun _ => .inr hc) ha hb
theorem g_mulF {mb : R Int} {a : Int} (hc : -(2 ^ 64) < a ∧ a < 2 ^ 64) (ha : Gr K E ta σ F H (.ok a)) (hb : Gr K E tb σ F H mb) : Gr K E (tOp (rI CMul fun i j => .int (i * j)) ta tb) σ F H (R.bd mb fun b => .ok (a * b)) := fun H1 e Q hq =>
  ha H1 e _ fun v H2 e2 r2 => gr_seq hb (e.trans e2) (wp_mono hq (fun b _ kb v H3 e3 r3 => kb v H3 (e2.trans e3) r3) fun c _ z => z.mono e2) fun b w H3 e3 r3 hq3 => ⟨a, b, r2, r3, .inl hc, hq3 _ H3 (Same.refl _) rfl⟩
theorem g_divL {ma : R Int} {b : Int} (hc : 0 < b ∧ b.natAbs.log2 < 9000) (ha : Gr K E ta σ F H ma) (hb : Gr K E tb σ F H (.ok b)) : Gr K E (tOp (rI CDivW fun i j => .int (i / j)) ta tb) σ F H (R.bd ma fun a => .ok (a / b)) := g_iK (fun _ => hc) ha hb
theorem g_modL {ma : R Int} {b : Int} (hc : 0 < b) (ha : Gr K E ta σ F H ma) (hb : Gr K E tb σ F H (.ok b)) : Gr K E (tOp (rI (fun _ j => 0 < j) fun i j => .int (i % j)) ta tb) σ F H (R.bd ma fun a => .ok (a % b)) := g_iK (fun _ => hc) ha hb
theorem g_pow {a : Int} {n : Nat} (hc : n ≤ 1000000 ∧ a.natAbs < 2 ^ 64) : Gr K E (tOp (rI CPow fun i j => .int (i ^ j.toNat)) (tC (.int a)) (tC (.int n))) σ F H (.ok (a ^ n)) := fun H1 e Q hq =>
  ⟨a, n, rfl, rfl, ⟨by omega, by omega, hc.2⟩, hq _ H1 (Same.refl _) rfl⟩
theorem g_neg {ma : R Int} (ha : Gr K E ta σ F H ma) : Gr K E (tUn (rU fun i => .int (-i)) ta) σ F H (R.bd ma fun a => .ok (-a)) := fun H1 e Q hq =>
  gr_seq ha e hq fun a v H2 e2 r hq2 => ⟨a, r, hq2 _ H2 (Same.refl _) rfl⟩
theorem g_eq [Sc α] [DecidableEq α] {ma mb : R α} (ha : Gr K E ta σ F H ma) (hb : Gr K E tb σ F H mb) : Gr K E (tOp rEq ta tb) σ F H (R.bd ma fun a => R.bd mb fun b => .ok (decide (a = b))) := fun H1 e Q hq =>
  gr_seq ha e hq fun a v H2 e2 r hq2 => gr_seq hb (e.trans e2) hq2 fun b w H3 e3 r3 hq3 => by
    have h1 := Sc.is.mp r
    have h2 := Sc.is.mp r3
    subst h1 h2
    refine ⟨Sc.sc a b, ?_⟩
    have e : decide (Sc.enc a = Sc.enc b) = decide (a = b) := decide_eq_decide.mpr ⟨Sc.inj, fun q => by rw [q]⟩
    rw [e]
    exact hq3 _ H3 (Same.refl _) rfl
theorem g_ne [Sc α] [DecidableEq α] {ma mb : R α} (ha : Gr K E ta σ F H ma) (hb : Gr K E tb σ F H mb) : Gr K E (tOp rNe ta tb) σ F H (R.bd ma fun a => R.bd mb fun b => .ok (!decide (a = b))) := fun H1 e Q hq =>
  gr_seq ha e hq fun a v H2 e2 r hq2 => gr_seq hb (e.trans e2) hq2 fun b w H3 e3 r3 hq3 => by
    have h1 := Sc.is.mp r
    have h2 := Sc.is.mp r3
    subst h1 h2
    refine ⟨Sc.sc a b, ?_⟩
    have e : decide (Sc.enc a = Sc.enc b) = decide (a = b) := decide_eq_decide.mpr ⟨Sc.inj, fun q => by rw [q]⟩
    rw [e]
    exact hq3 _ H3 (Same.refl _) rfl
theorem g_isN [NN α] {ma : R (Option α)} (ha : Gr K E ta σ F H ma) : Gr K E (tIsN ta) σ F H (R.bd ma fun a => .ok a.isNone) := fun H1 e Q hq =>
  gr_seq ha e hq fun a v H2 e2 r hq2 => by
    show Q (.bl (decide (v = .non))) H2
    cases a with
    | none =>
      have r' : v = .non := r
      rw [decide_eq_true r']
      exact hq2 _ H2 (Same.refl _) rfl
    | some a =>
      rw [decide_eq_false r.1]
      exact hq2 _ H2 (Same.refl _) rfl
theorem g_notN [NN α] {ma : R (Option α)} (ha : Gr K E ta σ F H ma) : Gr K E (tNotN ta) σ F H (R.bd ma fun a => .ok a.isSome) := fun H1 e Q hq =>
  gr_seq ha e hq fun a v H2 e2 r hq2 => by
    show Q (.bl (!decide (v = .non))) H2
    cases a with
    | none =>
      have r' : v = .non := r
      rw [decide_eq_true r']
      exact hq2 _ H2 (Same.refl _) rfl
    | some a =>
      rw [decide_eq_false r.1]
      exact hq2 _ H2 (Same.refl _) rfl
/-! tests -/
theorem t_test {ma : R Bool} (ha : Gr K E ta σ F H ma) : GrT K E (tTest ta) σ H ma := fun H1 e Q hq =>
  ha H1 e _ (wp_mono hq (fun a _ k v H2 e2 r => ⟨a, r, k H2 e2⟩) fun _ _ z => z)
theorem t_B {ma : R Bool} (ha : Gr K E ta σ F H ma) : GrT K E (tB ta) σ H ma := fun H1 e Q hq =>
  ha H1 e _ (wp_mono hq (fun a _ k v H2 e2 r => ⟨a, r, k H2 e2⟩) fun _ _ z => z)
theorem t_not {ma : R Bool} (ha : GrT K E t σ H ma) : GrT K E (tNot t) σ H (R.bd ma fun b => .ok (!b)) := fun H1 e Q hq =>
  ha H1 e _ (by rw [wp_bd] at hq; exact hq)
theorem t_and {ma mb : R Bool} (ha : GrT K E t σ H ma) (hb : GrT K E u σ H mb) : GrT K E (tAnd t u) σ H (R.bd ma fun b => if b = true then mb else .ok false) := fun H1 e Q hq =>
  ha H1 e _ (by
    rw [wp_bd] at hq
    refine wp_mono hq (fun a _ k H2 e2 => ?_) fun _ _ z => z
    cases a with
    | true => exact hb H2 (e.trans e2) _ (wp_mono k (fun b _ kb H3 e3 => kb H3 (e2.trans e3)) fun c _ z => z.mono e2)
    | false => exact k H2 e2)
theorem t_or {ma mb : R Bool} (ha : GrT K E t σ H ma) (hb : GrT K E u σ H mb) : GrT K E (tOr t u) σ H (R.bd ma fun b => if b = true then .ok true else mb) := fun H1 e Q hq =>
  ha H1 e _ (by
    rw [wp_bd] at hq
    refine wp_mono hq (fun a _ k H2 e2 => ?_) fun _ _ z => z
    cases a with
    | true => exact k H2 e2
    | false => exact hb H2 (e.trans e2) _ (wp_mono k (fun b _ kb H3 e3 => kb H3 (e2.trans e3)) fun c _ z => z.mono e2))
/-- .. where the second can't fail -/
theorem t_andP {ma : R Bool} {b : Bool} (ha : GrT K E t σ H ma) (hb : GrT K E u σ H (.ok b)) : GrT K E (tAnd t u) σ H (R.bd ma fun a => .ok (a && b)) := fun H1 e Q hq =>
  t_and ha hb H1 e Q (by
    rw [wp_bd] at hq ⊢
    refine wp_mono hq (fun a _ k => ?_) fun _ _ z => z
    cases a with
    | true => exact k
    | false => exact k)
theorem t_orP {ma : R Bool} {b : Bool} (ha : GrT K E t σ H ma) (hb : GrT K E u σ H (.ok b)) : GrT K E (tOr t u) σ H (R.bd ma fun a => .ok (a || b)) := fun H1 e Q hq =>
  t_or ha hb H1 e Q (by
    rw [wp_bd] at hq ⊢
    refine wp_mono hq (fun a _ k => ?_) fun _ _ z => z
    cases a with
    | true => exact k
    | false => exact k)
/-! .. as values -/
theorem g_notV {ma : R Bool} (ha : Gr K E ta σ F H ma) : Gr K E (tNotV ta) σ F H (R.bd ma fun b => .ok (!b)) := fun H1 e Q hq =>
  gr_seq ha e hq fun a v H2 e2 r hq2 => ⟨a, r, hq2 _ H2 (Same.refl _) rfl⟩
theorem g_andV {ma mb : R Bool} (ha : Gr K E ta σ F H ma) (hb : Gr K E tb σ F H mb) : Gr K E (tAndV ta tb) σ F H (R.bd ma fun b => if b = true then mb else .ok false) := fun H1 e Q hq =>
  gr_seq ha e hq fun a v H2 e2 r hq2 => ⟨a, r, by
    cases a with
    | true => exact hb H2 (e.trans e2) _ hq2
    | false => exact hq2 _ H2 (Same.refl _) rfl⟩
theorem g_orV {ma mb : R Bool} (ha : Gr K E ta σ F H ma) (hb : Gr K E tb σ F H mb) : Gr K E (tOrV ta tb) σ F H (R.bd ma fun b => if b = true then .ok true else mb) := fun H1 e Q hq =>
  gr_seq ha e hq fun a v H2 e2 r hq2 => ⟨a, r, by
    cases a with
    | true => exact hq2 _ H2 (Same.refl _) rfl
    | false => exact hb H2 (e.trans e2) _ hq2⟩
theorem g_andVP {ma : R Bool} {b : Bool} (ha : Gr K E ta σ F H ma) (hb : Gr K E tb σ F H (.ok b)) : Gr K E (tAndV ta tb) σ F H (R.bd ma fun a => .ok (a && b)) := fun H1 e Q hq =>
  g_andV ha hb H1 e Q (by
    rw [wp_bd] at hq ⊢
    refine wp_mono hq (fun a _ k => ?_) fun _ _ z => z
    cases a with
    | true => exact k
    | false => exact k)
theorem g_orVP {ma : R Bool} {b : Bool} (ha : Gr K E ta σ F H ma) (hb : Gr K E tb σ F H (.ok b)) : Gr K E (tOrV ta tb) σ F H (R.bd ma fun a => .ok (a || b)) := fun H1 e Q hq =>
  g_orV ha hb H1 e Q (by
    rw [wp_bd] at hq ⊢
    refine wp_mono hq (fun a _ k => ?_) fun _ _ z => z
    cases a with
    | true => exact k
    | false => exact k)
theorem g_if {mc : R Bool} {ma mb : R α} (hc : GrT K E t σ H mc) (ha : Gr K E ta σ F H ma) (hb : Gr K E tb σ F H mb) : Gr K E (tIf t ta tb) σ F H (R.bd mc fun b => if b = true then ma else mb) := fun H1 e Q hq =>
  gr_seqT hc e hq fun a H2 e2 hq2 => by
    cases a with
    | true => exact ha H2 (e.trans e2) _ hq2
    | false => exact hb H2 (e.trans e2) _ hq2
end
end G

set_option Elab.async false
set_option linter.all false
set_option maxRecDepth 100000
set_option maxHeartbeats 2000000
/-! G: lists, tuples, calls of built-ins, comprehensions. -/
namespace G
open PySem PySem.Spec PyProof.Rows L2
/-- lists made here are no longer than this -/
def lim : Nat := 10000000
theorem lim_line {n : Nat} (h : n ≤ lim) : n ≤ sizeLine := Nat.le_trans h (by decide)
theorem lim_line' {n : Nat} (h : n < lim) : n < sizeLine := Nat.lt_of_lt_of_le h (by decide)
section
variable {K : PySem.W.Frag} {E : XK} {σ : L2.St} {F H : Hp} {ta tb te tl : TE} {t u : TT} {α β γ δ ρ : Type} [Rp α] [Rp β] [Rp γ] [Rp δ] [Rp ρ]
/-! ### arguments in a row -/
inductive Rs : List (Σ α : Type, Rp α) → Type 1
  | nil : Rs []
def GrA (K : PySem.W.Frag) (E : XK) (ta : TA) (σ : L2.St) (F H : Hp) (m : R (List α)) : Prop :=
  ∀ H1, Same H H1 → ∀ Q : List V → Hp → Prop, Wp m (fun as => ∀ vs H2, Same H1 H2 → All2 (Rp.rep K (mix F H H2)) vs as → Q vs H2) (EE K E H1) → ta σ H1 Q
theorem a_nil : GrA K E tNil σ F H (.ok ([] : List α)) := fun H1 e Q hq => hq [] H1 (Same.refl _) .nil
theorem a_cons {tr : TA} {m : R α} {mr : R (List α)} (h : Gr K E ta σ F H m) (hr : GrA K E tr σ F H mr) : GrA K E (tCons ta tr) σ F H (R.bd m fun a => R.bd mr fun as => .ok (a :: as)) := fun H1 e Q hq =>
  h H1 e _ (by
    rw [wp_bd] at hq
    refine wp_mono hq (fun a _ k v H2 e2 r => ?_) fun _ _ z => z
    refine hr H2 (e.trans e2) _ ?_
    rw [wp_bd] at k
    exact wp_mono k (fun as _ k2 vs H3 e3 r3 => k2 (v :: vs) H3 (e2.trans e3) (.cons (Rp.mono (mix_mono e3) r) r3)) fun c _ z => z.mono e2)
/-- a list display -/
theorem g_lst {t : TA} {m : R (List α)} (h : GrA K E t σ F H m) : Gr K E (tLst t) σ F H (R.bd m fun as => gd (as.length ≤ lim) (.ok as)) := fun H1 e Q hq =>
  h H1 e _ (by
    rw [wp_bd] at hq
    refine wp_mono hq (fun as _ k vs H2 e2 r => ?_) fun _ _ z => z
    unfold gd at k
    split at k
    · rename_i c
      refine ⟨lim_line (by rw [r.length]; exact c), fun p hp => k _ _ (e2.trans (fun b o q => by rw [upd_ne (ne_of_none q hp)]; exact q)) ?_⟩
      have hn : H p = none := Same.free (e.trans e2) hp
      refine ⟨p, vs, rfl, by rw [mix_new hn]; exact upd_same, r.mono fun _ _ x => Rp.mono (mix_mono fun b o q => by rw [upd_ne (ne_of_none q hp)]; exact q) x⟩
    · exact k.elim)
/-- .. short, its items known -/
theorem g_lstK {t : TA} {as : List α} (h : GrA K E t σ F H (.ok as)) (hl : as.length ≤ lim := by decide) : Gr K E (tLst t) σ F H (.ok as) := fun H1 e Q hq =>
  g_lst h H1 e Q (by rw [wp_bd]; show Wp (gd _ _) _ _; rw [gd_pos hl]; exact hq)
theorem same_upd {H : Hp} {p : Addr} {o : HO} (hp : H p = none) : Same H (upd H p o) := fun b u q => by rw [upd_ne (ne_of_none q hp)]; exact q
theorem g_pair {ma : R α} {mb : R β} (ha : Gr K E ta σ F H ma) (hb : Gr K E tb σ F H mb) : Gr K E (tTup (tCons ta (tCons tb tNil))) σ F H (R.bd ma fun a => R.bd mb fun b => .ok (a, b)) := fun H1 e Q hq =>
  gr_seq ha e hq fun a v H2 e2 r hq2 => gr_seq hb (e.trans e2) hq2 fun b w H3 e3 r3 hq3 => by
    refine ⟨by show 2 ≤ sizeLine; decide, fun p hp => hq3 _ _ (same_upd hp) ?_⟩
    have hn : H p = none := Same.free (e.trans (e2.trans e3)) hp
    exact ⟨p, v, w, rfl, by rw [mix_new hn]; exact upd_same, Rp.mono (mix_mono (e3.trans (same_upd hp))) r, Rp.mono (mix_mono (same_upd hp)) r3⟩
theorem g_tri {tc : TE} {ma : R α} {mb : R β} {mc : R γ} (ha : Gr K E ta σ F H ma) (hb : Gr K E tb σ F H mb) (hc : Gr K E tc σ F H mc) :
    Gr K E (tTup (tCons ta (tCons tb (tCons tc tNil)))) σ F H (R.bd ma fun a => R.bd mb fun b => R.bd mc fun c => .ok (T3.mk a b c)) := fun H1 e Q hq =>
  gr_seq ha e hq fun a v H2 e2 r hq2 => gr_seq hb (e.trans e2) hq2 fun b w H3 e3 r3 hq3 => gr_seq hc (e.trans (e2.trans e3)) hq3 fun c z H4 e4 r4 hq4 => by
    refine ⟨by show 3 ≤ sizeLine; decide, fun p hp => hq4 _ _ (same_upd hp) ?_⟩
    have hn : H p = none := Same.free (e.trans (e2.trans (e3.trans e4))) hp
    exact ⟨p, v, w, z, rfl, by rw [mix_new hn]; exact upd_same, Rp.mono (mix_mono (e3.trans (e4.trans (same_upd hp)))) r, Rp.mono (mix_mono (e4.trans (same_upd hp))) r3, Rp.mono (mix_mono (same_upd hp)) r4⟩
/-! ### items -/
def idx {α : Type} (xs : List α) (i : Int) : R α := match atI xs i with
  | some a => .ok a
  | none => .bad
theorem all2_atI {P : V → α → Prop} {vs : List V} {xs : List α} {i : Int} {a : α} (h : All2 P vs xs) (e : atI xs i = some a) : ∃ v, atI vs i = some v ∧ P v a := by
  unfold atI at e ⊢
  rw [h.length]
  cases q : ixN xs.length i with
  | none => rw [q] at e; cases e
  | some j =>
    rw [q] at e
    exact h.get e
theorem g_idx {ma : R (List α)} {mi : R Int} (ha : Gr K E ta σ F H ma) (hi : Gr K E tb σ F H mi) (hF : Same F H) : Gr K E (tOp (rIxL K) ta tb) σ F H (R.bd ma fun a => R.bd mi fun i => idx a i) := fun H1 e Q hq =>
  gr_seq ha e hq fun xs v H2 e2 r hq2 => gr_seq hi (e.trans e2) hq2 fun i w H3 e3 r3 hq3 => by
    obtain ⟨p, vs, rfl, hp, hv⟩ := r
    have r3' : w = .int i := r3
    subst r3'
    unfold idx at hq3
    cases q : atI xs i with
    | none => rw [q] at hq3; exact hq3.elim
    | some a =>
      rw [q] at hq3
      obtain ⟨x, hx, rx⟩ := all2_atI hv q
      refine ⟨p, vs, i, x, rfl, rfl, SqL.of (e3 p _ (mix_same hF (e.trans e2) p _ hp)), hx, hq3 x H3 (Same.refl _) (Rp.mono (mix_mono e3) rx)⟩
theorem g_idxT {ma : R (Tu α)} {mi : R Int} (ha : Gr K E ta σ F H ma) (hi : Gr K E tb σ F H mi) (hF : Same F H) : Gr K E (tOp (rIxT K) ta tb) σ F H (R.bd ma fun a => R.bd mi fun i => idx a.l i) := fun H1 e Q hq =>
  gr_seq ha e hq fun xs v H2 e2 r hq2 => gr_seq hi (e.trans e2) hq2 fun i w H3 e3 r3 hq3 => by
    obtain ⟨p, vs, rfl, hp, hv⟩ := r
    have r3' : w = .int i := r3
    subst r3'
    unfold idx at hq3
    cases q : atI xs.l i with
    | none => rw [q] at hq3; exact hq3.elim
    | some a =>
      rw [q] at hq3
      obtain ⟨x, hx, rx⟩ := all2_atI hv q
      refine ⟨p, vs, i, x, rfl, rfl, SqT.of (e3 p _ (mix_same hF (e.trans e2) p _ hp)), hx, hq3 x H3 (Same.refl _) (Rp.mono (mix_mono e3) rx)⟩
theorem atI_map {α β : Type} {f : α → β} {xs : List α} {i : Int} {a : α} (h : atI xs i = some a) : atI (xs.map f) i = some (f a) := by
  unfold atI at h ⊢
  rw [List.length_map]
  cases q : ixN xs.length i with
  | none => rw [q] at h; cases h
  | some j =>
    rw [q] at h
    show (xs.map f)[j]? = some (f a)
    rw [List.getElem?_map, show xs[j]? = some a from h]
    rfl
/-- the script's -/
theorem g_idxS {ma : R Scr} {mi : R Int} (ha : Gr K E ta σ F H ma) (hi : Gr K E tb σ F H mi) (hF : Same F H) : Gr K E (tOp (rIxL K) ta tb) σ F H (R.bd ma fun a => R.bd mi fun i => idx a.l i) := fun H1 e Q hq =>
  gr_seq ha e hq fun xs v H2 e2 r hq2 => gr_seq hi (e.trans e2) hq2 fun i w H3 e3 r3 hq3 => by
    obtain ⟨p, rfl, hp⟩ := r
    have r3' : w = .int i := r3
    subst r3'
    unfold idx at hq3
    cases q : atI xs.l i with
    | none => rw [q] at hq3; exact hq3.elim
    | some a =>
      rw [q] at hq3
      exact ⟨p, _, i, _, rfl, rfl, e3.seq ((mix_same hF (e.trans e2)).seq hp), atI_map q, hq3 _ H3 (Same.refl _) rfl⟩
theorem g_fst {m : R (α × β)} (h : Gr K E ta σ F H m) (hF : Same F H) : Gr K E (tOp (rIxT K) ta (tC (.int 0))) σ F H (R.bd m fun p => .ok p.1) := fun H1 e Q hq =>
  gr_seq h e hq fun a v H2 e2 r hq2 => by
    obtain ⟨p, x, y, rfl, hp, r1, r2⟩ := r
    exact ⟨p, _, 0, x, rfl, rfl, SqT.of (mix_same hF (e.trans e2) p _ hp), rfl, hq2 x H2 (Same.refl _) r1⟩
theorem g_snd {m : R (α × β)} (h : Gr K E ta σ F H m) (hF : Same F H) : Gr K E (tOp (rIxT K) ta (tC (.int 1))) σ F H (R.bd m fun p => .ok p.2) := fun H1 e Q hq =>
  gr_seq h e hq fun a v H2 e2 r hq2 => by
    obtain ⟨p, x, y, rfl, hp, r1, r2⟩ := r
    exact ⟨p, _, 1, y, rfl, rfl, SqT.of (mix_same hF (e.trans e2) p _ hp), rfl, hq2 y H2 (Same.refl _) r2⟩
theorem g_t3a {m : R (T3 α β γ)} (h : Gr K E ta σ F H m) (hF : Same F H) : Gr K E (tOp (rIxT K) ta (tC (.int 0))) σ F H (R.bd m fun p => .ok p.a) := fun H1 e Q hq =>
  gr_seq h e hq fun a v H2 e2 r hq2 => by
    obtain ⟨p, x, y, z, rfl, hp, r1, r2, r3⟩ := r
    exact ⟨p, _, 0, x, rfl, rfl, SqT.of (mix_same hF (e.trans e2) p _ hp), rfl, hq2 x H2 (Same.refl _) r1⟩
theorem g_t3b {m : R (T3 α β γ)} (h : Gr K E ta σ F H m) (hF : Same F H) : Gr K E (tOp (rIxT K) ta (tC (.int 1))) σ F H (R.bd m fun p => .ok p.b) := fun H1 e Q hq =>
  gr_seq h e hq fun a v H2 e2 r hq2 => by
    obtain ⟨p, x, y, z, rfl, hp, r1, r2, r3⟩ := r
    exact ⟨p, _, 1, y, rfl, rfl, SqT.of (mix_same hF (e.trans e2) p _ hp), rfl, hq2 y H2 (Same.refl _) r2⟩
theorem g_t3c {m : R (T3 α β γ)} (h : Gr K E ta σ F H m) (hF : Same F H) : Gr K E (tOp (rIxT K) ta (tC (.int 2))) σ F H (R.bd m fun p => .ok p.c) := fun H1 e Q hq =>
  gr_seq h e hq fun a v H2 e2 r hq2 => by
    obtain ⟨p, x, y, z, rfl, hp, r1, r2, r3⟩ := r
    exact ⟨p, _, 2, z, rfl, rfl, SqT.of (mix_same hF (e.trans e2) p _ hp), rfl, hq2 z H2 (Same.refl _) r3⟩
/-! ### slices: xs[a:b] -/
def GrO (K : PySem.W.Frag) (E : XK) (to : TO) (σ : L2.St) (H : Hp) (m : R (Option Int)) : Prop :=
  ∀ H1, Same H H1 → ∀ Q : Option Int → Hp → Prop, Wp m (fun o => ∀ H2, Same H1 H2 → Q o H2) (EE K E H1) → to σ H1 Q
theorem o_no : GrO K E tNoPart σ H (.ok none) := fun H1 e Q hq => hq H1 (Same.refl _)
theorem o_some {m : R Int} (h : Gr K E ta σ F H m) : GrO K E (tPart ta) σ H (R.bd m fun i => .ok (some i)) := fun H1 e Q hq =>
  h H1 e _ (by rw [wp_bd] at hq; exact wp_mono hq (fun i _ k v H2 e2 r => ⟨i, r, k H2 e2⟩) fun _ _ z => z)
def cut {α : Type} (xs : List α) (lo hi : Option Int) : List α := (xs.drop (HT.sIx xs.length 0 lo)).take (HT.sIx xs.length xs.length hi - HT.sIx xs.length 0 lo)
theorem all2_cut {P : V → α → Prop} {vs : List V} {xs : List α} {lo hi : Option Int} (h : All2 P vs xs) : All2 P (cutV vs lo hi) (cut xs lo hi) := by
  unfold cutV cut
  rw [h.length]
  exact (h.drop _).take _
theorem gro_seq {mo : R (Option Int)} {to : TO} {f : Option Int → R β} {Q : VK} {H1 : Hp} (ha : GrO K E to σ H mo) (e : Same H H1) (hq : Wp (R.bd mo f) (fun b => ∀ v H2, Same H1 H2 → Rp.rep K (mix F H H2) v b → Q v H2) (EE K E H1))
    {Q' : Option Int → Hp → Prop} (h : ∀ a H2, Same H1 H2 → Wp (f a) (fun b => ∀ v H3, Same H2 H3 → Rp.rep K (mix F H H3) v b → Q v H3) (EE K E H2) → Q' a H2) : to σ H1 Q' := by
  refine ha H1 e Q' ?_
  rw [wp_bd] at hq
  exact wp_mono hq (fun a _ ka H2 e2 => h a H2 e2 (wp_mono ka (fun b _ kb v H3 e3 r3 => kb v H3 (e2.trans e3) r3) fun c _ z => z.mono e2)) fun c _ z => z
theorem g_cut {tlo thi : TO} {m : R (List α)} {mlo mhi : R (Option Int)} (h : Gr K E ta σ F H m) (hlo : GrO K E tlo σ H mlo) (hhi : GrO K E thi σ H mhi) (hF : Same F H) :
    Gr K E (tSl (rSlL K) ta tlo thi) σ F H (R.bd m fun xs => R.bd mlo fun lo => R.bd mhi fun hi => .ok (cut xs lo hi)) := fun H1 e Q hq =>
  gr_seq h e hq fun xs v H2 e2 r hq2 => gro_seq hlo (e.trans e2) hq2 fun lo H3 e3 hq3 => gro_seq hhi (e.trans (e2.trans e3)) hq3 fun hi H4 e4 hq4 => by
    obtain ⟨p, vs, rfl, hp, hv⟩ := r
    refine ⟨p, vs, rfl, SqL.of (e4 p _ (e3 p _ (mix_same hF (e.trans e2) p _ hp))), fun l hl => hq4 _ _ (same_upd hl) ?_⟩
    have hn : H l = none := Same.free (e.trans (e2.trans (e3.trans e4))) hl
    exact ⟨l, _, rfl, by rw [mix_new hn]; exact upd_same, all2_cut (hv.mono fun _ _ x => Rp.mono (mix_mono (e3.trans (e4.trans (same_upd hl)))) x)⟩
/-! ### +, * of lists -/
theorem g_cat {ma mb : R (List α)} (ha : Gr K E ta σ F H ma) (hb : Gr K E tb σ F H mb) (hF : Same F H) : Gr K E (tOp rCat ta tb) σ F H (R.bd ma fun a => R.bd mb fun b => gd (a.length + b.length ≤ lim) (.ok (a ++ b))) := fun H1 e Q hq =>
  gr_seq ha e hq fun a v H2 e2 r hq2 => gr_seq hb (e.trans e2) hq2 fun b w H3 e3 r3 hq3 => by
    obtain ⟨p, vs, rfl, hp, hv⟩ := r
    obtain ⟨q, ws, rfl, hq', hw⟩ := r3
    unfold gd at hq3
    split at hq3
    · rename_i c
      refine ⟨p, q, vs, ws, rfl, rfl, e3 p _ (mix_same hF (e.trans e2) p _ hp), mix_same hF (e.trans (e2.trans e3)) q _ hq', lim_line (by rw [hv.length, hw.length]; exact c), fun l hl => hq3 _ _ (same_upd hl) ?_⟩
      have hn : H l = none := Same.free (e.trans (e2.trans e3)) hl
      exact ⟨l, _, rfl, by rw [mix_new hn]; exact upd_same, (hv.mono fun _ _ x => Rp.mono (mix_mono (e3.trans (same_upd hl))) x).append (hw.mono fun _ _ x => Rp.mono (mix_mono (same_upd hl)) x)⟩
    · exact hq3.elim
theorem all2_rep {P : V → α → Prop} {vs : List V} {xs : List α} (h : All2 P vs xs) : ∀ n : Nat, All2 P (List.replicate n vs).flatten (List.replicate n xs).flatten
  | 0 => .nil
  | n + 1 => by
    rw [List.replicate_succ, List.replicate_succ, List.flatten_cons, List.flatten_cons]
    exact h.append (all2_rep h n)
noncomputable def repR {α : Type} (xs : List α) (k : Int) : R (List α) := gd (-(2 ^ 62) ≤ k ∧ k < 2 ^ 62 ∧ xs.length * k.toNat ≤ lim) (.ok (List.replicate k.toNat xs).flatten)
theorem g_rep {ma : R (List α)} {mb : R Int} (ha : Gr K E ta σ F H ma) (hb : Gr K E tb σ F H mb) (hF : Same F H) : Gr K E (tOp rRep ta tb) σ F H (R.bd ma fun a => R.bd mb fun b => repR a b) := fun H1 e Q hq =>
  gr_seq ha e hq fun a v H2 e2 r hq2 => gr_seq hb (e.trans e2) hq2 fun b w H3 e3 r3 hq3 => by
    obtain ⟨p, vs, rfl, hp, hv⟩ := r
    have r3' : w = .int b := r3
    subst r3'
    unfold repR gd at hq3
    split at hq3
    · rename_i c
      refine ⟨p, b, vs, rfl, rfl, e3 p _ (mix_same hF (e.trans e2) p _ hp), by omega, by omega, lim_line (by rw [hv.length]; exact c.2.2), fun l hl => hq3 _ _ (same_upd hl) ?_⟩
      have hn : H l = none := Same.free (e.trans (e2.trans e3)) hl
      exact ⟨l, _, rfl, by rw [mix_new hn]; exact upd_same, all2_rep (hv.mono fun _ _ x => Rp.mono (mix_mono (e3.trans (same_upd hl))) x) _⟩
    · exact hq3.elim
/-! ### built-ins -/
abbrev rLen (K : PySem.W.Frag) : List V → Hp → VK → Prop := fun xs H Q => ∃ p ys, xs = [.ref p] ∧ (SqL K H p ys ∨ SqT K H p ys) ∧ Q (.int ys.length) H
theorem g_len {m : R (List α)} (h : Gr K E ta σ F H m) (hF : Same F H) : Gr K E (tCB (rLen K) (tCons ta tNil)) σ F H (R.bd m fun xs => .ok (xs.length : Int)) := fun H1 e Q hq =>
  gr_seq h e hq fun xs v H2 e2 r hq2 => by
    obtain ⟨p, vs, rfl, hp, hv⟩ := r
    refine ⟨p, vs, rfl, .inl (SqL.of (mix_same hF (e.trans e2) p _ hp)), ?_⟩
    rw [hv.length]
    exact hq2 _ H2 (Same.refl _) rfl
theorem g_lenT {m : R (Tu α)} (h : Gr K E ta σ F H m) (hF : Same F H) : Gr K E (tCB (rLen K) (tCons ta tNil)) σ F H (R.bd m fun xs => .ok (xs.l.length : Int)) := fun H1 e Q hq =>
  gr_seq h e hq fun xs v H2 e2 r hq2 => by
    obtain ⟨p, vs, rfl, hp, hv⟩ := r
    refine ⟨p, vs, rfl, .inr (SqT.of (mix_same hF (e.trans e2) p _ hp)), ?_⟩
    rw [hv.length]
    exact hq2 _ H2 (Same.refl _) rfl
theorem g_lenS {m : R Scr} (h : Gr K E ta σ F H m) (hF : Same F H) : Gr K E (tCB (rLen K) (tCons ta tNil)) σ F H (R.bd m fun xs => .ok (xs.l.length : Int)) := fun H1 e Q hq =>
  gr_seq h e hq fun xs v H2 e2 r hq2 => by
    obtain ⟨p, rfl, hp⟩ := r
    refine ⟨p, _, rfl, .inl ((mix_same hF (e.trans e2)).seq hp), ?_⟩
    rw [List.length_map]
    exact hq2 _ H2 (Same.refl _) rfl
theorem g_len2 {m : R (α × β)} (h : Gr K E ta σ F H m) (hF : Same F H) : Gr K E (tCB (rLen K) (tCons ta tNil)) σ F H (R.bd m fun _ => .ok (2 : Int)) := fun H1 e Q hq =>
  gr_seq h e hq fun xs v H2 e2 r hq2 => by
    obtain ⟨p, x, y, rfl, hp, _⟩ := r
    exact ⟨p, _, rfl, .inr (SqT.of (mix_same hF (e.trans e2) p _ hp)), hq2 _ H2 (Same.refl _) rfl⟩
theorem g_len3 {m : R (T3 α β γ)} (h : Gr K E ta σ F H m) (hF : Same F H) : Gr K E (tCB (rLen K) (tCons ta tNil)) σ F H (R.bd m fun _ => .ok (3 : Int)) := fun H1 e Q hq =>
  gr_seq h e hq fun xs v H2 e2 r hq2 => by
    obtain ⟨p, x, y, z, rfl, hp, _⟩ := r
    exact ⟨p, _, rfl, .inr (SqT.of (mix_same hF (e.trans e2) p _ hp)), hq2 _ H2 (Same.refl _) rfl⟩
abbrev rListOf (K : PySem.W.Frag) : List V → Hp → VK → Prop := fun xs H Q => ∃ p ys, xs = [.ref p] ∧ (SqL K H p ys ∨ SqT K H p ys) ∧ ∀ l, H l = none → Q (.ref l) (upd H l (.lst ys))
theorem g_list {m : R (List α)} (h : Gr K E ta σ F H m) (hF : Same F H) : Gr K E (tCB (rListOf K) (tCons ta tNil)) σ F H m := fun H1 e Q hq =>
  gr_seq h e (by rw [bd_id]; exact hq) fun xs v H2 e2 r hq2 => by
    obtain ⟨p, vs, rfl, hp, hv⟩ := r
    refine ⟨p, vs, rfl, .inl (SqL.of (mix_same hF (e.trans e2) p _ hp)), fun l hl => hq2 _ _ (same_upd hl) ?_⟩
    have hn : H l = none := Same.free (e.trans e2) hl
    exact ⟨l, _, rfl, by rw [mix_new hn]; exact upd_same, hv.mono fun _ _ x => Rp.mono (mix_mono (same_upd hl)) x⟩
theorem g_listT {m : R (Tu α)} (h : Gr K E ta σ F H m) (hF : Same F H) : Gr K E (tCB (rListOf K) (tCons ta tNil)) σ F H (R.bd m fun t => .ok t.l) := fun H1 e Q hq =>
  gr_seq h e hq fun xs v H2 e2 r hq2 => by
    obtain ⟨p, vs, rfl, hp, hv⟩ := r
    refine ⟨p, vs, rfl, .inr (SqT.of (mix_same hF (e.trans e2) p _ hp)), fun l hl => hq2 _ _ (same_upd hl) ?_⟩
    have hn : H l = none := Same.free (e.trans e2) hl
    exact ⟨l, _, rfl, by rw [mix_new hn]; exact upd_same, hv.mono fun _ _ x => Rp.mono (mix_mono (same_upd hl)) x⟩
abbrev rTupOf (K : PySem.W.Frag) : List V → Hp → VK → Prop := fun xs H Q => ∃ p ys, xs = [.ref p] ∧ ((SqL K H p ys ∧ ∀ l, H l = none → Q (.ref l) (upd H l (.tup ys))) ∨ (SqT K H p ys ∧ Q (.ref p) H))
theorem g_tuple {m : R (List α)} (h : Gr K E ta σ F H m) (hF : Same F H) : Gr K E (tCB (rTupOf K) (tCons ta tNil)) σ F H (R.bd m fun l => .ok (Tu.mk l)) := fun H1 e Q hq =>
  gr_seq h e hq fun xs v H2 e2 r hq2 => by
    obtain ⟨p, vs, rfl, hp, hv⟩ := r
    refine ⟨p, vs, rfl, .inl ⟨SqL.of (mix_same hF (e.trans e2) p _ hp), fun l hl => hq2 _ _ (same_upd hl) ?_⟩⟩
    have hn : H l = none := Same.free (e.trans e2) hl
    exact ⟨l, _, rfl, by rw [mix_new hn]; exact upd_same, hv.mono fun _ _ x => Rp.mono (mix_mono (same_upd hl)) x⟩
theorem g_sum {m : R (List Int)} (h : Gr K E ta σ F H m) (hF : Same F H) : Gr K E (tCB (rSum K) (tCons ta tNil)) σ F H (R.bd m fun l => .ok l.sum) := fun H1 e Q hq =>
  gr_seq h e hq fun xs v H2 e2 r hq2 => by
    obtain ⟨p, vs, rfl, hp, hv⟩ := r
    have := rep_ints hv
    subst this
    exact ⟨p, xs, rfl, SqL.of (mix_same hF (e.trans e2) p _ hp), hq2 _ H2 (Same.refl _) rfl⟩
def minR (xs : List Int) : R Int := match xs.min? with
  | some a => .ok a
  | none => .bad
def maxR (xs : List Int) : R Int := match xs.max? with
  | some a => .ok a
  | none => .bad
theorem min_of {xs : List Int} {m : Int} (h1 : m ∈ xs) (h2 : ∀ y, y ∈ xs → m ≤ y) : xs.min? = some m := List.min?_eq_some_iff.mpr ⟨h1, h2⟩
theorem max_of {xs : List Int} {m : Int} (h1 : m ∈ xs) (h2 : ∀ y, y ∈ xs → y ≤ m) : xs.max? = some m := List.max?_eq_some_iff.mpr ⟨h1, h2⟩
theorem g_min {m : R (List Int)} (h : Gr K E ta σ F H m) (hF : Same F H) : Gr K E (tCB (rMin K) (tCons ta tNil)) σ F H (R.bd m minR) := fun H1 e Q hq =>
  gr_seq h e hq fun xs v H2 e2 r hq2 => by
    obtain ⟨p, vs, rfl, hp, hv⟩ := r
    have := rep_ints hv
    subst this
    refine ⟨p, xs, rfl, SqL.of (mix_same hF (e.trans e2) p _ hp), ?_, fun m h1 h2 => ?_⟩
    · cases xs with
      | nil => exact hq2.elim
      | cons a l => exact Nat.succ_pos _
    · unfold minR at hq2
      rw [min_of h1 h2] at hq2
      exact hq2 _ H2 (Same.refl _) rfl
theorem g_max {m : R (List Int)} (h : Gr K E ta σ F H m) (hF : Same F H) : Gr K E (tCB (rMax K) (tCons ta tNil)) σ F H (R.bd m maxR) := fun H1 e Q hq =>
  gr_seq h e hq fun xs v H2 e2 r hq2 => by
    obtain ⟨p, vs, rfl, hp, hv⟩ := r
    have := rep_ints hv
    subst this
    refine ⟨p, xs, rfl, SqL.of (mix_same hF (e.trans e2) p _ hp), ?_, fun m h1 h2 => ?_⟩
    · cases xs with
      | nil => exact hq2.elim
      | cons a l => exact Nat.succ_pos _
    · unfold maxR at hq2
      rw [max_of h1 h2] at hq2
      exact hq2 _ H2 (Same.refl _) rfl
theorem g_all {m : R (List Bool)} (h : Gr K E ta σ F H m) (hF : Same F H) : Gr K E (tCB (rAll K) (tCons ta tNil)) σ F H (R.bd m fun l => .ok (l.all id)) := fun H1 e Q hq =>
  gr_seq h e hq fun xs v H2 e2 r hq2 => by
    obtain ⟨p, vs, rfl, hp, hv⟩ := r
    have := rep_bools hv
    subst this
    exact ⟨p, xs, rfl, SqL.of (mix_same hF (e.trans e2) p _ hp), hq2 _ H2 (Same.refl _) rfl⟩
theorem g_any {m : R (List Bool)} (h : Gr K E ta σ F H m) (hF : Same F H) : Gr K E (tCB (rAny K) (tCons ta tNil)) σ F H (R.bd m fun l => .ok (l.any id)) := fun H1 e Q hq =>
  gr_seq h e hq fun xs v H2 e2 r hq2 => by
    obtain ⟨p, vs, rfl, hp, hv⟩ := r
    have := rep_bools hv
    subst this
    exact ⟨p, xs, rfl, SqL.of (mix_same hF (e.trans e2) p _ hp), hq2 _ H2 (Same.refl _) rfl⟩
abbrev rAbs : List V → Hp → VK → Prop := fun xs H Q => ∃ i, xs = [.int i] ∧ Q (.int (if i < 0 then -i else i)) H
theorem g_abs {m : R Int} (h : Gr K E ta σ F H m) : Gr K E (tCB rAbs (tCons ta tNil)) σ F H (R.bd m fun i => .ok (if i < 0 then -i else i)) := fun H1 e Q hq =>
  gr_seq h e hq fun i v H2 e2 r hq2 => ⟨i, by rw [show v = V.int i from r], hq2 _ H2 (Same.refl _) rfl⟩
abbrev rInt1 : List V → Hp → VK → Prop := fun xs H Q => (∃ i, xs = [.int i] ∧ Q (.int i) H) ∨ ∃ k, xs = [.bl k] ∧ Q (.int (if k then 1 else 0)) H
theorem g_intB {m : R Bool} (h : Gr K E ta σ F H m) : Gr K E (tCB rInt1 (tCons ta tNil)) σ F H (R.bd m fun b => .ok (if b = true then (1 : Int) else 0)) := fun H1 e Q hq =>
  gr_seq h e hq fun i v H2 e2 r hq2 => .inr ⟨i, by rw [show v = V.bl i from r], hq2 _ H2 (Same.refl _) rfl⟩
abbrev rMin2 : List V → Hp → VK → Prop := fun xs H Q => ∃ i j, xs = [.int i, .int j] ∧ Q (.int (if j < i then j else i)) H
theorem g_min2 {ma mb : R Int} (ha : Gr K E ta σ F H ma) (hb : Gr K E tb σ F H mb) : Gr K E (tCB rMin2 (tCons ta (tCons tb tNil))) σ F H (R.bd ma fun i => R.bd mb fun j => .ok (if j < i then j else i)) := fun H1 e Q hq =>
  gr_seq ha e hq fun i v H2 e2 r hq2 => gr_seq hb (e.trans e2) hq2 fun j w H3 e3 r3 hq3 => ⟨i, j, by rw [show v = V.int i from r, show w = V.int j from r3], hq3 _ H3 (Same.refl _) rfl⟩
abbrev rMax2 : List V → Hp → VK → Prop := fun xs H Q => ∃ i j, xs = [.int i, .int j] ∧ Q (.int (if j > i then j else i)) H
theorem g_max2 {ma mb : R Int} (ha : Gr K E ta σ F H ma) (hb : Gr K E tb σ F H mb) : Gr K E (tCB rMax2 (tCons ta (tCons tb tNil))) σ F H (R.bd ma fun i => R.bd mb fun j => .ok (if j > i then j else i)) := fun H1 e Q hq =>
  gr_seq ha e hq fun i v H2 e2 r hq2 => gr_seq hb (e.trans e2) hq2 fun j w H3 e3 r3 hq3 => ⟨i, j, by rw [show v = V.int i from r, show w = V.int j from r3], hq3 _ H3 (Same.refl _) rfl⟩
/-! ### x in xs -/
theorem g_in [Sc α] [DecidableEq α] {neg : Bool} {ma : R α} {mb : R (List α)} (ha : Gr K E ta σ F H ma) (hb : Gr K E tb σ F H mb) (hF : Same F H) (hv : ∀ (a b : α), eqV (Sc.enc a) (Sc.enc b) = decide (a = b)) :
    Gr K E (tOp (rIn K neg) ta tb) σ F H (R.bd ma fun a => R.bd mb fun b => .ok (if neg = true then !decide (a ∈ b) else decide (a ∈ b))) := fun H1 e Q hq =>
  gr_seq ha e hq fun a v H2 e2 r hq2 => gr_seq hb (e.trans e2) hq2 fun b w H3 e3 r3 hq3 => by
    obtain ⟨p, vs, rfl, hp, hw⟩ := r3
    have h1 := Sc.is.mp r
    subst h1
    have h2 : vs = b.map Sc.enc := hw.map Sc.enc fun _ _ => Sc.is
    subst h2
    have h3 : inV (Sc.enc a) (b.map Sc.enc) = decide (a ∈ b) := by
      unfold inV
      rw [List.any_map]
      induction b with
      | nil => rfl
      | cons x l ih =>
        rw [List.any_cons]
        have : (List.any l ((fun y => eqV y (Sc.enc a)) ∘ Sc.enc)) = decide (a ∈ l) := by
          clear ih hq3 hq2 hq hw hp hb ha
          induction l with
          | nil => rfl
          | cons y l ih =>
            rw [List.any_cons, ih]
            show (eqV (Sc.enc y) (Sc.enc a) || _) = _
            rw [hv]
            by_cases c : a = y
            · subst c; simp
            · have c' : ¬ y = a := fun q => c q.symm
              simp [c, c']
        rw [this]
        show (eqV (Sc.enc x) (Sc.enc a) || _) = _
        rw [hv]
        by_cases c : a = x
        · subst c; simp
        · have c' : ¬ x = a := fun q => c q.symm
          simp [c, c']
    refine ⟨p, _, rfl, .inl (SqL.of (mix_same hF (e.trans (e2.trans e3)) p _ hp)), Sc.flat a, ?_, ?_⟩
    · rw [List.all_map]
      exact List.all_eq_true.mpr fun x _ => Sc.flat x
    · rw [h3]
      exact hq3 _ H3 (Same.refl _) rfl
theorem eqV_int (a b : Int) : eqV (Sc.enc a) (Sc.enc b) = decide (a = b) := by
  show eqV (V.int a) (V.int b) = decide (a = b)
  simp only [eqV]
  exact Bool.beq_eq_decide_eq a b
/-! ### == of lists, tuples -/
def rEqP (K : PySem.W.Frag) : R2 := fun x y H Q => ∃ d e, Dp K H x d ∧ Dp K H y e ∧ d.plain = true ∧ e.plain = true ∧ min d.depth e.depth ≤ 64 ∧ Q (.bl (PyData.eqv d e)) H
def rNeP (K : PySem.W.Frag) : R2 := fun x y H Q => ∃ d e, Dp K H x d ∧ Dp K H y e ∧ d.plain = true ∧ e.plain = true ∧ min d.depth e.depth ≤ 64 ∧ Q (.bl (!PyData.eqv d e)) H
theorem op_eqP {X : Cx} (hu : X.A.units + 64 < cLine) : OpR X (compareOp .Eq) (rEqP X.K) := by
  intro pins s σ H x y v u Q I rx ry h
  obtain ⟨d, e, hd, he, sd, se, hm, q⟩ := h
  obtain ⟨as, r1⟩ := Dp.reads I d x v hd rx
  obtain ⟨bs, r2⟩ := Dp.reads I e y u he ry
  exact SeqAt.eq_plain r1 r2 sd se (by omega) ⟨.bl _, H, I, rfl, q⟩
theorem op_neP {X : Cx} (hu : X.A.units + 64 < cLine) : OpR X (compareOp .NotEq) (rNeP X.K) := by
  intro pins s σ H x y v u Q I rx ry h
  obtain ⟨d, e, hd, he, sd, se, hm, q⟩ := h
  obtain ⟨as, r1⟩ := Dp.reads I d x v hd rx
  obtain ⟨bs, r2⟩ := Dp.reads I e y u he ry
  exact SeqAt.ne_plain r1 r2 sd se (by omega) ⟨.bl _, H, I, rfl, q⟩
def rInP (K : PySem.W.Frag) (neg : Bool) : R2 := fun x y H Q => ∃ d ds, Dp K H x d ∧ (Dp K H y (.list ds) ∨ Dp K H y (.tuple ds)) ∧ d.plain = true ∧ PyData.plainAll ds = true ∧ min (PyData.depthAll ds) d.depth ≤ 62 ∧
  Q (.bl (if neg then !(ds.any fun z => PyData.eqv z d) else ds.any fun z => PyData.eqv z d)) H
theorem op_inP {X : Cx} (hu : X.A.units + 64 < cLine) : OpR X (compareOp .In) (rInP X.K false) := by
  intro pins s σ H x y v u Q I rx ry h
  obtain ⟨d, ds, hd, he, sd, se, hm, q⟩ := h
  obtain ⟨as, r1⟩ := Dp.reads I d x v hd rx
  rcases he with he | he
  · obtain ⟨bs, r2⟩ := Dp.reads I _ y u he ry
    exact SeqAt.in_list_data r2 r1 se sd (by omega) ⟨.bl _, H, I, rfl, q⟩
  · obtain ⟨bs, r2⟩ := Dp.reads I _ y u he ry
    exact SeqAt.in_tuple_data r2 r1 se sd (by omega) ⟨.bl _, H, I, rfl, q⟩
theorem op_notInP {X : Cx} (hu : X.A.units + 64 < cLine) : OpR X (compareOp .NotIn) (rInP X.K true) := by
  intro pins s σ H x y v u Q I rx ry h
  obtain ⟨d, ds, hd, he, sd, se, hm, q⟩ := h
  obtain ⟨as, r1⟩ := Dp.reads I d x v hd rx
  rcases he with he | he
  · obtain ⟨bs, r2⟩ := Dp.reads I _ y u he ry
    exact SeqAt.notIn_list_data r2 r1 se sd (by omega) ⟨.bl _, H, I, rfl, q⟩
  · obtain ⟨bs, r2⟩ := Dp.reads I _ y u he ry
    exact SeqAt.notIn_tuple_data r2 r1 se sd (by omega) ⟨.bl _, H, I, rfl, q⟩
class De (α : Type) [Rp α] where
  toD : α → PyData
  dp : ∀ {K : PySem.W.Frag} {H : Hp} {v : V} {a : α}, Rp.rep K H v a → Dp K H v (toD a)
  lay : ∀ a : α, (toD a).plain = true
  dep : Nat
  deep : ∀ a : α, (toD a).depth ≤ dep
  eqv : ∀ a b : α, PyData.eqv (toD a) (toD b) = true ↔ a = b
instance : De Int := ⟨.int, fun {K H v a} h => by rw [show v = V.int a from h]; exact .int a, fun _ => rfl, 0, fun _ => Nat.le_of_eq (by simp [PyData.depth]), fun a b => by simp [PyData.eqv]⟩
instance : De Str := ⟨.str, fun {K H v a} h => by rw [show v = V.str a from h]; exact .str a, fun _ => rfl, 0, fun _ => Nat.le_of_eq (by simp [PyData.depth]), fun a b => by simp [PyData.eqv]⟩
instance : De Bool := ⟨.bool, fun {K H v a} h => by rw [show v = V.bl a from h]; exact .bl a, fun _ => rfl, 0, fun _ => Nat.le_of_eq (by simp [PyData.depth]), fun a b => by simp [PyData.eqv]⟩
theorem dpAll_of [De α] {K : PySem.W.Frag} {H : Hp} : ∀ {vs : List V} {xs : List α}, All2 (Rp.rep K H) vs xs → DpAll K H vs (xs.map De.toD)
  | _, _, .nil => .nil
  | _, _, .cons r t => .cons (De.dp r) (dpAll_of t)
theorem layAll [De α] : ∀ xs : List α, PyData.plainAll (xs.map De.toD) = true
  | [] => rfl
  | x :: r => by
    show (PyData.plain (De.toD x) && PyData.plainAll (r.map De.toD)) = true
    rw [De.lay, layAll r] <;> rfl
theorem deepAll [De α] : ∀ xs : List α, PyData.depthAll (xs.map De.toD) ≤ De.dep α
  | [] => by simp [PyData.depthAll]
  | x :: r => by
    have h1 := De.deep x
    have h2 := deepAll r
    simp only [List.map_cons, PyData.depthAll]
    omega
theorem eqvAll [De α] : ∀ xs ys : List α, PyData.eqvAll (xs.map De.toD) (ys.map De.toD) = true ↔ xs = ys
  | [], [] => by simp [PyData.eqvAll]
  | x :: r, [] => by simp [PyData.eqvAll]
  | [], y :: r => by simp [PyData.eqvAll]
  | x :: r, y :: s => by
    simp only [List.map_cons, PyData.eqvAll, Bool.and_eq_true, De.eqv, eqvAll r s, List.cons.injEq]
instance {α : Type} [Rp α] [De α] : De (List α) := ⟨fun xs => .list (xs.map De.toD), fun {K H v a} h => by
    obtain ⟨p, vs, rfl, hp, hv⟩ := h
    exact .lst (SqL.of hp) (dpAll_of hv), fun xs => layAll xs, De.dep α + 1, fun xs => by
    have := deepAll xs
    simp only [PyData.depth]
    omega, fun a b => by
    simp only [PyData.eqv]
    exact eqvAll a b⟩
instance {α : Type} [Rp α] [De α] : De (Tu α) := ⟨fun xs => .tuple (xs.l.map De.toD), fun {K H v a} h => by
    obtain ⟨p, vs, rfl, hp, hv⟩ := h
    exact .tup (SqT.of hp) (dpAll_of hv), fun xs => layAll xs.l, De.dep α + 1, fun xs => by
    have := deepAll xs.l
    simp only [PyData.depth]
    omega, fun a b => by
    simp only [PyData.eqv]
    rw [eqvAll a.l b.l]
    cases a; cases b; simp⟩
instance {α β : Type} [Rp α] [Rp β] [De α] [De β] : De (α × β) := ⟨fun t => .tuple [De.toD t.1, De.toD t.2], fun {K H v a} h => by
    obtain ⟨p, x, y, rfl, hp, h1, h2⟩ := h
    exact .tup (SqT.of hp) (.cons (De.dp h1) (.cons (De.dp h2) .nil)), fun t => by
    show (PyData.plain (De.toD t.1) && (PyData.plain (De.toD t.2) && true)) = true
    rw [De.lay, De.lay] <;> rfl, max (De.dep α) (De.dep β) + 1, fun t => by
    have h1 := De.deep t.1
    have h2 := De.deep t.2
    simp only [PyData.depth, PyData.depthAll]
    omega, fun a b => by
    simp only [PyData.eqv, PyData.eqvAll, Bool.and_true, Bool.and_eq_true, De.eqv]
    exact ⟨fun h => Prod.ext h.1 h.2, fun h => by rw [h]; exact ⟨rfl, rfl⟩⟩⟩
instance {α β γ : Type} [Rp α] [Rp β] [Rp γ] [De α] [De β] [De γ] : De (T3 α β γ) := ⟨fun t => .tuple [De.toD t.a, De.toD t.b, De.toD t.c], fun {K H v a} h => by
    obtain ⟨p, x, y, z, rfl, hp, h1, h2, h3⟩ := h
    exact .tup (SqT.of hp) (.cons (De.dp h1) (.cons (De.dp h2) (.cons (De.dp h3) .nil))), fun t => by
    show (PyData.plain (De.toD t.a) && (PyData.plain (De.toD t.b) && (PyData.plain (De.toD t.c) && true))) = true
    rw [De.lay, De.lay, De.lay] <;> rfl, max (De.dep α) (max (De.dep β) (De.dep γ)) + 1, fun t => by
    have h1 := De.deep t.a
    have h2 := De.deep t.b
    have h3 := De.deep t.c
    simp only [PyData.depth, PyData.depthAll]
    omega, fun a b => by
    simp only [PyData.eqv, PyData.eqvAll, Bool.and_true, Bool.and_eq_true, De.eqv]
    cases a; cases b; simp⟩
theorem eqv_dec [De α] [DecidableEq α] (a b : α) : PyData.eqv (De.toD a) (De.toD b) = decide (a = b) := by
  by_cases c : a = b
  · rw [decide_eq_true c]
    exact (De.eqv a b).mpr c
  · rw [decide_eq_false c]
    exact Bool.eq_false_iff.mpr fun q => c ((De.eqv a b).mp q)
theorem g_eqD [De α] [DecidableEq α] {ma mb : R α} (ha : Gr K E ta σ F H ma) (hb : Gr K E tb σ F H mb) (hF : Same F H) (hd : De.dep α ≤ 64 := by decide) : Gr K E (tOp (rEqP K) ta tb) σ F H (R.bd ma fun a => R.bd mb fun b => .ok (decide (a = b))) := fun H1 e Q hq =>
  gr_seq ha e hq fun a v H2 e2 r hq2 => gr_seq hb (e.trans e2) hq2 fun b w H3 e3 r3 hq3 => by
    refine ⟨_, _, De.dp (Rp.mono ((mix_same hF (e.trans e2)).trans e3) r), De.dp (Rp.mono (mix_same hF (e.trans (e2.trans e3))) r3), De.lay a, De.lay b, by have := De.deep a; omega, ?_⟩
    rw [eqv_dec]
    exact hq3 _ H3 (Same.refl _) rfl
theorem g_neD [De α] [DecidableEq α] {ma mb : R α} (ha : Gr K E ta σ F H ma) (hb : Gr K E tb σ F H mb) (hF : Same F H) (hd : De.dep α ≤ 64 := by decide) : Gr K E (tOp (rNeP K) ta tb) σ F H (R.bd ma fun a => R.bd mb fun b => .ok (!decide (a = b))) := fun H1 e Q hq =>
  gr_seq ha e hq fun a v H2 e2 r hq2 => gr_seq hb (e.trans e2) hq2 fun b w H3 e3 r3 hq3 => by
    refine ⟨_, _, De.dp (Rp.mono ((mix_same hF (e.trans e2)).trans e3) r), De.dp (Rp.mono (mix_same hF (e.trans (e2.trans e3))) r3), De.lay a, De.lay b, by have := De.deep a; omega, ?_⟩
    rw [eqv_dec]
    exact hq3 _ H3 (Same.refl _) rfl
theorem plainAll_map [De α] (b : List α) : PyData.plainAll (b.map De.toD) = true := layAll b
def inL {α : Type} [DecidableEq α] (a : α) (b : List α) : Bool := decide (a ∈ b)
theorem any_dec [De α] [DecidableEq α] (a : α) : ∀ b : List α, ((b.map De.toD).any fun z => PyData.eqv z (De.toD a)) = inL a b
  | [] => rfl
  | x :: l => by
    rw [List.map_cons, List.any_cons, any_dec a l, eqv_dec]
    unfold inL
    by_cases c : a = x
    · subst c; simp
    · have c' : ¬ x = a := fun q => c q.symm
      simp [c, c']
theorem g_inD [De α] [DecidableEq α] {neg : Bool} {ma : R α} {mb : R (List α)} (ha : Gr K E ta σ F H ma) (hb : Gr K E tb σ F H mb) (hF : Same F H) (hd : De.dep α ≤ 60 := by decide) :
    Gr K E (tOp (rInP K neg) ta tb) σ F H (R.bd ma fun a => R.bd mb fun b => .ok (if neg = true then !inL a b else inL a b)) := fun H1 e Q hq =>
  gr_seq ha e hq fun a v H2 e2 r hq2 => gr_seq hb (e.trans e2) hq2 fun b w H3 e3 r3 hq3 => by
    refine ⟨_, _, De.dp (Rp.mono ((mix_same hF (e.trans e2)).trans e3) r), .inl (De.dp (α := List α) (Rp.mono (mix_same hF (e.trans (e2.trans e3))) r3)), De.lay a, plainAll_map b, by have := De.deep a; omega, ?_⟩
    rw [any_dec]
    exact hq3 _ H3 (Same.refl _) rfl
theorem g_inDT [De α] [DecidableEq α] {neg : Bool} {ma : R α} {mb : R (Tu α)} (ha : Gr K E ta σ F H ma) (hb : Gr K E tb σ F H mb) (hF : Same F H) (hd : De.dep α ≤ 60 := by decide) :
    Gr K E (tOp (rInP K neg) ta tb) σ F H (R.bd ma fun a => R.bd mb fun b => .ok (if neg = true then !inL a b.l else inL a b.l)) := fun H1 e Q hq =>
  gr_seq ha e hq fun a v H2 e2 r hq2 => gr_seq hb (e.trans e2) hq2 fun b w H3 e3 r3 hq3 => by
    refine ⟨_, _, De.dp (Rp.mono ((mix_same hF (e.trans e2)).trans e3) r), .inr (De.dp (α := Tu α) (Rp.mono (mix_same hF (e.trans (e2.trans e3))) r3)), De.lay a, plainAll_map b.l, by have := De.deep a; omega, ?_⟩
    rw [any_dec]
    exact hq3 _ H3 (Same.refl _) rfl
/-! ### isinstance of built-in classes: the kind is known -/
class Ty (α : Type) [Rp α] where
  ty : String
  is : ∀ {K : PySem.W.Frag} {H : Hp} {v : V} {a : α}, Rp.rep K H v a → TyX K H v (.type ty)
instance : Ty Int := ⟨"int", fun {K H v a} h => by rw [show v = V.int a from h]; exact .base (.int a)⟩
instance : Ty Bool := ⟨"bool", fun {K H v a} h => by rw [show v = V.bl a from h]; exact .base (.bl a)⟩
instance : Ty Str := ⟨"str", fun {K H v a} h => by rw [show v = V.str a from h]; exact .base (.str a)⟩
instance : Ty Unit := ⟨"NoneType", fun {K H v a} h => by rw [show v = V.non from h]; exact .base .non⟩
instance {α : Type} [Rp α] : Ty (List α) := ⟨"list", fun {K H v a} ⟨_, _, h, hp, _⟩ => by rw [h]; exact .base (.lst hp)⟩
instance {α : Type} [Rp α] : Ty (Tu α) := ⟨"tuple", fun {K H v a} ⟨_, _, h, hp, _⟩ => by rw [h]; exact .base (.tup hp)⟩
instance {α β : Type} [Rp α] [Rp β] : Ty (α × β) := ⟨"tuple", fun {K H v a} ⟨_, _, _, h, hp, _⟩ => by rw [h]; exact .base (.tup hp)⟩
instance {α β γ : Type} [Rp α] [Rp β] [Rp γ] : Ty (T3 α β γ) := ⟨"tuple", fun {K H v a} ⟨_, _, _, _, h, hp, _⟩ => by rw [h]; exact .base (.tup hp)⟩
theorem g_isi [Ty α] {m : R α} {n : String} {b : Bool} (h : Gr K E ta σ F H m) (hF : Same F H) (hk : kitB (Ty.ty α) n = some b := by decide +kernel) : Gr K E (tCB (rIsi K) (tCons ta (tCons (tC (.ty n)) tNil))) σ F H (R.bd m fun _ => .ok b) := fun H1 e Q hq =>
  gr_seq h e hq fun a v H2 e2 r hq2 => ⟨v, _, _, _, b, rfl, .ty n, Ty.is (Rp.mono (mix_same hF (e.trans e2)) r), kit_ty hk, hq2 _ H2 (Same.refl _) rfl⟩
def isiR {α : Type} (b b0 : Bool) : Option α → Bool
  | some _ => b
  | none => b0
/-- .. of what may be None -/
theorem g_isiO [Ty α] {m : R (Option α)} {n : String} {b b0 : Bool} (h : Gr K E ta σ F H m) (hF : Same F H) (hk : kitB (Ty.ty α) n = some b := by decide +kernel) (h0 : kitB "NoneType" n = some b0 := by decide +kernel) :
    Gr K E (tCB (rIsi K) (tCons ta (tCons (tC (.ty n)) tNil))) σ F H (R.bd m fun o => .ok (isiR b b0 o)) := fun H1 e Q hq =>
  gr_seq h e hq fun a v H2 e2 r hq2 => by
    cases a with
    | none => exact ⟨v, _, _, _, b0, rfl, .ty n, Ty.is (α := Unit) (K := K) (a := ()) (show v = .non from r), kit_ty h0, hq2 _ H2 (Same.refl _) rfl⟩
    | some a => exact ⟨v, _, _, _, b, rfl, .ty n, Ty.is (Rp.mono (mix_same hF (e.trans e2)) r.2), kit_ty hk, hq2 _ H2 (Same.refl _) rfl⟩
/-! ### calls of the program's defs. N: what is told is new -/
abbrev KN (K : PySem.W.Frag) (H : Hp) (Q : VK) : ρ → Prop := fun r => ∀ v' H', Same H H' → Rp.rep K (dif H H') v' r → Q v' H'
def sp0 (K : PySem.W.Frag) (f : R ρ) : Sp := fun vs H Q E => vs = [] ∧ Wp f (KN K H Q) (EE K E H)
def sp1 (K : PySem.W.Frag) (f : α → R ρ) : Sp := fun vs H Q E => ∃ v a, vs = [v] ∧ Rp.rep K H v a ∧ Wp (f a) (KN K H Q) (EE K E H)
def sp2 (K : PySem.W.Frag) (f : α → β → R ρ) : Sp := fun vs H Q E => ∃ v w a b, vs = [v, w] ∧ Rp.rep K H v a ∧ Rp.rep K H w b ∧ Wp (f a b) (KN K H Q) (EE K E H)
def sp3 (K : PySem.W.Frag) (f : α → β → γ → R ρ) : Sp := fun vs H Q E => ∃ v w x a b c, vs = [v, w, x] ∧ Rp.rep K H v a ∧ Rp.rep K H w b ∧ Rp.rep K H x c ∧ Wp (f a b c) (KN K H Q) (EE K E H)
def sp4 (K : PySem.W.Frag) (f : α → β → γ → δ → R ρ) : Sp := fun vs H Q E => ∃ v w x y a b c d, vs = [v, w, x, y] ∧ Rp.rep K H v a ∧ Rp.rep K H w b ∧ Rp.rep K H x c ∧ Rp.rep K H y d ∧ Wp (f a b c d) (KN K H Q) (EE K E H)
variable {Ex : L2.St → XK}
/-- arguments over the whole heap, in a row -/
theorem gr_arg {ma : R α} {f : α → R ρ} {Q : VK} {H1 : Hp} (ha : Gr K E ta σ H H ma) (e : Same H H1) (hq : Wp (R.bd ma f) (fun b => ∀ v H2, Same H1 H2 → Rp.rep K (mix F H H2) v b → Q v H2) (EE K E H1))
    {Q' : VK} (h : ∀ a v H2, Same H1 H2 → Rp.rep K H2 v a → Wp (f a) (fun b => ∀ v H3, Same H2 H3 → Rp.rep K (mix F H H3) v b → Q v H3) (EE K E H2) → Q' v H2) : ta σ H1 Q' := by
  refine ha H1 e Q' ?_
  rw [wp_bd] at hq
  exact wp_mono hq (fun a _ ka v H2 e2 r => h a v H2 e2 (Rp.mono (mix_same (Same.refl _) (e.trans e2)) r) (wp_mono ka (fun b _ kb v H3 e3 r3 => kb v H3 (e2.trans e3) r3) fun c _ z => z.mono e2)) fun c _ z => z
theorem g_call1 {f : α → R ρ} {ma : R α} (ha : Gr K E ta σ H H ma) (hE : Ex σ = E := by rfl) : Gr K E (tCallS (sp1 K f) Ex (tCons ta tNil)) σ F H (R.bd ma f) := by
  subst hE
  exact fun H1 e Q hq =>
  gr_arg ha e hq fun a v H2 e2 r hq2 => ⟨v, a, rfl, r, wp_mono hq2 (fun b _ k v' H3 e3 r3 => k v' H3 e3 (Rp.mono (dif_mix (e.trans e2) e3) r3)) fun c _ z => z⟩
theorem g_call2 {f : α → β → R ρ} {ma : R α} {mb : R β} (ha : Gr K E ta σ H H ma) (hb : Gr K E tb σ H H mb) (hE : Ex σ = E := by rfl) : Gr K E (tCallS (sp2 K f) Ex (tCons ta (tCons tb tNil))) σ F H (R.bd ma fun a => R.bd mb fun b => f a b) := by
  subst hE
  exact fun H1 e Q hq =>
  gr_arg ha e hq fun a v H2 e2 r hq2 => gr_arg hb (e.trans e2) hq2 fun b w H3 e3 r3 hq3 => ⟨v, w, a, b, rfl, Rp.mono e3 r, r3, wp_mono hq3 (fun b _ k v' H4 e4 r4 => k v' H4 e4 (Rp.mono (dif_mix (e.trans (e2.trans e3)) e4) r4)) fun c _ z => z⟩
theorem g_call3 {tc : TE} {f : α → β → γ → R ρ} {ma : R α} {mb : R β} {mc : R γ} (ha : Gr K E ta σ H H ma) (hb : Gr K E tb σ H H mb) (hc : Gr K E tc σ H H mc) (hE : Ex σ = E := by rfl) :
    Gr K E (tCallS (sp3 K f) Ex (tCons ta (tCons tb (tCons tc tNil)))) σ F H (R.bd ma fun a => R.bd mb fun b => R.bd mc fun c => f a b c) := by
  subst hE
  exact fun H1 e Q hq =>
  gr_arg ha e hq fun a v H2 e2 r hq2 => gr_arg hb (e.trans e2) hq2 fun b w H3 e3 r3 hq3 => gr_arg hc (e.trans (e2.trans e3)) hq3 fun c x H4 e4 r4 hq4 =>
    ⟨v, w, x, a, b, c, rfl, Rp.mono (e3.trans e4) r, Rp.mono e4 r3, r4, wp_mono hq4 (fun b _ k v' H5 e5 r5 => k v' H5 e5 (Rp.mono (dif_mix (e.trans (e2.trans (e3.trans e4))) e5) r5)) fun c _ z => z⟩
theorem g_call4 {tc td : TE} {f : α → β → γ → δ → R ρ} {ma : R α} {mb : R β} {mc : R γ} {md : R δ} (ha : Gr K E ta σ H H ma) (hb : Gr K E tb σ H H mb) (hc : Gr K E tc σ H H mc) (hd : Gr K E td σ H H md) (hE : Ex σ = E := by rfl) :
    Gr K E (tCallS (sp4 K f) Ex (tCons ta (tCons tb (tCons tc (tCons td tNil))))) σ F H (R.bd ma fun a => R.bd mb fun b => R.bd mc fun c => R.bd md fun d => f a b c d) := by
  subst hE
  exact fun H1 e Q hq =>
  gr_arg ha e hq fun a v H2 e2 r hq2 => gr_arg hb (e.trans e2) hq2 fun b w H3 e3 r3 hq3 => gr_arg hc (e.trans (e2.trans e3)) hq3 fun c x H4 e4 r4 hq4 => gr_arg hd (e.trans (e2.trans (e3.trans e4))) hq4 fun d y H5 e5 r5 hq5 =>
    ⟨v, w, x, y, a, b, c, d, rfl, Rp.mono (e3.trans (e4.trans e5)) r, Rp.mono (e4.trans e5) r3, Rp.mono e5 r4, r5, wp_mono hq5 (fun b _ k v' H6 e6 r6 => k v' H6 e6 (Rp.mono (dif_mix (e.trans (e2.trans (e3.trans (e4.trans e5)))) e6) r6)) fun c _ z => z⟩
end
end G

set_option Elab.async false
set_option linter.all false
set_option maxRecDepth 100000
set_option maxHeartbeats 2000000
/-! G: statements, loops, comprehensions. -/
namespace G
open PySem PySem.Spec PyProof.Rows L2
/-- a later pair of heaps (the frozen one, the whole); the list at p may have changed -/
structure Nx (p : Addr → Prop) (F H F' H' : Hp) : Prop where
  ff : Same F F'
  hh : ∀ b o, ¬ p b → H b = some o → H' b = some o
  fh : Same F' H'
  own : ∀ b o, tupB (some o) = false → H b = some o → F b = none → F' b = none
  th : ∀ b o, H b = some o → ∃ o', H' b = some o' ∧ tupB (some o') = tupB (some o)
abbrev Nx0 (F H F' H' : Hp) : Prop := Nx (fun _ => False) F H F' H'
theorem Nx.same {F H F' H' : Hp} (n : Nx0 F H F' H') : Same H H' := fun b o h => n.hh b o (fun z => z) h
theorem Nx.mk' {F H H' : Hp} (hF : Same F H) (e : Same H H') : Nx0 F H (mix F H H') H' :=
  ⟨same_mix hF, fun b o _ h => e b o h, mix_same hF e, fun b o z h n => by rw [mix_old h z]; exact n, fun b o h => ⟨o, e b o h, rfl⟩⟩
theorem Nx.rf {F H : Hp} (hF : Same F H) : Nx0 F H F H := ⟨Same.refl _, fun _ _ _ h => h, hF, fun _ _ _ _ n => n, fun b o h => ⟨o, h, rfl⟩⟩
/-- the element base of a list of ours: everything frozen, or what is new of it -/
def Bs (H0 F : Hp) : Bool → Hp
  | true => dif H0 F
  | false => F
theorem bs_ff {H0 F F' : Hp} (e : Same F F') : ∀ {b : Bool}, Same (Bs H0 F b) (Bs H0 F' b)
  | true => dif_mono e
  | false => e
theorem bs_le {H0 F : Hp} : ∀ {b : Bool}, Same (Bs H0 F b) F
  | true => dif_le
  | false => Same.refl _
theorem bs_mix {H0 F H H' : Hp} (e0 : Same H0 H) (hF : Same F H) (e : Same H H') : ∀ {b : Bool}, Same (mix (Bs H0 F b) H H') (Bs H0 (mix F H H') b)
  | true => mix_dif e0 hF e
  | false => Same.refl _
theorem del_same {H : Hp} {p : Addr} {o : HO} : Same (delH H p) (upd H p o) := fun b u h => by
  unfold delH at h
  split at h
  · cases h
  · rename_i c
    rw [upd_ne c]
    exact h
/-- a thing of one object that changes, its parts frozen -/
class Cel (τ : Type) [Rp τ] where
  cel : PySem.W.Frag → Hp → HO → τ → Prop
  nt : ∀ {K : PySem.W.Frag} {B : Hp} {o : HO} {x : τ}, cel K B o x → tupB (some o) = false
  mono : ∀ {K : PySem.W.Frag} {B B' : Hp} {o : HO} {x : τ}, Same B B' → cel K B o x → cel K B' o x
  rep : ∀ {K : PySem.W.Frag} {H : Hp} {p : Addr} {o : HO} {x : τ}, H p = some o → cel K H o x → Rp.rep K H (.ref p) x
instance {α : Type} [Rp α] : Cel (List α) := ⟨fun K B o xs => ∃ vs, o = .lst vs ∧ All2 (Rp.rep K B) vs xs, fun ⟨_, h, _⟩ => by rw [h]; rfl, fun e ⟨vs, h, r⟩ => ⟨vs, h, r.mono fun _ _ x => Rp.mono e x⟩, fun {K H p o x} h ⟨vs, h1, r⟩ => ⟨p, vs, rfl, by rw [h, h1], r⟩⟩
/-- a list of ours at p: not frozen, not of the entry -/
structure Own {τ : Type} [Rp τ] [Cel τ] (K : PySem.W.Frag) (H0 : Hp) (b : Bool) (F H : Hp) (p : Addr) (x : τ) : Prop where
  h0 : H0 p = none
  f : F p = none
  at_ : ∃ o, H p = some o ∧ Cel.cel K (Bs H0 F b) o x
section
variable {K : PySem.W.Frag} {E : XK} {σ : L2.St} {H0 F H F' H' : Hp} {ta tb te tl to ti : TE} {t u : TT} {tu tw tz : TS} {α β γ δ ρ S : Type} [Rp α] [Rp β] [Rp γ] [Rp δ] [Rp ρ] {D : Ends} {b : Bool} {P : Addr → Prop}
variable {τ : Type} [Rp τ] [Cel τ]
theorem Own.nx {p : Addr} {x : τ} (o : Own K H0 b F H p x) (n : Nx P F H F' H') (hp : ¬ P p) : Own K H0 b F' H' p x := by
  obtain ⟨h0, f, u, h, r⟩ := o
  exact ⟨h0, n.own p _ (Cel.nt r) h f, u, n.hh p _ hp h, Cel.mono (bs_ff n.ff) r⟩
theorem Own.nx0 {p : Addr} {x : τ} (o : Own K H0 b F H p x) (n : Nx0 F H F' H') : Own K H0 b F' H' p x := o.nx n fun z => z
theorem Own.there {p : Addr} {x : τ} (o : Own K H0 b F H p x) : ∃ u, H p = some u := let ⟨_, h, _⟩ := o.at_; ⟨_, h⟩
/-- it may be read -/
theorem Own.rep {p : Addr} {x : τ} (o : Own K H0 b F H p x) (hF : Same F H) : Rp.rep K H (.ref p) x := by
  obtain ⟨h0, f, u, h, r⟩ := o
  exact Cel.rep h (Cel.mono (bs_le.trans hF) r)
/-- it is told: all of it new -/
theorem Own.rep0 {p : Addr} {x : τ} (o : Own K H0 true F H p x) (hF : Same F H) : Rp.rep K (dif H0 H) (.ref p) x := by
  obtain ⟨h0, f, u, h, r⟩ := o
  exact Cel.rep (dif_of h0 h) (Cel.mono (dif_mono hF) r)
theorem Own.lst {p : Addr} {xs : List α} (o : Own K H0 b F H p xs) : H0 p = none ∧ F p = none ∧ ∃ vs, H p = some (.lst vs) ∧ All2 (Rp.rep K (Bs H0 F b)) vs xs := by
  obtain ⟨h0, f, u, h, vs, rfl, r⟩ := o
  exact ⟨h0, f, vs, h, r⟩
theorem Own.of {p : Addr} {xs : List α} {vs : List V} (h0 : H0 p = none) (f : F p = none) (h : H p = some (.lst vs)) (r : All2 (Rp.rep K (Bs H0 F b)) vs xs) : Own K H0 b F H p xs := ⟨h0, f, _, h, vs, rfl, r⟩
theorem Own.repS [Sc α] {p : Addr} {xs : List α} (o : Own K H0 b F H p xs) : Rp.rep K (dif H0 H) (.ref p) xs := by
  obtain ⟨h0, f, vs, h, r⟩ := o.lst
  exact ⟨p, vs, rfl, dif_of h0 h, r.mono fun _ _ x => Sc.is.mpr (Sc.is.mp x)⟩
/-- it is frozen -/
theorem Own.frz {p : Addr} {x : τ} (o : Own K H0 b F H p x) (hF : Same F H) : ∃ F', Same F F' ∧ Same F' H ∧ (∀ q, q ≠ p → F' q = F q) ∧ Rp.rep K F' (.ref p) x ∧ (b = true → Rp.rep K (dif H0 F') (.ref p) x) := by
  obtain ⟨h0, f, u, h, r⟩ := o
  refine ⟨upd F p u, same_upd f, fun x o q => ?_, fun q hq => upd_ne hq, Cel.rep upd_same (Cel.mono (bs_le.trans (same_upd f)) r), fun hb => ?_⟩
  · unfold upd at q
    split at q
    · rename_i c
      rw [c, h]
      exact q
    · exact hF x o q
  · subst hb
    exact Cel.rep (dif_of h0 upd_same) (Cel.mono (dif_mono (same_upd f)) r)
theorem Own.frzS [Sc α] {p : Addr} {xs : List α} (o : Own K H0 b F H p xs) (hF : Same F H) : ∃ F', Same F F' ∧ Same F' H ∧ (∀ q, q ≠ p → F' q = F q) ∧ Rp.rep K (dif H0 F') (.ref p) xs := by
  obtain ⟨F', h1, h2, h3, h4, h5⟩ := o.frz hF
  obtain ⟨q, vs, e, h, r⟩ := h4
  cases e
  exact ⟨F', h1, h2, h3, p, vs, rfl, dif_of o.h0 h, r.mono fun _ _ x => Sc.is.mpr (Sc.is.mp x)⟩
theorem Own.fz {p q : Addr} {x : τ} (o : Own K H0 b F H q x) (hf : Same F F') (h : ∀ q, q ≠ p → F' q = F q) (ne : q ≠ p) : Own K H0 b F' H q x := by
  obtain ⟨h0, f, u, hh, r⟩ := o
  exact ⟨h0, by rw [h q ne]; exact f, u, hh, Cel.mono (bs_ff hf) r⟩
/-! ### assignments -/
theorem s_asg {i : Nat} {m : R α} {k : α → R β} {kk : β → Prop} (he : Gr K E te σ F H m) (hF : Same F H) (e0 : Same H0 H) (hQ : Wp (R.bd m k) kk (EE K E H0))
    (c : ∀ a v F' H', Nx0 F H F' H' → Same H0 H' → Rp.rep K F' v a → Wp (k a) kk (EE K E H0) → D.nx (σ.set i (some v)) H') : tAsg te (gName i) D σ H := by
  refine he H (Same.refl _) _ ?_
  rw [wp_bd] at hQ
  exact wp_mono hQ (fun a _ q v H2 e2 r => c a v _ H2 (Nx.mk' hF e2) (e0.trans e2) r q) fun c _ z => z.mono e0
/-- what is told is new -/
theorem s_asgN {i : Nat} {m : R α} {k : α → R β} {kk : β → Prop} (he : Gr K E te σ (dif H0 F) H m) (hF : Same F H) (e0 : Same H0 H) (hQ : Wp (R.bd m k) kk (EE K E H0))
    (c : ∀ a v F' H', Nx0 F H F' H' → Same H0 H' → Rp.rep K (dif H0 F') v a → Wp (k a) kk (EE K E H0) → D.nx (σ.set i (some v)) H') : tAsg te (gName i) D σ H := by
  refine he H (Same.refl _) _ ?_
  rw [wp_bd] at hQ
  exact wp_mono hQ (fun a _ q v H2 e2 r => c a v _ H2 (Nx.mk' hF e2) (e0.trans e2) (Rp.mono (mix_dif e0 hF e2) r) q) fun c _ z => z.mono e0
abbrev nil0 : Hp := fun _ => none
/-- a new list of ints (bools, texts) that becomes ours -/
theorem s_asgO [Sc α] {i : Nat} {m : R (List α)} {k : List α → R β} {kk : β → Prop} (he : Gr K E te σ nil0 H m) (hF : Same F H) (e0 : Same H0 H) (hQ : Wp (R.bd m k) kk (EE K E H0))
    (c : ∀ a p F' H', Nx0 F H F' H' → Same H0 H' → Own K H0 b F' H' p a → (∀ q, (∃ u, H q = some u) → q ≠ p) → Wp (k a) kk (EE K E H0) → D.nx (σ.set i (some (.ref p))) H') : tAsg te (gName i) D σ H := by
  refine he H (Same.refl _) _ ?_
  rw [wp_bd] at hQ
  refine wp_mono hQ (fun a _ q v H2 e2 r => ?_) fun c _ z => z.mono e0
  obtain ⟨p, vs, rfl, hp, hv⟩ := r
  have hn : H p = none := by
    cases z : H p with
    | none => rfl
    | some u =>
      rcases mix_cases hp with ⟨h, _⟩ | ⟨h, t⟩ | ⟨_, _, _, h⟩
      · rw [z] at h; cases h
      · cases t
      · cases h
  have hp2 : H2 p = some (.lst vs) := by
    rw [mix_new hn] at hp
    exact hp
  refine c a p (delH (mix F H H2) p) H2 ⟨fun x o h => ?_, fun x o _ h => e2 x o h, fun x o h => ?_, fun x o z h n => ?_, fun x o h => ⟨o, e2 x o h, rfl⟩⟩ (e0.trans e2) (Own.of (Same.free e0 hn) delH_same hp2 (hv.mono fun _ _ x => Sc.is.mpr (Sc.is.mp x))) (fun z ⟨u, hu⟩ e => by rw [e, hn] at hu; cases hu) q
  · have : x ≠ p := fun z => by
      rw [z] at h
      have := hF p o h
      rw [hn] at this
      cases this
    rw [delH_ne this]
    exact same_mix hF x o h
  · unfold delH at h
    split at h
    · cases h
    · exact mix_same hF e2 x o h
  · unfold delH
    split
    · rfl
    · rw [mix_old h z]
      exact n
/-- a written list of ours: [e, ..] -/
theorem s_asgL {i : Nat} {tr : TA} {m : R (List α)} {k : List α → R β} {kk : β → Prop} (he : GrA K E tr σ (Bs H0 F b) H m) (hF : Same F H) (e0 : Same H0 H) (hQ : Wp (R.bd (R.bd m fun as => gd (as.length ≤ lim) (.ok as)) k) kk (EE K E H0))
    (c : ∀ a p F' H', Nx0 F H F' H' → Same H0 H' → Own K H0 b F' H' p a → (∀ q, (∃ u, H q = some u) → q ≠ p) → Wp (k a) kk (EE K E H0) → D.nx (σ.set i (some (.ref p))) H') : tAsg (tLst tr) (gName i) D σ H := by
  refine he H (Same.refl _) _ ?_
  rw [bd_assoc, wp_bd] at hQ
  refine wp_mono hQ (fun as _ q vs H2 e2 r => ?_) fun c _ z => z.mono e0
  unfold gd at q
  split at q
  · rename_i cl
    refine ⟨lim_line (by rw [r.length]; exact cl), fun p hp => ?_⟩
    have hn : H p = none := Same.free e2 hp
    refine c as p (mix F H H2) (upd H2 p (.lst vs)) ⟨same_mix hF, fun x o _ h => same_upd hp x o (e2 x o h), (mix_same hF e2).trans (same_upd hp), fun x o z h n => by rw [mix_old h z]; exact n, fun x o h => ⟨o, same_upd hp x o (e2 x o h), rfl⟩⟩
      (e0.trans (e2.trans (same_upd hp))) (Own.of (Same.free e0 hn) (by rw [mix_new hn]; exact hp) upd_same (r.mono fun _ _ x => Rp.mono (bs_mix e0 hF e2) x)) (fun z ⟨u, hu⟩ e => by rw [e, hn] at hu; cases hu) q
  · exact q.elim
/-! ### changes of a list of ours -/
/-- the expression tells the list at p, changing nothing -/
def At (te : TE) (σ : L2.St) (H : Hp) (p : Addr) : Prop := ∀ H1, Same H H1 → ∀ Q : VK, Q (.ref p) H1 → te σ H1 Q
theorem at_var {i : Nat} {p : Addr} (h : σ[i]? = some (some (.ref p))) : At (tVar i) σ H p := fun H1 _ Q q => ⟨_, h, q⟩
noncomputable def appR {α : Type} (xs : List α) (a : α) : R (List α) := gd (xs.length < lim) (.ok (xs ++ [a]))
theorem nx_upd {H2 : Hp} {p : Addr} {o o' : HO} (hF : Same F H) (e2 : Same H H2) (hp : H p = some o) (hf : F p = none) (ho : tupB (some o) = false := by rfl) (ho' : tupB (some o') = false := by rfl) : Nx (fun q => q = p) F H (mix F H H2) (upd H2 p o') :=
  ⟨same_mix hF, fun x o n h => by rw [upd_ne n]; exact e2 x o h, fun x o h => by
    have : x ≠ p := fun z => by
      rw [z, mix_old hp ho, hf] at h
      cases h
    rw [upd_ne this]
    exact mix_same hF e2 x o h, fun x o z h n => by rw [mix_old h z]; exact n, fun x u h => by
    by_cases c : x = p
    · rw [c] at h ⊢; rw [hp] at h; cases h; exact ⟨_, upd_same, by rw [ho, ho']⟩
    · rw [upd_ne c]; exact ⟨_, e2 x u h, rfl⟩⟩
theorem e0_upd {H2 : Hp} {p : Addr} {o' : HO} (e0 : Same H0 H) (e2 : Same H H2) (h0 : H0 p = none) : Same H0 (upd H2 p o') := fun x o h => by
  have : x ≠ p := fun z => by rw [z, h0] at h; cases h
  rw [upd_ne this]
  exact e2 x o (e0 x o h)
theorem s_app {p : Addr} {xs : List α} {m : R α} {k : List α → R β} {kk : β → Prop} (ha : At to σ H p) (o : Own K H0 b F H p xs) (he : Gr K E te σ (Bs H0 F b) H m) (hF : Same F H) (e0 : Same H0 H) (hQ : Wp (R.bd (R.bd m fun a => appR xs a) k) kk (EE K E H0))
    (c : ∀ xs' F' H', Nx (fun q => q = p) F H F' H' → Same H0 H' → Own K H0 b F' H' p xs' → Wp (k xs') kk (EE K E H0) → D.nx σ H') : tDrop (tBM K "list" rAppend to (tCons te tNil)) D σ H := by
  obtain ⟨h0, f, vs, hp, r⟩ := o.lst
  refine ha H (Same.refl _) _ ⟨.inl ⟨rfl, _, SqL.of hp⟩, ?_⟩
  refine he H (Same.refl _) _ ?_
  rw [bd_assoc, wp_bd] at hQ
  refine wp_mono hQ (fun a _ q v H2 e2 rv => ?_) fun c _ z => z.mono e0
  unfold appR gd at q
  split at q
  · rename_i cl
    refine ⟨p, vs, v, rfl, rfl, e2 p _ hp, lim_line' (by rw [r.length]; exact cl), ?_⟩
    exact c _ (mix F H H2) _ (nx_upd hF e2 hp f) (e0_upd e0 e2 h0) (Own.of h0 (by rw [mix_old hp]; exact f) upd_same ((r.mono fun _ _ x => Rp.mono (bs_ff (same_mix hF)) x).append (.cons (Rp.mono (bs_mix e0 hF e2) rv) .nil))) q
  · exact q.elim
def setR {α : Type} (xs : List α) (i : Int) (a : α) : R (List α) := match ixN xs.length i with
  | some j => .ok (xs.set j a)
  | none => .bad
theorem s_set {p : Addr} {xs : List α} {m : R α} {mi : R Int} {k : List α → R β} {kk : β → Prop} (ha : At to σ H p) (o : Own K H0 b F H p xs) (he : Gr K E te σ (Bs H0 F b) H m) (hi : Gr K E ti σ H H mi) (hF : Same F H) (e0 : Same H0 H)
    (hQ : Wp (R.bd (R.bd m fun a => R.bd mi fun i => setR xs i a) k) kk (EE K E H0))
    (c : ∀ xs' F' H', Nx (fun q => q = p) F H F' H' → Same H0 H' → Own K H0 b F' H' p xs' → Wp (k xs') kk (EE K E H0) → D.nx σ H') : tAsg te (gSub to ti rSetL) D σ H := by
  obtain ⟨h0, f, vs, hp, r⟩ := o.lst
  refine he H (Same.refl _) _ ?_
  rw [bd_assoc, wp_bd] at hQ
  refine wp_mono hQ (fun a _ q v H2 e2 rv => ?_) fun c _ z => z.mono e0
  refine ha H2 e2 _ ?_
  refine hi H2 e2 _ ?_
  rw [bd_assoc, wp_bd] at q
  refine wp_mono q (fun i _ q w H3 e3 ri => ?_) fun c _ z => z.mono (e0.trans e2)
  have ri' : w = .int i := ri
  subst ri'
  unfold setR at q
  rw [← r.length] at q
  cases j : ixN vs.length i with
  | none => rw [j] at q; exact q.elim
  | some j' =>
    rw [j] at q
    have e3' := e2.trans e3
    refine ⟨p, vs, i, j', rfl, rfl, e3 p _ (e2 p _ hp), j, ?_⟩
    exact c _ (mix F H H3) _ (nx_upd hF e3' hp f) (e0_upd e0 e3' h0) (Own.of h0 (by rw [mix_old hp]; exact f) upd_same ((r.mono fun _ _ x => Rp.mono (bs_ff (same_mix hF)) x).set (Rp.mono ((mix_mono e3).trans (bs_mix e0 hF e3')) rv) _)) q
/-- xs[i] op= e, ints -/
theorem s_augS {p : Addr} {xs : List Int} {m mi : R Int} {f : Int → Int → Int} {k : List Int → R β} {kk : β → Prop} (ha : At to σ H p) (o : Own K H0 b F H p xs) (hi : Gr K E ti σ H H mi) (he : Gr K E te σ H H m) (hF : Same F H) (e0 : Same H0 H)
    (hQ : Wp (R.bd (R.bd mi fun i => R.bd (idx xs i) fun x => R.bd m fun a => setR xs i (f x a)) k) kk (EE K E H0))
    (c : ∀ xs' F' H', Nx (fun q => q = p) F H F' H' → Same H0 H' → Own K H0 b F' H' p xs' → Wp (k xs') kk (EE K E H0) → D.nx σ H') : tAugS to ti te (rIxL K) (ipI f) rSetL D σ H := by
  obtain ⟨h0, fr, vs, hp, r⟩ := o.lst
  refine ha H (Same.refl _) _ ?_
  refine hi H (Same.refl _) _ ?_
  rw [bd_assoc, wp_bd] at hQ
  refine wp_mono hQ (fun i _ q w H2 e2 ri => ?_) fun c _ z => z.mono e0
  have ri' : w = .int i := ri
  subst ri'
  rw [bd_assoc] at q
  have ei := rep_ints r
  subst ei
  unfold idx at q
  cases jx : atI xs i with
  | none => rw [jx] at q; exact q.elim
  | some x =>
    rw [jx] at q
    refine ⟨p, _, i, _, rfl, rfl, SqL.of (e2 p _ hp), atI_map jx, ?_⟩
    refine he H2 e2 _ ?_
    rw [bd_ok, bd_assoc, wp_bd] at q
    refine wp_mono q (fun a _ q w2 H3 e3 ra => ?_) fun c _ z => z.mono (e0.trans e2)
    have ra' : w2 = .int a := ra
    subst ra'
    refine ⟨x, a, rfl, rfl, ?_⟩
    unfold setR at q
    cases j : ixN xs.length i with
    | none => rw [j] at q; exact q.elim
    | some j' =>
      rw [j] at q
      have e3' := e2.trans e3
      refine ⟨p, _, i, j', rfl, rfl, e3 p _ (e2 p _ hp), by rw [List.length_map]; exact j, ?_⟩
      rw [← List.map_set]
      exact c _ (mix F H H3) _ (nx_upd hF e3' hp fr) (e0_upd e0 e3' h0) (Own.of h0 (by rw [mix_old hp]; exact fr) upd_same (ints_rep _)) q
/-- x op= e, ints -/
theorem s_aug {i : Nat} {x : Int} {m : R Int} {f : Int → Int → Int} {k : Int → R β} {kk : β → Prop} (hx : σ[i]? = some (some (.int x))) (he : Gr K E te σ H H m) (hF : Same F H) (e0 : Same H0 H) (hQ : Wp (R.bd (R.bd m fun a => .ok (f x a)) k) kk (EE K E H0))
    (c : ∀ a F' H', Nx0 F H F' H' → Same H0 H' → Wp (k a) kk (EE K E H0) → D.nx (σ.set i (some (.int a))) H') : tAug i te (ipI f) D σ H := by
  refine ⟨_, hx, he H (Same.refl _) _ ?_⟩
  rw [bd_assoc, wp_bd] at hQ
  refine wp_mono hQ (fun a _ q v H2 e2 r => ?_) fun c _ z => z.mono e0
  have r' : v = .int a := r
  subst r'
  exact ⟨x, a, rfl, rfl, c _ _ H2 (Nx.mk' hF e2) (e0.trans e2) q⟩
def popR {α : Type} (xs : List α) : R (List α) := match xs with
  | [] => .bad
  | _ => .ok xs.dropLast
/-- xs.pop(), what is told is dropped -/
theorem s_pop {p : Addr} {xs : List α} {k : List α → R β} {kk : β → Prop} (ha : At to σ H p) (o : Own K H0 b F H p xs) (hF : Same F H) (e0 : Same H0 H) (hQ : Wp (R.bd (popR xs) k) kk (EE K E H0))
    (c : ∀ xs' F' H', Nx (fun q => q = p) F H F' H' → Same H0 H' → Own K H0 b F' H' p xs' → Wp (k xs') kk (EE K E H0) → D.nx σ H') : tDrop (tBM0 K "list" rPop to) D σ H := by
  obtain ⟨h0, f, vs, hp, r⟩ := o.lst
  refine ha H (Same.refl _) _ ⟨.inl ⟨rfl, _, SqL.of hp⟩, ?_⟩
  cases xs with
  | nil => exact hQ.elim
  | cons x l =>
    have hl := r.length
    have : ∃ y, vs[vs.length - 1]? = some y := ⟨vs[vs.length - 1]'(by rw [hl]; simp), List.getElem?_eq_getElem _⟩
    obtain ⟨y, hy⟩ := this
    refine ⟨p, vs, y, rfl, rfl, hp, hy, ?_⟩
    have n := nx_upd (o' := .lst vs.dropLast) hF (Same.refl H) hp f
    exact c _ _ _ n (e0_upd e0 (Same.refl _) h0) (Own.of h0 (by rw [mix_old hp]; exact f) upd_same (r.mono fun _ _ x => Rp.mono (bs_ff n.ff) x).dropLast) hQ
/-- an expression whose value is dropped -/
theorem s_drop {m : R α} {k : α → R β} {kk : β → Prop} (he : Gr K E te σ F H m) (hF : Same F H) (e0 : Same H0 H) (hQ : Wp (R.bd m k) kk (EE K E H0))
    (c : ∀ a F' H', Nx0 F H F' H' → Same H0 H' → Wp (k a) kk (EE K E H0) → D.nx σ H') : tDrop te D σ H := by
  refine he H (Same.refl _) _ ?_
  rw [wp_bd] at hQ
  exact wp_mono hQ (fun a _ q v H2 e2 r => c a _ H2 (Nx.mk' hF e2) (e0.trans e2) q) fun c _ z => z.mono e0
/-! ### unpacking -/
theorem s_unp {i j : Nat} {m : R (α × β)} {k : α × β → R γ} {kk : γ → Prop} (he : Gr K E te σ F H m) (hF : Same F H) (e0 : Same H0 H) (hQ : Wp (R.bd m k) kk (EE K E H0))
    (c : ∀ a b v w F' H', Nx0 F H F' H' → Same H0 H' → Rp.rep K F' v a → Rp.rep K F' w b → Wp (k (a, b)) kk (EE K E H0) → D.nx ((σ.set i (some v)).set j (some w)) H') : tAsg te (gTup K 2 (gCons (gName i) (gCons (gName j) gNil))) D σ H := by
  refine he H (Same.refl _) _ ?_
  rw [wp_bd] at hQ
  refine wp_mono hQ (fun a _ q v H2 e2 r => ?_) fun c _ z => z.mono e0
  obtain ⟨p, x, y, rfl, hp, r1, r2⟩ := r
  exact ⟨p, _, rfl, SqT.of (mix_same hF e2 p _ hp), rfl, x, _, rfl, y, _, rfl, rfl, c a.1 a.2 x y _ H2 (Nx.mk' hF e2) (e0.trans e2) r1 r2 q⟩
theorem s_unpN {i j : Nat} {m : R (α × β)} {k : α × β → R γ} {kk : γ → Prop} (he : Gr K E te σ (dif H0 F) H m) (hF : Same F H) (e0 : Same H0 H) (hQ : Wp (R.bd m k) kk (EE K E H0))
    (c : ∀ a b v w F' H', Nx0 F H F' H' → Same H0 H' → Rp.rep K (dif H0 F') v a → Rp.rep K (dif H0 F') w b → Wp (k (a, b)) kk (EE K E H0) → D.nx ((σ.set i (some v)).set j (some w)) H') : tAsg te (gTup K 2 (gCons (gName i) (gCons (gName j) gNil))) D σ H := by
  refine he H (Same.refl _) _ ?_
  rw [wp_bd] at hQ
  refine wp_mono hQ (fun a _ q v H2 e2 r => ?_) fun c _ z => z.mono e0
  have r' := Rp.mono (mix_dif e0 hF e2) r
  obtain ⟨p, x, y, rfl, hp, r1, r2⟩ := r'
  exact ⟨p, _, rfl, SqT.of (mix_same hF e2 p _ (dif_le p _ hp)), rfl, x, _, rfl, y, _, rfl, rfl, c a.1 a.2 x y _ H2 (Nx.mk' hF e2) (e0.trans e2) r1 r2 q⟩
/-- a, b = x, y -/
theorem s_par {i j : Nat} {ma : R α} {mb : R β} {k : α → β → R γ} {kk : γ → Prop} (ha : Gr K E ta σ F H ma) (hb : Gr K E tb σ F H mb) (hF : Same F H) (e0 : Same H0 H) (hQ : Wp (R.bd ma fun a => R.bd mb fun b => k a b) kk (EE K E H0))
    (c : ∀ a b v w F' H', Nx0 F H F' H' → Same H0 H' → Rp.rep K F' v a → Rp.rep K F' w b → Wp (k a b) kk (EE K E H0) → D.nx ((σ.set i (some v)).set j (some w)) H') : tPar i j (tCons ta (tCons tb tNil)) D σ H := by
  refine ha H (Same.refl _) _ ?_
  rw [wp_bd] at hQ
  refine wp_mono hQ (fun a _ q v H2 e2 r => ?_) fun c _ z => z.mono e0
  refine hb H2 e2 _ ?_
  rw [wp_bd] at q
  exact wp_mono q (fun b _ q w H3 e3 r3 => ⟨v, w, rfl, c a b v w _ H3 (Nx.mk' hF (e2.trans e3)) (e0.trans (e2.trans e3)) (Rp.mono (mix_mono e3) r) r3 q⟩) fun c _ z => z.mono (e0.trans e2)
/-! ### if, return -/
theorem s_if {m : R Bool} {k : Bool → R β} {kk : β → Prop} (hc : GrT K E t σ H m) (hF : Same F H) (e0 : Same H0 H) (hQ : Wp (R.bd m k) kk (EE K E H0))
    (h1 : ∀ F' H', Nx0 F H F' H' → Same H0 H' → Wp (k true) kk (EE K E H0) → tu D σ H') (h2 : ∀ F' H', Nx0 F H F' H' → Same H0 H' → Wp (k false) kk (EE K E H0) → tw D σ H') : tIfS t tu tw D σ H := by
  refine hc H (Same.refl _) _ ?_
  rw [wp_bd] at hQ
  refine wp_mono hQ (fun b _ q H2 e2 => ?_) fun c _ z => z.mono e0
  cases b with
  | true => exact h1 _ H2 (Nx.mk' hF e2) (e0.trans e2) q
  | false => exact h2 _ H2 (Nx.mk' hF e2) (e0.trans e2) q
theorem mix_new0 {H H' : Hp} (e0 : Same H0 H) (e : Same H H') : Same (mix (dif H0 H) H H') (dif H0 H') := mix_dif e0 (Same.refl _) e |>.trans (dif_mono (mix_same (Same.refl _) e))
theorem s_ret {m : R α} {k : α → R β} {kk : β → Prop} (he : Gr K E te σ (dif H0 H) H m) (e0 : Same H0 H) (hQ : Wp (R.bd m k) kk (EE K E H0)) (hk : ∀ a, Wp (k a) kk (EE K E H0) → KN K H0 D.rt a) : tRet te D σ H := by
  refine he H (Same.refl _) _ ?_
  rw [wp_bd] at hQ
  exact wp_mono hQ (fun a _ q v H2 e2 r => hk a q v H2 (e0.trans e2) (Rp.mono (mix_new0 e0 e2) r)) fun c _ z => z.mono e0
/-! ### a word between -/
theorem s_cut {M : L2.St → Hp → Prop} (h : tu { D with nx := M } σ H) (k : ∀ σ' H', M σ' H' → tz D σ' H') : Evl.tCut tu tz D σ H := ⟨M, h, k⟩
/-! ### loops -/
inductive Fl (S ρ : Type) where
  | go (s : S)
  | brk (s : S)
  | ret (r : ρ)
def forR {α S ρ : Type} (body : α → S → R (Fl S ρ)) : List α → S → R (Fl S ρ)
  | [], s => .ok (.go s)
  | x :: l, s => R.bd (body x s) fun f => match f with
    | .go s' => forR body l s'
    | .brk s' => .ok (.go s')
    | .ret r => .ok (.ret r)
/-- no break, no return -/
def forS {α S : Type} (body : α → S → R S) : List α → S → R S
  | [], s => .ok s
  | x :: l, s => R.bd (body x s) fun s' => forS body l s'
def whileR {S ρ : Type} (c : S → R Bool) (body : S → R (Fl S ρ)) : Nat → S → R (Fl S ρ)
  | 0, _ => .bad
  | n + 1, s => R.bd (c s) fun b => if b = true then R.bd (body s) fun f => match f with
      | .go s' => whileR c body n s'
      | .brk s' => .ok (.go s')
      | .ret r => .ok (.ret r)
    else .ok (.go s)
def whileS {S : Type} (c : S → R Bool) (body : S → R S) : Nat → S → R S
  | 0, _ => .bad
  | n + 1, s => R.bd (c s) fun b => if b = true then R.bd (body s) fun s' => whileS c body n s' else .ok s
/-- the iterator J tells xs, wherever the heap G stands -/
structure ItOk (J : It) (K : PySem.W.Frag) (G : Hp) (xs : List α) : Prop where
  go : ∀ i H', Same G H' → i < xs.length → J.go i H'
  stop : ∀ i H', Same G H' → i = xs.length → J.stop i H'
  yld : ∀ i H' x H'', Same G H' → i < xs.length → J.yld i H' x H'' → Same H' H'' ∧ ∃ a, xs[i]? = some a ∧ Rp.rep K (mix G H' H'') x a
def GrI (K : PySem.W.Frag) (E : XK) (wi : TI) (σ : L2.St) (F H : Hp) (m : R (List α)) : Prop :=
  ∀ H1, Same H H1 → ∀ RR : It → Hp → Prop, Wp m (fun xs => ∀ J H2, Same H1 H2 → ItOk J K (mix F H H2) xs → RR J H2) (EE K E H1) → wi σ H1 RR
theorem s_for {wi : TI} {g : TG} {m : R (List α)} {k : List α → R β} {kk : β → Prop} (hi : GrI K E wi σ F H m) (hF : Same F H) (e0 : Same H0 H) (hQ : Wp (R.bd m k) kk (EE K E H0))
    (c : ∀ xs J F' H', Nx0 F H F' H' → Same H0 H' → ItOk J K F' xs → Wp (k xs) kk (EE K E H0) → ∃ W : Nat → Nat → L2.St → Hp → Prop, (∃ m, W 0 m σ H') ∧ ∀ i m σ H, W i m σ H →
      (J.stop i H ∧ D.nx σ H) ∨ (J.go i H ∧ ∃ N : L2.St → Hp → Prop, (∀ σ' H', N σ' H' → ∃ m', m' < m ∧ W (i + 1) m' σ' H') ∧ ∀ x H', J.yld i H x H' → g x σ H' fun σ2 H2 => tu { D with nx := N, ct := N, bk := D.nx } σ2 H2)) : tFor wi g tu D σ H := by
  refine hi H (Same.refl _) _ ?_
  rw [wp_bd] at hQ
  exact wp_mono hQ (fun xs _ q J H2 e2 ok => c xs J _ H2 (Nx.mk' hF e2) (e0.trans e2) ok q) fun c _ z => z.mono e0
def kF {S ρ β : Type} (kk : Fl S ρ → Prop) (w : S → Prop) : Fl S ρ → Prop
  | .go s' => w s'
  | .brk s' => kk (.go s')
  | .ret r => kk (.ret r)
theorem drop_get {α : Type} {l : List α} {i : Nat} {a : α} (h : l[i]? = some a) : l.drop i = a :: l.drop (i + 1) := by
  obtain ⟨h1, h2⟩ := List.getElem?_eq_some_iff.mp h
  rw [List.drop_eq_getElem_cons h1, h2]
theorem for_R {ρ : Type} {J : It} {G : Hp} {xs : List α} {g : TG} {body : α → S → R (Fl S ρ)} {s0 : S} {kk : Fl S ρ → Prop} {ee : Er → Prop} (ok : ItOk J K G xs) (I : S → L2.St → Hp → Prop) (hk : ∀ s σ' H', I s σ' H' → Same G H') (h0 : I s0 σ H)
    (hQ : Wp (forR body xs s0) kk ee) (turn : ∀ x l s v σ' H' H'', I s σ' H' → Same H' H'' → Rp.rep K (mix G H' H'') v x → Wp (body x s) (kF (β := Unit) kk fun s' => Wp (forR body l s') kk ee) ee →
      g v σ' H'' fun σ2 H2 => tu { D with nx := fun σ3 H3 => ∃ s', I s' σ3 H3 ∧ Wp (forR body l s') kk ee, ct := fun σ3 H3 => ∃ s', I s' σ3 H3 ∧ Wp (forR body l s') kk ee, bk := D.nx } σ2 H2)
    (done : ∀ s σ' H', I s σ' H' → kk (.go s) → D.nx σ' H') : ∃ W : Nat → Nat → L2.St → Hp → Prop, (∃ m, W 0 m σ H) ∧ ∀ i m σ H, W i m σ H →
      (J.stop i H ∧ D.nx σ H) ∨ (J.go i H ∧ ∃ N : L2.St → Hp → Prop, (∀ σ' H', N σ' H' → ∃ m', m' < m ∧ W (i + 1) m' σ' H') ∧ ∀ x H', J.yld i H x H' → g x σ H' fun σ2 H2 => tu { D with nx := N, ct := N, bk := D.nx } σ2 H2) := by
  refine ⟨fun i m σ' H' => m = xs.length - i ∧ i ≤ xs.length ∧ ∃ s, I s σ' H' ∧ Wp (forR body (xs.drop i) s) kk ee, ⟨_, rfl, Nat.zero_le _, s0, h0, hQ⟩, ?_⟩
  rintro i m σ' H' ⟨rfl, hi, s, hI, hq⟩
  have kp := hk s σ' H' hI
  by_cases c : i < xs.length
  · refine .inr ⟨ok.go i H' kp c, fun σ3 H3 => ∃ s', I s' σ3 H3 ∧ Wp (forR body (xs.drop (i + 1)) s') kk ee, fun σ3 H3 h3 => ⟨_, by omega, rfl, c, h3⟩, fun x H'' y => ?_⟩
    obtain ⟨e1, a, ha, r⟩ := ok.yld i H' x H'' kp c y
    rw [drop_get ha] at hq
    refine turn a (xs.drop (i + 1)) s x σ' H' H'' hI e1 r ?_
    have hq2 : Wp (R.bd (body a s) fun f => match f with
      | .go s' => forR body (xs.drop (i + 1)) s'
      | .brk s' => .ok (.go s')
      | .ret r => .ok (.ret r)) kk ee := hq
    rw [wp_bd] at hq2
    refine wp_mono hq2 (fun f _ q => ?_) fun _ _ z => z
    cases f with
    | go s' => exact q
    | brk s' => exact q
    | ret r => exact q
  · have e : i = xs.length := by omega
    refine .inl ⟨ok.stop i H' kp e, done s σ' H' hI ?_⟩
    rw [e, List.drop_length] at hq
    exact hq
theorem for_S {J : It} {G : Hp} {xs : List α} {g : TG} {body : α → S → R S} {s0 : S} {kk : S → Prop} {ee : Er → Prop} (ok : ItOk J K G xs) (I : S → L2.St → Hp → Prop) (hk : ∀ s σ' H', I s σ' H' → Same G H') (h0 : I s0 σ H)
    (hQ : Wp (forS body xs s0) kk ee) (turn : ∀ x l s v σ' H' H'', I s σ' H' → Same H' H'' → Rp.rep K (mix G H' H'') v x → Wp (body x s) (fun s' => Wp (forS body l s') kk ee) ee →
      g v σ' H'' fun σ2 H2 => tu { D with nx := fun σ3 H3 => ∃ s', I s' σ3 H3 ∧ Wp (forS body l s') kk ee, ct := fun σ3 H3 => ∃ s', I s' σ3 H3 ∧ Wp (forS body l s') kk ee, bk := D.nx } σ2 H2)
    (done : ∀ s σ' H', I s σ' H' → kk s → D.nx σ' H') : ∃ W : Nat → Nat → L2.St → Hp → Prop, (∃ m, W 0 m σ H) ∧ ∀ i m σ H, W i m σ H →
      (J.stop i H ∧ D.nx σ H) ∨ (J.go i H ∧ ∃ N : L2.St → Hp → Prop, (∀ σ' H', N σ' H' → ∃ m', m' < m ∧ W (i + 1) m' σ' H') ∧ ∀ x H', J.yld i H x H' → g x σ H' fun σ2 H2 => tu { D with nx := N, ct := N, bk := D.nx } σ2 H2) := by
  refine ⟨fun i m σ' H' => m = xs.length - i ∧ i ≤ xs.length ∧ ∃ s, I s σ' H' ∧ Wp (forS body (xs.drop i) s) kk ee, ⟨_, rfl, Nat.zero_le _, s0, h0, hQ⟩, ?_⟩
  rintro i m σ' H' ⟨rfl, hi, s, hI, hq⟩
  have kp := hk s σ' H' hI
  by_cases c : i < xs.length
  · refine .inr ⟨ok.go i H' kp c, fun σ3 H3 => ∃ s', I s' σ3 H3 ∧ Wp (forS body (xs.drop (i + 1)) s') kk ee, fun σ3 H3 h3 => ⟨_, by omega, rfl, c, h3⟩, fun x H'' y => ?_⟩
    obtain ⟨e1, a, ha, r⟩ := ok.yld i H' x H'' kp c y
    rw [drop_get ha] at hq
    refine turn a (xs.drop (i + 1)) s x σ' H' H'' hI e1 r ?_
    have hq2 : Wp (R.bd (body a s) fun s' => forS body (xs.drop (i + 1)) s') kk ee := hq
    rw [wp_bd] at hq2
    exact hq2
  · have e : i = xs.length := by omega
    refine .inl ⟨ok.stop i H' kp e, done s σ' H' hI ?_⟩
    rw [e, List.drop_length] at hq
    exact hq
/-- while -/
theorem while_R {ρ : Type} {c : S → R Bool} {body : S → R (Fl S ρ)} {n : Nat} {s0 : S} {kk : Fl S ρ → Prop} (I : S → L2.St → Hp → Prop) (h0 : I s0 σ H) (hQ : Wp (whileR c body n s0) kk (EE K E H0))
    (hc : ∀ s σ' H', I s σ' H' → Same H0 H' ∧ GrT K E t σ' H' (c s))
    (hb : ∀ n s σ' H' H1, I s σ' H' → Same H' H1 → Wp (body s) (kF (β := Unit) kk fun s' => Wp (whileR c body n s') kk (EE K E H0)) (EE K E H0) →
      tu { D with nx := fun σ3 H3 => ∃ s', I s' σ3 H3 ∧ Wp (whileR c body n s') kk (EE K E H0), ct := fun σ3 H3 => ∃ s', I s' σ3 H3 ∧ Wp (whileR c body n s') kk (EE K E H0), bk := D.nx } σ' H1)
    (hd : ∀ s σ' H' H1, I s σ' H' → Same H' H1 → kk (.go s) → D.nx σ' H1) : tWhile t tu D σ H := by
  refine ⟨fun n σ' H' => ∃ s, I s σ' H' ∧ Wp (whileR c body n s) kk (EE K E H0), ⟨n, s0, h0, hQ⟩, ?_⟩
  rintro n σ' H' ⟨s, hI, hq⟩
  cases n with
  | zero => exact hq.elim
  | succ n =>
    obtain ⟨e0, gc⟩ := hc s σ' H' hI
    have hq2 : Wp (R.bd (c s) fun b => if b = true then R.bd (body s) fun f => match f with
      | .go s' => whileR c body n s'
      | .brk s' => .ok (.go s')
      | .ret r => .ok (.ret r)
    else .ok (.go s)) kk (EE K E H0) := hq
    refine gc H' (Same.refl _) _ ?_
    rw [wp_bd] at hq2
    refine wp_mono hq2 (fun b _ q H1 e1 => ?_) fun _ _ z => z.mono e0
    cases b with
    | true =>
      refine ⟨_, fun σ3 H3 h3 => ⟨n, Nat.lt_succ_self n, h3⟩, hb n s σ' H' H1 hI e1 ?_⟩
      have q2 : Wp (R.bd (body s) fun f => match f with
        | .go s' => whileR c body n s'
        | .brk s' => .ok (.go s')
        | .ret r => .ok (.ret r)) kk (EE K E H0) := q
      rw [wp_bd] at q2
      refine wp_mono q2 (fun f _ q => ?_) fun _ _ z => z
      cases f with
      | go s' => exact q
      | brk s' => exact q
      | ret r => exact q
    | false => exact hd s σ' H' H1 hI e1 q
theorem while_S {c : S → R Bool} {body : S → R S} {n : Nat} {s0 : S} {kk : S → Prop} (I : S → L2.St → Hp → Prop) (h0 : I s0 σ H) (hQ : Wp (whileS c body n s0) kk (EE K E H0))
    (hc : ∀ s σ' H', I s σ' H' → Same H0 H' ∧ GrT K E t σ' H' (c s))
    (hb : ∀ n s σ' H' H1, I s σ' H' → Same H' H1 → Wp (body s) (fun s' => Wp (whileS c body n s') kk (EE K E H0)) (EE K E H0) →
      tu { D with nx := fun σ3 H3 => ∃ s', I s' σ3 H3 ∧ Wp (whileS c body n s') kk (EE K E H0), ct := fun σ3 H3 => ∃ s', I s' σ3 H3 ∧ Wp (whileS c body n s') kk (EE K E H0), bk := D.nx } σ' H1)
    (hd : ∀ s σ' H' H1, I s σ' H' → Same H' H1 → kk s → D.nx σ' H1) : tWhile t tu D σ H := by
  refine ⟨fun n σ' H' => ∃ s, I s σ' H' ∧ Wp (whileS c body n s) kk (EE K E H0), ⟨n, s0, h0, hQ⟩, ?_⟩
  rintro n σ' H' ⟨s, hI, hq⟩
  cases n with
  | zero => exact hq.elim
  | succ n =>
    obtain ⟨e0, gc⟩ := hc s σ' H' hI
    have hq2 : Wp (R.bd (c s) fun b => if b = true then R.bd (body s) fun s' => whileS c body n s' else .ok s) kk (EE K E H0) := hq
    refine gc H' (Same.refl _) _ ?_
    rw [wp_bd] at hq2
    refine wp_mono hq2 (fun b _ q H1 e1 => ?_) fun _ _ z => z.mono e0
    cases b with
    | true =>
      refine ⟨_, fun σ3 H3 h3 => ⟨n, Nat.lt_succ_self n, h3⟩, hb n s σ' H' H1 hI e1 ?_⟩
      have q2 : Wp (R.bd (body s) fun s' => whileS c body n s') kk (EE K E H0) := q
      rw [wp_bd] at q2
      exact q2
    | false => exact hd s σ' H' H1 hI e1 q
/-! ### what a for walks -/
theorem same_mix0 {G H : Hp} (e : Same G H) : Same G (mix G H H) := same_mix e
theorem i_list {m : R (List α)} (h : Gr K E tl σ F H m) (hF : Same F H) : GrI K E (iList K tl) σ F H m := fun H1 e RR hq =>
  h H1 e _ (wp_mono hq (fun xs _ k v H2 e2 r => by
    obtain ⟨p, vs, rfl, hp, hv⟩ := r
    refine ⟨p, rfl, ⟨vs, SqL.of (mix_same hF (e.trans e2) p _ hp)⟩, k _ H2 e2 ⟨fun i H' s hi => ⟨vs, vs[i]'(by rw [hv.length]; exact hi), SqL.of (s p _ hp), List.getElem?_eq_getElem _⟩, fun i H' s hi => ⟨vs, SqL.of (s p _ hp), by rw [hv.length, hi]; exact Nat.le_refl _⟩, fun i H' x H'' s hi y => ?_⟩⟩
    obtain ⟨e1, y⟩ := y
    subst e1
    obtain ⟨a, ha, ra⟩ := hv.getL (y vs (SqL.of (s p _ hp)))
    exact ⟨Same.refl _, a, ha, Rp.mono (same_mix s) ra⟩) fun _ _ z => z)
theorem i_listS {m : R Scr} (h : Gr K E tl σ F H m) (hF : Same F H) : GrI K E (iList K tl) σ F H (R.bd m fun s => .ok s.l) := fun H1 e RR hq =>
  h H1 e _ (by
    rw [wp_bd] at hq
    refine wp_mono hq (fun xs _ k v H2 e2 r => ?_) fun _ _ z => z
    obtain ⟨p, rfl, hp⟩ := r
    have hl : ∀ {H' : Hp}, Same (mix F H H2) H' → SqL K H' p (xs.l.map V.int) := fun s => s.seq hp
    refine ⟨p, rfl, ⟨_, hl (mix_same hF (e.trans e2))⟩, k _ H2 e2 ⟨fun i H' s hi => ⟨_, .int (xs.l[i]), hl s, by rw [List.getElem?_map, List.getElem?_eq_getElem hi]; rfl⟩, fun i H' s hi => ⟨_, hl s, by rw [List.length_map, hi]; exact Nat.le_refl _⟩, fun i H' x H'' s hi y => ?_⟩⟩
    obtain ⟨e1, y⟩ := y
    subst e1
    have z := y _ (hl s)
    rw [List.getElem?_map] at z
    cases q : xs.l[i]? with
    | none => rw [q] at z; cases z
    | some n =>
      rw [q] at z
      exact ⟨Same.refl _, n, rfl, (Option.some.inj z).symm⟩)
theorem i_tup {m : R (Tu α)} (h : Gr K E tl σ F H m) (hF : Same F H) : GrI K E (iTup K tl) σ F H (R.bd m fun s => .ok s.l) := fun H1 e RR hq =>
  h H1 e _ (by
    rw [wp_bd] at hq
    refine wp_mono hq (fun xs _ k v H2 e2 r => ?_) fun _ _ z => z
    obtain ⟨p, vs, rfl, hp, hv⟩ := r
    refine ⟨p, rfl, ⟨vs, SqT.of (mix_same hF (e.trans e2) p _ hp)⟩, k _ H2 e2 ⟨fun i H' s hi => ⟨vs, vs[i]'(by rw [hv.length]; exact hi), SqT.of (s p _ hp), List.getElem?_eq_getElem _⟩, fun i H' s hi => ⟨vs, SqT.of (s p _ hp), by rw [hv.length, hi]; exact Nat.le_refl _⟩, fun i H' x H'' s hi y => ?_⟩⟩
    obtain ⟨e1, y⟩ := y
    subst e1
    obtain ⟨a, ha, ra⟩ := hv.getL (y vs (SqT.of (s p _ hp)))
    exact ⟨Same.refl _, a, ha, Rp.mono (same_mix s) ra⟩)
/-- lo, lo + 1, .. below hi -/
def rngL (lo hi : Int) : List Int := (List.range (hi - lo).toNat).map fun i : Nat => lo + (i : Int)
theorem rngL_len (lo hi : Int) : (rngL lo hi).length = (hi - lo).toNat := by unfold rngL; simp
theorem rngL_get {lo hi : Int} {i : Nat} (h : i < (hi - lo).toNat) : (rngL lo hi)[i]? = some (lo + (i : Int)) := by
  unfold rngL
  rw [List.getElem?_map, List.getElem?_range h]
  rfl
def rngOk (n : Int) : Prop := -(2 ^ 62) ≤ n ∧ n < 2 ^ 62
instance {n : Int} : Decidable (rngOk n) := by unfold rngOk; exact inferInstance
noncomputable def rng1 (n : Int) : R (List Int) := gd (rngOk n) (.ok (rngL 0 n))
noncomputable def rng2 (a b : Int) : R (List Int) := gd (rngOk a ∧ rngOk b) (.ok (rngL a b))
theorem itr_ok {lo hi : Int} {G : Hp} : ItOk (Itr lo (hi - lo).toNat) K G (rngL lo hi) := by
  refine ⟨fun i H' s hi => ?_, fun i H' s hi => ?_, fun i H' x H'' s hi y => ?_⟩
  · rw [rngL_len] at hi
    exact hi
  · rw [rngL_len] at hi
    exact Nat.le_of_eq hi.symm
  · obtain ⟨e1, y⟩ := y
    subst e1 y
    rw [rngL_len] at hi
    exact ⟨Same.refl _, _, rngL_get hi, rfl⟩
theorem i_rng1 {m : R Int} (h : Gr K E ta σ F H m) : GrI K E (iRng1 (tCons ta tNil)) σ F H (R.bd m rng1) := fun H1 e RR hq =>
  h H1 e _ (by
    rw [wp_bd] at hq
    refine wp_mono hq (fun n _ k v H2 e2 r => ?_) fun _ _ z => z
    have r' : v = .int n := r
    subst r'
    unfold rng1 gd at k
    split at k
    · rename_i c
      refine ⟨n, rfl, c.1, by have := c.2; omega, ?_⟩
      have z := k (Itr 0 (n - 0).toNat) H2 e2 itr_ok
      rw [show (n - 0).toNat = n.toNat by rw [Int.sub_zero]] at z
      exact z
    · exact k.elim)
theorem i_rng2 {ma mb : R Int} (ha : Gr K E ta σ F H ma) (hb : Gr K E tb σ F H mb) : GrI K E (iRng2 (tCons ta (tCons tb tNil))) σ F H (R.bd ma fun a => R.bd mb fun b => rng2 a b) := fun H1 e RR hq =>
  ha H1 e _ (by
    rw [wp_bd] at hq
    refine wp_mono hq (fun n _ k v H2 e2 r => ?_) fun _ _ z => z
    have r' : v = .int n := r
    subst r'
    refine hb H2 (e.trans e2) _ ?_
    rw [wp_bd] at k
    refine wp_mono k (fun n2 _ k v2 H3 e3 r3 => ?_) fun _ _ z => z.mono e2
    have r3' : v2 = .int n2 := r3
    subst r3'
    unfold rng2 gd at k
    split at k
    · rename_i c
      obtain ⟨⟨c1, c2⟩, c3, c4⟩ := c
      exact ⟨n, n2, rfl, ⟨by omega, by omega, by omega, by omega⟩, k _ H3 (e2.trans e3) itr_ok⟩
    · exact k.elim)
/-- hi, hi - 1, .. above lo -/
def rngD (hi lo : Int) : List Int := (List.range (hi - lo).toNat).map fun i : Nat => hi - (i : Int)
noncomputable def rng3D (a b : Int) : R (List Int) := gd (rngOk a ∧ rngOk b) (.ok (rngD a b))
theorem i_rng3D {ma mb : R Int} {tc : TE} (ha : Gr K E ta σ F H ma) (hb : Gr K E tb σ F H mb) (hc : Gr K E tc σ F H (.ok (-1 : Int))) : GrI K E (iRng3 (tCons ta (tCons tb (tCons tc tNil)))) σ F H (R.bd ma fun a => R.bd mb fun b => rng3D a b) := fun H1 e RR hq =>
  ha H1 e _ (by
    rw [wp_bd] at hq
    refine wp_mono hq (fun n _ k v H2 e2 r => ?_) fun _ _ z => z
    have r' : v = .int n := r
    subst r'
    refine hb H2 (e.trans e2) _ ?_
    rw [wp_bd] at k
    refine wp_mono k (fun n2 _ k v2 H3 e3 r3 => ?_) fun _ _ z => z.mono e2
    have r3' : v2 = .int n2 := r3
    subst r3'
    refine hc H3 (e.trans (e2.trans e3)) _ (fun v3 H4 e4 r4 => ?_)
    have r4' : v3 = .int (-1) := r4
    subst r4'
    unfold rng3D gd at k
    split at k
    · rename_i c
      obtain ⟨⟨c1, c2⟩, c3, c4⟩ := c
      refine ⟨n, n2, -1, (n - n2).toNat, rfl, RgC.neg (by omega) (by omega) (by omega) (by omega), k _ H4 (e2.trans (e3.trans e4)) ⟨fun i H' s hi => ?_, fun i H' s hi => ?_, fun i H' x H'' s hi y => ?_⟩⟩
      · unfold rngD at hi
        simp at hi
        show i < (n - n2).toNat
        omega
      · unfold rngD at hi
        simp at hi
        show (n - n2).toNat ≤ i
        omega
      · obtain ⟨e1, y⟩ := y
        subst e1 y
        unfold rngD at hi ⊢
        simp at hi
        refine ⟨Same.refl _, _, by rw [List.getElem?_map, List.getElem?_range (by omega)]; rfl, ?_⟩
        show V.int (n + ((i : Nat) : Int) * (-1)) = V.int (n - ((i : Nat) : Int))
        congr 1
        omega
    · exact k.elim)
/-- enumerate(xs) -/
def enumL {α : Type} (xs : List α) : List (Int × α) := xs.zipIdx.map fun p => ((p.2 : Int), p.1)
theorem enumL_len (xs : List α) : (enumL xs).length = xs.length := by unfold enumL; simp
theorem enumL_get {xs : List α} {i : Nat} {a : α} (h : xs[i]? = some a) : (enumL xs)[i]? = some ((i : Int), a) := by
  unfold enumL
  rw [List.getElem?_map, List.getElem?_zipIdx, h]
  simp
theorem i_enum {m : R (List α)} (h : Gr K E ta σ F H m) (hF : Same F H) : GrI K E (iEnum K (tCons ta tNil)) σ F H (R.bd m fun xs => .ok (enumL xs)) := fun H1 e RR hq =>
  h H1 e _ (by
    rw [wp_bd] at hq
    refine wp_mono hq (fun xs _ k v H2 e2 r => ?_) fun _ _ z => z
    obtain ⟨p, vs, rfl, hp, hv⟩ := r
    refine ⟨p, vs, rfl, SqL.of (mix_same hF (e.trans e2) p _ hp), k _ H2 e2 ⟨fun i H' s hi => ?_, fun i H' s hi => ?_, fun i H' x H'' s hi y => ?_⟩⟩
    · rw [enumL_len] at hi
      exact ⟨vs, vs[i]'(by rw [hv.length]; exact hi), SqL.of (s p _ hp), List.getElem?_eq_getElem _⟩
    · rw [enumL_len] at hi
      exact ⟨vs, SqL.of (s p _ hp), by rw [hv.length, hi]; exact Nat.le_refl _⟩
    · obtain ⟨T, x, rfl, hT, rfl, y⟩ := y
      obtain ⟨a, ha, ra⟩ := hv.getL (y vs (SqL.of (s p _ hp)))
      refine ⟨same_upd hT, _, enumL_get ha, T, _, x, rfl, by rw [mix_new hT]; exact upd_same, rfl, Rp.mono (same_mix s) ra⟩)
/-! ### a list comprehension -/
def compGo {α β : Type} (c : α → R Bool) (f : α → R β) : List α → R (List β)
  | [] => .ok []
  | x :: l => R.bd (c x).nx fun b => if b = true then R.bd (f x).nx fun y => R.bd (compGo c f l) fun ys => .ok (y :: ys) else compGo c f l
noncomputable def compR {α β : Type} (xs : List α) (c : α → R Bool) (f : α → R β) : R (List β) := gd (xs.length ≤ lim) (compGo c f xs)
theorem wp_nx {m : R α} {k : α → Prop} {ee ee' : Er → Prop} (h : Wp m.nx k ee) : Wp m k ee' := by
  cases m with
  | ok a => exact h
  | er c => exact h.elim
  | bad => exact h.elim
abbrev EF : XK := fun _ _ _ => False
theorem t_yes : GrT K E tYes σ H (.ok true) := fun H1 e Q hq => hq H1 (Same.refl _)
theorem cmp_f {H2 Hc : Hp} {Dl : Addr} (hF : Same F H) (hn : H Dl = none) (e : Same H Hc) : Same F (delH (mix F H Hc) Dl) := fun x o h => by
  have : x ≠ Dl := fun z => by rw [z] at h; have := hF _ _ h; rw [hn] at this; cases this
  rw [delH_ne this]
  exact same_mix hF x o h
theorem del_le {H : Hp} {p : Addr} : Same (delH H p) H := fun x o h => by
  unfold delH at h
  split at h
  · cases h
  · exact h
theorem cmp_el {Hc H4 : Hp} {Dl : Addr} {o : HO} (hn : H Dl = none) (hD : ∃ u, Hc Dl = some (.lst u)) (e : Same H Hc) (e4 : Same Hc H4) : Same (mix (delH (mix F H Hc) Dl) Hc H4) (delH (mix F H (upd H4 Dl o)) Dl) := fun x u h => by
  have ne : x ≠ Dl := fun z => by
    obtain ⟨w, hw⟩ := hD
    rw [z, mix_old hw, delH_same] at h
    cases h
  have new : H x = none → Hc x = some u ∨ H4 x = some u → mix F H (upd H4 Dl o) x = some u := fun z q => by
    rw [mix_new z, upd_ne ne]
    exact q.elim (fun q => e4 x u q) fun q => q
  rw [delH_ne ne]
  rcases mix_cases h with ⟨q, h⟩ | ⟨q, t⟩ | ⟨w, q, t, h⟩
  · exact new (Same.free e q) (.inr h)
  · cases z : H x with
    | none => exact new z (.inl q)
    | some y =>
      have := e x y z
      rw [q] at this
      cases this
      exact mix_tup z t
  · rw [delH_ne ne] at h
    rcases mix_cases h with ⟨z, h⟩ | ⟨z, t2⟩ | ⟨y, z, t2, h⟩
    · exact new z (.inl h)
    · exact mix_tup z t2
    · rw [mix_old z t2]
      exact h
theorem cmp_it {H2 H' H'' : Hp} {Dl : Addr} (hn : H Dl = none) (h2 : H2 Dl = none) (hD : ∃ u, H' Dl = some (.lst u)) (e : Same H H2) (e2 : Same H2 H') (e3 : Same H' H'') : Same (mix (mix F H H2) H' H'') (delH (mix F H H'') Dl) := fun x u h => by
  have ne : x ≠ Dl := fun z => by
    obtain ⟨w, hw⟩ := hD
    rw [z, mix_old hw, mix_new hn, h2] at h
    cases h
  have new : H x = none → H'' x = some u → mix F H H'' x = some u := fun z q => by
    rw [mix_new z]
    exact q
  rw [delH_ne ne]
  rcases mix_cases h with ⟨q, h⟩ | ⟨q, t⟩ | ⟨w, q, t, h⟩
  · exact new (Same.free (e.trans e2) q) h
  · cases z : H x with
    | none => exact new z (e3 x u q)
    | some y =>
      have := (e.trans e2) x y z
      rw [q] at this
      cases this
      exact mix_tup z t
  · rcases mix_cases h with ⟨z, h⟩ | ⟨z, t2⟩ | ⟨y, z, t2, h⟩
    · exact new z (e3 x u (e2 x u h))
    · exact mix_tup z t2
    · rw [mix_old z t2]
      exact h
/-- the frozen part, without the list that is made, grows along -/
theorem cmp_go {Hc H4 : Hp} {Dl : Addr} (e4 : Same Hc H4) : Same (delH (mix F H Hc) Dl) (delH (mix F H H4) Dl) := fun x u h => by
  have ne : x ≠ Dl := fun w => by rw [w, delH_same] at h; cases h
  rw [delH_ne ne] at h ⊢
  exact mix_mono e4 x u h
theorem cmp_up {Hc : Hp} {Dl : Addr} {o : HO} (hn : H Dl = none) : Same (delH (mix F H Hc) Dl) (delH (mix F H (upd Hc Dl o)) Dl) := fun x u h => by
  have ne : x ≠ Dl := fun w => by rw [w, delH_same] at h; cases h
  rw [delH_ne ne] at h ⊢
  rcases mix_cases h with ⟨z, h⟩ | ⟨z, t2⟩ | ⟨y, z, t2, h⟩
  · rw [mix_new z, upd_ne ne]; exact h
  · exact mix_tup z t2
  · rw [mix_old z t2]; exact h
theorem g_compG {Fr : Hp} {wi : TI} {g : TG} {tt : TT} {te : TE} {vs : List Nat} {m : R (List α)} {cf : α → R Bool} {f : α → R β} (hres : ∀ H3 Dl acc ys, All2 (Rp.rep K (delH (mix F H H3) Dl)) acc (ys : List β) → All2 (Rp.rep K (mix Fr H H3)) acc ys) (hi : GrI K E wi σ F H m) (hF : Same F H)
    (hel : ∀ x v F2 H2, Same F F2 → Same F2 H2 → Same H H2 → Rp.rep K F2 v x → ∃ σ2, (∀ Q : L2.St → Hp → Prop, Q σ2 H2 → g v (wipe σ vs) H2 Q) ∧ wipe σ2 vs = wipe σ vs ∧ GrT K EF tt σ2 H2 (cf x) ∧ Gr K EF te σ2 F2 H2 (f x)) :
    Gr K E (tLc wi g tt te vs) σ Fr H (R.bd m fun xs => compR xs cf f) := fun H1 e Q hq =>
  hi H1 e _ (by
    rw [wp_bd] at hq
    refine wp_mono hq (fun xs _ k J H2 e2 ok => ?_) fun _ _ z => z
    unfold compR gd at k
    split at k
    · rename_i cl
      intro Dl hD
      have hnD : H Dl = none := Same.free (e.trans e2) hD
      refine ⟨fun i m H' => m = xs.length - i ∧ i ≤ xs.length ∧ Same H2 H' ∧ ∃ acc ys, H' Dl = some (.lst acc) ∧ acc.length ≤ i ∧ All2 (Rp.rep K (delH (mix F H H') Dl)) acc ys ∧
        Wp (compGo cf f (xs.drop i)) (fun zs => ∀ H3, Same H1 H3 → H3 Dl = H3 Dl → ∀ v, Rp.rep K (mix Fr H H3) v (ys ++ zs) → Q v H3) (fun _ => False), ⟨_, rfl, Nat.zero_le _, same_upd hD, [], [], upd_same, Nat.le_refl _, .nil, ?_⟩, ?_⟩
      · rw [List.drop_zero]
        refine wp_mono k (fun zs _ q H3 e3 _ v r => q v H3 e3 r) fun c hc _ => ?_
        exfalso
        have : ∀ l : List α, ∀ c, compGo cf f l ≠ .er c := by
          intro l
          induction l with
          | nil => intro c z; cases z
          | cons x l ih =>
            intro c z
            unfold compGo at z
            cases h1 : cf x with
            | ok b =>
              rw [h1] at z
              have z2 : (if b = true then R.bd (f x).nx fun y => R.bd (compGo cf f l) fun ys => .ok (y :: ys) else compGo cf f l) = .er c := z
              cases b with
              | true =>
                rw [if_pos rfl] at z2
                cases h2 : f x with
                | ok y =>
                  rw [h2] at z2
                  have z3 : (R.bd (compGo cf f l) fun ys => .ok (y :: ys)) = .er c := z2
                  cases h3 : compGo cf f l with
                  | ok ys => rw [h3] at z3; cases z3
                  | er c' => exact ih c' h3
                  | bad => rw [h3] at z3; cases z3
                | er c' => rw [h2] at z2; cases z2
                | bad => rw [h2] at z2; cases z2
              | false =>
                rw [if_neg Bool.false_ne_true] at z2
                exact ih c z2
            | er c' => rw [h1] at z; cases z
            | bad => rw [h1] at z; cases z
        exact this xs c hc
      · rintro i m H' ⟨rfl, hi', sH, acc, ys, hacc, hal, hall, hw⟩
        have hG : Same (mix F H H2) H' := (mix_same hF (e.trans e2)).trans sH
        by_cases ci : i < xs.length
        · refine .inr ⟨ok.go i H' hG ci, _, fun H3 h3 => ⟨xs.length - (i + 1), by omega, h3⟩, fun v H'' y => ?_⟩
          obtain ⟨e1, a, ha, r⟩ := ok.yld i H' v H'' hG ci y
          have hacc2 := e1 _ _ hacc
          have eH : Same H H'' := (e.trans e2).trans (sH.trans e1)
          obtain ⟨σ2, hg, hwp, gt, ge⟩ := hel a v (delH (mix F H H'') Dl) H'' (cmp_f (H2 := H2) hF hnD eH) (del_le.trans (mix_same hF eH)) eH (Rp.mono (cmp_it hnD hD ⟨_, hacc⟩ (e.trans e2) sH e1) r)
          refine hg _ ⟨hwp, gt H'' (Same.refl _) _ ?_⟩
          rw [drop_get ha] at hw
          unfold compGo at hw
          rw [wp_bd] at hw
          refine wp_nx (wp_mono hw (fun b _ q H3 e3 => ?_) fun _ _ z => z)
          have al' : All2 (Rp.rep K (delH (mix F H H3) Dl)) acc ys := hall.mono fun _ _ x => Rp.mono (cmp_go (e1.trans e3)) x
          cases b with
          | true =>
            show te σ2 H3 _
            refine ge H3 e3 _ ?_
            have q2 : Wp (R.bd (f a).nx fun y => R.bd (compGo cf f (xs.drop (i + 1))) fun ys => .ok (y :: ys)) _ _ := q
            rw [wp_bd] at q2
            refine wp_nx (wp_mono q2 (fun y _ q3 w H4 e4 rw4 => ?_) fun _ _ z => z)
            have hacc4 := e4 _ _ (e3 _ _ hacc2)
            refine ⟨acc, hacc4, lim_line' (by omega), rfl, ci, ?_, acc ++ [w], ys ++ [y], upd_same, by rw [List.length_append]; simp; omega, ?_, ?_⟩
            · exact fun x o h => by
                have ne : x ≠ Dl := fun z => by rw [z, hD] at h; cases h
                rw [upd_ne ne]
                exact e4 _ _ (e3 _ _ (e1 _ _ (sH _ _ h)))
            · refine All2.append (al'.mono fun _ _ x => Rp.mono ((cmp_go e4).trans (cmp_up hnD)) x) (.cons (Rp.mono (cmp_el hnD ⟨_, hacc2⟩ eH (e3.trans e4)) rw4) .nil)
            · rw [wp_bd] at q3
              refine wp_mono q3 (fun zs _ q4 H5 e5 _ v5 r5 => ?_) fun _ _ z => z
              refine q4 H5 e5 rfl v5 ?_
              rw [List.append_assoc] at r5
              exact r5
          | false =>
            exact ⟨rfl, ci, fun x o h => e3 _ _ (e1 _ _ (sH _ _ h)), acc, ys, e3 _ _ hacc2, by omega, al', q⟩
        · have ei : i = xs.length := by omega
          refine .inl ⟨ok.stop i H' hG ei, ?_⟩
          rw [ei, List.drop_length] at hw
          have hw2 : ∀ H3, Same H1 H3 → H3 Dl = H3 Dl → ∀ v, Rp.rep K (mix Fr H H3) v (ys ++ []) → Q v H3 := hw
          refine hw2 H' (e2.trans sH) rfl _ ?_
          rw [List.append_nil]
          exact ⟨Dl, acc, rfl, by rw [mix_new hnD]; exact hacc, hres _ _ _ _ hall⟩
    · exact k.elim)
theorem g_comp {wi : TI} {g : TG} {tt : TT} {te : TE} {vs : List Nat} {m : R (List α)} {cf : α → R Bool} {f : α → R β} (hi : GrI K E wi σ F H m) (hF : Same F H)
    (hel : ∀ x v F2 H2, Same F F2 → Same F2 H2 → Same H H2 → Rp.rep K F2 v x → ∃ σ2, (∀ Q : L2.St → Hp → Prop, Q σ2 H2 → g v (wipe σ vs) H2 Q) ∧ wipe σ2 vs = wipe σ vs ∧ GrT K EF tt σ2 H2 (cf x) ∧ Gr K EF te σ2 F2 H2 (f x)) :
    Gr K E (tLc wi g tt te vs) σ F H (R.bd m fun xs => compR xs cf f) := g_compG (fun _ _ _ _ h => h.mono fun _ _ x => Rp.mono del_le x) hi hF hel
/-- .. that tells ints (bools, texts), over anything -/
theorem g_compS [Sc β] {wi : TI} {g : TG} {tt : TT} {te : TE} {vs : List Nat} {m : R (List α)} {cf : α → R Bool} {f : α → R β} (hi : GrI K E wi σ H H m)
    (hel : ∀ x v F2 H2, Same H F2 → Same F2 H2 → Same H H2 → Rp.rep K F2 v x → ∃ σ2, (∀ Q : L2.St → Hp → Prop, Q σ2 H2 → g v (wipe σ vs) H2 Q) ∧ wipe σ2 vs = wipe σ vs ∧ GrT K EF tt σ2 H2 (cf x) ∧ Gr K EF te σ2 F2 H2 (f x)) :
    Gr K E (tLc wi g tt te vs) σ F H (R.bd m fun xs => compR xs cf f) := g_compG (fun _ _ _ _ h => h.mono fun _ _ x => Sc.is.mpr (Sc.is.mp x)) hi (Same.refl _) hel
end
end G

set_option Elab.async false
set_option linter.all false
set_option maxRecDepth 100000
set_option maxHeartbeats 4000000
/-! G: errors that are caught and kept by a name. -/
namespace G
open PySem PySem.Spec PyProof.Rows L2
/-- an error of the class at C that was caught, at a; its own dict d -/
def ExH (C : Addr) (d : Option Addr) (a : Addr) : HO := .ext fun h => ∃ (oe : Obj) (vs : Array Value), h.get? a = some oe ∧ Zc (.ref C) d oe ∧ oe.data = .fields vs
theorem exH_ok {P : Program} {w : World} {H : Hp} {h : Heap} {a C : Addr} {d : Option Addr} {oe : Obj} {vs : Array Value} (e : h.get? a = some oe) (z : Zc (.ref C) d oe) (dt : oe.data = .fields vs) : ObjOk P w H h a (ExH C d a) :=
  ⟨⟨oe, vs, e, z, dt⟩, ⟨oe, e⟩, fun _ _ ⟨o, v, q, r⟩ k => ⟨o, v, k o q, r⟩⟩
section
variable {X : Cx} {pins : List (Addr × Obj)} {σ : L2.St} {H : Hp} {s : Shared}
/-- an object of ours that stood untracked is tracked -/
theorem inv_track {a : Addr} {o : HO} (I : Inv X pins σ H s) (h0 : X.s_0.heap.get? a = none) (na : H a = none) (nL : a ≠ X.env.locals) (nC : ∀ x c, X.env.cells.lookup x = some c → c ≠ a) (nP : ∀ p ∈ X.pn ++ pins, p.1 ≠ a)
    (new : ObjOk X.prog X.w (upd H a o) s.heap a o) : Inv X pins σ (upd H a o) s := by
  have ne0 : ∀ b u, X.s_0.heap.get? b = some u → b ≠ a := fun b u e z => by rw [z, h0] at e; cases e
  refine ⟨I.ok, I.os, I.bare, ⟨I.base.keep, I.base.slot, fun b u e n hx => ?_, I.base.there, fun b xs e => ?_, fun b ob u e => ?_, fun b ps e => ?_⟩, I.loc, I.cell, ?_, fun x c e => ?_, fun p hp => ?_, I.hok.laidN (fun _ _ q => q) na new, I.len⟩
  · rw [upd_ne (ne0 b u e)]
    exact I.base.free b u e n hx
  · have q := I.base.tups b xs e
    rw [upd_ne (ne_of_none q na)]
    exact q
  · have q := I.base.frzs b ob u e
    rw [upd_ne (ne_of_none q na)]
    exact q
  · obtain ⟨m, q⟩ := I.base.tbls b ps e
    exact ⟨m, by rw [upd_ne (ne_of_none q na)]; exact q⟩
  · rw [upd_ne (Ne.symm nL)]
    exact I.free
  · rw [upd_ne (nC x c e)]
    exact I.freeC x c e
  · obtain ⟨e, n, r⟩ := I.pin p hp
    exact ⟨e, by rw [upd_ne (nP p hp)]; exact n, r⟩
theorem inv_suite0 (I : Inv X pins σ H s) (a : Addr) : Inv (X.suite a (X.pn ++ pins)) [] σ H s :=
  ⟨I.ok.suite _ _, I.os, I.bare, I.base, I.loc, I.cell, I.free, I.freeC, fun p hp => I.pin p (by rw [List.append_nil] at hp; exact hp), I.hok, I.len⟩
theorem inv_unsuite0 {a : Addr} {pn' : List (Addr × Obj)} (I : Inv (X.suite a (X.pn ++ pins)) pn' σ H s) (ok : X.Ok) : Inv X pins σ H s :=
  ⟨ok, I.os, I.bare, I.base, I.loc, I.cell, I.free, I.freeC, fun p hp => I.pin p (List.mem_append_left _ hp), I.hok, I.len⟩
end
/-- what the clause 'except x as n' wishes, the error kept in view -/
def wHold (K : PySem.W.Frag) (c : Value) (i : Nat) (ts : TS) (D : Ends) : WX := fun cls d σ H =>
  ∃ C, cls = .ref C ∧ PySem.W.exmOne K cls c = some true ∧ ∀ a, H a = none → ts { nx := fun σ' H' => D.nx (σ'.set i none) H', rt := D.rt, bk := fun σ' H' => D.bk (σ'.set i none) H', ct := fun σ' H' => D.ct (σ'.set i none) H' } (σ.set i (some (.ref a))) (upd H a (ExH C d a))
def tTry (K : PySem.W.Frag) (c : Value) (i : Nat) (tb : WX → TS) (ts : TS) : TS := fun D σ H => tb (wHold K c i ts D) D σ H
section
variable {X : Cx} {x n : Str} {c : Value} {i : Nat} {body suite : List Stmt} {b₀ : Stmt} {np pos pos' : Pos} {tb : WX → TS} {ts : TS}
theorem ps_try_hold (hs : X.stack = X.env :: X.outer) (hf : X.env.frame = some X.env.locals) (hex : X.ex = []) (hN : X.N.Nodup) (hi : X.N[i]? = some n) (hln : X.env.kindOf n = some .local) (hc : Names X x c)
    (hb : ∀ (W : WX) (pn : List (Addr × Obj)) (xe : Value → Shared → Prop), Takes (X.tr pn xe) W → PassesOwn (model X.prog X.w) X.A X.env xe → PSs (X.tr pn xe) body (tb W))
    (hsu : ∀ (a : Addr) (pn : List (Addr × Obj)), PSs (X.suite a pn) (b₀ :: suite) ts) :
    PS X (.Try body [.ExceptHandler (some (.Name x np)) (some n) (b₀ :: suite) pos'] [] [] pos) (tTry X.K c i tb ts) := by
  refine ⟨fun pins s σ H D I h => ?_⟩
  have ok := I.ok
  have hfr : X.A.frames = some (X.env :: X.outer) := by rw [ok.frames, hs]
  have hloc : Loc X.env.scope n := .inl hln
  refine wpAny_Try_except ?_
  refine wpAny_mono ((hb (wHold X.K c i ts D) (X.pn ++ pins) (fun e s₁ => wpAny (model X.prog X.w) X.A (noteFrame e X.env) (fun _ s₂ => wpAny (model X.prog X.w) X.A (setFlight e none) (fun _ s₃ =>
    wpAny (model X.prog X.w) X.A (handleBy e X.env [.ExceptHandler (some (.Name x np)) (some n) (b₀ :: suite) pos']) (SP X pins D) X.xe s₃) X.xe s₂) X.xe s₁) (fun u s' xx => ?_) PassesOwn.looking).run [] s σ H D (I.toTry _) h) (fun f s1 hsp => ?_) (fun e s1 he => he)
  · obtain ⟨a, B, sI, pins', σ', H', cls, d, rfl, J', nb, up, sky, na, os, ag, C, hC, hb1, hyes⟩ := xx
    subst hC
    have J : Inv X pins σ' H' sI := J'.ofTry ok
    have sky' : Sky B (X.env :: X.outer) a (Zc (.ref C) d) X.env.locals s'.heap := by rw [← hs]; exact sky
    show wpAny (model X.prog X.w) X.A (noteFrame (.ref a) X.env) _ _ _
    refine Sky.land Zc.steady hfr hf sky' fun h3 fl3 up3 => ?_
    have J3 : Inv X pins σ' H' { s' with heap := h3 } := J.landed nb fl3.1 (up.trans up3) os ag
    obtain ⟨oe3, vs3, he3, hz3, hd3⟩ := fl3.there
    have notFr : ∀ {h : Heap} {o : Obj} {vs : Array Value}, h.FunFrames B (X.env :: X.outer) → h.get? a = some o → o.data = .fields vs → a ∉ frs (X.env :: X.outer) := fun {h o vs} ff e dd hm => by
      obtain ⟨_, o', e', hnf⟩ := ff.mem hm
      rw [e] at e'; cases e'
      exact hnf _ dd
    have nfr := notFr fl3.2.2.1 he3 hd3
    have nL : a ≠ X.env.locals := fun z => nfr (List.mem_filterMap.mpr ⟨X.env, List.mem_cons_self, by rw [hf, z]⟩)
    have nF : a ∉ X.fs := fun hm => by
      obtain ⟨e, he, q⟩ := List.mem_filterMap.mp hm
      exact nfr (List.mem_filterMap.mpr ⟨e, List.mem_cons_of_mem _ he, q⟩)
    have hBa : B.get? a = none := fl3.2.1
    have nS : a ∉ frs X.stack := by rw [hs]; exact nfr
    have hsI : sI.heap.get? a = none := by
      cases e : sI.heap.get? a with
      | none => rfl
      | some o => have := nb a o e nS; rw [hBa] at this; cases this
    have hs0 : X.s_0.heap.get? a = none := by
      cases e : X.s_0.heap.get? a with
      | none => rfl
      | some o =>
        obtain ⟨o', q⟩ := J.base.there a o e (by rw [hex]; simp)
        rw [hsI] at q; cases q
    have S3 := J3.suite he3 hd3 na nL nF
    refine wpAny_handleBy_cons (codeAny_handlers_test ?_) (by intro q; cases q)
    have LT : PySem.W.Looks (model X.prog X.w) h3 (typeOf (.ref a)) (.ref C) := fun A Q E s k q => wpAny_typeOf_ref (k _ _ he3) (by rw [hz3.1]; exact q)
    have LM := PySem.W.exm_one (M := model X.prog X.w) (J3.kIn) LT hb1
    have test : ∀ {Q : Value → Shared → Prop} {E : Value → Shared → Prop}, Q c { s' with heap := h3 } → wpAny (model X.prog X.w) (X.A.mark (some (.ref a))) (eval (.Name x np) X.env) Q E { s' with heap := h3 } := fun {Q E} q => by
      obtain ⟨hg, hdbg, hm | ⟨hm, hv, hnn⟩⟩ := hc
      · exact ld_glob (X := X.suite a ((a, oe3) :: (X.pn ++ pins))) S3 hg hm q hdbg
      · exact ld_blt (X := X.suite a ((a, oe3) :: (X.pn ++ pins))) S3 hg hm hv q hnn hdbg
    refine test (LM.here ?_)
    refine codeAny_handlers_suite_as ?_
    refine HandSPX.lands_againZ fl3 fun h4 fl4 up4 => ?_
    have J4 : Inv X pins σ' H' { s' with heap := h4 } := J.landed nb fl4.1 ((up.trans up3).trans up4) os ag
    obtain ⟨oe4, vs4, he4, hz4, hd4⟩ := fl4.there
    have T4 : Inv X pins σ' (upd H' a (ExH C d a)) { s' with heap := h4 } := inv_track J4 hs0 na nL (fun y k e z => by
      obtain ⟨v, o, ho, hd⟩ := J4.cell y k e
      rw [z] at ho
      have ho' : h4.get? a = some o := ho
      rw [he4] at ho'
      cases ho'
      rw [hd4] at hd
      cases hd) (fun p hp z => by
      obtain ⟨e, _⟩ := J.pin p hp
      rw [z, hsI] at e
      cases e) (exH_ok he4 hz4 hd4)
    have S4 := inv_suite0 T4 a
    refine store_ok (X := X.suite a (X.pn ++ pins)) (v := .ref a) S4 hN hi hloc rfl (fun s5 S5 => ?_) (.inr hln)
    refine wpAny_mono ((hsu a (X.pn ++ pins)).run [] s5 _ _ _ S5 (hyes a na)) (fun f s6 hsp => ?_) (fun _ _ z => False.elim z)
    have end_ : ∀ {σ6 : L2.St} {H6 : Hp} {Q : Shared → Prop}, Inv (X.suite a (X.pn ++ pins)) [] σ6 H6 s6 → (∀ s7, Inv X pins (σ6.set i none) H6 s7 → Q s7) →
        wpAny (model X.prog X.w) X.A (do bindName X.env n .none; unbindBehindTheSuite X.env n pos') (fun _ s7 => Q s7) X.xe s6 := fun {σ6 H6 Q} S6 hq => gone_ok (inv_unsuite0 S6 ok) hN hi hln hq
    cases f with
    | next =>
      obtain ⟨σ6, H6, S6, q6⟩ := hsp
      exact end_ S6 fun s7 J7 => ⟨_, _, J7, q6⟩
    | brk =>
      obtain ⟨σ6, H6, S6, q6⟩ := hsp
      exact end_ S6 fun s7 J7 => ⟨_, _, J7, q6⟩
    | cont =>
      obtain ⟨σ6, H6, S6, q6⟩ := hsp
      exact end_ S6 fun s7 J7 => ⟨_, _, J7, q6⟩
    | ret u =>
      obtain ⟨v6, σ6, H6, S6, r6, q6⟩ := hsp
      exact end_ S6 fun s7 J7 => ⟨_, _, _, J7, r6, q6⟩
  · cases f with
    | next =>
      obtain ⟨σ', H', J', q⟩ := hsp
      exact wpAny_execs_nil ⟨σ', H', J'.ofTry ok, q⟩
    | brk =>
      obtain ⟨σ', H', J', q⟩ := hsp
      exact ⟨σ', H', J'.ofTry ok, q⟩
    | cont =>
      obtain ⟨σ', H', J', q⟩ := hsp
      exact ⟨σ', H', J'.ofTry ok, q⟩
    | ret u =>
      obtain ⟨v, σ', H', J', r, q⟩ := hsp
      exact ⟨v, σ', H', J'.ofTry ok, r, q⟩
end
/-! ### the classes' facts, by one look at the written part -/
def Er.cn : Er → Cn
  | .own c => c
  | .plan _ => .BadPlan
def allCn : List Cn := [.SowError, .BadBoard, .BadPit, .BadPits, .BadCount, .NoSeeds, .BadPlan, .Unlike, .TooLong, .TooMany, .BadLine, .BadRow, .BadYard, .NoDeed, .BadText]
theorem mem_allCn (c : Cn) : c ∈ allCn := by cases c <;> decide
/-- the module's name of the class is a class -/
def knB (K : PySem.W.Frag) (c : Cn) : Bool := He.eqO (PySem.W.nsIn K mainGlobals c.nm) (some (some (.ref (He.ga K c.nm))))
def isC (c d : Cn) : Bool := decide (d = c) || decide (d = .SowError)
def cfB (K : PySem.W.Frag) (c : Cn) : Bool := knB K c && (
  He.eqO (PySem.W.findIn K (.ref (He.ga K c.nm)) "__getattribute__") (some (some (.builtin "BaseException.__getattribute__"))) && (He.eqO (PySem.W.findIn K (.ref (He.ga K c.nm)) "__getattr__") (some none) &&
  (decide (PySem.W.subIn K (.ref (He.ga K c.nm)) (.type "BaseException") = some true) && (PySem.W.hasDictIn K (He.ga K c.nm) && (He.eqO (PySem.W.findIn K (.ref (He.ga K c.nm)) "__class__") (some (some (.builtin "object.__class__"))) &&
  (He.eqO (PySem.W.specialIn K (.builtin "object.__class__") "__get__") (some (some (.builtin "getset_descriptor.__get__"))) && (decide (PySem.W.takesIn K (.builtin "object.__class__") = some true) && (decide (PySem.W.mroIn K (He.ga K c.nm) (.type "object") = some true) &&
  (decide (PySem.W.kitOne K (.ref (He.ga K c.nm)) (.type "ValueError") = some true) && (allCn.all fun d => !knB K d || (decide (PySem.W.kitOne K (.ref (He.ga K c.nm)) (.ref (He.ga K d.nm)) = some (isC c d)) && decide (PySem.W.kitOne K (.type "NoneType") (.ref (He.ga K d.nm)) = some false))))))))))))
structure Cf (K : PySem.W.Frag) (c : Cn) : Prop where
  kb : knB K c = true
  ex : ExcC K (He.ga K c.nm)
  ve : PySem.W.kitOne K (.ref (He.ga K c.nm)) (.type "ValueError") = some true
  kt : ∀ d, knB K d = true → PySem.W.kitOne K (.ref (He.ga K c.nm)) (.ref (He.ga K d.nm)) = some (isC c d)
  kn : ∀ d, knB K d = true → PySem.W.kitOne K (.type "NoneType") (.ref (He.ga K d.nm)) = some false
theorem cf_of {K : PySem.W.Frag} {c : Cn} (h : cfB K c = true) : Cf K c := by
  unfold cfB at h
  simp only [Bool.and_eq_true] at h
  obtain ⟨h0, h1, h2, h3, h4, h5, h6, h7, h8, h9, h10⟩ := h
  have h11 : ∀ d, knB K d = true → PySem.W.kitOne K (.ref (He.ga K c.nm)) (.ref (He.ga K d.nm)) = some (isC c d) ∧ PySem.W.kitOne K (.type "NoneType") (.ref (He.ga K d.nm)) = some false := fun d hd => by
    have q := List.all_eq_true.mp h10 d (mem_allCn d)
    rw [hd] at q
    have q2 : (decide (PySem.W.kitOne K (.ref (He.ga K c.nm)) (.ref (He.ga K d.nm)) = some (isC c d)) && decide (PySem.W.kitOne K (.type "NoneType") (.ref (He.ga K d.nm)) = some false)) = true := q
    obtain ⟨a, b⟩ := Bool.and_eq_true_iff.mp q2
    exact ⟨of_decide_eq_true a, of_decide_eq_true b⟩
  exact ⟨h0, ⟨He.eqO_ok h1, He.eqO_ok h2, of_decide_eq_true h3, h4, He.eqO_ok h5, He.eqO_ok h6, of_decide_eq_true h7, of_decide_eq_true h8⟩, of_decide_eq_true h9, fun d hd => (h11 d hd).1, fun d hd => (h11 d hd).2⟩
theorem cls_of {K : PySem.W.Frag} {c : Cn} (h : Cf K c) : (PySem.W.clsIn K (He.ga K c.nm)).isSome = true := by
  obtain ⟨cd, hc, _⟩ := PySem.W.any_some h.ex.hd
  rw [hc]
  rfl
/-- a caught error, as a value -/
instance : Rp Er where
  rep K H v e := ∃ a, v = .ref a ∧ Cf K e.cn ∧ match e with
    | .own c => H a = some (ExH (He.ga K c.nm) none a)
    | .plan n => ∃ dd m, H a = some (ExH (He.ga K "BadPlan") (some dd) a) ∧ H dd = some (.xd [("at", .int n), ("words", .str m)])
  mono {K H H' v e} s h := by
    obtain ⟨a, h1, h2, h3⟩ := h
    refine ⟨a, h1, h2, ?_⟩
    cases e with
    | own c => exact s a _ h3
    | plan n =>
      obtain ⟨dd, m, h4, h5⟩ := h3
      exact ⟨dd, m, s a _ h4, s dd _ h5⟩
instance : NN Er := ⟨fun ⟨_, h, _⟩ => by rw [h]; intro q; cases q⟩
/-! ### isinstance of what was caught, or None -/
inductive TyE (K : PySem.W.Frag) (H : Hp) : V → Value → Prop where
  | own {a C : Addr} (h : H a = some (ExH C none a)) (c : ExcC K C) : TyE K H (.ref a) (.ref C)
  | plan {a C dd : Addr} {fs : List (Str × V)} (h : H a = some (ExH C (some dd) a)) (hd : H dd = some (.xd fs)) (hC : (PySem.W.clsIn K C).isSome = true) (c : ExcC K C) : TyE K H (.ref a) (.ref C)
  | non : TyE K H .non (.type "NoneType")
def rIsX (K : PySem.W.Frag) : List V → Hp → VK → Prop := fun xs H Q => ∃ (x c : V) (t u : Value) (b : Bool), xs = [x, c] ∧ ClsV c u ∧ TyE K H x t ∧ PySem.W.kitOne K t u = some b ∧ Q (.bl b) H
def rIsXT (K : PySem.W.Frag) : List V → Hp → VK → Prop := fun xs H Q => ∃ (x : V) (tp : Addr) (cs : List V) (t : Value) (us : List Value) (b : Bool), xs = [x, .ref tp] ∧ H tp = some (.tup cs) ∧ Paired ClsV cs us ∧ TyE K H x t ∧ PySem.W.kitAny K t us = some b ∧ Q (.bl b) H
section
variable {X : Cx} {pins : List (Addr × Obj)} {σ : L2.St} {H : Hp} {s : Shared}
theorem inst_of {a C : Addr} (I : Inv X pins σ H s) (h : H a = some (ExH C none a)) : ∃ oe, PySem.W.InstAt s.heap a oe C none := by
  obtain ⟨⟨oe, vs, e, z, d⟩, _⟩ := (show ObjOk X.prog X.w H s.heap a (ExH C none a) from I.hok a _ h)
  refine ⟨oe, ?_⟩
  obtain ⟨oc, od, oda, osl⟩ := oe
  obtain ⟨h1, h2⟩ := z
  dsimp only at h1 h2 d
  subst h1 h2 d
  exact ⟨e, rfl, rfl, trivial⟩
theorem inst_ofD {a C dd : Addr} {fs : List (Str × V)} (I : Inv X pins σ H s) (h : H a = some (ExH C (some dd) a)) (hd : H dd = some (.xd fs)) :
    ∃ (oe od : Obj) (mA : Str → Option Value), PySem.W.InstAt s.heap a oe C (some od) ∧ (∀ n, PySem.W.lookIn n od = some (mA n)) ∧ ∀ f, RelO (fs.lookup f) (mA f) := by
  obtain ⟨⟨oe, vs, e, z, d⟩, _⟩ := (show ObjOk X.prog X.w H s.heap a (ExH C (some dd) a) from I.hok a _ h)
  obtain ⟨mA, hns, hr⟩ := (show ObjOk X.prog X.w H s.heap dd (.xd fs) from I.hok dd _ hd)
  obtain ⟨od, ho, hl⟩ := lookIn_ns hns
  refine ⟨oe, od, mA, ?_, hl, hr⟩
  obtain ⟨oc, odd, oda, osl⟩ := oe
  obtain ⟨h1, h2⟩ := z
  dsimp only at h1 h2 d
  subst h1 h2 d
  exact ⟨e, rfl, rfl, ho⟩
theorem kit_ofE {x : V} {u t : Value} (I : Inv X pins σ H s) (rx : RelV x u) (ty : TyE X.K H x t) : ∃ P : Heap → Prop, PySem.W.KitX X.K u t P ∧ P s.heap ∧ u ≠ .builtin "__main__.__loader__#opaque" := by
  cases ty with
  | own h c =>
    rename_i a C
    cases rx
    obtain ⟨oe, J⟩ := inst_of I h
    exact ⟨fun h => PySem.W.InstAt h a oe C none, PySem.W.handS_kitx_exc c.hg c.hk c.hs c.hd c.ha c.hn c.ht c.hm, J, fun z => nomatch z⟩
  | plan h hd hC c =>
    rename_i a C dd fs
    cases rx
    obtain ⟨oe, od, mA, J, _, _⟩ := inst_ofD I h hd
    exact ⟨fun h => PySem.W.InstAt h a oe C (some od), PySem.W.kitx_exc hC c.hg c.hk c.hs c.ha c.hn c.ht c.hm, J, fun z => nomatch z⟩
  | non => cases (show u = Value.none from rx); exact ⟨_, PySem.W.kitx_none, True.intro, fun z => nomatch z⟩
theorem call_isX : CallR X (.builtin "isinstance") (rIsX X.K) := by
  intro pins s σ H xs us Q I r h
  obtain ⟨x, c, t, u, b, rfl, k, ty, e, q⟩ := h
  obtain ⟨u1, u2, rfl, r1, r2⟩ := vals2 r
  have e2 := k.eq r2
  subst e2
  obtain ⟨P, Z, p, hx⟩ := kit_ofE I r1 ty
  exact PySem.W.kia_one Z I.kIn p e hx fun tk => ⟨.bl b, H, I.tok tk, rfl, q⟩
theorem call_isXT : CallR X (.builtin "isinstance") (rIsXT X.K) := by
  intro pins s σ H xs us Q I r h
  obtain ⟨x, tp, cs, t, ws, b, rfl, hT, k, ty, e, q⟩ := h
  obtain ⟨u1, u2, rfl, r1, r2⟩ := vals2 r
  cases (show u2 = Value.ref tp from r2)
  obtain ⟨P, Z, p, hx⟩ := kit_ofE I r1 ty
  obtain ⟨_, its, rv, o, h1, h2, n, h3⟩ := (show ObjOk X.prog X.w H s.heap tp (.tup cs) from I.hok tp _ hT)
  have e3 := ClsV.all k rv
  subst e3
  obtain ⟨oc, od, dt, sl⟩ := o
  simp only at h2 h3
  subst h2 h3
  exact PySem.W.kia_tup Z I.kIn p h1 e hx fun tk => ⟨.bl b, H, I.tok tk, rfl, q⟩
/-! ### caught.called() -/
def tMethX (K : PySem.W.Frag) (m : Str) (C : Cn → Prop) (sp : Cn → Sp) (E : L2.St → XK) (ta : TE) : TE := fun σ H Q => ta σ H fun x H1 =>
  ∃ a c, x = .ref a ∧ (H1 a = some (ExH (He.ga K c.nm) none a) ∨ ∃ dd fs, H1 a = some (ExH (He.ga K c.nm) (some dd) a) ∧ H1 dd = some (.xd fs) ∧ fs.lookup m = none) ∧ C c ∧ sp c [.ref a] H1 Q (E σ)
/-- each class of the kind has the method m -/
structure MthX (P : Program) (w : World) (K : PySem.W.Frag) (mg : Str → Option Value) (base : Heap) (CX : CXT) (k : Nat) (m : Str) (C : Cn → Prop) (sp : Cn → Sp) : Prop where
  hg : ∀ c, C c → PySem.W.findIn K (.ref (He.ga K c.nm)) "__getattribute__" = some (some (.builtin "BaseException.__getattribute__")) ∧ PySem.W.findIn K (.ref (He.ga K c.nm)) "__getattr__" = some none
  fn : ∀ c, C c → ∃ f fd ps, PySem.W.findIn K (.ref (He.ga K c.nm)) m = some (some (.ref f)) ∧ PySem.W.isFn K (.ref f) = true ∧ PySem.W.keepIn K (.ref f) = true ∧ Binds K fd ps [] ∧ FnOk P w K mg base CX k f fd ps (sp c)
theorem pe_methX {CX : CXT} {k : Nat} {C : Cn → Prop} {sp : Cn → Sp} {E : L2.St → XK} {m : Str} {o : Expr} {apos pos : Pos} {ta : TE} {pl : Sem Bool} (he : PE X o ta) (M : MthX X.prog X.w X.K X.mg X.base CX k m C sp) (hr : Room k X.A) (hx : ∀ σ, PassesAt CX X σ (E σ))
    (ht : eval (.Call (.Attribute o m apos) [] [] pos) X.env = (do
      let ov ← eval o X.env
      standAt apos.atName
      let (f, first) ← holding [ov] (getMethod ov m pl)
      callWith pos f first (backTo pos (starEach [] X.env)) (backToKw pos (keywordEach [] X.env))) := by rfl) :
    PE X (.Call (.Attribute o m apos) [] [] pos) (tMethX X.K m C sp E ta) := by
  refine ⟨fun pins s σ H Q I h => ?_⟩
  refine PySem.W.methodCall_KW (pl := pl) (thn (he.run pins s σ H _ I h) fun u s1 ⟨x, H1, I1, rx, a, c, ex, ea, hC, q⟩ => ?_) ht
  subst ex
  obtain rfl : u = Value.ref a := rx
  obtain ⟨h1, h2⟩ := M.hg c hC
  obtain ⟨f, fd, ps, h3, h4, h5, h6, F⟩ := M.fn c hC
  obtain ⟨m', fr⟩ := I1.fr
  have key : ∃ oe od, PySem.W.InstAt s1.heap a oe (He.ga X.K c.nm) od ∧ PySem.W.shadowIn od m = some false := by
    rcases ea with ea | ⟨dd, fs, ea, ed, el⟩
    · obtain ⟨oe, J⟩ := inst_of I1 ea
      exact ⟨oe, none, J, rfl⟩
    · obtain ⟨oe, od, mA, J, hl, hr⟩ := inst_ofD I1 ea ed
      refine ⟨oe, some od, J, ?_⟩
      show (PySem.W.lookIn m od).map _ = _
      rw [hl m]
      have r := hr m
      rw [el] at r
      cases e : mA m with
      | none => rfl
      | some u => rw [e] at r; exact r.elim
  obtain ⟨oe, od, J, hsh⟩ := key
  refine PySem.W.method_exc fr I1.ok.mod.kin J h1 h2 h3 h4 hsh ?_
  exact PySem.W.callWith_K0 (first := [.ref a]) I1.kIn h5 (run_fnS (us := [.ref a]) (vs := [.ref a]) F hr h6 (hx σ) I1 (.cons rfl .nil) q)
theorem pget_list : PGet X (rIxL X.K) := by
  intro pins s σ H x y v u Q I rx ry h
  obtain ⟨p, xs, i, z, rfl, rfl, hq, he, q⟩ := h
  cases rx
  obtain ⟨t, rfl⟩ := ry
  obtain ⟨its, r, pl, hz⟩ := I.list hq
  obtain ⟨j, h1, h2, h3, h4, h5⟩ := atI_get he
  obtain ⟨w, ew, rw'⟩ := r.get h2
  have hl := r.length
  have hn := line63
  have fin : EP X pins σ Q w s := ⟨z, H, I, rw', q⟩
  by_cases h0 : 0 ≤ i
  · have hj : i.toNat = j := by
      rw [seqIndex_of h0 h5] at h1
      exact Option.some.inj h1
    exact wpAny_getItem_list pl.isList h0 (by omega) (by rw [hj]; simpa using ew) fin
  · have hj : (i + (its.toArray.size : Int)).toNat = j := by
      rw [seqIndex_neg (by omega) h4] at h1
      rw [List.size_toArray, ← hl]
      exact Option.some.inj h1
    exact wpAny_getItem_list_neg pl.isList (by omega) (by rw [List.size_toArray] <;> omega) (by omega) (by rw [hj]; simpa using ew) fin
/-- in a comprehension's block nothing is raised -/
theorem passF (σ : L2.St) : PassesAt (L2.CX X.prog X.w) X σ (fun _ _ _ => False) := fun _ _ _ _ _ _ h => by
  obtain ⟨_, _, _, _, _, _, _, _, _, _, _, _, z⟩ := h
  exact z.elim
end
/-! ### the same over what is known -/
section
variable {K : PySem.W.Frag} {E : XK} {σ : L2.St} {H0 F H F' H' : Hp} {ta tb te tl to ti : TE} {t u : TT} {tu tw tz : TS} {α β γ δ ρ S : Type} [Rp α] [Rp β] [Rp γ] [Rp δ] [Rp ρ] {D : Ends} {Ex : L2.St → XK}
def isXR (c : Cn) : Option Er → R Bool
  | none => .ok false
  | some (.own d) => .ok (isC d c)
  | some (.plan _) => .ok (isC .BadPlan c)
theorem g_isX {m : R (Option Er)} {c : Cn} (h : Gr K E ta σ F H m) (hF : Same F H) (hk : knB K c = true) (h0 : Cf K c) : Gr K E (tCB (rIsX K) (tCons ta (tCons (tC (.ref (He.ga K c.nm))) tNil))) σ F H (R.bd m (isXR c)) := fun H1 e Q hq =>
  gr_seq h e hq fun o v H2 e2 r hq2 => by
    cases o with
    | none =>
      have r' : v = .non := r
      subst r'
      exact ⟨_, _, _, _, false, rfl, .own _, .non, h0.kn c hk, hq2 _ H2 (Same.refl _) rfl⟩
    | some er =>
      cases er with
      | plan n =>
        obtain ⟨_, a, rfl, cf, dd, m, ha, hd⟩ := r
        exact ⟨_, _, _, _, _, rfl, .own _, .plan (mix_same hF (e.trans e2) a _ ha) (mix_same hF (e.trans e2) dd _ hd) (cls_of cf) cf.ex, cf.kt c hk, hq2 _ H2 (Same.refl _) rfl⟩
      | own d =>
        obtain ⟨_, a, rfl, cf, ha⟩ := r
        exact ⟨_, _, _, _, _, rfl, .own _, .own (mix_same hF (e.trans e2) a _ ha) cf.ex, cf.kt c hk, hq2 _ H2 (Same.refl _) rfl⟩
def isVR : Option Er → R Bool
  | none => .ok false
  | some (.own d) => .ok true
  | some (.plan _) => .ok true
theorem g_isV {m : R (Option Er)} (h : Gr K E ta σ F H m) (hF : Same F H) : Gr K E (tCB (rIsX K) (tCons ta (tCons (tC (.ty "ValueError")) tNil))) σ F H (R.bd m isVR) := fun H1 e Q hq =>
  gr_seq h e hq fun o v H2 e2 r hq2 => by
    cases o with
    | none =>
      have r' : v = .non := r
      subst r'
      exact ⟨_, _, _, _, false, rfl, .ty _, .non, kit_ty (by decide +kernel), hq2 _ H2 (Same.refl _) rfl⟩
    | some er =>
      cases er with
      | plan n =>
        obtain ⟨_, a, rfl, cf, dd, m, ha, hd⟩ := r
        exact ⟨_, _, _, _, _, rfl, .ty _, .plan (mix_same hF (e.trans e2) a _ ha) (mix_same hF (e.trans e2) dd _ hd) (cls_of cf) cf.ex, cf.ve, hq2 _ H2 (Same.refl _) rfl⟩
      | own d =>
        obtain ⟨_, a, rfl, cf, ha⟩ := r
        exact ⟨_, _, _, _, _, rfl, .ty _, .own (mix_same hF (e.trans e2) a _ ha) cf.ex, cf.ve, hq2 _ H2 (Same.refl _) rfl⟩
def tClsL (K : PySem.W.Frag) : List Cn → TA
  | [] => tNil
  | c :: r => tCons (tC (.ref (He.ga K c.nm))) (tClsL K r)
theorem tClsL_ok {cs : List Cn} {Q : List V → Hp → Prop} (h : Q (cs.map fun c => V.ref (He.ga K c.nm)) H) : tClsL K cs σ H Q := by
  induction cs generalizing Q with
  | nil => exact h
  | cons c r ih => exact ih (Q := fun xs H' => Q (V.ref (He.ga K c.nm) :: xs) H') h
def isXTR (cs : List Cn) : Option Er → R Bool
  | none => .ok false
  | some (.own d) => .ok (cs.any fun c => isC d c)
  | some (.plan _) => .ok (cs.any fun c => isC .BadPlan c)
theorem kitAny_none {cs : List Cn} (hk : ∀ c ∈ cs, knB K c = true) (h0 : ∀ c ∈ cs, Cf K c) : PySem.W.kitAny K (.type "NoneType") (cs.map fun c => Value.ref (He.ga K c.nm)) = some false := by
  induction cs with
  | nil => rfl
  | cons c r ih => exact kitAny_cons ((h0 c List.mem_cons_self).kn c (hk c List.mem_cons_self)) (fun _ => ih (fun d hd => hk d (List.mem_cons_of_mem _ hd)) fun d hd => h0 d (List.mem_cons_of_mem _ hd)) (fun z => z)
theorem kitAny_own {cs : List Cn} {d : Cn} (hk : ∀ c ∈ cs, knB K c = true) (hd : Cf K d) : PySem.W.kitAny K (.ref (He.ga K d.nm)) (cs.map fun c => Value.ref (He.ga K c.nm)) = some (cs.any fun c => isC d c) := by
  induction cs with
  | nil => rfl
  | cons c r ih =>
    refine kitAny_cons (hd.kt c (hk c List.mem_cons_self)) (fun z => ?_) (fun z => ?_)
    · rw [List.any_cons, z, Bool.false_or]
      exact ih fun d hd => hk d (List.mem_cons_of_mem _ hd)
    · rw [List.any_cons, z, Bool.true_or]
theorem clsV_all (cs : List Cn) : Paired ClsV (cs.map fun c => V.ref (He.ga K c.nm)) (cs.map fun c => Value.ref (He.ga K c.nm)) := by
  induction cs with
  | nil => exact .nil
  | cons c r ih => exact .cons (.own _) ih
theorem g_isXT {m : R (Option Er)} (cs : List Cn) (h : Gr K E ta σ F H m) (hF : Same F H) (hk : ∀ c ∈ cs, knB K c = true) (h0 : ∀ c ∈ cs, Cf K c) (hl : cs.length ≤ 100) : Gr K E (tCB (rIsXT K) (tCons ta (tCons (tTup (tClsL K cs)) tNil))) σ F H (R.bd m (isXTR cs)) := fun H1 e Q hq =>
  gr_seq h e hq fun o v H2 e2 r hq2 => by
    refine tClsL_ok ⟨by rw [List.length_map]; exact Nat.le_trans hl (by decide), fun p hp => ?_⟩
    cases o with
    | none =>
      have r' : v = .non := r
      subst r'
      exact ⟨_, p, _, _, _, false, rfl, upd_same, clsV_all cs, .non, kitAny_none hk h0, hq2 _ _ (same_upd hp) rfl⟩
    | some er =>
      cases er with
      | plan n =>
        obtain ⟨_, a, rfl, cf, dd, m, ha, hd⟩ := r
        exact ⟨_, p, _, _, _, _, rfl, upd_same, clsV_all cs, .plan (same_upd hp _ _ (mix_same hF (e.trans e2) a _ ha)) (same_upd hp _ _ (mix_same hF (e.trans e2) dd _ hd)) (cls_of cf) cf.ex, kitAny_own hk cf, hq2 _ _ (same_upd hp) rfl⟩
      | own d =>
        obtain ⟨_, a, rfl, cf, ha⟩ := r
        exact ⟨_, p, _, _, _, _, rfl, upd_same, clsV_all cs, .own (same_upd hp _ _ (mix_same hF (e.trans e2) a _ ha)) cf.ex, kitAny_own hk cf, hq2 _ _ (same_upd hp) rfl⟩
/-- the name that called() tells -/
def spCalled (c : Cn) : Sp := fun vs H Q _ => (∃ v, vs = [v]) ∧ Q (.str c.nm) H
def calledR : Option Er → R Str
  | some (.own d) => .ok d.nm
  | some (.plan _) => .ok Cn.BadPlan.nm
  | none => .bad
theorem g_called {m : R (Option Er)} {C : Cn → Prop} (h : Gr K E ta σ F H m) (hF : Same F H) (hC : ∀ c, Cf K c → C c) (hE : Ex σ = E := by rfl) : Gr K E (tMethX K "called" C spCalled Ex ta) σ F H (R.bd m calledR) := by
  subst hE
  exact fun H1 e Q hq =>
  gr_seq h e hq fun o v H2 e2 r hq2 => by
    cases o with
    | none => exact hq2.elim
    | some er =>
      cases er with
      | plan n =>
        obtain ⟨_, a, rfl, cf, dd, m, ha, hd⟩ := r
        exact ⟨a, .BadPlan, rfl, .inr ⟨dd, _, mix_same hF (e.trans e2) a _ ha, mix_same hF (e.trans e2) dd _ hd, rfl⟩, hC .BadPlan cf, ⟨_, rfl⟩, hq2 _ H2 (Same.refl _) rfl⟩
      | own d =>
        obtain ⟨_, a, rfl, cf, ha⟩ := r
        exact ⟨a, d, rfl, .inl <| mix_same hF (e.trans e2) a _ ha, hC d cf, ⟨_, rfl⟩, hq2 _ H2 (Same.refl _) rfl⟩
/-! ### try: .. except SowError as e: .. -/
def catchR {S : Type} (cs : List Cn) (m : R S) (hand : Er → R S) : R S := match m with
  | .ok s => .ok s
  | .er e => if e.cn ∈ cs then hand e else .bad
  | .bad => .bad
theorem s_try {cs : List Cn} {cv : Value} {i : Nat} {ts : TS} {tb : WX → TS} {m : R S} {hand : Er → R S} {k : S → R β} {kk : β → Prop} (hF : Same F H) (e0 : Same H0 H) (hQ : Wp (R.bd (catchR cs m hand) k) kk (EE K E H0))
    (hx : ∀ c ∈ cs, PySem.W.exmOne K (.ref (He.ga K c.nm)) cv = some true) (hcf : ∀ c ∈ cs, Cf K c)
    (hh : ∀ er a F' H', Nx0 F H F' H' → Same H0 H' → Rp.rep K F' (.ref a) (er : Er) → Wp (R.bd (hand er) k) kk (EE K E H0) →
      ts { nx := fun σ' H' => D.nx (σ'.set i none) H', rt := D.rt, bk := fun σ' H' => D.bk (σ'.set i none) H', ct := fun σ' H' => D.ct (σ'.set i none) H' } (σ.set i (some (.ref a))) H')
    (hb : Wp m (fun s => Wp (k s) kk (EE K E H0)) (EE K (WE (wHold K cv i ts D) σ) H) → tb (wHold K cv i ts D) D σ H) : tb (wHold K cv i ts D) D σ H := by
  refine hb ?_
  rw [wp_bd] at hQ
  cases m with
  | ok s => exact hQ
  | bad => exact hQ.elim
  | er er =>
    have hQ2 : Wp (if er.cn ∈ cs then hand er else .bad) (fun a => Wp (k a) kk (EE K E H0)) (EE K E H0) := hQ
    split at hQ2
    · rename_i hc
      have hq3 : Wp (R.bd (hand er) k) kk (EE K E H0) := by rw [wp_bd]; exact hQ2
      cases er with
      | own c =>
        intro H' s
        refine ⟨_, rfl, hx _ hc, fun a ha => ?_⟩
        have hn : H a = none := Same.free s ha
        exact hh (.own c) a _ _ (Nx.mk' hF (s.trans (same_upd ha))) (e0.trans (s.trans (same_upd ha))) ⟨a, rfl, hcf _ hc, by show mix F H _ a = _; rw [mix_new hn]; exact upd_same⟩ hq3
      | plan n =>
        intro d H' s hd ⟨m, hm⟩
        refine ⟨_, rfl, hx _ hc, fun a ha => ?_⟩
        have hn : H a = none := Same.free s ha
        exact hh (.plan n) a _ _ (Nx.mk' hF (s.trans (same_upd ha))) (e0.trans (s.trans (same_upd ha))) ⟨a, rfl, hcf _ hc, d, m, by show mix F H _ a = _; rw [mix_new hn]; exact upd_same, by rw [mix_new hd]; exact same_upd ha _ _ hm⟩ hq3
    · exact hQ2.elim
/-! ### lists of ints (bools, texts): told anew, wherever they stand -/
theorem g_anew [Sc α] {f : List α → List α} (hf : ∀ (p : Addr) (xs : List α) H' (G : Hp), G p = H' p → Rp.rep K H' (.ref p) xs → Rp.rep K G (.ref p) xs) : True := trivial
theorem reps_at [Sc α] {G H' : Hp} {p : Addr} {vs : List V} {xs : List α} (h : G p = some (.lst vs)) (hv : All2 (Rp.rep K H') vs xs) : Rp.rep K G (.ref p) xs := ⟨p, vs, rfl, h, hv.mono fun _ _ x => Sc.is.mpr (Sc.is.mp x)⟩
theorem g_listS [Sc α] {m : R (List α)} (h : Gr K E ta σ H H m) : Gr K E (tCB (rListOf K) (tCons ta tNil)) σ F H m := fun H1 e Q hq =>
  h H1 e _ (wp_mono hq (fun xs _ k v H2 e2 r => by
    obtain ⟨p, vs, rfl, hp, hv⟩ := r
    exact ⟨p, vs, rfl, .inl (SqL.of (mix_same (Same.refl _) (e.trans e2) p _ hp)), fun l hl => k _ _ (e2.trans (same_upd hl)) (reps_at (by rw [mix_new (Same.free (e.trans e2) hl)]; exact upd_same) hv)⟩) fun _ _ z => z)
theorem g_listTS [Sc α] {m : R (Tu α)} (h : Gr K E ta σ H H m) : Gr K E (tCB (rListOf K) (tCons ta tNil)) σ F H (R.bd m fun t => .ok t.l) := fun H1 e Q hq =>
  h H1 e _ (by
    rw [wp_bd] at hq
    refine wp_mono hq (fun xs _ k v H2 e2 r => ?_) fun _ _ z => z
    obtain ⟨p, vs, rfl, hp, hv⟩ := r
    exact ⟨p, vs, rfl, .inr (SqT.of (mix_same (Same.refl _) (e.trans e2) p _ hp)), fun l hl => k _ _ (e2.trans (same_upd hl)) (reps_at (by rw [mix_new (Same.free (e.trans e2) hl)]; exact upd_same) hv)⟩)
theorem g_listSS {m : R Scr} (h : Gr K E ta σ H H m) : Gr K E (tCB (rListOf K) (tCons ta tNil)) σ F H (R.bd m fun t => .ok t.l) := fun H1 e Q hq =>
  h H1 e _ (by
    rw [wp_bd] at hq
    refine wp_mono hq (fun xs _ k v H2 e2 r => ?_) fun _ _ z => z
    obtain ⟨p, rfl, hp⟩ := r
    exact ⟨p, _, rfl, .inl ((mix_same (Same.refl _) (e.trans e2)).seq hp), fun l hl => k _ _ (e2.trans (same_upd hl)) (reps_at (K := K) (H' := H) (by rw [mix_new (Same.free (e.trans e2) hl)]; exact upd_same) (ints_rep _))⟩)
theorem g_tupleS [Sc α] {m : R (List α)} (h : Gr K E ta σ H H m) : Gr K E (tCB (rTupOf K) (tCons ta tNil)) σ F H (R.bd m fun l => .ok (Tu.mk l)) := fun H1 e Q hq =>
  h H1 e _ (by
    rw [wp_bd] at hq
    refine wp_mono hq (fun xs _ k v H2 e2 r => ?_) fun _ _ z => z
    obtain ⟨p, vs, rfl, hp, hv⟩ := r
    exact ⟨p, vs, rfl, .inl ⟨SqL.of (mix_same (Same.refl _) (e.trans e2) p _ hp), fun l hl => k _ _ (e2.trans (same_upd hl)) ⟨l, vs, rfl, by rw [mix_new (Same.free (e.trans e2) hl)]; exact upd_same, hv.mono fun _ _ x => Sc.is.mpr (Sc.is.mp x)⟩⟩⟩)
theorem gro_arg {mo : R (Option Int)} {to : TO} {f : Option Int → R ρ} {Q : VK} {H1 : Hp} (ha : GrO K E to σ H mo) (e : Same H H1) (hq : Wp (R.bd mo f) (fun b => ∀ v H2, Same H1 H2 → Rp.rep K (mix F H H2) v b → Q v H2) (EE K E H1))
    {Q' : Option Int → Hp → Prop} (h : ∀ a H2, Same H1 H2 → Wp (f a) (fun b => ∀ v H3, Same H2 H3 → Rp.rep K (mix F H H3) v b → Q v H3) (EE K E H2) → Q' a H2) : to σ H1 Q' := gro_seq ha e hq h
theorem g_cutS [Sc α] {tlo thi : TO} {m : R (List α)} {mlo mhi : R (Option Int)} (h : Gr K E ta σ H H m) (hlo : GrO K E tlo σ H mlo) (hhi : GrO K E thi σ H mhi) :
    Gr K E (tSl (rSlL K) ta tlo thi) σ F H (R.bd m fun xs => R.bd mlo fun lo => R.bd mhi fun hi => .ok (cut xs lo hi)) := fun H1 e Q hq =>
  gr_arg h e hq fun xs v H2 e2 r hq2 => gro_seq hlo (e.trans e2) hq2 fun lo H3 e3 hq3 => gro_seq hhi (e.trans (e2.trans e3)) hq3 fun hi H4 e4 hq4 => by
    obtain ⟨p, vs, rfl, hp, hv⟩ := r
    exact ⟨p, vs, rfl, SqL.of (e4 p _ (e3 p _ hp)), fun l hl => hq4 _ _ (same_upd hl) (reps_at (by rw [mix_new (Same.free (e.trans (e2.trans (e3.trans e4))) hl)]; exact upd_same) (all2_cut hv))⟩
theorem atI_cutmap {ns : List Int} {lo hi : Option Int} : cutV (ns.map V.int) lo hi = (cut ns lo hi).map V.int := by
  unfold cutV cut
  rw [List.length_map, List.map_take, List.map_drop]
theorem g_cutSS {tlo thi : TO} {m : R Scr} {mlo mhi : R (Option Int)} (h : Gr K E ta σ H H m) (hlo : GrO K E tlo σ H mlo) (hhi : GrO K E thi σ H mhi) :
    Gr K E (tSl (rSlL K) ta tlo thi) σ F H (R.bd m fun xs => R.bd mlo fun lo => R.bd mhi fun hi => .ok (cut xs.l lo hi)) := fun H1 e Q hq =>
  gr_arg h e hq fun xs v H2 e2 r hq2 => gro_seq hlo (e.trans e2) hq2 fun lo H3 e3 hq3 => gro_seq hhi (e.trans (e2.trans e3)) hq3 fun hi H4 e4 hq4 => by
    obtain ⟨p, rfl, hp⟩ := r
    refine ⟨p, _, rfl, (e3.trans e4).seq hp, fun l hl => hq4 _ _ (same_upd hl) ?_⟩
    rw [atI_cutmap]
    exact reps_at (K := K) (H' := H) (by rw [mix_new (Same.free (e.trans (e2.trans (e3.trans e4))) hl)]; exact upd_same) (ints_rep _)
theorem g_catS [Sc α] {ma mb : R (List α)} (ha : Gr K E ta σ H H ma) (hb : Gr K E tb σ H H mb) : Gr K E (tOp rCat ta tb) σ F H (R.bd ma fun a => R.bd mb fun b => gd (a.length + b.length ≤ lim) (.ok (a ++ b))) := fun H1 e Q hq =>
  gr_arg ha e hq fun a v H2 e2 r hq2 => gr_arg hb (e.trans e2) hq2 fun b w H3 e3 r3 hq3 => by
    obtain ⟨p, vs, rfl, hp, hv⟩ := r
    obtain ⟨q, ws, rfl, hq', hw⟩ := r3
    unfold gd at hq3
    split at hq3
    · rename_i c
      refine ⟨p, q, vs, ws, rfl, rfl, e3 p _ hp, hq', lim_line (by rw [hv.length, hw.length]; exact c), fun l hl => hq3 _ _ (same_upd hl) (reps_at (K := K) (H' := H3) (by rw [mix_new (Same.free (e.trans (e2.trans e3)) hl)]; exact upd_same) ((hv.mono fun _ _ x => Rp.mono e3 x).append hw))⟩
    · exact hq3.elim
theorem g_repS [Sc α] {ma : R (List α)} {mb : R Int} (ha : Gr K E ta σ H H ma) (hb : Gr K E tb σ H H mb) : Gr K E (tOp rRep ta tb) σ F H (R.bd ma fun a => R.bd mb fun b => repR a b) := fun H1 e Q hq =>
  gr_arg ha e hq fun a v H2 e2 r hq2 => gr_arg hb (e.trans e2) hq2 fun b w H3 e3 r3 hq3 => by
    obtain ⟨p, vs, rfl, hp, hv⟩ := r
    have r3' : w = .int b := r3
    subst r3'
    unfold repR gd at hq3
    split at hq3
    · rename_i c
      refine ⟨p, b, vs, rfl, rfl, e3 p _ hp, by omega, by omega, lim_line (by rw [hv.length]; exact c.2.2), fun l hl => hq3 _ _ (same_upd hl) (reps_at (K := K) (H' := H2) (by rw [mix_new (Same.free (e.trans (e2.trans e3)) hl)]; exact upd_same) (all2_rep hv _))⟩
    · exact hq3.elim
end
end G

set_option Elab.async false
set_option linter.all false
set_option maxRecDepth 100000
set_option maxHeartbeats 4000000
/-! G: small words for the walks; the head. -/
namespace G
open PySem PySem.Spec PyProof.Rows L2
theorem wp_bdi {α β : Type} {m : R α} {f : α → R β} {k : β → Prop} {e : Er → Prop} (h : Wp (R.bd m f) k e) : Wp m (fun a => Wp (f a) k e) e := by rw [wp_bd] at h; exact h
def flk {S ρ β : Type} (go : S → R β) (ret : ρ → R β) : Fl S ρ → R β
  | .go s => go s
  | .brk s => go s
  | .ret r => ret r
instance (priority := low) {S ρ : Type} : Rp (Fl S ρ) := ⟨fun _ _ _ _ => False, fun _ h => h⟩
theorem flk_go {S ρ β : Type} {go : S → R β} {ret : ρ → R β} {s : S} {k : β → Prop} {e : Er → Prop} (h : Wp (flk go ret (.go s)) k e) : Wp (go s) k e := h
theorem nil_same {H : Hp} : Same nil0 H := fun _ _ h => by cases h
theorem mix_ff {F F' H H' : Hp} (e : Same F F') : Same (mix F H H') (mix F' H H') := fun b o h => by
  cases q : H b with
  | some u =>
    cases z : tupB (some u) with
    | true => rw [mix_tup q z] at h ⊢; exact h
    | false => rw [mix_old q z] at h ⊢; exact e b o h
  | none => rw [mix_new q] at h ⊢; exact h
section
variable {K : PySem.W.Frag} {E : XK} {σ : L2.St} {H0 F H F' H' F1 H1 F2 H2 : Hp} {D : Ends} {tb : TS} {P P2 : Addr → Prop}
theorem Nx.refl' (hF : Same F H) : Nx P F H F H := ⟨Same.refl _, fun _ _ _ h => h, hF, fun _ _ _ _ n => n, fun b o h => ⟨o, h, rfl⟩⟩
theorem Nx.step (a : Nx P F H F1 H1) (b : Nx P2 F1 H1 F2 H2) (h : ∀ q, P2 q → P q ∨ H q = none) : Nx P F H F2 H2 :=
  ⟨a.ff.trans b.ff, fun x o n q => b.hh x o (fun z => by
    rcases h x z with y | y
    · exact n y
    · rw [y] at q; cases q) (a.hh x o n q), b.fh, fun x o z q n => by
    obtain ⟨o', q', t⟩ := a.th x o q
    exact b.own x o' (t.trans z) q' (a.own x o z q n), fun x o q => by
    obtain ⟨o', q', t⟩ := a.th x o q
    obtain ⟨o2, q2, t2⟩ := b.th x o' q'
    exact ⟨o2, q2, t2.trans t⟩⟩
theorem Nx.step0 (a : Nx P F H F1 H1) (b : Nx0 F1 H1 F2 H2) : Nx P F H F2 H2 := a.step b fun _ z => z.elim
/-- the frozen heap grows by a list of ours at p -/
theorem Nx.stepF {p : Addr} (a : Nx P F H F1 H1) (hf : Same F1 F2) (h2 : Same F2 H1) (hn : ∀ q, q ≠ p → F2 q = F1 q) (hp : H p = none) : Nx P F H F2 H1 :=
  ⟨a.ff.trans hf, a.hh, h2, fun x o z q n => by
    have : x ≠ p := fun z => by rw [z, hp] at q; cases q
    rw [hn x this]
    exact a.own x o z q n, a.th⟩
theorem none_of_new {p : Addr} (a : Nx P F H F1 H1) (nw : ∀ q, (∃ u, H1 q = some u) → q ≠ p) : H p = none := by
  cases q : H p with
  | none => rfl
  | some u =>
    obtain ⟨o, h, _⟩ := a.th p u q
    exact absurd rfl (nw p ⟨o, h⟩)
theorem gn {i : Nat} {v : V} (h : tb D (σ.set i (some v)) H) : gName i v σ H (fun σ2 H2 => tb D σ2 H2) := h
theorem gp {α β : Type} [Rp α] [Rp β] {i j : Nat} {v : V} {a : α × β} {G : Hp} (r : Rp.rep K G v a) (hG : Same G H) (h : ∀ x y, Rp.rep K G x a.1 → Rp.rep K G y a.2 → tb D ((σ.set i (some x)).set j (some y)) H) :
    gTup K 2 (gCons (gName i) (gCons (gName j) gNil)) v σ H (fun σ2 H2 => tb D σ2 H2) := by
  obtain ⟨p, x, y, rfl, hp, r1, r2⟩ := r
  exact ⟨p, _, rfl, SqT.of (hG p _ hp), rfl, x, _, rfl, y, _, rfl, rfl, h x y r1 r2⟩
/-- the pair's, for a comprehension's target -/
theorem gpc {α β : Type} [Rp α] [Rp β] {i j : Nat} {v : V} {a : α × β} {G : Hp} {τ : L2.St} (r : Rp.rep K G v a) (hG : Same G H) : ∃ x y, Rp.rep K G x a.1 ∧ Rp.rep K G y a.2 ∧ ∀ Q : L2.St → Hp → Prop, Q ((τ.set i (some x)).set j (some y)) H → gTup K 2 (gCons (gName i) (gCons (gName j) gNil)) v τ H Q := by
  obtain ⟨p, x, y, rfl, hp, r1, r2⟩ := r
  exact ⟨x, y, r1, r2, fun Q q => ⟨p, _, rfl, SqT.of (hG p _ hp), rfl, x, _, rfl, y, _, rfl, rfl, q⟩⟩
end
/-! ### the head: facts by names and one more look -/
def obsG (fa : List He.Fa) (fn : List He.DefD) (bx : PySem.W.Frag → Bool) (K : PySem.W.Frag) : He.AlD := (((fa.all fun f => f.ok K) && fn.all fun d => d.ok K) && bx K, fn.map fun d => He.fnW K d.at_)
def SaysG (fa : List He.Fa) (fn : List He.DefD) (bx : PySem.W.Frag → Bool) (K : PySem.W.Frag) : Prop := obsG fa fn bx K = He.valD fn
def obsGG (n : Nat) (fa : List He.Fa) (fn : List He.DefD) (bx : PySem.W.Frag → Bool) (g : Addr → Option Obj) : He.AlD := obsG fa fn bx (He.frG g (He.asD g n))
def hookG (n : Nat) (fa : List He.Fa) (fn : List He.DefD) (bx : PySem.W.Frag → Bool) : PySem.W.Hook where
  α := He.AlD
  obs := fun s => obsGG n fa fn bx s.heap.get?
  val := fun _ => He.valD fn
  says := fun _ h => ∃ K : PySem.W.Frag, K.In h ∧ SaysG fa fn bx K
  of := fun _ _ e => ⟨_, He.frG_in, e⟩
  keeps := fun _ _ _ ⟨K, hK, c⟩ k => ⟨K, PySem.W.Frag.In.keeps hK k, c⟩
theorem obsGG_eq {n : Nat} {fa : List He.Fa} {fn : List He.DefD} {bx : PySem.W.Frag → Bool} {g : Addr → Option Obj} {s : Shared} (h : ∀ a, g a = s.heap.get? a) : obsGG n fa fn bx g = (hookG n fa fn bx).obs s := by
  have e : g = s.heap.get? := funext h
  rw [e] <;> rfl
section
variable {fa : List He.Fa} {fn : List He.DefD} {bx : PySem.W.Frag → Bool} {K : PySem.W.Frag}
theorem SaysG.d (c : SaysG fa fn bx K) : He.SaysD fa fn K := by
  have h1 : (((fa.all fun f => f.ok K) && fn.all fun d => d.ok K) && bx K) = true := congrArg (fun z : He.AlD => z.1) c
  have h2 : fn.map (fun d => He.fnW K d.at_) = fn.map He.DefD.val := congrArg (fun z : He.AlD => z.2) c
  have h3 := (He.ba h1).1
  show (((fa.all fun f => f.ok K) && fn.all fun d => d.ok K), fn.map fun d => He.fnW K d.at_) = (true, fn.map He.DefD.val)
  rw [h3, h2]
theorem SaysG.b (c : SaysG fa fn bx K) : bx K = true := by
  have h1 : (((fa.all fun f => f.ok K) && fn.all fun d => d.ok K) && bx K) = true := congrArg (fun z : He.AlD => z.1) c
  exact (He.ba h1).2
theorem exc_ok {x : Str} (c : (He.Fa.exc x).ok K = true) : PySem.W.excIn K (He.ga K x) He.veBase "ValueError.__new__" = true ∧ PySem.W.keepIn K (.ref (He.ga K x)) = true ∧ PySem.W.subIn K (.ref (He.ga K x)) (.type "BaseException") = some true ∧ PySem.W.typeIn K (.ref (He.ga K x)) = some (.type "type") := by
  have c2 : (PySem.W.excIn K (He.ga K x) He.veBase "ValueError.__new__" && (PySem.W.keepIn K (.ref (He.ga K x)) && (decide (PySem.W.subIn K (.ref (He.ga K x)) (.type "BaseException") = some true) && decide (PySem.W.typeIn K (.ref (He.ga K x)) = some (.type "type"))))) = true := c
  obtain ⟨h1, h2⟩ := He.ba c2
  obtain ⟨h3, h4⟩ := He.ba h2
  obtain ⟨h5, h6⟩ := He.ba h4
  exact ⟨h1, h3, of_decide_eq_true h5, of_decide_eq_true h6⟩
theorem kn_ok {c : Cn} (h : (He.Fa.glo c.nm).ok K = true) : knB K c = true := h
theorem exm_ok {x y : Str} {b : Bool} (c : (He.Fa.exm x y b).ok K = true) : PySem.W.exmOne K (.ref (He.ga K x)) (.ref (He.ga K y)) = some b := of_decide_eq_true c
theorem meth_ok {x m : Str} (c : (He.Fa.meth x m).ok K = true) : PySem.W.findIn K (.ref (He.ga K x)) m = some (some (.ref (He.ma K (He.ga K x) m))) ∧ PySem.W.isFn K (.ref (He.ma K (He.ga K x) m)) = true ∧ PySem.W.keepIn K (.ref (He.ma K (He.ga K x) m)) = true := by
  have c2 : (He.eqO (PySem.W.findIn K (.ref (He.ga K x)) m) (some (some (.ref (He.ma K (He.ga K x) m)))) && (PySem.W.isFn K (.ref (He.ma K (He.ga K x) m)) && PySem.W.keepIn K (.ref (He.ma K (He.ga K x) m)))) = true := c
  obtain ⟨h1, h2⟩ := He.ba c2
  obtain ⟨h3, h4⟩ := He.ba h2
  exact ⟨He.eqO_ok h1, h3, h4⟩
end
theorem walk_ofW {l : PySem.W.OpenLaw} {n k : Nat} {q : Program} {loose : List Str} {XP : (Str → Option Value) → Heap → Prop} {YP : World → Heap → Prop} {d : DefRec} {CX : World → CXT} {x : Str}
    (hn : l.most = some n) (hn2 : n ≤ sizeLine) (hdf : d.params.defaults = []) (hr : Room k callerA)
    (F : ∀ (w : World) (mg : Str → Option Value) (fa : Addr) (h : Heap), YP w h → h.Ns mainGlobals mg → mg d.name = some (.ref fa) →
      ∃ (K : PySem.W.Frag) (fd : FuncData) (sp : Sp), K.In h ∧ (∀ (s : Shared) (u : Value), BindsTo s fd ⟨[u], []⟩ [(x, u)]) ∧
        (∀ (H : Hp) (a : Addr) (ns : List Int), ns.length ≤ n → (∀ k ∈ ns, Builtin.Int.intBits k ≤ 1048576) → SqL K H a (ns.map V.int) → sp [.ref a] H (fun v _ => v = .bl true) fun _ _ _ => False) ∧
        ∀ base : Heap, K.In base → base.Ns mainGlobals mg → FnOk l.prog w K mg base (CX w) k fa fd [x] sp)
    (hCX : ∀ (w : World) (H : Hp) (s : Shared) (e : Value) (s' : Shared), CX w [] H s (fun _ _ _ => False) e s' → False) :
    PySem.W.WalkO q loose XP YP l.row.toRowW d [] (fun f vs => PySem.call f vs) := by
  refine Att.attach_callB hn hdf fun w s₀ s₁ mg mb fa o pm cd doc a vs ns G Y ho hd hcd hmg hobj hints hlen hbits hg => ?_
  obtain ⟨K, fd, sp, KX, hb, hsp, hF⟩ := F w mg fa _ Y G.T.g hmg
  exact law_call KX G.T.g G.T.b G.T.builtins G.T.nolimit hg hobj hints (Nat.le_trans hlen hn2) hr hF hb (fun H _ hS => hsp H a ns hlen hbits hS) fun H e s' => hCX w H s₁ e s'
section
variable {X : Cx} {K : PySem.W.Frag}
theorem ix_listK (h : X.K = K) : IxR X (rIxL K) := by subst h; exact ix_list
theorem ix_tupK (h : X.K = K) : IxR X (rIxT K) := by subst h; exact ix_tup
theorem sl_listK (h : X.K = K) : SlR X (rSlL K) := by subst h; exact sl_list
theorem op_in_seqK (h : X.K = K) : OpR X (compareOp .In) (rIn K false) := by subst h; exact op_in_seq
theorem op_notIn_seqK (h : X.K = K) : OpR X (compareOp .NotIn) (rIn K true) := by subst h; exact op_notIn_seq
theorem call_len_seqK (h : X.K = K) : CallR X (.builtin "len") (rLen K) := by subst h; exact call_len_seq
theorem call_list_ofK (h : X.K = K) : CallR X (.type "list") (rListOf K) := by subst h; exact call_list_of
theorem call_tuple_ofK (h : X.K = K) : CallR X (.type "tuple") (rTupOf K) := by subst h; exact call_tuple_of
theorem cr_sumK' (h : X.K = K) (hc : X.calm = true) : CallR X (.builtin "sum") (rSum K) := by subst h; exact cr_sum hc
theorem cr_minK' (h : X.K = K) (hc : X.calm = true) : CallR X (.builtin "min") (rMin K) := by subst h; exact cr_min hc
theorem cr_maxK' (h : X.K = K) (hc : X.calm = true) : CallR X (.builtin "max") (rMax K) := by subst h; exact cr_max hc
theorem cr_allK' (h : X.K = K) (hc : X.calm = true) : CallR X (.builtin "all") (rAll K) := by subst h; exact cr_all hc
theorem cr_anyK' (h : X.K = K) (hc : X.calm = true) : CallR X (.builtin "any") (rAny K) := by subst h; exact cr_any hc
theorem call_isiK (h : X.K = K) : CallR X (.builtin "isinstance") (rIsi K) := by subst h; exact call_isi
theorem op_eqPK (h : X.K = K) (hu : X.A.units + 64 < cLine) : OpR X (compareOp .Eq) (rEqP K) := by subst h; exact op_eqP hu
theorem op_nePK (h : X.K = K) (hu : X.A.units + 64 < cLine) : OpR X (compareOp .NotEq) (rNeP K) := by subst h; exact op_neP hu
theorem op_inPK (h : X.K = K) (hu : X.A.units + 64 < cLine) : OpR X (compareOp .In) (rInP K false) := by subst h; exact op_inP hu
theorem op_notInPK (h : X.K = K) (hu : X.A.units + 64 < cLine) : OpR X (compareOp .NotIn) (rInP K true) := by subst h; exact op_notInP hu
end
theorem raise_of {K : PySem.W.Frag} {E : XK} {H0 H : Hp} {α : Type} {k : α → Prop} {c : Cn} (hQ : Wp (.er (.own c)) k (EE K E H0)) (e0 : Same H0 H) : E (.ref (He.ga K c.nm)) none H := hQ H e0
end G
namespace G
open PySem PySem.Spec PyProof.Rows L2
theorem st_seq {t1 t2 : TS} {D : Ends} {σ : L2.St} {H : Hp} (h : t1 { D with nx := t2 D } σ H) : tSeq t1 t2 D σ H := h
theorem st_n {t : TS} {D : Ends} {σ : L2.St} {H : Hp} (h : t D σ H) : ({ D with nx := t D } : Ends).nx σ H := h
theorem st_next {D : Ends} {σ : L2.St} {H : Hp} (h : D.nx σ H) : tNext D σ H := h
theorem if_t {α : Type} {X Y : R α} {k : α → Prop} {e : Er → Prop} (h : Wp (if true = true then X else Y) k e) : Wp X k e := h
theorem if_f {α : Type} {X Y : R α} {k : α → Prop} {e : Er → Prop} (h : Wp (if false = true then X else Y) k e) : Wp Y k e := h
/-- no loop of the program turns as often -/
theorem fuel_ex : Nonempty {n : Nat // n = 10000000} := ⟨⟨_, rfl⟩⟩
noncomputable def fuel : Nat := (Classical.choice fuel_ex).1
theorem fuel_eq : fuel = 10000000 := (Classical.choice fuel_ex).2
section
variable {K : PySem.W.Frag} {E : XK} {σ : L2.St} {H0 F H : Hp} {D : Ends} {tu tz : TS} {t : TT} {α β S ρ : Type} [Rp α] {ta tb' tc : TE}
theorem s_cutW {m : R S} {kq : S → Prop} {ee : Er → Prop} (I : S → L2.St → Hp → Prop) (hQ : Wp m kq ee) (h1 : Wp m kq ee → tu { D with nx := fun σ' H' => ∃ s, I s σ' H' ∧ kq s } σ H) (h2 : ∀ s σ' H', I s σ' H' → kq s → tz D σ' H') : Evl.tCut tu tz D σ H :=
  ⟨_, h1 hQ, fun σ' H' ⟨s, a, b⟩ => h2 s σ' H' a b⟩
theorem for_Rd {J : It} {G : Hp} {xs : List α} {g : TG} {body : α → S → R (Fl S ρ)} {s0 : S} {kk : Fl S ρ → Prop} {ee : Er → Prop} (ok : ItOk J K G xs) (I : S → L2.St → Hp → Prop) (hk : ∀ s σ' H', I s σ' H' → Same G H') (h0 : I s0 σ H)
    (hQ : Wp (forR body xs s0) kk ee) (done : ∀ s σ' H', I s σ' H' → kk (.go s) → D.nx σ' H')
    (turn : ∀ x l s v σ' H' H'', I s σ' H' → Same H' H'' → Rp.rep K (mix G H' H'') v x → (∀ s σ' H', I s σ' H' → kk (.go s) → D.nx σ' H') → Wp (body x s) (kF (β := Unit) kk fun s' => Wp (forR body l s') kk ee) ee →
      g v σ' H'' fun σ2 H2 => tu { D with nx := fun σ3 H3 => ∃ s', I s' σ3 H3 ∧ Wp (forR body l s') kk ee, ct := fun σ3 H3 => ∃ s', I s' σ3 H3 ∧ Wp (forR body l s') kk ee, bk := D.nx } σ2 H2) : ∃ W : Nat → Nat → L2.St → Hp → Prop, (∃ m, W 0 m σ H) ∧ ∀ i m σ H, W i m σ H →
      (J.stop i H ∧ D.nx σ H) ∨ (J.go i H ∧ ∃ N : L2.St → Hp → Prop, (∀ σ' H', N σ' H' → ∃ m', m' < m ∧ W (i + 1) m' σ' H') ∧ ∀ x H', J.yld i H x H' → g x σ H' fun σ2 H2 => tu { D with nx := N, ct := N, bk := D.nx } σ2 H2) :=
  for_R ok I hk h0 hQ (fun x l s v σ' H' H'' a b c d => turn x l s v σ' H' H'' a b c done d) done
theorem while_Rd {c : S → R Bool} {body : S → R (Fl S ρ)} {n : Nat} {s0 : S} {kk : Fl S ρ → Prop} (I : S → L2.St → Hp → Prop) (h0 : I s0 σ H) (hQ : Wp (whileR c body n s0) kk (EE K E H0))
    (hc : ∀ s σ' H', I s σ' H' → Same H0 H' ∧ GrT K E t σ' H' (c s))
    (hd : ∀ s σ' H' H1, I s σ' H' → Same H' H1 → kk (.go s) → D.nx σ' H1)
    (hb : ∀ n s σ' H' H1, I s σ' H' → Same H' H1 → (∀ s σ' H' H1, I s σ' H' → Same H' H1 → kk (.go s) → D.nx σ' H1) → Wp (body s) (kF (β := Unit) kk fun s' => Wp (whileR c body n s') kk (EE K E H0)) (EE K E H0) →
      tu { D with nx := fun σ3 H3 => ∃ s', I s' σ3 H3 ∧ Wp (whileR c body n s') kk (EE K E H0), ct := fun σ3 H3 => ∃ s', I s' σ3 H3 ∧ Wp (whileR c body n s') kk (EE K E H0), bk := D.nx } σ' H1) : tWhile t tu D σ H :=
  while_R I h0 hQ hc (fun n s σ' H' H1 a b d => hb n s σ' H' H1 a b hd d) hd
theorem s_tryW {cs : List Cn} {cv : Value} {i : Nat} {ts : TS} {tb : WX → TS} {m : R S} {hand : Er → R S} {kq : S → Prop} (hF : Same F H) (e0 : Same H0 H) (hQ : Wp (catchR cs m hand) kq (EE K E H0))
    (hx : ∀ c ∈ cs, PySem.W.exmOne K (.ref (He.ga K c.nm)) cv = some true) (hcf : ∀ c ∈ cs, Cf K c)
    (hh : ∀ er a F' H', Nx0 F H F' H' → Same H0 H' → Rp.rep K F' (.ref a) (er : Er) → Wp (hand er) kq (EE K E H0) →
      ts { nx := fun σ' H' => D.nx (σ'.set i none) H', rt := D.rt, bk := fun σ' H' => D.bk (σ'.set i none) H', ct := fun σ' H' => D.ct (σ'.set i none) H' } (σ.set i (some (.ref a))) H')
    (hb : Wp m kq (EE K (WE (wHold K cv i ts D) σ) H) → tb (wHold K cv i ts D) D σ H) : tTry K cv i tb ts D σ H := by
  show tb (wHold K cv i ts D) D σ H
  refine hb ?_
  cases m with
  | ok s => exact hQ
  | bad => exact hQ.elim
  | er er =>
    have hQ2 : Wp (if er.cn ∈ cs then hand er else .bad) kq (EE K E H0) := hQ
    split at hQ2
    · rename_i hc
      cases er with
      | own c =>
        intro H' s
        refine ⟨_, rfl, hx _ hc, fun a ha => ?_⟩
        have hn : H a = none := Same.free s ha
        exact hh (.own c) a _ _ (Nx.mk' hF (s.trans (same_upd ha))) (e0.trans (s.trans (same_upd ha))) ⟨a, rfl, hcf _ hc, by show mix F H _ a = _; rw [mix_new hn]; exact upd_same⟩ hQ2
      | plan n =>
        intro d H' s hd ⟨m, hm⟩
        refine ⟨_, rfl, hx _ hc, fun a ha => ?_⟩
        have hn : H a = none := Same.free s ha
        exact hh (.plan n) a _ _ (Nx.mk' hF (s.trans (same_upd ha))) (e0.trans (s.trans (same_upd ha))) ⟨a, rfl, hcf _ hc, d, m, by show mix F H _ a = _; rw [mix_new hn]; exact upd_same, by rw [mix_new hd]; exact same_upd ha _ _ hm⟩ hQ2
    · exact hQ2.elim
/-- a < b <= c -/
theorem g_chain {f g : Int → Int → Bool} {a b c : Int} (ha : Gr K E ta σ F H (.ok a)) (hb : Gr K E tb' σ F H (.ok b)) (hc : Gr K E tc σ F H (.ok c)) :
    Gr K E (tChain (rI0 fun i j => .bl (f i j)) (rI0 fun i j => .bl (g i j)) ta tb' tc) σ F H (.ok (f a b && g b c)) := fun H1 e Q hq =>
  ha H1 e _ fun v H2 e2 r2 => hb H2 (e.trans e2) _ fun w H3 e3 r3 => ⟨a, b, r2, r3, f a b, rfl, by
    have hq' : ∀ v H2, Same H1 H2 → Rp.rep K (mix F H H2) v (f a b && g b c) → Q v H2 := hq
    cases h : f a b with
    | true =>
      rw [h] at hq'
      exact hc H3 (e.trans (e2.trans e3)) _ fun z H4 e4 r4 => ⟨b, c, r3, r4, hq' _ H4 (e2.trans (e3.trans e4)) rfl⟩
    | false =>
      rw [h] at hq'
      exact hq' _ H3 (e2.trans e3) rfl⟩
end
end G
namespace G
open PySem PySem.Spec PyProof.Rows L2
section
variable {K : PySem.W.Frag} {E : XK} {σ : L2.St} {H0 F H : Hp} {D : Ends} {te : TE} {α β γ : Type} [Rp α] [Rp β] [Rp γ]
/-- a pair that is new, its first part a list that becomes ours -/
theorem s_asgP0 [Sc α] [Sc β] {i : Nat} {m : R (List α × β)} {k : List α × β → R γ} {kk : γ → Prop} (he : Gr K E te σ nil0 H m) (hF : Same F H) (e0 : Same H0 H) (hQ : Wp (R.bd m k) kk (EE K E H0))
    (c : ∀ a b q p F' H', Nx0 F H F' H' → Same H0 H' → Own K H0 false F' H' p a → (∀ z, (∃ u, H z = some u) → z ≠ p) → F' q = some (.tup [.ref p, Sc.enc b]) → Wp (k (a, b)) kk (EE K E H0) → D.nx (σ.set i (some (.ref q))) H') : tAsg te (gName i) D σ H := by
  refine he H (Same.refl _) _ ?_
  rw [wp_bd] at hQ
  refine wp_mono hQ (fun a _ z v H2 e2 r => ?_) fun c _ z => z.mono e0
  obtain ⟨q, x, y, rfl, hq, ⟨p, vs, rfl, hp, hv⟩, r2⟩ := r
  have h2 := Sc.is.mp r2
  subst h2
  have pn : H p = none ∧ H2 p = some (.lst vs) := by
    rcases mix_cases hp with z | ⟨_, z⟩ | ⟨_, _, _, z⟩
    · exact z
    · cases z
    · cases z
  obtain ⟨hpn, hp2⟩ := pn
  have hq2 := mix_same nil_same e2 _ _ hq
  have qp : q ≠ p := fun z => by rw [z, hp2] at hq2; cases hq2
  refine c a.1 a.2 q p (delH (mix F H H2) p) H2 ⟨fun x o h => ?_, fun x o _ h => e2 x o h, fun x o h => ?_, fun x o t h n => ?_, fun x o h => ⟨o, e2 x o h, rfl⟩⟩ (e0.trans e2) (Own.of (Same.free e0 hpn) delH_same hp2 (hv.mono fun _ _ x => Sc.is.mpr (Sc.is.mp x))) (fun z ⟨u, hu⟩ e => by rw [e, hpn] at hu; cases hu) (by rw [delH_ne qp]; exact mix_ff nil_same _ _ hq) z
  · have : x ≠ p := fun z => by
      rw [z] at h
      have := hF p o h
      rw [hpn] at this
      cases this
    rw [delH_ne this]
    exact same_mix hF x o h
  · unfold delH at h
    split at h
    · cases h
    · exact mix_same hF e2 x o h
  · unfold delH
    split
    · rfl
    · rw [mix_old h t]
      exact n
theorem at_fst {i : Nat} {p q : Addr} {y : V} (h : σ[i]? = some (some (.ref q))) (ht : H q = some (.tup [.ref p, y])) : At (tOp (rIxT K) (tVar i) (tC (.int 0))) σ H p := fun H1 e Q z => ⟨_, h, q, _, 0, _, rfl, rfl, SqT.of (e _ _ ht), rfl, z⟩
theorem own_pair [Sc β] {q p : Addr} {a : List α} {b : β} {fl : Bool} (ht : F q = some (.tup [.ref p, Sc.enc b])) (o : Own K H0 fl F H p a) (hF : Same F H) : Rp.rep K H (.ref q) (a, b) :=
  ⟨q, _, _, rfl, hF _ _ ht, o.rep hF, Sc.is.mpr rfl⟩
end
end G

set_option Elab.async false
set_option linter.all false
set_option maxRecDepth 100000
set_option maxHeartbeats 4000000
/-! G: more forms. -/
namespace G
open PySem PySem.Spec PyProof.Rows L2
section
variable {X : Cx} {K : PySem.W.Frag} {E : XK} {σ : L2.St} {H0 F H : Hp} {ta tb : TE}
theorem cr_range1 : CallR X (.type "range") (fun vs H Q => ∃ j, vs = [V.int j] ∧ ∀ p, H p = none → Q (.ref p) (upd H p (.rng 0 j))) := by
  intro pins s σ H vs us Q I r h
  obtain ⟨j, rfl, q⟩ := h
  obtain ⟨u, rfl, rj⟩ := vals1 r
  obtain ⟨t, rfl⟩ := rj
  refine call_range_1 ⟨.ref s.heap.objs.size, upd H s.heap.objs.size (.rng 0 j), I.laid (t' := _) (fun b o e => Heap.get?_push_of_some _ e) (Nat.le_refl _) ?_, rfl, q _ (I.hok.fresh (Nat.le_refl _))⟩
  exact ⟨_, _, _, Heap.get?_push_size _ rfl⟩
abbrev rRg1 : List V → Hp → VK → Prop := fun vs H Q => ∃ j, vs = [V.int j] ∧ ∀ p, H p = none → Q (.ref p) (upd H p (.rng 0 j))
abbrev rInRg : R2 := fun x y H Q => ∃ i a lo hi, x = V.int i ∧ y = V.ref a ∧ H a = some (.rng lo hi) ∧ Q (.bl (decide (lo ≤ i ∧ i < hi))) H
abbrev rNotInRg : R2 := fun x y H Q => ∃ i a lo hi, x = V.int i ∧ y = V.ref a ∧ H a = some (.rng lo hi) ∧ Q (.bl (!decide (lo ≤ i ∧ i < hi))) H
theorem op_notIn_rng : OpR X (compareOp .NotIn) rNotInRg := by
  intro pins s σ H x y v u Q I rx ry h
  obtain ⟨i, a, lo, hi, rfl, rfl, ha, q⟩ := h
  obtain ⟨k, rfl⟩ := rx
  obtain rfl : u = Value.ref a := ry
  obtain ⟨t1, t2, t3, ho⟩ := I.hok a _ ha
  show wpAny _ _ (do return Value.bool (!(← contains (Value.ref a) (Value.int i k)))) _ _ s
  refine wpAny_bind (wpAny_contains_slot (T := "range") ⟨_, ho, rfl⟩ F.slot_range_contains (call_meets F.slot_range_contains ⟨_, ho, rfl⟩ F.entry_range_contains (F.args_range_contains_2 _ _) (q_contains a lo hi i t1 t2 t3 k)
    ⟨ho, wpAny_truthy_bool (wpAny_pure ⟨.bl _, H, I, rfl, ?_⟩)⟩))
  rw [place1]
  exact q
/-- x in range(n) -/
theorem g_inRg {ma mb : R Int} (ha : Gr K E ta σ H H ma) (hb : Gr K E tb σ H H mb) : Gr K E (tOp rInRg ta (tCB rRg1 (tCons tb tNil))) σ F H (R.bd ma fun i => R.bd mb fun j => .ok (decide (0 ≤ i ∧ i < j))) := fun H1 e Q hq =>
  gr_seq (g_sc (F' := H) ha) e hq fun i v H2 e2 r hq2 => gr_seq (g_sc (F' := H) hb) (e.trans e2) hq2 fun j w H3 e3 r3 hq3 => by
    have r' : v = .int i := r
    have r3' : w = .int j := r3
    subst r'; subst r3'
    exact ⟨j, rfl, fun p hp => ⟨i, p, 0, j, rfl, rfl, upd_same, hq3 _ _ (same_upd hp) rfl⟩⟩
theorem g_notInRg {ma mb : R Int} (ha : Gr K E ta σ H H ma) (hb : Gr K E tb σ H H mb) : Gr K E (tOp rNotInRg ta (tCB rRg1 (tCons tb tNil))) σ F H (R.bd ma fun i => R.bd mb fun j => .ok (!decide (0 ≤ i ∧ i < j))) := fun H1 e Q hq =>
  gr_seq (g_sc (F' := H) ha) e hq fun i v H2 e2 r hq2 => gr_seq (g_sc (F' := H) hb) (e.trans e2) hq2 fun j w H3 e3 r3 hq3 => by
    have r' : v = .int i := r
    have r3' : w = .int j := r3
    subst r'; subst r3'
    exact ⟨j, rfl, fun p hp => ⟨i, p, 0, j, rfl, rfl, upd_same, hq3 _ _ (same_upd hp) rfl⟩⟩
/-! ### functions that may tell what they were handed -/
variable {α β γ δ ρ : Type} [Rp α] [Rp β] [Rp γ] [Rp δ] [Rp ρ] {D : Ends} {te tc td : TE} {Gz : Hp} {Ex : L2.St → XK}
abbrev KS (K : PySem.W.Frag) (Gz H : Hp) (Q : VK) : ρ → Prop := fun r => ∀ v' H', Same H H' → Rp.rep K (mix Gz H H') v' r → Q v' H'
theorem mix_back {F1 H1 H2 : Hp} (hF : Same F1 H1) (e0 : Same H0 H1) (e2 : Same H1 H2) (n : Nx (fun _ => False) Gz H0 F1 H1) : Same (mix F1 H1 H2) (mix Gz H0 H2) := fun b o h => by
  rcases mix_cases h with ⟨z, h⟩ | ⟨z, t⟩ | ⟨u, z, t, h⟩
  · rw [mix_new (Same.free e0 z)]
    exact h
  · cases z0 : H0 b with
    | none => rw [mix_new z0]; exact e2 b o z
    | some u0 =>
      have := e0 b u0 z0
      rw [z] at this
      cases this
      exact mix_tup z0 t
  · cases z0 : H0 b with
    | none => rw [mix_new z0]; exact e2 b o (hF b o h)
    | some u0 =>
      have := e0 b u0 z0
      rw [z] at this
      cases this
      rw [mix_old z0 t]
      cases g : Gz b with
      | none =>
        have := n.own b u t z0 g
        rw [this] at h
        cases h
      | some o1 =>
        have := n.ff b o1 g
        rw [this] at h
        exact h
theorem s_retS {m : R α} {k : α → R β} {kk : β → Prop} (he : Gr K E te σ F H m) (hF : Same F H) (e0 : Same H0 H) (n : Nx (fun _ => False) Gz H0 F H) (hQ : Wp (R.bd m k) kk (EE K E H0)) (hk : ∀ a, Wp (k a) kk (EE K E H0) → KS K Gz H0 D.rt a) : tRet te D σ H := by
  refine he H (Same.refl _) _ ?_
  rw [wp_bd] at hQ
  exact wp_mono hQ (fun a _ q v H2 e2 r => hk a q v H2 (e0.trans e2) (Rp.mono (mix_back hF e0 e2 n) r)) fun c _ z => z.mono e0
theorem mix_mix {F H H2 H3 : Hp} (e : Same H H2) (e3 : Same H2 H3) : Same (mix (mix F H H2) H2 H3) (mix F H H3) := fun b o h => by
  rcases mix_cases h with ⟨z, h⟩ | ⟨z, t⟩ | ⟨u, z, t, h⟩
  · rw [mix_new (Same.free e z)]
    exact h
  · cases z0 : H b with
    | none => rw [mix_new z0]; exact e3 b o z
    | some u0 =>
      have := e b u0 z0
      rw [z] at this
      cases this
      exact mix_tup z0 t
  · exact mix_mono e3 b o h
def spS1 (K : PySem.W.Frag) (f : α → R ρ) : Sp := fun vs H Q E => ∃ v a Gz, vs = [v] ∧ Same Gz H ∧ Rp.rep K Gz v a ∧ Wp (f a) (KS K Gz H Q) (EE K E H)
def spS2 (K : PySem.W.Frag) (f : α → β → R ρ) : Sp := fun vs H Q E => ∃ v w a b Gz, vs = [v, w] ∧ Same Gz H ∧ Rp.rep K Gz v a ∧ Rp.rep K Gz w b ∧ Wp (f a b) (KS K Gz H Q) (EE K E H)
def spS3 (K : PySem.W.Frag) (f : α → β → γ → R ρ) : Sp := fun vs H Q E => ∃ v w x a b c Gz, vs = [v, w, x] ∧ Same Gz H ∧ Rp.rep K Gz v a ∧ Rp.rep K Gz w b ∧ Rp.rep K Gz x c ∧ Wp (f a b c) (KS K Gz H Q) (EE K E H)
theorem g_callS1 {f : α → R ρ} {ma : R α} (ha : Gr K E ta σ F H ma) (hF : Same F H) (hE : Ex σ = E := by rfl) : Gr K E (tCallS (spS1 K f) Ex (tCons ta tNil)) σ F H (R.bd ma f) := by
  subst hE
  exact fun H1 e Q hq =>
  gr_seq ha e hq fun a v H2 e2 r hq2 => ⟨v, a, mix F H H2, rfl, mix_same hF (e.trans e2), r, wp_mono hq2 (fun b _ k v' H3 e3 r3 => k v' H3 e3 (Rp.mono (mix_mix (e.trans e2) e3) r3)) fun c _ z => z⟩
theorem g_callS2 {f : α → β → R ρ} {ma : R α} {mb : R β} (ha : Gr K E ta σ F H ma) (hb : Gr K E tb σ F H mb) (hF : Same F H) (hE : Ex σ = E := by rfl) : Gr K E (tCallS (spS2 K f) Ex (tCons ta (tCons tb tNil))) σ F H (R.bd ma fun a => R.bd mb fun b => f a b) := by
  subst hE
  exact fun H1 e Q hq =>
  gr_seq ha e hq fun a v H2 e2 r hq2 => gr_seq hb (e.trans e2) hq2 fun b w H3 e3 r3 hq3 => ⟨v, w, a, b, mix F H H3, rfl, mix_same hF (e.trans (e2.trans e3)), Rp.mono (mix_mono e3) r, r3, wp_mono hq3 (fun b _ k v' H4 e4 r4 => k v' H4 e4 (Rp.mono (mix_mix (e.trans (e2.trans e3)) e4) r4)) fun c _ z => z⟩
theorem g_callS3 {f : α → β → γ → R ρ} {ma : R α} {mb : R β} {mc : R γ} (ha : Gr K E ta σ F H ma) (hb : Gr K E tb σ F H mb) (hc : Gr K E tc σ F H mc) (hF : Same F H) (hE : Ex σ = E := by rfl) :
    Gr K E (tCallS (spS3 K f) Ex (tCons ta (tCons tb (tCons tc tNil)))) σ F H (R.bd ma fun a => R.bd mb fun b => R.bd mc fun c => f a b c) := by
  subst hE
  exact fun H1 e Q hq =>
  gr_seq ha e hq fun a v H2 e2 r hq2 => gr_seq hb (e.trans e2) hq2 fun b w H3 e3 r3 hq3 => gr_seq hc (e.trans (e2.trans e3)) hq3 fun c x H4 e4 r4 hq4 =>
    ⟨v, w, x, a, b, c, mix F H H4, rfl, mix_same hF (e.trans (e2.trans (e3.trans e4))), Rp.mono ((mix_mono e3).trans (mix_mono e4)) r, Rp.mono (mix_mono e4) r3, r4, wp_mono hq4 (fun b _ k v' H5 e5 r5 => k v' H5 e5 (Rp.mono (mix_mix (e.trans (e2.trans (e3.trans e4))) e5) r5)) fun c _ z => z⟩
/-! ### a list and the script -/
abbrev rCatL (K : PySem.W.Frag) : R2 := fun x y H Q => ∃ l b xs zs, x = .ref l ∧ y = .ref b ∧ SqL K H l xs ∧ SqL K H b zs ∧ xs.length + zs.length ≤ sizeLine ∧ ∀ p, H p = none → Q (.ref p) (upd H p (.lst (xs ++ zs)))
theorem op_catL : OpR X (binaryOp .Add) (rCatL X.K) := by
  intro pins s σ H x y v u Q I rx ry h
  obtain ⟨l, b, xs, zs, rfl, rfl, hH, hB, hz, q⟩ := h
  cases rx
  cases ry
  obtain ⟨its, r, ⟨⟨cls, dd, data, sl⟩, n, ho, hc, hdd, hd⟩, _⟩ := I.list hH
  obtain ⟨its2, r2, ⟨⟨cls2, dd2, data2, sl2⟩, n2, ho2, hc2, hdd2, hd2⟩, _⟩ := I.list hB
  simp only at hc hd hc2 hd2 hdd hdd2
  subst hc hd hc2 hd2 hdd hdd2
  have e : its.toArray ++ its2.toArray = (its ++ its2).toArray := by simp
  have hsz : its.toArray.size + its2.toArray.size ≤ sizeLine := by
    rw [List.size_toArray, List.size_toArray, ← r.length, ← r2.length]
    exact hz
  refine concat_meets ⟨_, ho, rfl⟩ ⟨_, ho2, rfl⟩ noFill_list_add seq_list_add PySem.F.slot_list_add PySem.F.entry_list_add (PySem.F.args_list_add_2 _ _) (list_addW l b its.toArray its2.toArray n n2 none none sl sl2 hsz) ⟨ho, ho2, ?_⟩
  rw [e]
  exact ⟨.ref _, _, I.lnew (t' := s.toks) (r.append r2) (by rw [List.length_append]; omega), rfl, q _ I.fresh⟩
theorem g_catScr {ma : R (List Int)} {mb : R Scr} (ha : Gr K E ta σ H H ma) (hb : Gr K E tb σ H H mb) : Gr K E (tOp (rCatL K) ta tb) σ F H (R.bd ma fun a => R.bd mb fun b => gd (a.length + b.l.length ≤ lim) (.ok (a ++ b.l))) := fun H1 e Q hq =>
  gr_arg ha e hq fun a v H2 e2 r hq2 => gr_arg hb (e.trans e2) hq2 fun b w H3 e3 r3 hq3 => by
    obtain ⟨p, vs, rfl, hp, hv⟩ := r
    obtain ⟨p2, rfl, hp2⟩ := r3
    have hv' := rep_ints hv
    subst hv'
    unfold gd at hq3
    split at hq3
    · rename_i c
      refine ⟨p, p2, _, _, rfl, rfl, SqL.of (e3 p _ hp), hp2, lim_line (by rw [List.length_map, List.length_map]; exact c), fun l hl => ?_⟩
      refine hq3 _ _ (same_upd hl) ⟨l, (a ++ b.l).map V.int, rfl, ?_, ints_rep _⟩
      rw [mix_new (Same.free (e.trans (e2.trans e3)) hl), List.map_append]
      exact upd_same
    · exact hq3.elim
/-! ### xs.count(y), xs.index(y) -/
theorem cnt_eqU {x : V} : ∀ {xs : List V} {us : List Value}, Vals xs us → xs.all flatV = true → us.countP (eqU x) = xs.countP fun y => eqV y x
  | _, _, .nil, _ => rfl
  | y :: xs, u :: us, .cons r t, f => by
    rw [List.all_cons, Bool.and_eq_true] at f
    rw [List.countP_cons, List.countP_cons, eqU_of r f.1, cnt_eqU t f.2]
def rCntV (K : PySem.W.Frag) : V → List V → Hp → VK → Prop := fun x xs H Q => ∃ p ys y, x = .ref p ∧ xs = [y] ∧ SqL K H p ys ∧ flatV y = true ∧ ys.all flatV = true ∧ Q (.int ((ys.countP fun z => eqV z y : Nat) : Int)) H
theorem mt_countV : MtR X "list.count" (rCntV X.K) := by
  intro pins s σ H x xs v us Q I rx rxs h
  obtain ⟨p, ys, y, rfl, rfl, hs, fy, fys, q⟩ := h
  cases rx
  obtain ⟨u, rfl, ru⟩ := rxs.one
  obtain ⟨its, rv, ⟨⟨cls, dd, data, sl⟩, n, ho, hc, hdn, hd⟩, hlen⟩ := I.list hs
  simp only at hc hd
  subst hc hd
  refine call_meets PySem.F.slot_list_count ⟨_, ho, rfl⟩ PySem.F.entry_list_count (PySem.F.args_list_count_2 _ _)
    (SeqAt.list_countAt p its.toArray n dd sl u (eqU y)) ⟨ho, fun w hw => mem_eqAt ru fy rv fys w (by simpa using hw), ?_⟩
  have ec : its.toArray.toList.countP (eqU y) = ys.countP fun z => eqV z y := by simpa using cnt_eqU rv fys
  refine ⟨.int ((ys.countP fun z => eqV z y : Nat) : Int), H, I.tok _, ⟨s.toks, ?_⟩, q⟩
  show Value.int ((its.toArray.toList.countP (eqU y) : Nat) : Int) s.toks = Value.int _ s.toks
  rw [ec]
theorem eqV_bl (a b : Bool) : eqV (Sc.enc a) (Sc.enc b) = decide (a = b) := by
  show eqV (V.bl a) (V.bl b) = decide (a = b)
  simp only [eqV]
  exact Bool.beq_eq_decide_eq a b
theorem g_count [Sc α] [DecidableEq α] {ma : R (List α)} {mb : R α} (ha : Gr K E ta σ H H ma) (hb : Gr K E tb σ H H mb) (hv : ∀ (a b : α), eqV (Sc.enc a) (Sc.enc b) = decide (a = b)) :
    Gr K E (tBM K "list" (rCntV K) ta (tCons tb tNil)) σ F H (R.bd ma fun xs => R.bd mb fun y => .ok ((xs.count y : Nat) : Int)) := fun H1 e Q hq =>
  gr_arg ha e hq fun xs v H2 e2 r hq2 => by
    obtain ⟨p, vs, rfl, hp, hw⟩ := r
    have h2 : vs = xs.map Sc.enc := hw.map Sc.enc fun _ _ => Sc.is
    subst h2
    refine ⟨.inl ⟨rfl, _, SqL.of hp⟩, ?_⟩
    refine gr_arg hb (e.trans e2) hq2 fun y w H3 e3 r3 hq3 => ?_
    have h3 := Sc.is.mp r3
    subst h3
    refine ⟨p, _, _, rfl, rfl, SqL.of (e3 p _ hp), Sc.flat y, ?_, ?_⟩
    · rw [List.all_map]
      exact List.all_eq_true.mpr fun x _ => Sc.flat x
    · have : ((xs.map Sc.enc).countP fun z => eqV z (Sc.enc y)) = xs.count y := by
        rw [List.countP_map]
        unfold List.count
        congr 1
        funext z
        show eqV (Sc.enc z) (Sc.enc y) = (z == y)
        rw [hv]
        rfl
      rw [this]
      exact hq3 _ H3 (Same.refl _) rfl
def indexR {α : Type} [DecidableEq α] (xs : List α) (y : α) : R Int := match xs.findIdx? (fun z => decide (z = y)) with
  | some j => .ok (j : Int)
  | none => .bad
theorem g_index [Sc α] [DecidableEq α] {ma : R (List α)} {mb : R α} (ha : Gr K E ta σ H H ma) (hb : Gr K E tb σ H H mb) (hv : ∀ (a b : α), eqV (Sc.enc a) (Sc.enc b) = decide (a = b)) :
    Gr K E (tBM K "list" (rIndex K) ta (tCons tb tNil)) σ F H (R.bd ma fun xs => R.bd mb fun y => indexR xs y) := fun H1 e Q hq =>
  gr_arg ha e hq fun xs v H2 e2 r hq2 => by
    obtain ⟨p, vs, rfl, hp, hw⟩ := r
    have h2 : vs = xs.map Sc.enc := hw.map Sc.enc fun _ _ => Sc.is
    subst h2
    refine ⟨.inl ⟨rfl, _, SqL.of hp⟩, ?_⟩
    refine gr_arg hb (e.trans e2) hq2 fun y w H3 e3 r3 hq3 => ?_
    have h3 := Sc.is.mp r3
    subst h3
    unfold indexR at hq3
    cases hj : xs.findIdx? (fun z => decide (z = y)) with
    | none => rw [hj] at hq3; exact hq3.elim
    | some j =>
      rw [hj] at hq3
      obtain ⟨hl, h1, h2⟩ := List.findIdx?_eq_some_iff_getElem.mp hj
      refine ⟨p, _, _, j, Sc.enc xs[j], rfl, rfl, SqL.of (e3 p _ hp), Sc.flat y, ?_, ?_, ?_, fun m z hm hz => ?_, hq3 _ H3 (Same.refl _) rfl⟩
      · rw [List.all_map]
        exact List.all_eq_true.mpr fun x _ => Sc.flat x
      · rw [List.getElem?_map, List.getElem?_eq_getElem hl]
        rfl
      · rw [hv]
        exact h1
      · rw [List.getElem?_map, List.getElem?_eq_getElem (by omega)] at hz
        cases hz
        rw [hv]
        have := h2 m hm
        simpa using this
theorem g_sumS {m : R Scr} (h : Gr K E ta σ F H m) (hF : Same F H) : Gr K E (tCB (rSum K) (tCons ta tNil)) σ F H (R.bd m fun xs => .ok xs.l.sum) := fun H1 e Q hq =>
  gr_seq h e hq fun xs v H2 e2 r hq2 => by
    obtain ⟨p, rfl, hp⟩ := r
    exact ⟨p, xs.l, rfl, (mix_same hF (e.trans e2)).seq hp, hq2 _ H2 (Same.refl _) rfl⟩
/-! ### a list unpacked to two or three names -/
def lst2 {α : Type} : List α → R (α × α)
  | [a, b] => .ok (a, b)
  | _ => .bad
def lst3 {α : Type} : List α → R (T3 α α α)
  | [a, b, c] => .ok ⟨a, b, c⟩
  | _ => .bad
theorem s_unpL2 [Sc α] {i j : Nat} {m : R (List α)} {k : α × α → R γ} {kk : γ → Prop} (he : Gr K E te σ F H m) (hF : Same F H) (e0 : Same H0 H) (hQ : Wp (R.bd (R.bd m lst2) k) kk (EE K E H0))
    (c : ∀ a b F' H', Nx0 F H F' H' → Same H0 H' → Wp (k (a, b)) kk (EE K E H0) → D.nx ((σ.set i (some (Sc.enc a))).set j (some (Sc.enc b))) H') : tAsg te (gLst K 2 (gCons (gName i) (gCons (gName j) gNil))) D σ H := by
  refine he H (Same.refl _) _ ?_
  rw [bd_assoc, wp_bd] at hQ
  refine wp_mono hQ (fun l _ q v H2 e2 r => ?_) fun c _ z => z.mono e0
  obtain ⟨p, vs, rfl, hp, hw⟩ := r
  have h2 : vs = l.map Sc.enc := hw.map Sc.enc fun _ _ => Sc.is
  subst h2
  match l, q, hp with
  | [a, b], q, hp => exact ⟨p, _, rfl, SqL.of (mix_same hF e2 p _ hp), rfl, _, _, rfl, _, _, rfl, rfl, c a b _ H2 (Nx.mk' hF e2) (e0.trans e2) q⟩
  | [], q, _ => exact q.elim
  | [_], q, _ => exact q.elim
  | _ :: _ :: _ :: _, q, _ => exact q.elim
theorem s_unpL3 [Sc α] {i j l : Nat} {m : R (List α)} {k : T3 α α α → R γ} {kk : γ → Prop} (he : Gr K E te σ F H m) (hF : Same F H) (e0 : Same H0 H) (hQ : Wp (R.bd (R.bd m lst3) k) kk (EE K E H0))
    (c : ∀ a b d F' H', Nx0 F H F' H' → Same H0 H' → Wp (k ⟨a, b, d⟩) kk (EE K E H0) → D.nx (((σ.set i (some (Sc.enc a))).set j (some (Sc.enc b))).set l (some (Sc.enc d))) H') : tAsg te (gLst K 3 (gCons (gName i) (gCons (gName j) (gCons (gName l) gNil)))) D σ H := by
  refine he H (Same.refl _) _ ?_
  rw [bd_assoc, wp_bd] at hQ
  refine wp_mono hQ (fun xs _ q v H2 e2 r => ?_) fun c _ z => z.mono e0
  obtain ⟨p, vs, rfl, hp, hw⟩ := r
  have h2 : vs = xs.map Sc.enc := hw.map Sc.enc fun _ _ => Sc.is
  subst h2
  match xs, q, hp with
  | [a, b, d], q, hp => exact ⟨p, _, rfl, SqL.of (mix_same hF e2 p _ hp), rfl, _, _, rfl, _, _, rfl, _, _, rfl, rfl, c a b d _ H2 (Nx.mk' hF e2) (e0.trans e2) q⟩
  | [], q, _ => exact q.elim
  | [_], q, _ => exact q.elim
  | [_, _], q, _ => exact q.elim
  | _ :: _ :: _ :: _ :: _, q, _ => exact q.elim
end
end G

set_option Elab.async false
set_option linter.all false
set_option maxRecDepth 100000
set_option maxHeartbeats 4000000
/-! G: values of several kinds. -/
namespace G
open PySem PySem.Spec PyProof.Rows L2
/-- data of any kind -/
inductive Dy where
  | non
  | bl (b : Bool)
  | int (n : Int)
  | str (s : Str)
  | lst (l : List Dy)
  | tup (l : List Dy)
mutual
def dyR (H : Hp) : Dy → V → Prop
  | .non, v => v = .non
  | .bl b, v => v = .bl b
  | .int n, v => v = .int n
  | .str s, v => v = .str s
  | .lst l, v => ∃ p vs, v = .ref p ∧ H p = some (.lst vs) ∧ dyRs H l vs
  | .tup l, v => ∃ p vs, v = .ref p ∧ H p = some (.tup vs) ∧ dyRs H l vs
def dyRs (H : Hp) : List Dy → List V → Prop
  | [], vs => vs = []
  | d :: l, vs => ∃ v r, vs = v :: r ∧ dyR H d v ∧ dyRs H l r
end
mutual
theorem dyR_mono {H H' : Hp} (e : Same H H') : ∀ {d : Dy} {v : V}, dyR H d v → dyR H' d v
  | .non, _, h => h
  | .bl _, _, h => h
  | .int _, _, h => h
  | .str _, _, h => h
  | .lst _, _, ⟨p, vs, h1, h2, h3⟩ => ⟨p, vs, h1, e _ _ h2, dyRs_mono e h3⟩
  | .tup _, _, ⟨p, vs, h1, h2, h3⟩ => ⟨p, vs, h1, e _ _ h2, dyRs_mono e h3⟩
theorem dyRs_mono {H H' : Hp} (e : Same H H') : ∀ {l : List Dy} {vs : List V}, dyRs H l vs → dyRs H' l vs
  | [], _, h => h
  | _ :: _, _, ⟨v, r, h1, h2, h3⟩ => ⟨v, r, h1, dyR_mono e h2, dyRs_mono e h3⟩
end
instance : Rp Dy where
  rep _ H v d := dyR H d v
  mono e h := dyR_mono e h
theorem dyRs_all {K : PySem.W.Frag} {H : Hp} : ∀ {l : List Dy} {vs : List V}, dyRs H l vs → All2 (Rp.rep K H) vs l
  | [], _, h => by
    have h' : _ = [] := h
    subst h'
    exact .nil
  | _ :: _, _, ⟨v, r, h1, h2, h3⟩ => by
    subst h1
    exact .cons h2 (dyRs_all h3)
theorem all_dyRs {K : PySem.W.Frag} {H : Hp} : ∀ {l : List Dy} {vs : List V}, All2 (Rp.rep K H) vs l → dyRs H l vs
  | [], _, .nil => rfl
  | _ :: _, _, .cons r t => ⟨_, _, rfl, r, all_dyRs t⟩
/-! True is 1, False is 0 -/
mutual
def Dy.nm : Dy → Dy
  | .non => .non
  | .bl b => .int (if b = true then 1 else 0)
  | .int n => .int n
  | .str s => .str s
  | .lst l => .lst (nms l)
  | .tup l => .tup (nms l)
def nms : List Dy → List Dy
  | [] => []
  | d :: l => d.nm :: nms l
end
mutual
def Dy.dp : Dy → Nat
  | .lst l => dps l + 1
  | .tup l => dps l + 1
  | _ => 0
def dps : List Dy → Nat
  | [] => 0
  | d :: l => max d.dp (dps l)
end
mutual
def Dy.pd : Dy → PyData
  | .non => .none
  | .bl b => .bool b
  | .int n => .int n
  | .str s => .str s
  | .lst l => .list (pds l)
  | .tup l => .tuple (pds l)
def pds : List Dy → List PyData
  | [] => []
  | d :: l => d.pd :: pds l
end
mutual
theorem dy_dp {K : PySem.W.Frag} {H : Hp} : ∀ {d : Dy} {v : V}, dyR H d v → Dp K H v d.pd
  | .non, _, h => by rw [show _ = V.non from h]; exact .non
  | .bl b, _, h => by rw [show _ = V.bl b from h]; exact .bl b
  | .int n, _, h => by rw [show _ = V.int n from h]; exact .int n
  | .str s, _, h => by rw [show _ = V.str s from h]; exact .str s
  | .lst _, _, ⟨p, vs, h1, h2, h3⟩ => by rw [h1]; exact .lst (SqL.of h2) (dys_dp h3)
  | .tup _, _, ⟨p, vs, h1, h2, h3⟩ => by rw [h1]; exact .tup (SqT.of h2) (dys_dp h3)
theorem dys_dp {K : PySem.W.Frag} {H : Hp} : ∀ {l : List Dy} {vs : List V}, dyRs H l vs → DpAll K H vs (pds l)
  | [], _, h => by rw [show _ = [] from h]; exact .nil
  | _ :: _, _, ⟨v, r, h1, h2, h3⟩ => by rw [h1]; exact .cons (dy_dp h2) (dys_dp h3)
end
mutual
theorem dy_lay : ∀ d : Dy, d.pd.plain = true
  | .non => rfl
  | .bl _ => rfl
  | .int _ => rfl
  | .str _ => rfl
  | .lst l => dys_lay l
  | .tup l => dys_lay l
theorem dys_lay : ∀ l : List Dy, PyData.plainAll (pds l) = true
  | [] => rfl
  | d :: l => by
    show (PyData.plain d.pd && PyData.plainAll (pds l)) = true
    rw [dy_lay d, dys_lay l]
    rfl
end
mutual
theorem dy_deep : ∀ d : Dy, d.pd.depth = d.dp
  | .non => by simp [Dy.pd, PyData.depth, Dy.dp]
  | .bl _ => by simp [Dy.pd, PyData.depth, Dy.dp]
  | .int _ => by simp [Dy.pd, PyData.depth, Dy.dp]
  | .str _ => by simp [Dy.pd, PyData.depth, Dy.dp]
  | .lst l => by
    have := dys_deep l
    simp only [Dy.pd, PyData.depth, Dy.dp]
    omega
  | .tup l => by
    have := dys_deep l
    simp only [Dy.pd, PyData.depth, Dy.dp]
    omega
theorem dys_deep : ∀ l : List Dy, PyData.depthAll (pds l) = dps l
  | [] => by simp [pds, PyData.depthAll, dps]
  | d :: l => by
    have h1 := dy_deep d
    have h2 := dys_deep l
    simp only [pds, PyData.depthAll, dps]
    omega
end
mutual
theorem dy_eqv : ∀ a b : Dy, PyData.eqv a.pd b.pd = true ↔ a.nm = b.nm
  | .non, b => by cases b <;> simp [Dy.pd, Dy.nm, PyData.eqv]
  | .bl x, b => by
    cases b with
    | bl y => cases x <;> cases y <;> simp [Dy.pd, Dy.nm, PyData.eqv]
    | _ => simp [Dy.pd, Dy.nm, PyData.eqv]
  | .int x, b => by cases b <;> simp [Dy.pd, Dy.nm, PyData.eqv]
  | .str x, b => by cases b <;> simp [Dy.pd, Dy.nm, PyData.eqv]
  | .lst x, b => by
    cases b with
    | lst y => simp only [Dy.pd, Dy.nm, PyData.eqv, dys_eqv x y, Dy.lst.injEq]
    | _ => simp [Dy.pd, Dy.nm, PyData.eqv]
  | .tup x, b => by
    cases b with
    | tup y => simp only [Dy.pd, Dy.nm, PyData.eqv, dys_eqv x y, Dy.tup.injEq]
    | _ => simp [Dy.pd, Dy.nm, PyData.eqv]
theorem dys_eqv : ∀ a b : List Dy, PyData.eqvAll (pds a) (pds b) = true ↔ nms a = nms b
  | [], [] => by simp [pds, nms, PyData.eqvAll]
  | [], _ :: _ => by simp [pds, nms, PyData.eqvAll]
  | _ :: _, [] => by simp [pds, nms, PyData.eqvAll]
  | x :: r, y :: s => by simp only [pds, nms, PyData.eqvAll, Bool.and_eq_true, dy_eqv x y, dys_eqv r s, List.cons.injEq]
end
open Classical in
noncomputable def eqDy (a b : Dy) : R Bool := gd (min a.dp b.dp ≤ 60) (.ok (decide (a.nm = b.nm)))
/-! ### what is data -/
class DyN (α : Type) [Rp α] where
  dy : α → Dy
  to : ∀ {K : PySem.W.Frag} {H : Hp} {v : V} {a : α}, Rp.rep K H v a → dyR H (dy a) v
  un : Dy → Option α
  of : ∀ {K : PySem.W.Frag} {H : Hp} {v : V} {d : Dy} {a : α}, dyR H d v → un d = some a → Rp.rep K H v a
class DyC (α : Type) [Rp α] [DyN α] where
  un_dy : ∀ a : α, DyN.un (DyN.dy a) = some a
  dep : Nat
  deep : ∀ a : α, (DyN.dy a).dp ≤ dep
  inj : ∀ {a b : α}, (DyN.dy a).nm = (DyN.dy b).nm → a = b
instance : DyN Int := ⟨.int, fun h => h, fun d => match d with | .int n => some n | _ => none, fun {K H v d a} h e => by
  cases d <;> simp at e
  subst e
  exact h⟩
instance : DyC Int := ⟨fun _ => rfl, 0, fun _ => Nat.le_of_eq (by simp [DyN.dy, Dy.dp]), fun h => by simpa [DyN.dy, Dy.nm] using h⟩
instance : DyN Bool := ⟨.bl, fun h => h, fun d => match d with | .bl n => some n | _ => none, fun {K H v d a} h e => by
  cases d <;> simp at e
  subst e
  exact h⟩
instance : DyC Bool := ⟨fun _ => rfl, 0, fun _ => Nat.le_of_eq (by simp [DyN.dy, Dy.dp]), fun {a b} h => by cases a <;> cases b <;> simp [DyN.dy, Dy.nm] at h ⊢⟩
instance : DyN Str := ⟨.str, fun h => h, fun d => match d with | .str n => some n | _ => none, fun {K H v d a} h e => by
  cases d <;> simp at e
  subst e
  exact h⟩
instance : DyC Str := ⟨fun _ => rfl, 0, fun _ => Nat.le_of_eq (by simp [DyN.dy, Dy.dp]), fun h => by simpa [DyN.dy, Dy.nm] using h⟩
instance : DyN Unit := ⟨fun _ => .non, fun h => h, fun d => match d with | .non => some () | _ => none, fun {K H v d a} h e => by
  cases d <;> simp at e
  exact h⟩
instance : DyN Dy := ⟨fun d => d, fun h => h, some, fun {K H v d a} h e => by
  cases e
  exact h⟩
section
variable {α β γ : Type} [Rp α] [Rp β] [Rp γ] [DyN α] [DyN β] [DyN γ]
def unAll (un : Dy → Option α) : List Dy → Option (List α)
  | [] => some []
  | d :: l => match un d, unAll un l with
    | some a, some r => some (a :: r)
    | _, _ => none
theorem to_all {K : PySem.W.Frag} {H : Hp} : ∀ {vs : List V} {xs : List α}, All2 (Rp.rep K H) vs xs → dyRs H (xs.map DyN.dy) vs
  | _, _, .nil => rfl
  | _, _, .cons r t => ⟨_, _, rfl, DyN.to r, to_all t⟩
theorem of_all {K : PySem.W.Frag} {H : Hp} : ∀ {l : List Dy} {vs : List V} {xs : List α}, dyRs H l vs → unAll DyN.un l = some xs → All2 (Rp.rep K H) vs xs
  | [], vs, xs, h, e => by
    rw [show vs = [] from h, show xs = [] by simpa [unAll] using e.symm]
    exact .nil
  | d :: l, vs, xs, ⟨v, r, h1, h2, h3⟩, e => by
    subst h1
    unfold unAll at e
    cases q : (DyN.un d : Option α) with
    | none => rw [q] at e; simp at e
    | some a =>
      cases q2 : unAll (α := α) DyN.un l with
      | none => rw [q, q2] at e; simp at e
      | some t =>
        rw [q, q2] at e
        simp at e
        subst e
        exact .cons (DyN.of h2 q) (of_all h3 q2)
instance : DyN (List α) := ⟨fun xs => .lst (xs.map DyN.dy), fun {K H v a} ⟨p, vs, h1, h2, h3⟩ => ⟨p, vs, h1, h2, to_all h3⟩, fun d => match d with | .lst l => unAll DyN.un l | _ => none, fun {K H v d a} h e => by
  cases d with
  | lst l =>
    obtain ⟨p, vs, h1, h2, h3⟩ := h
    exact ⟨p, vs, h1, h2, of_all h3 e⟩
  | _ => simp at e⟩
instance : DyN (Tu α) := ⟨fun xs => .tup (xs.l.map DyN.dy), fun {K H v a} ⟨p, vs, h1, h2, h3⟩ => ⟨p, vs, h1, h2, to_all h3⟩, fun d => match d with | .tup l => (unAll DyN.un l).map Tu.mk | _ => none, fun {K H v d a} h e => by
  cases d with
  | tup l =>
    obtain ⟨p, vs, h1, h2, h3⟩ := h
    simp only [Option.map_eq_some_iff] at e
    obtain ⟨xs, q, rfl⟩ := e
    exact ⟨p, vs, h1, h2, of_all h3 q⟩
  | _ => simp at e⟩
instance : DyN (α × β) := ⟨fun t => .tup [DyN.dy t.1, DyN.dy t.2], fun {K H v a} ⟨p, x, y, h1, h2, h3, h4⟩ => ⟨p, _, h1, h2, x, _, rfl, DyN.to h3, y, _, rfl, DyN.to h4, rfl⟩, fun d => match d with
  | .tup [a, b] => match DyN.un a, DyN.un b with
    | some x, some y => some (x, y)
    | _, _ => none
  | _ => none, fun {K H v d t} h e => by
  rcases d with _ | _ | _ | _ | _ | l <;> try simp at e
  rcases l with _ | ⟨a, _ | ⟨b, _ | ⟨c, l⟩⟩⟩ <;> try simp at e
  obtain ⟨p, vs, h1, h2, x, r, rfl, h3, y, r2, rfl, h4, h5⟩ := h
  rw [show r2 = [] from h5] at h2
  cases q : (DyN.un a : Option α) with
  | none => rw [q] at e; simp at e
  | some a' =>
    cases q2 : (DyN.un b : Option β) with
    | none => rw [q, q2] at e; simp at e
    | some b' =>
      rw [q, q2] at e
      simp at e
      subst e
      exact ⟨p, x, y, h1, h2, DyN.of h3 q, DyN.of h4 q2⟩⟩
instance : DyN (T3 α β γ) := ⟨fun t => .tup [DyN.dy t.a, DyN.dy t.b, DyN.dy t.c], fun {K H v a} ⟨p, x, y, z, h1, h2, h3, h4, h5⟩ => ⟨p, _, h1, h2, x, _, rfl, DyN.to h3, y, _, rfl, DyN.to h4, z, _, rfl, DyN.to h5, rfl⟩, fun d => match d with
  | .tup [a, b, c] => match DyN.un a, DyN.un b, DyN.un c with
    | some x, some y, some z => some (T3.mk x y z)
    | _, _, _ => none
  | _ => none, fun {K H v d t} h e => by
  rcases d with _ | _ | _ | _ | _ | l <;> try simp at e
  rcases l with _ | ⟨a, _ | ⟨b, _ | ⟨c, _ | ⟨c2, l⟩⟩⟩⟩ <;> try simp at e
  obtain ⟨p, vs, h1, h2, x, r, rfl, h3, y, r2, rfl, h4, z, r3, rfl, h5, h6⟩ := h
  rw [show r3 = [] from h6] at h2
  cases q : (DyN.un a : Option α) with
  | none => rw [q] at e; simp at e
  | some a' =>
    cases q2 : (DyN.un b : Option β) with
    | none => rw [q, q2] at e; simp at e
    | some b' =>
      cases q3 : (DyN.un c : Option γ) with
      | none => rw [q, q2, q3] at e; simp at e
      | some c' =>
        rw [q, q2, q3] at e
        simp at e
        subst e
        exact ⟨p, x, y, z, h1, h2, DyN.of h3 q, DyN.of h4 q2, DyN.of h5 q3⟩⟩
variable [DyC α] [DyC β] [DyC γ]
theorem un_all : ∀ xs : List α, unAll DyN.un (xs.map DyN.dy) = some xs
  | [] => rfl
  | x :: l => by
    simp only [List.map_cons, unAll]
    rw [DyC.un_dy, un_all l]
theorem dps_all : ∀ xs : List α, dps (xs.map DyN.dy) ≤ DyC.dep α
  | [] => by simp [dps]
  | x :: l => by
    have h1 := DyC.deep x
    have h2 := dps_all l
    simp only [List.map_cons, dps]
    omega
theorem inj_all : ∀ {xs ys : List α}, nms (xs.map DyN.dy) = nms (ys.map DyN.dy) → xs = ys
  | [], [], _ => rfl
  | [], _ :: _, h => by simp [nms] at h
  | _ :: _, [], h => by simp [nms] at h
  | x :: l, y :: r, h => by
    simp only [List.map_cons, nms, List.cons.injEq] at h
    rw [DyC.inj h.1, inj_all h.2]
instance : DyC (List α) := ⟨fun a => un_all a, DyC.dep α + 1, fun a => by
  have := dps_all a
  simp only [DyN.dy, Dy.dp]
  omega, fun {a b} h => by
  simp only [DyN.dy, Dy.nm, Dy.lst.injEq] at h
  exact inj_all h⟩
instance : DyC (Tu α) := ⟨fun a => by simp only [DyN.un, DyN.dy, un_all]; rfl, DyC.dep α + 1, fun a => by
  have := dps_all a.l
  simp only [DyN.dy, Dy.dp]
  omega, fun {a b} h => by
  simp only [DyN.dy, Dy.nm, Dy.tup.injEq] at h
  cases a
  cases b
  simp at h ⊢
  exact inj_all h⟩
instance : DyC (α × β) := ⟨fun t => by simp only [DyN.un, DyN.dy, DyC.un_dy], max (DyC.dep α) (DyC.dep β) + 1, fun t => by
  have h1 := DyC.deep t.1
  have h2 := DyC.deep t.2
  simp only [DyN.dy, Dy.dp, dps]
  omega, fun {a b} h => by
  simp only [DyN.dy, Dy.nm, nms, Dy.tup.injEq, List.cons.injEq, and_true] at h
  exact Prod.ext (DyC.inj h.1) (DyC.inj h.2)⟩
instance : DyC (T3 α β γ) := ⟨fun t => by simp only [DyN.un, DyN.dy, DyC.un_dy], max (DyC.dep α) (max (DyC.dep β) (DyC.dep γ)) + 1, fun t => by
  have h1 := DyC.deep t.a
  have h2 := DyC.deep t.b
  have h3 := DyC.deep t.c
  simp only [DyN.dy, Dy.dp, dps]
  omega, fun {a b} h => by
  simp only [DyN.dy, Dy.nm, nms, Dy.tup.injEq, List.cons.injEq, and_true] at h
  cases a
  cases b
  simp at h ⊢
  exact ⟨DyC.inj h.1, DyC.inj h.2.1, DyC.inj h.2.2⟩⟩
end
/-- what may be None -/
instance {α : Type} [Rp α] [NN α] [DyN α] : DyN (Option α) := ⟨fun o => match o with | none => .non | some a => DyN.dy a, fun {K H v a} h => by
  cases a with
  | none => exact h
  | some a => exact DyN.to h.2, fun d => match d with
  | .non => some none
  | d => (DyN.un d).map some, fun {K H v d a} h e => by
  have key : ∀ d : Dy, dyR H d v → (DyN.un d : Option α).map some = some a → Rp.rep K H v a := fun d h e => by
    cases q : (DyN.un d : Option α) with
    | none => rw [q] at e; simp at e
    | some x =>
      rw [q] at e
      simp at e
      subst e
      have r := DyN.of (K := K) h q
      exact ⟨NN.nn r, r⟩
  cases d with
  | non =>
    simp at e
    subst e
    exact h
  | _ => exact key _ h e⟩
open Classical in
theorem eqDy_same {α : Type} [Rp α] [DyN α] [DyC α] [DecidableEq α] (h : DyC.dep α ≤ 60) (a b : α) : eqDy (DyN.dy a) (DyN.dy b) = .ok (decide (a = b)) := by
  unfold eqDy
  rw [gd_pos (by have := DyC.deep a; omega)]
  congr 1
  exact decide_eq_decide.mpr ⟨fun q => DyC.inj q, fun q => by rw [q]⟩
open Classical in
theorem eqDy_ne {a b : Dy} (h : min a.dp b.dp ≤ 60) (hn : a.nm ≠ b.nm) : eqDy a b = .ok false := by
  unfold eqDy
  rw [gd_pos h, decide_eq_false hn]
open Classical in
theorem eqDy_eq {a b : Dy} (h : min a.dp b.dp ≤ 60) (hn : a.nm = b.nm) : eqDy a b = .ok true := by
  unfold eqDy
  rw [gd_pos h, decide_eq_true hn]
def unD {α : Type} [Rp α] [DyN α] (d : Dy) : R α := match DyN.un d with
  | some a => .ok a
  | none => .bad
theorem unD_dy {α : Type} [Rp α] [DyN α] [DyC α] (a : α) : unD (DyN.dy a) = .ok a := by
  unfold unD
  rw [DyC.un_dy]
def dyIs (k : Nat) : Dy → Bool
  | .non => false
  | .bl _ => k == 0 || k == 1
  | .int _ => k == 0
  | .str _ => k == 2
  | .lst _ => k == 3
  | .tup _ => k == 4
def dyTy : Dy → String
  | .non => "NoneType"
  | .bl _ => "bool"
  | .int _ => "int"
  | .str _ => "str"
  | .lst _ => "list"
  | .tup _ => "tuple"
def Dy.isNon : Dy → Bool
  | .non => true
  | _ => false
def dySeq : Dy → R (List Dy)
  | .lst l => .ok l
  | .tup l => .ok l
  | _ => .bad
def dyL : Dy → R (List Dy)
  | .lst l => .ok l
  | _ => .bad
def dyT : Dy → R (List Dy)
  | .tup l => .ok l
  | _ => .bad
def dyLen (d : Dy) : R Int := R.bd (dySeq d) fun l => .ok (l.length : Int)
def dyIdx (d : Dy) (i : Int) : R Dy := R.bd (dySeq d) fun l => idx l i
def rIxA (K : PySem.W.Frag) : R2 := fun x y H Q => rIxL K x y H Q ∨ rIxT K x y H Q
theorem ix_any {X : Cx} : IxR X (rIxA X.K) := fun value slice pins s σ H x y v u Q I rx ry h hs => h.elim (fun h => ix_list value slice pins s σ H x y v u Q I rx ry h hs) (fun h => ix_tup value slice pins s σ H x y v u Q I rx ry h hs)
theorem ix_anyK {X : Cx} {K : PySem.W.Frag} (h : X.K = K) : IxR X (rIxA K) := by subst h; exact ix_any
section
variable {K : PySem.W.Frag} {E : XK} {σ : L2.St} {F H : Hp} {ta tb te tl : TE} {t u : TT} {α β γ δ ρ : Type} [Rp α] [Rp β] [Rp γ] [Rp δ] [Rp ρ]
theorem g_dy [DyN α] {m : R α} (h : Gr K E te σ F H m) : Gr K E te σ F H (R.bd m fun a => .ok (DyN.dy a)) := fun H1 e Q hq =>
  h H1 e Q (by rw [wp_bd] at hq; exact wp_mono hq (fun a _ k v H2 e2 r => k v H2 e2 (DyN.to r)) fun _ _ z => z)
theorem g_unD [DyN α] {m : R Dy} (h : Gr K E te σ F H m) : Gr K E te σ F H (R.bd m fun d => (unD d : R α)) := fun H1 e Q hq =>
  h H1 e Q (by
    rw [wp_bd] at hq
    refine wp_mono hq (fun a _ k v H2 e2 r => ?_) fun _ _ z => z
    unfold unD at k
    cases q : (DyN.un a : Option α) with
    | none => rw [q] at k; exact k.elim
    | some b => rw [q] at k; exact k v H2 e2 (DyN.of r q))
theorem g_nonDy : Gr K E (tC .non) σ F H (.ok Dy.non) := g_c fun _ => rfl
theorem g_isNDy {ma : R Dy} (ha : Gr K E ta σ F H ma) : Gr K E (tIsN ta) σ F H (R.bd ma fun a => .ok a.isNon) := fun H1 e Q hq =>
  gr_seq ha e hq fun a v H2 e2 r hq2 => by
    show Q (.bl (decide (v = .non))) H2
    have : decide (v = .non) = a.isNon := by
      cases a with
      | non => exact decide_eq_true r
      | bl b => exact decide_eq_false fun z => by rw [show v = V.bl b from r] at z; cases z
      | int b => exact decide_eq_false fun z => by rw [show v = V.int b from r] at z; cases z
      | str b => exact decide_eq_false fun z => by rw [show v = V.str b from r] at z; cases z
      | lst l => exact decide_eq_false fun z => by obtain ⟨p, vs, h1, _⟩ := r; rw [h1] at z; cases z
      | tup l => exact decide_eq_false fun z => by obtain ⟨p, vs, h1, _⟩ := r; rw [h1] at z; cases z
    rw [this]
    exact hq2 _ H2 (Same.refl _) rfl
theorem g_notNDy {ma : R Dy} (ha : Gr K E ta σ F H ma) : Gr K E (tNotN ta) σ F H (R.bd ma fun a => .ok (!a.isNon)) := fun H1 e Q hq =>
  gr_seq ha e hq fun a v H2 e2 r hq2 => by
    show Q (.bl (!decide (v = .non))) H2
    have : decide (v = .non) = a.isNon := by
      cases a with
      | non => exact decide_eq_true r
      | bl b => exact decide_eq_false fun z => by rw [show v = V.bl b from r] at z; cases z
      | int b => exact decide_eq_false fun z => by rw [show v = V.int b from r] at z; cases z
      | str b => exact decide_eq_false fun z => by rw [show v = V.str b from r] at z; cases z
      | lst l => exact decide_eq_false fun z => by obtain ⟨p, vs, h1, _⟩ := r; rw [h1] at z; cases z
      | tup l => exact decide_eq_false fun z => by obtain ⟨p, vs, h1, _⟩ := r; rw [h1] at z; cases z
    rw [this]
    exact hq2 _ H2 (Same.refl _) rfl
open Classical in
theorem dy_dec (a b : Dy) : PyData.eqv a.pd b.pd = decide (a.nm = b.nm) := by
  by_cases c : a.nm = b.nm
  · rw [decide_eq_true c]
    exact (dy_eqv a b).mpr c
  · rw [decide_eq_false c]
    exact Bool.eq_false_iff.mpr fun q => c ((dy_eqv a b).mp q)
theorem g_eqDy {ma mb : R Dy} (ha : Gr K E ta σ F H ma) (hb : Gr K E tb σ F H mb) (hF : Same F H) : Gr K E (tOp (rEqP K) ta tb) σ F H (R.bd ma fun a => R.bd mb fun b => eqDy a b) := fun H1 e Q hq =>
  gr_seq ha e hq fun a v H2 e2 r hq2 => gr_seq hb (e.trans e2) hq2 fun b w H3 e3 r3 hq3 => by
    unfold eqDy gd at hq3
    split at hq3
    · rename_i c
      refine ⟨_, _, dy_dp (dyR_mono ((mix_same hF (e.trans e2)).trans e3) r), dy_dp (dyR_mono (mix_same hF (e.trans (e2.trans e3))) r3), dy_lay a, dy_lay b, by rw [dy_deep, dy_deep]; omega, ?_⟩
      rw [dy_dec]
      exact hq3 _ H3 (Same.refl _) rfl
    · exact hq3.elim
theorem g_neDy {ma mb : R Dy} (ha : Gr K E ta σ F H ma) (hb : Gr K E tb σ F H mb) (hF : Same F H) : Gr K E (tOp (rNeP K) ta tb) σ F H (R.bd ma fun a => R.bd mb fun b => R.bd (eqDy a b) fun c => .ok (!c)) := fun H1 e Q hq =>
  gr_seq ha e hq fun a v H2 e2 r hq2 => gr_seq hb (e.trans e2) hq2 fun b w H3 e3 r3 hq3 => by
    unfold eqDy gd at hq3
    split at hq3
    · rename_i c
      refine ⟨_, _, dy_dp (dyR_mono ((mix_same hF (e.trans e2)).trans e3) r), dy_dp (dyR_mono (mix_same hF (e.trans (e2.trans e3))) r3), dy_lay a, dy_lay b, by rw [dy_deep, dy_deep]; omega, ?_⟩
      rw [dy_dec]
      exact hq3 _ H3 (Same.refl _) rfl
    · exact hq3.elim
theorem dy_tyX {d : Dy} {v : V} (h : dyR H d v) : TyX K H v (.type (dyTy d)) := by
  cases d with
  | non => rw [show v = V.non from h]; exact .base .non
  | bl b => rw [show v = V.bl b from h]; exact .base (.bl b)
  | int b => rw [show v = V.int b from h]; exact .base (.int b)
  | str b => rw [show v = V.str b from h]; exact .base (.str b)
  | lst l => obtain ⟨p, vs, h1, h2, _⟩ := h; rw [h1]; exact .base (.lst h2)
  | tup l => obtain ⟨p, vs, h1, h2, _⟩ := h; rw [h1]; exact .base (.tup h2)
def kdN : Nat → String
  | 0 => "int"
  | 1 => "bool"
  | 2 => "str"
  | 3 => "list"
  | _ => "tuple"
theorem kit_dy (d : Dy) (k : Nat) (hk : k < 5) : kitB (dyTy d) (kdN k) = some (dyIs k d) := by
  match k, hk with
  | 0, _ => cases d <;> simp only [dyTy, kdN, dyIs] <;> decide +kernel
  | 1, _ => cases d <;> simp only [dyTy, kdN, dyIs] <;> decide +kernel
  | 2, _ => cases d <;> simp only [dyTy, kdN, dyIs] <;> decide +kernel
  | 3, _ => cases d <;> simp only [dyTy, kdN, dyIs] <;> decide +kernel
  | 4, _ => cases d <;> simp only [dyTy, kdN, dyIs] <;> decide +kernel
theorem g_isiDy {m : R Dy} {k : Nat} {n : String} (h : Gr K E ta σ F H m) (hF : Same F H) (hk : k < 5 := by decide) (hn : kdN k = n := by rfl) : Gr K E (tCB (rIsi K) (tCons ta (tCons (tC (.ty n)) tNil))) σ F H (R.bd m fun d => .ok (dyIs k d)) := by
  subst hn
  exact fun H1 e Q hq => gr_seq h e hq fun a v H2 e2 r hq2 => ⟨v, _, _, _, _, rfl, .ty _, dy_tyX (dyR_mono (mix_same hF (e.trans e2)) r), kit_ty (kit_dy a k hk), hq2 _ H2 (Same.refl _) rfl⟩
theorem g_lenDy {m : R Dy} (h : Gr K E ta σ F H m) (hF : Same F H) : Gr K E (tCB (rLen K) (tCons ta tNil)) σ F H (R.bd m dyLen) := fun H1 e Q hq =>
  gr_seq h e hq fun d v H2 e2 r hq2 => by
    have key : ∀ (l : List Dy) (vs : List V), dyRs (mix F H H2) l vs → vs.length = l.length := fun l vs z => (dyRs_all (K := K) z).length
    cases d with
    | lst l =>
      obtain ⟨p, vs, rfl, hp, hv⟩ := r
      refine ⟨p, vs, rfl, .inl (SqL.of (mix_same hF (e.trans e2) p _ hp)), ?_⟩
      rw [key _ _ hv]
      exact hq2 _ H2 (Same.refl _) rfl
    | tup l =>
      obtain ⟨p, vs, rfl, hp, hv⟩ := r
      refine ⟨p, vs, rfl, .inr (SqT.of (mix_same hF (e.trans e2) p _ hp)), ?_⟩
      rw [key _ _ hv]
      exact hq2 _ H2 (Same.refl _) rfl
    | _ => exact hq2.elim
theorem g_idxDy {ma : R Dy} {mi : R Int} (ha : Gr K E ta σ F H ma) (hi : Gr K E tb σ F H mi) (hF : Same F H) : Gr K E (tOp (rIxA K) ta tb) σ F H (R.bd ma fun a => R.bd mi fun i => dyIdx a i) := fun H1 e Q hq =>
  gr_seq ha e hq fun d v H2 e2 r hq2 => gr_seq hi (e.trans e2) hq2 fun i w H3 e3 r3 hq3 => by
    have r3' : w = .int i := r3
    subst r3'
    have key : ∀ (l : List Dy) (vs : List V), dyRs (mix F H H2) l vs → Wp (idx l i) (fun b => ∀ v H4, Same H3 H4 → Rp.rep K (mix F H H4) v b → Q v H4) (EE K E H3) → ∃ z, atI vs i = some z ∧ Q z H3 := fun l vs hv hw => by
      unfold idx at hw
      cases q : atI l i with
      | none => rw [q] at hw; exact hw.elim
      | some a =>
        rw [q] at hw
        obtain ⟨x, hx, rx⟩ := all2_atI (dyRs_all (K := K) hv) q
        exact ⟨x, hx, hw x H3 (Same.refl _) (Rp.mono (mix_mono e3) rx)⟩
    cases d with
    | lst l =>
      obtain ⟨p, vs, rfl, hp, hv⟩ := r
      obtain ⟨z, h1, h2⟩ := key _ _ hv hq3
      exact .inl ⟨p, vs, i, z, rfl, rfl, SqL.of (e3 p _ (mix_same hF (e.trans e2) p _ hp)), h1, h2⟩
    | tup l =>
      obtain ⟨p, vs, rfl, hp, hv⟩ := r
      obtain ⟨z, h1, h2⟩ := key _ _ hv hq3
      exact .inr ⟨p, vs, i, z, rfl, rfl, SqT.of (e3 p _ (mix_same hF (e.trans e2) p _ hp)), h1, h2⟩
    | _ => exact hq3.elim
/-- as a list, as a tuple (told anew by nobody: the same value) -/
theorem g_dyL {m : R Dy} (h : Gr K E ta σ F H m) : Gr K E ta σ F H (R.bd m dyL) := fun H1 e Q hq =>
  h H1 e Q (by
    rw [wp_bd] at hq
    refine wp_mono hq (fun d _ k v H2 e2 r => ?_) fun _ _ z => z
    cases d with
    | lst l =>
      obtain ⟨p, vs, rfl, hp, hv⟩ := r
      exact k _ H2 e2 ⟨p, vs, rfl, hp, dyRs_all hv⟩
    | _ => exact k.elim)
theorem g_dyT {m : R Dy} (h : Gr K E ta σ F H m) : Gr K E ta σ F H (R.bd m fun d => R.bd (dyT d) fun l => .ok (Tu.mk l)) := fun H1 e Q hq =>
  h H1 e Q (by
    rw [wp_bd] at hq
    refine wp_mono hq (fun d _ k v H2 e2 r => ?_) fun _ _ z => z
    cases d with
    | tup l =>
      obtain ⟨p, vs, rfl, hp, hv⟩ := r
      exact k _ H2 e2 ⟨p, vs, rfl, hp, dyRs_all hv⟩
    | _ => exact k.elim)
/-- a part of a tuple that isn't all of it -/
noncomputable def cutT {α : Type} (xs : List α) (lo hi : Option Int) : R (List α) := gd (¬ (HT.sIx xs.length 0 lo = 0 ∧ HT.sIx xs.length xs.length hi = xs.length)) (.ok (cut xs lo hi))
theorem g_cutT {tlo thi : TO} {m : R (Tu α)} {mlo mhi : R (Option Int)} (h : Gr K E ta σ F H m) (hlo : GrO K E tlo σ H mlo) (hhi : GrO K E thi σ H mhi) (hF : Same F H) :
    Gr K E (tSl (rSlT K) ta tlo thi) σ F H (R.bd m fun xs => R.bd mlo fun lo => R.bd mhi fun hi => R.bd (cutT xs.l lo hi) fun l => .ok (Tu.mk l)) := fun H1 e Q hq =>
  gr_seq h e hq fun xs v H2 e2 r hq2 => gro_seq hlo (e.trans e2) hq2 fun lo H3 e3 hq3 => gro_seq hhi (e.trans (e2.trans e3)) hq3 fun hi H4 e4 hq4 => by
    obtain ⟨p, vs, rfl, hp, hv⟩ := r
    unfold cutT gd at hq4
    split at hq4
    · rename_i c
      refine ⟨p, vs, rfl, SqT.of (e4 p _ (e3 p _ (mix_same hF (e.trans e2) p _ hp))), by rw [hv.length]; exact c, fun l hl => hq4 _ _ (same_upd hl) ?_⟩
      have hn : H l = none := Same.free (e.trans (e2.trans (e3.trans e4))) hl
      exact ⟨l, _, rfl, by rw [mix_new hn]; exact upd_same, all2_cut (hv.mono fun _ _ x => Rp.mono (mix_mono (e3.trans (e4.trans (same_upd hl)))) x)⟩
    · exact hq4.elim
/-- a tuple display of one kind -/
theorem g_tuD {t : TA} {m : R (List α)} (h : GrA K E t σ F H m) : Gr K E (tTup t) σ F H (R.bd m fun as => gd (as.length ≤ lim) (.ok (Tu.mk as))) := fun H1 e Q hq =>
  h H1 e _ (by
    rw [wp_bd] at hq
    refine wp_mono hq (fun as _ k vs H2 e2 r => ?_) fun _ _ z => z
    unfold gd at k
    split at k
    · rename_i c
      refine ⟨lim_line (by rw [r.length]; exact c), fun p hp => k _ _ (e2.trans (same_upd hp)) ?_⟩
      have hn : H p = none := Same.free (e.trans e2) hp
      exact ⟨p, vs, rfl, by rw [mix_new hn]; exact upd_same, r.mono fun _ _ x => Rp.mono (mix_mono (same_upd hp)) x⟩
    · exact k.elim)
theorem g_tuK {t : TA} {as : List α} (h : GrA K E t σ F H (.ok as)) (hl : as.length ≤ lim := by decide) : Gr K E (tTup t) σ F H (.ok (Tu.mk as)) := fun H1 e Q hq =>
  g_tuD h H1 e Q (by rw [wp_bd]; show Wp (gd _ _) _ _; rw [gd_pos hl]; exact hq)
theorem eqV_str (a b : Str) : eqV (Sc.enc a) (Sc.enc b) = decide (a = b) := by
  show eqV (V.str a) (V.str b) = decide (a = b)
  simp only [eqV]
  exact Bool.beq_eq_decide_eq a b
end
theorem sl_tupK {X : Cx} {K : PySem.W.Frag} (h : X.K = K) : SlR X (rSlT K) := by subst h; exact sl_tup
end G

set_option Elab.async false
set_option linter.all false
set_option maxRecDepth 100000
set_option maxHeartbeats 4000000
/-! G: order: <, min, max, sorted; longer calls. -/
namespace G
open PySem PySem.Spec PyProof.Rows L2
/-- data in order -/
class Od (α : Type) [Rp α] [De α] where
  lt : α → α → Bool
  alike : ∀ a b : α, W.alike (De.toD a) (De.toD b) = true
  nn : ∀ a : α, De.toD a ≠ .none
  lt_eq : ∀ a b : α, W.dataLt (De.toD a) (De.toD b) = lt a b
  nt : ∀ a : α, (∀ xs, De.toD a ≠ .tuple xs) ∨ ∃ xs, De.toD a = .tuple xs
instance : Od Int := ⟨fun a b => decide (a < b), fun _ _ => rfl, (fun _ z => by cases z), fun a b => W.dataLt_int a b, (fun _ => .inl fun _ z => by cases z)⟩
/-- the first place that differs -/
def ltL {α : Type} [DecidableEq α] (lt : α → α → Bool) : List α → List α → Bool
  | [], [] => false
  | [], _ :: _ => true
  | _ :: _, [] => false
  | x :: xs, y :: ys => if x = y then ltL lt xs ys else lt x y
section
variable {α β γ : Type} [Rp α] [Rp β] [Rp γ] [De α] [De β] [De γ] [Od α] [Od β] [Od γ] [DecidableEq α] [DecidableEq β] [DecidableEq γ]
theorem alike_all : ∀ xs ys : List α, W.alikeAll (xs.map De.toD) (ys.map De.toD) = true
  | [], _ => by simp [W.alikeAll]
  | _ :: _, [] => by simp [W.alikeAll]
  | x :: xs, y :: ys => by
    simp only [List.map_cons, W.alikeAll, Bool.and_eq_true]
    exact ⟨Od.alike x y, alike_all xs ys⟩
theorem toks_nil : W.keyToksAll [] = [.inl 0] := by simp [W.keyToksAll]
theorem rows_lt : ∀ xs ys : List α, PyProof.Rows.lexLt itemOrd (W.keyToksAll (xs.map De.toD)) (W.keyToksAll (ys.map De.toD)) = ltL Od.lt xs ys
  | [], [] => by
    simp only [List.map_nil, W.keyToksAll, ltL]
    decide
  | [], y :: ys => by
    simp only [List.map_nil, List.map_cons, W.keyToksAll, ltL]
    exact (W.lex_atom (by decide) _ _).trans ((W.lex_one _ _).trans (by decide))
  | x :: xs, [] => by
    simp only [List.map_nil, List.map_cons, W.keyToksAll, ltL]
    exact (W.lex_atom (by decide) _ _).trans ((W.lex_one _ _).trans (by decide))
  | x :: xs, y :: ys => by
    simp only [List.map_cons]
    rw [W.dataLt_cons (Od.alike x y), rows_lt xs ys, eqv_dec, Od.lt_eq]
    show _ = if x = y then ltL Od.lt xs ys else Od.lt x y
    by_cases c : x = y
    · rw [if_pos (decide_eq_true c), if_pos c]
    · rw [if_neg (by rw [decide_eq_false c]; decide), if_neg c]
instance : Od (List α) := ⟨ltL Od.lt, fun a b => by
    show W.alike (.list _) (.list _) = true
    simp only [W.alike]
    exact alike_all a b, (fun _ z => by cases z), fun a b => by
    show W.dataLt (.list _) (.list _) = _
    rw [W.dataLt_list]
    exact rows_lt a b, (fun _ => .inl fun _ z => by cases z)⟩
instance : Od (Tu α) := ⟨fun a b => ltL Od.lt a.l b.l, fun a b => by
    show W.alike (.tuple _) (.tuple _) = true
    simp only [W.alike]
    exact alike_all a.l b.l, (fun _ z => by cases z), fun a b => by
    show W.dataLt (.tuple _) (.tuple _) = _
    rw [W.dataLt_tuple]
    exact rows_lt a.l b.l, fun a => .inr ⟨_, rfl⟩⟩
def ltP (a b : α × β) : Bool := if a.1 = b.1 then (if a.2 = b.2 then false else Od.lt a.2 b.2) else Od.lt a.1 b.1
instance : Od (α × β) := ⟨ltP, fun a b => by
    show W.alike (.tuple _) (.tuple _) = true
    simp only [W.alike, W.alikeAll, Bool.and_eq_true, and_true]
    exact ⟨Od.alike _ _, Od.alike _ _⟩, (fun _ z => by cases z), fun a b => by
    show W.dataLt (.tuple [_, _]) (.tuple [_, _]) = _
    rw [W.dataLt_pair (Od.alike _ _) (Od.alike _ _), eqv_dec, eqv_dec, Od.lt_eq, Od.lt_eq]
    unfold ltP
    by_cases c : a.1 = b.1 <;> by_cases c2 : a.2 = b.2 <;> simp [c, c2], fun a => .inr ⟨_, rfl⟩⟩
end
theorem none_back {P : Addr → Prop} {F H F1 H1 : Hp} {p : Addr} (a : Nx P F H F1 H1) (h : H1 p = none) : H p = none := by
  cases q : H p with
  | none => rfl
  | some u =>
    obtain ⟨o, ho, _⟩ := a.th p u q
    rw [h] at ho
    cases ho
theorem via_of {P : Addr → Prop} {F H F1 H1 : Hp} {p : Addr} {C : Prop} (a : Nx P F H F1 H1) (ho : C ∨ H1 p = none) (h0 : ∀ q, q = p → C → P q ∨ H q = none) : ∀ q, q = p → P q ∨ H q = none := fun q z => ho.elim (h0 q z) fun h => .inr (by rw [z]; exact none_back a h)
/-! ### <, >, ≤, ≥ -/
def rLtP (K : PySem.W.Frag) : R2 := fun x y H Q => ∃ d e, Dp K H x d ∧ Dp K H y e ∧ W.alike d e = true ∧ d ≠ .none ∧ min d.depth e.depth ≤ 64 ∧ Q (.bl (W.dataLt d e)) H
def rGtP (K : PySem.W.Frag) : R2 := fun x y H Q => ∃ d e, Dp K H x d ∧ Dp K H y e ∧ W.alike d e = true ∧ d ≠ .none ∧ min d.depth e.depth ≤ 64 ∧ Q (.bl (W.dataLt e d)) H
def rLeP (K : PySem.W.Frag) : R2 := fun x y H Q => ∃ d e, Dp K H x d ∧ Dp K H y e ∧ W.alike d e = true ∧ d ≠ .none ∧ min d.depth e.depth ≤ 64 ∧ Q (.bl (!W.dataLt e d)) H
def rGeP (K : PySem.W.Frag) : R2 := fun x y H Q => ∃ d e, Dp K H x d ∧ Dp K H y e ∧ W.alike d e = true ∧ d ≠ .none ∧ min d.depth e.depth ≤ 64 ∧ Q (.bl (!W.dataLt d e)) H
section
variable {X : Cx}
theorem op_ltP (hu : X.A.units + 64 < cLine) : OpR X (compareOp .Lt) (rLtP X.K) := by
  intro pins s σ H x y v u Q I rx ry h
  obtain ⟨d, e, hd, he, sd, se, hm, q⟩ := h
  obtain ⟨as, r1⟩ := Dp.reads I d x v hd rx
  obtain ⟨bs, r2⟩ := Dp.reads I e y u he ry
  exact W.lt_data r1 r2 sd se (by omega) ⟨.bl _, H, I, rfl, q⟩
theorem op_gtP (hu : X.A.units + 64 < cLine) : OpR X (compareOp .Gt) (rGtP X.K) := by
  intro pins s σ H x y v u Q I rx ry h
  obtain ⟨d, e, hd, he, sd, se, hm, q⟩ := h
  obtain ⟨as, r1⟩ := Dp.reads I d x v hd rx
  obtain ⟨bs, r2⟩ := Dp.reads I e y u he ry
  exact W.gt_data r1 r2 sd se (by omega) ⟨.bl _, H, I, rfl, q⟩
theorem op_leP (hu : X.A.units + 64 < cLine) : OpR X (compareOp .LtE) (rLeP X.K) := by
  intro pins s σ H x y v u Q I rx ry h
  obtain ⟨d, e, hd, he, sd, se, hm, q⟩ := h
  obtain ⟨as, r1⟩ := Dp.reads I d x v hd rx
  obtain ⟨bs, r2⟩ := Dp.reads I e y u he ry
  exact W.le_data r1 r2 sd se (by omega) ⟨.bl _, H, I, rfl, q⟩
theorem op_geP (hu : X.A.units + 64 < cLine) : OpR X (compareOp .GtE) (rGeP X.K) := by
  intro pins s σ H x y v u Q I rx ry h
  obtain ⟨d, e, hd, he, sd, se, hm, q⟩ := h
  obtain ⟨as, r1⟩ := Dp.reads I d x v hd rx
  obtain ⟨bs, r2⟩ := Dp.reads I e y u he ry
  exact W.ge_data r1 r2 sd se (by omega) ⟨.bl _, H, I, rfl, q⟩
/-! ### min, max -/
def bestD (lt : PyData → PyData → Bool) (x : PyData) (xs : List PyData) : PyData := xs.foldl (fun a y => if lt y a then y else a) x
def rMinP (K : PySem.W.Frag) : List V → Hp → VK → Prop := fun vs H Q => ∃ (a : Addr) (ys : List V) (d : PyData) (ds : List PyData), vs = [V.ref a] ∧ SqL K H a ys ∧ DpAll K H ys (d :: ds) ∧ W.AlikeAll (d :: ds) ∧ PyData.plainAll (d :: ds) = true ∧ PyData.depthAll (d :: ds) ≤ 60 ∧
  ∀ (i : Nat) (v : V), ys[i]? = some v → (d :: ds)[i]? = some (W.minD d ds) → Q v H
def rMaxP (K : PySem.W.Frag) : List V → Hp → VK → Prop := fun vs H Q => ∃ (a : Addr) (ys : List V) (d : PyData) (ds : List PyData), vs = [V.ref a] ∧ SqL K H a ys ∧ DpAll K H ys (d :: ds) ∧ W.AlikeAll (d :: ds) ∧ PyData.plainAll (d :: ds) = true ∧ PyData.depthAll (d :: ds) ≤ 60 ∧
  ∀ (i : Nat) (v : V), ys[i]? = some v → (d :: ds)[i]? = some (W.maxD d ds) → Q v H
theorem plain_at : ∀ {ds : List PyData} {i : Nat} {d : PyData}, PyData.plainAll ds = true → ds[i]? = some d → d.plain = true
  | [], _, _, _, e => by simp at e
  | x :: l, 0, d, h, e => by
    simp at e
    subst e
    simp only [PyData.plainAll, Bool.and_eq_true] at h
    exact h.1
  | x :: l, i + 1, d, h, e => by
    simp only [PyData.plainAll, Bool.and_eq_true] at h
    exact plain_at (i := i) h.2 (by simpa using e)
theorem readsAll_get {h : Heap} {vs : Array Value} {xs : List PyData} {as : List Addr} (hr : ReadsAll h vs.toList xs as) {i : Nat} {v : Value} (hv : vs[i]? = some v) : ∃ bs d, Reads h v d bs ∧ xs[i]? = some d := by
  obtain ⟨bs, r, hl, _, _⟩ := W.readsAll_atA hr i v hv
  have e := List.getElem?_eq_getElem hl
  rw [List.getD_eq_getElem?_getD, e] at r
  exact ⟨bs, _, r, e⟩
theorem cr_minP (hc : X.calm = true) (hu : X.A.units + 64 < cLine) : CallR X (.builtin "min") (rMinP X.K) := by
  intro pins s σ H vs us Q I r h
  obtain ⟨a, ys, d, ds, rfl, hs, hd, hal, hpl, hdp, q⟩ := h
  obtain ⟨its, rv, hl, hz⟩ := I.list hs
  rw [Vals.ref1 r]
  obtain ⟨as, hr⟩ := Dp.readsAll I _ _ _ hd rv
  refine W.min_list_data (I.ok.hd hc) hl.isList (vs := its.toArray) (by simpa using hr) hal (by omega) fun i v h' tk bs hv hR hk => ?_
  have hv' : its[i]? = some v := by simpa using hv
  obtain ⟨bs2, e, r2, he⟩ := readsAll_get (vs := its.toArray) (by simpa using hr) hv
  have hlen := rv.length
  have hi : i < ys.length := by
    have := (List.getElem?_eq_some_iff.mp hv').1
    omega
  obtain ⟨u, hu1, hu2⟩ := Vals.get (i := i) (x := ys[i]) rv (List.getElem?_eq_getElem hi)
  rw [hv'] at hu1
  cases hu1
  have : e = W.minD d ds := SeqAt.plain_unique e _ v bs2 bs (plain_at hpl he) (W.reads_keeps hk r2) hR
  rw [this] at he
  exact ⟨_, H, I.kept hk, hu2, q i _ (List.getElem?_eq_getElem hi) he⟩
theorem cr_maxP (hc : X.calm = true) (hu : X.A.units + 64 < cLine) : CallR X (.builtin "max") (rMaxP X.K) := by
  intro pins s σ H vs us Q I r h
  obtain ⟨a, ys, d, ds, rfl, hs, hd, hal, hpl, hdp, q⟩ := h
  obtain ⟨its, rv, hl, hz⟩ := I.list hs
  rw [Vals.ref1 r]
  obtain ⟨as, hr⟩ := Dp.readsAll I _ _ _ hd rv
  refine W.max_list_data (I.ok.hd hc) hl.isList (vs := its.toArray) (by simpa using hr) hal (by omega) fun i v h' tk bs hv hR hk => ?_
  have hv' : its[i]? = some v := by simpa using hv
  obtain ⟨bs2, e, r2, he⟩ := readsAll_get (vs := its.toArray) (by simpa using hr) hv
  have hlen := rv.length
  have hi : i < ys.length := by
    have := (List.getElem?_eq_some_iff.mp hv').1
    omega
  obtain ⟨u, hu1, hu2⟩ := Vals.get (i := i) (x := ys[i]) rv (List.getElem?_eq_getElem hi)
  rw [hv'] at hu1
  cases hu1
  have : e = W.maxD d ds := SeqAt.plain_unique e _ v bs2 bs (plain_at hpl he) (W.reads_keeps hk r2) hR
  rw [this] at he
  exact ⟨_, H, I.kept hk, hu2, q i _ (List.getElem?_eq_getElem hi) he⟩
/-! ### sorted -/
def rSortA (α : Type) [Rp α] [De α] [Od α] (K : PySem.W.Frag) : List V → Hp → VK → Prop := fun vs H Q => ∃ (a : Addr) (ps : List (V × α)), vs = [V.ref a] ∧ SqL K H a (ps.map Prod.fst) ∧ (∀ p ∈ ps, Dp K H p.1 (De.toD p.2)) ∧ W.Sortable (ps.map fun p => De.toD p.2) ∧ ps.length ≤ lim ∧ De.dep α ≤ 60 ∧
  ∀ l, H l = none → Q (.ref l) (upd H l (.lst ((ps.mergeSort fun a b => !Od.lt b.2 a.2).map Prod.fst)))
theorem each_of {α : Type} [Rp α] [De α] {pins : List (Addr × Obj)} {σ : L2.St} {H : Hp} {s : Shared} (I : Inv X pins σ H s) : ∀ {ps : List (V × α)} {us : List Value}, Vals (ps.map Prod.fst) us → (∀ p ∈ ps, Dp X.K H p.1 (De.toD p.2)) → W.EachIs (fun (v : Value) (p : V × α) => RelV p.1 v) us ps ∧ W.EachIs (fun (v : Value) (p : V × α) => ∃ as, Reads s.heap v (De.toD p.2) as) us ps
  | [], _, .nil, _ => ⟨.nil, .nil⟩
  | p :: ps, _, .cons r t, h => by
    obtain ⟨a, b⟩ := each_of I t fun q hq => h q (List.mem_cons_of_mem _ hq)
    exact ⟨.cons r a, .cons (Dp.reads I _ _ _ (h p List.mem_cons_self) r) b⟩
theorem vals_each {α : Type} : ∀ {us : List Value} {ps : List (V × α)}, W.EachIs (fun (v : Value) (p : V × α) => RelV p.1 v) us ps → Vals (ps.map Prod.fst) us
  | _, _, .nil => .nil
  | _, _, .cons r t => .cons r (vals_each t)
theorem cr_sortA {α : Type} [Rp α] [De α] [Od α] (hu : X.A.units + 64 < cLine) : CallR X (.builtin "sorted") (rSortA α X.K) := by
  intro pins s σ H vs us Q I r h
  obtain ⟨a, ps, rfl, hs, hd, hk, hL, hdep, q⟩ := h
  obtain ⟨its, rv, hl, hz⟩ := I.list hs
  rw [Vals.ref1 r]
  obtain ⟨e1, e2⟩ := each_of I rv hd
  refine W.sorted_data (enc := fun p : V × α => De.toD p.2) hl.isList e1 e2 (W.AllAlike.of fun b b' => Od.alike _ _) hk (lim_line hL) (fun b _ => by have := De.deep b.2; omega) fun out hlen hE => ?_
  obtain ⟨ep, he'⟩ := PyProof.Rows.sortedAll_at s.heap its out.toArray
  have hsz : ((ps.mergeSort fun a b => !Od.lt b.2 a.2).map Prod.fst).length ≤ sizeLine := by rw [List.length_map, List.length_mergeSort]; exact lim_line hL
  have hcmp : (W.dataLe false fun p : V × α => De.toD p.2) = fun a b => !Od.lt b.2 a.2 := by
    rw [W.dataLe_eq]
    funext a b
    show (!W.dataLt _ _) = _
    rw [Od.lt_eq]
  rw [hcmp] at hE
  exact ⟨.ref _, upd H (s.heap.objs.size + 1) (.lst ((ps.mergeSort fun a b => !Od.lt b.2 a.2).map Prod.fst)), I.laid (t' := s.toks) (fun _ _ => PyProof.Rows.sortedAll_old) (Nat.le_succ _) ⟨hsz, out, ep, vals_each hE, he'⟩, rfl, q _ (I.hok.fresh (Nat.le_succ _))⟩
end
section
variable {K : PySem.W.Frag} {E : XK} {σ : L2.St} {F H : Hp} {ta tb te tl : TE} {t u : TT} {α β γ δ ρ : Type} [Rp α] [Rp β] [Rp γ] [Rp δ] [Rp ρ]
theorem g_ltP [De α] [Od α] {ma mb : R α} (ha : Gr K E ta σ F H ma) (hb : Gr K E tb σ F H mb) (hF : Same F H) (hd : De.dep α ≤ 60 := by decide) : Gr K E (tOp (rLtP K) ta tb) σ F H (R.bd ma fun a => R.bd mb fun b => .ok (Od.lt a b)) := fun H1 e Q hq =>
  gr_seq ha e hq fun a v H2 e2 r hq2 => gr_seq hb (e.trans e2) hq2 fun b w H3 e3 r3 hq3 => by
    refine ⟨_, _, De.dp (Rp.mono ((mix_same hF (e.trans e2)).trans e3) r), De.dp (Rp.mono (mix_same hF (e.trans (e2.trans e3))) r3), Od.alike a b, Od.nn a, by have := De.deep a; omega, ?_⟩
    rw [Od.lt_eq]
    exact hq3 _ H3 (Same.refl _) rfl
theorem g_gtP [De α] [Od α] {ma mb : R α} (ha : Gr K E ta σ F H ma) (hb : Gr K E tb σ F H mb) (hF : Same F H) (hd : De.dep α ≤ 60 := by decide) : Gr K E (tOp (rGtP K) ta tb) σ F H (R.bd ma fun a => R.bd mb fun b => .ok (Od.lt b a)) := fun H1 e Q hq =>
  gr_seq ha e hq fun a v H2 e2 r hq2 => gr_seq hb (e.trans e2) hq2 fun b w H3 e3 r3 hq3 => by
    refine ⟨_, _, De.dp (Rp.mono ((mix_same hF (e.trans e2)).trans e3) r), De.dp (Rp.mono (mix_same hF (e.trans (e2.trans e3))) r3), Od.alike a b, Od.nn a, by have := De.deep a; omega, ?_⟩
    rw [Od.lt_eq]
    exact hq3 _ H3 (Same.refl _) rfl
theorem g_leP [De α] [Od α] {ma mb : R α} (ha : Gr K E ta σ F H ma) (hb : Gr K E tb σ F H mb) (hF : Same F H) (hd : De.dep α ≤ 60 := by decide) : Gr K E (tOp (rLeP K) ta tb) σ F H (R.bd ma fun a => R.bd mb fun b => .ok (!Od.lt b a)) := fun H1 e Q hq =>
  gr_seq ha e hq fun a v H2 e2 r hq2 => gr_seq hb (e.trans e2) hq2 fun b w H3 e3 r3 hq3 => by
    refine ⟨_, _, De.dp (Rp.mono ((mix_same hF (e.trans e2)).trans e3) r), De.dp (Rp.mono (mix_same hF (e.trans (e2.trans e3))) r3), Od.alike a b, Od.nn a, by have := De.deep a; omega, ?_⟩
    rw [Od.lt_eq]
    exact hq3 _ H3 (Same.refl _) rfl
theorem g_geP [De α] [Od α] {ma mb : R α} (ha : Gr K E ta σ F H ma) (hb : Gr K E tb σ F H mb) (hF : Same F H) (hd : De.dep α ≤ 60 := by decide) : Gr K E (tOp (rGeP K) ta tb) σ F H (R.bd ma fun a => R.bd mb fun b => .ok (!Od.lt a b)) := fun H1 e Q hq =>
  gr_seq ha e hq fun a v H2 e2 r hq2 => gr_seq hb (e.trans e2) hq2 fun b w H3 e3 r3 hq3 => by
    refine ⟨_, _, De.dp (Rp.mono ((mix_same hF (e.trans e2)).trans e3) r), De.dp (Rp.mono (mix_same hF (e.trans (e2.trans e3))) r3), Od.alike a b, Od.nn a, by have := De.deep a; omega, ?_⟩
    rw [Od.lt_eq]
    exact hq3 _ H3 (Same.refl _) rfl
def minLR {α : Type} (lt : α → α → Bool) : List α → R α
  | [] => .bad
  | x :: l => .ok (l.foldl (fun a y => if lt y a = true then y else a) x)
def maxLR {α : Type} (lt : α → α → Bool) : List α → R α
  | [] => .bad
  | x :: l => .ok (l.foldl (fun a y => if lt a y = true then y else a) x)
theorem minD_map [De α] [Od α] : ∀ (l : List α) (x : α), W.minD (De.toD x) (l.map De.toD) = De.toD (l.foldl (fun a y => if Od.lt y a = true then y else a) x)
  | [], _ => rfl
  | y :: l, x => by
    unfold W.minD
    rw [List.map_cons, List.foldl_cons, List.foldl_cons, Od.lt_eq]
    by_cases c : Od.lt y x = true
    · rw [if_pos c, if_pos c]; exact minD_map l y
    · rw [if_neg c, if_neg c]; exact minD_map l x
theorem maxD_map [De α] [Od α] : ∀ (l : List α) (x : α), W.maxD (De.toD x) (l.map De.toD) = De.toD (l.foldl (fun a y => if Od.lt a y = true then y else a) x)
  | [], _ => rfl
  | y :: l, x => by
    unfold W.maxD
    rw [List.map_cons, List.foldl_cons, List.foldl_cons, Od.lt_eq]
    by_cases c : Od.lt x y = true
    · rw [if_pos c, if_pos c]; exact maxD_map l y
    · rw [if_neg c, if_neg c]; exact maxD_map l x
theorem toD_inj [De α] {a b : α} (h : De.toD a = De.toD b) : a = b := (De.eqv a b).mp (by rw [h]; exact SeqAt.eqv_refl_plain _ (De.lay b))
theorem alikeAll_map [De α] [Od α] (xs : List α) : W.AlikeAll (xs.map De.toD) := ⟨fun a ha b hb => by
    obtain ⟨x, _, rfl⟩ := List.mem_map.mp ha
    obtain ⟨y, _, rfl⟩ := List.mem_map.mp hb
    exact Od.alike x y, fun a ha => by
    obtain ⟨x, _, rfl⟩ := List.mem_map.mp ha
    exact Od.nn x⟩
theorem g_minP [De α] [Od α] {m : R (List α)} (h : Gr K E ta σ F H m) (hF : Same F H) (hd : De.dep α ≤ 60 := by decide) : Gr K E (tCB (rMinP K) (tCons ta tNil)) σ F H (R.bd m (minLR Od.lt)) := fun H1 e Q hq =>
  gr_seq h e hq fun xs v H2 e2 r hq2 => by
    obtain ⟨p, vs, rfl, hp, hv⟩ := r
    cases xs with
    | nil => exact hq2.elim
    | cons x l =>
      have hv2 := hv.mono fun _ _ z => Rp.mono (mix_same hF (e.trans e2)) z
      refine ⟨p, vs, De.toD x, l.map De.toD, rfl, SqL.of (mix_same hF (e.trans e2) p _ hp), dpAll_of (xs := x :: l) hv2, alikeAll_map (x :: l), plainAll_map (x :: l), by have := deepAll (x :: l); simp only [List.map_cons] at this; omega, fun i w hw hm => ?_⟩
      obtain ⟨a, ha, ra⟩ := hv.getL hw
      have : (De.toD a : PyData) = W.minD (De.toD x) (l.map De.toD) := by
        have z : ((x :: l).map De.toD)[i]? = some (De.toD a) := by rw [List.getElem?_map, ha]; rfl
        rw [List.map_cons, hm] at z
        exact (Option.some.inj z).symm
      rw [minD_map] at this
      have := toD_inj this
      exact hq2 w H2 (Same.refl _) (by rw [← this]; exact ra)
theorem g_maxP [De α] [Od α] {m : R (List α)} (h : Gr K E ta σ F H m) (hF : Same F H) (hd : De.dep α ≤ 60 := by decide) : Gr K E (tCB (rMaxP K) (tCons ta tNil)) σ F H (R.bd m (maxLR Od.lt)) := fun H1 e Q hq =>
  gr_seq h e hq fun xs v H2 e2 r hq2 => by
    obtain ⟨p, vs, rfl, hp, hv⟩ := r
    cases xs with
    | nil => exact hq2.elim
    | cons x l =>
      have hv2 := hv.mono fun _ _ z => Rp.mono (mix_same hF (e.trans e2)) z
      refine ⟨p, vs, De.toD x, l.map De.toD, rfl, SqL.of (mix_same hF (e.trans e2) p _ hp), dpAll_of (xs := x :: l) hv2, alikeAll_map (x :: l), plainAll_map (x :: l), by have := deepAll (x :: l); simp only [List.map_cons] at this; omega, fun i w hw hm => ?_⟩
      obtain ⟨a, ha, ra⟩ := hv.getL hw
      have : (De.toD a : PyData) = W.maxD (De.toD x) (l.map De.toD) := by
        have z : ((x :: l).map De.toD)[i]? = some (De.toD a) := by rw [List.getElem?_map, ha]; rfl
        rw [List.map_cons, hm] at z
        exact (Option.some.inj z).symm
      rw [maxD_map] at this
      have := toD_inj this
      exact hq2 w H2 (Same.refl _) (by rw [← this]; exact ra)
/-! sorted -/
theorem zip_fst : ∀ {vs : List V} {xs : List α}, vs.length = xs.length → (vs.zip xs).map Prod.fst = vs
  | [], [], _ => rfl
  | [], _ :: _, h => by simp at h
  | _ :: _, [], h => by simp at h
  | v :: vs, x :: xs, h => by
    rw [List.zip_cons_cons, List.map_cons, zip_fst (by simpa using h)]
theorem zip_snd : ∀ {vs : List V} {xs : List α}, vs.length = xs.length → (vs.zip xs).map Prod.snd = xs
  | [], [], _ => rfl
  | [], _ :: _, h => by simp at h
  | _ :: _, [], h => by simp at h
  | v :: vs, x :: xs, h => by
    rw [List.zip_cons_cons, List.map_cons, zip_snd (by simpa using h)]
theorem all2_zip {P : V → α → Prop} : ∀ {vs : List V} {xs : List α}, All2 P vs xs → ∀ p ∈ vs.zip xs, P p.1 p.2
  | _, _, .nil, p, h => by simp at h
  | _, _, .cons r t, p, h => by
    rcases List.mem_cons.mp (by simpa using h) with c | c
    · rw [c]; exact r
    · exact all2_zip t p c
theorem zip_all2 {P : V → α → Prop} : ∀ {ps : List (V × α)}, (∀ p ∈ ps, P p.1 p.2) → All2 P (ps.map Prod.fst) (ps.map Prod.snd)
  | [], _ => .nil
  | p :: ps, h => .cons (h p List.mem_cons_self) (zip_all2 fun q hq => h q (List.mem_cons_of_mem _ hq))
/-- may be sorted -/
def okSort [De α] (xs : List α) : Prop := W.Sortable (xs.map De.toD)
noncomputable def sortR [De α] [Od α] (xs : List α) : R (List α) := gd (xs.length ≤ lim ∧ okSort xs) (.ok (xs.mergeSort fun a b => !Od.lt b a))
theorem g_sort [De α] [Od α] {m : R (List α)} (h : Gr K E ta σ F H m) (hF : Same F H) (hd : De.dep α ≤ 60 := by decide) : Gr K E (tCB (rSortA α K) (tCons ta tNil)) σ F H (R.bd m sortR) := fun H1 e Q hq =>
  gr_seq h e hq fun xs v H2 e2 r hq2 => by
    obtain ⟨p, vs, rfl, hp, hv⟩ := r
    unfold sortR gd at hq2
    split at hq2
    · rename_i c
      have hl := hv.length
      have hfst : (vs.zip xs).map Prod.fst = vs := zip_fst hl
      have hsnd : (vs.zip xs).map Prod.snd = xs := zip_snd hl
      have hz := all2_zip hv
      refine ⟨p, vs.zip xs, rfl, by rw [hfst]; exact SqL.of (mix_same hF (e.trans e2) p _ hp), fun q hq => De.dp (Rp.mono (mix_same hF (e.trans e2)) (hz q hq)), ?_, by rw [List.length_zip]; omega, hd, fun l hl => ?_⟩
      · have : (vs.zip xs).map (fun p => (De.toD p.2 : PyData)) = xs.map De.toD := by
          conv => rhs; rw [← hsnd, List.map_map]
          rfl
        rw [this]
        exact c.2
      · refine hq2 _ _ (same_upd hl) ?_
        have hn : H l = none := Same.free (e.trans e2) hl
        refine ⟨l, _, rfl, by rw [mix_new hn]; exact upd_same, ?_⟩
        have e3 : xs.mergeSort (fun a b => !Od.lt b a) = ((vs.zip xs).mergeSort fun a b => !Od.lt b.2 a.2).map Prod.snd := by
          conv => lhs; rw [← hsnd]
          exact (List.map_mergeSort (r := fun a b : V × α => !Od.lt b.2 a.2) (s := fun a b : α => !Od.lt b a) (f := Prod.snd) (fun a _ b _ => rfl)).symm
        rw [e3]
        refine zip_all2 fun q hq => Rp.mono (mix_mono (same_upd hl)) (hz q ?_)
        exact (List.mergeSort_perm _ _).subset hq
    · exact hq2.elim
theorem g_chainM {f g : Int → Int → Bool} {tc : TE} {ma mb mc : R Int} (ha : Gr K E ta σ F H ma) (hb : Gr K E tb σ F H mb) (hc : Gr K E tc σ F H mc) :
    Gr K E (tChain (rI0 fun i j => .bl (f i j)) (rI0 fun i j => .bl (g i j)) ta tb tc) σ F H (R.bd ma fun a => R.bd mb fun b => if f a b = true then R.bd mc fun c => .ok (g b c) else .ok false) := fun H1 e Q hq =>
  gr_seq ha e hq fun a v H2 e2 r hq2 => gr_seq hb (e.trans e2) hq2 fun b w H3 e3 r3 hq3 => by
    refine ⟨a, b, r, r3, f a b, rfl, ?_⟩
    cases q : f a b with
    | true =>
      rw [q] at hq3
      rw [if_pos rfl] at hq3 ⊢
      exact gr_seq hc (e.trans (e2.trans e3)) hq3 fun c z H4 e4 r4 hq4 => ⟨b, c, r3, r4, hq4 _ H4 (Same.refl _) rfl⟩
    | false =>
      rw [q] at hq3
      rw [if_neg (by decide)] at hq3 ⊢
      exact hq3 _ H3 (Same.refl _) rfl
theorem u65 {k : Nat} {A : Around} (r : Room k A) : A.units + 65 < cLine := by have := r.un; omega
/-! ### xs.index(x), nested -/
class DeS (α : Type) [Rp α] [De α] where
  lay0 : ∀ a : α, (De.toD a).canLay0 = true
instance : DeS Int := ⟨fun _ => rfl⟩
instance : DeS Bool := ⟨fun _ => rfl⟩
theorem lay0All [De α] [DeS α] : ∀ xs : List α, PyData.canLayAll0 (xs.map De.toD) = true
  | [] => rfl
  | x :: r => by
    show (PyData.canLay0 (De.toD x) && PyData.canLayAll0 (r.map De.toD)) = true
    rw [DeS.lay0, lay0All r]
    rfl
instance [De α] [DeS α] : DeS (List α) := ⟨fun xs => lay0All xs⟩
instance [De α] [DeS α] : DeS (Tu α) := ⟨fun xs => lay0All xs.l⟩
instance [De α] [De β] [DeS α] [DeS β] : DeS (α × β) := ⟨fun t => by
  show (PyData.canLay0 (De.toD t.1) && (PyData.canLay0 (De.toD t.2) && true)) = true
  rw [DeS.lay0, DeS.lay0]
  rfl⟩
theorem shaped_of [De α] [DeS α] (h : De.dep α ≤ 64) (a : α) : SeqAt.shaped (De.toD a) = true := by
  unfold SeqAt.shaped
  rw [DeS.lay0 a, decide_eq_true (Nat.le_trans (De.deep a) h)]
  rfl
theorem g_indexD [De α] [DeS α] [DecidableEq α] {ma : R (List α)} {mb : R α} (ha : Gr K E ta σ F H ma) (hb : Gr K E tb σ F H mb) (hF : Same F H) (hd : De.dep α ≤ 60 := by decide) : Gr K E (tBM K "list" (rIndexD K) ta (tCons tb tNil)) σ F H (R.bd ma fun a => R.bd mb fun b => indexR a b) := fun H1 e Q hq =>
  ha H1 e _ (by
    rw [wp_bd] at hq
    refine wp_mono hq (fun xs _ k v H2 e2 r => ?_) fun _ _ z => z
    obtain ⟨p, vs, rfl, hp, hv⟩ := r
    refine ⟨.inl ⟨rfl, _, SqL.of (mix_same hF (e.trans e2) p _ hp)⟩, ?_⟩
    refine hb H2 (e.trans e2) _ ?_
    rw [wp_bd] at k
    refine wp_mono k (fun b _ k2 w H3 e3 r3 => ?_) fun _ _ z => z.mono e2
    unfold indexR at k2
    cases q : xs.findIdx? (fun z => decide (z = b)) with
    | none => rw [q] at k2; exact k2.elim
    | some j =>
      rw [q] at k2
      obtain ⟨hj, h1, h2⟩ := List.findIdx?_eq_some_iff_getElem.mp q
      have hL : Rp.rep K H3 (.ref p) xs := Rp.mono e3 (Rp.mono (mix_same hF (e.trans e2)) (⟨p, vs, rfl, hp, hv⟩ : Rp.rep K (mix F H H2) (.ref p) xs))
      refine ⟨p, w, De.toD b, xs.map De.toD, j, De.toD xs[j], rfl, rfl, De.dp hL, De.dp (Rp.mono (mix_same hF (e.trans (e2.trans e3))) r3), shaped_of (α := List α) (by show De.dep α + 1 ≤ 64; omega) xs, shaped_of (by omega) b, by rw [List.getElem?_map, List.getElem?_eq_getElem hj]; rfl, by rw [eqv_dec]; exact h1, fun m z' hm hz => ?_, k2 _ H3 (e2.trans e3) rfl⟩
      rw [List.getElem?_map, List.getElem?_eq_getElem (by omega)] at hz
      cases hz
      rw [eqv_dec]
      have := h2 m hm
      simpa using this)
theorem mt_indexDK {X : Cx} {K : PySem.W.Frag} (h : X.K = K) (hu : X.A.units + 65 < cLine) : MtR X "list.index" (rIndexD K) := by subst h; exact mt_indexD hu
/-! ### what may be None, of ints (bools, texts): over any heap -/
theorem rep_os [Sc α] {F' : Hp} {v : V} {a : Option α} (h : Rp.rep K F v a) : Rp.rep K F' v a := by
  cases a with
  | none => exact h
  | some a => exact ⟨h.1, Sc.is.mpr (Sc.is.mp h.2)⟩
theorem g_os [Sc α] {F' : Hp} {m : R (Option α)} (h : Gr K E te σ F' H m) : Gr K E te σ F H m := fun H1 e Q hq =>
  h H1 e Q (wp_mono hq (fun a _ k v H2 e2 r => k v H2 e2 (rep_os r)) fun _ _ z => z)
/-! ### calls with five -/
variable {Ex : L2.St → XK} {ε : Type} [Rp ε]
def sp5 (K : PySem.W.Frag) (f : α → β → γ → δ → ε → R ρ) : Sp := fun vs H Q E => ∃ v w x y z a b c d g, vs = [v, w, x, y, z] ∧ Rp.rep K H v a ∧ Rp.rep K H w b ∧ Rp.rep K H x c ∧ Rp.rep K H y d ∧ Rp.rep K H z g ∧ Wp (f a b c d g) (KN K H Q) (EE K E H)
theorem g_call5 {tc td te : TE} {f : α → β → γ → δ → ε → R ρ} {ma : R α} {mb : R β} {mc : R γ} {md : R δ} {me : R ε} (ha : Gr K E ta σ H H ma) (hb : Gr K E tb σ H H mb) (hc : Gr K E tc σ H H mc) (hd : Gr K E td σ H H md) (he : Gr K E te σ H H me) (hE : Ex σ = E := by rfl) :
    Gr K E (tCallS (sp5 K f) Ex (tCons ta (tCons tb (tCons tc (tCons td (tCons te tNil)))))) σ F H (R.bd ma fun a => R.bd mb fun b => R.bd mc fun c => R.bd md fun d => R.bd me fun g => f a b c d g) := by
  subst hE
  exact fun H1 e Q hq =>
  gr_arg ha e hq fun a v H2 e2 r hq2 => gr_arg hb (e.trans e2) hq2 fun b w H3 e3 r3 hq3 => gr_arg hc (e.trans (e2.trans e3)) hq3 fun c x H4 e4 r4 hq4 => gr_arg hd (e.trans (e2.trans (e3.trans e4))) hq4 fun d y H5 e5 r5 hq5 => gr_arg he (e.trans (e2.trans (e3.trans (e4.trans e5)))) hq5 fun g z H6 e6 r6 hq6 =>
    ⟨v, w, x, y, z, a, b, c, d, g, rfl, Rp.mono (e3.trans (e4.trans (e5.trans e6))) r, Rp.mono (e4.trans (e5.trans e6)) r3, Rp.mono (e5.trans e6) r4, Rp.mono e6 r5, r6, wp_mono hq6 (fun b _ k v' H7 e7 r7 => k v' H7 e7 (Rp.mono (dif_mix (e.trans (e2.trans (e3.trans (e4.trans (e5.trans e6))))) e7) r7)) fun c _ z => z⟩
def spS4 (K : PySem.W.Frag) (f : α → β → γ → δ → R ρ) : Sp := fun vs H Q E => ∃ v w x y a b c d Gz, vs = [v, w, x, y] ∧ Same Gz H ∧ Rp.rep K Gz v a ∧ Rp.rep K Gz w b ∧ Rp.rep K Gz x c ∧ Rp.rep K Gz y d ∧ Wp (f a b c d) (KS K Gz H Q) (EE K E H)
theorem g_callS4 {tc td : TE} {f : α → β → γ → δ → R ρ} {ma : R α} {mb : R β} {mc : R γ} {md : R δ} (ha : Gr K E ta σ F H ma) (hb : Gr K E tb σ F H mb) (hc : Gr K E tc σ F H mc) (hd : Gr K E td σ F H md) (hF : Same F H) (hE : Ex σ = E := by rfl) :
    Gr K E (tCallS (spS4 K f) Ex (tCons ta (tCons tb (tCons tc (tCons td tNil))))) σ F H (R.bd ma fun a => R.bd mb fun b => R.bd mc fun c => R.bd md fun d => f a b c d) := by
  subst hE
  exact fun H1 e Q hq =>
  gr_seq ha e hq fun a v H2 e2 r hq2 => gr_seq hb (e.trans e2) hq2 fun b w H3 e3 r3 hq3 => gr_seq hc (e.trans (e2.trans e3)) hq3 fun c x H4 e4 r4 hq4 => gr_seq hd (e.trans (e2.trans (e3.trans e4))) hq4 fun d y H5 e5 r5 hq5 =>
    ⟨v, w, x, y, a, b, c, d, mix F H H5, rfl, mix_same hF (e.trans (e2.trans (e3.trans (e4.trans e5)))), Rp.mono ((mix_mono e3).trans ((mix_mono e4).trans (mix_mono e5))) r, Rp.mono ((mix_mono e4).trans (mix_mono e5)) r3, Rp.mono (mix_mono e5) r4, r5, wp_mono hq5 (fun b _ k v' H6 e6 r6 => k v' H6 e6 (Rp.mono (mix_mix (e.trans (e2.trans (e3.trans (e4.trans e5)))) e6) r6)) fun c _ z => z⟩
end
section
variable {X : Cx} {K : PySem.W.Frag}
theorem op_ltPK (h : X.K = K) (hu : X.A.units + 64 < cLine) : OpR X (compareOp .Lt) (rLtP K) := by subst h; exact op_ltP hu
theorem op_gtPK (h : X.K = K) (hu : X.A.units + 64 < cLine) : OpR X (compareOp .Gt) (rGtP K) := by subst h; exact op_gtP hu
theorem op_lePK (h : X.K = K) (hu : X.A.units + 64 < cLine) : OpR X (compareOp .LtE) (rLeP K) := by subst h; exact op_leP hu
theorem op_gePK (h : X.K = K) (hu : X.A.units + 64 < cLine) : OpR X (compareOp .GtE) (rGeP K) := by subst h; exact op_geP hu
theorem cr_minPK (h : X.K = K) (hc : X.calm = true) (hu : X.A.units + 64 < cLine) : CallR X (.builtin "min") (rMinP K) := by subst h; exact cr_minP hc hu
theorem cr_maxPK (h : X.K = K) (hc : X.calm = true) (hu : X.A.units + 64 < cLine) : CallR X (.builtin "max") (rMaxP K) := by subst h; exact cr_maxP hc hu
theorem cr_sortAK {α : Type} [Rp α] [De α] [Od α] (h : X.K = K) (hu : X.A.units + 64 < cLine) : CallR X (.builtin "sorted") (rSortA α K) := by subst h; exact cr_sortA hu
end
/-! ### try: .. except X: .. without a name -/
def tTryO (K : PySem.W.Frag) (c : Value) (tb : WX → TS) (ts : TS) : TS := fun D σ H => tb (wOnly K c (fun _ _ _ => ts) (fun _ _ _ _ => False) D) D σ H
section
variable {X : Cx} {x : Str} {c : Value} {body suite : List Stmt} {b₀ : Stmt} {np pos pos' : Pos} {tb : WX → TS} {ts : TS}
theorem ps_tryO (hs : X.stack = X.env :: X.outer) (hf : X.env.frame = some X.env.locals) (hc : Names X x c)
    (hb : ∀ (W : WX) (pn : List (Addr × Obj)) (xe : Value → Shared → Prop), Takes (X.tr pn xe) W → PassesOwn (model X.prog X.w) X.A X.env xe → PSs (X.tr pn xe) body (tb W))
    (hsu : ∀ (a : Addr) (pn : List (Addr × Obj)), PSs (X.suite a pn) (b₀ :: suite) ts) :
    PS X (.Try body [.ExceptHandler (some (.Name x np)) none (b₀ :: suite) pos'] [] [] pos) (tTryO X.K c tb ts) :=
  ps_try_only (Wout := fun _ _ _ _ => False) (ts := fun _ _ _ => ts) hs hf hc (fun _ _ ⟨_, _, _, _, _, _, _, _, _, _, _, _, _, _, _, _, w⟩ => w.elim) hb fun a oe _ _ pn _ _ => hsu a ((a, oe) :: pn)
end
section
variable {K : PySem.W.Frag} {E : XK} {σ : L2.St} {H0 F H : Hp} {D : Ends} {S : Type}
theorem s_tryO {cs : List Cn} {cv : Value} {ts : TS} {tb : WX → TS} {m : R S} {hand : Er → R S} {kq : S → Prop} (hF : Same F H) (e0 : Same H0 H) (hQ : Wp (catchR cs m hand) kq (EE K E H0))
    (hx : ∀ c ∈ cs, PySem.W.exmOne K (.ref (He.ga K c.nm)) cv = some true)
    (hh : ∀ er F' H', Nx0 F H F' H' → Same H0 H' → Wp (hand er) kq (EE K E H0) → ts D σ H')
    (hb : Wp m kq (EE K (WE (wOnly K cv (fun _ _ _ => ts) (fun _ _ _ _ => False) D) σ) H) → tb (wOnly K cv (fun _ _ _ => ts) (fun _ _ _ _ => False) D) D σ H) : tTryO K cv tb ts D σ H := by
  show tb _ D σ H
  refine hb ?_
  cases m with
  | ok s => exact hQ
  | bad => exact hQ.elim
  | er er =>
    have hQ2 : Wp (if er.cn ∈ cs then hand er else .bad) kq (EE K E H0) := hQ
    split at hQ2
    · rename_i hc
      cases er with
      | own c =>
        intro H' s
        exact ⟨true, hx _ hc, fun _ a ha => hh (.own c) _ _ (Nx.mk' hF s) (e0.trans s) hQ2, fun z => by cases z⟩
      | plan n =>
        intro d H' s hd _
        exact ⟨true, hx _ hc, fun _ a ha => hh (.plan n) _ _ (Nx.mk' hF s) (e0.trans s) hQ2, fun z => by cases z⟩
    · exact hQ2.elim
end
end G

set_option Elab.async false
set_option linter.all false
set_option maxRecDepth 100000
set_option maxHeartbeats 4000000
/-! G: list(reversed(xs)). -/
namespace G
open PySem PySem.Spec PyProof.Rows L2
section
variable {prog : Program} {w : World} {A : Around} {E : Value → Shared → Prop} {s : Shared} {it l S : Addr} {items : Array Value}
abbrev bk (items : Array Value) : Nat → Value → Prop := fun i v => items[items.size - 1 - i]? = some v
/-- an empty list takes what the iterator tells -/
theorem ext_rev {Z : Result → Shared → Prop} (hh : A.handled = none) (h1 : s.heap.IsRevIter it l ((items.size : Int) - 1)) (h2 : s.heap.IsList l items) (ne : l ≠ it) (hn : items.size ≤ sizeLine) (si : S ≠ it) (sl : S ≠ l) (res : Value) (c : Nat)
    (hS : s.heap.get? S = some { cls := .type "list", data := .seq #[] c })
    (k : ∀ h' tk a' c', (∀ b o, b ≠ S → b ≠ it → s.heap.get? b = some o → h'.get? b = some o) → h'.get? S = some { cls := .type "list", dict := none, data := .seq a' c', slots := #[] } → ItemsOf (bk items) a' items.size → Z (.ok (.ret res)) { s with heap := h', toks := tk }) :
    wpAny (model prog w) A.in1 (Builtin.List.listExtendWith (.ref S) (.ref it) res) (fun fin s' => match fin with | .done f => Z (.ok f) s' | .again c' => c'.quiet = true ∧ codeAny (model prog w) A c' Z s') (fun e s' => Z (.error e) s') s := by
  have W := (Walks.listRev (prog := prog) (w := w) (A := A.in1) hh it l ne items).toS
  have out : S ∉ [it, l] := by simp only [List.mem_cons, List.not_mem_nil, or_false, not_or]; exact ⟨si, sl⟩
  have ty : s.TypeIs (.ref it) "list_reverseiterator" := h1.typeIs
  have e1 : Builtin.List.listSameRef (.ref S) (.ref it) = false := by simp [Builtin.List.listSameRef, si]
  unfold Builtin.List.listExtendWith
  refine wpAny_bind (wpAny_typeOf ty ?_)
  rw [if_neg (by rw [e1]; decide)]
  refine wpAny_bind (wpAny_pyIter_revIter h1 ?_)
  refine wpAny_bind (wpAny_holding ?_)
  unfold Builtin.List.listLengthHint
  refine wpAny_bind (wpAny_specialOf ty RT.nolen_lri ?_)
  show wpAny _ A.in1 (specialOf (Value.ref it) (Str.ofString "__length_hint__") >>= _) _ _ _
  refine wpAny_bind (wpAny_specialOf ty RT.hint_lri ?_)
  generalize hid : ("list_reverseiterator.__length_hint__" : String) = id0
  wp_delta
  rw [show splitId id0 = some ("list_reverseiterator", "__length_hint__") from by subst hid; decide +kernel]
  subst hid
  refine wpAny_bind (wpAny_isInstance (b := true) ty (by rw [isSubtype_type]; kernel_rfl) ?_)
  refine wpAny_pure ?_
  rw [if_neg (by decide)]
  have e0 : ((items.size : Nat) : Int) - 1 - ((0 : Nat) : Int) = (items.size : Int) - 1 := by omega
  refine wpAny_pure ⟨plainId_quiet F.plain_extend_loop _, codeAny_extend_loopS W hn S out _ items.size 0 _ _ _ rfl (Nat.zero_le _) ⟨Nat.zero_le _, by rw [e0]; exact h1, h2⟩ hS (ItemsOf.nil _) fun s' a' c' hm hS' ha => ?_⟩
  rw [Moved.eq_with hm]
  exact k s'.heap s'.toks a' c' (fun b o b1 b2 e => hm.heap b o (fun m => by
    rcases List.mem_cons.mp m with z | z
    · exact b1 z
    · exact b2 (List.mem_singleton.mp z)) e) hS' ha
theorem list_rev {Q : Value → Shared → Prop} (hh : A.handled = none) (h1 : s.heap.IsRevIter it l ((items.size : Int) - 1)) (h2 : s.heap.IsList l items) (ne : l ≠ it) (hn : items.size ≤ sizeLine)
    (k : ∀ h' tk a' c', (∀ b o, b ≠ it → s.heap.get? b = some o → h'.get? b = some o) → h'.get? s.heap.objs.size = some { cls := .type "list", dict := none, data := .seq a' c', slots := #[] } → ItemsOf (bk items) a' items.size → Q (.ref s.heap.objs.size) { s with heap := h', toks := tk }) :
    wpAny (model prog w) A (call (.type "list") [.ref it]) Q E s := by
  refine callType_codes (Q₁ := fun obj s1 => obj = .ref s.heap.objs.size ∧ s1 = { s with heap := s.heap.push { cls := .type "list", data := .seq #[] } }) PySem.F.called_list (PySem.F.typeCall_list_1 _) PySem.F.entry_list_init (code_list_new _ ⟨rfl, rfl⟩) ?_
  rintro obj s1 ⟨rfl, rfl⟩
  obtain ⟨oi, hoi, _⟩ := id h1
  obtain ⟨ol, hol, _⟩ := id h2
  have si : s.heap.objs.size ≠ it := Nat.ne_of_gt (Heap.lt_size hoi)
  have sl : s.heap.objs.size ≠ l := Nat.ne_of_gt (Heap.lt_size hol)
  have hS : (s.heap.push { cls := .type "list", data := .seq #[] }).get? s.heap.objs.size = some { cls := .type "list", data := .seq #[] } := Heap.get?_push_size _ rfl
  refine ⟨⟨_, hS, rfl⟩, PySem.F.args_list_init_2 _ _, ?_⟩
  generalize hP : s.heap.push { cls := .type "list", data := .seq #[] } = hp at hS
  have h1' : hp.IsRevIter it l ((items.size : Int) - 1) := by rw [← hP]; exact h1.at fun o e => Heap.get?_push_of_some _ e
  have h2' : hp.IsList l items := by rw [← hP]; exact h2.push _
  show wpAny _ _ (do let old ← Builtin.List.listItems (.ref s.heap.objs.size); Builtin.List.listUpdate (.ref s.heap.objs.size) (fun _ => #[]); letGo old.toList.reverse; Builtin.List.listExtendWith (.ref s.heap.objs.size) (.ref it) .none) _ _ _
  refine wpAny_bind ?_
  unfold Builtin.List.listItems
  refine wpAny_bind (wpAny_seqItems hS rfl (wpAny_pure ?_))
  show wpAny _ _ (updateSeq s.heap.objs.size (fun _ => #[]) >>= fun _ => letGo (#[] : Array Value).toList.reverse >>= fun _ => Builtin.List.listExtendWith (.ref s.heap.objs.size) (.ref it) .none) _ _ _
  refine wpAny_bind (wpAny_updateSeq hS rfl ?_)
  have hS2 := Heap.get?_update_self (Obj.mapSeq (fun _ => (#[] : Array Value))) hS rfl
  have oth : ∀ b o, b ≠ s.heap.objs.size → hp.get? b = some o → (hp.update s.heap.objs.size (Obj.mapSeq (fun _ => (#[] : Array Value)))).get? b = some o := fun b o hb e => (Heap.get?_update_other _ _ (Ne.symm hb)).trans e
  refine wpAny_bind (wpAny_letGo ?_)
  obtain ⟨oi2, hoi2, g3, g4⟩ := h1'
  obtain ⟨ol2, hol2, g5, g6⟩ := h2'
  refine ext_rev (A := A.in1) hh ⟨oi2, oth _ _ (Ne.symm si) hoi2, g3, g4⟩ ⟨ol2, oth _ _ (Ne.symm sl) hol2, g5, g6⟩ ne hn si sl .none _ hS2 fun h' tk a' c' hk hS' ha => ?_
  refine ⟨rfl, k h' tk a' c' (fun b o b2 e => ?_) hS' ha⟩
  have bS : b ≠ s.heap.objs.size := Nat.ne_of_lt (Heap.lt_size e)
  refine hk b o bS b2 (oth b o bS ?_)
  rw [← hP]
  exact Heap.get?_push_of_some _ e
end
def tListRev (K : PySem.W.Frag) (te : TE) : TE := fun σ H Q => te σ H fun v H1 => ∃ (a : Addr) (xs : List V), v = .ref a ∧ SqL K H1 a xs ∧ ∀ q, H1 q = none → Q (.ref q) (upd H1 q (.lst xs.reverse))
section
variable {X : Cx}
theorem pe_listRev {e : Expr} {te : TE} {p p2 pos pos2 : Pos} (hc : X.calm = true) (hg : Gl X "list") (hm : X.mg "list" = none) (hg2 : Gl X "reversed") (hm2 : X.mg "reversed" = none) (he : PE X e te)
    (hs : starEach [e] X.env = (false, eval e X.env) :: starEach [] X.env := by rfl) (hs2 : starEach [.Call (.Name "reversed" p2) [e] [] pos2] X.env = (false, eval (.Call (.Name "reversed" p2) [e] [] pos2) X.env) :: starEach [] X.env := by rfl) :
    PE X (.Call (.Name "list" p) [.Call (.Name "reversed" p2) [e] [] pos2] [] pos) (tListRev X.K te) := by
  refine ⟨fun pins s σ H Q I h => ?_⟩
  refine Call_ (ld_blt I hg hm PyProof.Rows.boot_list (PyProof.Rows.callWith_type1 (args_cons (Call_ (ld_blt I hg2 hm2 PyProof.Rows.boot_reversed (PyProof.Rows.callWith_type1 (args_cons (thn (he.run pins s σ H _ I h) fun u s1 ⟨v, H1, I1, r1, q1⟩ => args_nil ?_) hs) hs rfl))) hs2) hs2 rfl))
  obtain ⟨a, xs, ev, hq, q⟩ := q1
  subst ev
  obtain rfl : u = Value.ref a := r1
  obtain ⟨its, rv, p', hz⟩ := I1.list hq
  refine call_reversed_list p'.isList (args_nil ?_)
  have hl := p'.isList
  obtain ⟨ol, hol, _⟩ := id hl
  have ne : a ≠ s1.heap.objs.size := Nat.ne_of_lt (Heap.lt_size hol)
  have hn : its.toArray.size ≤ sizeLine := by rw [List.size_toArray, ← rv.length]; exact hz
  refine list_rev (s := { s1 with heap := s1.heap.push (revObj a ((its.toArray.size : Int) - 1)) }) (I1.ok.hd hc) ⟨_, Heap.get?_push_size _ rfl, rfl, rfl⟩ (hl.push _) ne hn fun h' tk acc c hk hS hi => ?_
  have le : s1.heap.objs.size ≤ (s1.heap.push (revObj a ((its.toArray.size : Int) - 1))).objs.size := by rw [Heap.size_push]; omega
  have kp : ∀ b o, s1.heap.get? b = some o → h'.get? b = some o := fun b o e => hk b o (Nat.ne_of_lt (Heap.lt_size e)) (Heap.get?_push_of_some _ e)
  refine ⟨V.ref _, upd H1 _ (.lst xs.reverse), I1.laid (t' := tk) kp le ⟨by rw [List.length_reverse]; exact hz, acc.toList, c, RT.vals_rev rv hi, ?_⟩, rfl, q _ (I1.hok.fresh le)⟩
  rw [Array.toArray_toList]
  exact hS
end
section
variable {K : PySem.W.Frag} {E : XK} {σ : L2.St} {F H : Hp} {te : TE} {α : Type} [Rp α]
theorem g_listRev {m : R (List α)} (h : Gr K E te σ F H m) (hF : Same F H) : Gr K E (tListRev K te) σ F H (R.bd m fun xs => .ok xs.reverse) := fun H1 e Q hq =>
  gr_seq h e hq fun xs v H2 e2 r hq2 => by
    obtain ⟨p, vs, rfl, hp, hv⟩ := r
    refine ⟨p, vs, rfl, SqL.of (mix_same hF (e.trans e2) p _ hp), fun l hl => hq2 _ _ (same_upd hl) ?_⟩
    have hn : H l = none := Same.free (e.trans e2) hl
    exact ⟨l, _, rfl, by rw [mix_new hn]; exact upd_same, (hv.mono fun _ _ x => Rp.mono (mix_mono (same_upd hl)) x).reverse⟩
theorem g_listRevS [Sc α] {m : R (List α)} (h : Gr K E te σ H H m) : Gr K E (tListRev K te) σ F H (R.bd m fun xs => .ok xs.reverse) := fun H1 e Q hq =>
  h H1 e _ (by
    rw [wp_bd] at hq
    refine wp_mono hq (fun xs _ k v H2 e2 r => ?_) fun _ _ z => z
    obtain ⟨p, vs, rfl, hp, hv⟩ := r
    exact ⟨p, vs, rfl, SqL.of (mix_same (Same.refl _) (e.trans e2) p _ hp), fun l hl => k _ _ (e2.trans (same_upd hl)) (reps_at (by rw [mix_new (Same.free (e.trans e2) hl)]; exact upd_same) hv.reverse)⟩)
end
end G

set_option Elab.async false
set_option linter.all false
set_option maxRecDepth 100000
set_option maxHeartbeats 4000000
/-! G: what rests on tuples alone; dicts whose keys are tuples of ints. -/
namespace G
open PySem PySem.Spec PyProof.Rows L2
/-- what rests on tuples alone tells the same wherever they are seen -/
class Im (α : Type) [Rp α] : Prop where
  mv : ∀ {K : PySem.W.Frag} {F F' : Hp} {v : V} {a : α}, (∀ p xs, F p = some (.tup xs) → F' p = some (.tup xs)) → Rp.rep K F v a → Rp.rep K F' v a
theorem im_all {α : Type} [Rp α] [Im α] {K : PySem.W.Frag} {F F' : Hp} (e : ∀ p xs, F p = some (.tup xs) → F' p = some (.tup xs)) {vs : List V} {xs : List α} (h : All2 (Rp.rep K F) vs xs) : All2 (Rp.rep K F') vs xs := h.mono fun _ _ r => Im.mv e r
instance : Im Int := ⟨fun _ h => h⟩
instance : Im Bool := ⟨fun _ h => h⟩
instance : Im Str := ⟨fun _ h => h⟩
instance : Im Unit := ⟨fun _ h => h⟩
instance {α : Type} [Rp α] [Im α] : Im (Option α) := ⟨fun {K F F' v a} e h => by
  cases a with
  | none => exact h
  | some a => exact ⟨h.1, Im.mv e h.2⟩⟩
instance {α β : Type} [Rp α] [Rp β] [Im α] [Im β] : Im (α × β) := ⟨fun e ⟨p, x, y, h1, h2, h3, h4⟩ => ⟨p, x, y, h1, e _ _ h2, Im.mv e h3, Im.mv e h4⟩⟩
instance {α β γ : Type} [Rp α] [Rp β] [Rp γ] [Im α] [Im β] [Im γ] : Im (T3 α β γ) := ⟨fun e ⟨p, x, y, z, h1, h2, h3, h4, h5⟩ => ⟨p, x, y, z, h1, e _ _ h2, Im.mv e h3, Im.mv e h4, Im.mv e h5⟩⟩
instance {α : Type} [Rp α] [Im α] : Im (Tu α) := ⟨fun e ⟨p, vs, h1, h2, h3⟩ => ⟨p, vs, h1, e _ _ h2, im_all e h3⟩⟩
theorem tup_mix {F H H2 H3 : Hp} (e : Same H H2) (e3 : Same H2 H3) {p : Addr} {xs : List V} (h : H2 p = some (.tup xs)) : mix F H H3 p = some (.tup xs) := by
  cases z : H p with
  | none => rw [mix_new z]; exact e3 _ _ h
  | some u =>
    have := e p u z
    rw [h] at this
    cases this
    exact mix_tup z rfl
theorem tup_le {F H : Hp} (e : Same F H) : ∀ p xs, F p = some (.tup xs) → H p = some (.tup xs) := fun p xs h => e p _ h
section
variable {K : PySem.W.Frag} {E : XK} {σ : L2.St} {H0 F H F' H' : Hp} {ta tb te tl to ti tk tv td : TE} {t u : TT} {α β γ δ ρ : Type} [Rp α] [Rp β] [Rp γ] [Rp δ] [Rp ρ] {D : Ends} {b : Bool}
theorem g_im [Im α] {G : Hp} (hG : Same G H) {m : R α} (h : Gr K E te σ G H m) : Gr K E te σ F H m := fun H1 e Q hq =>
  h H1 e Q (wp_mono hq (fun a _ k v H2 e2 r => k v H2 e2 (Im.mv (fun p xs q => tup_mix (e.trans e2) (Same.refl _) (mix_same hG (e.trans e2) _ _ q)) r)) fun _ _ z => z)
/-- a list of such, made anew -/
theorem reps_atI [Im α] {G H2 H3 : Hp} {p : Addr} {vs : List V} {xs : List α} (hG : Same G H2) (e : Same H H2) (e3 : Same H2 H3) (h : mix F H H3 p = some (.lst vs)) (hv : All2 (Rp.rep K G) vs xs) : Rp.rep K (mix F H H3) (.ref p) xs :=
  ⟨p, vs, rfl, h, im_all (fun q ys z => tup_mix e e3 (hG _ _ z)) hv⟩
theorem g_listI [Im α] {m : R (List α)} (h : Gr K E ta σ H H m) : Gr K E (tCB (rListOf K) (tCons ta tNil)) σ F H m := fun H1 e Q hq =>
  h H1 e _ (wp_mono hq (fun xs _ k v H2 e2 r => by
    obtain ⟨p, vs, rfl, hp, hv⟩ := r
    have s2 := mix_same (Same.refl _) (e.trans e2)
    exact ⟨p, vs, rfl, .inl (SqL.of (s2 p _ hp)), fun l hl => k _ _ (e2.trans (same_upd hl)) (reps_atI s2 (e.trans e2) (same_upd hl) (by rw [mix_new (Same.free (e.trans e2) hl)]; exact upd_same) hv)⟩) fun _ _ z => z)
theorem g_listTI [Im α] {m : R (Tu α)} (h : Gr K E ta σ H H m) : Gr K E (tCB (rListOf K) (tCons ta tNil)) σ F H (R.bd m fun t => .ok t.l) := fun H1 e Q hq =>
  h H1 e _ (by
    rw [wp_bd] at hq
    refine wp_mono hq (fun xs _ k v H2 e2 r => ?_) fun _ _ z => z
    obtain ⟨p, vs, rfl, hp, hv⟩ := r
    have s2 := mix_same (Same.refl _) (e.trans e2)
    exact ⟨p, vs, rfl, .inr (SqT.of (s2 p _ hp)), fun l hl => k _ _ (e2.trans (same_upd hl)) (reps_atI s2 (e.trans e2) (same_upd hl) (by rw [mix_new (Same.free (e.trans e2) hl)]; exact upd_same) hv)⟩)
theorem g_tupleI [Im α] {m : R (List α)} (h : Gr K E ta σ H H m) : Gr K E (tCB (rTupOf K) (tCons ta tNil)) σ F H (R.bd m fun l => .ok (Tu.mk l)) := fun H1 e Q hq =>
  h H1 e _ (by
    rw [wp_bd] at hq
    refine wp_mono hq (fun xs _ k v H2 e2 r => ?_) fun _ _ z => z
    obtain ⟨p, vs, rfl, hp, hv⟩ := r
    have s2 := mix_same (Same.refl _) (e.trans e2)
    exact ⟨p, vs, rfl, .inl ⟨SqL.of (s2 p _ hp), fun l hl => k _ _ (e2.trans (same_upd hl)) ⟨l, vs, rfl, by rw [mix_new (Same.free (e.trans e2) hl)]; exact upd_same, im_all (fun q ys z => tup_mix (e.trans e2) (same_upd hl) (s2 _ _ z)) hv⟩⟩⟩)
theorem g_tupleTI {m : R (Tu α)} (h : Gr K E ta σ F H m) (hF : Same F H) : Gr K E (tCB (rTupOf K) (tCons ta tNil)) σ F H m := fun H1 e Q hq =>
  h H1 e _ (wp_mono hq (fun xs _ k v H2 e2 r => by
    obtain ⟨p, vs, rfl, hp, hv⟩ := r
    exact ⟨p, vs, rfl, .inr ⟨SqT.of (mix_same hF (e.trans e2) p _ hp), k _ H2 e2 ⟨p, vs, rfl, hp, hv⟩⟩⟩) fun _ _ z => z)
theorem g_cutI [Im α] {tlo thi : TO} {m : R (List α)} {mlo mhi : R (Option Int)} (h : Gr K E ta σ H H m) (hlo : GrO K E tlo σ H mlo) (hhi : GrO K E thi σ H mhi) :
    Gr K E (tSl (rSlL K) ta tlo thi) σ F H (R.bd m fun xs => R.bd mlo fun lo => R.bd mhi fun hi => .ok (cut xs lo hi)) := fun H1 e Q hq =>
  gr_arg h e hq fun xs v H2 e2 r hq2 => gro_seq hlo (e.trans e2) hq2 fun lo H3 e3 hq3 => gro_seq hhi (e.trans (e2.trans e3)) hq3 fun hi H4 e4 hq4 => by
    obtain ⟨p, vs, rfl, hp, hv⟩ := r
    exact ⟨p, vs, rfl, SqL.of (e4 p _ (e3 p _ hp)), fun l hl => hq4 _ _ (same_upd hl) (reps_atI (Same.refl _) (e.trans e2) ((e3.trans e4).trans (same_upd hl)) (by rw [mix_new (Same.free (e.trans (e2.trans (e3.trans e4))) hl)]; exact upd_same) (all2_cut hv))⟩
theorem g_catI [Im α] {ma mb : R (List α)} (ha : Gr K E ta σ H H ma) (hb : Gr K E tb σ H H mb) : Gr K E (tOp rCat ta tb) σ F H (R.bd ma fun a => R.bd mb fun b => gd (a.length + b.length ≤ lim) (.ok (a ++ b))) := fun H1 e Q hq =>
  gr_arg ha e hq fun a v H2 e2 r hq2 => gr_arg hb (e.trans e2) hq2 fun b w H3 e3 r3 hq3 => by
    obtain ⟨p, vs, rfl, hp, hv⟩ := r
    obtain ⟨q, ws, rfl, hq', hw⟩ := r3
    unfold gd at hq3
    split at hq3
    · rename_i c
      refine ⟨p, q, vs, ws, rfl, rfl, e3 p _ hp, hq', lim_line (by rw [hv.length, hw.length]; exact c), fun l hl => hq3 _ _ (same_upd hl) (reps_atI (G := H3) (Same.refl _) (e.trans (e2.trans e3)) (same_upd hl) (by rw [mix_new (Same.free (e.trans (e2.trans e3)) hl)]; exact upd_same) ((hv.mono fun _ _ x => Rp.mono e3 x).append hw))⟩
    · exact hq3.elim
theorem g_repI [Im α] {ma : R (List α)} {mb : R Int} (ha : Gr K E ta σ H H ma) (hb : Gr K E tb σ H H mb) : Gr K E (tOp rRep ta tb) σ F H (R.bd ma fun a => R.bd mb fun b => repR a b) := fun H1 e Q hq =>
  gr_arg ha e hq fun a v H2 e2 r hq2 => gr_arg hb (e.trans e2) hq2 fun b w H3 e3 r3 hq3 => by
    obtain ⟨p, vs, rfl, hp, hv⟩ := r
    have r3' : w = .int b := r3
    subst r3'
    unfold repR gd at hq3
    split at hq3
    · rename_i c
      refine ⟨p, b, vs, rfl, rfl, e3 p _ hp, by omega, by omega, lim_line (by rw [hv.length]; exact c.2.2), fun l hl => hq3 _ _ (same_upd hl) (reps_atI (G := H2) (Same.refl _) (e.trans e2) (e3.trans (same_upd hl)) (by rw [mix_new (Same.free (e.trans (e2.trans e3)) hl)]; exact upd_same) (all2_rep hv _))⟩
    · exact hq3.elim
theorem g_listRevI [Im α] {m : R (List α)} (h : Gr K E te σ H H m) : Gr K E (tListRev K te) σ F H (R.bd m fun xs => .ok xs.reverse) := fun H1 e Q hq =>
  h H1 e _ (by
    rw [wp_bd] at hq
    refine wp_mono hq (fun xs _ k v H2 e2 r => ?_) fun _ _ z => z
    obtain ⟨p, vs, rfl, hp, hv⟩ := r
    have s2 := mix_same (Same.refl _) (e.trans e2)
    exact ⟨p, vs, rfl, SqL.of (s2 p _ hp), fun l hl => k _ _ (e2.trans (same_upd hl)) (reps_atI s2 (e.trans e2) (same_upd hl) (by rw [mix_new (Same.free (e.trans e2) hl)]; exact upd_same) hv.reverse)⟩)
/-- a comprehension that tells such, over anything -/
theorem g_compI [Im β] {wi : TI} {g : TG} {tt : TT} {te : TE} {vs : List Nat} {m : R (List α)} {cf : α → R Bool} {f : α → R β} (hi : GrI K E wi σ H H m)
    (hel : ∀ x v F2 H2, Same H F2 → Same F2 H2 → Same H H2 → Rp.rep K F2 v x → ∃ σ2, (∀ Q : L2.St → Hp → Prop, Q σ2 H2 → g v (wipe σ vs) H2 Q) ∧ wipe σ2 vs = wipe σ vs ∧ GrT K EF tt σ2 H2 (cf x) ∧ Gr K EF te σ2 F2 H2 (f x)) :
    Gr K E (tLc wi g tt te vs) σ F H (R.bd m fun xs => compR xs cf f) := g_compG (fun H3 Dl acc ys h => im_all (fun p xs q => by
      rcases mix_cases (del_le _ _ q) with ⟨z, h⟩ | ⟨z, t⟩ | ⟨y, z, t, h⟩
      · rw [mix_new z]; exact h
      · exact mix_tup z t
      · rw [z] at h
        cases h
        cases t) h) hi (Same.refl _) hel
/-! ### lists of such that become ours -/
theorem Own.repI [Im α] {p : Addr} {xs : List α} (o : Own K H0 b F H p xs) (hF : Same F H) : Rp.rep K (dif H0 H) (.ref p) xs := by
  obtain ⟨h0, f, vs, h, r⟩ := o.lst
  exact ⟨p, vs, rfl, dif_of h0 h, im_all (fun q ys z => dif_tup rfl ((bs_le.trans hF) _ _ z)) r⟩
theorem Own.frzI [Im α] {p : Addr} {xs : List α} (o : Own K H0 b F H p xs) (hF : Same F H) : ∃ F', Same F F' ∧ Same F' H ∧ (∀ q, q ≠ p → F' q = F q) ∧ Rp.rep K (dif H0 F') (.ref p) xs := by
  obtain ⟨F', h1, h2, h3, h4, h5⟩ := o.frz hF
  obtain ⟨q, vs, e, h, r⟩ := h4
  cases e
  exact ⟨F', h1, h2, h3, p, vs, rfl, dif_of o.h0 h, im_all (fun q ys z => dif_tup rfl z) r⟩
/-- what is told is new, its one object becomes ours -/
theorem s_asgC {τ : Type} [Rp τ] [Cel τ] {i : Nat} {m : R τ} {k : τ → R β} {kk : β → Prop} (he : Gr K E te σ nil0 H m) (hF : Same F H) (e0 : Same H0 H)
    (hc : ∀ {H2 : Hp} {v : V} {a : τ}, Same H H2 → Rp.rep K (mix nil0 H H2) v a → ∃ p o, v = .ref p ∧ H p = none ∧ H2 p = some o ∧ tupB (some o) = false ∧ Cel.cel K (Bs H0 (delH (mix F H H2) p) b) o a)
    (hQ : Wp (R.bd m k) kk (EE K E H0))
    (c : ∀ a p F' H', Nx0 F H F' H' → Same H0 H' → Own K H0 b F' H' p a → (∀ q, (∃ u, H q = some u) → q ≠ p) → Wp (k a) kk (EE K E H0) → D.nx (σ.set i (some (.ref p))) H') : tAsg te (gName i) D σ H := by
  refine he H (Same.refl _) _ ?_
  rw [wp_bd] at hQ
  refine wp_mono hQ (fun a _ q v H2 e2 r => ?_) fun c _ z => z.mono e0
  obtain ⟨p, o, rfl, hn, hp2, ho, hcel⟩ := hc e2 r
  refine c a p (delH (mix F H H2) p) H2 ⟨fun x o h => ?_, fun x o _ h => e2 x o h, fun x o h => ?_, fun x o z h n => ?_, fun x o h => ⟨o, e2 x o h, rfl⟩⟩ (e0.trans e2) ⟨Same.free e0 hn, delH_same, o, hp2, hcel⟩ (fun z ⟨u, hu⟩ e => by rw [e, hn] at hu; cases hu) q
  · have : x ≠ p := fun z => by
      rw [z] at h
      have := hF p o h
      rw [hn] at this
      cases this
    rw [delH_ne this]
    exact same_mix hF x o h
  · unfold delH at h
    split at h
    · cases h
    · exact mix_same hF e2 x o h
  · unfold delH
    split
    · rfl
    · rw [mix_old h z]
      exact n
theorem tup_bs {H2 : Hp} {p : Addr} (e0 : Same H0 H) (e2 : Same H H2) (hp : ∀ xs, H2 p ≠ some (.tup xs)) : ∀ q ys, mix nil0 H H2 q = some (.tup ys) → Bs H0 (delH (mix F H H2) p) b q = some (.tup ys) := fun q ys z => by
  have h2 := mix_same nil_same e2 _ _ z
  have h3 : delH (mix F H H2) p q = some (.tup ys) := by
    rw [delH_ne (fun w => hp ys (by rw [← w]; exact h2))]
    exact mix_ff nil_same _ _ z
  cases b with
  | true => exact dif_tup rfl h3
  | false => exact h3
theorem lst_new {H2 : Hp} {v : V} {a : List α} [Im α] (e0 : Same H0 H) (e2 : Same H H2) (r : Rp.rep K (mix nil0 H H2) v a) : ∃ p o, v = .ref p ∧ H p = none ∧ H2 p = some o ∧ tupB (some o) = false ∧ Cel.cel K (Bs H0 (delH (mix F H H2) p) b) o a := by
  obtain ⟨p, vs, rfl, hp, hv⟩ := r
  have pn : H p = none ∧ H2 p = some (.lst vs) := by
    rcases mix_cases hp with z | ⟨_, z⟩ | ⟨_, _, _, z⟩
    · exact z
    · cases z
    · cases z
  obtain ⟨hn, hp2⟩ := pn
  exact ⟨p, _, rfl, hn, hp2, rfl, vs, rfl, im_all (tup_bs e0 e2 fun xs z => by rw [hp2] at z; cases z) hv⟩
theorem s_asgI [Im α] {i : Nat} {m : R (List α)} {k : List α → R β} {kk : β → Prop} (he : Gr K E te σ nil0 H m) (hF : Same F H) (e0 : Same H0 H) (hQ : Wp (R.bd m k) kk (EE K E H0))
    (c : ∀ a p F' H', Nx0 F H F' H' → Same H0 H' → Own K H0 b F' H' p a → (∀ q, (∃ u, H q = some u) → q ≠ p) → Wp (k a) kk (EE K E H0) → D.nx (σ.set i (some (.ref p))) H') : tAsg te (gName i) D σ H :=
  s_asgC he hF e0 (fun e2 r => lst_new e0 e2 r) hQ c
end
end G

set_option Elab.async false
set_option linter.all false
set_option maxRecDepth 100000
set_option maxHeartbeats 4000000
/-! G: enumerate of tuples; lists and tuples alike. -/
namespace G
open PySem PySem.Spec PyProof.Rows L2
open Sem (wp)
theorem meets_enum_new {v : Value} {o : Obj} {Hq : Heap → Prop} (B : Begins v o Hq) :
    Meets (Builtin.«enumerate.__new__» ⟨[.type "enumerate", v], []⟩) (fun _ Z s => Hq s.heap ∧ Z (.ok (.ret (.ref (s.heap.push o).objs.size))) { s with heap := (s.heap.push o).push { cls := .type "enumerate", data := .fields #[.none, .bool false, .ref s.heap.objs.size, rawInt 0, .none, .none] } }) :=
  .of_wp fun prog w A Z s hz => by
    obtain ⟨hp, g, d, tk, os⟩ := s; obtain ⟨h1, hz⟩ := hz
    have hsub := sub_enumerate
    have it : ∀ {A' : Around} {E' : Value → Shared → Prop} {Q : Value → Shared → Prop}, Q (.ref hp.objs.size) ⟨hp.push o, g, d, tk, os⟩ → wpAny (model prog w) A' (pyIter v) Q E' ⟨hp, g, d, tk, os⟩ := fun q => B.iter prog w _ _ ⟨hp, g, d, tk, os⟩ _ h1 q
    wp_walk using it
    refine wpAny_stack_any fun st => wpAny_pure ?_
    split
    · rename_i c _ _ _ _ _
      cases (c == Value.type "enumerate")
      all_goals (wp_walk using it; exact ⟨_, rfl, hz⟩)
    · wp_walk using it
      exact ⟨_, rfl, hz⟩
section
variable {prog : Program} {w : World} {A : Around} {E : Value → Shared → Prop} {s : Shared}
theorem call_enum_tup {l : Addr} {items : Array Value} {Q : Value → Shared → Prop} (hL : s.heap.IsTuple l items)
    (k : ∀ h', IsEnum h' (s.heap.objs.size + 1) s.heap.objs.size 0 .none → h'.IsTupleIter s.heap.objs.size l 0 → (∀ b o, s.heap.get? b = some o → h'.get? b = some o) → Q (.ref (s.heap.objs.size + 1)) { s with heap := h' }) :
    wpAny (model prog w) A (call (.type "enumerate") [.ref l]) Q E s := by
  refine callType_new F.called_enumerate (by decide) (F.typeCall_enumerate_1 _) (F.newCall_enumerate_1 _) (fun obj => F.args_object_init_2 obj _) F.entry_enumerate_new (meets_enum_new (begins_tuple l items)) ⟨hL, ?_⟩
  have hz : (s.heap.push { cls := .type "tuple_iterator", data := .fields #[.ref l, .int 0 0] }).objs.size = s.heap.objs.size + 1 := Heap.size_push ..
  show _ ∧ _
  rw [hz]
  have he : IsEnum ((s.heap.push { cls := .type "tuple_iterator", data := .fields #[.ref l, .int 0 0] }).push { cls := .type "enumerate", data := .fields #[.none, .bool false, .ref s.heap.objs.size, rawInt 0, .none, .none] }) (s.heap.objs.size + 1) s.heap.objs.size 0 .none := by
    have q := Heap.get?_push_size (s.heap.push { cls := .type "tuple_iterator", data := .fields #[.ref l, .int 0 0] }) (o := { cls := .type "enumerate", data := .fields #[.none, .bool false, .ref s.heap.objs.size, rawInt 0, .none, .none] }) rfl
    rw [hz] at q
    exact q
  exact ⟨⟨_, he, rfl⟩, k _ he ⟨_, Heap.get?_push_of_some _ (Heap.get?_push_size _ rfl), rfl, rfl⟩ fun b o x => Heap.get?_push_of_some _ (Heap.get?_push_of_some _ x)⟩
end
/-- the turns of enumerate(a tuple) -/
def IteT (K : PySem.W.Frag) (a : Addr) : It :=
  ⟨fun i H => ∃ (xs : List V) (x : V), SqT K H a xs ∧ xs[i]? = some x, fun i H v H' => ∃ T x, v = .ref T ∧ H T = none ∧ H' = upd H T (.tup [.int (i : Nat), x]) ∧ ∀ xs, SqT K H a xs → xs[i]? = some x, fun i H => ∃ xs : List V, SqT K H a xs ∧ xs.length ≤ i⟩
theorem turn_enumT {P : Program} {w : World} {K : PySem.W.Frag} {elts : List Expr} {kk : Nat} {tpos : Pos} (a e it : Addr) :
    Turn P w K (.Tuple elts kk tpos) (IteT K a) [e, it] e (fun i h => (∃ old, IsEnum h e it ((i : Nat) : Int) old) ∧ h.IsTupleIter it a i ∧ e ≠ it ∧ a ≠ e ∧ a ≠ it) where
  mem := by simp
  obj := fun i h st b hb => by
    obtain ⟨⟨old, he⟩, ⟨o, ho, hc, hd⟩, _⟩ := st
    have e' : b = e ∨ b = it := by simpa using hb
    rcases e' with z | z
    · rw [z]; exact ⟨_, he, fun v q => nomatch q⟩
    · rw [z]; exact ⟨o, ho, fun v q => by rw [hd] at q; cases q⟩
  keep := fun i h h' st k => let ⟨⟨old, he⟩, hi, n1, n2, n3⟩ := st; ⟨⟨old, k e (by simp) _ he⟩, hi.at fun o q => k it (by simp) o q, n1, n2, n3⟩
  item := by
    intro X hP hw hK hc i pins s σ H E I hf st hg
    subst hP hw hK
    obtain ⟨⟨old, he⟩, hit, hne, ae, ai⟩ := st
    obtain ⟨xs, x, hq, hx⟩ := hg
    obtain ⟨its, rv, p, hz⟩ := I.tuple hq
    obtain ⟨u, hu, ru⟩ := rv.get hx
    have hel : e < s.heap.objs.size := Heap.lt_size he
    have hil : it < s.heap.objs.size := by obtain ⟨_, q, _⟩ := hit; exact Heap.lt_size q
    have hi : i < its.toArray.size := by rw [List.size_toArray]; exact (List.getElem?_eq_some_iff.mp hu).1
    have hef : e ∉ [it, a] := by simp only [List.mem_cons, List.not_mem_nil, or_false, not_or]; exact ⟨hne, fun z => ae z.symm⟩
    refine wpAny_pyNext_enum_itemD (Draws.tuple (A := X.A.in1) (I.ok.hd hc) it a ai its.toArray) he ⟨hit, p⟩ hi hne hef fun y h' tk hy ho st' hT hsz hk => ?_
    have ey : y = u := by
      have hy' : its[i]? = some y := by simpa using hy
      rw [hu] at hy'
      exact (Option.some.inj hy').symm
    subst ey
    refine ⟨_, rfl, wpAny_letOwnedTupleGo_enum (s := { s with heap := h', toks := tk + 1 }) ho fun h'' he' sb => ?_⟩
    have hT2 : h''.get? s.heap.objs.size = some { cls := .type "tuple", data := .seq #[.int i tk, y] } := (sb.2 _ (Nat.ne_of_gt hel)).trans hT
    have new : ObjOk X.prog X.w (upd H s.heap.objs.size (.tup [.int (i : Nat), x])) h'' s.heap.objs.size (.tup [.int (i : Nat), x]) := ⟨by show 2 ≤ sizeLine; decide, [.int i tk, y], .cons ⟨_, rfl⟩ (.cons ru .nil), ⟨_, hT2, rfl, _, rfl⟩⟩
    have I1 : Inv X pins σ (upd H s.heap.objs.size (.tup [.int (i : Nat), x])) { s with heap := h'', toks := tk + 1 } :=
      I.turnedNew (ch := [e, it]) (fun b ob hb q => (sb.2 b (fun z => hb (by simp [z]))).trans (hk b ob (fun z => hb (by simp [z])) (fun z => hb (by simp [z])) q)) hf (Nat.le_refl _) new
    refine ⟨.ref s.heap.objs.size, _, I1, rfl, ⟨_, x, rfl, I.hok.fresh (Nat.le_refl _), rfl, fun ys hy => by rw [I.tuple_inj hy hq]; exact hx⟩, ⟨⟨y, ?_⟩, st'.1.at fun o q => (sb.2 it (Ne.symm hne)).trans q, hne, ae, ai⟩, fun b hb => ?_⟩
    · rw [show ((i + 1 : Nat) : Int) = (i : Int) + 1 by omega]; exact he'
    · have hb' : b < s.heap.objs.size := by
        have e' : b = e ∨ b = it := by simpa using hb
        rcases e' with z | z
        · rw [z]; exact hel
        · rw [z]; exact hil
      rw [upd_ne (Nat.ne_of_lt hb')]
      exact (hf b hb).1
  done := by
    intro X hP hw hK hc i pins s σ H E I hf st hg
    subst hP hw hK
    obtain ⟨⟨old, he⟩, hit, hne, ae, ai⟩ := st
    obtain ⟨xs, hq, hx⟩ := hg
    obtain ⟨its, rv, p, hz⟩ := I.tuple hq
    obtain ⟨f0, f1, f2, f3, f4, f5⟩ := hf it (by simp)
    have hl := rv.length
    have D := Draws.tuple (prog := X.prog) (w := X.w) (A := X.A.in1) (I.ok.hd hc) it a ai its.toArray
    unfold pyNext
    have hT : s.TypeIs (.ref e) "enumerate" := ⟨_, he, rfl⟩
    refine wpAny_bind (wpAny_attempt (wpAny_callSpecial?_slot (name := Str.ofString "__next__") hT F.slot_enumerate_next (wpAny_call_entry F.slot_enumerate_next hT F.entry_enumerate_next ?_ (F.args_enumerate_next_1 _))))
    show wpAny _ _ (field (.ref e) 2 >>= _) _ _ _
    refine wpAny_bind (wpAny_field he rfl (x := .ref it) rfl ?_)
    refine wpAny_bind (wpAny_nextOf_tuple_end (A := X.A.in1) (I.ok.hd hc) hit (show s.heap.IsTuple a its.toArray from p) (by simp; omega) fun h' x eb hx' => ?_)
    obtain ⟨o, ho, hc⟩ := hx'
    refine wpAny_bind (wpAny_isInstance (T := "StopIteration") (b := true) ⟨o, ho, hc⟩ isSubtype_stop ?_)
    exact wpAny_pure ⟨rfl, I.turned (t' := s.toks) (fun b o hb q => eb b o hb q) f0 f1 f3 f4 f5⟩
  self := fun A i s Q E st h => let ⟨⟨_, he⟩, _⟩ := st; wpAny_pyIter_enum he h
def iEnumA (K : PySem.W.Frag) (ta : TA) : TI := fun σ H R => ta σ H fun vs H1 => ∃ a xs, vs = [.ref a] ∧ ((SqL K H1 a xs ∧ R (Ite K a) H1) ∨ (SqT K H1 a xs ∧ R (IteT K a) H1))
theorem pi_enumA {X : Cx} {e : Expr} {ta : TA} {p pos tpos : Pos} {elts : List Expr} {kk : Nat} (hg : Gl X "enumerate") (hm : X.mg "enumerate" = none) (ha : PA X [e] ta) (hs : starEach [e] X.env = [(false, eval e X.env)] := by rfl) :
    PI X (.Tuple elts kk tpos) (.Call (.Name "enumerate" p) [e] [] pos) (iEnumA X.K ta) := by
  refine ⟨fun pins s σ H R I h => ?_⟩
  refine Call_ (ld_blt I hg hm boot_enumerate (PyProof.Rows.callWith_type1 (thn (ha.run pos pins s σ H _ I h) fun us s1 ⟨vs, H1, I1, r1, q1⟩ => ?_) hs rfl))
  obtain ⟨a, xs, ex, q⟩ := q1
  subst ex
  cases r1 with
  | cons r rr =>
    cases rr
    cases r
    have fp : ∀ b, b = s1.heap.objs.size + 1 ∨ b = s1.heap.objs.size → FpOk X pins H1 b := fun b e' => by
      have hle : s1.heap.objs.size ≤ b := by rcases e' with z | z <;> rw [z] <;> omega
      exact I1.fpOk hle (I1.hok.fresh hle)
    rcases q with ⟨hq, q⟩ | ⟨hq, q⟩
    · obtain ⟨its, rv, p', hz⟩ := I1.list hq
      refine call_enumerate_list p'.isList fun h' he hit hsz hk => wpAny_pyIter_enum he ?_
      have I2 : Inv X pins σ H1 { s1 with heap := h' } := I1.kept (t' := s1.toks) hk
      exact ⟨s1.heap.objs.size + 1, [s1.heap.objs.size + 1, s1.heap.objs.size], _, _, H1, rfl, I2, turn_enum a (s1.heap.objs.size + 1) s1.heap.objs.size, ⟨⟨.none, he⟩, hit, Nat.succ_ne_self _⟩, fun b hb => fp b (by simpa using hb), q⟩
    · obtain ⟨its, rv, p', hz⟩ := I1.tuple hq
      have hlt : a < s1.heap.objs.size := by obtain ⟨o, ho, _⟩ := (show s1.heap.IsTuple a its.toArray from p'); exact Heap.lt_size ho
      refine call_enum_tup p' fun h' he hit hk => wpAny_pyIter_enum he ?_
      have I2 : Inv X pins σ H1 { s1 with heap := h' } := I1.kept (t' := s1.toks) hk
      exact ⟨s1.heap.objs.size + 1, [s1.heap.objs.size + 1, s1.heap.objs.size], _, _, H1, rfl, I2, turn_enumT a (s1.heap.objs.size + 1) s1.heap.objs.size, ⟨⟨.none, he⟩, hit, Nat.succ_ne_self _, Nat.ne_of_lt (Nat.lt_succ_of_lt hlt), Nat.ne_of_lt hlt⟩, fun b hb => fp b (by simpa using hb), q⟩
/-- a list or a tuple -/
structure Sq (α : Type) where
  t : Bool
  l : List α
  deriving DecidableEq
instance {α : Type} [Rp α] : Rp (Sq α) where
  rep K H v s := ∃ p vs, v = .ref p ∧ H p = some (if s.t = true then HO.tup vs else HO.lst vs) ∧ All2 (Rp.rep K H) vs s.l
  mono {K H H' v a} e h := by
    obtain ⟨p, vs, e1, e2, e3⟩ := h
    exact ⟨p, vs, e1, e p _ e2, e3.mono fun _ _ r => Rp.mono e r⟩
theorem sq_cases {α : Type} [Rp α] {K : PySem.W.Frag} {H : Hp} {v : V} {s : Sq α} (h : Rp.rep K H v s) : ∃ p vs, v = .ref p ∧ (H p = some (.lst vs) ∨ H p = some (.tup vs)) ∧ All2 (Rp.rep K H) vs s.l := by
  obtain ⟨p, vs, h1, h2, h3⟩ := h
  refine ⟨p, vs, h1, ?_, h3⟩
  split at h2
  · exact .inr h2
  · exact .inl h2
section
variable {K : PySem.W.Frag} {E : XK} {σ : L2.St} {H0 F H F' H' : Hp} {ta tb te tl : TE} {α β γ : Type} [Rp α] [Rp β] [Rp γ]
theorem g_sqL {m : R (List α)} (h : Gr K E te σ F H m) : Gr K E te σ F H (R.bd m fun l => .ok (Sq.mk false l)) := fun H1 e Q hq =>
  h H1 e Q (by rw [wp_bd] at hq; exact wp_mono hq (fun a _ k v H2 e2 ⟨p, vs, h1, h2, h3⟩ => k v H2 e2 ⟨p, vs, h1, h2, h3⟩) fun _ _ z => z)
theorem g_sqT {m : R (Tu α)} (h : Gr K E te σ F H m) : Gr K E te σ F H (R.bd m fun l => .ok (Sq.mk true l.l)) := fun H1 e Q hq =>
  h H1 e Q (by rw [wp_bd] at hq; exact wp_mono hq (fun a _ k v H2 e2 ⟨p, vs, h1, h2, h3⟩ => k v H2 e2 ⟨p, vs, h1, h2, h3⟩) fun _ _ z => z)
theorem g_lenSq {m : R (Sq α)} (h : Gr K E ta σ F H m) (hF : Same F H) : Gr K E (tCB (rLen K) (tCons ta tNil)) σ F H (R.bd m fun xs => .ok (xs.l.length : Int)) := fun H1 e Q hq =>
  gr_seq h e hq fun xs v H2 e2 r hq2 => by
    obtain ⟨p, vs, rfl, hp, hv⟩ := sq_cases r
    refine ⟨p, vs, rfl, ?_, ?_⟩
    · rcases hp with hp | hp
      · exact .inl (SqL.of (mix_same hF (e.trans e2) p _ hp))
      · exact .inr (SqT.of (mix_same hF (e.trans e2) p _ hp))
    · rw [hv.length]
      exact hq2 _ H2 (Same.refl _) rfl
theorem g_idxSq {ma : R (Sq α)} {mi : R Int} (ha : Gr K E ta σ F H ma) (hi : Gr K E tb σ F H mi) (hF : Same F H) : Gr K E (tOp (rIxA K) ta tb) σ F H (R.bd ma fun a => R.bd mi fun i => idx a.l i) := fun H1 e Q hq =>
  gr_seq ha e hq fun xs v H2 e2 r hq2 => gr_seq hi (e.trans e2) hq2 fun i w H3 e3 r3 hq3 => by
    obtain ⟨p, vs, rfl, hp, hv⟩ := sq_cases r
    have r3' : w = .int i := r3
    subst r3'
    unfold idx at hq3
    cases q : atI xs.l i with
    | none => rw [q] at hq3; exact hq3.elim
    | some a =>
      rw [q] at hq3
      obtain ⟨x, hx, rx⟩ := all2_atI hv q
      have fin := hq3 x H3 (Same.refl _) (Rp.mono (mix_mono e3) rx)
      rcases hp with hp | hp
      · exact .inl ⟨p, vs, i, x, rfl, rfl, SqL.of (e3 p _ (mix_same hF (e.trans e2) p _ hp)), hx, fin⟩
      · exact .inr ⟨p, vs, i, x, rfl, rfl, SqT.of (e3 p _ (mix_same hF (e.trans e2) p _ hp)), hx, fin⟩
theorem g_listSqI [Im α] {m : R (Sq α)} (h : Gr K E ta σ H H m) : Gr K E (tCB (rListOf K) (tCons ta tNil)) σ F H (R.bd m fun t => .ok t.l) := fun H1 e Q hq =>
  h H1 e _ (by
    rw [wp_bd] at hq
    refine wp_mono hq (fun xs _ k v H2 e2 r => ?_) fun _ _ z => z
    obtain ⟨p, vs, rfl, hp, hv⟩ := sq_cases r
    have s2 := mix_same (Same.refl _) (e.trans e2)
    exact ⟨p, vs, rfl, hp.elim (fun hp => .inl (SqL.of (s2 p _ hp))) fun hp => .inr (SqT.of (s2 p _ hp)), fun l hl => k _ _ (e2.trans (same_upd hl)) (reps_atI s2 (e.trans e2) (same_upd hl) (by rw [mix_new (Same.free (e.trans e2) hl)]; exact upd_same) hv)⟩)
theorem g_tupleSqI [Im α] {m : R (Sq α)} (h : Gr K E ta σ H H m) : Gr K E (tCB (rTupOf K) (tCons ta tNil)) σ F H (R.bd m fun t => .ok (Tu.mk t.l)) := fun H1 e Q hq =>
  h H1 e _ (by
    rw [wp_bd] at hq
    refine wp_mono hq (fun xs _ k v H2 e2 r => ?_) fun _ _ z => z
    obtain ⟨p, vs, rfl, hp, hv⟩ := sq_cases r
    have s2 := mix_same (Same.refl _) (e.trans e2)
    have tr : ∀ q ys, mix H H H2 q = some (.tup ys) → ∀ {H3 : Hp}, Same H2 H3 → mix F H H3 q = some (.tup ys) := fun q ys z H3 e3 => tup_mix (e.trans e2) e3 (s2 _ _ z)
    rcases hp with hp | hp
    · exact ⟨p, vs, rfl, .inl ⟨SqL.of (s2 p _ hp), fun l hl => k _ _ (e2.trans (same_upd hl)) ⟨l, vs, rfl, by rw [mix_new (Same.free (e.trans e2) hl)]; exact upd_same, im_all (fun q ys z => tr q ys z (same_upd hl)) hv⟩⟩⟩
    · exact ⟨p, vs, rfl, .inr ⟨SqT.of (s2 p _ hp), k _ H2 e2 ⟨p, vs, rfl, tr _ _ hp (Same.refl _), im_all (fun q ys z => tr q ys z (Same.refl _)) hv⟩⟩⟩)
theorem i_sq {m : R (Sq α)} (h : Gr K E ta σ F H m) (hF : Same F H) : GrI K E (iEnumA K (tCons ta tNil)) σ F H (R.bd m fun xs => .ok (enumL xs.l)) := fun H1 e RR hq =>
  h H1 e _ (by
    rw [wp_bd] at hq
    refine wp_mono hq (fun xs _ k v H2 e2 r => ?_) fun _ _ z => z
    obtain ⟨p, vs, rfl, hp, hv⟩ := sq_cases r
    have end_ : ∀ {i : Nat} {H' H'' : Hp} {x : V}, Same (mix F H H2) H' → i < (enumL xs.l).length → (∃ T y, x = .ref T ∧ H' T = none ∧ H'' = upd H' T (.tup [.int (i : Nat), y]) ∧ vs[i]? = some y) → Same H' H'' ∧ ∃ a, (enumL xs.l)[i]? = some a ∧ Rp.rep K (mix (mix F H H2) H' H'') x a := fun {i H' H'' x} s hi ⟨T, y, ex, hT, eH, hy⟩ => by
      subst ex; subst eH
      obtain ⟨a, ha, ra⟩ := hv.getL hy
      exact ⟨same_upd hT, _, enumL_get ha, T, _, y, rfl, by rw [mix_new hT]; exact upd_same, rfl, Rp.mono (same_mix s) ra⟩
    rcases hp with hp | hp
    · refine ⟨p, vs, rfl, .inl ⟨SqL.of (mix_same hF (e.trans e2) p _ hp), k _ H2 e2 ⟨fun i H' s hi => ?_, fun i H' s hi => ?_, fun i H' x H'' s hi y => ?_⟩⟩⟩
      · rw [enumL_len] at hi
        exact ⟨vs, vs[i]'(by rw [hv.length]; exact hi), SqL.of (s p _ hp), List.getElem?_eq_getElem _⟩
      · rw [enumL_len] at hi
        exact ⟨vs, SqL.of (s p _ hp), by rw [hv.length, hi]; exact Nat.le_refl _⟩
      · obtain ⟨T, z, ex, hT, eH, y⟩ := y
        exact end_ s hi ⟨T, z, ex, hT, eH, y vs (SqL.of (s p _ hp))⟩
    · refine ⟨p, vs, rfl, .inr ⟨SqT.of (mix_same hF (e.trans e2) p _ hp), k _ H2 e2 ⟨fun i H' s hi => ?_, fun i H' s hi => ?_, fun i H' x H'' s hi y => ?_⟩⟩⟩
      · rw [enumL_len] at hi
        exact ⟨vs, vs[i]'(by rw [hv.length]; exact hi), SqT.of (s p _ hp), List.getElem?_eq_getElem _⟩
      · rw [enumL_len] at hi
        exact ⟨vs, SqT.of (s p _ hp), by rw [hv.length, hi]; exact Nat.le_refl _⟩
      · obtain ⟨T, z, ex, hT, eH, y⟩ := y
        exact end_ s hi ⟨T, z, ex, hT, eH, y vs (SqT.of (s p _ hp))⟩)
theorem i_enumTu {m : R (Tu α)} (h : Gr K E ta σ F H m) (hF : Same F H) : GrI K E (iEnumA K (tCons ta tNil)) σ F H (R.bd m fun xs => .ok (enumL xs.l)) := fun H1 e RR hq =>
  i_sq (g_sqT h) hF H1 e RR (by
    rw [wp_bd] at hq
    rw [wp_bd, wp_bd]
    exact wp_mono hq (fun _ _ k => k) fun _ _ z => z)
end
end G

set_option Elab.async false
set_option linter.all false
set_option maxRecDepth 100000
set_option maxHeartbeats 4000000
/-! G: dicts whose keys are tuples of ints. -/
namespace G
open PySem PySem.Spec PyProof.Rows L2
/-- keys and values in the order in which they came -/
structure Dct (β : Type) where
  l : List (List Int × β)
def keyOf (ns : List Int) : List Key := ns.map Sum.inl
theorem keyOf_kV (ns : List Int) : (keyOf ns).map kV = ns.map V.int := by unfold keyOf; rw [List.map_map]; rfl
theorem keyOf_inj {a b : List Int} (h : keyOf a = keyOf b) : a = b := by
  have := congrArg (fun l => l.map fun k : Key => match k with | .inl i => i | .inr _ => 0) h
  simpa [keyOf, List.map_map, Function.comp_def] using this
def getL {β : Type} (l : List (List Int × β)) (k : List Int) : Option β := (l.find? fun e => decide (e.1 = k)).map (·.2)
def putL {β : Type} (l : List (List Int × β)) (k : List Int) (v : β) : List (List Int × β) := if (getL l k).isSome = true then l.map (fun e => if e.1 = k then (e.1, v) else e) else l ++ [(k, v)]
def Dct.get {β : Type} (d : Dct β) (k : Tu Int) : Option β := getL d.l k.l
def Dct.put {β : Type} (d : Dct β) (k : Tu Int) (v : β) : Dct β := ⟨putL d.l k.l v⟩
def Dct.keys {β : Type} (d : Dct β) : List (Tu Int) := d.l.map fun e => Tu.mk e.1
abbrev EntR {β : Type} [Rp β] (K : PySem.W.Frag) (H : Hp) : List Key × V → List Int × β → Prop := fun x e => x.1 = keyOf e.1 ∧ Rp.rep K H x.2 e.2
instance {β : Type} [Rp β] : Rp (Dct β) where
  rep K H v d := ∃ p kvs, v = .ref p ∧ H p = some (.dT kvs) ∧ All2 (EntR K H) kvs d.l
  mono {K H H' v a} e h := by
    obtain ⟨p, kvs, h1, h2, h3⟩ := h
    exact ⟨p, kvs, h1, e p _ h2, h3.mono fun _ _ r => ⟨r.1, Rp.mono e r.2⟩⟩
instance {β : Type} [Rp β] : NN (Dct β) := ⟨fun ⟨_, _, h, _⟩ => by rw [h]; intro q; cases q⟩
instance {β : Type} [Rp β] : Cel (Dct β) := ⟨fun K B o d => ∃ kvs, o = .dT kvs ∧ All2 (EntR K B) kvs d.l, fun ⟨_, h, _⟩ => by rw [h]; rfl, fun e ⟨vs, h, r⟩ => ⟨vs, h, r.mono fun _ _ x => ⟨x.1, Rp.mono e x.2⟩⟩, fun {K H p o x} h ⟨vs, h1, r⟩ => ⟨p, vs, rfl, by rw [h, h1], r⟩⟩
section
variable {K : PySem.W.Frag} {H : Hp} {β : Type} [Rp β]
theorem ent_get (k : List Int) : ∀ {kvs : List (List Key × V)} {l : List (List Int × β)}, All2 (EntR K H) kvs l → (valV kvs (keyOf k)).isSome = (getL l k).isSome ∧ ∀ b, getL l k = some b → ∃ v, valV kvs (keyOf k) = some v ∧ Rp.rep K H v b
  | _, _, .nil => ⟨rfl, fun b h => by cases h⟩
  | x :: kvs, e :: l, .cons r t => by
    obtain ⟨ih1, ih2⟩ := ent_get k t
    by_cases c : e.1 = k
    · have c2 : x.1 = keyOf k := by rw [r.1, c]
      have g : getL (e :: l) k = some e.2 := by unfold getL; rw [List.find?_cons_of_pos (by simpa using c)]; rfl
      rw [valV_pos c2, g]
      exact ⟨rfl, fun b h => ⟨_, rfl, by cases h; exact r.2⟩⟩
    · have c2 : ¬ x.1 = keyOf k := fun z => c (keyOf_inj (by rw [← r.1, z]))
      have g : getL (e :: l) k = getL l k := by unfold getL; rw [List.find?_cons_of_neg (by simpa using c)]
      rw [valV_neg c2, g]
      exact ⟨ih1, ih2⟩
theorem ent_rep {k : List Int} {v : V} {b : β} (rv : Rp.rep K H v b) : ∀ {kvs : List (List Key × V)} {l : List (List Int × β)}, All2 (EntR K H) kvs l → All2 (EntR K H) (kvs.map fun kv => if kv.1 = keyOf k then (kv.1, v) else kv) (l.map fun e => if e.1 = k then (e.1, b) else e)
  | _, _, .nil => .nil
  | x :: kvs, e :: l, .cons r t => by
    rw [List.map_cons, List.map_cons]
    refine .cons ?_ (ent_rep rv t)
    by_cases c : e.1 = k
    · have c2 : x.1 = keyOf k := by rw [r.1, c]
      rw [if_pos c, if_pos c2]
      exact ⟨r.1, rv⟩
    · have c2 : ¬ x.1 = keyOf k := fun z => c (keyOf_inj (by rw [← r.1, z]))
      rw [if_neg c, if_neg c2]
      exact r
theorem ent_put {k : List Int} {v : V} {b : β} (rv : Rp.rep K H v b) {kvs : List (List Key × V)} {l : List (List Int × β)} (h : All2 (EntR K H) kvs l) : All2 (EntR K H) (putK kvs (keyOf k) v) (putL l k b) := by
  unfold putK putL
  rw [valV_any, (ent_get k h).1]
  split
  · exact ent_rep rv h
  · exact h.append (.cons ⟨rfl, rv⟩ .nil)
theorem ent_mono {H' : Hp} (e : Same H H') {kvs : List (List Key × V)} {l : List (List Int × β)} (h : All2 (EntR K H) kvs l) : All2 (EntR K H') kvs l := h.mono fun _ _ r => ⟨r.1, Rp.mono e r.2⟩
theorem ent_keys {H2 : Hp} : ∀ {kvs : List (List Key × V)} {l : List (List Int × β)} {bs : List Addr}, All2 (EntR K H) kvs l → IsKeys H2 kvs bs → All2 (fun b (ns : List Int) => H2 b = some (.tup (ns.map V.int))) bs (l.map Prod.fst)
  | _, _, _, .nil, h => by cases h; exact .nil
  | _, _, _, .cons r t, h => by
    cases h with
    | cons h1 h2 =>
      refine .cons ?_ (ent_keys t h2)
      rw [h1, r.1, keyOf_kV]
end
def getR {β : Type} (d : Dct β) (k : Tu Int) : R β := match d.get k with
  | some b => .ok b
  | none => .bad
noncomputable def putR {β : Type} (d : Dct β) (k : Tu Int) (v : β) : R (Dct β) := gd (d.l.length < lim) (.ok (d.put k v))
/-- {k: v}, the key a tuple -/
def tDisp1 (tk tv : TE) : TE := fun σ H Q => ∀ p, H p = none → tk σ (upd H p (.dT [])) fun x H1 => tv σ H1 fun y H2 => H2 p = some (.dT []) ∧ ∃ b ks, x = .ref b ∧ H2 b = some (.tup (ks.map kV)) ∧ Q (.ref p) (upd H2 p (.dT [(ks, y)]))
theorem pe_disp1 {X : Cx} {pos : Pos} {k v : Expr} {tk tv : TE} (hu : X.A.units + 1 < cLine) (hk : PE X k tk) (hv : PE X v tv) : PE X (.Dict [some k] [v] pos) (tDisp1 tk tv) := by
  refine ⟨fun pins s σ H Q I q => ?_⟩
  have hn := I.hok.fresh (Nat.le_refl s.heap.objs.size)
  have I1 := I.laid (a := s.heap.objs.size) (o := .dT []) (h' := s.heap.push { cls := .type "dict", data := .dict #[] }) (t' := s.toks) (fun _ _ q => Heap.get?_push_of_some _ q) (Nat.le_refl _) (dt_empty s.heap I.big)
  rw [arm_eval_Dict, zip_pairTrees [some k] [v] X.env pos rfl rfl, dictDisplay_pairs (pairTrees [some k] [v] X.env pos) (by simp [pairTrees]) (by simp [pairTrees])]
  refine wpAny_bind (wpAny_standAt (wpAny_bind (wpAny_subDictH (knd := tupleKind (mixKind X.prog X.w)) (Q := fun d s' => wpAny (model X.prog X.w) X.A (pure (Value.ref d)) (EP X pins σ Q) X.xe s') (show X.A.units < cLine by omega) (by simp [pairTrees]) ?_)))
  refine pairTrees_cons_walk (thn (hk.run pins _ σ _ _ I1 (q _ hn)) fun u s1 ⟨x, H1, I2, rx, q1⟩ => thn (hv.run pins s1 σ H1 _ I2 q1) fun w2 s2 ⟨y, H2, I3, ry, e, b, ks, ex, hb, q2⟩ => ?_)
  subst ex
  obtain rfl : u = Value.ref b := rx
  refine pairTrees_nil_walk ?_
  obtain ⟨z, hd, xs, rel, dd⟩ := dt_of I3.hok e
  cases rel
  refine ⟨[(ks, b, w2)], ⟨rfl, rfl, key_of I3.hok hb, trivial⟩, dd, fun h' tk dd' hs => wpAny_pure ⟨.ref s.heap.objs.size, _, ?_, rfl, q2⟩⟩
  obtain ⟨q, es, ep, hq, h2, h3, h4, _, h5⟩ := dd'
  refine d_write (t' := tk) I3 (by rw [e]; exact True.intro) hs ⟨q, hq⟩ ⟨by show 1 ≤ sizeLine; decide, hd, _, Paired.cons ⟨rfl, ?_, ry⟩ .nil, q, es, ep, hq, h2, h3, h4, h5⟩
  rw [upd_ne (ne_of hb e (fun z => nomatch z))]
  exact hb
section
variable {K : PySem.W.Frag} {E : XK} {σ : L2.St} {H0 F H F' H' : Hp} {ta tb te tl to ti tk tv td : TE} {t u : TT} {α β γ δ ρ : Type} [Rp α] [Rp β] [Rp γ] [Rp δ] [Rp ρ] {D : Ends} {b : Bool}
theorem g_dnew : Gr K E tDNewT σ F H (.ok (Dct.mk ([] : List (List Int × β)))) := fun H1 e Q hq p hp => hq _ _ (same_upd hp) ⟨p, [], rfl, by rw [mix_new (Same.free e hp)]; exact upd_same, .nil⟩
theorem g_disp1 [Im β] {mk : R (Tu Int)} {mv : R β} (hk : Gr K E tk σ H H mk) (hv : Gr K E tv σ H H mv) : Gr K E (tDisp1 tk tv) σ F H (R.bd mk fun k => R.bd mv fun v => .ok (Dct.mk [(k.l, v)])) := fun H1 e Q hq p hp => by
  have e1 : Same H (upd H1 p (.dT [])) := e.trans (same_upd hp)
  refine hk _ e1 _ ?_
  rw [wp_bd] at hq
  refine wp_mono hq (fun k _ kk x H2 e2 rk => ?_) fun c _ z => z.mono (same_upd hp)
  obtain ⟨b, vs, rfl, hb, hw⟩ := rk
  have h2 := rep_ints hw
  subst h2
  have hb2 := mix_same (Same.refl _) (e1.trans e2) _ _ hb
  refine hv H2 (e1.trans e2) _ ?_
  rw [wp_bd] at kk
  refine wp_mono kk (fun v _ kv y H3 e3 rv => ?_) fun c _ z => z.mono ((same_upd hp).trans e2)
  have hp3 : H3 p = some (.dT []) := e3 _ _ (e2 _ _ upd_same)
  refine ⟨hp3, b, keyOf k.l, rfl, by rw [keyOf_kV]; exact e3 _ _ hb2, ?_⟩
  have hn : H p = none := Same.free e hp
  have s3 : Same H1 (upd H3 p (.dT [(keyOf k.l, y)])) := fun a o h => by
    have ne : a ≠ p := fun z => by rw [z, hp] at h; cases h
    rw [upd_ne ne]
    exact e3 _ _ (e2 _ _ (same_upd hp _ _ h))
  refine kv _ _ s3 ⟨p, _, rfl, by rw [mix_new hn]; exact upd_same, .cons ⟨rfl, Im.mv (fun q ys z => ?_) rv⟩ .nil⟩
  have z3 := mix_same (Same.refl _) ((e1.trans e2).trans e3) _ _ z
  have s4 : Same H (upd H3 p (.dT [(keyOf k.l, y)])) := e.trans s3
  cases w : H q with
  | none =>
    rw [mix_new w]
    rw [upd_ne (fun c => by rw [c, hp3] at z3; cases z3)]
    exact z3
  | some u =>
    have := ((e1.trans e2).trans e3) q u w
    rw [z3] at this
    cases this
    exact mix_tup w rfl
theorem g_din {ma : R (Tu Int)} {mb : R (Dct β)} (ha : Gr K E ta σ H H ma) (hb : Gr K E tb σ H H mb) : Gr K E (tDIn ta tb) σ F H (R.bd ma fun k => R.bd mb fun d => .ok (d.get k).isSome) := fun H1 e Q hq =>
  gr_arg ha e hq fun k v H2 e2 r hq2 => gr_arg hb (e.trans e2) hq2 fun d w H3 e3 r3 hq3 => by
    obtain ⟨a, vs, rfl, hp, hw⟩ := r
    have h2 := rep_ints hw
    subst h2
    obtain ⟨p, kvs, rfl, hd, hv⟩ := r3
    refine ⟨p, _, rfl, DGet.t (k := keyOf k.l) hd (by rw [keyOf_kV]; exact e3 _ _ hp), ?_⟩
    rw [(ent_get k.l hv).1]
    exact hq3 _ H3 (Same.refl _) rfl
theorem g_dnotin {ma : R (Tu Int)} {mb : R (Dct β)} (ha : Gr K E ta σ H H ma) (hb : Gr K E tb σ H H mb) : Gr K E (tDNotIn ta tb) σ F H (R.bd ma fun k => R.bd mb fun d => .ok (!(d.get k).isSome)) := fun H1 e Q hq =>
  gr_arg ha e hq fun k v H2 e2 r hq2 => gr_arg hb (e.trans e2) hq2 fun d w H3 e3 r3 hq3 => by
    obtain ⟨a, vs, rfl, hp, hw⟩ := r
    have h2 := rep_ints hw
    subst h2
    obtain ⟨p, kvs, rfl, hd, hv⟩ := r3
    refine ⟨p, _, rfl, DGet.t (k := keyOf k.l) hd (by rw [keyOf_kV]; exact e3 _ _ hp), ?_⟩
    rw [(ent_get k.l hv).1]
    exact hq3 _ H3 (Same.refl _) rfl
theorem g_dget {ma : R (Tu Int)} {mb : R (Dct β)} (hb : Gr K E tb σ F H mb) (ha : Gr K E ta σ H H ma) (hF : Same F H) : Gr K E (tDGet tb ta) σ F H (R.bd mb fun d => R.bd ma fun k => getR d k) := fun H1 e Q hq =>
  gr_seq hb e hq fun d w H2 e2 r hq2 => gr_arg ha (e.trans e2) hq2 fun k v H3 e3 r3 hq3 => by
    obtain ⟨a, vs, rfl, hp, hw⟩ := r3
    have h2 := rep_ints hw
    subst h2
    obtain ⟨p, kvs, rfl, hd, hv⟩ := r
    unfold getR Dct.get at hq3
    cases q : getL d.l k.l with
    | none => rw [q] at hq3; exact hq3.elim
    | some x =>
      rw [q] at hq3
      obtain ⟨z, h1, h2⟩ := (ent_get k.l hv).2 x q
      refine ⟨p, z, rfl, ?_, hq3 z H3 (Same.refl _) (Rp.mono (mix_mono e3) h2)⟩
      rw [← h1]
      exact DGet.t (e3 _ _ (mix_same hF (e.trans e2) _ _ hd)) (by rw [keyOf_kV]; exact hp)
theorem g_dlen {m : R (Dct β)} (h : Gr K E ta σ F H m) (hF : Same F H) : Gr K E (tCB rLenT (tCons ta tNil)) σ F H (R.bd m fun d => .ok (d.l.length : Int)) := fun H1 e Q hq =>
  gr_seq h e hq fun d v H2 e2 r hq2 => by
    obtain ⟨p, kvs, rfl, hd, hv⟩ := r
    refine ⟨p, kvs, rfl, mix_same hF (e.trans e2) _ _ hd, ?_⟩
    rw [hv.length]
    exact hq2 _ H2 (Same.refl _) rfl
/-- d[k] = v, d ours -/
theorem s_dput {p : Addr} {d : Dct α} {m : R α} {mk : R (Tu Int)} {k : Dct α → R β} {kk : β → Prop} (ha : At to σ H p) (o : Own K H0 b F H p d) (he : Gr K E te σ (Bs H0 F b) H m) (hi : Gr K E ti σ H H mk) (hF : Same F H) (e0 : Same H0 H)
    (hQ : Wp (R.bd (R.bd m fun a => R.bd mk fun i => putR d i a) k) kk (EE K E H0))
    (c : ∀ d' F' H', Nx (fun q => q = p) F H F' H' → Same H0 H' → Own K H0 b F' H' p d' → Wp (k d') kk (EE K E H0) → D.nx σ H') : sDPut to ti te D σ H := by
  obtain ⟨h0, f, _, hp, kvs, rfl, r⟩ := o
  refine he H (Same.refl _) _ ?_
  rw [bd_assoc, wp_bd] at hQ
  refine wp_mono hQ (fun a _ q v H2 e2 rv => ?_) fun c _ z => z.mono e0
  refine ha H2 e2 _ ?_
  refine hi H2 e2 _ ?_
  rw [bd_assoc, wp_bd] at q
  refine wp_mono q (fun i _ q w H3 e3 ri => ?_) fun c _ z => z.mono (e0.trans e2)
  obtain ⟨bb, vs, rfl, hb, hw⟩ := ri
  have h2 := rep_ints hw
  subst h2
  have e3' := e2.trans e3
  have hb3 := mix_same (Same.refl _) e3' _ _ hb
  unfold putR gd at q
  split at q
  · rename_i cl
    refine ⟨p, _, rfl, DPut.t (k := keyOf i.l) (e3 p _ (e2 p _ hp)) (by rw [keyOf_kV]; exact hb3) (lim_line' (by rw [r.length]; exact cl)), ?_⟩
    exact c _ (mix F H H3) _ (nx_upd hF e3' hp f) (e0_upd e0 e3' h0) ⟨h0, by rw [mix_old hp]; exact f, _, upd_same, _, rfl, ent_put (Rp.mono ((mix_mono e3).trans (bs_mix e0 hF e3')) rv) (ent_mono (bs_ff (same_mix hF)) r)⟩ q
  · exact q.elim
/-! the keys, sorted -/
theorem reads_ints {h : Heap} : ∀ {ns : List Int} {us : List Value} {as : List Addr}, ReadsAll h us (ns.map PyData.int) as → as = []
  | [], _, _, r => by
    have r' : ReadsAll h _ [] _ := r
    cases r'
    rfl
  | n :: ns, _, _, r => by
    have r' : ReadsAll h _ (PyData.int n :: ns.map PyData.int) _ := r
    cases r' with
    | cons h1 h2 =>
      cases h1
      rw [reads_ints h2]
      rfl
theorem ints_reads {h : Heap} : ∀ {ns : List Int} {us : List Value}, Vals (ns.map V.int) us → ReadsAll h us (ns.map PyData.int) []
  | [], _, r => by
    rw [List.map_nil] at r
    cases r
    exact .nil
  | n :: ns, _, r => by
    rw [List.map_cons] at r
    cases r with
    | cons h1 h2 =>
      obtain ⟨t, rfl⟩ := h1
      exact .cons (.int n t) (ints_reads h2)
abbrev encT (q : Addr × List Int) : PyData := .tuple (q.2.map PyData.int)
def rSortD (K : PySem.W.Frag) : List V → Hp → VK → Prop := fun vs H Q => ∃ (d : Addr) (kvs : List (List Key × V)) (ks : List (List Int)), vs = [V.ref d] ∧ H d = some (.dT kvs) ∧ kvs.map Prod.fst = ks.map keyOf ∧ (∀ k ∈ ks, k ≠ []) ∧
  ∀ l (ps : List (Addr × List Int)), H l = none → ps.map Prod.snd = ks → (∀ q ∈ ps, H q.1 = some (.tup (q.2.map V.int))) → Q (.ref l) (upd H l (.lst ((ps.mergeSort (W.dataLe false encT)).map fun q => V.ref q.1)))
theorem keys_pairs {H : Hp} : ∀ {kvs : List (List Key × V)} {xs : List (List Key × Addr × Value)} {ks : List (List Int)}, KT H kvs xs → kvs.map Prod.fst = ks.map keyOf → ∃ ps : List (Addr × List Int), ps.map Prod.snd = ks ∧ ps.map Prod.fst = xs.map (fun x => x.2.1) ∧ ∀ q ∈ ps, H q.1 = some (.tup (q.2.map V.int))
  | _, _, [], r, e => by
    cases r with
    | nil => exact ⟨[], rfl, rfl, fun q hq => by cases hq⟩
    | cons h t => simp at e
  | _, _, k :: ks, r, e => by
    cases r with
    | nil => simp at e
    | @cons p q ps qs h t =>
      rw [List.map_cons, List.map_cons, List.cons.injEq] at e
      obtain ⟨zs, h1, h2, h3⟩ := keys_pairs t e.2
      refine ⟨(q.2.1, k) :: zs, by simp [h1], by simp [h2], fun z hz => ?_⟩
      rcases List.mem_cons.mp hz with c | c
      · subst c
        have := h.2.1
        rw [e.1, keyOf_kV] at this
        exact this
      · exact h3 z c
theorem each_pairs {pins : List (Addr × Obj)} {X : Cx} {σ : L2.St} {H : Hp} {s : Shared} (I : Inv X pins σ H s) : ∀ (ps : List (Addr × List Int)), (∀ q ∈ ps, H q.1 = some (.tup (q.2.map V.int))) → W.EachIs (fun (v : Value) (q : Addr × List Int) => v = .ref q.1) (ps.map fun q => Value.ref q.1) ps ∧ W.EachIs (fun (v : Value) (q : Addr × List Int) => Reads s.heap v (encT q) []) (ps.map fun q => Value.ref q.1) ps
  | [], _ => ⟨.nil, .nil⟩
  | q :: ps, h => by
    obtain ⟨a, b⟩ := each_pairs I ps fun z hz => h z (List.mem_cons_of_mem _ hz)
    refine ⟨.cons rfl a, .cons ?_ b⟩
    obtain ⟨_, its, r, o, h1, h2, n, h3⟩ := (show ObjOk X.prog X.w H s.heap q.1 (.tup (q.2.map V.int)) from I.hok q.1 _ (h q List.mem_cons_self))
    exact .tuple h1 h2 h3 (by simpa using ints_reads r)
theorem each_refs {ps : List (Addr × List Int)} : ∀ {vs : List Value}, W.EachIs (fun (v : Value) (q : Addr × List Int) => v = .ref q.1) vs ps → vs = ps.map fun q => Value.ref q.1 := by
  induction ps with
  | nil => intro vs h; cases h; rfl
  | cons q ps ih => intro vs h; cases h with
    | cons h1 h2 => rw [h1, ih h2]; rfl
theorem vals_refs2 : ∀ ps : List (Addr × List Int), Vals (ps.map fun q => V.ref q.1) (ps.map fun q => Value.ref q.1)
  | [] => .nil
  | _ :: r => .cons rfl (vals_refs2 r)
theorem cr_sortD {X : Cx} (hc : X.calm = true) (hu : X.A.units + 64 < cLine) : CallR X (.builtin "sorted") (rSortD X.K) := by
  intro pins s σ H vs us Q I r h
  obtain ⟨d, kvs, ks, rfl, hd, hk, hne, q⟩ := h
  rw [Vals.ref1 r]
  obtain ⟨z, hs, ys, pr, o, es, ep, ho, hx, hdt, he, hn⟩ := (show ObjOk X.prog X.w H s.heap d (.dT kvs) from I.hok d _ hd)
  have l1 : es.size = ys.length := size_of_entries he
  have l2 : kvs.length = ys.length := Paired.length pr
  obtain ⟨ps, e1, e2, hps⟩ := keys_pairs pr hk
  have lp : ps.length = ys.length := by rw [← List.length_map (f := Prod.fst), e2, List.length_map]
  refine Calls.call_function_entry kind_sorted plain_sorted entry_sorted (args_sorted1 _) ?_
  unfold Builtin.«sorted»
  refine wpAny_bind (m := checkCount "sorted" 1 1 _) (wpAny_pure ?_)
  refine wpAny_bind (W.kdu_collect (A := X.A.in1) (kdl_raw hs hx hdt) (I.ok.hd hc) ho (by omega) fun h' tk acc kp it => ?_)
  have ea : acc.toList = ps.map fun q => Value.ref q.1 := by
    have hl : acc.toList.length = ys.length := by rw [Array.length_toList, it.1]; exact l1
    apply List.ext_getElem?
    intro j
    rw [List.getElem?_map]
    cases hj : acc.toList[j]? with
    | none => rw [List.getElem?_eq_none (by have := List.getElem?_eq_none_iff.mp hj; omega)]; rfl
    | some v =>
      obtain ⟨en, hen, hv⟩ := it.2 j v (by rw [← Array.getElem?_toList]; exact hj)
      have qe := entry_at he j
      rw [hen] at qe
      have hpj := congrArg (fun l => l[j]?) e2
      simp only [List.getElem?_map] at hpj
      cases hb : ys[j]? with
      | none => rw [hb] at qe; cases qe
      | some b =>
        rw [hb] at qe hpj
        have e3 : en = entryOfKey (tupleKind (mixKind X.prog X.w)) b := Option.some.inj qe
        cases hp : ps[j]? with
        | none => rw [hp] at hpj; cases hpj
        | some p =>
          rw [hp] at hpj
          have e4 : p.1 = b.2.1 := by simpa using hpj
          rw [hv, e3]
          show some (Value.ref b.2.1) = some (Value.ref p.1)
          rw [e4]
  have hz : acc.toList.length ≤ sizeLine := by rw [ea, List.length_map]; omega
  refine wpAny_bind (wpAny_newList ?_ hz)
  have I1 : Inv X pins σ H { s with heap := h', toks := tk } := I.kept (t' := tk) kp
  have hat : (h'.push { cls := .type "list", data := .seq acc.toList.toArray }).get? h'.objs.size = some (seqObj "list" acc.toList.toArray 0) := Heap.get?_push_size _ rfl
  have old : ∀ b o, h'.get? b = some o → (h'.push { cls := .type "list", data := .seq acc.toList.toArray }).get? b = some o := fun b o e => Heap.get?_push_of_some _ e
  have I2 : Inv X pins σ H { s with heap := h'.push { cls := .type "list", data := .seq acc.toList.toArray }, toks := tk } := I1.kept (t' := tk) old
  obtain ⟨ec1, ec2⟩ := each_pairs I2 ps hps
  rw [← ea] at ec1 ec2
  refine wpAny_bind (wpAny_holding (wpAny_mono (W.list_sort_data (A := X.A.in1) (s := { s with heap := h'.push { cls := .type "list", data := .seq acc.toList.toArray }, toks := tk }) (Q := fun _ s' => EP X pins σ Q (.ref h'.objs.size) s') (enc := encT) (bs := ps) hat ec1 (ec2.mono fun _ _ w => ⟨[], w, by simp⟩) (W.AllAlike.of fun b b' => by
    show W.alike (.tuple _) (.tuple _) = true
    simp only [W.alike]
    exact W.alike_ints _ _) (.inl fun dd hdd => ?_) (by omega) (fun b hb => ?_) fun out hlen hE => ?_) (fun v s' w => ?_) fun _ _ e => e))
  · obtain ⟨b, hb, rfl⟩ := List.mem_map.mp hdd
    have : b.2 ≠ [] := hne _ (by rw [← e1]; exact List.mem_map.mpr ⟨b, hb, rfl⟩)
    cases w : b.2 with
    | nil => exact absurd w this
    | cons x l => exact ⟨.int x, l.map PyData.int, by show PyData.tuple (b.2.map PyData.int) = _; rw [w]; rfl⟩
  · show X.A.units + 1 + 1 + (PyData.tuple (b.2.map PyData.int)).depth < cLine
    have := W.depth_ints b.2
    simp only [PyData.depth, this]
    omega
  · have eo := each_refs hE
    obtain ⟨c, hc2⟩ := sortedHeap_at (out := List.toArray out) hat
    have kp2 : ∀ b o, h'.get? b = some o → (sortedHeap (h'.push { cls := .type "list", data := .seq acc.toList.toArray }) h'.objs.size acc.toList (List.toArray out)).get? b = some o := fun b o e => by
      have e3 := old b o e
      have lt : b < h'.objs.size := Heap.lt_size e
      rw [sortedHeap_old (Nat.ne_of_lt lt) (Heap.lt_size e3)]
      exact e3
    refine ⟨.ref h'.objs.size, _, I1.laid (t' := tk) (o := .lst ((ps.mergeSort (W.dataLe false encT)).map fun q => V.ref q.1)) kp2 (Nat.le_refl _) ⟨by rw [List.length_map, List.length_mergeSort]; omega, out, c, ?_, hc2⟩, rfl, q _ ps (I1.hok.fresh (Nat.le_refl _)) e1 hps⟩
    rw [eo]
    exact vals_refs2 _
  · exact wpAny_pure ⟨_, rfl, w⟩
end
section
variable {K : PySem.W.Frag} {E : XK} {σ : L2.St} {H0 F H F' H' : Hp} {ta tb te tl to ti tk tv td : TE} {α β γ δ ρ : Type} [Rp α] [Rp β] [Rp γ] [Rp δ] [Rp ρ] {b : Bool}
/-- the keys in the order of tuples -/
noncomputable def keysR {β : Type} (d : Dct β) : R (List (Tu Int)) := gd (d.l.length ≤ lim ∧ ∀ e ∈ d.l, e.1 ≠ []) (.ok (d.keys.mergeSort fun a b => !Od.lt b a))
theorem dataLe_keys : (W.dataLe false encT) = fun (p q : Addr × List Int) => !Od.lt (Tu.mk q.2) (Tu.mk p.2) := by
  rw [W.dataLe_eq]
  funext p q
  show (!W.dataLt _ _) = _
  rw [← Od.lt_eq (Tu.mk q.2) (Tu.mk p.2)]
  rfl
theorem ent_fst {H : Hp} : ∀ {kvs : List (List Key × V)} {l : List (List Int × β)}, All2 (EntR K H) kvs l → kvs.map Prod.fst = (l.map Prod.fst).map keyOf
  | _, _, .nil => rfl
  | _, _, .cons r t => by rw [List.map_cons, List.map_cons, List.map_cons, r.1, ent_fst t]
theorem g_dsort {m : R (Dct β)} (h : Gr K E te σ H H m) : Gr K E (tCB (rSortD K) (tCons te tNil)) σ F H (R.bd m keysR) := fun H1 e Q hq =>
  gr_arg h e hq fun d v H2 e2 r hq2 => by
    obtain ⟨p, kvs, rfl, hp, hv⟩ := r
    unfold keysR gd at hq2
    split at hq2
    · rename_i c
      refine ⟨p, kvs, d.l.map Prod.fst, rfl, hp, ent_fst hv, fun k hk => ?_, fun l ps hl e1 hps => hq2 _ _ (same_upd hl) ?_⟩
      · obtain ⟨x, hx, rfl⟩ := List.mem_map.mp hk
        exact c.2 x hx
      · have hn : H l = none := Same.free (e.trans e2) hl
        refine ⟨l, _, rfl, by rw [mix_new hn]; exact upd_same, ?_⟩
        have ek : d.keys.mergeSort (fun a b => !Od.lt b a) = (ps.mergeSort (W.dataLe false encT)).map fun q => Tu.mk q.2 := by
          rw [dataLe_keys, List.map_mergeSort (r := fun p q : Addr × List Int => !Od.lt (Tu.mk q.2) (Tu.mk p.2)) (s := fun a b : Tu Int => !Od.lt b a) (f := fun q => Tu.mk q.2) (fun a _ b _ => rfl)]
          congr 1
          show d.l.map (fun e => Tu.mk e.1) = _
          have := congrArg (fun z => z.map (Tu.mk (α := Int))) e1
          simp only [List.map_map] at this
          exact this.symm
        rw [ek]
        have key : ∀ zs : List (Addr × List Int), (∀ q ∈ zs, H2 q.1 = some (.tup (q.2.map V.int))) → All2 (Rp.rep K (mix F H (upd H2 l (.lst ((ps.mergeSort (W.dataLe false encT)).map fun q => V.ref q.1))))) (zs.map fun q => V.ref q.1) (zs.map fun q => Tu.mk q.2) := by
          intro zs
          induction zs with
          | nil => exact fun _ => .nil
          | cons z zs ih =>
            intro hz
            exact .cons ⟨z.1, _, rfl, tup_mix (e.trans e2) (same_upd hl) (hz z List.mem_cons_self), ints_rep _⟩ (ih fun q hq => hz q (List.mem_cons_of_mem _ hq))
        exact key _ fun q hq => hps q ((List.mergeSort_perm _ _).subset hq)
    · exact hq2.elim
/-- list(d) -/
theorem g_dkeys {m : R (Dct β)} (h : Gr K E te σ H H m) : Gr K E (tCB (fun xs H Q => ∃ d kvs, xs = [V.ref d] ∧ Rd H d (.dT kvs) ∧ ∀ p bs, H p = none → IsKeys H kvs bs → Q (.ref p) (upd H p (.lst (bs.map V.ref)))) (tCons te tNil)) σ F H (R.bd m fun d => .ok d.keys) := fun H1 e Q hq =>
  gr_arg h e hq fun d v H2 e2 r hq2 => by
    obtain ⟨p, kvs, rfl, hp, hv⟩ := r
    refine ⟨p, kvs, rfl, .inl hp, fun l bs hl hk => hq2 _ _ (same_upd hl) ?_⟩
    have hn : H l = none := Same.free (e.trans e2) hl
    refine ⟨l, _, rfl, by rw [mix_new hn]; exact upd_same, ?_⟩
    have a := ent_keys hv hk
    show All2 _ (bs.map V.ref) (d.l.map fun e => Tu.mk e.1)
    rw [show d.l.map (fun e => Tu.mk e.1) = (d.l.map Prod.fst).map Tu.mk by rw [List.map_map]; rfl]
    have key : ∀ {bs : List Addr} {ls : List (List Int)}, All2 (fun b ns => H2 b = some (.tup (ns.map V.int))) bs ls → All2 (Rp.rep K (mix F H (upd H2 l (.lst (bs.map V.ref))))) (bs.map V.ref) (ls.map Tu.mk) := by
      intro bs ls h
      have gen : ∀ {o : HO} {bs : List Addr} {ls : List (List Int)}, All2 (fun b ns => H2 b = some (.tup (ns.map V.int))) bs ls → All2 (Rp.rep K (mix F H (upd H2 l o))) (bs.map V.ref) (ls.map Tu.mk) := by
        intro o bs ls h
        induction h with
        | nil => exact .nil
        | cons r t ih => exact .cons ⟨_, _, rfl, tup_mix (e.trans e2) (same_upd hl) r, ints_rep _⟩ ih
      exact gen h
    exact key a
end
theorem cr_sortDK {X : Cx} {K : PySem.W.Frag} (h : X.K = K) (hc : X.calm = true) (hu : X.A.units + 64 < cLine) : CallR X (.builtin "sorted") (rSortD K) := by subst h; exact cr_sortD hc hu
/-- a new dict that becomes ours -/
theorem dct_new {K : PySem.W.Frag} {H0 F H H2 : Hp} {β : Type} [Rp β] [Im β] {b : Bool} {v : V} {a : Dct β} (e0 : Same H0 H) (e2 : Same H H2) (r : Rp.rep K (mix nil0 H H2) v a) : ∃ p o, v = .ref p ∧ H p = none ∧ H2 p = some o ∧ tupB (some o) = false ∧ Cel.cel K (Bs H0 (delH (mix F H H2) p) b) o a := by
  obtain ⟨p, kvs, rfl, hp, hv⟩ := r
  have pn : H p = none ∧ H2 p = some (.dT kvs) := by
    rcases mix_cases hp with z | ⟨_, z⟩ | ⟨_, _, _, z⟩
    · exact z
    · cases z
    · cases z
  obtain ⟨hn, hp2⟩ := pn
  exact ⟨p, _, rfl, hn, hp2, rfl, kvs, rfl, hv.mono fun _ _ z => ⟨z.1, Im.mv (tup_bs e0 e2 fun xs w => by rw [hp2] at w; cases w) z.2⟩⟩
theorem s_asgD {K : PySem.W.Frag} {E : XK} {σ : L2.St} {H0 F H : Hp} {te : TE} {α β : Type} [Rp α] [Rp β] [Im α] {D : Ends} {b : Bool} {i : Nat} {m : R (Dct α)} {k : Dct α → R β} {kk : β → Prop} (he : Gr K E te σ nil0 H m) (hF : Same F H) (e0 : Same H0 H) (hQ : Wp (R.bd m k) kk (EE K E H0))
    (c : ∀ a p F' H', Nx0 F H F' H' → Same H0 H' → Own K H0 b F' H' p a → (∀ q, (∃ u, H q = some u) → q ≠ p) → Wp (k a) kk (EE K E H0) → D.nx (σ.set i (some (.ref p))) H') : tAsg te (gName i) D σ H :=
  s_asgC he hF e0 (fun e2 r => dct_new e0 e2 r) hQ c
end G

set_option Elab.async false
set_option linter.all false
set_option maxRecDepth 100000
set_option maxHeartbeats 4000000
/-! G: what a call has told alone is lent to us: its cells G are nobody else's, and it may be changed once. -/
namespace G
open PySem PySem.Spec PyProof.Rows L2
structure Lent {α : Type} [Rp α] (K : PySem.W.Frag) (H0 F H G : Hp) (v : V) (a : α) : Prop where
  rep : Rp.rep K G v a
  gh : Same G H
  gf : ∀ q o, tupB (some o) = false → G q = some o → F q = none ∧ H0 q = none
section
variable {K : PySem.W.Frag} {E : XK} {σ : L2.St} {H0 F H F' H' G G2 : Hp} {ta tb te tl to ti : TE} {α β γ δ ρ S : Type} [Rp α] [Rp β] [Rp γ] [Rp δ] [Rp ρ] {D : Ends} {b : Bool} {P : Addr → Prop} {v : V} {a : α}
theorem Lent.see (l : Lent K H0 F H G v a) : Rp.rep K H v a := Rp.mono l.gh l.rep
theorem Lent.nx (l : Lent K H0 F H G v a) (n : Nx P F H F' H') (hp : ∀ q, P q → G q = none) : Lent K H0 F' H' G v a :=
  ⟨l.rep, fun q o h => n.hh q o (fun z => by rw [hp q z] at h; cases h) (l.gh q o h), fun q o z h => ⟨n.own q o z (l.gh q o h) (l.gf q o z h).1, (l.gf q o z h).2⟩⟩
theorem Lent.nx0 (l : Lent K H0 F H G v a) (n : Nx0 F H F' H') : Lent K H0 F' H' G v a := l.nx n fun _ z => z.elim
theorem Lent.fz {F1 : Hp} {p : Addr} (l : Lent K H0 F H G v a) (f : ∀ q, q ≠ p → F1 q = F q) (hp : G p = none) : Lent K H0 F1 H G v a :=
  ⟨l.rep, l.gh, fun q o z h => ⟨by rw [f q (fun w => by rw [w, hp] at h; cases h)]; exact (l.gf q o z h).1, (l.gf q o z h).2⟩⟩
theorem Lent.new {p : Addr} (l : Lent K H0 F H G v a) (nw : ∀ q, (∃ u, H q = some u) → q ≠ p) : G p = none := by
  cases q : G p with
  | none => rfl
  | some u => exact absurd rfl (nw p ⟨u, l.gh p u q⟩)
theorem Lent.none {p : Addr} (l : Lent K H0 F H G v a) (h : H p = none) : G p = none := by
  cases q : G p with
  | none => rfl
  | some u => rw [l.gh p u q] at h; cases h
theorem own_nl {τ : Type} [Rp τ] [Cel τ] {p : Addr} {x : τ} (o : Own K H0 b F H p x) (h : ∀ q u, H q = some u → tupB (some u) = false → G q = none) : G p = none := by
  obtain ⟨_, _, u, h1, r⟩ := o
  exact h p u h1 (Cel.nt r)
/-- what is told is lent -/
theorem s_asgT {i : Nat} {m : R α} {k : α → R β} {kk : β → Prop} (he : Gr K E te σ nil0 H m) (hF : Same F H) (e0 : Same H0 H) (hQ : Wp (R.bd m k) kk (EE K E H0))
    (c : ∀ a v F' H' G, Nx0 F H F' H' → Same H0 H' → Lent K H0 F' H' G v a → (∀ q u, H q = some u → tupB (some u) = false → G q = none) → Wp (k a) kk (EE K E H0) → D.nx (σ.set i (some v)) H') : tAsg te (gName i) D σ H := by
  refine he H (Same.refl _) _ ?_
  rw [wp_bd] at hQ
  refine wp_mono hQ (fun a _ q v H2 e2 r => ?_) fun c _ z => z.mono e0
  have key : ∀ x o, H x = some o → tupB (some o) = false → mix nil0 H H2 x = none := fun x o h z => by rw [mix_old h z]
  refine c a v F H2 (mix nil0 H H2) ⟨Same.refl _, fun x o _ h => e2 x o h, hF.trans e2, fun _ _ _ _ n => n, fun x o h => ⟨o, e2 x o h, rfl⟩⟩ (e0.trans e2) ⟨r, mix_same nil_same e2, fun x o z h => ?_⟩ key q
  have hn : H x = none := by
    rcases mix_cases h with ⟨z, _⟩ | ⟨_, w⟩ | ⟨_, _, _, w⟩
    · exact z
    · rw [z] at w; cases w
    · cases w
  exact ⟨Same.free hF hn, Same.free e0 hn⟩
theorem nx_del {H2 : Hp} {p : Addr} {vs ws : List V} (hF : Same F H) (e2 : Same H H2) (hp : H2 p = some (.lst vs)) (hf : F p = none) : Nx (fun q => q = p) F H (delH (mix F H H2) p) (upd H2 p (.lst ws)) :=
  ⟨fun x o h => by
    have : x ≠ p := fun z => by rw [z, hf] at h; cases h
    rw [delH_ne this]
    exact same_mix hF x o h, fun x o n h => by rw [upd_ne n]; exact e2 x o h, fun x o h => by
    unfold delH at h
    split at h
    · cases h
    · rename_i c
      rw [upd_ne (by simpa using c)]
      exact mix_same hF e2 x o h, fun x o z h n => by
    unfold delH
    split
    · rfl
    · rw [mix_old h z]; exact n, fun x u h => by
    by_cases c : x = p
    · have h2 := e2 x u h
      rw [c, hp] at h2
      cases h2
      exact ⟨.lst ws, by rw [c]; exact upd_same, rfl⟩
    · rw [upd_ne c]; exact ⟨_, e2 x u h, rfl⟩⟩
/-- x.append(e), x lent or a part of it: afterwards it is gone -/
theorem s_appDie {γ : Type} [Rp γ] {ε : Type} [Rp ε] {m : R (List γ)} {me : R δ} {k : Unit → R β} {kk : β → Prop} {a0 : ε} (l : Lent K H0 F H G v a0) (ht : Gr K E to σ G H m) (he : Gr K E te σ H H me) (hF : Same F H) (e0 : Same H0 H)
    (hQ : Wp (R.bd (R.bd m fun xs => R.bd me fun _ => gd (xs.length < lim) (.ok ())) k) kk (EE K E H0))
    (c : ∀ p F' H', Nx (fun q => q = p) F H F' H' → Same H0 H' → (∀ q, G q = none → (∃ u, H q = some u) → q ≠ p) → Wp (k ()) kk (EE K E H0) → D.nx σ H') : tDrop (tBM K "list" rAppend to (tCons te tNil)) D σ H := by
  refine ht H (Same.refl _) _ ?_
  rw [bd_assoc, wp_bd] at hQ
  refine wp_mono hQ (fun xs _ q v1 H2 e2 r => ?_) fun c _ z => z.mono e0
  obtain ⟨p, vs, rfl, hp, hv⟩ := r
  have hg : (H p = none ∧ G p = none) ∨ G p = some (.lst vs) := by
    rcases mix_cases hp with ⟨z, _⟩ | ⟨_, w⟩ | ⟨_, _, _, w⟩
    · exact .inl ⟨z, l.none z⟩
    · cases w
    · exact .inr w
  have hp2 := mix_same l.gh e2 _ _ hp
  have hf : F p = none := hg.elim (fun z => Same.free hF z.1) fun z => (l.gf p _ rfl z).1
  have h0 : H0 p = none := hg.elim (fun z => Same.free e0 z.1) fun z => (l.gf p _ rfl z).2
  refine ⟨.inl ⟨rfl, _, SqL.of hp2⟩, ?_⟩
  refine he H2 e2 _ ?_
  rw [bd_assoc, wp_bd] at q
  refine wp_mono q (fun a _ q w H3 e3 rv => ?_) fun c _ z => z.mono (e0.trans e2)
  unfold gd at q
  split at q
  · rename_i cl
    refine ⟨p, vs, w, rfl, rfl, e3 p _ hp2, lim_line' (by rw [hv.length]; exact cl), ?_⟩
    exact c p _ _ (nx_del hF (e2.trans e3) (e3 p _ hp2) hf) (e0_upd e0 (e2.trans e3) h0) (fun x z ⟨u, hu⟩ w => by
      rw [w] at z hu
      rcases hg with y | y
      · rw [y.1] at hu; cases hu
      · rw [y] at z; cases z) q
  · exact q.elim
end
section
variable {K : PySem.W.Frag} {H0 F H : Hp} {b : Bool} {β : Type} [Rp β]
theorem rep_some {γ : Type} [Rp γ] [NN γ] {v : V} {a : γ} (r : Rp.rep K F v a) : Rp.rep K F v (some a) := ⟨NN.nn r, r⟩
theorem u1 {k : Nat} {A : Around} (r : Room k A) : A.units + 1 < cLine := by have := r.un; omega
theorem Own.repD [Im β] {p : Addr} {d : Dct β} (o : Own K H0 b F H p d) (hF : Same F H) : Rp.rep K (dif H0 H) (.ref p) d := by
  obtain ⟨h0, f, u, h, kvs, hu, r⟩ := o
  subst hu
  exact ⟨p, kvs, rfl, dif_of h0 h, r.mono fun _ _ z => ⟨z.1, Im.mv (fun q ys z => dif_tup rfl ((bs_le.trans hF) _ _ z)) z.2⟩⟩
theorem Own.frzD [Im β] {p : Addr} {d : Dct β} (o : Own K H0 b F H p d) (hF : Same F H) : ∃ F', Same F F' ∧ Same F' H ∧ (∀ q, q ≠ p → F' q = F q) ∧ Rp.rep K (dif H0 F') (.ref p) d := by
  obtain ⟨F', h1, h2, h3, h4, h5⟩ := o.frz hF
  obtain ⟨q, kvs, e, h, r⟩ := h4
  cases e
  exact ⟨F', h1, h2, h3, p, kvs, rfl, dif_of o.h0 h, r.mono fun _ _ z => ⟨z.1, Im.mv (fun q ys z => dif_tup rfl z) z.2⟩⟩
end
end G

set_option Elab.async false
set_option linter.all false
set_option maxRecDepth 100000
set_option maxHeartbeats 4000000
/-! G: max with a default; pop at a place; pop within an expression. -/
namespace G
open PySem PySem.Spec PyProof.Rows L2
/-! ### max(.., default=) -/
def maxDf (xs : List Int) (d : Int) : Int := match xs with
  | [] => d
  | x :: l => l.foldl (fun a y => if a < y then y else a) x
def rMaxDf (K : PySem.W.Frag) : List V → List V → Hp → VK → Prop := fun vs zs H Q => ∃ (a : Addr) (ns : List Int) (d : Int), vs = [V.ref a] ∧ zs = [V.int d] ∧ SqL K H a (ns.map V.int) ∧ Q (.int (maxDf ns d)) H
theorem cr_maxDf {X : Cx} (hc : X.calm = true) (hu : X.A.units + 64 < cLine) : CallRK X (.builtin "max") [Str.ofString "default"] (rMaxDf X.K) := by
  intro pins s σ H vs zs us ws Q I r r2 h
  obtain ⟨a, ns, d, rfl, rfl, hs, q⟩ := h
  obtain ⟨its, rv, hl, hz⟩ := I.list hs
  rw [Vals.ref1 r]
  cases r2 with
  | cons r3 r4 =>
    cases r4
    obtain ⟨t, rfl⟩ := r3
    show wpAny _ _ (call (.builtin "max") [.ref a] [(Str.ofString "default", .int d t)]) _ _ _
    refine W.max_list_datum_default (α := Int) (xs := ns) (I.ok.hd hc) hl.isList (vs := its.toArray) ⟨[], by
      show ReadsAll s.heap its.toArray.toList (ns.map PyData.int) []
      rw [List.toList_toArray]
      exact ints_reads rv⟩ (by show X.A.units + 1 + 0 < cLine; omega) (fun e h' tk hk => ?_) fun y ys i v h' tk e hi hv hk => ?_
    · subst e
      exact ⟨.int d, H, I.kept hk, ⟨t, rfl⟩, q⟩
    · subst e
      obtain ⟨bs, hR⟩ := hv
      have hR' : Reads h' v (.int (W.maxOf y ys)) bs := hR
      cases hR'
      rename_i t2
      refine ⟨.int (maxDf (y :: ys) d), H, I.kept hk, ⟨t2, ?_⟩, q⟩
      have : W.maxOf y ys = maxDf (y :: ys) d := by
        unfold W.maxOf maxDf
        congr 1
        funext a b
        show (if decide (a < b) = true then b else a) = _
        by_cases c : a < b
        · rw [if_pos (decide_eq_true c), if_pos c]
        · rw [if_neg (by simpa using c), if_neg c]
      rw [this]
section
variable {K : PySem.W.Frag} {E : XK} {σ : L2.St} {H0 F H F' H' : Hp} {ta tb te tl to ti td : TE} {tr : TA} {α β γ δ : Type} [Rp α] [Rp β] [Rp γ] [Rp δ] {D : Ends} {b b' : Bool}
theorem g_maxDf {m : R (List Int)} {md : R Int} (h : Gr K E ta σ H H m) (hd : Gr K E td σ H H md) : Gr K E (tCKw (rMaxDf K) (tCons ta tNil) (tCons td tNil)) σ F H (R.bd m fun xs => R.bd md fun d => .ok (maxDf xs d)) := fun H1 e Q hq =>
  gr_arg h e hq fun xs v H2 e2 r hq2 => gr_arg hd (e.trans e2) hq2 fun d w H3 e3 r3 hq3 => by
    obtain ⟨p, vs, rfl, hp, hv⟩ := r
    have r3' : w = .int d := r3
    subst r3'
    have := rep_ints hv
    subst this
    exact ⟨p, xs, d, rfl, rfl, SqL.of (e3 p _ hp), hq3 _ H3 (Same.refl _) rfl⟩
/-- a value at hand -/
theorem g_con {v : V} {a : α} (r : Rp.rep K F v a) (hF : Same F H) : Gr K E (tC v) σ F H (.ok a) := fun H1 e Q hq => hq _ H1 (Same.refl _) (Rp.mono (same_mix hF) r)
/-! ### pop at a place -/
noncomputable def popAtR {α : Type} (xs : List α) (i : Int) : R (List α) := match seqIndex? i xs.length with
  | some k => gd (-(2 ^ 63) ≤ i ∧ i < 2 ^ 63 ∧ k < xs.length) (.ok (xs.eraseIdx k))
  | none => .bad
theorem all2_erase {A B : Type} {P : A → B → Prop} : ∀ {xs : List A} {ys : List B} (k : Nat), All2 P xs ys → All2 P (xs.eraseIdx k) (ys.eraseIdx k)
  | _, _, _, .nil => by simp; exact .nil
  | _, _, 0, .cons _ t => t
  | _, _, k + 1, .cons r t => .cons r (all2_erase k t)
theorem s_popAt {p : Addr} {xs : List α} {m : R Int} {k : List α → R β} {kk : β → Prop} (ha : At to σ H p) (o : Own K H0 b F H p xs) (he : Gr K E te σ H H m) (hF : Same F H) (e0 : Same H0 H)
    (hQ : Wp (R.bd (R.bd m fun i => popAtR xs i) k) kk (EE K E H0))
    (c : ∀ xs' F' H', Nx (fun q => q = p) F H F' H' → Same H0 H' → Own K H0 b F' H' p xs' → Wp (k xs') kk (EE K E H0) → D.nx σ H') : tDrop (tBM K "list" rPopAt to (tCons te tNil)) D σ H := by
  obtain ⟨h0, f, vs, hp, r⟩ := o.lst
  refine ha H (Same.refl _) _ ⟨.inl ⟨rfl, _, SqL.of hp⟩, ?_⟩
  refine he H (Same.refl _) _ ?_
  rw [bd_assoc, wp_bd] at hQ
  refine wp_mono hQ (fun i _ q v H2 e2 rv => ?_) fun c _ z => z.mono e0
  have rv' : v = .int i := rv
  subst rv'
  have hl := r.length
  cases z : seqIndex? i xs.length with
  | none =>
    have q : Wp (R.bd (popAtR xs i) k) kk (EE K E H0) := q
    unfold popAtR at q
    rw [z] at q
    exact q.elim
  | some j =>
    have q : Wp (R.bd (popAtR xs i) k) kk (EE K E H0) := q
    unfold popAtR at q
    rw [z] at q
    simp only [] at q
    unfold gd at q
    split at q
    · rename_i cl
      obtain ⟨c1, c2, c3⟩ := cl
      refine ⟨p, vs, i, j, vs[j]'(by omega), rfl, rfl, e2 p _ hp, c1, c2, by rw [hl]; exact z, List.getElem?_eq_getElem _, ?_⟩
      exact c _ (mix F H H2) _ (nx_upd hF e2 hp f) (e0_upd e0 e2 h0) (Own.of h0 (by rw [mix_old hp]; exact f) upd_same (all2_erase j (r.mono fun _ _ x => Rp.mono (bs_ff (same_mix hF)) x))) q
    · exact q.elim
/-! ### pop within an expression -/
/-- the last one and the rest -/
def lastR {α : Type} (xs : List α) : R (α × List α) := match xs.getLast? with
  | some a => .ok (a, xs.dropLast)
  | none => .bad
theorem all2_last {A B : Type} {P : A → B → Prop} {xs : List A} {ys : List B} {a : B} (h : All2 P xs ys) (e : ys.getLast? = some a) : ∃ x, xs[xs.length - 1]? = some x ∧ P x a := by
  rw [List.getLast?_eq_getElem?] at e
  have lt := (List.getElem?_eq_some_iff.mp e).1
  have hl := h.length
  have hx := List.getElem?_eq_getElem (l := xs) (i := xs.length - 1) (by omega)
  obtain ⟨y, hy, px⟩ := h.getL hx
  rw [hl, e] at hy
  cases hy
  exact ⟨_, hx, px⟩
/-- what is walked begins with a pop -/
theorem s_popIter {p : Addr} {xs : List α} {sp : Sp} {Ex : L2.St → XK} {g : TG} {tu : TS} {k : α × List α → R β} {kk : β → Prop} (ha : At tl σ H p) (o : Own K H0 b F H p xs) (hF : Same F H) (e0 : Same H0 H) (hQ : Wp (R.bd (lastR xs) k) kk (EE K E H0))
    (c : ∀ a xs' v F' H', Nx (fun q => q = p) F H F' H' → Same H0 H' → Own K H0 b F' H' p xs' → Rp.rep K (Bs H0 F' b) v a → Wp (k (a, xs')) kk (EE K E H0) → tFor (iList K (tCallS sp Ex (tCons (tC v) tr))) g tu D σ H') :
    tFor (iList K (tCallS sp Ex (tCons (tBM0 K "list" rPop tl) tr))) g tu D σ H := by
  obtain ⟨h0, f, vs, hp, r⟩ := o.lst
  show tl σ H _
  refine ha H (Same.refl _) _ ⟨.inl ⟨rfl, _, SqL.of hp⟩, ?_⟩
  unfold lastR at hQ
  cases z : xs.getLast? with
  | none => rw [z] at hQ; exact hQ.elim
  | some a =>
    rw [z] at hQ
    obtain ⟨y, hy, ry⟩ := all2_last r z
    refine ⟨p, vs, y, rfl, rfl, hp, hy, ?_⟩
    have n := nx_upd (o' := .lst vs.dropLast) hF (Same.refl H) hp f
    exact c a _ y _ _ n (e0_upd e0 (Same.refl _) h0) (Own.of h0 (by rw [mix_old hp]; exact f) upd_same (r.mono fun _ _ x => Rp.mono (bs_ff n.ff) x).dropLast) (Rp.mono (bs_ff n.ff) ry) hQ
/-- d[xs.pop()] = v -/
theorem s_dputPop {p q : Addr} {d : Dct α} {xs : List (Tu Int)} {m : R α} {k : List (Tu Int) × Dct α → R β} {kk : β → Prop} (ha : At to σ H p) (hb : At tl σ H q) (o : Own K H0 b F H p d) (ol : Own K H0 b' F H q xs) (ne : p ≠ q) (he : Gr K E te σ (Bs H0 F b) H m) (hF : Same F H) (e0 : Same H0 H)
    (hQ : Wp (R.bd (R.bd m fun a => R.bd (lastR xs) fun z => R.bd (putR d z.1 a) fun d' => .ok (z.2, d')) k) kk (EE K E H0))
    (c : ∀ xs' d' F1 H1 F2 H2, Nx (fun z => z = q) F H F1 H1 → Same H0 H1 → Nx (fun z => z = p) F1 H1 F2 H2 → Same H0 H2 → Own K H0 b' F1 H1 q xs' → Own K H0 b F2 H2 p d' → Wp (k (xs', d')) kk (EE K E H0) → D.nx σ H2) : sDPut to (tBM0 K "list" rPop tl) te D σ H := by
  obtain ⟨h0, f, _, hp, kvs, rfl, r⟩ := o
  obtain ⟨g0, fl, vs, hq, rl⟩ := ol.lst
  refine he H (Same.refl _) _ ?_
  rw [bd_assoc, wp_bd] at hQ
  refine wp_mono hQ (fun a _ w v H2 e2 rv => ?_) fun c _ z => z.mono e0
  refine ha H2 e2 _ ?_
  refine hb H2 e2 _ ⟨.inl ⟨rfl, _, SqL.of (e2 q _ hq)⟩, ?_⟩
  unfold lastR at w
  cases z : xs.getLast? with
  | none => rw [z] at w; exact w.elim
  | some t =>
    rw [z] at w
    obtain ⟨y, hy, ry⟩ := all2_last rl z
    obtain ⟨bb, us, rfl, hbb, hw⟩ := ry
    have h2 := rep_ints hw
    subst h2
    refine ⟨q, vs, _, rfl, rfl, e2 q _ hq, hy, ?_⟩
    have n1 := nx_upd (o' := .lst vs.dropLast) hF e2 hq fl
    have hbH : H bb = some (.tup (t.l.map V.int)) := (bs_le.trans hF) _ _ hbb
    have b1 : (upd H2 q (.lst vs.dropLast)) bb = some (.tup (t.l.map V.int)) := by
      rw [upd_ne (fun z => by rw [z, hq] at hbH; cases hbH)]
      exact e2 _ _ hbH
    have p1 : (upd H2 q (.lst vs.dropLast)) p = some (.dT kvs) := by rw [upd_ne ne]; exact e2 p _ hp
    have w : Wp (R.bd (R.bd (putR d t a) fun d' => .ok (xs.dropLast, d')) k) kk (EE K E H0) := w
    unfold putR gd at w
    split at w
    · rename_i cl
      have e01 := e0_upd (o' := .lst vs.dropLast) e0 e2 g0
      have fp : mix F H H2 p = none := by rw [mix_old hp]; exact f
      have n2 := nx_upd (o' := .dT (putK kvs (keyOf t.l) v)) n1.fh (Same.refl _) p1 fp
      refine ⟨p, _, rfl, DPut.t (k := keyOf t.l) p1 (by rw [keyOf_kV]; exact b1) (lim_line' (by rw [r.length]; exact cl)), ?_⟩
      refine c xs.dropLast _ _ _ _ _ n1 e01 n2 (e0_upd e01 (Same.refl _) h0) (Own.of g0 (by rw [mix_old hq]; exact fl) upd_same (rl.mono fun _ _ x => Rp.mono (bs_ff n1.ff) x).dropLast) ⟨h0, by rw [mix_old p1]; exact fp, _, upd_same, _, rfl, ent_put (Rp.mono ((bs_mix e0 hF e2).trans (bs_ff n2.ff)) rv) (ent_mono ((bs_ff n1.ff).trans (bs_ff n2.ff)) r)⟩ w
    · exact w.elim
end
end G

set_option Elab.async false
set_option linter.all false
set_option maxRecDepth 100000
set_option maxHeartbeats 4000000
/-! G: list(range(n)). -/
namespace G
open PySem PySem.Spec PyProof.Rows L2
section
variable {K : PySem.W.Frag} {E : XK} {σ : L2.St} {F H : Hp} {te : TE}
noncomputable def rngLst (n : Int) : R (List Int) := gd (0 ≤ n ∧ n ≤ 16777216) (.ok (rngL 0 n))
theorem g_listRg {m : R Int} (h : Gr K E te σ H H m) : Gr K E (tLstRg (tRg1 te)) σ F H (R.bd m rngLst) := fun H1 e Q hq =>
  gr_arg h e hq fun n v H2 e2 r hq2 => by
    have r' : v = .int n := r
    subst r'
    unfold rngLst gd at hq2
    split at hq2
    · rename_i c
      refine ⟨n, rfl, RgOk.of_le (by omega) (by omega) (by omega) (by omega), fun l hl => hq2 _ _ (same_upd hl) ?_⟩
      have hn : H l = none := Same.free (e.trans e2) hl
      have : rgV 0 n = (rngL 0 n).map V.int := by unfold rgV rngL; rw [List.map_map]; rfl
      exact ⟨l, _, rfl, by rw [mix_new hn]; exact upd_same, by rw [this]; exact ints_rep _⟩
    · exact hq2.elim
end
section
variable {K : PySem.W.Frag} {E : XK} {σ : L2.St} {H0 F H F' H' : Hp} {α β γ : Type} [Rp α] [Rp β] [Rp γ] {D : Ends}
theorem g_compGG {RR : Hp → V → List β → Prop} {wi : TI} {g : TG} {tt : TT} {te : TE} {vs : List Nat} {m : R (List α)} {cf : α → R Bool} {f : α → R β} (hres : ∀ H3 Dl acc ys, H Dl = none → H3 Dl = some (.lst acc) → All2 (Rp.rep K (delH (mix F H H3) Dl)) acc (ys : List β) → RR H3 (.ref Dl) ys) (hi : GrI K E wi σ F H m) (hF : Same F H)
    (hel : ∀ x v F2 H2, Same F F2 → Same F2 H2 → Same H H2 → Rp.rep K F2 v x → ∃ σ2, (∀ Q : L2.St → Hp → Prop, Q σ2 H2 → g v (wipe σ vs) H2 Q) ∧ wipe σ2 vs = wipe σ vs ∧ GrT K EF tt σ2 H2 (cf x) ∧ Gr K EF te σ2 F2 H2 (f x)) :
    ∀ H1, Same H H1 → ∀ Q : VK, Wp (R.bd m fun xs => compR xs cf f) (fun b => ∀ v H2, Same H1 H2 → RR H2 v b → Q v H2) (EE K E H1) → tLc wi g tt te vs σ H1 Q := fun H1 e Q hq =>
  hi H1 e _ (by
    rw [wp_bd] at hq
    refine wp_mono hq (fun xs _ k J H2 e2 ok => ?_) fun _ _ z => z
    unfold compR gd at k
    split at k
    · rename_i cl
      intro Dl hD
      have hnD : H Dl = none := Same.free (e.trans e2) hD
      refine ⟨fun i m H' => m = xs.length - i ∧ i ≤ xs.length ∧ Same H2 H' ∧ ∃ acc ys, H' Dl = some (.lst acc) ∧ acc.length ≤ i ∧ All2 (Rp.rep K (delH (mix F H H') Dl)) acc ys ∧
        Wp (compGo cf f (xs.drop i)) (fun zs => ∀ H3, Same H1 H3 → H3 Dl = H3 Dl → ∀ v, RR H3 v (ys ++ zs) → Q v H3) (fun _ => False), ⟨_, rfl, Nat.zero_le _, same_upd hD, [], [], upd_same, Nat.le_refl _, .nil, ?_⟩, ?_⟩
      · rw [List.drop_zero]
        refine wp_mono k (fun zs _ q H3 e3 _ v r => q v H3 e3 r) fun c hc _ => ?_
        exfalso
        have : ∀ l : List α, ∀ c, compGo cf f l ≠ .er c := by
          intro l
          induction l with
          | nil => intro c z; cases z
          | cons x l ih =>
            intro c z
            unfold compGo at z
            cases h1 : cf x with
            | ok b =>
              rw [h1] at z
              have z2 : (if b = true then R.bd (f x).nx fun y => R.bd (compGo cf f l) fun ys => .ok (y :: ys) else compGo cf f l) = .er c := z
              cases b with
              | true =>
                rw [if_pos rfl] at z2
                cases h2 : f x with
                | ok y =>
                  rw [h2] at z2
                  have z3 : (R.bd (compGo cf f l) fun ys => .ok (y :: ys)) = .er c := z2
                  cases h3 : compGo cf f l with
                  | ok ys => rw [h3] at z3; cases z3
                  | er c' => exact ih c' h3
                  | bad => rw [h3] at z3; cases z3
                | er c' => rw [h2] at z2; cases z2
                | bad => rw [h2] at z2; cases z2
              | false =>
                rw [if_neg Bool.false_ne_true] at z2
                exact ih c z2
            | er c' => rw [h1] at z; cases z
            | bad => rw [h1] at z; cases z
        exact this xs c hc
      · rintro i m H' ⟨rfl, hi', sH, acc, ys, hacc, hal, hall, hw⟩
        have hG : Same (mix F H H2) H' := (mix_same hF (e.trans e2)).trans sH
        by_cases ci : i < xs.length
        · refine .inr ⟨ok.go i H' hG ci, _, fun H3 h3 => ⟨xs.length - (i + 1), by omega, h3⟩, fun v H'' y => ?_⟩
          obtain ⟨e1, a, ha, r⟩ := ok.yld i H' v H'' hG ci y
          have hacc2 := e1 _ _ hacc
          have eH : Same H H'' := (e.trans e2).trans (sH.trans e1)
          obtain ⟨σ2, hg, hwp, gt, ge⟩ := hel a v (delH (mix F H H'') Dl) H'' (cmp_f (H2 := H2) hF hnD eH) (del_le.trans (mix_same hF eH)) eH (Rp.mono (cmp_it hnD hD ⟨_, hacc⟩ (e.trans e2) sH e1) r)
          refine hg _ ⟨hwp, gt H'' (Same.refl _) _ ?_⟩
          rw [drop_get ha] at hw
          unfold compGo at hw
          rw [wp_bd] at hw
          refine wp_nx (wp_mono hw (fun b _ q H3 e3 => ?_) fun _ _ z => z)
          have al' : All2 (Rp.rep K (delH (mix F H H3) Dl)) acc ys := hall.mono fun _ _ x => Rp.mono (cmp_go (e1.trans e3)) x
          cases b with
          | true =>
            show te σ2 H3 _
            refine ge H3 e3 _ ?_
            have q2 : Wp (R.bd (f a).nx fun y => R.bd (compGo cf f (xs.drop (i + 1))) fun ys => .ok (y :: ys)) _ _ := q
            rw [wp_bd] at q2
            refine wp_nx (wp_mono q2 (fun y _ q3 w H4 e4 rw4 => ?_) fun _ _ z => z)
            have hacc4 := e4 _ _ (e3 _ _ hacc2)
            refine ⟨acc, hacc4, lim_line' (by omega), rfl, ci, ?_, acc ++ [w], ys ++ [y], upd_same, by rw [List.length_append]; simp; omega, ?_, ?_⟩
            · exact fun x o h => by
                have ne : x ≠ Dl := fun z => by rw [z, hD] at h; cases h
                rw [upd_ne ne]
                exact e4 _ _ (e3 _ _ (e1 _ _ (sH _ _ h)))
            · refine All2.append (al'.mono fun _ _ x => Rp.mono ((cmp_go e4).trans (cmp_up hnD)) x) (.cons (Rp.mono (cmp_el hnD ⟨_, hacc2⟩ eH (e3.trans e4)) rw4) .nil)
            · rw [wp_bd] at q3
              refine wp_mono q3 (fun zs _ q4 H5 e5 _ v5 r5 => ?_) fun _ _ z => z
              refine q4 H5 e5 rfl v5 ?_
              rw [List.append_assoc] at r5
              exact r5
          | false =>
            exact ⟨rfl, ci, fun x o h => e3 _ _ (e1 _ _ (sH _ _ h)), acc, ys, e3 _ _ hacc2, by omega, al', q⟩
        · have ei : i = xs.length := by omega
          refine .inl ⟨ok.stop i H' hG ei, ?_⟩
          rw [ei, List.drop_length] at hw
          have hw2 : ∀ H3, Same H1 H3 → H3 Dl = H3 Dl → ∀ v, RR H3 v (ys ++ []) → Q v H3 := hw
          refine hw2 H' (e2.trans sH) rfl _ ?_
          rw [List.append_nil]
          exact hres _ _ _ _ hnD hacc hall
    · exact k.elim)
/-- a comprehension that becomes ours -/
theorem s_asgLc {i : Nat} {wi : TI} {g : TG} {tt : TT} {te : TE} {vs : List Nat} {m : R (List α)} {cf : α → R Bool} {f : α → R β} {k : List β → R γ} {kk : γ → Prop} (hi : GrI K E wi σ F H m) (hF : Same F H)
    (hel : ∀ x v F2 H2, Same F F2 → Same F2 H2 → Same H H2 → Rp.rep K F2 v x → ∃ σ2, (∀ Q : L2.St → Hp → Prop, Q σ2 H2 → g v (wipe σ vs) H2 Q) ∧ wipe σ2 vs = wipe σ vs ∧ GrT K EF tt σ2 H2 (cf x) ∧ Gr K EF te σ2 F2 H2 (f x))
    (e0 : Same H0 H) (hQ : Wp (R.bd (R.bd m fun xs => compR xs cf f) k) kk (EE K E H0))
    (c : ∀ a p F' H', Nx0 F H F' H' → Same H0 H' → Own K H0 false F' H' p a → (∀ q, (∃ u, H q = some u) → q ≠ p) → Wp (k a) kk (EE K E H0) → D.nx (σ.set i (some (.ref p))) H') : tAsg (tLc wi g tt te vs) (gName i) D σ H := by
  have main := g_compGG (RR := fun H3 v ys => ∃ Dl acc, v = .ref Dl ∧ H Dl = none ∧ H3 Dl = some (.lst acc) ∧ All2 (Rp.rep K (delH (mix F H H3) Dl)) acc ys) (fun H3 Dl acc ys a b r => ⟨Dl, acc, rfl, a, b, r⟩) hi hF hel
  refine main H (Same.refl _) _ ?_
  rw [wp_bd] at hQ
  refine wp_mono hQ (fun a _ q v H2 e2 r => ?_) fun c _ z => z.mono e0
  obtain ⟨p, acc, rfl, hn, hp, r⟩ := r
  refine c a p (delH (mix F H H2) p) H2 ⟨fun x o h => ?_, fun x o _ h => e2 x o h, fun x o h => ?_, fun x o z h n => ?_, fun x o h => ⟨o, e2 x o h, rfl⟩⟩ (e0.trans e2) (Own.of (Same.free e0 hn) delH_same hp r) (fun x ⟨u, hu⟩ z => by rw [z, hn] at hu; cases hu) q
  · have : x ≠ p := fun z => by
      rw [z] at h
      have := hF p o h
      rw [hn] at this
      cases this
    rw [delH_ne this]
    exact same_mix hF x o h
  · unfold delH at h
    split at h
    · cases h
    · exact mix_same hF e2 x o h
  · unfold delH
    split
    · rfl
    · rw [mix_old h z]
      exact n
end
end G

set_option Elab.async false
set_option linter.all false
set_option maxRecDepth 100000
set_option maxHeartbeats 4000000
/-! G: xs.extend(ys). -/
namespace G
open PySem PySem.Spec PyProof.Rows L2
section
variable {K : PySem.W.Frag} {E : XK} {σ : L2.St} {D : Ends} {H0 F H : Hp} {b : Bool} {to : TE} {te : TE} {α β : Type} [Rp α] [Rp β]
noncomputable def extR {α : Type} (xs ys : List α) : R (List α) := gd (xs.length + ys.length ≤ lim) (.ok (xs ++ ys))
theorem s_ext {p : Addr} {xs : List α} {m : R (List α)} {k : List α → R β} {kk : β → Prop} (ha : At to σ H p) (o : Own K H0 b F H p xs) (he : Gr K E te σ (Bs H0 F b) H m) (hF : Same F H) (e0 : Same H0 H) (hQ : Wp (R.bd (R.bd m fun a => extR xs a) k) kk (EE K E H0))
    (c : ∀ xs' F' H', Nx (fun q => q = p) F H F' H' → Same H0 H' → Own K H0 b F' H' p xs' → Wp (k xs') kk (EE K E H0) → D.nx σ H') : tDrop (tBM K "list" rExtend to (tCons te tNil)) D σ H := by
  obtain ⟨h0, f, vs, hp, r⟩ := o.lst
  refine ha H (Same.refl _) _ ⟨.inl ⟨rfl, _, SqL.of hp⟩, ?_⟩
  refine he H (Same.refl _) _ ?_
  rw [bd_assoc, wp_bd] at hQ
  refine wp_mono hQ (fun a _ q v H2 e2 rv => ?_) fun c _ z => z.mono e0
  obtain ⟨l, ws, rfl, hl, ra⟩ := rv
  unfold extR gd at q
  split at q
  · rename_i cl
    refine ⟨p, l, vs, ws, rfl, rfl, e2 p _ hp, mix_same (bs_le.trans hF) e2 _ _ hl, lim_line (by rw [r.length, ra.length]; exact cl), ?_⟩
    exact c _ (mix F H H2) _ (nx_upd hF e2 hp f) (e0_upd e0 e2 h0) (Own.of h0 (by rw [mix_old hp]; exact f) upd_same ((r.mono fun _ _ x => Rp.mono (bs_ff (same_mix hF)) x).append (ra.mono fun _ _ x => Rp.mono (bs_mix e0 hF e2) x))) q
  · exact q.elim
end
/-- the names of a comprehension's block, seen from its function -/
def relS (scope sc : Scope) : Scope := { scope with names := scope.names.map fun (n, k) => if (k == .free && sc.kind == .function && sc.names.lookup n == some .cell) then (n, .cell) else (n, k) }
/-- a comprehension in a comprehension -/
theorem blkOk_in {X : Cx} {N : List Str} {sc sc0 scope : Scope} {own : List (Str × Nat)} {s : Shared} {H : Hp} {cl : List (Str × Addr)} {C : Addr} {fp : List Addr} (hN : X.N = N) (hs : X.env.scope = sc) (h : blkC N (relS sc0 sc) scope own = true) : BlkOk (X.blk s H sc0 (compEnvC sc0 cl C X.env) fp).N (X.blk s H sc0 (compEnvC sc0 cl C X.env) fp).env.scope scope own := by
  subst hN
  subst hs
  exact blkOk_by (N := X.N) (sc := relS sc0 X.env.scope) h
end G

set_option Elab.async false
set_option linter.all false
set_option maxRecDepth 100000
set_option maxHeartbeats 4000000
/-! G: BadPlan, an error with a field. -/
namespace G
open PySem PySem.Spec PyProof.Rows L2
def planC (K : PySem.W.Frag) : Addr := He.ga K "BadPlan"
def planI (K : PySem.W.Frag) : Addr := He.ma K (He.ga K "BadPlan") "__init__"
/-- one look at the class BadPlan as it is written -/
def oexB (K : PySem.W.Frag) (C : Addr) : Bool := match K.lookup C with
  | some ⟨.type z, _, .cls cd, sl⟩ => decide (z = "type") && (match cd.mro with
    | .ref C' :: bm => (match sl.toList with
      | [_, _, _, _, some (.builtin n), _] => decide (C' = C) && (decide (n = "ValueError.__new__") && (cd.hasDict && (!cd.hasDel && PySem.HandSPX.refsVE bm)))
      | _ => false)
    | _ => false)
  | _ => false
def planB (K : PySem.W.Frag) : Bool := oexB K (planC K) && (He.eqO (PySem.W.findIn K (.ref (planC K)) "__setattr__") (some (some (.builtin "object.__setattr__"))) &&
  (He.eqO (PySem.W.findIn K (.ref (planC K)) "__init__") (some (some (.ref (planI K)))) && (decide (PySem.W.typeIn K (.ref (planI K)) = some (.type "function")) &&
  (He.eqO (PySem.W.findIn K (.ref (planC K)) "words") (some none) && (He.eqO (PySem.W.findIn K (.ref (planC K)) "at") (some none) &&
  (decide (PySem.W.subIn K (.ref (planC K)) (.type "BaseException") = some true) && (decide (PySem.W.typeIn K (.ref (planC K)) = some (.type "type")) && PySem.W.keepIn K (.ref (planC K)))))))))
structure Pl (K : PySem.W.Frag) : Prop where
  T : OexC K (planC K)
  ini : PySem.W.findIn K (.ref (planC K)) "__init__" = some (some (.ref (planI K)))
  tI : PySem.W.typeIn K (.ref (planI K)) = some (.type "function")
  noW : PySem.W.findIn K (.ref (planC K)) "words" = some none
  noA : PySem.W.findIn K (.ref (planC K)) "at" = some none
theorem oexB_ok {K : PySem.W.Frag} {C : Addr} (q : oexB K C = true) : ∃ nm qn N bs bm sn sub ab col dd k0 k1 k2 k3 k5, K.lookup C = some (excClassObj nm qn C N bs bm true sn sub ab col dd k0 k1 k2 k3 k5 "ValueError.__new__") ∧ PySem.HandSPX.refsVE bm = true := by
  unfold oexB at q
  split at q
  · rename_i z dd cd sl ho
    obtain ⟨q0, q⟩ := Bool.and_eq_true_iff.mp q
    have q0 := of_decide_eq_true q0
    subst q0
    split at q
    · rename_i C' bm hm
      split at q
      · rename_i k0 k1 k2 k3 n k5 hs
        obtain ⟨q1, q⟩ := Bool.and_eq_true_iff.mp q
        obtain ⟨q2, q⟩ := Bool.and_eq_true_iff.mp q
        obtain ⟨q3, q⟩ := Bool.and_eq_true_iff.mp q
        obtain ⟨q4, q5⟩ := Bool.and_eq_true_iff.mp q
        have q2 := of_decide_eq_true q2
        have q3 := of_decide_eq_true q3
        obtain ⟨q5, q6⟩ := Bool.and_eq_true_iff.mp q5
        have hdl : cd.hasDel = false := by simpa using q5
        subst q2 q3
        obtain ⟨nm, bs, mro, ns, qn, hd, sn, sub, ab, col, del⟩ := cd
        dsimp only at hm q4 hdl
        subst hm q4 hdl
        have hsl : sl = #[k0, k1, k2, k3, some (.builtin "ValueError.__new__"), k5] := by
          obtain ⟨l⟩ := sl
          simp only at hs
          rw [hs]
        subst hsl
        exact ⟨nm, qn, ns, bs, bm, sn, sub, ab, col, dd, k0, k1, k2, k3, k5, ho, q6⟩
      · cases q
    · cases q
  · cases q
theorem plan_ok {K : PySem.W.Frag} (h : planB K = true) : Pl K := by
  unfold planB at h
  simp only [Bool.and_eq_true] at h
  obtain ⟨h1, h2, h3, h4, h5, h6, h7, h8, h9⟩ := h
  exact ⟨⟨oexB_ok h1, He.eqO_ok h2, of_decide_eq_true h7, of_decide_eq_true h8, h9⟩, He.eqO_ok h3, of_decide_eq_true h4, He.eqO_ok h5, He.eqO_ok h6⟩
/-- BadPlan.__init__ keeps both -/
def spPlan (K : PySem.W.Frag) : Sp := fun vs H Q _ => ∃ a m n, vs = [.ref a, .str m, .int n] ∧ H a = some (exo a (planC K) none) ∧ ∀ dx, H dx = none → dx ≠ a →
  Q .non (upd (upd (upd H dx (exd dx [("words", .str m)])) a (exo a (planC K) (some dx))) dx (exd dx [("at", .int n), ("words", .str m)]))
/-- raise BadPlan(m, e) -/
def tRaiseP (K : PySem.W.Frag) (m : Str) (te : TE) : L2.St → Hp → XK → Prop := tMkO (planC K) (spPlan K) [] (tCons (tC (.str m)) (tCons te tNil))
section
variable {K : PySem.W.Frag} {E : XK} {σ : L2.St} {H0 F H : Hp} {te : TE} {α β : Type}
theorem raise_plan {m : Str} {me : R Int} {k : α → Prop} {E : XK} (he : Gr K E te σ H H me) (e0 : Same H0 H) (hQ : Wp (R.bd me fun n => (.er (.plan n) : R α)) k (EE K E H0)) : tRaiseP K m te σ H E := by
  show te σ H _
  refine he H (Same.refl _) _ ?_
  rw [wp_bd] at hQ
  refine wp_mono hQ (fun n _ q v H2 e2 r => ?_) fun c _ z => z.mono e0
  have r' : v = .int n := r
  subst r'
  refine ⟨by show 2 ≤ 1000; decide, fun a ha => ⟨a, m, n, rfl, upd_same, fun dx hd ne => ⟨rfl, dx, _, ?_, upd_same, ?_, ?_⟩⟩⟩
  · rw [upd_ne ne.symm, upd_same]
  · rw [upd_ne ne] at hd
    exact hd
  · rw [upd_ne ne] at hd
    refine q dx _ (fun b o h => ?_) (Same.free (e0.trans e2) hd) ⟨m, upd_same⟩
    have h2 := (e0.trans e2) b o h
    have n1 : b ≠ dx := ne_of_none h2 hd
    have n2 : b ≠ a := ne_of_none h2 ha
    rw [upd_ne n1, del_ne n2, upd_ne n1, upd_ne n2, upd_ne n1, upd_ne n2]
    exact h2
/-- e.at of what was caught -/
def tAt (K : PySem.W.Frag) (te : TE) : TE := fun σ H Q => te σ H fun x H1 => ∃ a dd fs v, x = .ref a ∧ H1 a = some (ExH (planC K) (some dd) a) ∧ H1 dd = some (.xd fs) ∧ fs.lookup ("at" : Str) = some v ∧ Q v H1
def atR : Option Er → R Int
  | some (.plan n) => .ok n
  | _ => .bad
theorem g_at {m : R (Option Er)} (h : Gr K E te σ F H m) (hF : Same F H) : Gr K E (tAt K te) σ F H (R.bd m atR) := fun H1 e Q hq =>
  gr_seq h e hq fun o v H2 e2 r hq2 => by
    cases o with
    | none => exact hq2.elim
    | some er =>
      cases er with
      | own d => exact hq2.elim
      | plan n =>
        obtain ⟨_, a, rfl, cf, dd, m, ha, hd⟩ := r
        exact ⟨a, dd, _, _, rfl, mix_same hF (e.trans e2) a _ ha, mix_same hF (e.trans e2) dd _ hd, rfl, hq2 _ H2 (Same.refl _) rfl⟩
end
section
variable {X : Cx} {e : Expr} {te : TE} {pos : Pos}
theorem pe_at (p : Pl X.K) (cf : Cf X.K .BadPlan) (he : PE X e te) (hb : attributeBase e "at" X.env (eval e X.env) = eval e X.env := by rfl) : PE X (.Attribute e "at" pos) (tAt X.K te) := by
  refine ⟨fun pins s σ H Q I h => ?_⟩
  refine attr_of hb (thn (he.run pins s σ H _ I h) fun u s1 ⟨x, H1, I1, rx, a, dd, fs, v, ex, ea, ed, l, q⟩ => ?_)
  subst ex
  obtain rfl : u = Value.ref a := rx
  obtain ⟨oe, od, mA, J, hl, hr⟩ := inst_ofD I1 ea ed
  have r := hr "at"
  rw [l] at r
  obtain ⟨u, hu, ru⟩ := RelO.some_of r
  exact HandSPX.exc_get I1.kIn J cf.ex.hg cf.ex.hk cf.ex.hs (PySem.W.findObj_own cf.ex.hd p.noA rfl (by rw [hl, hu])) (handed_of ru) ⟨v, H1, I1.tok _, ru, q⟩
end
end G

set_option Elab.async false
set_option linter.all false
set_option maxRecDepth 100000
set_option maxHeartbeats 4000000
/-! G: a, b, c = e. -/
namespace G
open PySem PySem.Spec PyProof.Rows L2
section
variable {K : PySem.W.Frag} {E : XK} {σ : L2.St} {H0 F H : Hp} {te : TE} {α β γ δ : Type} [Rp α] [Rp β] [Rp γ] {D : Ends}
theorem s_unp3 {i j l : Nat} {m : R (T3 α β γ)} {k : T3 α β γ → R δ} {kk : δ → Prop} (he : Gr K E te σ F H m) (hF : Same F H) (e0 : Same H0 H) (hQ : Wp (R.bd m k) kk (EE K E H0))
    (c : ∀ a b g v w x F' H', Nx0 F H F' H' → Same H0 H' → Rp.rep K F' v a → Rp.rep K F' w b → Rp.rep K F' x g → Wp (k ⟨a, b, g⟩) kk (EE K E H0) → D.nx (((σ.set i (some v)).set j (some w)).set l (some x)) H') :
    tAsg te (gTup K 3 (gCons (gName i) (gCons (gName j) (gCons (gName l) gNil)))) D σ H := by
  refine he H (Same.refl _) _ ?_
  rw [wp_bd] at hQ
  refine wp_mono hQ (fun a _ q v H2 e2 r => ?_) fun c _ z => z.mono e0
  obtain ⟨p, x, y, z, rfl, hp, r1, r2, r3⟩ := r
  exact ⟨p, _, rfl, SqT.of (mix_same hF e2 p _ hp), rfl, x, _, rfl, y, _, rfl, z, _, rfl, rfl, c a.a a.b a.c x y z _ H2 (Nx.mk' hF e2) (e0.trans e2) r1 r2 r3 q⟩
theorem s_unp3N {i j l : Nat} {m : R (T3 α β γ)} {k : T3 α β γ → R δ} {kk : δ → Prop} (he : Gr K E te σ (dif H0 F) H m) (hF : Same F H) (e0 : Same H0 H) (hQ : Wp (R.bd m k) kk (EE K E H0))
    (c : ∀ a b g v w x F' H', Nx0 F H F' H' → Same H0 H' → Rp.rep K (dif H0 F') v a → Rp.rep K (dif H0 F') w b → Rp.rep K (dif H0 F') x g → Wp (k ⟨a, b, g⟩) kk (EE K E H0) → D.nx (((σ.set i (some v)).set j (some w)).set l (some x)) H') :
    tAsg te (gTup K 3 (gCons (gName i) (gCons (gName j) (gCons (gName l) gNil)))) D σ H := by
  refine he H (Same.refl _) _ ?_
  rw [wp_bd] at hQ
  refine wp_mono hQ (fun a _ q v H2 e2 r => ?_) fun c _ z => z.mono e0
  have r' := Rp.mono (mix_dif e0 hF e2) r
  obtain ⟨p, x, y, z, rfl, hp, r1, r2, r3⟩ := r'
  exact ⟨p, _, rfl, SqT.of (mix_same hF e2 p _ (dif_le p _ hp)), rfl, x, _, rfl, y, _, rfl, z, _, rfl, rfl, c a.a a.b a.c x y z _ H2 (Nx.mk' hF e2) (e0.trans e2) r1 r2 r3 q⟩
end
end G

set_option Elab.async false
set_option linter.all false
set_option maxRecDepth 100000
set_option maxHeartbeats 4000000
/-! G: defs that change what they are handed (in and out). -/
namespace G
open PySem PySem.Spec PyProof.Rows L2
/-- a thing at p that a def is handed to change: not frozen, its parts are -/
structure OwM {τ : Type} [Rp τ] [Cel τ] (K : PySem.W.Frag) (Gz H : Hp) (p : Addr) (x : τ) : Prop where
  f : Gz p = none
  at_ : ∃ o, H p = some o ∧ Cel.cel K Gz o x
section
variable {K : PySem.W.Frag} {E : XK} {σ : L2.St} {H0 F H F' H' Gz Hz : Hp} {te ta to : TE} {t : TT} {tu tw : TS} {α β γ δ ρ S : Type} [Rp α] [Rp β] [Rp γ] [Rp δ] [Rp ρ] {D : Ends} {b : Bool} {P P2 : Addr → Prop} {τ : Type} [Rp τ] [Cel τ] {p : Addr} {x : τ}
theorem Own.owm (o : Own K H0 false F H p x) : OwM K F H p x := ⟨o.f, let ⟨u, h, r⟩ := o.at_; ⟨u, h, r⟩⟩
theorem OwM.own (w : OwM K Gz H p x) (h0 : H0 p = none) : Own K H0 false Gz H p x := ⟨h0, w.f, let ⟨u, h, r⟩ := w.at_; ⟨u, h, r⟩⟩
theorem OwM.del {q : Addr} (w : OwM K Gz H p x) : True := trivial
/-- what stands behind a change -/
theorem Nx.e0 (n : Nx P F H F' H') (e0 : Same H0 H) (hp : ∀ q, P q → H0 q = none) : Same H0 H' := fun q o h => n.hh q o (fun z => by rw [hp q z] at h; cases h) (e0 q o h)
theorem Nx.wk (n : Nx P F H F' H') (h : ∀ q, P q → P2 q) : Nx P2 F H F' H' := ⟨n.ff, fun q o z => n.hh q o fun y => z (h q y), n.fh, n.own, n.th⟩
theorem Nx.tr {F1 H1 : Hp} (a : Nx0 F H F1 H1) (n : Nx P F1 H1 F' H') : Nx P F H F' H' := (a.wk fun _ z => z.elim).step n fun q z => .inl z
theorem Own.nxM (o : Own K H0 false F H p x) (n : Nx P F H F' H') {y : τ} (h : ∃ u, H' p = some u ∧ Cel.cel K F' u y) : Own K H0 false F' H' p y := by
  obtain ⟨h0, f, u, hu, r⟩ := o
  exact ⟨h0, n.own p _ (Cel.nt r) hu f, h⟩
theorem Own.atM (o : Own K H0 false F H p x) : ∃ u, H p = some u ∧ Cel.cel K F u x := o.at_
/-- an expression that changes what J tells, and nothing but P -/
def GrM {α S : Type} [Rp α] (K : PySem.W.Frag) (E : XK) (te : TE) (σ : L2.St) (H0 F H : Hp) (P : Addr → Prop) (J : Hp → Hp → S → Prop) (m : R (α × S)) : Prop :=
  ∀ Q : VK, Wp m (fun z => ∀ v F' H', Nx P F H F' H' → Same H0 H' → J F' H' z.2 → Rp.rep K F' v z.1 → Q v H') (EE K E H0) → te σ H Q
theorem gm_arg {H1 : Hp} {ma : R α} {f : α → R S} {k : S → Prop} (ha : Gr K E ta σ F H ma) (e : Same H H1) (e0 : Same H0 H) (hq : Wp (R.bd ma f) k (EE K E H0)) {Q' : VK}
    (h : ∀ a v H2, Same H1 H2 → Rp.rep K (mix F H H2) v a → Wp (f a) k (EE K E H0) → Q' v H2) : ta σ H1 Q' :=
  ha H1 e Q' (by rw [wp_bd] at hq; exact wp_mono hq (fun a _ ka v H2 e2 r => h a v H2 e2 r ka) fun c _ z => z.mono (e0.trans e))
variable {J : Hp → Hp → S → Prop}
theorem s_asgM {i : Nat} {m : R (α × S)} {k : α × S → R β} {kk : β → Prop} (he : GrM K E te σ H0 F H P J m) (hQ : Wp (R.bd m k) kk (EE K E H0))
    (c : ∀ a s v F' H', Nx P F H F' H' → Same H0 H' → J F' H' s → Rp.rep K F' v a → Wp (k (a, s)) kk (EE K E H0) → D.nx (σ.set i (some v)) H') : tAsg te (gName i) D σ H :=
  he _ (by rw [wp_bd] at hQ; exact wp_mono hQ (fun z _ q v F' H' n e j r => c z.1 z.2 v F' H' n e j r q) fun c _ z => z)
theorem s_dropM {m : R (α × S)} {k : α × S → R β} {kk : β → Prop} (he : GrM K E te σ H0 F H P J m) (hQ : Wp (R.bd m k) kk (EE K E H0))
    (c : ∀ a s F' H', Nx P F H F' H' → Same H0 H' → J F' H' s → Wp (k (a, s)) kk (EE K E H0) → D.nx σ H') : tDrop te D σ H :=
  he _ (by rw [wp_bd] at hQ; exact wp_mono hQ (fun z _ q v F' H' n e j r => c z.1 z.2 F' H' n e j q) fun c _ z => z)
/-- if f(..): -/
theorem s_ifM {m : R (Bool × S)} {k : Bool × S → R β} {kk : β → Prop} (he : GrM K E te σ H0 F H P J m) (hQ : Wp (R.bd m k) kk (EE K E H0))
    (h1 : ∀ s F' H', Nx P F H F' H' → Same H0 H' → J F' H' s → Wp (k (true, s)) kk (EE K E H0) → tu D σ H') (h2 : ∀ s F' H', Nx P F H F' H' → Same H0 H' → J F' H' s → Wp (k (false, s)) kk (EE K E H0) → tw D σ H') : tIfS (tB te) tu tw D σ H :=
  he _ (by
    rw [wp_bd] at hQ
    refine wp_mono hQ (fun z _ q v F' H' n e j r => ⟨z.1, r, ?_⟩) fun c _ z => z
    obtain ⟨b, s⟩ := z
    cases b with
    | true => exact h1 s F' H' n e j q
    | false => exact h2 s F' H' n e j q)
/-- if not f(..): -/
theorem s_ifMn {m : R (Bool × S)} {k : Bool × S → R β} {kk : β → Prop} (he : GrM K E te σ H0 F H P J m) (hQ : Wp (R.bd m k) kk (EE K E H0))
    (h1 : ∀ s F' H', Nx P F H F' H' → Same H0 H' → J F' H' s → Wp (k (false, s)) kk (EE K E H0) → tu D σ H') (h2 : ∀ s F' H', Nx P F H F' H' → Same H0 H' → J F' H' s → Wp (k (true, s)) kk (EE K E H0) → tw D σ H') : tIfS (tNot (tB te)) tu tw D σ H :=
  he _ (by
    rw [wp_bd] at hQ
    refine wp_mono hQ (fun z _ q v F' H' n e j r => ⟨z.1, r, ?_⟩) fun c _ z => z
    obtain ⟨b, s⟩ := z
    cases b with
    | true => exact h2 s F' H' n e j q
    | false => exact h1 s F' H' n e j q)
/-- xs.append(f(..)), xs ours -/
theorem s_appM {p : Addr} {xs : List α} {m : R (α × S)} {k : List α × S → R β} {kk : β → Prop} (ha : At to σ H p) (o : Own K H0 false F H p xs) (he : GrM K E te σ H0 F H P J m) (hp : ¬ P p)
    (hQ : Wp (R.bd (R.bd m fun z => R.bd (appR xs z.1) fun l => .ok (l, z.2)) k) kk (EE K E H0))
    (c : ∀ xs' s F' H' F1 H1, Nx P F H F1 H1 → Same H0 H1 → J F1 H1 s → Nx (fun q => q = p) F1 H1 F' H' → Same H0 H' → Own K H0 false F' H' p xs' → Wp (k (xs', s)) kk (EE K E H0) → D.nx σ H') : tDrop (tBM K "list" rAppend to (tCons te tNil)) D σ H := by
  obtain ⟨h0, f, vs, hp', r⟩ := o.lst
  refine ha H (Same.refl _) _ ⟨.inl ⟨rfl, _, SqL.of hp'⟩, ?_⟩
  refine he _ ?_
  rw [bd_assoc, wp_bd] at hQ
  refine wp_mono hQ (fun z _ q v F1 H1 n e1 j rv => ?_) fun c _ z => z
  rw [bd_assoc, wp_bd] at q
  unfold appR gd at q
  split at q
  · rename_i cl
    have o1 := o.nx n hp
    obtain ⟨_, f1, us, hu, ru⟩ := o1.lst
    have hh := n.hh p _ hp hp'
    rw [hu] at hh
    cases hh
    refine ⟨p, vs, v, rfl, rfl, hu, lim_line' (by rw [ru.length]; exact cl), ?_⟩
    have nn := nx_upd (o' := .lst (vs ++ [v])) n.fh (Same.refl H1) hu f1
    exact c _ z.2 (mix F1 H1 H1) _ F1 H1 n e1 j nn (e0_upd e1 (Same.refl _) h0) (Own.of h0 (by rw [mix_old hu]; exact f1) upd_same ((ru.mono fun _ _ x => Rp.mono (bs_ff nn.ff) x).append (.cons (Rp.mono nn.ff rv) .nil))) q
  · exact q.elim
/-- return e, in a def that changes what it is handed -/
theorem s_retM {m : R α} {k : α → R β} {kk : β → Prop} (he : Gr K E te σ F H m) (hF : Same F H) (e0 : Same H0 H) (n : Nx P Gz Hz F H) (hQ : Wp (R.bd m k) kk (EE K E H0))
    (hk : ∀ a, Wp (k a) kk (EE K E H0) → ∀ v F' H', Nx P Gz Hz F' H' → Nx0 F H F' H' → Rp.rep K F' v a → D.rt v H') : tRet te D σ H := by
  refine he H (Same.refl _) _ ?_
  rw [wp_bd] at hQ
  exact wp_mono hQ (fun a _ q v H2 e2 r => hk a q v _ H2 (n.step0 (Nx.mk' hF e2)) (Nx.mk' hF e2) r) fun c _ z => z.mono e0
theorem delH_none {p q : Addr} (h : H p = none) : delH H q p = none := by
  unfold delH
  split
  · rfl
  · exact h
end
section
variable {K : PySem.W.Frag} {E : XK} {σ : L2.St} {H0 F H : Hp} {ta tb to ti : TE} {α : Type} [Rp α] {b : Bool} {p : Addr}
/-- an item of a list of ours is frozen -/
theorem g_idxO {xs : List α} {mi : R Int} (ha : At to σ H p) (o : Own K H0 b F H p xs) (hi : Gr K E ti σ H H mi) (hF : Same F H) : Gr K E (tOp (rIxL K) to ti) σ F H (R.bd mi fun i => idx xs i) := fun H1 e Q hq => by
  obtain ⟨h0, f, vs, hp, r⟩ := o.lst
  refine ha H1 e _ ?_
  refine gr_seq (F := F) (β := α) (ma := mi) (f := fun i => idx xs i) ?_ e hq fun i w H2 e2 ri hq2 => ?_
  · intro H3 e3 Q3 h3
    refine hi H3 e3 Q3 (wp_mono h3 (fun i _ k v H4 e4 r4 => k v H4 e4 (by
      have r4' : v = .int i := r4
      exact r4')) fun _ _ z => z)
  · have ri' : w = .int i := ri
    subst ri'
    unfold idx at hq2
    cases q : atI xs i with
    | none => rw [q] at hq2; exact hq2.elim
    | some a =>
      rw [q] at hq2
      obtain ⟨x, hx, rx⟩ := all2_atI r q
      exact ⟨p, vs, i, x, rfl, rfl, SqL.of (e2 _ _ (e _ _ hp)), hx, hq2 x H2 (Same.refl _) (Rp.mono (bs_le.trans (same_mix hF)) rx)⟩
theorem g_sortI [De α] [Od α] [Im α] {m : R (List α)} (h : Gr K E ta σ H H m) (hd : De.dep α ≤ 60 := by decide) : Gr K E (tCB (rSortA α K) (tCons ta tNil)) σ F H (R.bd m sortR) := fun H1 e Q hq =>
  gr_arg h e hq fun xs v H2 e2 r hq2 => by
    obtain ⟨p, vs, rfl, hp, hv⟩ := r
    unfold sortR gd at hq2
    split at hq2
    · rename_i c
      have hl := hv.length
      have h1 : (vs.zip xs).map Prod.fst = vs := zip_fst hl
      have h2 : (vs.zip xs).map Prod.snd = xs := zip_snd hl
      have hz := all2_zip hv
      refine ⟨p, vs.zip xs, rfl, by rw [h1]; exact SqL.of hp, fun q hq => De.dp (hz q hq), ?_, by rw [List.length_zip]; omega, hd, fun l hl => ?_⟩
      · have : (vs.zip xs).map (fun p => (De.toD p.2 : PyData)) = xs.map De.toD := by
          conv => rhs; rw [← h2, List.map_map]
          rfl
        rw [this]
        exact c.2
      · refine hq2 _ _ (same_upd hl) ?_
        refine reps_atI (G := H2) (vs := ((vs.zip xs).mergeSort fun a b => !Od.lt b.2 a.2).map Prod.fst) (Same.refl _) (e.trans e2) (same_upd hl) (by rw [mix_new (Same.free (e.trans e2) hl)]; exact upd_same) ?_
        have e3 : xs.mergeSort (fun a b => !Od.lt b a) = ((vs.zip xs).mergeSort fun a b => !Od.lt b.2 a.2).map Prod.snd := by
          conv => lhs; rw [← h2]
          exact (List.map_mergeSort (r := fun a b : V × α => !Od.lt b.2 a.2) (s := fun a b : α => !Od.lt b a) (f := Prod.snd) (fun a _ b _ => rfl)).symm
        rw [e3]
        refine zip_all2 fun q hq => hz q ?_
        exact (List.mergeSort_perm _ _).subset hq
    · exact hq2.elim
end
section
variable {X : Cx} {K : PySem.W.Frag}
theorem pi_listK {tg l : Expr} {tl : TE} (h : X.K = K) (hl : PE X l tl) : PI X tg l (iList K tl) := by subst h; exact pi_list hl
theorem pi_tupK {tg l : Expr} {tl : TE} (h : X.K = K) (hl : PE X l tl) : PI X tg l (iTup K tl) := by subst h; exact pi_tup hl
theorem pi_enumAK {e : Expr} {ta : TA} {p pos tpos : Pos} {elts : List Expr} {kk : Nat} (h : X.K = K) (hg : Gl X "enumerate") (hm : X.mg "enumerate" = none) (ha : PA X [e] ta) (hs : starEach [e] X.env = [(false, eval e X.env)] := by rfl) :
    PI X (.Tuple elts kk tpos) (.Call (.Name "enumerate" p) [e] [] pos) (iEnumA K ta) := by subst h; exact pi_enumA hg hm ha hs
end
section
variable {K : PySem.W.Frag} {E : XK} {σ : L2.St} {F H : Hp} {α β : Type} [Rp α] [Rp β]
/-- a comprehension over anything whose items are made anew -/
theorem g_compH {wi : TI} {g : TG} {tt : TT} {te : TE} {vs : List Nat} {m : R (List α)} {cf : α → R Bool} {f : α → R β} (hi : GrI K E wi σ H H m) (hF : Same F H)
    (hel : ∀ x v F2 H2, Same F F2 → Same F2 H2 → Same H H2 → Rp.rep K H2 v x → ∃ σ2, (∀ Q : L2.St → Hp → Prop, Q σ2 H2 → g v (wipe σ vs) H2 Q) ∧ wipe σ2 vs = wipe σ vs ∧ GrT K EF tt σ2 H2 (cf x) ∧ Gr K EF te σ2 F2 H2 (f x)) :
    Gr K E (tLc wi g tt te vs) σ F H (R.bd m fun xs => compR xs cf f) := fun H1 e Q hq =>
  hi H1 e _ (by
    rw [wp_bd] at hq
    refine wp_mono hq (fun xs _ k J H2 e2 ok => ?_) fun _ _ z => z
    unfold compR gd at k
    split at k
    · rename_i cl
      intro Dl hD
      have hnD : H Dl = none := Same.free (e.trans e2) hD
      refine ⟨fun i m H' => m = xs.length - i ∧ i ≤ xs.length ∧ Same H2 H' ∧ ∃ acc ys, H' Dl = some (.lst acc) ∧ acc.length ≤ i ∧ All2 (Rp.rep K (delH (mix F H H') Dl)) acc ys ∧
        Wp (compGo cf f (xs.drop i)) (fun zs => ∀ H3, Same H1 H3 → H3 Dl = H3 Dl → ∀ v, Rp.rep K (mix F H H3) v (ys ++ zs) → Q v H3) (fun _ => False), ⟨_, rfl, Nat.zero_le _, same_upd hD, [], [], upd_same, Nat.le_refl _, .nil, ?_⟩, ?_⟩
      · rw [List.drop_zero]
        refine wp_mono k (fun zs _ q H3 e3 _ v r => q v H3 e3 r) fun c hc _ => ?_
        exfalso
        have : ∀ l : List α, ∀ c, compGo cf f l ≠ .er c := by
          intro l
          induction l with
          | nil => intro c z; cases z
          | cons x l ih =>
            intro c z
            unfold compGo at z
            cases h1 : cf x with
            | ok b =>
              rw [h1] at z
              have z2 : (if b = true then R.bd (f x).nx fun y => R.bd (compGo cf f l) fun ys => .ok (y :: ys) else compGo cf f l) = .er c := z
              cases b with
              | true =>
                rw [if_pos rfl] at z2
                cases h2 : f x with
                | ok y =>
                  rw [h2] at z2
                  have z3 : (R.bd (compGo cf f l) fun ys => .ok (y :: ys)) = .er c := z2
                  cases h3 : compGo cf f l with
                  | ok ys => rw [h3] at z3; cases z3
                  | er c' => exact ih c' h3
                  | bad => rw [h3] at z3; cases z3
                | er c' => rw [h2] at z2; cases z2
                | bad => rw [h2] at z2; cases z2
              | false =>
                rw [if_neg Bool.false_ne_true] at z2
                exact ih c z2
            | er c' => rw [h1] at z; cases z
            | bad => rw [h1] at z; cases z
        exact this xs c hc
      · rintro i m H' ⟨rfl, hi', sH, acc, ys, hacc, hal, hall, hw⟩
        have hG : Same (mix H H H2) H' := (mix_same (Same.refl _) (e.trans e2)).trans sH
        by_cases ci : i < xs.length
        · refine .inr ⟨ok.go i H' hG ci, _, fun H3 h3 => ⟨xs.length - (i + 1), by omega, h3⟩, fun v H'' y => ?_⟩
          obtain ⟨e1, a, ha, r⟩ := ok.yld i H' v H'' hG ci y
          have hacc2 := e1 _ _ hacc
          have eH : Same H H'' := (e.trans e2).trans (sH.trans e1)
          obtain ⟨σ2, hg, hwp, gt, ge⟩ := hel a v (delH (mix F H H'') Dl) H'' (cmp_f (H2 := H2) hF hnD eH) (del_le.trans (mix_same hF eH)) eH (Rp.mono (mix_same hG e1) r)
          refine hg _ ⟨hwp, gt H'' (Same.refl _) _ ?_⟩
          rw [drop_get ha] at hw
          unfold compGo at hw
          rw [wp_bd] at hw
          refine wp_nx (wp_mono hw (fun b _ q H3 e3 => ?_) fun _ _ z => z)
          have al' : All2 (Rp.rep K (delH (mix F H H3) Dl)) acc ys := hall.mono fun _ _ x => Rp.mono (cmp_go (e1.trans e3)) x
          cases b with
          | true =>
            show te σ2 H3 _
            refine ge H3 e3 _ ?_
            have q2 : Wp (R.bd (f a).nx fun y => R.bd (compGo cf f (xs.drop (i + 1))) fun ys => .ok (y :: ys)) _ _ := q
            rw [wp_bd] at q2
            refine wp_nx (wp_mono q2 (fun y _ q3 w H4 e4 rw4 => ?_) fun _ _ z => z)
            have hacc4 := e4 _ _ (e3 _ _ hacc2)
            refine ⟨acc, hacc4, lim_line' (by omega), rfl, ci, ?_, acc ++ [w], ys ++ [y], upd_same, by rw [List.length_append]; simp; omega, ?_, ?_⟩
            · exact fun x o h => by
                have ne : x ≠ Dl := fun z => by rw [z, hD] at h; cases h
                rw [upd_ne ne]
                exact e4 _ _ (e3 _ _ (e1 _ _ (sH _ _ h)))
            · refine All2.append (al'.mono fun _ _ x => Rp.mono ((cmp_go e4).trans (cmp_up hnD)) x) (.cons (Rp.mono (cmp_el hnD ⟨_, hacc2⟩ eH (e3.trans e4)) rw4) .nil)
            · rw [wp_bd] at q3
              refine wp_mono q3 (fun zs _ q4 H5 e5 _ v5 r5 => ?_) fun _ _ z => z
              refine q4 H5 e5 rfl v5 ?_
              rw [List.append_assoc] at r5
              exact r5
          | false =>
            exact ⟨rfl, ci, fun x o h => e3 _ _ (e1 _ _ (sH _ _ h)), acc, ys, e3 _ _ hacc2, by omega, al', q⟩
        · have ei : i = xs.length := by omega
          refine .inl ⟨ok.stop i H' hG ei, ?_⟩
          rw [ei, List.drop_length] at hw
          have hw2 : ∀ H3, Same H1 H3 → H3 Dl = H3 Dl → ∀ v, Rp.rep K (mix F H H3) v (ys ++ []) → Q v H3 := hw
          refine hw2 H' (e2.trans sH) rfl _ ?_
          rw [List.append_nil]
          exact ⟨Dl, acc, rfl, by rw [mix_new hnD]; exact hacc, hall.mono fun _ _ x => Rp.mono del_le x⟩
    · exact k.elim)
end
end G

set_option Elab.async false
set_option linter.all false
set_option maxRecDepth 100000
set_option maxHeartbeats 4000000
/-! G: ranges with a step. -/
namespace G
open PySem PySem.Spec PyProof.Rows L2
/-- lo, lo + c, .. below hi -/
def rngSn (a b c : Int) : Nat := (Builtin.Range.rangeSize a b c).toNat
def rngS (a b c : Int) : List Int := (List.range (rngSn a b c)).map fun i : Nat => a + (i : Int) * c
def rngSok (a b c : Int) : Prop := 0 ≤ a ∧ a ≤ 1000000 ∧ 0 ≤ b ∧ b ≤ 1000000 ∧ 0 < c ∧ c ≤ 1000
noncomputable def rng3S (a b c : Int) : R (List Int) := gd (rngSok a b c) (.ok (rngS a b c))
theorem rgc_up {a b c : Int} (h : rngSok a b c) : RgC a b c (rngSn a b c) := by
  obtain ⟨h1, h2, h3, h4, h5, h6⟩ := h
  have e : Builtin.Range.rangeSize a b c = ((rngSn a b c : Nat) : Int) := rangeSize_toNat a b c
  have le : rngSn a b c ≤ (b - a).toNat + (a - b).toNat := rangeSize_toNat_le a b c
  have m : ((rngSn a b c : Nat) : Int) * c ≤ 2000000 * 1000 := Int.mul_le_mul (by omega) (by omega) (by omega) (by omega)
  have m0 : 0 ≤ ((rngSn a b c : Nat) : Int) * c := Int.mul_nonneg (by omega) (by omega)
  refine ⟨by omega, by omega, ?_, e⟩
  unfold Builtin.Range.small
  rw [e]
  simp only [Builtin.Range.rangeFitsLong, Bool.and_eq_true, Bool.or_eq_true, decide_eq_true_eq, beq_iff_eq, show c > 0 from h5, if_true]
  omega
section
variable {K : PySem.W.Frag} {E : XK} {σ : L2.St} {F H : Hp} {ta tb tc : TE}
theorem i_rng3S {ma mb : R Int} {c : Int} (ha : Gr K E ta σ F H ma) (hb : Gr K E tb σ F H mb) (hc : Gr K E tc σ F H (.ok c)) : GrI K E (iRng3 (tCons ta (tCons tb (tCons tc tNil)))) σ F H (R.bd ma fun a => R.bd mb fun b => rng3S a b c) := fun H1 e RR hq =>
  ha H1 e _ (by
    rw [wp_bd] at hq
    refine wp_mono hq (fun n _ k v H2 e2 r => ?_) fun _ _ z => z
    have r' : v = .int n := r
    subst r'
    refine hb H2 (e.trans e2) _ ?_
    rw [wp_bd] at k
    refine wp_mono k (fun n2 _ k v2 H3 e3 r3 => ?_) fun _ _ z => z.mono e2
    have r3' : v2 = .int n2 := r3
    subst r3'
    refine hc H3 (e.trans (e2.trans e3)) _ (fun v3 H4 e4 r4 => ?_)
    have r4' : v3 = .int c := r4
    subst r4'
    unfold rng3S gd at k
    split at k
    · rename_i ck
      refine ⟨n, n2, c, rngSn n n2 c, rfl, rgc_up ck, k _ H4 (e2.trans (e3.trans e4)) ⟨fun i H' s hi => ?_, fun i H' s hi => ?_, fun i H' x H'' s hi y => ?_⟩⟩
      · unfold rngS at hi
        simp at hi
        exact hi
      · unfold rngS at hi
        simp at hi
        show rngSn n n2 c ≤ i
        omega
      · obtain ⟨e1, y⟩ := y
        subst e1 y
        unfold rngS at hi ⊢
        simp at hi
        exact ⟨Same.refl _, _, by rw [List.getElem?_map, List.getElem?_range hi]; rfl, rfl⟩
    · exact k.elim)
end
/-! ### list(range(a, b, -1)) -/
def dnV (a : Int) (n : Nat) : List V := (List.range n).map fun i => V.int (a - (i : Nat))
def tRg3D (ta : TA) : L2.St → Hp → (Int → Int → Hp → Prop) → Prop := fun σ H Q => ta σ H fun vs H1 => ∃ i j, vs = [.int i, .int j, .int (-1)] ∧ Q i j H1
def tLstRgD (te : L2.St → Hp → (Int → Int → Hp → Prop) → Prop) : TE := fun σ H Q => te σ H fun a b H1 => RgOk b a ∧ ∀ q, H1 q = none → Q (.ref q) (upd H1 q (.lst (dnV a (a - b).toNat)))
section
variable {X : Cx} {a b c e : Expr} {ta : TA} {te : L2.St → Hp → (Int → Int → Hp → Prop) → Prop}
def PRgD (X : Cx) (e : Expr) (t : L2.St → Hp → (Int → Int → Hp → Prop) → Prop) : Prop :=
  ∀ (pins : List (Addr × Obj)) (s : Shared) (σ : L2.St) (H : Hp) (Q : Int → Int → Hp → Prop), Inv X pins σ H s → t σ H Q →
    wpAny (model X.prog X.w) X.A (eval e X.env) (fun x s' => ∃ r i j t u v H', x = .ref r ∧ IsRange s'.heap r i j (-1) t u v ∧ Inv X pins σ H' s' ∧ Q i j H') X.xe s
theorem prg_3D {p pos : Pos} (hg : Gl X "range") (hm : X.mg "range" = none) (ha : PA X [a, b, c] ta) (hs : starEach [a, b, c] X.env = (false, eval a X.env) :: starEach [b, c] X.env := by rfl)
    (hpl : (backTo pos (starEach [b, c] X.env)).any (·.1) = false := by rfl) : PRgD X (.Call (.Name "range" p) [a, b, c] [] pos) (tRg3D ta) := by
  intro pins s σ H Q I h
  refine Call_ (ld_blt I hg hm boot_range (PyProof.Rows.callWith_type1 (thn (ha.run pos pins s σ H _ I h) fun us s1 ⟨vs, H1, I1, r1, i, j, ev, q⟩ => ?_) hs hpl))
  subst ev
  obtain ⟨u1, us, rfl, ra, r1⟩ : ∃ u us', us = u :: us' ∧ RelV (.int i) u ∧ Vals [.int j, .int (-1)] us' := by cases r1 with | cons r rr => exact ⟨_, _, rfl, r, rr⟩
  obtain ⟨u2, us, rfl, rb, r1⟩ : ∃ u us', us = u :: us' ∧ RelV (.int j) u ∧ Vals [.int (-1)] us' := by cases r1 with | cons r rr => exact ⟨_, _, rfl, r, rr⟩
  obtain ⟨u3, rfl, rc⟩ : ∃ u, us = [u] ∧ RelV (.int (-1)) u := by cases r1 with | cons r rr => cases rr; exact ⟨_, rfl, r⟩
  obtain ⟨t, rfl⟩ := ra
  obtain ⟨t', rfl⟩ := rb
  obtain ⟨t'', rfl⟩ := rc
  refine call_range_3 (by decide) ?_ (.inl (PyProof.noPylong_small (by decide)))
  exact ⟨_, i, j, _, _, _, H1, rfl, IsRange.new .., I1.kept fun b u e => Heap.get?_push_of_some _ e, q⟩
theorem vals_dn {a : Int} {n : Nat} {acc : Array Value} (h : ItemsOf (fun i v => ∃ t, v = .int (a + i * (-1)) t) acc n) : Vals (dnV a n) acc.toList := by
  have e : acc.toList.length = n := by rw [Array.length_toList]; exact h.1
  unfold dnV
  rw [← e]
  refine vals_of_get acc.toList _ fun j u hj => ?_
  obtain ⟨t, rfl⟩ := h.2 j u (by rw [← hj, Array.getElem?_toList])
  exact ⟨t, by congr 1; omega⟩
theorem pe_listRgD {p pos : Pos} (hc : X.calm = true) (hg : Gl X "list") (hm : X.mg "list" = none) (he : PRgD X e te) (na : starEach [e] X.env = (false, eval e X.env) :: starEach [] X.env := by rfl) : PE X (.Call (.Name "list" p) [e] [] pos) (tLstRgD te) := by
  refine ⟨fun pins s σ H Q I h => ?_⟩
  refine Call_ (ld_blt I hg hm boot_list (PyProof.Rows.callWith_type1 (args_cons (thn (he pins s σ H _ I h) fun x s1 ⟨r, i, j, t, u, v, H1, ex, hr, I1, ok, q⟩ => args_nil ?_) na) na))
  subst ex
  obtain ⟨b1, b2, b3, b4, b5⟩ := ok
  refine call_list_range (n := (i - j).toNat) (I1.ok.hd hc) hr (PySem.W.small_down b3 b4 b1 b2) (PySem.W.rangeSize_downNat i j) b5 fun h' tk acc c' hk e' hi => ?_
  refine ⟨.ref s1.heap.objs.size, upd H1 s1.heap.objs.size (.lst (dnV i (i - j).toNat)), I1.laid hk (Nat.le_refl _) (show ObjOk X.prog X.w _ _ _ (.lst (dnV i (i - j).toNat)) from ⟨?_, acc.toList, c', vals_dn hi, ?_⟩), rfl, q _ (I1.hok.fresh (Nat.le_refl _))⟩
  · unfold dnV; rw [List.length_map, List.length_range, sizeLine_eq]; omega
  · rw [Array.toArray_toList]; exact e'
end
section
variable {K : PySem.W.Frag} {E : XK} {σ : L2.St} {F H : Hp} {ta tb tc : TE}
noncomputable def rngLstD (a b : Int) : R (List Int) := gd (0 ≤ a ∧ a ≤ 1000000 ∧ 0 ≤ b ∧ b ≤ 1000000) (.ok (rngD a b))
theorem g_listRgD {ma mb : R Int} (ha : Gr K E ta σ H H ma) (hb : Gr K E tb σ H H mb) (hc : Gr K E tc σ H H (.ok (-1 : Int))) : Gr K E (tLstRgD (tRg3D (tCons ta (tCons tb (tCons tc tNil))))) σ F H (R.bd ma fun a => R.bd mb fun b => rngLstD a b) := fun H1 e Q hq =>
  gr_arg ha e hq fun i v H2 e2 r hq2 => gr_arg hb (e.trans e2) hq2 fun j w H3 e3 r3 hq3 => hc H3 (e.trans (e2.trans e3)) _ fun x H4 e4 r4 => by
    have r' : v = .int i := r
    have r3' : w = .int j := r3
    have r4' : x = .int (-1) := r4
    subst r' r3' r4'
    unfold rngLstD gd at hq3
    split at hq3
    · rename_i c
      refine ⟨i, j, rfl, RgOk.of_le (by omega) (by omega) (by omega) (by omega), fun l hl => hq3 _ _ (e4.trans (same_upd hl)) ?_⟩
      have hn : H l = none := Same.free (e.trans (e2.trans (e3.trans e4))) hl
      have : dnV i (i - j).toNat = (rngD i j).map V.int := by unfold dnV rngD; rw [List.map_map]; rfl
      exact ⟨l, _, rfl, by rw [mix_new hn]; exact upd_same, by rw [this]; exact ints_rep _⟩
    · exact hq3.elim
end
end G

set_option Elab.async false
set_option linter.all false
set_option maxRecDepth 100000
set_option maxHeartbeats 4000000
/-! G: things whose parts lie apart, so that a part can be changed alone. -/
namespace G
open PySem PySem.Spec PyProof.Rows L2
/-- a thing that can change is there -/
def muc (H : Hp) (b : Addr) : Prop := ∃ o, H b = some o ∧ tupB (some o) = false
theorem muc_mono {H H' : Hp} (e : Same H H') {b : Addr} (h : muc H b) : muc H' b := let ⟨o, h1, h2⟩ := h; ⟨o, e b o h1, h2⟩
theorem muc_some {H : Hp} {b : Addr} (h : muc H b) : H b ≠ none := by obtain ⟨o, h, _⟩ := h; rw [h]; intro z; cases z
/-- H' has what H has at S, and its tuples -/
def Agr (S : Addr → Prop) (H H' : Hp) : Prop := ∀ b o, H b = some o → (S b ∨ tupB (some o) = true) → H' b = some o
theorem Agr.same {S : Addr → Prop} {H H' : Hp} (e : Same H H') : Agr S H H' := fun b o h _ => e b o h
theorem Agr.sub {S S' : Addr → Prop} {H H' : Hp} (a : Agr S H H') (h : ∀ b, S' b → S b) : Agr S' H H' := fun b o q z => a b o q (z.imp (h b) id)
class Tr (α : Type) [Rp α] where
  tr : PySem.W.Frag → Hp → (Addr → Prop) → V → α → Prop
  rep : ∀ {K : PySem.W.Frag} {H : Hp} {S : Addr → Prop} {v : V} {a : α}, tr K H S v a → Rp.rep K H v a
  mono : ∀ {K : PySem.W.Frag} {H H' : Hp} {S : Addr → Prop} {v : V} {a : α}, Agr S H H' → tr K H S v a → tr K H' S v a
  cut : ∀ {K : PySem.W.Frag} {H : Hp} {S : Addr → Prop} {v : V} {a : α}, tr K H S v a → tr K H (fun b => S b ∧ muc H b) v a
/-- it has no part that can change -/
class Nc (α : Type) [Rp α] [Tr α] : Prop where
  of : ∀ {K : PySem.W.Frag} {H : Hp} {S : Addr → Prop} {v : V} {a : α}, Rp.rep K H v a → Tr.tr K H S v a
/-- it has one at most -/
class T1 (α : Type) [Rp α] [Tr α] : Prop where
  of : ∀ {K : PySem.W.Frag} {H : Hp} {v : V} {a : α}, Rp.rep K H v a → Tr.tr K H (muc H) v a
/-- what rests on tuples alone -/
def trI {α : Type} [Rp α] [Im α] : Tr α := ⟨fun K H _ v a => Rp.rep K H v a, fun h => h, fun a h => Im.mv (fun p xs q => a p _ q (.inr rfl)) h, fun h => h⟩
instance : Tr Int := trI
instance : Tr Bool := trI
instance : Tr Str := trI
instance : Tr Unit := trI
instance : Tr (Option Int) := trI
instance {α : Type} [Rp α] [Im α] : Tr (Tu α) := trI
instance : Nc Int := ⟨fun h => h⟩
instance : Nc Bool := ⟨fun h => h⟩
instance : Nc Str := ⟨fun h => h⟩
instance : Nc Unit := ⟨fun h => h⟩
instance : Nc (Option Int) := ⟨fun h => h⟩
instance {α : Type} [Rp α] [Im α] : Nc (Tu α) := ⟨fun h => h⟩
instance {α β : Type} [Rp α] [Rp β] [Tr α] [Tr β] : Tr (α × β) where
  tr K H S v t := ∃ p x y S1 S2, v = .ref p ∧ H p = some (.tup [x, y]) ∧ (∀ b, S1 b → S b ∧ ¬ S2 b) ∧ (∀ b, S2 b → S b) ∧ Tr.tr K H S1 x t.1 ∧ Tr.tr K H S2 y t.2
  rep := fun ⟨p, x, y, S1, S2, h1, h2, _, _, h3, h4⟩ => ⟨p, x, y, h1, h2, Tr.rep h3, Tr.rep h4⟩
  mono := fun a ⟨p, x, y, S1, S2, h1, h2, d1, d2, h3, h4⟩ => ⟨p, x, y, S1, S2, h1, a p _ h2 (.inr rfl), d1, d2, Tr.mono (a.sub fun b z => (d1 b z).1) h3, Tr.mono (a.sub d2) h4⟩
  cut := fun ⟨p, x, y, S1, S2, h1, h2, d1, d2, h3, h4⟩ => ⟨p, x, y, _, _, h1, h2, fun b ⟨z, m⟩ => ⟨⟨(d1 b z).1, m⟩, fun w => (d1 b z).2 w.1⟩, fun b ⟨z, m⟩ => ⟨d2 b z, m⟩, Tr.cut h3, Tr.cut h4⟩
instance {α β : Type} [Rp α] [Rp β] [Tr α] [Tr β] [Nc α] [Nc β] : Nc (α × β) := ⟨fun ⟨p, x, y, h1, h2, h3, h4⟩ => ⟨p, x, y, fun _ => False, fun _ => False, h1, h2, fun _ z => z.elim, fun _ z => z.elim, Nc.of h3, Nc.of h4⟩⟩
inductive TrL {α : Type} (T : (Addr → Prop) → V → α → Prop) : (Addr → Prop) → List V → List α → Prop
  | nil {S : Addr → Prop} : TrL T S [] []
  | cons {S S1 S2 : Addr → Prop} {v : V} {a : α} {vs : List V} {as : List α} (h1 : ∀ b, S1 b → S b ∧ ¬ S2 b) (h2 : ∀ b, S2 b → S b) (r : T S1 v a) (t : TrL T S2 vs as) : TrL T S (v :: vs) (a :: as)
section
variable {α : Type} {T T' : (Addr → Prop) → V → α → Prop}
theorem TrL.wk : ∀ {S S' : Addr → Prop} {vs : List V} {as : List α}, (∀ b, S b → S' b) → TrL T S vs as → TrL T S' vs as
  | _, _, _, _, _, .nil => .nil
  | _, _, _, _, h, .cons h1 h2 r t => .cons (fun b z => ⟨h b (h1 b z).1, (h1 b z).2⟩) (fun b z => h b (h2 b z)) r t
theorem TrL.all {F : V → α → Prop} (h : ∀ S v a, T S v a → F v a) : ∀ {S : Addr → Prop} {vs : List V} {as : List α}, TrL T S vs as → All2 F vs as
  | _, _, _, .nil => .nil
  | _, _, _, .cons _ _ r t => .cons (h _ _ _ r) (TrL.all h t)
theorem TrL.mp : ∀ {S : Addr → Prop} {vs : List V} {as : List α}, (∀ S1 v a, (∀ b, S1 b → S b) → T S1 v a → T' S1 v a) → TrL T S vs as → TrL T' S vs as
  | _, _, _, _, .nil => .nil
  | _, _, _, h, .cons h1 h2 r t => .cons h1 h2 (h _ _ _ (fun b z => (h1 b z).1) r) (TrL.mp (fun S1 v a q => h S1 v a fun b z => h2 b (q b z)) t)
theorem TrL.ct {M : Addr → Prop} (h : ∀ S v a, T S v a → T (fun b => S b ∧ M b) v a) : ∀ {S : Addr → Prop} {vs : List V} {as : List α}, TrL T S vs as → TrL T (fun b => S b ∧ M b) vs as
  | _, _, _, .nil => .nil
  | _, _, _, .cons h1 h2 r t => .cons (fun b ⟨z, m⟩ => ⟨⟨(h1 b z).1, m⟩, fun w => (h1 b z).2 w.1⟩) (fun b ⟨z, m⟩ => ⟨h2 b z, m⟩) (h _ _ _ r) (TrL.ct h t)
/-- one more, apart from all -/
theorem TrL.snoc {S2 : Addr → Prop} {v : V} {a : α} : ∀ {S S1 : Addr → Prop} {vs : List V} {as : List α}, TrL T S1 vs as → T S2 v a → (∀ b, S1 b → S b ∧ ¬ S2 b) → (∀ b, S2 b → S b) → TrL T S (vs ++ [v]) (as ++ [a])
  | _, _, _, _, .nil, r, h1, h2 => .cons (S1 := S2) (S2 := fun _ => False) (fun b z => ⟨h2 b z, fun w => w⟩) (fun _ z => z.elim) r .nil
  | S, S1, _, _, .cons (S1 := A1) (S2 := A2) k1 k2 r0 t, r, h1, h2 => .cons (S1 := A1) (S2 := fun b => A2 b ∨ S2 b) (fun b z => ⟨(h1 b (k1 b z).1).1, fun w => w.elim (k1 b z).2 (h1 b (k1 b z).1).2⟩) (fun b z => z.elim (fun w => (h1 b (k2 b w)).1) (h2 b)) r0
      (TrL.snoc t r (fun b z => ⟨.inl z, (h1 b (k2 b z)).2⟩) fun b z => .inr z)
/-- the one at a place, and another put there -/
theorem TrL.at : ∀ {S : Addr → Prop} {vs : List V} {as : List α} {j : Nat} {a : α}, TrL T S vs as → as[j]? = some a → ∃ v S1, vs[j]? = some v ∧ T S1 v a ∧ (∀ b, S1 b → S b) ∧
    ∀ (T' : (Addr → Prop) → V → α → Prop) (a' : α), T' S1 v a' → (∀ S' v a, (∀ b, S' b → S b ∧ ¬ S1 b) → T S' v a → T' S' v a) → TrL T' S vs (as.set j a')
  | _, _, _, _, _, .nil, e => by simp at e
  | S, _, _, 0, a, .cons (S1 := A1) (S2 := A2) h1 h2 r t, e => by
    simp at e
    subst e
    refine ⟨_, A1, rfl, r, fun b z => (h1 b z).1, fun T' a' r' k => ?_⟩
    exact .cons h1 h2 r' (TrL.mp (fun S1 v a q w => k S1 v a (fun b z => ⟨h2 b (q b z), fun y => (h1 b y).2 (q b z)⟩) w) t)
  | S, _, _, j + 1, a, .cons (S1 := A1) (S2 := A2) h1 h2 r t, e => by
    obtain ⟨v, S1, e1, r1, s1, k1⟩ := TrL.at (j := j) t (by simpa using e)
    refine ⟨v, S1, by simpa using e1, r1, fun b z => h2 b (s1 b z), fun T' a' r' k => ?_⟩
    exact .cons h1 h2 (k A1 _ _ (fun b z => ⟨(h1 b z).1, fun y => (h1 b z).2 (s1 b y)⟩) r) (k1 T' a' r' fun S' v a q w => k S' v a (fun b z => ⟨h2 b (q b z).1, (q b z).2⟩) w)
end
instance {α : Type} [Rp α] [Tr α] : Tr (List α) where
  tr K H S v xs := ∃ p vs S1, v = .ref p ∧ H p = some (.lst vs) ∧ S p ∧ (∀ b, S1 b → S b ∧ b ≠ p) ∧ TrL (fun S v a => Tr.tr K H S v a) S1 vs xs
  rep := fun ⟨p, vs, S1, h1, h2, _, _, t⟩ => ⟨p, vs, h1, h2, t.all fun _ _ _ r => Tr.rep r⟩
  mono := fun a ⟨p, vs, S1, h1, h2, h3, h4, t⟩ => ⟨p, vs, S1, h1, a p _ h2 (.inl h3), h3, h4, t.mp fun S2 v x q r => Tr.mono (a.sub fun b z => (h4 b (q b z)).1) r⟩
  cut := fun ⟨p, vs, S1, h1, h2, h3, h4, t⟩ => ⟨p, vs, _, h1, h2, ⟨h3, _, h2, rfl⟩, fun b ⟨z, m⟩ => ⟨⟨(h4 b z).1, m⟩, (h4 b z).2⟩, t.ct fun _ _ _ r => Tr.cut r⟩
theorem trl_nc {α : Type} [Rp α] [Tr α] [Nc α] {K : PySem.W.Frag} {H : Hp} {S : Addr → Prop} : ∀ {vs : List V} {xs : List α}, All2 (Rp.rep K H) vs xs → TrL (fun S v a => Tr.tr K H S v a) S vs xs
  | _, _, .nil => .nil
  | _, _, .cons r t => .cons (S1 := fun _ => False) (S2 := fun _ => False) (fun _ z => z.elim) (fun _ z => z.elim) (Nc.of r) (trl_nc t)
/-- a list of such has one cell -/
theorem tr_leaf {α : Type} [Rp α] [Tr α] [Nc α] {K : PySem.W.Frag} {H : Hp} {S : Addr → Prop} {p : Addr} {vs : List V} {xs : List α} (hp : H p = some (.lst vs)) (h : All2 (Rp.rep K H) vs xs) (hS : S p) : Tr.tr K H S (.ref p) xs :=
  ⟨p, vs, fun _ => False, rfl, hp, hS, fun _ z => z.elim, trl_nc h⟩
instance {α : Type} [Rp α] [Tr α] [Nc α] : T1 (List α) := ⟨fun ⟨p, vs, h1, h2, h3⟩ => by rw [h1]; exact tr_leaf h2 h3 ⟨_, h2, rfl⟩⟩
instance {α β : Type} [Rp α] [Rp β] [Tr α] [Tr β] [T1 α] [Nc β] : T1 (α × β) := ⟨fun {K H v a} ⟨p, x, y, h1, h2, h3, h4⟩ => ⟨p, x, y, muc H, fun _ => False, h1, h2, fun b z => ⟨z, fun w => w⟩, fun _ z => z.elim, T1.of h3, Nc.of h4⟩⟩
instance {α β : Type} [Rp α] [Rp β] [Tr α] [Tr β] [Nc α] [T1 β] : T1 (α × β) := ⟨fun {K H v a} ⟨p, x, y, h1, h2, h3, h4⟩ => ⟨p, x, y, fun _ => False, muc H, h1, h2, fun _ z => z.elim, fun b z => z, Nc.of h3, T1.of h4⟩⟩
/-- told with its parts apart -/
structure Apt (α : Type) where
  l : α
  deriving DecidableEq
instance {α : Type} [Rp α] [Tr α] : Rp (Apt α) where
  rep K H v x := ∃ S, Tr.tr K H S v x.l
  mono e h := let ⟨S, r⟩ := h; ⟨S, Tr.mono (Agr.same e) r⟩
section
variable {K : PySem.W.Frag} {E : XK} {σ : L2.St} {H0 F H F' H' : Hp} {te ta tb to ti : TE} {α β γ δ : Type} [Rp α] [Rp β] [Rp γ] [Rp δ] [Tr α] [Tr β] [Tr γ] {D : Ends} {P : Addr → Prop}
theorem g_apl {m : R (Apt α)} (h : Gr K E te σ F H m) : Gr K E te σ F H (R.bd m fun a => .ok a.l) := fun H1 e Q hq =>
  h H1 e Q (by
    rw [wp_bd] at hq
    exact wp_mono hq (fun a _ k v H2 e2 ⟨S, r⟩ => k v H2 e2 (Tr.rep r)) fun _ _ z => z)
/-! ### what an expression makes anew -/
def NewS (H H2 : Hp) (S : Addr → Prop) : Prop := ∀ b, S b → H b = none ∧ muc H2 b
def GrX (K : PySem.W.Frag) (E : XK) (te : TE) (σ : L2.St) (H : Hp) (m : R α) : Prop :=
  ∀ H1, Same H H1 → ∀ Q : VK, Wp m (fun a => ∀ v H2, Same H1 H2 → (∃ S, Tr.tr K H2 S v a ∧ NewS H H2 S) → Q v H2) (EE K E H1) → te σ H1 Q
theorem newS_mix {H2 : Hp} {S : Addr → Prop} {v : V} {a : α} (e : Same H H2) (r : Tr.tr K H2 S v a) (n : NewS H H2 S) : Tr.tr K (mix F H H2) S v a :=
  Tr.mono (fun b o h z => by
    rcases z with z | z
    · rw [mix_new (n b z).1]; exact h
    · cases q : H b with
      | none => rw [mix_new q]; exact h
      | some u =>
        have := e b u q
        rw [h] at this
        cases this
        exact mix_tup q z) r
theorem gx_apt {m : R α} (h : GrX K E te σ H m) : Gr K E te σ F H (R.bd m fun a => .ok (Apt.mk a)) := fun H1 e Q hq =>
  h H1 e Q (by
    rw [wp_bd] at hq
    exact wp_mono hq (fun a _ k v H2 e2 ⟨S, r, n⟩ => k v H2 e2 ⟨S, newS_mix (e.trans e2) r n⟩) fun _ _ z => z)
theorem gx_nc [Nc α] {m : R α} (h : Gr K E te σ H H m) : GrX K E te σ H m := fun H1 e Q hq =>
  h H1 e Q (wp_mono hq (fun a _ k v H2 e2 r => k v H2 e2 ⟨fun _ => False, Nc.of (Rp.mono (mix_same (Same.refl _) (e.trans e2)) r), fun _ z => z.elim⟩) fun _ _ z => z)
theorem gx_t1 [T1 α] {m : R α} (h : Gr K E te σ nil0 H m) : GrX K E te σ H m := fun H1 e Q hq =>
  h H1 e Q (wp_mono hq (fun a _ k v H2 e2 r => k v H2 e2 (by
    have c := Tr.cut (T1.of r)
    refine ⟨_, Tr.mono (Agr.same (mix_same nil_same (e.trans e2))) c, fun b ⟨⟨o, h, t⟩, _⟩ => ?_⟩
    rcases mix_cases h with ⟨z, w⟩ | ⟨_, w⟩ | ⟨_, _, _, w⟩
    · exact ⟨z, o, w, t⟩
    · rw [t] at w; cases w
    · cases w)) fun _ _ z => z)
theorem gx_pairL [Nc β] {ma : R α} {mb : R β} (ha : GrX K E ta σ H ma) (hb : Gr K E tb σ H H mb) : GrX K E (tTup (tCons ta (tCons tb tNil))) σ H (R.bd ma fun a => R.bd mb fun b => .ok (a, b)) := fun H1 e Q hq =>
  ha H1 e _ (by
    rw [wp_bd] at hq
    refine wp_mono hq (fun a _ k v H2 e2 ⟨S, r, n⟩ => ?_) fun _ _ z => z
    refine hb H2 (e.trans e2) _ ?_
    rw [wp_bd] at k
    refine wp_mono k (fun b _ k w H3 e3 r3 => ?_) fun _ _ z => z.mono e2
    refine ⟨by show 2 ≤ sizeLine; decide, fun p hp => k _ _ (e2.trans (e3.trans (same_upd hp))) ⟨S, ⟨p, v, w, S, fun _ => False, rfl, upd_same, fun b z => ⟨z, fun y => y⟩, fun _ z => z.elim, Tr.mono (Agr.same (e3.trans (same_upd hp))) r, Nc.of (Rp.mono ((mix_same (Same.refl _) (e.trans (e2.trans e3))).trans (same_upd hp)) r3)⟩, fun b z => ⟨(n b z).1, muc_mono (e3.trans (same_upd hp)) (n b z).2⟩⟩⟩)
theorem gx_pairR [Nc α] {ma : R α} {mb : R β} (ha : Gr K E ta σ H H ma) (hb : GrX K E tb σ H mb) : GrX K E (tTup (tCons ta (tCons tb tNil))) σ H (R.bd ma fun a => R.bd mb fun b => .ok (a, b)) := fun H1 e Q hq =>
  ha H1 e _ (by
    rw [wp_bd] at hq
    refine wp_mono hq (fun a _ k v H2 e2 r => ?_) fun _ _ z => z
    refine hb H2 (e.trans e2) _ ?_
    rw [wp_bd] at k
    refine wp_mono k (fun b _ k w H3 e3 ⟨S, r3, n⟩ => ?_) fun _ _ z => z.mono e2
    refine ⟨by show 2 ≤ sizeLine; decide, fun p hp => k _ _ (e2.trans (e3.trans (same_upd hp))) ⟨S, ⟨p, v, w, fun _ => False, S, rfl, upd_same, fun _ z => z.elim, fun b z => z, Nc.of (Rp.mono ((mix_same (Same.refl _) (e.trans e2)).trans (e3.trans (same_upd hp))) r), Tr.mono (Agr.same (same_upd hp)) r3⟩, fun b z => ⟨(n b z).1, muc_mono (same_upd hp) (n b z).2⟩⟩⟩)
theorem gx_pair {ma : R α} {mb : R β} (ha : GrX K E ta σ H ma) (hb : ∀ H2, Same H H2 → GrX K E tb σ H2 mb) : GrX K E (tTup (tCons ta (tCons tb tNil))) σ H (R.bd ma fun a => R.bd mb fun b => .ok (a, b)) := fun H1 e Q hq =>
  ha H1 e _ (by
    rw [wp_bd] at hq
    refine wp_mono hq (fun a _ k v H2 e2 ⟨S, r, n⟩ => ?_) fun _ _ z => z
    refine hb H2 (e.trans e2) H2 (Same.refl _) _ ?_
    rw [wp_bd] at k
    refine wp_mono k (fun b _ k w H3 e3 ⟨S2, r3, n3⟩ => ?_) fun _ _ z => z.mono e2
    refine ⟨by show 2 ≤ sizeLine; decide, fun p hp => k _ _ (e2.trans (e3.trans (same_upd hp))) ⟨fun b => S b ∨ S2 b, ⟨p, v, w, S, S2, rfl, upd_same, fun b z => ⟨.inl z, fun y => muc_some (n b z).2 (n3 b y).1⟩, fun b z => .inr z, Tr.mono (Agr.same (e3.trans (same_upd hp))) r, Tr.mono (Agr.same (same_upd hp)) r3⟩, fun b z => ?_⟩⟩
    rcases z with z | z
    · exact ⟨(n b z).1, muc_mono (e3.trans (same_upd hp)) (n b z).2⟩
    · exact ⟨Same.free (e.trans e2) (n3 b z).1, muc_mono (same_upd hp) (n3 b z).2⟩)
/-- [e] -/
theorem gx_lst1 {m : R α} (h : GrX K E te σ H m) : GrX K E (tLst (tCons te tNil)) σ H (R.bd m fun a => .ok [a]) := fun H1 e Q hq =>
  h H1 e _ (by
    rw [wp_bd] at hq
    refine wp_mono hq (fun a _ k v H2 e2 ⟨S, r, n⟩ => ?_) fun _ _ z => z
    refine ⟨by show 1 ≤ sizeLine; decide, fun p hp => k _ _ (e2.trans (same_upd hp)) ⟨fun b => S b ∨ b = p, ⟨p, [v], S, rfl, upd_same, .inr rfl, fun b z => ⟨.inl z, fun y => by rw [y] at z; exact muc_some (n p z).2 hp⟩, .cons (S1 := S) (S2 := fun _ => False) (fun b z => ⟨z, fun w => w⟩) (fun _ z => z.elim) (Tr.mono (Agr.same (same_upd hp)) r) .nil⟩, fun b z => ?_⟩⟩
    rcases z with z | z
    · exact ⟨(n b z).1, muc_mono (same_upd hp) (n b z).2⟩
    · rw [z]; exact ⟨Same.free (e.trans e2) hp, _, upd_same, rfl⟩)
end
end G

set_option Elab.async false
set_option linter.all false
set_option maxRecDepth 100000
set_option maxHeartbeats 4000000
/-! G: comprehensions that tell parts apart. -/
namespace G
open PySem PySem.Spec PyProof.Rows L2
theorem compGo_ner {α β : Type} {cf : α → R Bool} {f : α → R β} : ∀ (l : List α) (c : Er), compGo cf f l ≠ .er c
  | [], c, z => by cases z
  | x :: l, c, z => by
    unfold compGo at z
    cases h1 : cf x with
    | ok b =>
      rw [h1] at z
      have z2 : (if b = true then R.bd (f x).nx fun y => R.bd (compGo cf f l) fun ys => .ok (y :: ys) else compGo cf f l) = .er c := z
      cases b with
      | true =>
        rw [if_pos rfl] at z2
        cases h2 : f x with
        | ok y =>
          rw [h2] at z2
          have z3 : (R.bd (compGo cf f l) fun ys => .ok (y :: ys)) = .er c := z2
          cases h3 : compGo cf f l with
          | ok ys => rw [h3] at z3; cases z3
          | er c' => exact compGo_ner l c' h3
          | bad => rw [h3] at z3; cases z3
        | er c' => rw [h2] at z2; cases z2
        | bad => rw [h2] at z2; cases z2
      | false =>
        rw [if_neg Bool.false_ne_true] at z2
        exact compGo_ner l c z2
    | er c' => rw [h1] at z; cases z
    | bad => rw [h1] at z; cases z
section
variable {K : PySem.W.Frag} {E : XK} {σ : L2.St} {H : Hp} {α β : Type} [Rp α] [Rp β] [Tr β]
theorem trl_agr {S : Addr → Prop} {H H' : Hp} {vs : List V} {xs : List β} (a : Agr S H H') (t : TrL (fun S v x => Tr.tr K H S v x) S vs xs) : TrL (fun S v x => Tr.tr K H' S v x) S vs xs :=
  t.mp fun S1 v x q r => Tr.mono (a.sub q) r
theorem agr_upd {S : Addr → Prop} {H H' : Hp} {p : Addr} {vs ws : List V} (e : Same H H') (hp : H' p = some (.lst vs)) (n : ∀ b, S b → b ≠ p) : Agr S H (upd H' p (.lst ws)) := fun b o h z => by
  have : b ≠ p := fun w => by
    rcases z with z | z
    · exact n b z w
    · have q := e b o h
      rw [w, hp] at q
      cases q
      cases z
  rw [upd_ne this]
  exact e b o h
/-- a comprehension of new things -/
theorem gx_comp {wi : TI} {g : TG} {tt : TT} {te : TE} {vs : List Nat} {m : R (List α)} {cf : α → R Bool} {f : α → R β} (hi : GrI K E wi σ H H m)
    (hel : ∀ x v H2, Same H H2 → Rp.rep K H2 v x → ∃ σ2, (∀ Q : L2.St → Hp → Prop, Q σ2 H2 → g v (wipe σ vs) H2 Q) ∧ wipe σ2 vs = wipe σ vs ∧ GrT K EF tt σ2 H2 (cf x) ∧ GrX K EF te σ2 H2 (f x)) :
    GrX K E (tLc wi g tt te vs) σ H (R.bd m fun xs => compR xs cf f) := fun H1 e Q hq =>
  hi H1 e _ (by
    rw [wp_bd] at hq
    refine wp_mono hq (fun xs _ k J H2 e2 ok => ?_) fun _ _ z => z
    unfold compR gd at k
    split at k
    · rename_i cl
      intro Dl hD
      have hnD : H Dl = none := Same.free (e.trans e2) hD
      refine ⟨fun i m H' => m = xs.length - i ∧ i ≤ xs.length ∧ Same H2 H' ∧ ∃ acc ys S1, H' Dl = some (.lst acc) ∧ acc.length ≤ i ∧ TrL (fun S v x => Tr.tr K H' S v x) S1 acc (ys : List β) ∧ (∀ b, S1 b → H b = none ∧ b ≠ Dl ∧ muc H' b) ∧
        Wp (compGo cf f (xs.drop i)) (fun zs => ∀ H3, Same H1 H3 → ∀ v, (∃ S, Tr.tr K H3 S v (ys ++ zs) ∧ NewS H H3 S) → Q v H3) (fun _ => False), ⟨_, rfl, Nat.zero_le _, same_upd hD, [], [], fun _ => False, upd_same, Nat.le_refl _, .nil, fun _ z => z.elim, ?_⟩, ?_⟩
      · rw [List.drop_zero]
        exact wp_mono k (fun zs _ q H3 e3 v r => q v H3 e3 r) fun c hc _ => compGo_ner _ _ hc
      · rintro i m H' ⟨rfl, hi', sH, acc, ys, S1, hacc, hal, hall, hS, hw⟩
        have hG : Same (mix H H H2) H' := (mix_same (Same.refl _) (e.trans e2)).trans sH
        by_cases ci : i < xs.length
        · refine .inr ⟨ok.go i H' hG ci, _, fun H3 h3 => ⟨xs.length - (i + 1), by omega, h3⟩, fun v H'' y => ?_⟩
          obtain ⟨e1, a, ha, r⟩ := ok.yld i H' v H'' hG ci y
          have hacc2 := e1 _ _ hacc
          obtain ⟨σ2, hg, hwp, gt, ge⟩ := hel a v H'' ((e.trans e2).trans (sH.trans e1)) (Rp.mono (mix_same hG e1) r)
          refine hg _ ⟨hwp, gt H'' (Same.refl _) _ ?_⟩
          rw [drop_get ha] at hw
          unfold compGo at hw
          rw [wp_bd] at hw
          refine wp_nx (wp_mono hw (fun b _ q H3 e3 => ?_) fun _ _ z => z)
          cases b with
          | true =>
            show te σ2 H3 _
            refine ge H3 e3 _ ?_
            have q2 : Wp (R.bd (f a).nx fun y => R.bd (compGo cf f (xs.drop (i + 1))) fun ys => .ok (y :: ys)) _ _ := q
            rw [wp_bd] at q2
            refine wp_nx (wp_mono q2 (fun y _ q3 w H4 e4 ⟨S2, r2, n2⟩ => ?_) fun _ _ z => z)
            have hacc4 := e4 _ _ (e3 _ _ hacc2)
            have apart : ∀ b, S1 b → ¬ S2 b := fun b z w => muc_some (hS b z).2.2 (Same.free e1 (n2 b w).1)
            have nD : ∀ b, S2 b → b ≠ Dl := fun b w z => by rw [z] at w; have := (n2 Dl w).1; rw [hacc2] at this; cases this
            refine ⟨acc, hacc4, lim_line' (by omega), rfl, ci, ?_, acc ++ [w], ys ++ [y], fun b => S1 b ∨ S2 b, upd_same, by rw [List.length_append]; simp; omega, ?_, ?_, ?_⟩
            · exact fun x o h => by
                have ne : x ≠ Dl := fun z => by rw [z, hD] at h; cases h
                rw [upd_ne ne]
                exact e4 _ _ (e3 _ _ (e1 _ _ (sH _ _ h)))
            · exact (trl_agr (agr_upd (e1.trans (e3.trans e4)) hacc4 fun b z => (hS b z).2.1) hall).snoc (Tr.mono (agr_upd (Same.refl _) hacc4 nD) r2) (fun b z => ⟨.inl z, apart b z⟩) fun b z => .inr z
            · intro b z
              rcases z with z | z
              · obtain ⟨h1, h2, o, h3, h4⟩ := hS b z
                exact ⟨h1, h2, o, by rw [upd_ne h2]; exact e4 _ _ (e3 _ _ (e1 _ _ h3)), h4⟩
              · obtain ⟨h1, o, h3, h4⟩ := n2 b z
                exact ⟨Same.free ((e.trans e2).trans (sH.trans e1)) h1, nD b z, o, by rw [upd_ne (nD b z)]; exact h3, h4⟩
            · rw [wp_bd] at q3
              refine wp_mono q3 (fun zs _ q4 H5 e5 v5 r5 => ?_) fun _ _ z => z
              refine q4 H5 e5 v5 ?_
              rw [List.append_assoc] at r5
              exact r5
          | false =>
            have ee := e1.trans e3
            exact ⟨rfl, ci, fun x o h => ee _ _ (sH _ _ h), acc, ys, S1, ee _ _ hacc, by omega, trl_agr (Agr.same ee) hall, fun b z => ⟨(hS b z).1, (hS b z).2.1, muc_mono ee (hS b z).2.2⟩, q⟩
        · have ei : i = xs.length := by omega
          refine .inl ⟨ok.stop i H' hG ei, ?_⟩
          rw [ei, List.drop_length] at hw
          have hw2 : ∀ H3, Same H1 H3 → ∀ v, (∃ S, Tr.tr K H3 S v (ys ++ []) ∧ NewS H H3 S) → Q v H3 := hw
          refine hw2 H' (e2.trans sH) _ ?_
          rw [List.append_nil]
          refine ⟨fun b => S1 b ∨ b = Dl, ⟨Dl, acc, S1, rfl, hacc, .inr rfl, fun b z => ⟨.inl z, (hS b z).2.1⟩, hall⟩, fun b z => ?_⟩
          rcases z with z | z
          · exact ⟨(hS b z).1, (hS b z).2.2⟩
          · rw [z]; exact ⟨hnD, _, hacc, rfl⟩
    · exact k.elim)
/-- the items of a list of parts apart that pass a test -/
theorem gx_filter [Tr α] {tl : TE} {g : TG} {tt : TT} {te : TE} {vs : List Nat} {m : R (Apt (List α))} {cf : α → R Bool} (hi : Gr K E tl σ nil0 H m)
    (hel : ∀ x v H2, Same H H2 → Rp.rep K H2 v x → ∃ σ2, (∀ Q : L2.St → Hp → Prop, Q σ2 H2 → g v (wipe σ vs) H2 Q) ∧ wipe σ2 vs = wipe σ vs ∧ GrT K EF tt σ2 H2 (cf x) ∧ ∀ H3 (Q : VK), Q v H3 → te σ2 H3 Q) :
    GrX K E (tLc (iList K tl) g tt te vs) σ H (R.bd m fun xs => compR xs.l cf fun x => .ok x) := fun H1 e Q hq =>
  hi H1 e _ (by
    rw [wp_bd] at hq
    refine wp_mono hq (fun ax _ k v0 H2 e2 r0 => ?_) fun _ _ z => z
    obtain ⟨xs⟩ := ax
    obtain ⟨S0, r0⟩ := r0
    obtain ⟨p, us, SA, rfl, hp, hSp, hSA, t0⟩ := Tr.cut r0
    have s2 : Same (mix nil0 H H2) H2 := mix_same nil_same (e.trans e2)
    have nw : ∀ b, muc (mix nil0 H H2) b → H b = none := fun b ⟨o, h, t⟩ => by
      rcases mix_cases h with ⟨z, _⟩ | ⟨_, w⟩ | ⟨_, _, _, w⟩
      · exact z
      · rw [t] at w; cases w
      · cases w
    have hp2 := s2 _ _ hp
    have len : us.length = xs.length := (t0.all (F := fun _ _ => True) fun _ _ _ _ => trivial).length
    refine ⟨p, rfl, ⟨us, SqL.of hp2⟩, ?_⟩
    have k : Wp (compR xs cf fun x => .ok x) _ _ := k
    unfold compR gd at k
    split at k
    · rename_i cl
      intro Dl hD
      have hnD : H Dl = none := Same.free (e.trans e2) hD
      have nD : ∀ b, muc (mix nil0 H H2) b → b ≠ Dl := fun b ⟨o, h, _⟩ z => by have := s2 _ _ h; rw [z, hD] at this; cases this
      refine ⟨fun i m H' => m = xs.length - i ∧ i ≤ xs.length ∧ Same H2 H' ∧ ∃ acc ys S1 S2, H' Dl = some (.lst acc) ∧ acc.length ≤ i ∧ TrL (fun S v x => Tr.tr K H' S v x) S1 acc (ys : List α) ∧ TrL (fun S v x => Tr.tr K H' S v x) S2 (us.drop i) (xs.drop i) ∧
        (∀ b, S1 b → muc (mix nil0 H H2) b ∧ ¬ S2 b) ∧ (∀ b, S2 b → muc (mix nil0 H H2) b) ∧
        Wp (compGo cf (fun x => .ok x) (xs.drop i)) (fun zs => ∀ H3, Same H1 H3 → ∀ v, (∃ S, Tr.tr K H3 S v (ys ++ zs) ∧ NewS H H3 S) → Q v H3) (fun _ => False), ⟨_, rfl, Nat.zero_le _, same_upd hD, [], [], fun _ => False, SA, upd_same, Nat.le_refl _, .nil, ?_, fun _ z => z.elim, fun b z => (hSA b z).1.2, ?_⟩, ?_⟩
      · rw [List.drop_zero, List.drop_zero]
        exact trl_agr (Agr.same (s2.trans (same_upd hD))) t0
      · rw [List.drop_zero]
        exact wp_mono k (fun zs _ q H3 e3 v r => q v H3 e3 r) fun c hc _ => compGo_ner _ _ hc
      · rintro i m H' ⟨rfl, hi', sH, acc, ys, S1, S2, hacc, hal, hall, hrest, h1, h2, hw⟩
        have hp' := sH _ _ hp2
        by_cases ci : i < xs.length
        · have cu : i < us.length := by omega
          refine .inr ⟨⟨us, us[i], SqL.of hp', List.getElem?_eq_getElem cu⟩, _, fun H3 h3 => ⟨xs.length - (i + 1), by omega, h3⟩, fun v H'' y => ?_⟩
          obtain ⟨rfl, y⟩ := y
          have hv := y us (SqL.of hp')
          obtain ⟨a, ha⟩ : ∃ a, xs[i]? = some a := ⟨_, List.getElem?_eq_getElem ci⟩
          rw [drop_get hv, drop_get ha] at hrest
          cases hrest with
          | @cons _ A1 A2 _ _ _ _ k1 k2 r t =>
            obtain ⟨σ2, hg, hwp, gt, ge⟩ := hel a v H'' ((e.trans e2).trans sH) (Tr.rep r)
            refine hg _ ⟨hwp, gt H'' (Same.refl _) _ ?_⟩
            rw [drop_get ha] at hw
            unfold compGo at hw
            rw [wp_bd] at hw
            refine wp_nx (wp_mono hw (fun b _ q H3 e3 => ?_) fun _ _ z => z)
            cases b with
            | true =>
              show te σ2 H3 _
              refine ge H3 _ ?_
              have q2 : Wp (R.bd (R.ok a).nx fun y => R.bd (compGo cf (fun x => .ok x) (xs.drop (i + 1))) fun ys => .ok (y :: ys)) _ _ := q
              have hacc3 := e3 _ _ hacc
              have ag : ∀ S : Addr → Prop, (∀ b, S b → muc (mix nil0 H H2) b) → Agr S H'' (upd H3 Dl (.lst (acc ++ [v]))) := fun S hS => agr_upd e3 hacc3 fun b z => nD b (hS b z)
              refine ⟨acc, hacc3, lim_line' (by omega), rfl, ci, ?_, acc ++ [v], ys ++ [a], fun b => S1 b ∨ A1 b, A2, upd_same, by rw [List.length_append]; simp; omega, ?_, ?_, ?_, ?_, ?_⟩
              · exact fun x o h => by
                  have ne : x ≠ Dl := fun z => by rw [z, hD] at h; cases h
                  rw [upd_ne ne]
                  exact e3 _ _ (sH _ _ h)
              · exact (trl_agr (ag S1 fun b z => (h1 b z).1) hall).snoc (Tr.mono (ag A1 fun b z => h2 b (k1 b z).1) r) (fun b z => ⟨.inl z, fun w => (h1 b z).2 (k1 b w).1⟩) fun b z => .inr z
              · exact trl_agr (ag A2 fun b z => h2 b (k2 b z)) t
              · intro b z
                rcases z with z | z
                · exact ⟨(h1 b z).1, fun w => (h1 b z).2 (k2 b w)⟩
                · exact ⟨h2 b (k1 b z).1, (k1 b z).2⟩
              · exact fun b z => h2 b (k2 b z)
              · have q3 : Wp (R.bd (compGo cf (fun x => .ok x) (xs.drop (i + 1))) fun ys => .ok (a :: ys)) _ _ := q2
                rw [wp_bd] at q3
                refine wp_mono q3 (fun zs _ q4 H5 e5 v5 r5 => ?_) fun _ _ z => z
                refine q4 H5 e5 v5 ?_
                rw [List.append_assoc] at r5
                exact r5
            | false =>
              exact ⟨rfl, ci, fun x o h => e3 _ _ (sH _ _ h), acc, ys, S1, A2, e3 _ _ hacc, by omega, trl_agr (Agr.same e3) hall, trl_agr (Agr.same e3) t, fun b z => ⟨(h1 b z).1, fun w => (h1 b z).2 (k2 b w)⟩, fun b z => h2 b (k2 b z), q⟩
        · have ei : i = xs.length := by omega
          refine .inl ⟨⟨us, SqL.of hp', by omega⟩, ?_⟩
          rw [ei, List.drop_length] at hw
          have hw2 : ∀ H3, Same H1 H3 → ∀ v, (∃ S, Tr.tr K H3 S v (ys ++ []) ∧ NewS H H3 S) → Q v H3 := hw
          refine hw2 H' (e2.trans sH) _ ?_
          rw [List.append_nil]
          refine ⟨fun b => S1 b ∨ b = Dl, ⟨Dl, acc, S1, rfl, hacc, .inr rfl, fun b z => ⟨.inl z, nD b (h1 b z).1⟩, hall⟩, fun b z => ?_⟩
          rcases z with z | z
          · exact ⟨nw b (h1 b z).1, muc_mono (s2.trans sH) (h1 b z).1⟩
          · rw [z]; exact ⟨hnD, _, hacc, rfl⟩
    · exact k.elim)
end
end G

set_option Elab.async false
set_option linter.all false
set_option maxRecDepth 100000
set_option maxHeartbeats 4000000
/-! G: what was told with its parts apart is ours to change, part by part. -/
namespace G
open PySem PySem.Spec PyProof.Rows L2
structure ApO {α : Type} [Rp α] [Tr α] (K : PySem.W.Frag) (H0 F H : Hp) (SS : Addr → Prop) (v : V) (a : α) : Prop where
  ex : ∃ S, Tr.tr K H S v a ∧ ∀ b, S b → SS b ∧ F b = none ∧ H0 b = none ∧ muc H b
/-- F and the tuples of H -/
def tupF (F H : Hp) : Hp := fun b => if tupB (H b) = true then H b else F b
section
variable {K : PySem.W.Frag} {E : XK} {σ : L2.St} {H0 F H F' H' : Hp} {te ta tb to ti : TE} {t : TT} {tu tw : TS} {α β γ δ ρ S : Type} [Rp α] [Rp β] [Rp γ] [Rp δ] [Tr α] [Tr β] [Tr γ] [Tr δ] [Rp ρ] {D : Ends} {P P2 : Addr → Prop} {SS : Addr → Prop} {v : V} {a : α}
theorem tupF_ff (e : Same F H) : Same F (tupF F H) := fun b o h => by
  unfold tupF
  split
  · exact e b o h
  · exact h
theorem tupF_le (e : Same F H) : Same (tupF F H) H := fun b o h => by
  unfold tupF at h
  split at h
  · exact h
  · exact e b o h
theorem tupF_tup {b : Addr} {xs : List V} (h : H b = some (.tup xs)) : tupF F H b = some (.tup xs) := by
  unfold tupF
  rw [h]
  rfl
theorem tupF_none {b : Addr} (h : tupB (H b) = false) (f : F b = none) : tupF F H b = none := by
  unfold tupF
  rw [h]
  exact f
theorem muc_tb {b : Addr} (h : muc H b) : tupB (H b) = false := by obtain ⟨o, h1, h2⟩ := h; rw [h1]; exact h2
theorem nx_tupF {H2 : Hp} (hF : Same F H) (e : Same H H2) : Nx0 F H (tupF F H2) H2 :=
  ⟨tupF_ff (hF.trans e), fun b o _ h => e b o h, tupF_le (hF.trans e), fun b o z h n => tupF_none (by rw [e b o h]; exact z) n, fun b o h => ⟨o, e b o h, rfl⟩⟩
theorem Own.nt {τ : Type} [Rp τ] [Cel τ] {b : Bool} {p : Addr} {x : τ} (o : Own K H0 b F H p x) : tupB (H p) = false := by
  obtain ⟨_, _, u, h, r⟩ := o
  rw [h]
  exact Cel.nt r
theorem ApO.see (o : ApO K H0 F H SS v a) : Rp.rep K H v a := let ⟨_, r, _⟩ := o.ex; Tr.rep r
theorem nx_agr {S : Addr → Prop} (n : Nx P F H F' H') (hp : ∀ q, P q → ¬ S q) (ht : ∀ q, P q → tupB (H q) = false) : Agr S H H' := fun b o h z => by
  refine n.hh b o (fun w => ?_) h
  rcases z with z | z
  · exact hp b w z
  · have := ht b w
    rw [h, z] at this
    cases this
theorem ApO.nx (o : ApO K H0 F H SS v a) (n : Nx P F H F' H') (hp : ∀ q, P q → ¬ SS q) (ht : ∀ q, P q → tupB (H q) = false) : ApO K H0 F' H' SS v a := by
  obtain ⟨S, r, h⟩ := o.ex
  refine ⟨S, Tr.mono (nx_agr n (fun q z w => hp q z (h q w).1) ht) r, fun b z => ?_⟩
  obtain ⟨h1, h2, h3, u, h4, h5⟩ := h b z
  have h6 := n.hh b u (fun w => hp b w h1) h4
  exact ⟨h1, n.own b u h5 h4 h2, h3, u, h6, h5⟩
theorem ApO.nx0 (o : ApO K H0 F H SS v a) (n : Nx0 F H F' H') : ApO K H0 F' H' SS v a := o.nx n (fun _ z => z.elim) fun _ z => z.elim
theorem ApO.fz {F1 : Hp} {p : Addr} (o : ApO K H0 F H SS v a) (f : ∀ q, q ≠ p → F1 q = F q) (ns : ¬ SS p) : ApO K H0 F1 H SS v a := by
  obtain ⟨S, r, h⟩ := o.ex
  refine ⟨S, r, fun b z => ?_⟩
  obtain ⟨h1, h2, h3, h4⟩ := h b z
  exact ⟨h1, by rw [f b (fun w => ns (w ▸ h1))]; exact h2, h3, h4⟩
/-- what is told is ours -/
theorem s_asgAp {i : Nat} {m : R (Apt α)} {k : α → R ρ} {kk : ρ → Prop} (he : Gr K E te σ nil0 H m) (hF : Same F H) (e0 : Same H0 H) (hQ : Wp (R.bd (R.bd m fun a => .ok a.l) k) kk (EE K E H0))
    (c : ∀ a v F' H' SS, Nx0 F H F' H' → Same H0 H' → ApO K H0 F' H' SS v a → (∀ b, SS b → H b = none) → (∀ b, SS b → H' b ≠ none) → Wp (k a) kk (EE K E H0) → D.nx (σ.set i (some v)) H') : tAsg te (gName i) D σ H := by
  refine he H (Same.refl _) _ ?_
  rw [bd_assoc, wp_bd] at hQ
  refine wp_mono hQ (fun a _ q v H2 e2 ⟨S, r⟩ => ?_) fun c _ z => z.mono e0
  have s2 : Same (mix nil0 H H2) H2 := mix_same nil_same e2
  have key : ∀ b, muc (mix nil0 H H2) b → H b = none ∧ muc H2 b := fun b ⟨o, h, t⟩ => by
    rcases mix_cases h with ⟨z, w⟩ | ⟨_, w⟩ | ⟨_, _, _, w⟩
    · exact ⟨z, o, w, t⟩
    · rw [t] at w; cases w
    · cases w
  have n := nx_tupF hF e2
  refine c a.l v _ H2 (fun b => H b = none ∧ muc H2 b) n (e0.trans e2) ⟨_, Tr.mono (Agr.same s2) (Tr.cut r), fun b z => ?_⟩ (fun b z => z.1) (fun b z => muc_some z.2) q
  obtain ⟨h1, h2⟩ := key b z.2
  exact ⟨⟨h1, h2⟩, tupF_none (muc_tb h2) (Same.free hF h1), Same.free e0 h1, h2⟩
/-- a triple, its last part ours -/
theorem s_asgAp3 [Im α] [Im β] {i : Nat} {m : R (T3 α β (Apt γ))} {k : T3 α β γ → R ρ} {kk : ρ → Prop} (he : Gr K E te σ nil0 H m) (hF : Same F H) (e0 : Same H0 H) (hQ : Wp (R.bd (R.bd m fun a => .ok (T3.mk a.a a.b a.c.l)) k) kk (EE K E H0))
    (c : ∀ a b g x y z p F' H' SS, Nx0 F H F' H' → Same H0 H' → F' p = some (.tup [x, y, z]) → Rp.rep K F' x a → Rp.rep K F' y b → ApO K H0 F' H' SS z g → (∀ b, SS b → H b = none) → (∀ b, SS b → H' b ≠ none) → Wp (k ⟨a, b, g⟩) kk (EE K E H0) → D.nx (σ.set i (some (.ref p))) H') : tAsg te (gName i) D σ H := by
  refine he H (Same.refl _) _ ?_
  rw [bd_assoc, wp_bd] at hQ
  refine wp_mono hQ (fun a _ q v H2 e2 r => ?_) fun c _ z => z.mono e0
  obtain ⟨p, x, y, z, rfl, hp, r1, r2, S, r⟩ := r
  have s2 : Same (mix nil0 H H2) H2 := mix_same nil_same e2
  have key : ∀ b, muc (mix nil0 H H2) b → H b = none ∧ muc H2 b := fun b ⟨o, h, t⟩ => by
    rcases mix_cases h with ⟨z, w⟩ | ⟨_, w⟩ | ⟨_, _, _, w⟩
    · exact ⟨z, o, w, t⟩
    · rw [t] at w; cases w
    · cases w
  have tp : ∀ p xs, mix nil0 H H2 p = some (.tup xs) → tupF F H2 p = some (.tup xs) := fun p xs h => tupF_tup (s2 _ _ h)
  refine c a.a a.b a.c.l x y z p _ H2 (fun b => H b = none ∧ muc H2 b) (nx_tupF hF e2) (e0.trans e2) (tp _ _ hp) (Im.mv tp r1) (Im.mv tp r2) ⟨_, Tr.mono (Agr.same s2) (Tr.cut r), fun b z => ?_⟩ (fun b z => z.1) (fun b z => muc_some z.2) q
  obtain ⟨h1, h2⟩ := key b z.2
  exact ⟨⟨h1, h2⟩, tupF_none (muc_tb h2) (Same.free hF h1), Same.free e0 h1, h2⟩
/-- a, b = x, x ours with its parts apart -/
theorem s_unpAp {i j n : Nat} {x : α × β} (o : ApO K H0 F H SS v x) (hv : σ[n]? = some (some v))
    (c : ∀ x1 y1 S1 S2, ApO K H0 F H S1 x1 x.1 → ApO K H0 F H S2 y1 x.2 → (∀ q, S1 q → ¬ S2 q) → (∀ q, S1 q → SS q ∧ H q ≠ none) → (∀ q, S2 q → SS q ∧ H q ≠ none) → D.nx ((σ.set i (some x1)).set j (some y1)) H) : tAsg (tVar n) (gTup K 2 (gCons (gName i) (gCons (gName j) gNil))) D σ H := by
  obtain ⟨S, r, h⟩ := o.ex
  obtain ⟨p, x1, y1, S1, S2, rfl, hp, d1, d2, r1, r2⟩ := r
  refine ⟨_, hv, p, _, rfl, SqT.of hp, rfl, x1, _, rfl, y1, _, rfl, rfl, c x1 y1 S1 S2 ⟨S1, r1, fun b z => ?_⟩ ⟨S2, r2, fun b z => ?_⟩ (fun q z => (d1 q z).2) (fun q z => ⟨(h q (d1 q z).1).1, muc_some (h q (d1 q z).1).2.2.2⟩) fun q z => ⟨(h q (d2 q z)).1, muc_some (h q (d2 q z)).2.2.2⟩⟩
  · obtain ⟨_, h2, h3, h4⟩ := h b (d1 b z).1
    exact ⟨z, h2, h3, h4⟩
  · obtain ⟨_, h2, h3, h4⟩ := h b (d2 b z)
    exact ⟨z, h2, h3, h4⟩
/-! ### a part of it -/
def AtV (te : TE) (σ : L2.St) (H : Hp) (v : V) : Prop := ∀ H1, Same H H1 → ∀ Q : VK, Q v H1 → te σ H1 Q
def AtI (te : TE) (σ : L2.St) (i : Int) : Prop := ∀ H1, ∀ Q : VK, Q (.int i) H1 → te σ H1 Q
theorem ati_c {i : Int} : AtI (tC (.int i)) σ i := fun _ _ q => q
theorem ati_v {n : Nat} {i : Int} (h : σ[n]? = some (some (.int i)) := by rfl) : AtI (tVar n) σ i := fun _ _ q => ⟨_, h, q⟩
theorem atv_v {n : Nat} (h : σ[n]? = some (some v)) : AtV (tVar n) σ H v := fun _ _ _ q => ⟨_, h, q⟩
theorem atv_t3c {n : Nat} {p : Addr} {x y z : V} (h : σ[n]? = some (some (.ref p))) (hF : Same F H) (hp : F p = some (.tup [x, y, z])) : AtV (tOp (rIxT K) (tVar n) (tC (.int 2))) σ H z := fun H1 e Q q => ⟨_, h, p, _, 2, z, rfl, rfl, SqT.of (e _ _ (hF _ _ hp)), rfl, q⟩
def Sub (K : PySem.W.Frag) (to : TE) (σ : L2.St) (H : Hp) (v : V) (a : α) (b : β) (put : β → α) : Prop :=
  ∀ S, Tr.tr K H S v a → ∃ w S1, AtV to σ H w ∧ Tr.tr K H S1 w b ∧ (∀ q, S1 q → S q) ∧ ∀ H' b', Agr (fun z => S z ∧ ¬ S1 z) H H' → Tr.tr K H' S1 w b' → Tr.tr K H' S v (put b')
theorem sub_v (h : AtV to σ H v) : Sub K to σ H v a a id := fun S r => ⟨v, S, h, r, fun _ z => z, fun _ _ _ r => r⟩
theorem sub_fst {b : β × γ} {put : β × γ → α} (s : Sub K to σ H v a b put) : Sub K (tOp (rIxT K) to (tC (.int 0))) σ H v a b.1 (fun x => put (x, b.2)) := fun S r => by
  obtain ⟨w, S1, h1, h2, h3, h4⟩ := s S r
  obtain ⟨p, x, y, A1, A2, rfl, hp, d1, d2, r1, r2⟩ := h2
  refine ⟨x, A1, fun H1 e Q q => h1 H1 e _ ⟨p, _, 0, x, rfl, rfl, SqT.of (e _ _ hp), rfl, q⟩, r1, fun q z => h3 q (d1 q z).1, fun H' b' ag rb => h4 H' _ (ag.sub fun z y => ⟨y.1, fun w => y.2 (d1 z w).1⟩) ⟨p, x, y, A1, A2, rfl, ag p _ hp (.inr rfl), d1, d2, rb, Tr.mono (ag.sub fun z y => ⟨h3 z (d2 z y), fun w => (d1 z w).2 y⟩) r2⟩⟩
theorem sub_snd {b : β × γ} {put : β × γ → α} (s : Sub K to σ H v a b put) : Sub K (tOp (rIxT K) to (tC (.int 1))) σ H v a b.2 (fun x => put (b.1, x)) := fun S r => by
  obtain ⟨w, S1, h1, h2, h3, h4⟩ := s S r
  obtain ⟨p, x, y, A1, A2, rfl, hp, d1, d2, r1, r2⟩ := h2
  refine ⟨y, A2, fun H1 e Q q => h1 H1 e _ ⟨p, _, 1, y, rfl, rfl, SqT.of (e _ _ hp), rfl, q⟩, r2, fun q z => h3 q (d2 q z), fun H' b' ag rb => h4 H' _ (ag.sub fun z y => ⟨y.1, fun w => y.2 (d2 z w)⟩) ⟨p, x, y, A1, A2, rfl, ag p _ hp (.inr rfl), d1, d2, Tr.mono (ag.sub fun z y => ⟨h3 z (d1 z y).1, fun w => (d1 z y).2 w⟩) r1, rb⟩⟩
theorem sub_ix {b : List β} {put : List β → α} {i : Int} {j : Nat} {x : β} (s : Sub K to σ H v a b put) (hi : AtI ti σ i) (hj : ixN b.length i = some j) (hx : b[j]? = some x) : Sub K (tOp (rIxL K) to ti) σ H v a x (fun y => put (b.set j y)) := fun S r => by
  obtain ⟨w, S1, h1, h2, h3, h4⟩ := s S r
  obtain ⟨p, vs, A, rfl, hp, hSp, hA, t⟩ := h2
  have len : vs.length = b.length := (t.all (F := fun _ _ => True) fun _ _ _ _ => trivial).length
  obtain ⟨u, B, e1, r1, s1, k1⟩ := t.at hx
  refine ⟨u, B, fun H1 e Q q => h1 H1 e _ (hi H1 _ ⟨p, vs, i, u, rfl, rfl, SqL.of (e _ _ hp), ?_, q⟩), r1, fun q z => h3 q (hA q (s1 q z)).1, fun H' b' ag rb => h4 H' _ (ag.sub fun z y => ⟨y.1, fun w => y.2 (hA z (s1 z w)).1⟩) ⟨p, vs, A, rfl, ag p _ hp (.inl ⟨h3 p hSp, fun w => (hA p (s1 p w)).2 rfl⟩), hSp, hA, ?_⟩⟩
  · unfold atI
    rw [len, hj]
    exact e1
  · exact k1 (fun S v a => Tr.tr K H' S v a) b' rb fun S' v a q r => Tr.mono (ag.sub fun z y => ⟨h3 z (hA z (q z y).1).1, (q z y).2⟩) r
/-- x.append(e), x a list of ours or a part of a thing of ours -/
theorem s_apF [Nc γ] {ys : List γ} {put : List γ → α} {me : R γ} {k : List γ → R ρ} {kk : ρ → Prop} (o : ApO K H0 F H SS v a) (s : Sub K to σ H v a ys put) (he : Gr K E te σ H H me) (hF : Same F H) (e0 : Same H0 H)
    (hQ : Wp (R.bd (R.bd me fun e => appR ys e) k) kk (EE K E H0))
    (c : ∀ y q F' H', Nx (fun z => z = q) F H F' H' → Same H0 H' → SS q → tupB (H q) = false → ApO K H0 F' H' SS v (put y) → Wp (k y) kk (EE K E H0) → D.nx σ H') : tDrop (tBM K "list" rAppend to (tCons te tNil)) D σ H := by
  obtain ⟨S, r, hS⟩ := o.ex
  obtain ⟨w, S1, h1, h2, h3, h4⟩ := s S r
  obtain ⟨p, vs, A, rfl, hp, hSp, hA, t⟩ := h2
  have sp := hS p (h3 p hSp)
  refine h1 H (Same.refl _) _ ⟨.inl ⟨rfl, _, SqL.of hp⟩, ?_⟩
  refine he H (Same.refl _) _ ?_
  rw [bd_assoc, wp_bd] at hQ
  refine wp_mono hQ (fun e _ q u H2 e2 re => ?_) fun c _ z => z.mono e0
  rw [wp_bd] at q
  have len : vs.length = ys.length := (t.all (F := fun _ _ => True) fun _ _ _ _ => trivial).length
  unfold appR gd at q
  split at q
  · rename_i cl
    have hp2 := e2 _ _ hp
    refine ⟨p, vs, u, rfl, rfl, hp2, lim_line' (by rw [len]; exact cl), ?_⟩
    have ag : Agr (fun z => S z ∧ z ≠ p) H (upd H2 p (.lst (vs ++ [u]))) := agr_upd e2 hp2 fun b z => z.2
    have n := nx_upd (o' := .lst (vs ++ [u])) hF e2 hp sp.2.1
    have re' : Rp.rep K (upd H2 p (.lst (vs ++ [u]))) u e := by
      have r2 : Tr.tr K H2 (fun _ => False) u e := Nc.of (Rp.mono (mix_same (Same.refl _) e2) re)
      exact Tr.rep (Tr.mono (agr_upd (Same.refl _) hp2 fun _ z => z.elim) r2)
    have all : All2 (Rp.rep K (upd H2 p (.lst (vs ++ [u])))) (vs ++ [u]) (ys ++ [e]) := by
      have t2 : TrL (fun (_ : Addr → Prop) v x => Rp.rep K (upd H2 p (.lst (vs ++ [u]))) v x) A vs ys := t.mp fun S1 v x q r => by
        have r2 : Tr.tr K H (fun _ => False) v x := Nc.of (Tr.rep r)
        exact Tr.rep (Tr.mono (agr_upd e2 hp2 fun _ z => z.elim) r2)
      exact All2.append (t2.all (F := Rp.rep K (upd H2 p (.lst (vs ++ [u])))) fun _ _ _ r => r) (.cons re' .nil)
    refine c (ys ++ [e]) p _ _ n (e0_upd e0 e2 sp.2.2.1) sp.1 (by rw [hp]; rfl) ⟨S, h4 _ _ (ag.sub fun z y => ⟨y.1, fun w => y.2 (w ▸ hSp)⟩) (tr_leaf upd_same all hSp), fun b z => ?_⟩ q
    obtain ⟨a1, a2, a3, x, a4, a5⟩ := hS b z
    refine ⟨a1, by rw [mix_old a4 a5]; exact a2, a3, ?_⟩
    by_cases cb : b = p
    · rw [cb]; exact ⟨_, upd_same, rfl⟩
    · exact ⟨x, by rw [upd_ne cb]; exact e2 _ _ a4, a5⟩
  · exact q.elim
/-- x.append(e), x ours: afterwards it is gone -/
theorem s_apDie {xs : List γ} {me : R δ} {k : Unit → R ρ} {kk : ρ → Prop} (o : ApO K H0 F H SS v xs) (hv : AtV to σ H v) (he : Gr K E te σ H H me) (hF : Same F H) (e0 : Same H0 H)
    (hQ : Wp (R.bd (R.bd me fun _ => gd (xs.length < lim) (.ok ())) k) kk (EE K E H0))
    (c : ∀ q F' H', Nx (fun z => z = q) F H F' H' → Same H0 H' → SS q → tupB (H q) = false → Wp (k ()) kk (EE K E H0) → D.nx σ H') : tDrop (tBM K "list" rAppend to (tCons te tNil)) D σ H := by
  obtain ⟨S, r, hS⟩ := o.ex
  obtain ⟨p, vs, A, rfl, hp, hSp, hA, t⟩ := r
  have sp := hS p hSp
  refine hv H (Same.refl _) _ ⟨.inl ⟨rfl, _, SqL.of hp⟩, ?_⟩
  refine he H (Same.refl _) _ ?_
  rw [bd_assoc, wp_bd] at hQ
  refine wp_mono hQ (fun e _ q u H2 e2 re => ?_) fun c _ z => z.mono e0
  have len : vs.length = xs.length := (t.all (F := fun _ _ => True) fun _ _ _ _ => trivial).length
  unfold gd at q
  split at q
  · rename_i cl
    have hp2 := e2 _ _ hp
    refine ⟨p, vs, u, rfl, rfl, hp2, lim_line' (by rw [len]; exact cl), ?_⟩
    exact c p _ _ (nx_upd (o' := .lst (vs ++ [u])) hF e2 hp sp.2.1) (e0_upd e0 e2 sp.2.2.1) sp.1 (by rw [hp]; rfl) q
  · exact q.elim
theorem idx_wp {xs : List γ} {i : Int} {f : γ → R ρ} {kk : ρ → Prop} {ee : Er → Prop} (h : Wp (R.bd (idx xs i) f) kk ee) : ∃ j x, ixN xs.length i = some j ∧ xs[j]? = some x ∧ Wp (f x) kk ee := by
  unfold idx atI at h
  cases q : ixN xs.length i with
  | none => rw [q] at h; exact h.elim
  | some j =>
    rw [q] at h
    cases z : xs[j]? with
    | none =>
      have : (match (some j).bind (fun k => xs[k]?) with | some a => R.ok a | none => R.bad) = (R.bad : R γ) := by show (match xs[j]? with | some a => R.ok a | none => R.bad) = _; rw [z]
      have h2 : Wp (R.bd (match xs[j]? with | some a => R.ok a | none => R.bad) f) kk ee := h
      rw [z] at h2
      exact h2.elim
    | some x =>
      have h2 : Wp (R.bd (match xs[j]? with | some a => R.ok a | none => R.bad) f) kk ee := h
      rw [z] at h2
      exact ⟨j, x, rfl, z, h2⟩
theorem set_wp {xs : List γ} {i : Int} {j : Nat} {y : γ} {f : List γ → R ρ} {kk : ρ → Prop} {ee : Er → Prop} (hj : ixN xs.length i = some j) (h : Wp (R.bd (setR xs i y) f) kk ee) : Wp (f (xs.set j y)) kk ee := by
  unfold setR at h
  rw [hj] at h
  exact h
/-- the region's word: what was changed was ours, or new -/
theorem ap_in {F1 H1 : Hp} {q : Addr} (n : Nx P F H F1 H1) (hq : SS q) (ht : tupB (H1 q) = false) : (SS q ∧ tupB (H q) = false) ∨ H q = none := by
  cases z : H q with
  | none => exact .inr rfl
  | some o =>
    obtain ⟨o', h1, h2⟩ := n.th q o z
    rw [h1] at ht
    exact .inl ⟨hq, by rw [← h2]; exact ht⟩
/-! ### tests that change, one behind another -/
theorem s_ifOrM {S : Type} {J : Hp → Hp → S → Prop} {u : TT} {m : R (Bool × S)} {k : Bool × S → R ρ} {kk : ρ → Prop} (he : GrM K E te σ H0 F H P J m) (hQ : Wp (R.bd m k) kk (EE K E H0))
    (h1 : ∀ s F' H', Nx P F H F' H' → Same H0 H' → J F' H' s → Wp (k (false, s)) kk (EE K E H0) → tu D σ H') (h2 : ∀ s F' H', Nx P F H F' H' → Same H0 H' → J F' H' s → Wp (k (true, s)) kk (EE K E H0) → tIfS u tu tw D σ H') : tIfS (tOr (tNot (tB te)) u) tu tw D σ H :=
  he _ (by
    rw [wp_bd] at hQ
    refine wp_mono hQ (fun z _ q v F' H' n e j r => ⟨z.1, r, ?_⟩) fun c _ z => z
    obtain ⟨b, s⟩ := z
    cases b with
    | true => exact h2 s F' H' n e j q
    | false => exact h1 s F' H' n e j q)
theorem s_ifOrP {u : TT} {m : R Bool} {k : Bool → R ρ} {kk : ρ → Prop} (hc : GrT K E t σ H m) (hF : Same F H) (e0 : Same H0 H) (hQ : Wp (R.bd m k) kk (EE K E H0))
    (h1 : ∀ F' H', Nx0 F H F' H' → Same H0 H' → Wp (k true) kk (EE K E H0) → tu D σ H') (h2 : ∀ F' H', Nx0 F H F' H' → Same H0 H' → Wp (k false) kk (EE K E H0) → tIfS u tu tw D σ H') : tIfS (tOr t u) tu tw D σ H := by
  refine hc H (Same.refl _) _ ?_
  rw [wp_bd] at hQ
  refine wp_mono hQ (fun b _ q H2 e2 => ?_) fun c _ z => z.mono e0
  cases b with
  | true => exact h1 _ H2 (Nx.mk' hF e2) (e0.trans e2) q
  | false => exact h2 _ H2 (Nx.mk' hF e2) (e0.trans e2) q
/-! ### handed to a def -/
open Classical in
noncomputable def delS (S : Addr → Prop) (H : Hp) : Hp := fun b => if S b then none else H b
theorem delS_le {S : Addr → Prop} : Same (delS S H) H := fun b o h => by
  unfold delS at h
  split at h
  · cases h
  · exact h
theorem delS_none {S : Addr → Prop} {b : Addr} (h : S b) : delS S H b = none := if_pos h
theorem same_delS {S : Addr → Prop} (e : Same H0 H) (h : ∀ b, S b → H0 b = none) : Same H0 (delS S H) := fun b o z => by
  unfold delS
  rw [if_neg (fun w => by rw [h b w] at z; cases z)]
  exact e b o z
theorem Nx.wkN (n : Nx P F H F' H') (h : ∀ q, P q → P2 q ∨ H q = none) : Nx P2 F H F' H' :=
  ⟨n.ff, fun q o z w => n.hh q o (fun y => (h q y).elim z fun x => by rw [x] at w; cases w) w, n.fh, n.own, n.th⟩
/-- the def's own view -/
theorem apo_in {S0 : Addr → Prop} (r : Tr.tr K H S0 v a) (h : ∀ b, S0 b → F b = none ∧ muc H b) : ApO K (delS S0 H) F H (fun b => S0 b ∨ H b = none) v a :=
  ⟨S0, r, fun b z => ⟨.inl z, (h b z).1, delS_none z, (h b z).2⟩⟩
/-- the caller's -/
theorem apo_out {H1 : Hp} (o : ApO K H0 F H SS v a) (e : Same H H1) (hF : Same F H) : ∃ S0, Tr.tr K H1 S0 v a ∧ (∀ b, S0 b → mix F H H1 b = none ∧ muc H1 b) ∧ (∀ b, S0 b → SS b ∧ tupB (H b) = false) ∧ ∀ b, S0 b → H0 b = none := by
  obtain ⟨S, r, h⟩ := o.ex
  refine ⟨S, Tr.mono (Agr.same e) r, fun b z => ?_, fun b z => ⟨(h b z).1, muc_tb (h b z).2.2.2⟩, fun b z => (h b z).2.2.1⟩
  obtain ⟨h1, h2, h3, u, h4, h5⟩ := h b z
  exact ⟨by rw [mix_old h4 h5]; exact h2, u, e _ _ h4, h5⟩
end
end G

set_option Elab.async false
set_option linter.all false
set_option maxRecDepth 100000
set_option maxHeartbeats 4000000
/-! G: parts apart, small words. -/
namespace G
open PySem PySem.Spec PyProof.Rows L2
section
variable {K : PySem.W.Frag} {E : XK} {σ : L2.St} {H0 F H F' H' : Hp} {te ta tb : TE} {α β γ δ : Type} [Rp α] [Rp β] [Rp γ] [Rp δ] [Tr α] [Tr γ] [Tr δ] {P : Addr → Prop} {SS S2 : Addr → Prop} {v : V} {a : α}
theorem g_apl3 {m : R (T3 β δ (Apt γ))} (h : Gr K E te σ F H m) : Gr K E te σ F H (R.bd m fun a => .ok (T3.mk a.a a.b a.c.l)) := fun H1 e Q hq =>
  h H1 e Q (by
    rw [wp_bd] at hq
    exact wp_mono hq (fun a _ k v H2 e2 ⟨p, x, y, z, h1, h2, h3, h4, S, r⟩ => k v H2 e2 ⟨p, x, y, z, h1, h2, h3, h4, Tr.rep r⟩) fun _ _ z => z)
theorem gx_lst0 : GrX K E (tLst tNil) σ H (.ok ([] : List α)) := fun H1 e Q hq => by
  refine ⟨by show 0 ≤ sizeLine; decide, fun p hp => hq _ _ (same_upd hp) ⟨fun b => b = p, ⟨p, [], fun _ => False, rfl, upd_same, rfl, fun _ z => z.elim, .nil⟩, fun b z => ?_⟩⟩
  rw [z]
  exact ⟨Same.free e hp, _, upd_same, rfl⟩
/-- (xs, e), xs a list of ours, e new: all new since the entry -/
theorem g_apPairO [Nc δ] {i : Nat} {p : Addr} {b : Bool} {xs : List δ} {mb : R γ} (o : Own K H0 b F H p xs) (hF : Same F H) (e0 : Same H0 H) (hb : GrX K E tb σ H mb) (hv : σ[i]? = some (some (.ref p)) := by rfl) :
    Gr K E (tTup (tCons (tVar i) (tCons tb tNil))) σ (dif H0 H) H (R.bd mb fun y => .ok (Apt.mk (xs, y))) := fun H1 e Q hq => by
  obtain ⟨h0, f, vs, hp, r⟩ := o.lst
  refine ⟨_, hv, hb H1 e _ ?_⟩
  rw [wp_bd] at hq
  refine wp_mono hq (fun y _ k w H2 e2 ⟨S, r2, n⟩ => ?_) fun _ _ z => z
  refine ⟨by show 2 ≤ sizeLine; decide, fun q hq => k _ _ (e2.trans (same_upd hq)) ?_⟩
  have tot := e.trans (e2.trans (same_upd (o := .tup [.ref p, w]) hq))
  have hn : H q = none := Same.free (e.trans e2) hq
  have n0 : ∀ b, S b → H b = none := fun b z => (n b z).1
  have np : ∀ b, S b → b ≠ p := fun b z w => by have := n0 b z; rw [w, hp] at this; cases this
  refine ⟨fun b => b = p ∨ S b, q, .ref p, w, fun b => b = p, S, rfl, by rw [mix_new hn]; exact upd_same, fun b z => ⟨.inl z, fun y => np b y z⟩, fun b z => .inr z, ?_, ?_⟩
  · have hd : mix (dif H0 H) H (upd H2 q (.tup [.ref p, w])) p = some (.lst vs) := by rw [mix_old hp]; exact dif_of h0 hp
    refine tr_leaf hd ?_ rfl
    refine r.mono fun v x rx => ?_
    have r1 : Tr.tr K H (fun _ => False) v x := Nc.of (Rp.mono (bs_le.trans hF) rx)
    exact Tr.rep (Tr.mono (fun b o h z => by
      rcases z with z | z
      · exact z.elim
      · exact mix_tup h z) r1)
  · refine Tr.mono (fun b o h z => ?_) r2
    rcases z with z | z
    · rw [mix_new (n0 b z)]
      exact same_upd hq _ _ h
    · cases c : H b with
      | none => rw [mix_new c]; exact same_upd hq _ _ h
      | some u =>
        have := (e.trans e2) b u c
        rw [h] at this
        cases this
        exact mix_tup c z
theorem ApO.sub (o : ApO K H0 F H SS v a) (h : ∀ b, SS b → S2 b) : ApO K H0 F H S2 v a := by
  obtain ⟨S, r, k⟩ := o.ex
  exact ⟨S, r, fun b z => ⟨h b (k b z).1, (k b z).2⟩⟩
/-- all of it is there -/
theorem al_nx (n : Nx P F H F' H') (l : ∀ b, SS b → H b ≠ none) : ∀ b, SS b → H' b ≠ none := fun b z w => by
  cases q : H b with
  | none => exact l b z q
  | some o =>
    obtain ⟨o', h, _⟩ := n.th b o q
    rw [h] at w
    cases w
theorem ap_no {p : Addr} (h : ∀ b, SS b → H b = none) (t : ∃ u, H p = some u) : ¬ SS p := fun z => by
  obtain ⟨u, hu⟩ := t
  have := h p z
  rw [hu] at this
  cases this
theorem ap_dj (l : ∀ b, S2 b → H b ≠ none) (h : ∀ b, SS b → H b = none) : ∀ b, S2 b → ¬ SS b := fun b z w => l b z (h b w)
theorem ap_nw {p : Addr} (l : ∀ b, SS b → H b ≠ none) (nw : ∀ q, (∃ u, H q = some u) → q ≠ p) : ¬ SS p := fun z => by
  cases q : H p with
  | none => exact l p z q
  | some u => exact nw p ⟨u, q⟩ rfl
end
end G

set_option Elab.async false
set_option linter.all false
set_option maxRecDepth 100000
set_option maxHeartbeats 4000000
/-! G: parts of a triple whose last part is ours. -/
namespace G
open PySem PySem.Spec PyProof.Rows L2
section
variable {K : PySem.W.Frag} {E : XK} {σ : L2.St} {F H : Hp} {α ρ : Type} [Rp α] {x y z : V} {p : Addr} {a : α}
theorem g_tpa {n : Nat} (h : σ[n]? = some (some (.ref p))) (hp : H p = some (.tup [x, y, z])) (r : Rp.rep K F x a) (hF : Same F H) : Gr K E (tOp (rIxT K) (tVar n) (tC (.int 0))) σ F H (.ok a) :=
  fun H1 e Q hq => ⟨_, h, p, _, 0, x, rfl, rfl, SqT.of (e _ _ hp), rfl, hq x H1 (Same.refl _) (Rp.mono (same_mix hF) r)⟩
theorem g_tpb {n : Nat} (h : σ[n]? = some (some (.ref p))) (hp : H p = some (.tup [x, y, z])) (r : Rp.rep K F y a) (hF : Same F H) : Gr K E (tOp (rIxT K) (tVar n) (tC (.int 1))) σ F H (.ok a) :=
  fun H1 e Q hq => ⟨_, h, p, _, 1, y, rfl, rfl, SqT.of (e _ _ hp), rfl, hq y H1 (Same.refl _) (Rp.mono (same_mix hF) r)⟩
theorem g_tpc {n : Nat} (h : σ[n]? = some (some (.ref p))) (hp : H p = some (.tup [x, y, z])) (r : Rp.rep K F z a) (hF : Same F H) : Gr K E (tOp (rIxT K) (tVar n) (tC (.int 2))) σ F H (.ok a) :=
  fun H1 e Q hq => ⟨_, h, p, _, 2, z, rfl, rfl, SqT.of (e _ _ hp), rfl, hq z H1 (Same.refl _) (Rp.mono (same_mix hF) r)⟩
theorem wp_okb {z : α} {k : α → R ρ} {kk : ρ → Prop} {ee : Er → Prop} (h : Wp (R.bd (.ok z) k) kk ee) : Wp (k z) kk ee := h
end
instance : De (Option Int) := ⟨fun o => match o with | none => .none | some i => .int i, fun {K H v a} h => by
    cases a with
    | none =>
      obtain rfl : v = V.non := h
      exact .non
    | some i =>
      obtain rfl : v = V.int i := h.2
      exact .int i, fun a => by cases a <;> rfl, 0, fun a => by cases a <;> simp [PyData.depth], fun a b => by cases a <;> cases b <;> simp [PyData.eqv]⟩
end G

set_option Elab.async false
set_option linter.all false
set_option maxRecDepth 100000
set_option maxHeartbeats 4000000
/-! G: a new thing is appended to a part. -/
namespace G
open PySem PySem.Spec PyProof.Rows L2
section
variable {α : Type} {T : (Addr → Prop) → V → α → Prop}
/-- the one at a place, and a greater one put there -/
theorem TrL.atX : ∀ {S : Addr → Prop} {vs : List V} {as : List α} {j : Nat} {a : α}, TrL T S vs as → as[j]? = some a → ∃ v S1, vs[j]? = some v ∧ T S1 v a ∧ (∀ b, S1 b → S b) ∧
    ∀ (T' : (Addr → Prop) → V → α → Prop) (a' : α) (X : Addr → Prop), (∀ b, X b → ¬ S b) → T' (fun b => S1 b ∨ X b) v a' → (∀ S' v a, (∀ b, S' b → S b ∧ ¬ S1 b) → T S' v a → T' S' v a) → TrL T' (fun b => S b ∨ X b) vs (as.set j a')
  | _, _, _, _, _, .nil, e => by simp at e
  | S, _, _, 0, a, .cons (S1 := A1) (S2 := A2) h1 h2 r t, e => by
    simp at e
    subst e
    refine ⟨_, A1, rfl, r, fun b z => (h1 b z).1, fun T' a' X hX r' k => ?_⟩
    exact .cons (S1 := fun b => A1 b ∨ X b) (S2 := A2) (fun b z => z.elim (fun z => ⟨.inl (h1 b z).1, (h1 b z).2⟩) fun z => ⟨.inr z, fun w => hX b z (h2 b w)⟩) (fun b z => .inl (h2 b z)) r' (TrL.mp (fun S1 v a q w => k S1 v a (fun b z => ⟨h2 b (q b z), fun y => (h1 b y).2 (q b z)⟩) w) t)
  | S, _, _, j + 1, a, .cons (S1 := A1) (S2 := A2) h1 h2 r t, e => by
    obtain ⟨v, S1, e1, r1, s1, k1⟩ := TrL.atX (j := j) t (by simpa using e)
    refine ⟨v, S1, by simpa using e1, r1, fun b z => h2 b (s1 b z), fun T' a' X hX r' k => ?_⟩
    exact .cons (S1 := A1) (S2 := fun b => A2 b ∨ X b) (fun b z => ⟨.inl (h1 b z).1, fun w => w.elim (h1 b z).2 fun w => hX b w (h1 b z).1⟩) (fun b z => z.elim (fun z => .inl (h2 b z)) .inr) (k A1 _ _ (fun b z => ⟨(h1 b z).1, fun y => (h1 b z).2 (s1 b y)⟩) r) (k1 T' a' X (fun b z w => hX b z (h2 b w)) r' fun S' v a q w => k S' v a (fun b z => ⟨h2 b (q b z).1, (q b z).2⟩) w)
end
section
variable {K : PySem.W.Frag} {E : XK} {σ : L2.St} {H0 F H F' H' : Hp} {te ta tb to ti : TE} {t : TT} {tu tw : TS} {α β γ δ ρ : Type} [Rp α] [Rp β] [Rp γ] [Rp δ] [Tr α] [Tr β] [Tr γ] [Tr δ] [Rp ρ] {D : Ends} {P P2 : Addr → Prop} {SS : Addr → Prop} {v : V} {a : α}
def SubX (K : PySem.W.Frag) (to : TE) (σ : L2.St) (H : Hp) (v : V) (a : α) (b : β) (put : β → α) : Prop :=
  ∀ S, Tr.tr K H S v a → ∃ w S1, AtV to σ H w ∧ Tr.tr K H S1 w b ∧ (∀ q, S1 q → S q) ∧ ∀ (H' : Hp) (b' : β) (X : Addr → Prop), (∀ q, X q → ¬ S q) → Agr (fun z => S z ∧ ¬ S1 z) H H' → Tr.tr K H' (fun q => S1 q ∨ X q) w b' → Tr.tr K H' (fun q => S q ∨ X q) v (put b')
theorem subx_v (h : AtV to σ H v) : SubX K to σ H v a a id := fun S r => ⟨v, S, h, r, fun _ z => z, fun _ _ _ _ _ r => r⟩
theorem subx_fst {b : β × γ} {put : β × γ → α} (s : SubX K to σ H v a b put) : SubX K (tOp (rIxT K) to (tC (.int 0))) σ H v a b.1 (fun x => put (x, b.2)) := fun S r => by
  obtain ⟨w, S1, h1, h2, h3, h4⟩ := s S r
  obtain ⟨p, x, y, A1, A2, rfl, hp, d1, d2, r1, r2⟩ := h2
  refine ⟨x, A1, fun H1 e Q q => h1 H1 e _ ⟨p, _, 0, x, rfl, rfl, SqT.of (e _ _ hp), rfl, q⟩, r1, fun q z => h3 q (d1 q z).1, fun H' b' X hX ag rb => h4 H' _ X hX (ag.sub fun z y => ⟨y.1, fun w => y.2 (d1 z w).1⟩) ⟨p, x, y, fun q => A1 q ∨ X q, A2, rfl, ag p _ hp (.inr rfl), fun q z => z.elim (fun z => ⟨.inl (d1 q z).1, (d1 q z).2⟩) (fun z => ⟨.inr z, fun w => hX q z (h3 q (d2 q w))⟩), fun q z => .inl (d2 q z), rb, Tr.mono (ag.sub fun z y => ⟨h3 z (d2 z y), fun w => (d1 z w).2 y⟩) r2⟩⟩
theorem subx_snd {b : β × γ} {put : β × γ → α} (s : SubX K to σ H v a b put) : SubX K (tOp (rIxT K) to (tC (.int 1))) σ H v a b.2 (fun x => put (b.1, x)) := fun S r => by
  obtain ⟨w, S1, h1, h2, h3, h4⟩ := s S r
  obtain ⟨p, x, y, A1, A2, rfl, hp, d1, d2, r1, r2⟩ := h2
  refine ⟨y, A2, fun H1 e Q q => h1 H1 e _ ⟨p, _, 1, y, rfl, rfl, SqT.of (e _ _ hp), rfl, q⟩, r2, fun q z => h3 q (d2 q z), fun H' b' X hX ag rb => h4 H' _ X hX (ag.sub fun z y => ⟨y.1, fun w => y.2 (d2 z w)⟩) ⟨p, x, y, A1, fun q => A2 q ∨ X q, rfl, ag p _ hp (.inr rfl), fun q z => ⟨.inl (d1 q z).1, fun w => w.elim (d1 q z).2 fun w => hX q w (h3 q (d1 q z).1)⟩, fun q z => z.elim (fun z => .inl (d2 q z)) .inr, Tr.mono (ag.sub fun z y => ⟨h3 z (d1 z y).1, fun w => (d1 z y).2 w⟩) r1, rb⟩⟩
theorem subx_ix {b : List β} {put : List β → α} {i : Int} {j : Nat} {x : β} (s : SubX K to σ H v a b put) (hi : AtI ti σ i) (hj : ixN b.length i = some j) (hx : b[j]? = some x) : SubX K (tOp (rIxL K) to ti) σ H v a x (fun y => put (b.set j y)) := fun S r => by
  obtain ⟨w, S1, h1, h2, h3, h4⟩ := s S r
  obtain ⟨p, vs, A, rfl, hp, hSp, hA, t⟩ := h2
  have len : vs.length = b.length := (t.all (F := fun _ _ => True) fun _ _ _ _ => trivial).length
  obtain ⟨u, B, e1, r1, s1, k1⟩ := t.atX hx
  refine ⟨u, B, fun H1 e Q q => h1 H1 e _ (hi H1 _ ⟨p, vs, i, u, rfl, rfl, SqL.of (e _ _ hp), ?_, q⟩), r1, fun q z => h3 q (hA q (s1 q z)).1, fun H' b' X hX ag rb => h4 H' _ X hX (ag.sub fun z y => ⟨y.1, fun w => y.2 (hA z (s1 z w)).1⟩) ⟨p, vs, fun q => A q ∨ X q, rfl, ag p _ hp (.inl ⟨h3 p hSp, fun w => (hA p (s1 p w)).2 rfl⟩), .inl hSp, fun q z => z.elim (fun z => ⟨.inl (hA q z).1, (hA q z).2⟩) (fun z => ⟨.inr z, fun w => hX q z (by rw [w]; exact h3 p hSp)⟩), ?_⟩⟩
  · unfold atI
    rw [len, hj]
    exact e1
  · exact k1 (fun S v a => Tr.tr K H' S v a) b' X (fun q z w => hX q z (h3 q (hA q w).1)) rb fun S' v a q r => Tr.mono (ag.sub fun z y => ⟨h3 z (hA z (q z y).1).1, (q z y).2⟩) r
/-- x.append(e), x a part of a thing of ours, e new -/
theorem s_apN {ys : List γ} {put : List γ → α} {me : R γ} {k : List γ → R ρ} {kk : ρ → Prop} (o : ApO K H0 F H SS v a) (s : SubX K to σ H v a ys put) (he : GrX K E te σ H me) (hN : ∀ b, H b = none → SS b) (hF : Same F H) (e0 : Same H0 H)
    (hQ : Wp (R.bd (R.bd me fun e => appR ys e) k) kk (EE K E H0))
    (c : ∀ y q F' H', Nx (fun z => z = q) F H F' H' → Same H0 H' → SS q → tupB (H q) = false → ApO K H0 F' H' SS v (put y) → Wp (k y) kk (EE K E H0) → D.nx σ H') : tDrop (tBM K "list" rAppend to (tCons te tNil)) D σ H := by
  obtain ⟨S, r, hS⟩ := o.ex
  obtain ⟨w, S1, h1, h2, h3, h4⟩ := s S r
  obtain ⟨p, vs, A, rfl, hp, hSp, hA, t⟩ := h2
  have sp := hS p (h3 p hSp)
  refine h1 H (Same.refl _) _ ⟨.inl ⟨rfl, _, SqL.of hp⟩, ?_⟩
  refine he H (Same.refl _) _ ?_
  rw [bd_assoc, wp_bd] at hQ
  refine wp_mono hQ (fun e _ q u H2 e2 ⟨S2, re, n2⟩ => ?_) fun c _ z => z.mono e0
  rw [wp_bd] at q
  have len : vs.length = ys.length := (t.all (F := fun _ _ => True) fun _ _ _ _ => trivial).length
  unfold appR gd at q
  split at q
  · rename_i cl
    have hp2 := e2 _ _ hp
    refine ⟨p, vs, u, rfl, rfl, hp2, lim_line' (by rw [len]; exact cl), ?_⟩
    have fS : ∀ b, S2 b → ¬ S b := fun b z w => muc_some (hS b w).2.2.2 (n2 b z).1
    have n2p : ∀ b, S2 b → b ≠ p := fun b z w => fS b z (by rw [w]; exact h3 p hSp)
    have ag : Agr (fun z => S z ∧ z ≠ p) H (upd H2 p (.lst (vs ++ [u]))) := agr_upd e2 hp2 fun b z => z.2
    have na := nx_tupF hF e2
    have fp : tupF F H2 p = none := tupF_none (by rw [hp2]; rfl) sp.2.1
    have nb := nx_upd (o' := .lst (vs ++ [u])) na.fh (Same.refl H2) hp2 fp
    have n := na.tr nb
    refine c (ys ++ [e]) p _ _ n (e0_upd e0 e2 sp.2.2.1) sp.1 (by rw [hp]; rfl) ⟨fun b => S b ∨ S2 b, h4 _ _ S2 fS (ag.sub fun z y => ⟨y.1, fun w => y.2 (w ▸ hSp)⟩) ?_, fun b z => ?_⟩ q
    · refine ⟨p, vs ++ [u], fun b => A b ∨ S2 b, rfl, upd_same, .inl hSp, fun b z => z.elim (fun z => ⟨.inl (hA b z).1, (hA b z).2⟩) fun z => ⟨.inr z, n2p b z⟩, ?_⟩
      exact TrL.snoc (trl_agr (agr_upd e2 hp2 fun b z => (hA b z).2) t) (Tr.mono (agr_upd (Same.refl _) hp2 n2p) re) (fun b z => ⟨.inl z, fun w => fS b w (h3 b (hA b z).1)⟩) fun b z => .inr z
    · rcases z with z | z
      · obtain ⟨a1, a2, a3, x, a4, a5⟩ := hS b z
        refine ⟨a1, n.own b x a5 a4 a2, a3, ?_⟩
        by_cases cb : b = p
        · rw [cb]; exact ⟨_, upd_same, rfl⟩
        · exact ⟨x, by rw [upd_ne cb]; exact e2 _ _ a4, a5⟩
      · obtain ⟨z1, o2, z2, z3⟩ := n2 b z
        refine ⟨hN b z1, ?_, Same.free e0 z1, o2, by rw [upd_ne (n2p b z)]; exact z2, z3⟩
        exact nb.own b o2 z3 z2 (tupF_none (by rw [z2]; exact z3) (Same.free hF z1))
  · exact q.elim
theorem ap_all {S0 : Addr → Prop} {F1 H1 : Hp} (hSS : ∀ b, SS b ↔ (S0 b ∨ H b = none)) (n : Nx P F H F1 H1) : ∀ b, H1 b = none → SS b := fun b z => (hSS b).mpr (.inr (none_back n z))
/-- a walk of what is not frozen -/
theorem s_forH {wi : TI} {g : TG} {m : R (List β)} {k : List β → R γ} {kk : γ → Prop} (hi : GrI K E wi σ H H m) (hF : Same F H) (e0 : Same H0 H) (hQ : Wp (R.bd m k) kk (EE K E H0))
    (c : ∀ xs J F' H', Nx0 F H F' H' → Same H0 H' → ItOk J K (mix H H H') xs → Same (mix H H H') H' → Wp (k xs) kk (EE K E H0) → ∃ W : Nat → Nat → L2.St → Hp → Prop, (∃ m, W 0 m σ H') ∧ ∀ i m σ H, W i m σ H →
      (J.stop i H ∧ D.nx σ H) ∨ (J.go i H ∧ ∃ N : L2.St → Hp → Prop, (∀ σ' H', N σ' H' → ∃ m', m' < m ∧ W (i + 1) m' σ' H') ∧ ∀ x H', J.yld i H x H' → g x σ H' fun σ2 H2 => tu { D with nx := N, ct := N, bk := D.nx } σ2 H2)) : tFor wi g tu D σ H := by
  refine hi H (Same.refl _) _ ?_
  rw [wp_bd] at hQ
  exact wp_mono hQ (fun xs _ q J H2 e2 ok => c xs J _ H2 (Nx.mk' hF e2) (e0.trans e2) ok (mix_same (Same.refl _) e2) q) fun c _ z => z.mono e0
end
end G

set_option Elab.async false
set_option linter.all false
set_option maxRecDepth 100000
set_option maxHeartbeats 4000000
/-! G: values of several kinds with their parts apart; lists of things apart, made item by item. -/
namespace G
open PySem PySem.Spec PyProof.Rows L2
mutual
def dyA (H : Hp) : Dy → (Addr → Prop) → V → Prop
  | .non, _, v => v = .non
  | .bl b, _, v => v = .bl b
  | .int n, _, v => v = .int n
  | .str s, _, v => v = .str s
  | .lst l, S, v => ∃ p vs S1, v = .ref p ∧ H p = some (.lst vs) ∧ S p ∧ (∀ b, S1 b → S b ∧ b ≠ p) ∧ dyAs H l S1 vs
  | .tup l, S, v => ∃ p vs, v = .ref p ∧ H p = some (.tup vs) ∧ dyAs H l S vs
def dyAs (H : Hp) : List Dy → (Addr → Prop) → List V → Prop
  | [], _, vs => vs = []
  | d :: l, S, vs => ∃ v r S1 S2, vs = v :: r ∧ (∀ b, S1 b → S b ∧ ¬ S2 b) ∧ (∀ b, S2 b → S b) ∧ dyA H d S1 v ∧ dyAs H l S2 r
end
mutual
theorem dyA_rep {H : Hp} : ∀ {d : Dy} {S : Addr → Prop} {v : V}, dyA H d S v → dyR H d v
  | .non, _, _, h => h
  | .bl _, _, _, h => h
  | .int _, _, _, h => h
  | .str _, _, _, h => h
  | .lst _, _, _, ⟨p, vs, S1, h1, h2, _, _, h3⟩ => ⟨p, vs, h1, h2, dyAs_rep h3⟩
  | .tup _, _, _, ⟨p, vs, h1, h2, h3⟩ => ⟨p, vs, h1, h2, dyAs_rep h3⟩
theorem dyAs_rep {H : Hp} : ∀ {l : List Dy} {S : Addr → Prop} {vs : List V}, dyAs H l S vs → dyRs H l vs
  | [], _, _, h => h
  | _ :: _, _, _, ⟨v, r, S1, S2, h1, _, _, h2, h3⟩ => ⟨v, r, h1, dyA_rep h2, dyAs_rep h3⟩
end
mutual
theorem dyA_mono {H H' : Hp} : ∀ {d : Dy} {S : Addr → Prop} {v : V}, Agr S H H' → dyA H d S v → dyA H' d S v
  | .non, _, _, _, h => h
  | .bl _, _, _, _, h => h
  | .int _, _, _, _, h => h
  | .str _, _, _, _, h => h
  | .lst _, _, _, a, ⟨p, vs, S1, h1, h2, h4, h5, h3⟩ => ⟨p, vs, S1, h1, a p _ h2 (.inl h4), h4, h5, dyAs_mono (a.sub fun b z => (h5 b z).1) h3⟩
  | .tup _, _, _, a, ⟨p, vs, h1, h2, h3⟩ => ⟨p, vs, h1, a p _ h2 (.inr rfl), dyAs_mono a h3⟩
theorem dyAs_mono {H H' : Hp} : ∀ {l : List Dy} {S : Addr → Prop} {vs : List V}, Agr S H H' → dyAs H l S vs → dyAs H' l S vs
  | [], _, _, _, h => h
  | _ :: _, _, _, a, ⟨v, r, S1, S2, h1, d1, d2, h2, h3⟩ => ⟨v, r, S1, S2, h1, d1, d2, dyA_mono (a.sub fun b z => (d1 b z).1) h2, dyAs_mono (a.sub d2) h3⟩
end
mutual
theorem dyA_cut {H : Hp} : ∀ {d : Dy} {S : Addr → Prop} {v : V}, dyA H d S v → dyA H d (fun b => S b ∧ muc H b) v
  | .non, _, _, h => h
  | .bl _, _, _, h => h
  | .int _, _, _, h => h
  | .str _, _, _, h => h
  | .lst _, _, _, ⟨p, vs, S1, h1, h2, h4, h5, h3⟩ => ⟨p, vs, _, h1, h2, ⟨h4, _, h2, rfl⟩, fun b ⟨z, m⟩ => ⟨⟨(h5 b z).1, m⟩, (h5 b z).2⟩, dyAs_cut h3⟩
  | .tup _, _, _, ⟨p, vs, h1, h2, h3⟩ => ⟨p, vs, h1, h2, dyAs_cut h3⟩
theorem dyAs_cut {H : Hp} : ∀ {l : List Dy} {S : Addr → Prop} {vs : List V}, dyAs H l S vs → dyAs H l (fun b => S b ∧ muc H b) vs
  | [], _, _, h => h
  | _ :: _, _, _, ⟨v, r, S1, S2, h1, d1, d2, h2, h3⟩ => ⟨v, r, _, _, h1, fun b ⟨z, m⟩ => ⟨⟨(d1 b z).1, m⟩, fun w => (d1 b z).2 w.1⟩, fun b ⟨z, m⟩ => ⟨d2 b z, m⟩, dyA_cut h2, dyAs_cut h3⟩
end
instance : Tr Dy := ⟨fun _ H S v d => dyA H d S v, fun h => dyA_rep h, fun a h => dyA_mono a h, fun h => dyA_cut h⟩
/-- as a value of any kind, and back -/
class TrD (α : Type) [Rp α] [Tr α] [DyN α] : Prop where
  to : ∀ {K : PySem.W.Frag} {H : Hp} {S : Addr → Prop} {v : V} {a : α}, Tr.tr K H S v a → dyA H (DyN.dy a) S v
  of : ∀ {K : PySem.W.Frag} {H : Hp} {S : Addr → Prop} {v : V} {d : Dy} {a : α}, dyA H d S v → DyN.un d = some a → Tr.tr K H S v a
instance : TrD Int := ⟨fun h => h, fun {K H S v d a} h e => DyN.of (K := K) (dyA_rep h) e⟩
instance : TrD Bool := ⟨fun h => h, fun {K H S v d a} h e => DyN.of (K := K) (dyA_rep h) e⟩
instance : TrD Str := ⟨fun h => h, fun {K H S v d a} h e => DyN.of (K := K) (dyA_rep h) e⟩
instance : TrD Unit := ⟨fun h => h, fun {K H S v d a} h e => DyN.of (K := K) (dyA_rep h) e⟩
instance : TrD Dy := ⟨fun h => h, fun {K H S v d a} h e => by cases e; exact h⟩
section
variable {α β : Type} [Rp α] [Rp β] [Tr α] [Tr β] [DyN α] [DyN β] [TrD α] [TrD β]
theorem trl_to {K : PySem.W.Frag} {H : Hp} : ∀ {S : Addr → Prop} {vs : List V} {xs : List α}, TrL (fun S v x => Tr.tr K H S v x) S vs xs → dyAs H (xs.map DyN.dy) S vs
  | _, _, _, .nil => rfl
  | _, _, _, .cons (S1 := S1) (S2 := S2) h1 h2 r t => ⟨_, _, S1, S2, rfl, h1, h2, TrD.to r, trl_to t⟩
theorem trl_of {K : PySem.W.Frag} {H : Hp} : ∀ {l : List Dy} {S : Addr → Prop} {vs : List V} {xs : List α}, dyAs H l S vs → unAll DyN.un l = some xs → TrL (fun S v x => Tr.tr K H S v x) S vs xs
  | [], S, vs, xs, h, e => by
    rw [show vs = [] from h, show xs = [] by simpa [unAll] using e.symm]
    exact .nil
  | d :: l, S, vs, xs, ⟨v, r, S1, S2, h1, d1, d2, h2, h3⟩, e => by
    subst h1
    unfold unAll at e
    cases q : (DyN.un d : Option α) with
    | none => rw [q] at e; simp at e
    | some a =>
      cases q2 : unAll (α := α) DyN.un l with
      | none => rw [q, q2] at e; simp at e
      | some t =>
        rw [q, q2] at e
        simp at e
        subst e
        exact .cons d1 d2 (TrD.of h2 q) (trl_of h3 q2)
instance : TrD (List α) := ⟨fun {K H S v a} ⟨p, vs, S1, h1, h2, h3, h4, h5⟩ => ⟨p, vs, S1, h1, h2, h3, h4, trl_to h5⟩, fun {K H S v d a} h e => by
  cases d with
  | lst l =>
    obtain ⟨p, vs, S1, h1, h2, h3, h4, h5⟩ := h
    exact ⟨p, vs, S1, h1, h2, h3, h4, trl_of h5 e⟩
  | _ => simp [DyN.un] at e⟩
instance : TrD (α × β) := ⟨fun {K H S v t} ⟨p, x, y, S1, S2, h1, h2, d1, d2, h3, h4⟩ => ⟨p, _, h1, h2, x, _, S1, S2, rfl, d1, d2, TrD.to h3, y, _, S2, fun _ => False, rfl, fun b z => ⟨z, fun w => w⟩, fun _ z => z.elim, TrD.to h4, rfl⟩, fun {K H S v d t} h e => by
  rcases d with _ | _ | _ | _ | _ | l <;> try simp [DyN.un] at e
  rcases l with _ | ⟨a, _ | ⟨b, _ | ⟨c, l⟩⟩⟩ <;> try simp at e
  obtain ⟨p, vs, h1, h2, x, r, S1, S2, rfl, d1, d2, h3, y, r2, S3, S4, rfl, d3, d4, h4, h5⟩ := h
  rw [show r2 = [] from h5] at h2
  cases q : (DyN.un a : Option α) with
  | none => rw [q] at e; simp at e
  | some a' =>
    cases q2 : (DyN.un b : Option β) with
    | none => rw [q, q2] at e; simp at e
    | some b' =>
      rw [q, q2] at e
      simp at e
      subst e
      exact ⟨p, x, y, S1, S3, h1, h2, fun b z => ⟨(d1 b z).1, fun w => (d1 b z).2 (d3 b w).1⟩, fun b z => d2 b (d3 b z).1, TrD.of h3 q, TrD.of h4 q2⟩⟩
end
section
variable {K : PySem.W.Frag} {E : XK} {σ : L2.St} {H0 F H F' H' : Hp} {te ta tb to ti : TE} {α β γ δ ρ : Type} [Rp α] [Rp β] [Rp γ] [Rp δ] [Rp ρ] [Tr α] [Tr β] [Tr γ] {D : Ends} {P : Addr → Prop} {v : V} {a : α} {Sa Sb Sc SS : Addr → Prop}
theorem g_aptDy [DyN α] [TrD α] {m : R (Apt α)} (h : Gr K E te σ F H m) : Gr K E te σ F H (R.bd m fun a => .ok (Apt.mk (DyN.dy a.l))) := fun H1 e Q hq =>
  h H1 e Q (by
    rw [wp_bd] at hq
    exact wp_mono hq (fun a _ k v H2 e2 ⟨S, r⟩ => k v H2 e2 ⟨S, TrD.to r⟩) fun _ _ z => z)
/-- told or not -/
def aptO {α : Type} [Rp α] [DyN α] : Option (Apt α) → Apt Dy
  | none => Apt.mk .non
  | some a => Apt.mk (DyN.dy a.l)
theorem g_aptDyO [DyN α] [TrD α] {m : R (Option (Apt α))} (h : Gr K E te σ F H m) : Gr K E te σ F H (R.bd m fun a => .ok (aptO a)) := fun H1 e Q hq =>
  h H1 e Q (by
    rw [wp_bd] at hq
    refine wp_mono hq (fun a _ k v H2 e2 r => k v H2 e2 ?_) fun _ _ z => z
    cases a with
    | none => exact ⟨fun _ => False, r⟩
    | some a =>
      obtain ⟨_, S, r⟩ := r
      exact ⟨S, TrD.to r⟩)
/-- the value of an option of things apart, for looks -/
theorem g_aplO {m : R (Option (Apt α))} (h : Gr K E te σ F H m) : Gr K E te σ F H (R.bd m fun a => .ok (a.map Apt.l)) := fun H1 e Q hq =>
  h H1 e Q (by
    rw [wp_bd] at hq
    refine wp_mono hq (fun a _ k v H2 e2 r => k v H2 e2 ?_) fun _ _ z => z
    cases a with
    | none => exact r
    | some a =>
      obtain ⟨n, S, r⟩ := r
      exact ⟨n, Tr.rep r⟩)
instance {α : Type} [Rp α] [Tr α] [NN α] : NN (Apt α) := ⟨fun ⟨_, h⟩ => NN.nn (Tr.rep h)⟩
theorem unD_wp [DyN γ] {d : Dy} {f : γ → R ρ} {kk : ρ → Prop} {ee : Er → Prop} (h : Wp (R.bd (unD d) f) kk ee) : ∃ x, DyN.un d = some x ∧ Wp (f x) kk ee := by
  unfold unD at h
  cases q : (DyN.un d : Option γ) with
  | none => rw [q] at h; exact h.elim
  | some x => rw [q] at h; exact ⟨x, rfl, h⟩
theorem ApO.un [DyN α] [TrD α] {d : Dy} {x : α} (o : ApO K H0 F H SS v d) (e : DyN.un d = some x) : ApO K H0 F H SS v x := by
  obtain ⟨S, r, h⟩ := o.ex
  exact ⟨S, TrD.of r e, h⟩
/-! ### frozen things whose parts are known -/
/-- new since the entry, and there -/
def Fp (H0 F : Hp) (S : Addr → Prop) : Prop := ∀ b, S b → H0 b = none ∧ muc F b
theorem fp_ff (w : Fp H0 F Sa) (e : Same F F') : Fp H0 F' Sa := fun b z => ⟨(w b z).1, muc_mono e (w b z).2⟩
theorem ft_N (w : Fp H0 F Sa) (r : Tr.tr K F Sa v a) : Rp.rep K (dif H0 F) v a := Tr.rep (Tr.mono (fun b o h z => by
  rcases z with z | z
  · exact dif_of (w b z).1 h
  · exact dif_tup z h) r)
theorem ft_dj (w : Fp H0 F Sb) (hF : Same F H) (n : ∀ b, Sa b → H b = none) : ∀ b, Sa b → ¬ Sb b := fun b z y => muc_some (muc_mono hF (w b y).2) (n b z)
/-- what is new becomes frozen, its parts known -/
theorem s_asgFT {i : Nat} {m : R α} {k : α → R ρ} {kk : ρ → Prop} (he : GrX K E te σ H m) (hF : Same F H) (e0 : Same H0 H) (hQ : Wp (R.bd m k) kk (EE K E H0))
    (c : ∀ a v F' H' S, Nx0 F H F' H' → Same H0 H' → Tr.tr K F' S v a → Fp H0 F' S → (∀ b, S b → H b = none) → Wp (k a) kk (EE K E H0) → D.nx (σ.set i (some v)) H') : tAsg te (gName i) D σ H := by
  refine he H (Same.refl _) _ ?_
  rw [wp_bd] at hQ
  refine wp_mono hQ (fun a _ q v H2 e2 ⟨S, r, n⟩ => ?_) fun c _ z => z.mono e0
  have sub : Agr S H2 (mix F H H2) := fun b o h z => by
    rcases z with z | z
    · rw [mix_new (n b z).1]; exact h
    · cases w : H b with
      | none => rw [mix_new w]; exact h
      | some u =>
        have := e2 b u w
        rw [h] at this
        cases this
        exact mix_tup w z
  refine c a v (mix F H H2) H2 S (Nx.mk' hF e2) (e0.trans e2) (Tr.mono sub r) (fun b z => ⟨Same.free e0 (n b z).1, ?_⟩) (fun b z => (n b z).1) q
  obtain ⟨h1, o, h2, h3⟩ := n b z
  exact ⟨o, by rw [mix_new h1]; exact h2, h3⟩
open Classical in
/-- what F has of S, and its tuples -/
noncomputable def onS (S : Addr → Prop) (F : Hp) : Hp := fun b => if S b ∨ tupB (F b) = true then F b else none
theorem onS_le {S : Addr → Prop} : Same (onS S F) F := fun b o h => by
  unfold onS at h
  split at h
  · exact h
  · cases h
theorem onS_of {S : Addr → Prop} {b : Addr} {o : HO} (h : F b = some o) (z : S b ∨ tupB (some o) = true) : onS S F b = some o := by
  unfold onS
  rw [if_pos (by rw [h]; exact z)]
  exact h
theorem rep_onS (r : Tr.tr K F Sa v a) : Rp.rep K (onS Sa F) v a := Tr.rep (Tr.mono (fun b o h z => onS_of h z) r)
theorem muc_onS {S : Addr → Prop} {b : Addr} (h : muc (onS S F) b) : S b ∧ muc F b := by
  obtain ⟨o, h1, h2⟩ := h
  unfold onS at h1
  split at h1
  · rename_i c
    rcases c with c | c
    · exact ⟨c, o, h1, h2⟩
    · rw [h1, h2] at c; cases c
  · cases h1
/-- told of parts of one thing, or new -/
theorem s_asgFS [T1 α] {i : Nat} {m : R α} {k : α → R ρ} {kk : ρ → Prop} (w : Fp H0 F Sb) (he : Gr K E te σ (onS Sb F) H m) (hF : Same F H) (e0 : Same H0 H) (hQ : Wp (R.bd m k) kk (EE K E H0))
    (c : ∀ a v F' H' S, Nx0 F H F' H' → Same H0 H' → Tr.tr K F' S v a → Fp H0 F' S → (∀ b, S b → Sb b ∨ H b = none) → Wp (k a) kk (EE K E H0) → D.nx (σ.set i (some v)) H') : tAsg te (gName i) D σ H := by
  refine he H (Same.refl _) _ ?_
  rw [wp_bd] at hQ
  refine wp_mono hQ (fun a _ q v H2 e2 r => ?_) fun c _ z => z.mono e0
  have r2 := Tr.cut (T1.of r)
  have sub : Same (mix (onS Sb F) H H2) (mix F H H2) := fun b o h => by
    rcases mix_cases h with ⟨z, y⟩ | ⟨z, y⟩ | ⟨u, z, y, x⟩
    · rw [mix_new z]; exact y
    · exact mix_tup z y
    · rw [mix_old z y]; exact onS_le _ _ x
  have key : ∀ b, muc (mix (onS Sb F) H H2) b → Sb b ∨ H b = none := fun b ⟨o, h, t⟩ => by
    rcases mix_cases h with ⟨z, _⟩ | ⟨_, y⟩ | ⟨u, z, y, x⟩
    · exact .inr z
    · rw [t] at y; cases y
    · exact .inl (muc_onS ⟨o, x, t⟩).1
  refine c a v (mix F H H2) H2 _ (Nx.mk' hF e2) (e0.trans e2) (Tr.mono (Agr.same sub) r2) (fun b z => ⟨?_, muc_mono sub z.1⟩) (fun b z => key b z.1) q
  rcases key b z.1 with y | y
  · exact (w b y).1
  · exact Same.free e0 y
/-! ### a list of things apart, of ours -/
structure OwT {α : Type} [Rp α] [Tr α] (K : PySem.W.Frag) (H0 F H : Hp) (p : Addr) (S : Addr → Prop) (xs : List α) : Prop where
  h0 : H0 p = none
  f : F p = none
  at_ : ∃ vs, H p = some (.lst vs) ∧ TrL (fun S v x => Tr.tr K F S v x) S vs xs
  w : Fp H0 F S
theorem OwT.nx {p : Addr} {xs : List α} (o : OwT K H0 F H p Sa xs) (n : Nx P F H F' H') (hp : ¬ P p) : OwT K H0 F' H' p Sa xs := by
  obtain ⟨h0, f, ⟨vs, h, r⟩, w⟩ := o
  exact ⟨h0, n.own p _ rfl h f, ⟨vs, n.hh p _ hp h, trl_agr (Agr.same n.ff) r⟩, fp_ff w n.ff⟩
theorem OwT.nx0 {p : Addr} {xs : List α} (o : OwT K H0 F H p Sa xs) (n : Nx0 F H F' H') : OwT K H0 F' H' p Sa xs := o.nx n fun z => z
theorem OwT.there {p : Addr} {xs : List α} (o : OwT K H0 F H p Sa xs) : ∃ u, H p = some u := let ⟨_, _, ⟨_, h, _⟩, _⟩ := o; ⟨_, h⟩
theorem OwT.nt {p : Addr} {xs : List α} (o : OwT K H0 F H p Sa xs) : tupB (H p) = false := by obtain ⟨_, _, ⟨_, h, _⟩, _⟩ := o; rw [h]; rfl
theorem OwT.own {p : Addr} {xs : List α} (o : OwT K H0 F H p Sa xs) : Own K H0 true F H p xs := by
  obtain ⟨h0, f, ⟨vs, h, r⟩, w⟩ := o
  refine Own.of h0 f h ?_
  have r2 : TrL (fun (_ : Addr → Prop) v x => Rp.rep K (dif H0 F) v x) Sa vs xs := r.mp fun S1 v x q t => ft_N (fun b z => w b (q b z)) t
  exact r2.all (F := Rp.rep K (dif H0 F)) fun _ _ _ z => z
theorem OwT.rep {p : Addr} {xs : List α} (o : OwT K H0 F H p Sa xs) (hF : Same F H) : Rp.rep K H (.ref p) xs := o.own.rep hF
theorem OwT.fz {p q : Addr} {xs : List α} (o : OwT K H0 F H q Sa xs) (hf : Same F F') (h : ∀ q, q ≠ p → F' q = F q) (ne : q ≠ p) : OwT K H0 F' H q Sa xs := by
  obtain ⟨h0, f, ⟨vs, h1, r⟩, w⟩ := o
  exact ⟨h0, by rw [h q ne]; exact f, ⟨vs, h1, trl_agr (Agr.same hf) r⟩, fp_ff w hf⟩
theorem g_owT {i : Nat} {p : Addr} {xs : List α} (o : OwT K H0 F H p Sa xs) (hF : Same F H) (h : σ[i]? = some (some (.ref p)) := by rfl) : Gr K E (tVar i) σ (dif H0 H) H (.ok (Apt.mk xs)) := by
  obtain ⟨h0, f, ⟨vs, h1, r⟩, w⟩ := o
  refine g_var (v := .ref p) (a := Apt.mk xs) ⟨fun b => b = p ∨ Sa b, p, vs, Sa, rfl, dif_of h0 h1, .inl rfl, fun b z => ⟨.inr z, fun y => ?_⟩, trl_agr (fun b o h z => ?_) r⟩ dif_le h
  · have := (w b z).2
    rw [y] at this
    exact muc_some this f
  · rcases z with z | z
    · exact dif_of (w b z).1 (hF _ _ h)
    · exact dif_tup z (hF _ _ h)
/-- xs = [] -/
theorem s_asgOT0 {i : Nat} {k : List α → R ρ} {kk : ρ → Prop} (hF : Same F H) (e0 : Same H0 H) (hQ : Wp (R.bd (gd (([] : List α).length ≤ lim) (.ok ([] : List α))) k) kk (EE K E H0))
    (c : ∀ xs p F' H' S, Nx0 F H F' H' → Same H0 H' → OwT K H0 F' H' p S xs → (∀ q, (∃ u, H q = some u) → q ≠ p) → (∀ b, ¬ S b) → Wp (k xs) kk (EE K E H0) → D.nx (σ.set i (some (.ref p))) H') : tAsg (tLst tNil) (gName i) D σ H := by
  rw [gd_pos (show ([] : List α).length ≤ lim from Nat.zero_le _), bd_ok] at hQ
  refine ⟨by show 0 ≤ sizeLine; decide, fun p hp => ?_⟩
  have e2 : Same H (upd H p (.lst [])) := same_upd hp
  have n := nx_tupF hF e2
  have m : delH (tupF F (upd H p (.lst []))) p = tupF F (upd H p (.lst [])) := by
    funext b
    by_cases z : b = p
    · rw [z, delH_same]
      exact (tupF_none (by rw [upd_same]; rfl) (Same.free hF hp)).symm
    · exact delH_ne z
  exact c [] p _ _ (fun _ => False) n (e0.trans e2) ⟨Same.free e0 hp, tupF_none (by rw [upd_same]; rfl) (Same.free hF hp), ⟨[], upd_same, .nil⟩, fun _ z => z.elim⟩ (fun q ⟨u, hu⟩ z => by rw [z, hp] at hu; cases hu) (fun _ z => z) hQ
/-- xs = [x] -/
theorem s_asgOT1 {i j : Nat} {x : α} {k : List α → R ρ} {kk : ρ → Prop} (t : Tr.tr K F Sa v x) (w : Fp H0 F Sa) (hv : σ[j]? = some (some v)) (hF : Same F H) (e0 : Same H0 H) (hQ : Wp (R.bd (gd ([x].length ≤ lim) (.ok [x])) k) kk (EE K E H0))
    (c : ∀ xs p F' H' S, Nx0 F H F' H' → Same H0 H' → OwT K H0 F' H' p S xs → (∀ q, (∃ u, H q = some u) → q ≠ p) → (∀ b, S b → Sa b) → Wp (k xs) kk (EE K E H0) → D.nx (σ.set i (some (.ref p))) H') : tAsg (tLst (tCons (tVar j) tNil)) (gName i) D σ H := by
  rw [gd_pos (show [x].length ≤ lim by show 1 ≤ lim; decide), bd_ok] at hQ
  refine ⟨v, hv, by show 1 ≤ sizeLine; decide, fun p hp => ?_⟩
  have e2 : Same H (upd H p (.lst [v])) := same_upd hp
  have n := nx_tupF hF e2
  exact c [x] p _ _ Sa n (e0.trans e2) ⟨Same.free e0 hp, tupF_none (by rw [upd_same]; rfl) (Same.free hF hp), ⟨[v], upd_same, .cons (S1 := Sa) (S2 := fun _ => False) (fun b z => ⟨z, fun y => y⟩) (fun _ z => z.elim) (Tr.mono (Agr.same n.ff) t) .nil⟩, fp_ff w n.ff⟩ (fun q ⟨u, hu⟩ z => by rw [z, hp] at hu; cases hu) (fun _ z => z) hQ
/-- xs.append(x) -/
theorem s_otPush {p : Addr} {j : Nat} {x : α} {xs : List α} {k : List α → R ρ} {kk : ρ → Prop} (ha : At to σ H p) (o : OwT K H0 F H p Sb xs) (t : Tr.tr K F Sa v x) (w : Fp H0 F Sa) (dj : ∀ b, Sa b → ¬ Sb b) (hv : σ[j]? = some (some v)) (hF : Same F H) (e0 : Same H0 H)
    (hQ : Wp (R.bd (R.bd (.ok x) fun a => appR xs a) k) kk (EE K E H0))
    (c : ∀ xs' F' H' S, Nx (fun q => q = p) F H F' H' → Same H0 H' → OwT K H0 F' H' p S xs' → (∀ b, S b → Sb b ∨ Sa b) → Wp (k xs') kk (EE K E H0) → D.nx σ H') : tDrop (tBM K "list" rAppend to (tCons (tVar j) tNil)) D σ H := by
  obtain ⟨h0, f, ⟨vs, hp, r⟩, w2⟩ := o
  refine ha H (Same.refl _) _ ⟨.inl ⟨rfl, _, SqL.of hp⟩, ?_⟩
  refine ⟨v, hv, ?_⟩
  rw [bd_ok] at hQ
  have len : vs.length = xs.length := (r.all (F := fun _ _ => True) fun _ _ _ _ => trivial).length
  unfold appR gd at hQ
  split at hQ
  · rename_i cl
    refine ⟨p, vs, v, rfl, rfl, hp, lim_line' (by rw [len]; exact cl), ?_⟩
    have n := nx_upd (o' := .lst (vs ++ [v])) hF (Same.refl _) hp f
    refine c (xs ++ [x]) _ _ (fun b => Sb b ∨ Sa b) n (e0_upd e0 (Same.refl _) h0) ⟨h0, n.own p _ rfl hp f, ⟨vs ++ [v], upd_same, ?_⟩, fun b z => z.elim (fun z => fp_ff w2 n.ff b z) fun z => fp_ff w n.ff b z⟩ (fun _ z => z) hQ
    exact TrL.snoc (trl_agr (Agr.same n.ff) r) (Tr.mono (Agr.same n.ff) t) (fun b z => ⟨.inl z, fun y => dj b y z⟩) fun b z => .inr z
  · exact hQ.elim
/-- xs.append(e), e new -/
theorem s_otPushE {p : Addr} {xs : List α} {m : R α} {k : List α → R ρ} {kk : ρ → Prop} (ha : At to σ H p) (o : OwT K H0 F H p Sb xs) (he : GrX K E te σ H m) (hF : Same F H) (e0 : Same H0 H)
    (hQ : Wp (R.bd (R.bd m fun a => appR xs a) k) kk (EE K E H0))
    (c : ∀ xs' F' H' S, Nx (fun q => q = p) F H F' H' → Same H0 H' → OwT K H0 F' H' p S xs' → (∀ b, S b → Sb b ∨ H b = none) → Wp (k xs') kk (EE K E H0) → D.nx σ H') : tDrop (tBM K "list" rAppend to (tCons te tNil)) D σ H := by
  obtain ⟨h0, f, ⟨vs, hp, r⟩, w2⟩ := o
  refine ha H (Same.refl _) _ ⟨.inl ⟨rfl, _, SqL.of hp⟩, ?_⟩
  refine he H (Same.refl _) _ ?_
  rw [bd_assoc, wp_bd] at hQ
  refine wp_mono hQ (fun x _ q u H2 e2 ⟨S, re, n2⟩ => ?_) fun c _ z => z.mono e0
  have len : vs.length = xs.length := (r.all (F := fun _ _ => True) fun _ _ _ _ => trivial).length
  unfold appR gd at q
  split at q
  · rename_i cl
    have hp2 := e2 _ _ hp
    refine ⟨p, vs, u, rfl, rfl, hp2, lim_line' (by rw [len]; exact cl), ?_⟩
    have n := nx_upd (o' := .lst (vs ++ [u])) hF e2 hp f
    have sub : Agr S H2 (mix F H H2) := fun b o h z => by
      rcases z with z | z
      · rw [mix_new (n2 b z).1]; exact h
      · cases w : H b with
        | none => rw [mix_new w]; exact h
        | some u =>
          have := e2 b u w
          rw [h] at this
          cases this
          exact mix_tup w z
    have w : Fp H0 (mix F H H2) S := fun b z => by
      obtain ⟨h1, o, h2, h3⟩ := n2 b z
      exact ⟨Same.free e0 h1, o, by rw [mix_new h1]; exact h2, h3⟩
    have dj : ∀ b, S b → ¬ Sb b := ft_dj w2 hF fun b z => (n2 b z).1
    refine c (xs ++ [x]) _ _ (fun b => Sb b ∨ S b) n (e0_upd e0 e2 h0) ⟨h0, n.own p _ rfl hp f, ⟨vs ++ [u], upd_same, ?_⟩, fun b z => z.elim (fun z => fp_ff w2 n.ff b z) fun z => w b z⟩ (fun b z => z.imp id fun z => (n2 b z).1) q
    exact TrL.snoc (trl_agr (Agr.same n.ff) r) (Tr.mono sub re) (fun b z => ⟨.inl z, fun y => dj b y z⟩) fun b z => .inr z
  · exact q.elim
end
end G

set_option Elab.async false
set_option linter.all false
set_option maxRecDepth 100000
set_option maxHeartbeats 4000000
/-! G: texts. -/
namespace G
open PySem PySem.Spec PyProof.Rows L2
/-- a sign of a text -/
noncomputable def strIdx (s : Str) (i : Int) : R Str := gd (s.length ≤ lim) (match atI s.cps.toList i with
  | some c => .ok ⟨#[c]⟩
  | none => .bad)
noncomputable def strLen (s : Str) : R Int := gd (s.length ≤ lim) (.ok (s.length : Int))
def strIn (x y : Str) : Bool := !(Builtin.Str.occurrences y x 0 y.length 1).isEmpty
noncomputable def intS (s : Str) : R Int := gd (s.length ≤ 640) (match intText? s with
  | some n => .ok n
  | none => .bad)
def numS (n : Int) : Str := Str.ofString (toString n)
noncomputable def strN (n : Int) : R Str := gd (n.natAbs.log2 < 1920) (.ok (numS n))
noncomputable def splitR (a b : Str) : R (List Str) := gd ((b.length == 0) = false ∧ a.length + 2 ≤ lim) (.ok (Txt.split a b))
noncomputable def joinR (s : Str) (xs : List Str) : R Str := gd ((xs.map fun x => x.length).sum + xs.length * s.length ≤ 16777216) (.ok (Txt.join s xs))
noncomputable def catS (a b : Str) : R Str := gd (a.length + b.length ≤ lim) (.ok (a ++ b))
noncomputable def sliceS (s : Str) (lo hi : Option Int) : R Str := gd (s.length ≤ lim) (.ok (cutS s lo hi))
def signs (s : Str) : List Str := s.cps.toList.map fun c => (⟨#[c]⟩ : Str)
section
variable {K : PySem.W.Frag} {E : XK} {σ : L2.St} {H0 F H F' H' : Hp} {te ta tb to ti : TE} {α β γ δ ρ : Type} [Rp α] [Rp β] [Rp γ] [Rp δ] [Rp ρ]
theorem lim_le : ∀ {n : Nat}, n ≤ lim → n ≤ sizeLine := fun {n} h => by
  have : lim ≤ sizeLine := by decide
  omega
theorem g_idxStr {ma : R Str} {mi : R Int} (ha : Gr K E ta σ F H ma) (hi : Gr K E tb σ F H mi) : Gr K E (tOp rIxS ta tb) σ F H (R.bd ma fun a => R.bd mi fun i => strIdx a i) := fun H1 e Q hq =>
  gr_seq ha e hq fun s v H2 e2 r hq2 => gr_seq hi (e.trans e2) hq2 fun i w H3 e3 r3 hq3 => by
    have r : v = .str s := r
    have r3 : w = .int i := r3
    subst r; subst r3
    unfold strIdx gd at hq3
    split at hq3
    · rename_i c
      cases q : atI s.cps.toList i with
      | none => rw [q] at hq3; exact hq3.elim
      | some a =>
        rw [q] at hq3
        exact ⟨s, i, a, rfl, rfl, lim_le c, q, hq3 _ H3 (Same.refl _) rfl⟩
    · exact hq3.elim
theorem g_lenStr {m : R Str} (h : Gr K E ta σ F H m) : Gr K E (tCB (fun xs H Q => ∃ z : Str, xs = [V.str z] ∧ z.length ≤ sizeLine ∧ Q (V.int z.length) H) (tCons ta tNil)) σ F H (R.bd m strLen) := fun H1 e Q hq =>
  gr_seq h e hq fun s v H2 e2 r hq2 => by
    have r : v = .str s := r
    subst r
    unfold strLen gd at hq2
    split at hq2
    · rename_i c
      exact ⟨s, rfl, lim_le c, hq2 _ H2 (Same.refl _) rfl⟩
    · exact hq2.elim
theorem g_strIn {ma mb : R Str} (ha : Gr K E ta σ F H ma) (hb : Gr K E tb σ F H mb) : Gr K E (tOp (fun x y H Q => ∃ i j, x = V.str i ∧ y = V.str j ∧ Q (V.bl !(Builtin.Str.occurrences j i 0 j.length 1).isEmpty) H) ta tb) σ F H (R.bd ma fun a => R.bd mb fun b => .ok (strIn a b)) := fun H1 e Q hq =>
  gr_seq ha e hq fun a v H2 e2 r hq2 => gr_seq hb (e.trans e2) hq2 fun b w H3 e3 r3 hq3 => by
    have r : v = .str a := r
    have r3 : w = .str b := r3
    subst r; subst r3
    exact ⟨a, b, rfl, rfl, hq3 _ H3 (Same.refl _) rfl⟩
theorem g_strNotIn {ma mb : R Str} (ha : Gr K E ta σ F H ma) (hb : Gr K E tb σ F H mb) : Gr K E (tOp (fun x y H Q => ∃ i j, x = V.str i ∧ y = V.str j ∧ Q (V.bl !!(Builtin.Str.occurrences j i 0 j.length 1).isEmpty) H) ta tb) σ F H (R.bd ma fun a => R.bd mb fun b => .ok (!strIn a b)) := fun H1 e Q hq =>
  gr_seq ha e hq fun a v H2 e2 r hq2 => gr_seq hb (e.trans e2) hq2 fun b w H3 e3 r3 hq3 => by
    have r : v = .str a := r
    have r3 : w = .str b := r3
    subst r; subst r3
    exact ⟨a, b, rfl, rfl, hq3 _ H3 (Same.refl _) rfl⟩
theorem g_intStr {m : R Str} (h : Gr K E ta σ F H m) : Gr K E (tCB (fun xs H Q => ∃ a n, xs = [V.str a] ∧ intText? a = some n ∧ a.length ≤ 640 ∧ Q (V.int n) H) (tCons ta tNil)) σ F H (R.bd m intS) := fun H1 e Q hq =>
  gr_seq h e hq fun s v H2 e2 r hq2 => by
    have r : v = .str s := r
    subst r
    unfold intS gd at hq2
    split at hq2
    · rename_i c
      cases q : intText? s with
      | none => rw [q] at hq2; exact hq2.elim
      | some n =>
        rw [q] at hq2
        exact ⟨s, n, rfl, q, c, hq2 _ H2 (Same.refl _) rfl⟩
    · exact hq2.elim
theorem g_strInt {m : R Int} (h : Gr K E ta σ F H m) : Gr K E (tCB (fun xs H Q => ∃ i, xs = [V.int i] ∧ i.natAbs.log2 < 1920 ∧ Q (V.str (Str.ofString (toString i))) H) (tCons ta tNil)) σ F H (R.bd m strN) := fun H1 e Q hq =>
  gr_seq h e hq fun n v H2 e2 r hq2 => by
    have r : v = .int n := r
    subst r
    unfold strN gd at hq2
    split at hq2
    · rename_i c
      exact ⟨n, rfl, c, hq2 _ H2 (Same.refl _) rfl⟩
    · exact hq2.elim
theorem strs_rep {F : Hp} : ∀ ys : List Str, All2 (Rp.rep K F) (ys.map V.str) ys := fun ys => All2.ofMap V.str (fun _ => rfl) ys
theorem g_split {ma mb : R Str} (ha : Gr K E ta σ F H ma) (hb : Gr K E tb σ F H mb) : Gr K E (tM1 (fun x xs H Q => ∃ a b, x = V.str a ∧ xs = [V.str b] ∧ (b.length == 0) = false ∧ a.length + 2 ≤ sizeLine ∧ rNewStrs (Txt.split a b) H Q) ta tb) σ F H (R.bd ma fun a => R.bd mb fun b => splitR a b) := fun H1 e Q hq =>
  gr_seq ha e hq fun a v H2 e2 r hq2 => ⟨⟨a, r⟩, gr_seq hb (e.trans e2) hq2 fun b w H3 e3 r3 hq3 => by
    have r : v = .str a := r
    have r3 : w = .str b := r3
    subst r; subst r3
    unfold splitR gd at hq3
    split at hq3
    · rename_i c
      refine ⟨a, b, rfl, rfl, c.1, lim_le c.2, fun p hp => hq3 _ _ (same_upd hp) ?_⟩
      have hn : H p = none := Same.free (e.trans (e2.trans e3)) hp
      exact ⟨p, _, rfl, by rw [mix_new hn]; exact upd_same, strs_rep _⟩
    · exact hq3.elim⟩
theorem g_join {ma : R Str} {mb : R (List Str)} (ha : Gr K E ta σ H H ma) (hb : Gr K E tb σ H H mb) : Gr K E (tM1 (fun x xs H Q => ∃ a p ys, x = V.str a ∧ xs = [V.ref p] ∧ (SqL K H p (List.map V.str ys) ∨ SqT K H p (List.map V.str ys)) ∧ (List.map (fun x => x.length) ys).sum + ys.length * a.length ≤ 16777216 ∧ Q (V.str (Txt.join a ys)) H) ta tb) σ F H (R.bd ma fun a => R.bd mb fun b => joinR a b) := fun H1 e Q hq =>
  gr_arg ha e hq fun a v H2 e2 r hq2 => ⟨⟨a, r⟩, gr_arg hb (e.trans e2) hq2 fun b w H3 e3 r3 hq3 => by
    have r : v = .str a := r
    subst r
    obtain ⟨p, vs, rfl, hp, hv⟩ := r3
    have h2 := rep_strs hv
    subst h2
    unfold joinR gd at hq3
    split at hq3
    · rename_i c
      exact ⟨a, p, b, rfl, rfl, .inl (SqL.of hp), c, hq3 _ H3 (Same.refl _) rfl⟩
    · exact hq3.elim⟩
theorem g_catStr {ma mb : R Str} (ha : Gr K E ta σ F H ma) (hb : Gr K E tb σ F H mb) : Gr K E (tOp (fun x y H Q => ∃ i j : Str, x = V.str i ∧ y = V.str j ∧ i.length + j.length ≤ sizeLine ∧ Q (V.str (i ++ j)) H) ta tb) σ F H (R.bd ma fun a => R.bd mb fun b => catS a b) := fun H1 e Q hq =>
  gr_seq ha e hq fun a v H2 e2 r hq2 => gr_seq hb (e.trans e2) hq2 fun b w H3 e3 r3 hq3 => by
    have r : v = .str a := r
    have r3 : w = .str b := r3
    subst r; subst r3
    unfold catS gd at hq3
    split at hq3
    · rename_i c
      exact ⟨a, b, rfl, rfl, lim_le c, hq3 _ H3 (Same.refl _) rfl⟩
    · exact hq3.elim
theorem g_sliceStr {tlo thi : TO} {m : R Str} {mlo mhi : R (Option Int)} (h : Gr K E ta σ F H m) (hlo : GrO K E tlo σ H mlo) (hhi : GrO K E thi σ H mhi) :
    Gr K E (tSl rSlS ta tlo thi) σ F H (R.bd m fun xs => R.bd mlo fun lo => R.bd mhi fun hi => sliceS xs lo hi) := fun H1 e Q hq =>
  gr_seq h e hq fun s v H2 e2 r hq2 => gro_seq hlo (e.trans e2) hq2 fun lo H3 e3 hq3 => gro_seq hhi (e.trans (e2.trans e3)) hq3 fun hi H4 e4 hq4 => by
    have r : v = .str s := r
    subst r
    unfold sliceS gd at hq4
    split at hq4
    · rename_i c
      exact ⟨s, rfl, lim_le c, hq4 _ H4 (Same.refl _) rfl⟩
    · exact hq4.elim
theorem i_str {m : R Str} (h : Gr K E te σ F H m) : GrI K E (iStr te) σ F H (R.bd m fun s => .ok (signs s)) := fun H1 e RR hq =>
  h H1 e _ (by
    rw [wp_bd] at hq
    refine wp_mono hq (fun s _ k v H2 e2 r => ?_) fun _ _ z => z
    have r : v = .str s := r
    subst r
    have hl : (signs s).length = s.cps.size := by unfold signs; simp
    refine ⟨s, rfl, k _ H2 e2 ⟨fun i H' s' hi => (by rw [hl] at hi; exact hi), fun i H' s' hi => (by rw [hl] at hi; exact Nat.le_of_eq hi.symm), fun i H' x H'' s' hi y => ?_⟩⟩
    obtain ⟨rfl, c, hc, rfl⟩ := y
    refine ⟨Same.refl _, ⟨#[c]⟩, ?_, rfl⟩
    unfold signs
    rw [List.getElem?_map, Array.getElem?_toList, hc]
    rfl)
end
end G

set_option Elab.async false
set_option linter.all false
set_option maxRecDepth 100000
set_option maxHeartbeats 4000000
/-! G: a list comprehension whose item may raise: the exception goes on through the def around. -/
namespace G
open PySem PySem.Spec PyProof.Rows L2 HandSPX
section
variable {X : Cx} {pins : List (Addr × Obj)} {σ : L2.St} {H : Hp} {s : Shared}
theorem okXe {xe : Value → Shared → Prop} (o : X.Ok) : Cx.Ok { X with xe := xe } :=
  ⟨o.mod, o.kind, o.glob, o.blt, o.above, o.inj, o.has, o.cab, o.hd, o.frames, o.stk, o.exf, o.bs, o.bsz, o.noex, o.exfs, o.funs, o.frf⟩
theorem invXe {xe : Value → Shared → Prop} (I : Inv X pins σ H s) : Inv { X with xe := xe } pins σ H s :=
  ⟨okXe I.ok, I.os, I.bare, I.base, I.loc, I.cell, I.free, I.freeC, I.pin, I.hok, I.len⟩
/-- the block's context: what a call inside lets out is in its air -/
abbrev bxe (X : Cx) (s : Shared) (H : Hp) (sc : Scope) (ce : Env) (fp : List Addr) (E : XK) : Cx :=
  { X.blk s H sc ce fp with xe := fun u s' => ∃ pins σ H1 s1, Inv (X.blk s H sc ce fp) pins σ H1 s1 ∧ L2.CX X.prog X.w X.stack H1 s1 E u s' }
theorem bxe_pass {sc : Scope} {ce : Env} {fp : List Addr} {E : XK} (σ : L2.St) : PassesAt (L2.CX X.prog X.w) (bxe X s H sc ce fp E) σ E := fun pins H1 s1 _ _ I c =>
  ⟨pins, σ, H1, s1, invXe (X := bxe X s H sc ce fp E) (xe := fun _ _ => False) I, c⟩
theorem hide_one {h : Heap} {C b : Addr} {o : Obj} (e : h.get? b = some o) (n : b ≠ C) : (PySem.W.hideAll h [C]).get? b = some o :=
  PySem.W.hideAll_get [C] e fun z => by simp at z; exact n z
theorem of_hide_one {h : Heap} {C b : Addr} {o : Obj} (e : (PySem.W.hideAll h [C]).get? b = some o) : h.get? b = some o ∧ b ≠ C :=
  ⟨PySem.W.of_hideAll [C] e, fun z => by rw [z, PySem.W.hideAll_none [C] (by simp)] at e; cases e⟩
theorem hide_free {h : Heap} {C b : Addr} (n : h.get? b = none) : (PySem.W.hideAll h [C]).get? b = none := by
  cases q : (PySem.W.hideAll h [C]).get? b with
  | none => rfl
  | some o => rw [(of_hide_one q).1] at n; cases n
/-- the block's names let go: the exception is held as it was -/
theorem held_but {B h h' : Heap} {l : List Env} {a C L : Addr} {Z : Obj → Prop} {m m' : Str → Option Value} {oC : Obj} (hC : B.get? C = some oC) (hn : h'.Ns C m') (sb : Heap.SameBut C h h') (x : HeldZ B l a Z L h) : HeldZ (PySem.W.hideAll B [C]) l a Z L h' := by
  obtain ⟨k1, k2, k3, oe, vs, T, oT, ts, he, hz, hd, h1, hnT, hTe, hT, hdT, h3⟩ := x
  have aC : a ≠ C := fun z => by rw [z, hC] at k2; cases k2
  have tC : T ≠ C := fun z => by rw [z, hC] at hnT; cases hnT
  have ff : h'.FunFrames B l := Heap.FunFrames.sameBut sb hn k3
  refine ⟨fun b o e => ?_, hide_free k2, funFrames_none ff fun b hb => hide_free (ff.mem hb).1, oe, vs, T, oT, ts, (sb.2 a aC).trans he, hz, hd, h1, hide_free hnT, hTe, (sb.2 T tC).trans hT, hdT, h3⟩
  obtain ⟨e1, e2⟩ := of_hide_one e
  exact (sb.2 b e2).trans (k1 b o e1)
/-- what a call inside let out leaves the block and is in the air of the def -/
theorem block_out {s3 s' : Shared} {H3 : Hp} {sc : Scope} {ce : Env} {fp : List Addr} {E : XK} {u : Value} {C : Addr} (hst : X.stack = X.env :: X.outer) (hfr : X.env.frame = some X.env.locals) (tk : Takes X (fun cls d _ H => E cls d H))
    (I3 : Inv X pins σ H3 s3) (hC : s3.heap.objs.size ≤ C) (f3 : ∀ b ∈ fp, FpOk X pins H3 b ∧ b < s3.heap.objs.size) (cl : ce.locals = C) (cf : ce.frame = X.env.frame)
    (x : ∃ pins σ H1 s1, Inv (X.blk s3 H3 sc ce fp) pins σ H1 s1 ∧ L2.CX X.prog X.w X.stack H1 s1 E u s') :
    notedBy (model X.prog X.w) X.A ce (CompFails (model X.prog X.w) X.A X.xe ce) u s' := by
  obtain ⟨p5, σ5, H5, s5, I5, a, B, H6, cls, d, rfl, fl, hok, ub, na, os, ag, hE⟩ := x
  have afr : X.A.frames = some (X.env :: X.outer) := by rw [I3.ok.frames, hst]
  have nC : H5 C = none := by have z : H5 ce.locals = none := I5.free; rw [cl] at z; exact z
  have below : ∀ b o, s3.heap.get? b = some o → b ≠ C := fun b o e z => by
    have := Heap.lt_size e
    rw [z] at this
    exact absurd (Nat.lt_of_lt_of_le this hC) (Nat.lt_irrefl _)
  have frC : C ∉ frs X.stack := fun z => by
    obtain ⟨_, o, e, _⟩ := I3.stack.mem z
    exact below _ _ e rfl
  obtain ⟨m, ⟨oC, es, ep, hoC, rC⟩, _⟩ := I5.loc
  have hoC : s5.heap.get? C = some oC := by rw [← cl]; exact hoC
  have hBC : B.get? C = some oC := ub.keep C oC hoC nC frC
  have nsB : B.Ns C m := ⟨oC, es, ep, hBC, rC⟩
  show wpAny _ _ (noteFrame (.ref a) ce) _ _ s'
  rw [noteFrame_env _ cf]
  refine looks_onZ Zc.steady afr hfr (by rw [← hst]; exact fl) fun h7 held7 up7 => ?_
  refine ⟨m, by rw [cl]; exact nsB.keeps held7.1, fun h8 m8 hn8 sb8 => ?_⟩
  rw [cl] at hn8 sb8
  have sb8 : Heap.SameBut C h7 h8 := sb8
  have held8 := held_but (m := m) hBC hn8 sb8 held7
  obtain ⟨oe, vs, T, oT, ts, he, hz, hd, h1, _⟩ := held8.2.2.2
  unfold PySem.passOn
  refine wpAny_bind (wpAny_field he hd h1 ?_)
  rw [if_neg (by simp), cf, hfr]
  refine wpAny_bind (setFlight_onZ held8 fun h9 held9 up9 => wpAny_throw ?_)
  -- in the air of the def
  obtain ⟨G, g1, g2⟩ := restrict h9 fun b => ((PySem.W.hideAll B [C]).get? b).isSome || decide (b ∈ frs X.stack)
  have gB : ∀ b o, B.get? b = some o → b ≠ C → G.get? b = some o := fun b o e n => by
    have e2 := hide_one e n
    rw [g1 b (by simp [e2])]
    exact held9.1 b o e2
  have gF : ∀ b, b ∈ frs X.stack → G.get? b = h9.get? b := fun b hb => g1 b (by simp [hb])
  have og : ∀ b o, G.get? b = some o → h9.get? b = some o ∧ (((PySem.W.hideAll B [C]).get? b).isSome = true ∨ b ∈ frs X.stack) := fun b o e => by
    cases q : (((PySem.W.hideAll B [C]).get? b).isSome || decide (b ∈ frs X.stack)) with
    | true =>
      rw [g1 b q] at e
      exact ⟨e, by simpa [Bool.or_eq_true] using q⟩
    | false => rw [g2 b q] at e; cases e
  have slot : ∀ b o, s3.heap.get? b = some o → b ∈ frs X.stack → b ∉ fp → ∃ sl, G.get? b = some { o with slots := sl } := fun b o e hb hc => by
    have n3 := I3.stkFree b hb
    obtain ⟨_, o9, e9, nf⟩ := I3.stack.mem hb
    rw [e] at e9
    cases e9
    obtain ⟨s1, e1⟩ := I5.base.slot b o e n3 hb hc
    obtain ⟨s2, e2⟩ := ub.slot b _ e1 hb
    obtain ⟨s4, e4⟩ := up7 b _ e2 nf
    have e5 := (sb8.2 b (below b o e)).trans e4
    obtain ⟨s6, e6⟩ := up9 b _ e5 nf
    exact ⟨s6, by rw [gF b hb]; exact e6⟩
  have un : Un (frs X.stack) fp H3 H6 s3.heap G := by
    refine ⟨fun b o e n hb hc => ?_, fun b o e n hb hc => slot b o e hb hc, fun b o e n hc => ?_, fun b o e hc => ?_, fun b xs e => ub.tups b xs (I5.base.tups b xs e), fun b o xs e => ub.frzs b o xs (I5.base.frzs b o xs e), fun b ps e => ?_⟩
    · exact gB b o (ub.keep b o (I5.base.keep b o e n hb hc) (I5.base.free b o e n hc) hb) (below b o e)
    · obtain ⟨o5, e5⟩ := I5.base.there b o e hc
      exact ub.free b o5 e5 (I5.base.free b o e n hc)
    · by_cases hb : b ∈ frs X.stack
      · obtain ⟨sl, q⟩ := slot b o e hb hc
        exact ⟨_, q⟩
      · obtain ⟨o5, e5⟩ := I5.base.there b o e hc
        obtain ⟨o6, e6⟩ := ub.there b o5 e5 hb
        exact ⟨o6, gB b o6 e6 (below b o e)⟩
    · obtain ⟨m1, h1⟩ := I5.base.tbls b ps e
      obtain ⟨m2, h2⟩ := ub.tbls b _ h1
      exact ⟨m1 ++ m2, by rw [h2, Array.append_assoc]⟩
  have n6 : H6 C = none := ub.free C oC hoC nC
  have hokG : HOk X.prog X.w H6 G := fun b o q => (hok b o q).stay (fun c w hc r => gB c w r fun z => by
    rcases hc with hc | hc
    · rw [← hc, z, n6] at q; cases q
    · rw [z, n6] at hc; cases hc) (fun _ r => r) fun _ _ r => r
  have J : Inv X pins σ H6 { s3 with heap := G, gens := s'.gens, drawn := s'.drawn, toks := s'.toks } :=
    I3.call' rfl un hokG ag fun b hb => ⟨(f3 b hb).1.2.2.2.1, (f3 b hb).1.2.1, (f3 b hb).1.2.2.2.2.1, (f3 b hb).1.2.2.2.2.2⟩
  have osE : s'.os = s3.os := os.trans I5.os
  refine tk _ _ ⟨a, PySem.W.hideAll B [C], _, pins, σ, H6, cls, d, rfl, J, fun b o e hb => ?_, Heap.UpToSlots.of_keeps fun b o e => (og b o e).1, .inr (.inr (by rw [hst]; exact held9)), na, osE, ag, hE⟩
  obtain ⟨e1, e2⟩ := og b o e
  rcases e2 with e2 | e2
  · obtain ⟨o2, q⟩ := Option.isSome_iff_exists.mp e2
    have := held9.1 b o2 q
    rw [e1] at this
    cases this
    exact q
  · exact absurd e2 hb
end
/-- the turns of a block, what is in its air noted -/
theorem block_loop {Y : Cx} {tg elt iter : Expr} {ifs : List Expr} {scope : Scope} {pos : Pos} {J : It} {fp : List Addr} {it D : Addr} {tn : Nat → Heap → Prop} {R : Result → Shared → Prop} {σ : L2.St} {vs : List Nat} {g : TG} {tt : TT} {te : TE} {W : Nat → Nat → Hp → Prop} {Qd : Hp → Prop}
    (T : Turn Y.prog Y.w Y.K tg J fp it tn) (calm : Y.calm = true) (hex : Y.ex = fp) (hpn : Y.pn = []) (bad : ∀ u s', Y.xe u s' → notedBy (model Y.prog Y.w) Y.A Y.env (fun e s' => R (.error e) s') u s')
    (good : ∀ s' H', Inv Y [] (wipe σ vs) H' s' → Qd H' → R (.ok .next) s') (pg : PG Y tg g) (pt : PTs Y ifs tt) (pe : PE Y elt te)
    (turn : ∀ i m H, W i m H → (J.stop i H ∧ Qd H) ∨ (J.go i H ∧ ∃ Nx : Hp → Prop, (∀ H', Nx H' → ∃ m', m' < m ∧ W (i + 1) m' H') ∧ ∀ x H', J.yld i H x H' → g x (wipe σ vs) H' fun σ2 H2 => wipe σ2 vs = wipe σ vs ∧ tt σ2 H2 fun b H3 =>
      if b = true then te σ2 H3 fun y H4 => ∃ acc, H4 D = some (.lst acc) ∧ acc.length < sizeLine ∧ Nx (upd H4 D (.lst (acc ++ [y]))) else Nx H3))
    {m0 : Nat} {H0 : Hp} {s0 : Shared} (w0 : W 0 m0 H0) (I0 : Inv Y [] (wipe σ vs) H0 s0) (t0 : tn 0 s0.heap) (n0 : ∀ b ∈ fp, H0 b = none) :
    codeAny (model Y.prog Y.w) Y.A (.compLoop (.ListComp elt [⟨tg, iter, ifs, 0⟩] scope pos) 0 (.ref it) (.ref D) Y.env) R s0 := by
  subst hex
  have fpo : ∀ {τ : L2.St} {H' : Hp} {s' : Shared}, Inv Y [] τ H' s' → (∀ b ∈ Y.ex, H' b = none) → ∀ b ∈ Y.ex, FpOk Y [] H' b := fun I' n b hb =>
    ⟨n b hb, (I'.ok.exf b hb).1, I'.ok.exfs b hb, .inl hb, (I'.ok.exf b hb).2, fun p hp => by rw [hpn] at hp; simp at hp⟩
  let Wd : Nat → Shared → Prop := fun m s' => ∃ i H', W i m H' ∧ Inv Y [] (wipe σ vs) H' s' ∧ tn i s'.heap ∧ ∀ b ∈ Y.ex, H' b = none
  refine compLoop_any Wd (fun m s1 h1 => ?_) m0 ⟨0, H0, w0, I0, t0, n0⟩
  obtain ⟨i, H1, w1, I1, t1, n1⟩ := h1
  obtain ⟨st, q⟩ | ⟨go, Nx, hNx, body⟩ := turn i m H1 w1
  · refine wpAny_mono (T.done Y rfl rfl rfl calm i [] s1 _ H1 (fun _ _ => False) I1 (fpo I1 n1) t1 st) (fun r s2 h => ?_) fun _ _ z => z.elim
    obtain ⟨rfl, I2⟩ := h
    exact good s2 H1 I2 q
  · refine wpAny_mono (T.item Y rfl rfl rfl calm i [] s1 _ H1 (fun _ _ => False) I1 (fpo I1 n1) t1 go) (fun r s2 h => ?_) fun _ _ z => z.elim
    obtain ⟨u, rfl, h⟩ := h
    refine wpAny_mono h (fun _ s3 h => ?_) fun _ _ z => z.elim
    obtain ⟨x, H3, I3, rx, y3, t3, n3⟩ := h
    have pinned := I3.pinned (fpo I3 n3) (T.obj _ _ t3)
    -- behind the turn
    have next : ∀ {s' : Shared} {τ : L2.St} {H' : Hp}, wipe τ vs = wipe σ vs → Inv Y ([] ++ pinsAt Y.ex s3.heap) τ H' s' → Nx H' → ∃ k, k < m ∧ Wd k s' := fun {s' τ H'} hw I' nx => by
      obtain ⟨k, lt, w⟩ := hNx H' nx
      have at_ : ∀ b ∈ Y.ex, ∀ o, s3.heap.get? b = some o → s'.heap.get? b = some o ∧ H' b = none := fun b hb o e => by
        have := I'.pin (b, o) (List.mem_append_right _ (List.mem_append_right _ (mem_pinsAt hb e)))
        exact ⟨this.1, this.2.1⟩
      refine ⟨k, lt, i + 1, H', w, I'.unpinned.weak (by rw [← hw, wipe_length]) (fun j v e => ?_), T.keep _ _ _ t3 (fun b hb o e => (at_ b hb o e).1), fun b hb => ?_⟩
      · rw [← hw] at e
        exact (wipe_some e).1
      · obtain ⟨o, e, _⟩ := T.obj _ _ t3 b hb
        exact (at_ b hb o e).2
    refine wpAny_mono (pg.run _ s3 _ H3 x u _ pinned rx (body x H3 y3)) (fun _ s4 h => ?_) bad
    obtain ⟨σ4, H4, I4, hw, h⟩ := h
    refine wpAny_mono (pt.run _ s4 σ4 H4 _ I4 h) (fun b s5 h => ?_) bad
    obtain ⟨H5, I5, h⟩ := h
    cases b with
    | true =>
      rw [if_pos rfl] at h ⊢
      refine wpAny_mono (pe.run _ s5 σ4 H5 _ I5 h) (fun z s6 h => ?_) bad
      obtain ⟨y, H6, I6, r6, acc, hD, hz, nx⟩ := h
      exact app_ok I6 hD hz r6 fun s7 I7 => next hw I7 nx
    | false =>
      rw [if_neg Bool.false_ne_true] at h ⊢
      exact next hw I5 h
section
variable {X : Cx}
/-- a comprehension whose item may raise -/
theorem lcE_core {pins : List (Addr × Obj)} {s : Shared} {σ : L2.St} {H : Hp} {Q : VK} {elt tg iter : Expr} {ifs : List Expr} {scope : Scope} {own : List (Str × Nat)} {pos pos' : Pos} {wi : TI} {g : TG} {tt : TT} {te : TE} {use : Option (Value → Sem Unit)} {Qf : Value → Shared → Prop} {E : XK}
    (calm : X.calm = true) (nd : X.N.Nodup) (hst : X.stack = X.env :: X.outer) (hfr : X.env.frame = some X.env.locals) (tk : Takes X (fun cls d _ H => E cls d H)) (I : Inv X pins σ H s) (hi : PI X tg iter wi) (ok : BlkOk X.N X.env.scope scope own)
    (hg : ∀ s H C cl fp, PG (bxe X s H scope (compEnvC scope cl C X.env) fp E) tg g) (ht : ∀ s H C cl fp, PTs (bxe X s H scope (compEnvC scope cl C X.env) fp E) ifs tt) (he : ∀ s H C cl fp, PE (bxe X s H scope (compEnvC scope cl C X.env) fp E) elt te)
    (hsw : ∀ x, foldedSetIterable iter X.env x = pure x) (h : tLc wi g tt te (own.map (·.2)) σ H Q)
    (fin : ∀ D C s' m H' (ce : Env), ce.locals = C → Inv X pins σ H' s' → Q (.ref D) H' → s'.heap.Ns C m → FpOk X pins H' C → compEnds (model X.prog X.w) X.A X.xe use Qf (.ref D) ce (.ok .next) s') :
    wpAny (model X.prog X.w) X.A (comprehension (.ListComp elt [⟨tg, iter, ifs, 0⟩] scope pos) scope X.env pos' (newList []) false (eval iter X.env) use) Qf X.xe s := by
  refine comprehension_at (use := use) rfl hsw (closure_ok fun y hy e => I.ok.has _ (ok.free y hy e)) ok.kind (fun y hy e => (ok.uniq y hy).trans (congrArg some e)) ?_
  refine wpAny_mono (hi.run pins s σ H _ I h) (fun xv s1 h1 => wpAny_mono h1 (fun itv s2 h2 => ?_) fun _ _ z => z) fun _ _ z => z
  obtain ⟨it, fp, tn, J, H2, rfl, I2, T, t2, f2, q⟩ := h2
  refine wpAny_newObj_type (newEnv_comp ?_) (Nat.zero_le _)
  obtain ⟨D, eD⟩ : ∃ D, s2.heap.objs.size = D := ⟨_, rfl⟩
  obtain ⟨s3, e3⟩ : ∃ s3 : Shared, ({ s2 with heap := s2.heap.push { cls := .type "list", data := .seq ([] : List Value).toArray } } : Shared) = s3 := ⟨_, rfl⟩
  have p3 : s3.heap = s2.heap.push { cls := .type "list", data := .seq ([] : List Value).toArray } := by rw [← e3]
  obtain ⟨W, ⟨m0, w0⟩, turn⟩ := q D (I2.hok.fresh (Nat.le_of_eq eD))
  have I3 : Inv X pins σ (upd H2 D (.lst [])) s3 := by
    rw [← e3]
    refine I2.laid (t' := s2.toks) (fun _ _ e => Heap.get?_push_of_some _ e) (Nat.le_of_eq eD) ⟨Nat.zero_le _, [], 0, .nil, ?_⟩
    rw [← eD]
    exact Heap.get?_push_size _ rfl
  have lt : ∀ b ∈ fp, b < s2.heap.objs.size := fun b hb => by
    obtain ⟨o, e, _⟩ := T.obj 0 _ t2 b hb
    exact Heap.lt_size e
  have f3 : ∀ b ∈ fp, FpOk X pins (upd H2 D (.lst [])) b ∧ b < s3.heap.objs.size := fun b hb => by
    refine ⟨⟨?_, (f2 b hb).2⟩, by rw [p3, Heap.size_push]; exact Nat.lt_succ_of_lt (lt b hb)⟩
    rw [upd_ne (by rw [← eD]; exact Nat.ne_of_lt (lt b hb))]
    exact (f2 b hb).1
  obtain ⟨H3, eH⟩ : ∃ H3, upd H2 D (.lst []) = H3 := ⟨_, rfl⟩
  rw [eH] at I3 f3 w0
  have Ib := block_start I3 ok nd f3
  obtain ⟨C, eC⟩ : ∃ C, s3.heap.objs.size = C := ⟨_, rfl⟩
  obtain ⟨ce, ec⟩ : ∃ ce, compEnvC scope (cellsFrom (C + 1) scope.names (cloFrom X.env.cells scope.names [])) C X.env = ce := ⟨_, rfl⟩
  obtain ⟨s4, e4⟩ : ∃ s4 : Shared, ({ s3 with heap := pushCells (s3.heap.push { cls := .type "dict", data := .dict #[] }) scope.names } : Shared) = s4 := ⟨_, rfl⟩
  have loc : ce.locals = C := by rw [← ec]; rfl
  have frm : ce.frame = X.env.frame := by rw [← ec]; rfl
  rw [eC, ec, e4] at Ib
  have t4 : tn 0 s4.heap := by
    refine T.keep 0 _ _ t2 fun b _ o e => ?_
    rw [← e4]
    refine pushCells_keeps _ _ _ _ (Heap.get?_push_of_some _ ?_)
    rw [p3]
    exact Heap.get?_push_of_some _ e
  have loop : codeAny (model X.prog X.w) X.A (.compLoop (.ListComp elt [⟨tg, iter, ifs, 0⟩] scope pos) 0 (.ref it) (.ref D) ce) (compEnds (model X.prog X.w) X.A X.xe use Qf (.ref D) ce) s4 := by
    refine block_loop (Y := bxe X s3 H3 scope ce fp E) (Qd := fun H' => Q (.ref D) H') T calm rfl rfl (fun u s' x => ?_) (fun s' H' I' qq => ?_) (by rw [← ec]; exact hg _ _ _ _ _) (by rw [← ec]; exact ht _ _ _ _ _) (by rw [← ec]; exact he _ _ _ _ _) turn w0 (invXe Ib) t4 fun b hb => (f3 b hb).1.1
    · exact block_out hst hfr tk I3 (Nat.le_of_eq eC) f3 loc frm x
    · have back : Inv X pins σ H' s' := I3.call' (ch := fp) I'.os I'.base I'.hok I'.bare fun b hb => ⟨(f3 b hb).1.2.2.2.1, (f3 b hb).1.2.1, (f3 b hb).1.2.2.2.2.1, (f3 b hb).1.2.2.2.2.2⟩
      obtain ⟨m, hn, _⟩ := I'.loc
      have hn : s'.heap.Ns ce.locals m := hn
      have nC : H' ce.locals = none := I'.free
      rw [loc] at hn nC
      exact fin D C s' m H' ce loc back qq hn (I3.fpOk (Nat.le_of_eq eC) nC)
  have start := codeAny_compStart_list loop (T.self X.A 0 _ _ _ t4 loop)
  rw [← e4, ← ec, ← eC, ← e3, ← eD] at start
  exact start
/-- [e for x in xs], e may raise -/
theorem pe_lcE {elt tg iter : Expr} {ifs : List Expr} {scope : Scope} {own : List (Str × Nat)} {pos : Pos} {wi : TI} {g : TG} {tt : TT} {te : TE} {E : XK} (calm : X.calm = true) (hst : X.stack = X.env :: X.outer) (hfr : X.env.frame = some X.env.locals) (tk : Takes X (fun cls d _ H => E cls d H)) (nd : X.N.Nodup)
    (hi : PI X tg iter wi) (ok : BlkOk X.N X.env.scope scope own) (hg : ∀ s H C cl fp, PG (bxe X s H scope (compEnvC scope cl C X.env) fp E) tg g) (ht : ∀ s H C cl fp, PTs (bxe X s H scope (compEnvC scope cl C X.env) fp E) ifs tt)
    (he : ∀ s H C cl fp, (∀ σ, PassesAt (L2.CX X.prog X.w) (bxe X s H scope (compEnvC scope cl C X.env) fp E) σ E) → PE (bxe X s H scope (compEnvC scope cl C X.env) fp E) elt te) (hsw : ∀ x, foldedSetIterable iter X.env x = pure x := by intro _; rfl) :
    PE X (.ListComp elt [⟨tg, iter, ifs, 0⟩] scope pos) (tLc wi g tt te (own.map (·.2))) := by
  constructor
  intro pins s σ H Q I h
  rw [eval_ListComp]
  refine lcE_core (E := E) calm nd hst hfr tk I hi ok hg ht (fun s H C cl fp => he s H C cl fp fun σ => bxe_pass σ) hsw h fun D C s' m H' ce lc J q ns fo => ?_
  refine ⟨m, by rw [lc]; exact ns, fun h'' sb => ?_⟩
  rw [lc] at sb
  exact ⟨.ref D, H', J.turned (t' := s'.toks) (fun b o hb e => (sb.2 b hb).trans e) fo.1 fo.2.1 fo.2.2.2.1 fo.2.2.2.2.1 fo.2.2.2.2.2, rfl, q⟩
/-- y = [e for x in xs] on one line -/
theorem ps_setLcE {i : Nat} {y : Str} {py : Pos} {elt tg iter : Expr} {ifs : List Expr} {scope : Scope} {own : List (Str × Nat)} {pos spos : Pos} {wi : TI} {g : TG} {tt : TT} {te : TE} {E : XK} (calm : X.calm = true) (hst : X.stack = X.env :: X.outer) (hfr : X.env.frame = some X.env.locals) (tk : Takes X (fun cls d _ H => E cls d H)) (nd : X.N.Nodup)
    (hy : X.N[i]? = some y) (hyl : X.env.scope.names.lookup y = some .local) (swp : swapsWith (.ListComp elt [⟨tg, iter, ifs, 0⟩] scope pos) (some (.Name y py)) spos.line X.env = pure true)
    (hi : PI X tg iter wi) (ok : BlkOk X.N X.env.scope scope own) (hg : ∀ s H C cl fp, PG (bxe X s H scope (compEnvC scope cl C X.env) fp E) tg g) (ht : ∀ s H C cl fp, PTs (bxe X s H scope (compEnvC scope cl C X.env) fp E) ifs tt)
    (he : ∀ s H C cl fp, (∀ σ, PassesAt (L2.CX X.prog X.w) (bxe X s H scope (compEnvC scope cl C X.env) fp E) σ E) → PE (bxe X s H scope (compEnvC scope cl C X.env) fp E) elt te) (hsw : ∀ x, foldedSetIterable iter X.env x = pure x := by intro _; rfl) :
    PS X (.Assign [.Name y py] (.ListComp elt [⟨tg, iter, ifs, 0⟩] scope pos) spos) (tAsg (tLc wi g tt te (own.map (·.2))) (gName i)) := by
  constructor
  intro pins s σ H D I h
  rw [exec_Assign_Name_used _ _ _ _ swp]
  have core := lcE_core (pos := pos) (pos' := firstIterPos [⟨tg, iter, ifs, 0⟩] pos) (use := some (assign (.Name y py) X.env)) (Qf := fun _ s' => SP X pins D .next s') (E := E) calm nd hst hfr tk I hi ok hg ht (fun s H C cl fp => he s H C cl fp fun σ => bxe_pass σ) hsw (Q := fun x H1 => gName i x σ H1 D.nx) h fun L C s' m H' ce lc J q ns fo => by
    show wpAny _ _ (assign (.Name y py) X.env (.ref L)) _ _ _
    refine wpAny_assign_Name (store_ok2 (v := V.ref L) J nd hy (.inl hyl) rfl (fun s2 J2 z => ?_) (.inr hyl))
    obtain ⟨a, sb, at_⟩ := z
    have ne : C ≠ a := fun w => by
      rcases at_ with u | u
      · exact fo.2.1 (w.trans u)
      · exact fo.2.2.2.2.1 y a u w.symm
    refine ⟨m, by rw [lc]; exact ns.sameBut sb ne, fun h3 sb3 => ?_⟩
    rw [lc] at sb3
    exact ⟨_, _, J2.turned (t' := s2.toks) (fun b o hb e => (sb3.2 b hb).trans e) fo.1 fo.2.1 fo.2.2.2.1 fo.2.2.2.2.1 fo.2.2.2.2.2, q⟩
  exact wpAny_bind (wpAny_standAt (wpAny_bind (wpAny_bind (wpAny_mono core (fun _ s' z => wpAny_pure (wpAny_pure z)) fun _ _ z => z))))
end
/-! ### what such a comprehension tells -/
def mapGo {α β : Type} (f : α → R β) : List α → R (List β)
  | [] => .ok []
  | x :: l => R.bd (f x) fun y => R.bd (mapGo f l) fun ys => .ok (y :: ys)
/-- [f x for x in xs], f may raise -/
noncomputable def mapE {α β : Type} (xs : List α) (f : α → R β) : R (List β) := gd (xs.length ≤ lim) (mapGo f xs)
section
variable {K : PySem.W.Frag} {E : XK} {σ : L2.St} {H0 F H F' H' : Hp} {α β γ : Type} [Rp α] [Rp β] [Rp γ] {D : Ends}
theorem g_mapG {Fr : Hp} {wi : TI} {g : TG} {te : TE} {vs : List Nat} {m : R (List α)} {f : α → R β} (hres : ∀ H3 Dl acc ys, All2 (Rp.rep K (delH (mix F H H3) Dl)) acc (ys : List β) → All2 (Rp.rep K (mix Fr H H3)) acc ys) (hi : GrI K E wi σ F H m) (hF : Same F H)
    (hel : ∀ x v F2 H2, Same F F2 → Same F2 H2 → Same H H2 → Rp.rep K F2 v x → ∃ σ2, (∀ Q : L2.St → Hp → Prop, Q σ2 H2 → g v (wipe σ vs) H2 Q) ∧ wipe σ2 vs = wipe σ vs ∧ Gr K E te σ2 F2 H2 (f x)) :
    Gr K E (tLc wi g tYes te vs) σ Fr H (R.bd m fun xs => mapE xs f) := fun H1 e Q hq =>
  hi H1 e _ (by
    rw [wp_bd] at hq
    refine wp_mono hq (fun xs _ k J H2 e2 ok => ?_) fun _ _ z => z
    unfold mapE gd at k
    split at k
    · rename_i cl
      intro Dl hD
      have hnD : H Dl = none := Same.free (e.trans e2) hD
      refine ⟨fun i m H' => m = xs.length - i ∧ i ≤ xs.length ∧ Same H2 H' ∧ ∃ acc ys, H' Dl = some (.lst acc) ∧ acc.length ≤ i ∧ All2 (Rp.rep K (delH (mix F H H') Dl)) acc ys ∧
        Wp (mapGo f (xs.drop i)) (fun zs => ∀ H3, Same H1 H3 → H3 Dl = H3 Dl → ∀ v, Rp.rep K (mix Fr H H3) v (ys ++ zs) → Q v H3) (EE K E H1), ⟨_, rfl, Nat.zero_le _, same_upd hD, [], [], upd_same, Nat.le_refl _, .nil, ?_⟩, ?_⟩
      · rw [List.drop_zero]
        exact wp_mono k (fun zs _ q H3 e3 _ v r => q v H3 e3 r) fun c _ z => z
      · rintro i m H' ⟨rfl, hi', sH, acc, ys, hacc, hal, hall, hw⟩
        have hG : Same (mix F H H2) H' := (mix_same hF (e.trans e2)).trans sH
        by_cases ci : i < xs.length
        · refine .inr ⟨ok.go i H' hG ci, _, fun H3 h3 => ⟨xs.length - (i + 1), by omega, h3⟩, fun v H'' y => ?_⟩
          obtain ⟨e1, a, ha, r⟩ := ok.yld i H' v H'' hG ci y
          have hacc2 := e1 _ _ hacc
          have eH : Same H H'' := (e.trans e2).trans (sH.trans e1)
          have e1H : Same H1 H'' := e2.trans (sH.trans e1)
          obtain ⟨σ2, hg, hwp, ge⟩ := hel a v (delH (mix F H H'') Dl) H'' (cmp_f (H2 := H2) hF hnD eH) (del_le.trans (mix_same hF eH)) eH (Rp.mono (cmp_it hnD hD ⟨_, hacc⟩ (e.trans e2) sH e1) r)
          refine hg _ ⟨hwp, ?_⟩
          rw [drop_get ha] at hw
          unfold mapGo at hw
          rw [wp_bd] at hw
          show te σ2 H'' _
          refine ge H'' (Same.refl _) _ (wp_mono hw (fun y _ q3 w H4 e4 rw4 => ?_) fun c _ z => z.mono e1H)
          have hacc4 := e4 _ _ hacc2
          have al' : All2 (Rp.rep K (delH (mix F H H'') Dl)) acc ys := hall.mono fun _ _ x => Rp.mono (cmp_go e1) x
          refine ⟨acc, hacc4, lim_line' (by omega), rfl, ci, ?_, acc ++ [w], ys ++ [y], upd_same, by rw [List.length_append]; simp; omega, ?_, ?_⟩
          · exact fun x o h => by
              have ne : x ≠ Dl := fun z => by rw [z, hD] at h; cases h
              rw [upd_ne ne]
              exact e4 _ _ (e1 _ _ (sH _ _ h))
          · refine All2.append (al'.mono fun _ _ x => Rp.mono ((cmp_go e4).trans (cmp_up hnD)) x) (.cons (Rp.mono (cmp_el hnD ⟨_, hacc2⟩ eH e4) rw4) .nil)
          · rw [wp_bd] at q3
            refine wp_mono q3 (fun zs _ q4 H5 e5 _ v5 r5 => ?_) fun _ _ z => z
            refine q4 H5 e5 rfl v5 ?_
            rw [List.append_assoc] at r5
            exact r5
        · have ei : i = xs.length := by omega
          refine .inl ⟨ok.stop i H' hG ei, ?_⟩
          rw [ei, List.drop_length] at hw
          have hw2 : ∀ H3, Same H1 H3 → H3 Dl = H3 Dl → ∀ v, Rp.rep K (mix Fr H H3) v (ys ++ []) → Q v H3 := hw
          refine hw2 H' (e2.trans sH) rfl _ ?_
          rw [List.append_nil]
          exact ⟨Dl, acc, rfl, by rw [mix_new hnD]; exact hacc, hres _ _ _ _ hall⟩
    · exact k.elim)
theorem g_map {wi : TI} {g : TG} {te : TE} {vs : List Nat} {m : R (List α)} {f : α → R β} (hi : GrI K E wi σ F H m) (hF : Same F H)
    (hel : ∀ x v F2 H2, Same F F2 → Same F2 H2 → Same H H2 → Rp.rep K F2 v x → ∃ σ2, (∀ Q : L2.St → Hp → Prop, Q σ2 H2 → g v (wipe σ vs) H2 Q) ∧ wipe σ2 vs = wipe σ vs ∧ Gr K E te σ2 F2 H2 (f x)) :
    Gr K E (tLc wi g tYes te vs) σ F H (R.bd m fun xs => mapE xs f) := g_mapG (fun _ _ _ _ h => h.mono fun _ _ x => Rp.mono del_le x) hi hF hel
/-- .. that tells ints (bools, texts), over anything -/
theorem g_mapS [Sc β] {wi : TI} {g : TG} {te : TE} {vs : List Nat} {m : R (List α)} {f : α → R β} (hi : GrI K E wi σ H H m)
    (hel : ∀ x v F2 H2, Same H F2 → Same F2 H2 → Same H H2 → Rp.rep K F2 v x → ∃ σ2, (∀ Q : L2.St → Hp → Prop, Q σ2 H2 → g v (wipe σ vs) H2 Q) ∧ wipe σ2 vs = wipe σ vs ∧ Gr K E te σ2 F2 H2 (f x)) :
    Gr K E (tLc wi g tYes te vs) σ F H (R.bd m fun xs => mapE xs f) := g_mapG (fun _ _ _ _ h => h.mono fun _ _ x => Sc.is.mpr (Sc.is.mp x)) hi (Same.refl _) hel
end
end G

set_option Elab.async false
set_option linter.all false
set_option maxRecDepth 100000
set_option maxHeartbeats 4000000
/-! G: called() in an except suite; try .. except .. else; a tuple in front of a tuple. -/
namespace G
open PySem PySem.Spec PyProof.Rows L2 HandSPX
/-! ### a def that raises nothing, wherever it is called -/
structure FnC (P : Program) (w : World) (K : PySem.W.Frag) (mg : Str → Option Value) (base : Heap) (cx : CXT) (f : Addr) (fd : FuncData) (ps : List Str) (sp : Sp) : Prop where
  len : ∀ vs H Q E, sp vs H Q E → vs.length = ps.length
  run : ∀ (A : Around) (outer : List Env) (s : Shared) (H : Hp) (args : Args) (us : List Value) (vs : List V) (Q : VK) (E : XK), A.depth < recursionLimit → Env0 P w K mg base A outer s H → BindsTo s fd args (ps.zip us) → Vals vs us → sp vs H Q E →
    codeAny (model P w) A (.call (.ref f) args) (CR cx outer P w H s Q E) s
/-- the context of its body: whether an exception is handled is not asked -/
abbrev cxC (cx : CXT) (P : Program) (w : World) (K : PySem.W.Frag) (mg : Str → Option Value) (base : Heap) (N : List Str) (qual : Str) (scope : Scope) (f : Addr) (cd : Value) (A : Around) (outer : List Env) (s : Shared) (H : Hp) (E : XK) : Cx :=
  { cxOf cx P w K mg base N qual scope f cd A outer s H E with calm := false }
section
variable {cx : CXT} {P : Program} {w : World} {K : PySem.W.Frag} {mg : Str → Option Value} {base : Heap} {N ps : List Str} {qual : Str} {scope : Scope} {f : Addr} {cd : Value} {A : Around} {outer : List Env} {s s1 : Shared} {H : Hp} {E : XK}
theorem inv_any {σ : L2.St} (e0 : Env0 P w K mg base A outer s H) (I : Inv (cxOf cx P w K mg base N qual scope f cd { A with handled := none } outer s H E) [] σ H s1) : Inv (cxC cx P w K mg base N qual scope f cd A outer s H E) [] σ H s1 :=
  ⟨⟨I.ok.mod, I.ok.kind, I.ok.glob, I.ok.blt, I.ok.above, I.ok.inj, I.ok.has, I.ok.cab, fun z => Bool.noConfusion (show false = true from z), Around.frames_deeper e0.frames, I.ok.stk, I.ok.exf, I.ok.bs, I.ok.bsz, I.ok.noex, I.ok.exfs, I.ok.funs, I.ok.frf⟩,
    I.os, I.bare, I.base, I.loc, I.cell, I.free, I.freeC, I.pin, I.hok, I.len⟩
theorem fn_any {x : Str} {params : Arguments} {body : List Stmt} {dvs : List V} {kws : List (Str × V)} {fd : FuncData} {sp : Sp} (F : FunD K x qual params body scope dvs kws f fd) (S : FnScope N ps scope) (len : ∀ vs H Q E, sp vs H Q E → vs.length = ps.length)
    (hb : ∀ cd A outer s H vs Q E, sp vs H Q E → ∃ t, PSs (cxC cx P w K mg base N qual scope f cd A outer s H E) body t ∧ t { nx := fun _ H' => Q .non H', rt := Q } (L2.start N vs) H) : FnC P w K mg base cx f fd ps sp := by
  obtain ⟨oc, od, dV, kV, doc, pm, an, cdv, ct, osl, rfl, lk, code, _, _⟩ := F.ex
  constructor
  · exact len
  intro A outer s H args us vs Q E dp e0 bt r call
  have kin : K.In s.heap := e0.mod.kin.keeps fun b o e => (e0.bs b o e).1
  have nolim : s.heap.NoLimit := e0.mod.nolimit.keeps fun b o e => (e0.bs b o e).1
  refine codeAny_call_function dp (kin _ _ lk) rfl S.co S.gen rfl (PySem.W.codeRec_of kin code) (bt _ _ _ _ ?_)
  refine wpAny_newFunctionEnv_cells S.kind (fun y hy => (S.par y.1 (List.of_mem_zip hy).1).imp id fun q => ⟨q, PySem.W.cellsFrom_some _ _ _ (.inl q)⟩) fun env he s1 x => ?_
  subst he
  refine ⟨nolim.keeps x.toInCall.keep, codeAny_func ?_⟩
  obtain ⟨t, ht, go⟩ := hb cdv A outer s H vs Q E call
  have e1 : Env0 P w K mg base { A with handled := none } outer s H := ⟨e0.frames, e0.mod, e0.bs, e0.bsz, e0.funs, e0.frf, e0.hok, e0.bare⟩
  have I := inv_any e0 (inv_start (CX := cx) (E := E) S rfl e1 (len _ _ _ _ call) r x)
  have told : ∀ {σ' : L2.St} {H' : Hp} {v : V} {u : Value} {s' : Shared}, Inv (cxC cx P w K mg base N qual scope f cdv A outer s H E) [] σ' H' s' → RelV v u → Q v H' → CE outer P w H s Q u s' :=
    fun J rv q => ⟨_, _, J.os, J.bare, J.base, J.hok, rv, q⟩
  refine wpAny_mono (ht.run [] s1 (L2.start N vs) H _ I go) (fun fl s' h => ?_) fun _ _ h => h
  cases fl with
  | next =>
    obtain ⟨_, _, J, q⟩ := h
    exact told (v := V.non) (u := Value.none) J rfl q
  | ret u =>
    obtain ⟨_, _, _, J, rv, q⟩ := h
    exact told J rv q
  | brk =>
    obtain ⟨_, _, _, q⟩ := h
    exact q.elim
  | cont =>
    obtain ⟨_, _, _, q⟩ := h
    exact q.elim
end
structure MthC (P : Program) (w : World) (K : PySem.W.Frag) (mg : Str → Option Value) (base : Heap) (cx : CXT) (m : Str) (C : Cn → Prop) (sp : Cn → Sp) : Prop where
  hg : ∀ c, C c → PySem.W.findIn K (.ref (He.ga K c.nm)) "__getattribute__" = some (some (.builtin "BaseException.__getattribute__")) ∧ PySem.W.findIn K (.ref (He.ga K c.nm)) "__getattr__" = some none
  fn : ∀ c, C c → ∃ f fd ps, PySem.W.findIn K (.ref (He.ga K c.nm)) m = some (some (.ref f)) ∧ PySem.W.isFn K (.ref f) = true ∧ PySem.W.keepIn K (.ref f) = true ∧ Binds K fd ps [] ∧ FnC P w K mg base cx f fd ps (sp c)
section
variable {X : Cx}
theorem run_any {cx : CXT} {f : Addr} {fd : FuncData} {ps : List Str} {sp : Sp} {E : L2.St → XK} {pins : List (Addr × Obj)} {σ : L2.St} {H : Hp} {s : Shared} {Q : VK} {us : List Value} {vs : List V} (F : FnC X.prog X.w X.K X.mg X.base cx f fd ps sp) (dp : X.A.depth < recursionLimit) (hb : Binds X.K fd ps []) (hx : PassesAt cx X σ (E σ))
    (I : Inv X pins σ H s) (r : Vals vs us) (h : sp vs H Q (E σ)) : wpAny (model X.prog X.w) X.A (call (.ref f) us) (EP X pins σ Q) X.xe s := by
  have b := hb s us I.kIn (by rw [List.append_nil, ← r.length]; exact F.len _ _ _ _ h)
  rw [List.append_nil] at b
  refine wpAny_call (codeAny_mono (F.run X.A X.stack s H ⟨us, []⟩ us vs Q (E σ) dp I.env0 b r h) fun res s' q => ?_)
  match res, q with
  | .error e, q => exact hx pins H s e s' I q
  | .ok (.ret u), q => exact I.after q
  | .ok .next, q => exact False.elim q
  | .ok .brk, q => exact False.elim q
  | .ok .cont, q => exact False.elim q
theorem pe_methC {cx : CXT} {K : PySem.W.Frag} {C : Cn → Prop} {sp : Cn → Sp} {E : L2.St → XK} {m : Str} {o : Expr} {apos pos : Pos} {ta : TE} {pl : Sem Bool} (he : PE X o ta) (M : MthC X.prog X.w K X.mg X.base cx m C sp) (hK : X.K = K) (dp : X.A.depth < recursionLimit) (hx : ∀ σ, PassesAt cx X σ (E σ))
    (ht : eval (.Call (.Attribute o m apos) [] [] pos) X.env = (do
      let ov ← eval o X.env
      standAt apos.atName
      let (f, first) ← holding [ov] (getMethod ov m pl)
      callWith pos f first (backTo pos (starEach [] X.env)) (backToKw pos (keywordEach [] X.env))) := by rfl) :
    PE X (.Call (.Attribute o m apos) [] [] pos) (tMethX K m C sp E ta) := by
  subst hK
  refine ⟨fun pins s σ H Q I h => ?_⟩
  refine PySem.W.methodCall_KW (pl := pl) (thn (he.run pins s σ H _ I h) fun u s1 ⟨x, H1, I1, rx, a, c, ex, ea, hC, q⟩ => ?_) ht
  subst ex
  obtain rfl : u = Value.ref a := rx
  obtain ⟨h1, h2⟩ := M.hg c hC
  obtain ⟨f, fd, ps, h3, h4, h5, h6, F⟩ := M.fn c hC
  obtain ⟨m', fr⟩ := I1.fr
  have key : ∃ oe od, PySem.W.InstAt s1.heap a oe (He.ga X.K c.nm) od ∧ PySem.W.shadowIn od m = some false := by
    rcases ea with ea | ⟨dd, fs, ea, ed, el⟩
    · obtain ⟨oe, J⟩ := inst_of I1 ea
      exact ⟨oe, none, J, rfl⟩
    · obtain ⟨oe, od, mA, J, hl, hr⟩ := inst_ofD I1 ea ed
      refine ⟨oe, some od, J, ?_⟩
      show (PySem.W.lookIn m od).map _ = _
      rw [hl m]
      have r := hr m
      rw [el] at r
      cases e : mA m with
      | none => rfl
      | some u => rw [e] at r; exact r.elim
  obtain ⟨oe, od, J, hsh⟩ := key
  refine PySem.W.method_exc fr I1.ok.mod.kin J h1 h2 h3 h4 hsh ?_
  exact PySem.W.callWith_K0 (first := [.ref a]) I1.kIn h5 (run_any (us := [.ref a]) (vs := [.ref a]) F dp h6 (hx σ) I1 (.cons rfl .nil) q)
/-! ### try .. except X as n .. else -/
variable {x n : Str} {c : Value} {i : Nat} {body suite orelse : List Stmt} {b₀ : Stmt} {np pos pos' : Pos} {tb : WX → TS} {ts u : TS}
def tTryE (K : PySem.W.Frag) (c : Value) (i : Nat) (tb : WX → TS) (ts u : TS) : TS := fun D σ H => tb (wHold K c i ts D) { D with nx := u D } σ H
theorem ps_try_holdE (hs : X.stack = X.env :: X.outer) (hf : X.env.frame = some X.env.locals) (hex : X.ex = []) (hN : X.N.Nodup) (hi : X.N[i]? = some n) (hln : X.env.kindOf n = some .local) (hc : Names X x c)
    (hb : ∀ (W : WX) (pn : List (Addr × Obj)) (xe : Value → Shared → Prop), Takes (X.tr pn xe) W → PassesOwn (model X.prog X.w) X.A X.env xe → PSs (X.tr pn xe) body (tb W))
    (hsu : ∀ (a : Addr) (pn : List (Addr × Obj)), PSs (X.suite a pn) (b₀ :: suite) ts) (ho : PSs X orelse u) :
    PS X (.Try body [.ExceptHandler (some (.Name x np)) (some n) (b₀ :: suite) pos'] orelse [] pos) (tTryE X.K c i tb ts u) := by
  refine ⟨fun pins s σ H D I h => ?_⟩
  have ok := I.ok
  have hfr : X.A.frames = some (X.env :: X.outer) := by rw [ok.frames, hs]
  have hloc : Loc X.env.scope n := .inl hln
  refine wpAny_Try_except ?_
  refine wpAny_mono ((hb (wHold X.K c i ts D) (X.pn ++ pins) (fun e s₁ => wpAny (model X.prog X.w) X.A (noteFrame e X.env) (fun _ s₂ => wpAny (model X.prog X.w) X.A (setFlight e none) (fun _ s₃ =>
    wpAny (model X.prog X.w) X.A (handleBy e X.env [.ExceptHandler (some (.Name x np)) (some n) (b₀ :: suite) pos']) (SP X pins D) X.xe s₃) X.xe s₂) X.xe s₁) (fun u s' xx => ?_) PassesOwn.looking).run [] s σ H { D with nx := u D } (I.toTry _) h) (fun f s1 hsp => ?_) (fun e s1 he => he)
  · obtain ⟨a, B, sI, pins', σ', H', cls, d, rfl, J', nb, up, sky, na, os, ag, C, hC, hb1, hyes⟩ := xx
    subst hC
    have J : Inv X pins σ' H' sI := J'.ofTry ok
    have sky' : Sky B (X.env :: X.outer) a (Zc (.ref C) d) X.env.locals s'.heap := by rw [← hs]; exact sky
    show wpAny (model X.prog X.w) X.A (noteFrame (.ref a) X.env) _ _ _
    refine Sky.land Zc.steady hfr hf sky' fun h3 fl3 up3 => ?_
    have J3 : Inv X pins σ' H' { s' with heap := h3 } := J.landed nb fl3.1 (up.trans up3) os ag
    obtain ⟨oe3, vs3, he3, hz3, hd3⟩ := fl3.there
    have notFr : ∀ {h : Heap} {o : Obj} {vs : Array Value}, h.FunFrames B (X.env :: X.outer) → h.get? a = some o → o.data = .fields vs → a ∉ frs (X.env :: X.outer) := fun {h o vs} ff e dd hm => by
      obtain ⟨_, o', e', hnf⟩ := ff.mem hm
      rw [e] at e'; cases e'
      exact hnf _ dd
    have nfr := notFr fl3.2.2.1 he3 hd3
    have nL : a ≠ X.env.locals := fun z => nfr (List.mem_filterMap.mpr ⟨X.env, List.mem_cons_self, by rw [hf, z]⟩)
    have nF : a ∉ X.fs := fun hm => by
      obtain ⟨e, he, q⟩ := List.mem_filterMap.mp hm
      exact nfr (List.mem_filterMap.mpr ⟨e, List.mem_cons_of_mem _ he, q⟩)
    have hBa : B.get? a = none := fl3.2.1
    have nS : a ∉ frs X.stack := by rw [hs]; exact nfr
    have hsI : sI.heap.get? a = none := by
      cases e : sI.heap.get? a with
      | none => rfl
      | some o => have := nb a o e nS; rw [hBa] at this; cases this
    have hs0 : X.s_0.heap.get? a = none := by
      cases e : X.s_0.heap.get? a with
      | none => rfl
      | some o =>
        obtain ⟨o', q⟩ := J.base.there a o e (by rw [hex]; simp)
        rw [hsI] at q; cases q
    have S3 := J3.suite he3 hd3 na nL nF
    refine wpAny_handleBy_cons (codeAny_handlers_test ?_) (by intro q; cases q)
    have LT : PySem.W.Looks (model X.prog X.w) h3 (typeOf (.ref a)) (.ref C) := fun A Q E s k q => wpAny_typeOf_ref (k _ _ he3) (by rw [hz3.1]; exact q)
    have LM := PySem.W.exm_one (M := model X.prog X.w) (J3.kIn) LT hb1
    have test : ∀ {Q : Value → Shared → Prop} {E : Value → Shared → Prop}, Q c { s' with heap := h3 } → wpAny (model X.prog X.w) (X.A.mark (some (.ref a))) (eval (.Name x np) X.env) Q E { s' with heap := h3 } := fun {Q E} q => by
      obtain ⟨hg, hdbg, hm | ⟨hm, hv, hnn⟩⟩ := hc
      · exact ld_glob (X := X.suite a ((a, oe3) :: (X.pn ++ pins))) S3 hg hm q hdbg
      · exact ld_blt (X := X.suite a ((a, oe3) :: (X.pn ++ pins))) S3 hg hm hv q hnn hdbg
    refine test (LM.here ?_)
    refine codeAny_handlers_suite_as ?_
    refine HandSPX.lands_againZ fl3 fun h4 fl4 up4 => ?_
    have J4 : Inv X pins σ' H' { s' with heap := h4 } := J.landed nb fl4.1 ((up.trans up3).trans up4) os ag
    obtain ⟨oe4, vs4, he4, hz4, hd4⟩ := fl4.there
    have T4 : Inv X pins σ' (upd H' a (ExH C d a)) { s' with heap := h4 } := inv_track J4 hs0 na nL (fun y k e z => by
      obtain ⟨v, o, ho, hd⟩ := J4.cell y k e
      rw [z] at ho
      have ho' : h4.get? a = some o := ho
      rw [he4] at ho'
      cases ho'
      rw [hd4] at hd
      cases hd) (fun p hp z => by
      obtain ⟨e, _⟩ := J.pin p hp
      rw [z, hsI] at e
      cases e) (exH_ok he4 hz4 hd4)
    have S4 := inv_suite0 T4 a
    refine store_ok (X := X.suite a (X.pn ++ pins)) (v := .ref a) S4 hN hi hloc rfl (fun s5 S5 => ?_) (.inr hln)
    refine wpAny_mono ((hsu a (X.pn ++ pins)).run [] s5 _ _ _ S5 (hyes a na)) (fun f s6 hsp => ?_) (fun _ _ z => False.elim z)
    have end_ : ∀ {σ6 : L2.St} {H6 : Hp} {Q : Shared → Prop}, Inv (X.suite a (X.pn ++ pins)) [] σ6 H6 s6 → (∀ s7, Inv X pins (σ6.set i none) H6 s7 → Q s7) →
        wpAny (model X.prog X.w) X.A (do bindName X.env n .none; unbindBehindTheSuite X.env n pos') (fun _ s7 => Q s7) X.xe s6 := fun {σ6 H6 Q} S6 hq => gone_ok (inv_unsuite0 S6 ok) hN hi hln hq
    cases f with
    | next =>
      obtain ⟨σ6, H6, S6, q6⟩ := hsp
      exact end_ S6 fun s7 J7 => ⟨_, _, J7, q6⟩
    | brk =>
      obtain ⟨σ6, H6, S6, q6⟩ := hsp
      exact end_ S6 fun s7 J7 => ⟨_, _, J7, q6⟩
    | cont =>
      obtain ⟨σ6, H6, S6, q6⟩ := hsp
      exact end_ S6 fun s7 J7 => ⟨_, _, J7, q6⟩
    | ret u =>
      obtain ⟨v6, σ6, H6, S6, r6, q6⟩ := hsp
      exact end_ S6 fun s7 J7 => ⟨_, _, _, J7, r6, q6⟩
  · cases f with
    | next =>
      obtain ⟨σ', H', J', q⟩ := hsp
      exact ho.run pins s1 σ' H' D (J'.ofTry ok) q
    | brk =>
      obtain ⟨σ', H', J', q⟩ := hsp
      exact ⟨σ', H', J'.ofTry ok, q⟩
    | cont =>
      obtain ⟨σ', H', J', q⟩ := hsp
      exact ⟨σ', H', J'.ofTry ok, q⟩
    | ret u =>
      obtain ⟨v, σ', H', J', r, q⟩ := hsp
      exact ⟨v, σ', H', J'.ofTry ok, r, q⟩
end
theorem wp_okE {α β : Type} {a : α} {k : α → R β} {kq : β → Prop} {ee e2 : Er → Prop} (h : Wp (.ok a : R α) (fun a => Wp (k a) kq ee) e2) : Wp (k a) kq ee := h
/-- what try .. except .. else tells -/
def elseR {α β : Type} (cs : List Cn) (m : R α) (hand : Er → R β) (k : α → R β) : R β := match m with
  | .ok a => k a
  | .er e => if e.cn ∈ cs then hand e else .bad
  | .bad => .bad
section
variable {K : PySem.W.Frag} {E : XK} {σ : L2.St} {H0 F H F' H' : Hp} {ta tb te tl to ti : TE} {t : TT} {α β γ δ ρ S : Type} [Rp α] [Rp β] [Rp γ] [Rp δ] [Rp ρ] {D : Ends}
theorem s_tryE {cs : List Cn} {cv : Value} {i : Nat} {ts u : TS} {tb : WX → TS} {α β : Type} {m : R α} {hand : Er → R β} {k : α → R β} {kq : β → Prop} (hF : Same F H) (e0 : Same H0 H) (hQ : Wp (elseR cs m hand k) kq (EE K E H0))
    (hx : ∀ c ∈ cs, PySem.W.exmOne K (.ref (He.ga K c.nm)) cv = some true) (hcf : ∀ c ∈ cs, Cf K c)
    (hh : ∀ er a F' H', Nx0 F H F' H' → Same H0 H' → Rp.rep K F' (.ref a) (er : Er) → Wp (hand er) kq (EE K E H0) →
      ts { nx := fun σ' H' => D.nx (σ'.set i none) H', rt := D.rt, bk := fun σ' H' => D.bk (σ'.set i none) H', ct := fun σ' H' => D.ct (σ'.set i none) H' } (σ.set i (some (.ref a))) H')
    (hb : Wp m (fun a => Wp (k a) kq (EE K E H0)) (EE K (WE (wHold K cv i ts D) σ) H) → tb (wHold K cv i ts D) { D with nx := u D } σ H) : tTryE K cv i tb ts u D σ H := by
  refine hb ?_
  cases m with
  | ok a => exact hQ
  | bad => exact hQ.elim
  | er er =>
    have hQ2 : Wp (if er.cn ∈ cs then hand er else .bad) kq (EE K E H0) := hQ
    split at hQ2
    · rename_i hc
      cases er with
      | own c =>
        intro H' s
        refine ⟨_, rfl, hx _ hc, fun a ha => ?_⟩
        have hn : H a = none := Same.free s ha
        exact hh (.own c) a _ _ (Nx.mk' hF (s.trans (same_upd ha))) (e0.trans (s.trans (same_upd ha))) ⟨a, rfl, hcf _ hc, by show mix F H _ a = _; rw [mix_new hn]; exact upd_same⟩ hQ2
      | plan n =>
        intro d H' s hd ⟨m, hm⟩
        refine ⟨_, rfl, hx _ hc, fun a ha => ?_⟩
        have hn : H a = none := Same.free s ha
        exact hh (.plan n) a _ _ (Nx.mk' hF (s.trans (same_upd ha))) (e0.trans (s.trans (same_upd ha))) ⟨a, rfl, hcf _ hc, d, m, by show mix F H _ a = _; rw [mix_new hn]; exact upd_same, by rw [mix_new hd]; exact same_upd ha _ _ hm⟩ hQ2
    · exact hQ2.elim
/-- the rest stands behind both -/
theorem s_tryD {cs : List Cn} {cv : Value} {i : Nat} {ts : TS} {tb : WX → TS} {α β : Type} {m : R α} {hand : Er → R β} {k : α → R β} {kq : β → Prop} (hF : Same F H) (e0 : Same H0 H) (hQ : Wp (elseR cs m hand k) kq (EE K E H0))
    (hx : ∀ c ∈ cs, PySem.W.exmOne K (.ref (He.ga K c.nm)) cv = some true) (hcf : ∀ c ∈ cs, Cf K c)
    (hh : ∀ er a F' H', Nx0 F H F' H' → Same H0 H' → Rp.rep K F' (.ref a) (er : Er) → Wp (hand er) kq (EE K E H0) →
      ts { nx := fun σ' H' => D.nx (σ'.set i none) H', rt := D.rt, bk := fun σ' H' => D.bk (σ'.set i none) H', ct := fun σ' H' => D.ct (σ'.set i none) H' } (σ.set i (some (.ref a))) H')
    (hb : Wp m (fun a => Wp (k a) kq (EE K E H0)) (EE K (WE (wHold K cv i ts D) σ) H) → tb (wHold K cv i ts D) D σ H) : tTry K cv i tb ts D σ H := by
  refine hb ?_
  cases m with
  | ok a => exact hQ
  | bad => exact hQ.elim
  | er er =>
    have hQ2 : Wp (if er.cn ∈ cs then hand er else .bad) kq (EE K E H0) := hQ
    split at hQ2
    · rename_i hc
      cases er with
      | own c =>
        intro H' s
        refine ⟨_, rfl, hx _ hc, fun a ha => ?_⟩
        have hn : H a = none := Same.free s ha
        exact hh (.own c) a _ _ (Nx.mk' hF (s.trans (same_upd ha))) (e0.trans (s.trans (same_upd ha))) ⟨a, rfl, hcf _ hc, by show mix F H _ a = _; rw [mix_new hn]; exact upd_same⟩ hQ2
      | plan n =>
        intro d H' s hd ⟨m, hm⟩
        refine ⟨_, rfl, hx _ hc, fun a ha => ?_⟩
        have hn : H a = none := Same.free s ha
        exact hh (.plan n) a _ _ (Nx.mk' hF (s.trans (same_upd ha))) (e0.trans (s.trans (same_upd ha))) ⟨a, rfl, hcf _ hc, d, m, by show mix F H _ a = _; rw [mix_new hn]; exact upd_same, by rw [mix_new hd]; exact same_upd ha _ _ hm⟩ hQ2
    · exact hQ2.elim
theorem g_calledC {m : R (Option Er)} {C : Cn → Prop} (h : Gr K E ta σ F H m) (hF : Same F H) (hC : ∀ c, Cf K c → C c) : Gr K E (tMethX K "called" C spCalled (fun _ => EF) ta) σ F H (R.bd m calledR) :=
  g_called (Ex := fun _ => E) h hF hC rfl
/-! ### (e,) + a tuple -/
theorem g_cat2 [DyN β] [DyN γ] {ma : R Str} {mb : R (β × γ)} (ha : Gr K E ta σ F H ma) (hb : Gr K E tb σ F H mb) (hF : Same F H) :
    Gr K E (tOp (rCatT K) (tTup (tCons ta tNil)) tb) σ F H (R.bd ma fun a => R.bd mb fun b => .ok (Dy.tup [.str a, DyN.dy b.1, DyN.dy b.2])) := fun H1 e Q hq =>
  gr_seq ha e hq fun a v H2 e2 r hq2 => by
    have r : v = .str a := r
    subst r
    refine ⟨by show 1 ≤ sizeLine; decide, fun p hp => ?_⟩
    have e3 : Same H2 (upd H2 p (.tup [.str a])) := same_upd hp
    refine hb _ (e.trans (e2.trans e3)) _ ?_
    rw [wp_bd] at hq2
    refine wp_mono hq2 (fun b _ k w H4 e4 r4 => ?_) fun _ _ z => z.mono e3
    obtain ⟨q, x, y, rfl, hq4, rx, ry⟩ := r4
    have hq4' := mix_same hF (e.trans (e2.trans (e3.trans e4))) q _ hq4
    refine ⟨p, q, [.str a], [x, y], rfl, rfl, SqT.of (e4 _ _ upd_same), SqT.of hq4', by simp, by show 3 ≤ sizeLine; decide, (fun z => by simp at z), fun _ l hl => k _ _ (e3.trans (e4.trans (same_upd hl))) ?_⟩
    have hn : H l = none := Same.free (e.trans (e2.trans (e3.trans e4))) hl
    have mo : Same (mix F H H4) (mix F H (upd H4 l (.tup [.str a, x, y]))) := mix_mono (same_upd hl)
    have t3 : Rp.rep K (mix F H (upd H4 l (.tup [.str a, x, y]))) (.ref l) (T3.mk a b.1 b.2 : T3 Str β γ) := ⟨l, _, _, _, rfl, by rw [mix_new hn]; exact upd_same, rfl, Rp.mono mo rx, Rp.mono mo ry⟩
    exact DyN.to t3
theorem g_cat3 [DyN β] [DyN γ] [DyN δ] {ma : R Str} {mb : R (T3 β γ δ)} (ha : Gr K E ta σ F H ma) (hb : Gr K E tb σ F H mb) (hF : Same F H) :
    Gr K E (tOp (rCatT K) (tTup (tCons ta tNil)) tb) σ F H (R.bd ma fun a => R.bd mb fun b => .ok (Dy.tup [.str a, DyN.dy b.a, DyN.dy b.b, DyN.dy b.c])) := fun H1 e Q hq =>
  gr_seq ha e hq fun a v H2 e2 r hq2 => by
    have r : v = .str a := r
    subst r
    refine ⟨by show 1 ≤ sizeLine; decide, fun p hp => ?_⟩
    have e3 : Same H2 (upd H2 p (.tup [.str a])) := same_upd hp
    refine hb _ (e.trans (e2.trans e3)) _ ?_
    rw [wp_bd] at hq2
    refine wp_mono hq2 (fun b _ k w H4 e4 r4 => ?_) fun _ _ z => z.mono e3
    obtain ⟨q, x, y, z0, rfl, hq4, rx, ry, rz⟩ := r4
    have hq4' := mix_same hF (e.trans (e2.trans (e3.trans e4))) q _ hq4
    refine ⟨p, q, [.str a], [x, y, z0], rfl, rfl, SqT.of (e4 _ _ upd_same), SqT.of hq4', by simp, by show 4 ≤ sizeLine; decide, (fun z => by simp at z), fun _ l hl => k _ _ (e3.trans (e4.trans (same_upd hl))) ?_⟩
    have hn : H l = none := Same.free (e.trans (e2.trans (e3.trans e4))) hl
    have mo : Same (mix F H H4) (mix F H (upd H4 l (.tup [.str a, x, y, z0]))) := mix_mono (same_upd hl)
    exact ⟨l, _, rfl, by rw [mix_new hn]; exact upd_same, .str a, _, rfl, rfl, x, _, rfl, DyN.to (Rp.mono mo rx), y, _, rfl, DyN.to (Rp.mono mo ry), z0, _, rfl, DyN.to (Rp.mono mo rz), rfl⟩
/-- the first two of three -/
theorem g_cut32 {m : R (T3 β γ δ)} (h : Gr K E te σ F H m) (hF : Same F H) : Gr K E (tSl (rSlT K) te tNoPart (tPart (tC (.int 2)))) σ F H (R.bd m fun t => .ok (t.a, t.b)) := fun H1 e Q hq =>
  h H1 e _ (by
    rw [wp_bd] at hq
    refine wp_mono hq (fun b _ k w H4 e4 r4 => ?_) fun _ _ z => z
    obtain ⟨q, x, y, z0, rfl, hq4, rx, ry, rz⟩ := r4
    have hq4' := mix_same hF (e.trans e4) q _ hq4
    refine ⟨2, rfl, q, [x, y, z0], rfl, SqT.of hq4', (by show ¬ (HT.sIx 3 0 none = 0 ∧ HT.sIx 3 3 (some 2) = 3); decide), fun l hl => k _ _ (e4.trans (same_upd hl)) ?_⟩
    have hn : H l = none := Same.free (e.trans e4) hl
    have mo : Same (mix F H H4) (mix F H (upd H4 l (.tup [x, y]))) := mix_mono (same_upd hl)
    exact ⟨l, x, y, rfl, by rw [mix_new hn]; exact upd_same, Rp.mono mo rx, Rp.mono mo ry⟩)
end
/-! ### a text times a number, both written -/
def rMulStr : V → V → Hp → VK → Prop := fun x y H Q => ∃ a n, x = V.str a ∧ y = V.int n ∧ MulOk a n ∧ Q (V.str (Txt.mul a n)) H
theorem op_mulStr {X : Cx} : OpR X (binaryOp .Mult) rMulStr := fun pins s σ H x y v u Q I rx ry h => by
  obtain ⟨a, n, e1, e2, ok, q⟩ := h
  subst e1 e2
  obtain ⟨t1, e3⟩ := rx
  obtain ⟨t2, e4⟩ := ry
  subst e3 e4
  exact SB.mul ok fun t3 k => ⟨V.str (Txt.mul a n), H, I.tok _, ⟨_, rfl⟩, q⟩
theorem g_mulC {K : PySem.W.Frag} {E : XK} {σ : L2.St} {F H : Hp} {a r : Str} {n : Int} (ok : MulOk a n) (hr : Txt.mul a n = r) : Gr K E (tOp rMulStr (tC (.str a)) (tC (.int n))) σ F H (.ok r) := fun H1 e Q hq =>
  ⟨a, n, rfl, rfl, ok, hq _ H1 (Same.refl _) (by rw [hr]; rfl)⟩
theorem mulOk_c {a : Str} {n : Int} (h1 : (decide (n < -(2 ^ 63 : Int)) || decide (n ≥ 2 ^ 63)) = false) (h2 : ¬ ((a.length : Int) > (2 ^ 63 - 1) / n)) (h3 : Builtin.Str.tooLong (a.length * n.toNat) = false) : MulOk a n := ⟨h1, fun _ _ => h2, fun _ _ => h3⟩
example : MulOk "9" 70 := mulOk_c (by decide +kernel) (by decide +kernel) (by decide +kernel)
example : Txt.mul "9" 7 = "9999999" := by decide +kernel
theorem st_h {t : TS} {D : Ends} {i : Nat} {σ : L2.St} {H : Hp} {rt : VK} {bk ct : L2.St → Hp → Prop} (h : t D (σ.set i none) H) : ({ nx := fun σ' H' => ({ D with nx := t D } : Ends).nx (σ'.set i none) H', rt := rt, bk := bk, ct := ct } : Ends).nx σ H := h
/-! ### a call of no argument -/
theorem pe_callS0 {X : Cx} {CX : CXT} {k : Nat} {f : Addr} {fd : FuncData} {ps : List Str} {sp : Sp} {E : L2.St → XK} {x : Str} {p pos : Pos} (F : FnOk X.prog X.w X.K X.mg X.base CX k f fd ps sp) (hr : Room k X.A) (hg : Gl X x) (hm : X.mg x = some (.ref f)) (hk : PySem.W.keepIn X.K (.ref f) = true) (hb : Binds X.K fd ps [])
    (hx : ∀ σ, PassesAt CX X σ (E σ)) (hdb : (x == ("__debug__" : Str)) = false := by decide) : PE X (.Call (.Name x p) [] [] pos) (tCallS sp E tNil) := by
  constructor
  intro pins s σ H Q I h
  refine wpAny_Call_Name_kw (ld_glob I hg hm ?_ hdb)
  exact PySem.W.callWith_K0 I.kIn hk (run_fnS (us := []) (vs := []) F hr hb (hx σ) I .nil h)
section
variable {K : PySem.W.Frag} {E : XK} {σ : L2.St} {F H : Hp} {ρ : Type} [Rp ρ] {Ex : L2.St → XK}
theorem g_call0 {f : R ρ} (hE : Ex σ = E := by rfl) : Gr K E (tCallS (sp0 K f) Ex tNil) σ F H f := by
  subst hE
  exact fun H1 e Q hq => ⟨rfl, wp_mono hq (fun b _ k v' H3 e3 r3 => k v' H3 e3 (Rp.mono (dif_mix e e3) r3)) fun c _ z => z⟩
end
/-! ### f-strings of ints -/
noncomputable def fJ : List (R Str) → Str → R Str
  | [], acc => .ok acc
  | m :: us, acc => R.bd m fun y => R.bd (catS acc y) fun z => fJ us z
inductive GJ (K : PySem.W.Frag) (E : XK) (σ : L2.St) (F H : Hp) : List TE → List (R Str) → Prop where
  | nil : GJ K E σ F H [] []
  | cons {t : TE} {m : R Str} {ts : List TE} {us : List (R Str)} (h : Gr K E t σ F H m) (r : GJ K E σ F H ts us) : GJ K E σ F H (t :: ts) (m :: us)
section
variable {K : PySem.W.Frag} {E : XK} {σ : L2.St} {F H : Hp} {te : TE}
theorem g_fmt {m : R Int} (h : Gr K E te σ F H m) : Gr K E (tFmt te) σ F H (R.bd m strN) := fun H1 e Q hq =>
  gr_seq h e hq fun i v H2 e2 r hq2 => by
    have r : v = .int i := r
    subst r
    unfold strN gd at hq2
    split at hq2
    · rename_i c
      exact .inr ⟨i, rfl, c, hq2 _ H2 (Same.refl _) rfl⟩
    · exact hq2.elim
theorem gj_run {ts : List TE} {us : List (R Str)} (h : GJ K E σ F H ts us) : ∀ (acc : Str) (H1 : Hp) (Q : Str → Hp → Prop), Same H H1 → Wp (fJ us acc) (fun a => ∀ H2, Same H1 H2 → Q a H2) (EE K E H1) → tJs ts acc σ H1 Q := by
  induction h with
  | nil => exact fun acc H1 Q _ hq => hq H1 (Same.refl _)
  | @cons t m ts us h r ih =>
    intro acc H1 Q e hq
    unfold fJ at hq
    rw [wp_bd] at hq
    refine h H1 e _ (wp_mono hq (fun y _ k v H2 e2 rv => ?_) fun _ _ z => z)
    have rv : v = .str y := rv
    subst rv
    unfold catS gd at k
    split at k
    · rename_i c
      rw [bd_ok] at k
      refine ⟨y, rfl, ?_, ih _ H2 _ (e.trans e2) (wp_mono k (fun a _ q H3 e3 => q H3 (e2.trans e3)) fun _ _ z => z.mono e2)⟩
      rw [TL.len_tl, TL.tl_append, List.length_append, ← TL.len_tl, ← TL.len_tl]
      exact lim_le c
    · exact k.elim
theorem g_joined {ts : List TE} {us : List (R Str)} (h : GJ K E σ F H ts us) : Gr K E (fun σ H Q => tJs ts Str.empty σ H fun out H1 => Q (.str out) H1) σ F H (fJ us Str.empty) := fun H1 e Q hq =>
  gj_run h Str.empty H1 _ e (wp_mono hq (fun a _ k H2 e2 => k (.str a) H2 e2 rfl) fun _ _ z => z)
end
/-! ### zip; a tuple of four -/
section
variable {K : PySem.W.Frag} {E : XK} {σ : L2.St} {F H : Hp} {ta tb tc td : TE} {α β γ δ : Type} [Rp α] [Rp β] [Rp γ] [Rp δ]
theorem i_zip {mx : R (List α)} {my : R (List β)} (hx : Gr K E ta σ F H mx) (hy : Gr K E tb σ F H my) (hF : Same F H) : GrI K E (iZip K (tCons ta (tCons tb tNil))) σ F H (R.bd mx fun xs => R.bd my fun ys => .ok (xs.zip ys)) := fun H1 e RR hq =>
  hx H1 e _ (by
    rw [wp_bd] at hq
    refine wp_mono hq (fun xs _ k v H2 e2 r => ?_) fun _ _ z => z
    rw [wp_bd] at k
    refine hy H2 (e.trans e2) _ (wp_mono k (fun ys _ k w H3 e3 r3 => ?_) fun _ _ z => z.mono e2)
    have r := Rp.mono (mix_mono (F := F) (H := H) e3) r
    obtain ⟨p, vs, rfl, hp, hv⟩ := r
    obtain ⟨q, ws, rfl, hq3, hw⟩ := r3
    have e13 := e.trans (e2.trans e3)
    refine ⟨p, q, vs, ws, rfl, SqL.of (mix_same hF e13 p _ hp), SqL.of (mix_same hF e13 q _ hq3), k _ H3 (e2.trans e3) ⟨fun i H' s hi => ?_, fun i H' s hi => ?_, fun i H' x H'' s hi y => ?_⟩⟩
    · rw [List.length_zip] at hi
      exact ⟨vs, ws, vs[i]'(by rw [hv.length]; omega), ws[i]'(by rw [hw.length]; omega), SqL.of (s p _ hp), SqL.of (s q _ hq3), List.getElem?_eq_getElem _, List.getElem?_eq_getElem _⟩
    · rw [List.length_zip] at hi
      exact ⟨vs, ws, SqL.of (s p _ hp), SqL.of (s q _ hq3), by rw [hv.length, hw.length]; omega⟩
    · obtain ⟨T, x1, x2, rfl, hT, rfl, y1, y2⟩ := y
      obtain ⟨a, ha, ra⟩ := hv.getL (y1 vs (SqL.of (s p _ hp)))
      obtain ⟨b, hb, rb⟩ := hw.getL (y2 ws (SqL.of (s q _ hq3)))
      refine ⟨same_upd hT, (a, b), ?_, T, x1, x2, rfl, by rw [mix_new hT]; exact upd_same, Rp.mono (same_mix s) ra, Rp.mono (same_mix s) rb⟩
      rw [List.getElem?_zip_eq_some]
      exact ⟨ha, hb⟩)
theorem g_tup4 [DyN α] [DyN β] [DyN γ] [DyN δ] {ma : R α} {mb : R β} {mc : R γ} {md : R δ} (ha : Gr K E ta σ F H ma) (hb : Gr K E tb σ F H mb) (hc : Gr K E tc σ F H mc) (hd : Gr K E td σ F H md) :
    Gr K E (tTup (tCons ta (tCons tb (tCons tc (tCons td tNil))))) σ F H (R.bd ma fun a => R.bd mb fun b => R.bd mc fun c => R.bd md fun d => .ok (Dy.tup [DyN.dy a, DyN.dy b, DyN.dy c, DyN.dy d])) := fun H1 e Q hq =>
  gr_seq ha e hq fun a v H2 e2 r hq2 => gr_seq hb (e.trans e2) hq2 fun b w H3 e3 r3 hq3 => gr_seq hc (e.trans (e2.trans e3)) hq3 fun c z H4 e4 r4 hq4 => gr_seq hd (e.trans (e2.trans (e3.trans e4))) hq4 fun d u H5 e5 r5 hq5 => by
    refine ⟨by show 4 ≤ sizeLine; decide, fun p hp => hq5 _ _ (same_upd hp) ?_⟩
    have hn : H p = none := Same.free (e.trans (e2.trans (e3.trans (e4.trans e5)))) hp
    exact ⟨p, _, rfl, by rw [mix_new hn]; exact upd_same, v, _, rfl, DyN.to (Rp.mono (mix_mono (e3.trans (e4.trans (e5.trans (same_upd hp))))) r), w, _, rfl, DyN.to (Rp.mono (mix_mono (e4.trans (e5.trans (same_upd hp)))) r3), z, _, rfl, DyN.to (Rp.mono (mix_mono (e5.trans (same_upd hp))) r4), u, _, rfl, DyN.to (Rp.mono (mix_mono (same_upd hp)) r5), rfl⟩
end
end G

set_option Elab.async false
set_option linter.all false
set_option maxRecDepth 100000
set_option maxHeartbeats 4000000
/-! G: a long top, looked at in parts. -/
namespace G
open PySem PySem.Spec PyProof.Rows L2 PySem.W HandSHeadRun
section
variable {r : OpenRow} {q : Program} {M : Nat} {loose : List PySem.Str} {w : World} {n : Nat} {fa : List He.Fa} {fn f1 f2 : List He.DefD} {bx : PySem.W.Frag → Bool}
/-- what is seen from the globals, step by step -/
def frF (g : Addr → Option Obj) : Nat → List Addr
  | 0 => [mainGlobals]
  | n + 1 => (frF g n).flatMap fun a => match g a with
    | some o => (He.refsD o).filter fun b => !(Nat.beq b mainGlobals)
    | none => []
def asF (g : Addr → Option Obj) : Nat → List Addr
  | 0 => frF g 0
  | n + 1 => asF g n ++ frF g (n + 1)
def obsF (n : Nat) (fa : List He.Fa) (fn : List He.DefD) (bx : PySem.W.Frag → Bool) (g : Addr → Option Obj) : He.AlD := obsG fa fn bx (He.frG g (asF g n))
def hookF (n : Nat) (fa : List He.Fa) (fn : List He.DefD) (bx : PySem.W.Frag → Bool) : PySem.W.Hook where
  α := He.AlD
  obs := fun s => obsF n fa fn bx s.heap.get?
  val := fun _ => He.valD fn
  says := fun _ h => ∃ K : PySem.W.Frag, K.In h ∧ SaysG fa fn bx K
  of := fun _ _ e => ⟨_, He.frG_in, e⟩
  keeps := fun _ _ _ ⟨K, hK, c⟩ k => ⟨K, PySem.W.Frag.In.keeps hK k, c⟩
theorem obsF_eq {g : Addr → Option Obj} {s : Shared} (h : ∀ a, g a = s.heap.get? a) : obsF n fa fn bx g = (hookF n fa fn bx).obs s := by
  have e : g = s.heap.get? := funext h
  rw [e] <;> rfl
/-- the top's run -/
noncomputable abbrev topRun (r : OpenRow) (M : Nat) (w : World) (os : OsState) := HandSHeadRun.endF (HandSHeadRun.stepQ (HandSHeadRun.denQ HandSHeadRun.tabQ) r.prog w) M r.prog w os
def seesFa (r : OpenRow) (M : Nat) (w : World) (n : Nat) (fa : List He.Fa) : Prop := ∀ os : OsState, (topRun r M w os).map (fun s => obsF n fa [] (fun _ => true) (HandSHeadRun.getT s)) = some (He.valD [])
def seesBx (r : OpenRow) (M : Nat) (w : World) (n : Nat) (bx : PySem.W.Frag → Bool) : Prop := ∀ os : OsState, (topRun r M w os).map (fun s => obsF n [] [] bx (HandSHeadRun.getT s)) = some (He.valD [])
def seesFn (r : OpenRow) (M : Nat) (w : World) (n : Nat) (fn : List He.DefD) : Prop := ∀ os : OsState, (topRun r M w os).map (fun s => obsF n [] fn (fun _ => true) (HandSHeadRun.getT s)) = some (He.valD fn)
def seesQ (r : OpenRow) (q : Program) (M : Nat) (loose : List PySem.Str) (w : World) : Prop := ∀ os : OsState, (topRun r M w os).map (fun s => (looksF r.prog (boot_heap w.params) s.abs, seenQ q loose (importedModules r.prog.main.body) (fun s => xlAt q [] s && recOk r.toRowW.records s) s.abs)) = some (true, openGood q loose)
theorem map_some {α β : Type} {o : Option α} {f : α → β} {b : β} (h : o.map f = some b) : ∃ a, o = some a ∧ f a = b := by
  cases o with
  | none => cases h
  | some a => exact ⟨a, rfl, Option.some.inj h⟩
theorem obs_fn {K : PySem.W.Frag} (h : obsG [] fn (fun _ => true) K = He.valD fn) : (fn.all fun d => d.ok K) = true ∧ fn.map (fun d => He.fnW K d.at_) = fn.map He.DefD.val := by
  have h1 : (((([] : List He.Fa).all fun f => f.ok K) && fn.all fun d => d.ok K) && true) = true := congrArg (fun z : He.AlD => z.1) h
  have h2 : fn.map (fun d => He.fnW K d.at_) = fn.map He.DefD.val := congrArg (fun z : He.AlD => z.2) h
  rw [Bool.and_true, List.all_nil, Bool.true_and] at h1
  exact ⟨h1, h2⟩
theorem fn_obs {K : PySem.W.Frag} (h : (fn.all fun d => d.ok K) = true ∧ fn.map (fun d => He.fnW K d.at_) = fn.map He.DefD.val) : obsG [] fn (fun _ => true) K = He.valD fn := by
  show ((((([] : List He.Fa).all fun f => f.ok K) && fn.all fun d => d.ok K) && true), fn.map fun d => He.fnW K d.at_) = (true, fn.map He.DefD.val)
  rw [Bool.and_true, List.all_nil, Bool.true_and, h.1, h.2]
theorem sees_app (a : seesFn r M w n f1) (b : seesFn r M w n f2) : seesFn r M w n (f1 ++ f2) := fun os => by
  obtain ⟨s, e, h1⟩ := map_some (a os)
  obtain ⟨s2, e2, h2⟩ := map_some (b os)
  rw [e] at e2
  cases e2
  rw [e]
  refine congrArg some (fn_obs ?_)
  obtain ⟨a1, a2⟩ := obs_fn h1
  obtain ⟨b1, b2⟩ := obs_fn h2
  exact ⟨by rw [List.all_append, a1, b1]; rfl, by rw [List.map_append, List.map_append, a2, b2]⟩
theorem run_parts (c : seesQ r q M loose w) (a : seesFa r M w n fa) (b : seesBx r M w n bx) (d : seesFn r M w n fn) :
    HandSHeadRun.RunEq r q (hookF n fa fn bx) (fun s => obsF n fa fn bx (HandSHeadRun.getT s)) M loose w := fun os => by
  obtain ⟨s, e, h0⟩ := map_some (c os)
  obtain ⟨s1, e1, h1⟩ := map_some (a os)
  obtain ⟨s2, e2, h2⟩ := map_some (b os)
  obtain ⟨s3, e3, h3⟩ := map_some (d os)
  have e : topRun r M w os = some s := e
  rw [e] at e1 e2 e3
  cases e1; cases e2; cases e3
  show (topRun r M w os).map _ = _
  rw [e]
  refine congrArg some ?_
  have x1 : (((fa.all fun f => f.ok (He.frG (HandSHeadRun.getT s) (asF (HandSHeadRun.getT s) n))) && ([] : List He.DefD).all fun d => d.ok (He.frG (HandSHeadRun.getT s) (asF (HandSHeadRun.getT s) n))) && true) = true := congrArg (fun z : He.AlD => z.1) h1
  have x2 : (((([] : List He.Fa).all fun f => f.ok (He.frG (HandSHeadRun.getT s) (asF (HandSHeadRun.getT s) n))) && ([] : List He.DefD).all fun d => d.ok (He.frG (HandSHeadRun.getT s) (asF (HandSHeadRun.getT s) n))) && bx (He.frG (HandSHeadRun.getT s) (asF (HandSHeadRun.getT s) n))) = true := congrArg (fun z : He.AlD => z.1) h2
  obtain ⟨x3, x4⟩ := obs_fn h3
  rw [Bool.and_true, List.all_nil, Bool.and_true] at x1
  rw [List.all_nil, List.all_nil, Bool.and_self, Bool.true_and] at x2
  have k : obsF n fa fn bx (HandSHeadRun.getT s) = He.valD fn := by
    show (((fa.all fun f => f.ok _) && fn.all fun d => d.ok _) && bx _, fn.map fun d => He.fnW _ d.at_) = (true, fn.map He.DefD.val)
    rw [x1, x3, x2, x4]
    rfl
  have h01 := congrArg Prod.fst h0
  have h02 := congrArg Prod.snd h0
  exact Prod.ext h01 (Prod.ext h02 k)
end
end G

set_option Elab.async false
set_option linter.all false
set_option maxRecDepth 100000
set_option maxHeartbeats 4000000
/-! G: a lent list is changed at a place, and gone; what a name holds gets another name. -/
namespace G
open PySem PySem.Spec PyProof.Rows L2
section
variable {K : PySem.W.Frag} {E : XK} {σ : L2.St} {H0 F H F' H' Gc : Hp} {ta tb te tl to ti : TE} {α β γ δ ρ S : Type} [Rp α] [Rp β] [Rp γ] [Rp δ] [Rp ρ] {D : Ends} {b : Bool} {P : Addr → Prop} {v : V} {a : α}
theorem s_mv {i j : Nat} (hv : σ[j]? = some (some v)) (c : D.nx (σ.set i (some v)) H) : tAsg (tVar j) (gName i) D σ H := ⟨_, hv, c⟩
/-- x[e] = f, x lent: afterwards it is gone -/
theorem s_setDie {i : Nat} {o : Option (List α)} {m : R α} {mi : R Int} {k : List α → R β} {kk : β → Prop} (l : Lent K H0 F H Gc v o) (hv : σ[i]? = some (some v)) (he : Gr K E te σ H H m) (hi : Gr K E ti σ H H mi) (hF : Same F H) (e0 : Same H0 H)
    (hQ : Wp (R.bd (R.bd m fun a => R.bd (unO o) fun xs => setR xs 0 a) k) kk (EE K E H0)) (h0 : mi = .ok 0 := by rfl)
    (c : ∀ xs' p F' H', Nx (fun q => q = p) F H F' H' → Same H0 H' → ∀ (vs : List V), Gc p = some (.lst vs) → H0 p = none → Wp (k xs') kk (EE K E H0) → D.nx σ H') : tAsg te (gSub (tVar i) ti rSetL) D σ H := by
  subst h0
  refine he H (Same.refl _) _ ?_
  rw [bd_assoc, wp_bd] at hQ
  refine wp_mono hQ (fun a _ q v1 H2 e2 rv => ?_) fun c _ z => z.mono e0
  rw [bd_assoc] at q
  cases o with
  | none => exact q.elim
  | some xs =>
    obtain ⟨nv, p, vs, rfl, hp, r⟩ := l.rep
    have hpH := l.gh p _ hp
    have hf := (l.gf p _ rfl hp).1
    have h0 := (l.gf p _ rfl hp).2
    refine ⟨_, hv, ?_⟩
    refine hi H2 e2 _ ?_
    intro w H3 e3 ri
    have ri' : w = .int 0 := ri
    subst ri'
    have q : Wp (R.bd (setR xs 0 a) k) kk (EE K E H0) := q
    unfold setR at q
    rw [← r.length] at q
    cases j : ixN vs.length 0 with
    | none => rw [j] at q; exact q.elim
    | some j' =>
      rw [j] at q
      have e3' := e2.trans e3
      refine ⟨p, vs, 0, j', rfl, rfl, e3 p _ (e2 p _ hpH), j, ?_⟩
      exact c _ p (mix F H H3) _ (nx_upd hF e3' hpH hf) (e0_upd e0 e3' h0) vs hp h0 q
end
end G

set_option Elab.async false
set_option linter.all false
set_option maxRecDepth 100000
set_option maxHeartbeats 4000000
/-! G: books: instances of a class with three lists, that methods change. -/
namespace G
open PySem PySem.Spec PyProof.Rows L2
structure Bk where
  boards : List (List Int)
  deeds : List (T3 Str Int Int)
  gone : List (T3 Str Int Int × List Int)
abbrev bC (K : PySem.W.Frag) : Addr := He.ga K "RingBook"
def bf (pb pd pg : Addr) : List (Str × V) := [("boards", .ref pb), ("deeds", .ref pd), ("gone", .ref pg)]
theorem bf_b {pb pd pg : Addr} : (bf pb pd pg).lookup ("boards" : Str) = some (.ref pb) := by
  unfold bf
  rw [List.lookup_cons_self]
theorem nBD : ¬ (("boards" : Str) = "deeds") := by decide +kernel
theorem nBG : ¬ (("boards" : Str) = "gone") := by decide +kernel
theorem nDG : ¬ (("deeds" : Str) = "gone") := by decide +kernel
theorem lk_ne {a b : Str} {v : V} {r : List (Str × V)} (h : ¬ a = b) : List.lookup a ((b, v) :: r) = List.lookup a r := by
  have : (a == b) = false := beq_eq_false_iff_ne.mpr h
  simp only [List.lookup, this]
theorem bf_d {pb pd pg : Addr} : (bf pb pd pg).lookup ("deeds" : Str) = some (.ref pd) := by
  unfold bf
  rw [lk_ne fun z => nBD z.symm, List.lookup_cons_self]
theorem bf_g {pb pd pg : Addr} : (bf pb pd pg).lookup ("gone" : Str) = some (.ref pg) := by
  unfold bf
  rw [lk_ne fun z => nBG z.symm, lk_ne fun z => nDG z.symm, List.lookup_cons_self]
theorem bf_no {pb pd pg : Addr} {m : Str} (h1 : ¬ m = "boards") (h2 : ¬ m = "deeds") (h3 : ¬ m = "gone") : (bf pb pd pg).lookup m = none := by
  unfold bf
  rw [lk_ne h1, lk_ne h2, lk_ne h3]
  rfl
theorem bf_put {pb pd pg l : Addr} : putF "gone" (.ref l) (bf pb pd pg) = bf pb pd l := by
  unfold bf
  show (if ("boards" : Str) = "gone" then _ else (("boards" : Str), V.ref pb) :: (if ("deeds" : Str) = "gone" then _ else (("deeds" : Str), V.ref pd) :: (if ("gone" : Str) = "gone" then [(("gone" : Str), V.ref l)] else _))) = _
  rw [if_neg nBG, if_neg nDG, if_pos rfl]
theorem bf_new {pb pd pg : Addr} : putF "gone" (.ref pg) (putF "deeds" (.ref pd) (putF "boards" (.ref pb) [])) = bf pb pd pg := by
  show putF "gone" (.ref pg) (if ("boards" : Str) = "deeds" then _ else (("boards" : Str), V.ref pb) :: [(("deeds" : Str), V.ref pd)]) = _
  rw [if_neg nBD]
  show (if ("boards" : Str) = "gone" then _ else (("boards" : Str), V.ref pb) :: (if ("deeds" : Str) = "gone" then _ else (("deeds" : Str), V.ref pd) :: [(("gone" : Str), V.ref pg)])) = _
  rw [if_neg nBG, if_neg nDG]
  rfl
/-- what the class must have -/
structure BkF (K : PySem.W.Frag) : Prop where
  cl : Cls K (bC K)
  nB : NoAttr K (bC K) "boards"
  nD : NoAttr K (bC K) "deeds"
  nG : NoAttr K (bC K) "gone"
instance : Rp Bk where
  rep K H v b := ∃ p dx pb pd pg, v = .ref p ∧ H p = some (.ins (bC K) dx (bf pb pd pg)) ∧ Rp.rep K H (.ref pb) b.boards ∧ Rp.rep K H (.ref pd) b.deeds ∧ Rp.rep K H (.ref pg) b.gone
  mono e := fun ⟨p, dx, pb, pd, pg, h1, h2, h3, h4, h5⟩ => ⟨p, dx, pb, pd, pg, h1, e _ _ h2, Rp.mono e h3, Rp.mono e h4, Rp.mono e h5⟩
instance : NN Bk := ⟨fun ⟨_, _, _, _, _, h, _⟩ => by rw [h]; intro q; cases q⟩
open Classical in
/-- the inner things of a book -/
noncomputable def inn (H : Hp) (S : Addr → Prop) (p pb pd pg : Addr) : Hp := fun q => if tupB (H q) = true then H q else if S q ∧ q ≠ p ∧ q ≠ pb ∧ q ≠ pd ∧ q ≠ pg then H q else none
section
variable {H H' : Hp} {S S' : Addr → Prop} {p pb pd pg : Addr}
theorem inn_le : Same (inn H S p pb pd pg) H := fun b o q => by
  unfold inn at q
  split at q
  · exact q
  · split at q
    · exact q
    · cases q
theorem inn_some {b : Addr} {o : HO} (q : inn H S p pb pd pg b = some o) : H b = some o ∧ (tupB (some o) = true ∨ (S b ∧ b ≠ p ∧ b ≠ pb ∧ b ≠ pd ∧ b ≠ pg)) := by
  refine ⟨inn_le _ _ q, ?_⟩
  have h := inn_le _ _ q
  unfold inn at q
  split at q
  · rename_i c
    rw [h] at c
    exact .inl c
  · split at q
    · rename_i c
      exact .inr c
    · cases q
theorem inn_of {b : Addr} {o : HO} (h : H b = some o) (c : tupB (some o) = true ∨ (S b ∧ b ≠ p ∧ b ≠ pb ∧ b ≠ pd ∧ b ≠ pg)) : inn H S p pb pd pg b = some o := by
  unfold inn
  rcases c with c | c
  · rw [if_pos (by rw [h]; exact c)]
    exact h
  · rw [if_pos c]
    split <;> exact h
/-- the inner things stand when what they are stands -/
theorem inn_to {pg' : Addr} (h : ∀ b o, H b = some o → (tupB (some o) = true ∨ (S b ∧ b ≠ p ∧ b ≠ pb ∧ b ≠ pd ∧ b ≠ pg)) → H' b = some o ∧ (tupB (some o) = true ∨ (S' b ∧ b ≠ pg'))) : Same (inn H S p pb pd pg) (inn H' S' p pb pd pg') := fun b o q => by
  obtain ⟨h1, h2⟩ := inn_some q
  obtain ⟨h3, h4⟩ := h b o h1 h2
  refine inn_of h3 ?_
  rcases h2 with z | z
  · exact .inl z
  · rcases h4 with w | w
    · exact .inl w
    · exact .inr ⟨w.1, z.2.1, z.2.2.1, z.2.2.2.1, w.2⟩
end
/-- the cells of a book -/
structure BkC (K : PySem.W.Frag) (H : Hp) (S : Addr → Prop) (p pb pd pg : Addr) (b : Bk) : Prop where
  hp : ∃ dx, H p = some (.ins (bC K) dx (bf pb pd pg))
  hb : ∃ vs, H pb = some (.lst vs) ∧ All2 (Rp.rep K (inn H S p pb pd pg)) vs b.boards
  hd : ∃ vs, H pd = some (.lst vs) ∧ All2 (Rp.rep K (inn H S p pb pd pg)) vs b.deeds
  hg : ∃ vs, H pg = some (.lst vs) ∧ All2 (Rp.rep K (inn H S p pb pd pg)) vs b.gone
  s : S p ∧ S pb ∧ S pd ∧ S pg
  n : pb ≠ pd ∧ pb ≠ pg ∧ pd ≠ pg
theorem BkC.np {K : PySem.W.Frag} {H : Hp} {S : Addr → Prop} {p pb pd pg : Addr} {b : Bk} (h : BkC K H S p pb pd pg b) : p ≠ pb ∧ p ≠ pd ∧ p ≠ pg := by
  obtain ⟨dx, h1⟩ := h.hp
  obtain ⟨_, h2, _⟩ := h.hb
  obtain ⟨_, h3, _⟩ := h.hd
  obtain ⟨_, h4, _⟩ := h.hg
  refine ⟨fun z => ?_, fun z => ?_, fun z => ?_⟩
  · rw [z, h2] at h1; cases h1
  · rw [z, h3] at h1; cases h1
  · rw [z, h4] at h1; cases h1
theorem BkC.agr {K : PySem.W.Frag} {H H' : Hp} {S : Addr → Prop} {p pb pd pg : Addr} {b : Bk} (h : BkC K H S p pb pd pg b) (a : Agr S H H') : BkC K H' S p pb pd pg b := by
  obtain ⟨⟨dx, h1⟩, ⟨vb, h2, r2⟩, ⟨vd, h3, r3⟩, ⟨vg, h4, r4⟩, s, n⟩ := h
  have e : Same (inn H S p pb pd pg) (inn H' S p pb pd pg) := inn_to fun q o hq c => ⟨a q o hq (c.elim .inr fun z => .inl z.1), c.imp id fun z => ⟨z.1, z.2.2.2.2⟩⟩
  exact ⟨⟨dx, a _ _ h1 (.inl s.1)⟩, ⟨vb, a _ _ h2 (.inl s.2.1), r2.mono fun _ _ r => Rp.mono e r⟩, ⟨vd, a _ _ h3 (.inl s.2.2.1), r3.mono fun _ _ r => Rp.mono e r⟩, ⟨vg, a _ _ h4 (.inl s.2.2.2), r4.mono fun _ _ r => Rp.mono e r⟩, s, n⟩
theorem BkC.cutS {K : PySem.W.Frag} {H : Hp} {S : Addr → Prop} {p pb pd pg : Addr} {b : Bk} (h : BkC K H S p pb pd pg b) : BkC K H (fun q => S q ∧ muc H q) p pb pd pg b := by
  obtain ⟨⟨dx, h1⟩, ⟨vb, h2, r2⟩, ⟨vd, h3, r3⟩, ⟨vg, h4, r4⟩, s, n⟩ := h
  have e : Same (inn H S p pb pd pg) (inn H (fun q => S q ∧ muc H q) p pb pd pg) := inn_to fun q o hq c => ⟨hq, by
    rcases c with c | c
    · exact .inl c
    · cases z : tupB (some o) with
      | true => exact .inl rfl
      | false => exact .inr ⟨⟨c.1, o, hq, z⟩, c.2.2.2.2⟩⟩
  exact ⟨⟨dx, h1⟩, ⟨vb, h2, r2.mono fun _ _ r => Rp.mono e r⟩, ⟨vd, h3, r3.mono fun _ _ r => Rp.mono e r⟩, ⟨vg, h4, r4.mono fun _ _ r => Rp.mono e r⟩, ⟨⟨s.1, _, h1, rfl⟩, ⟨s.2.1, _, h2, rfl⟩, ⟨s.2.2.1, _, h3, rfl⟩, ⟨s.2.2.2, _, h4, rfl⟩⟩, n⟩
theorem BkC.rep {K : PySem.W.Frag} {H : Hp} {S : Addr → Prop} {p pb pd pg : Addr} {b : Bk} (h : BkC K H S p pb pd pg b) : Rp.rep K H (.ref p) b := by
  obtain ⟨⟨dx, h1⟩, ⟨vb, h2, r2⟩, ⟨vd, h3, r3⟩, ⟨vg, h4, r4⟩, s, n⟩ := h
  exact ⟨p, dx, pb, pd, pg, rfl, h1, ⟨pb, vb, rfl, h2, r2.mono fun _ _ r => Rp.mono inn_le r⟩, ⟨pd, vd, rfl, h3, r3.mono fun _ _ r => Rp.mono inn_le r⟩, ⟨pg, vg, rfl, h4, r4.mono fun _ _ r => Rp.mono inn_le r⟩⟩
instance : Tr Bk where
  tr K H S v b := ∃ p pb pd pg, v = .ref p ∧ BkC K H S p pb pd pg b
  rep := fun ⟨p, pb, pd, pg, h1, h2⟩ => by rw [h1]; exact h2.rep
  mono := fun a ⟨p, pb, pd, pg, h1, h2⟩ => ⟨p, pb, pd, pg, h1, h2.agr a⟩
  cut := fun ⟨p, pb, pd, pg, h1, h2⟩ => ⟨p, pb, pd, pg, h1, h2.cutS⟩
/-! ### calls -/
def tMeS (C : Addr) (m : Str) (sp : Sp) (E : L2.St → XK) (ta : TE) (t : TA) : TE := fun σ H Q => ta σ H fun x H1 => ∃ a dx fs, x = .ref a ∧ H1 a = some (.ins C dx fs) ∧ fs.lookup m = none ∧ t σ H1 fun vs H2 => sp (x :: vs) H2 Q (E σ)
theorem pe_meS {X : Cx} {CX : CXT} {k : Nat} {f C : Addr} {fd : FuncData} {ps : List Str} {sp : Sp} {E : L2.St → XK} {m : Str} {pos apos : Pos} {e o : Expr} {es : List Expr} {ta : TE} {t : TA} {pl : Sem Bool} (he : PE X o ta) (c : Cls X.K C) (hm : Meth X.K C m f)
    (F : FnOk X.prog X.w X.K X.mg X.base CX k f fd ps sp) (hr : Room k X.A) (hb : Binds X.K fd ps []) (hx : ∀ σ, PassesAt CX X σ (E σ)) (ha : PA X (e :: es) t)
    (hst : starEach (e :: es) X.env = (false, eval e X.env) :: starEach es X.env := by rfl) (hpl : (backTo pos (starEach es X.env)).any (·.1) = false := by rfl)
    (ht : eval (.Call (.Attribute o m apos) (e :: es) [] pos) X.env = (do
      let ov ← eval o X.env
      standAt apos.atName
      let (f, first) ← holding [ov] (getMethod ov m pl)
      callWith pos f first (backTo pos (starEach (e :: es) X.env)) (backToKw pos (keywordEach [] X.env))) := by rfl) :
    PE X (.Call (.Attribute o m apos) (e :: es) [] pos) (tMeS C m sp E ta t) := by
  refine ⟨fun pins s σ H Q I h => ?_⟩
  refine PySem.W.methodCall_KW (pl := pl) (thn (he.run pins s σ H _ I h) fun u s1 ⟨x, H1, I1, rx, a, dx, fs, ex, ea, l, q⟩ => ?_) ht
  subst ex
  obtain rfl : u = Value.ref a := rx
  refine getmeth_ok I1 ea c hm l ?_
  refine PySem.W.callWith_K (first := [.ref a]) (h₀ := X.base) I.ok.mod.kin hm.kp (thn (ha.run pos pins s1 σ H1 _ I1 q) fun us s2 ⟨vs, H2, I2, r, q2⟩ => ⟨I2.kIn, ?_⟩) hst hpl
  exact run_fnS (us := .ref a :: us) (vs := .ref a :: vs) F hr hb (hx σ) I2 (.cons rfl r) q2
theorem pe_meS0 {X : Cx} {CX : CXT} {k : Nat} {f C : Addr} {fd : FuncData} {ps : List Str} {sp : Sp} {E : L2.St → XK} {m : Str} {pos apos : Pos} {o : Expr} {ta : TE} {pl : Sem Bool} (he : PE X o ta) (c : Cls X.K C) (hm : Meth X.K C m f)
    (F : FnOk X.prog X.w X.K X.mg X.base CX k f fd ps sp) (hr : Room k X.A) (hb : Binds X.K fd ps []) (hx : ∀ σ, PassesAt CX X σ (E σ))
    (ht : eval (.Call (.Attribute o m apos) [] [] pos) X.env = (do
      let ov ← eval o X.env
      standAt apos.atName
      let (f, first) ← holding [ov] (getMethod ov m pl)
      callWith pos f first (backTo pos (starEach [] X.env)) (backToKw pos (keywordEach [] X.env))) := by rfl) :
    PE X (.Call (.Attribute o m apos) [] [] pos) (tMeS C m sp E ta tNil) := by
  refine ⟨fun pins s σ H Q I h => ?_⟩
  refine PySem.W.methodCall_KW (pl := pl) (thn (he.run pins s σ H _ I h) fun u s1 ⟨x, H1, I1, rx, a, dx, fs, ex, ea, l, q⟩ => ?_) ht
  subst ex
  obtain rfl : u = Value.ref a := rx
  refine getmeth_ok I1 ea c hm l ?_
  exact PySem.W.callWith_K0 (first := [.ref a]) I1.kIn hm.kp (run_fnS (us := [.ref a]) (vs := [.ref a]) F hr hb (hx σ) I1 (.cons rfl .nil) q)
def tMkS (C : Addr) (sp : Sp) (E : L2.St → XK) (t : TA) : TE := fun σ H Q => t σ H fun vs H1 => ∀ x dx, H1 x = none → H1 dx = none → dx ≠ x →
  sp (.ref x :: vs) (upd (upd H1 dx (.own x)) x (.ins C dx [])) (fun v H2 => v = .non ∧ Q (.ref x) H2) (E σ)
theorem run_mkS {X : Cx} {CX : CXT} {k : Nat} {f C : Addr} {fd : FuncData} {ps : List Str} {sp : Sp} {E : XK} {pins : List (Addr × Obj)} {σ : L2.St} {H : Hp} {s : Shared} {Q : VK} {us : List Value} {vs : List V} (M : Mk X.K C f) (F : FnOk X.prog X.w X.K X.mg X.base CX k f fd ps sp) (hr : Room (k + 1) X.A) (hb : Binds X.K fd ps [])
    (hx : PassesAt CX X σ E) (I : Inv X pins σ H s) (r : Vals vs us)
    (h : ∀ x dx, H x = none → H dx = none → dx ≠ x → sp (.ref x :: vs) (upd (upd H dx (.own x)) x (.ins C dx [])) (fun v H2 => v = .non ∧ Q (.ref x) H2) E) :
    wpAny (model X.prog X.w) X.A (call (.ref C) us) (EP X pins σ Q) X.xe s := by
  have hq := h (s.heap.objs.size + 1) s.heap.objs.size (I.hok.fresh (Nat.le_succ _)) (I.hok.fresh (Nat.le_refl _)) (Nat.ne_of_lt (Nat.lt_succ_self _))
  have I2 := Inv.made (C := C) I
  have r2 : Vals (V.ref (s.heap.objs.size + 1) :: vs) (Value.ref (s.heap.objs.size + 1) :: us) := .cons rfl r
  have hl : (Value.ref (s.heap.objs.size + 1) :: us ++ []).length = ps.length := by
    have e := r2.length
    rw [F.len _ _ _ _ hq] at e
    rw [List.append_nil]
    exact e.symm
  refine wpAny_call (make_map (f := f) I.kIn M.makes M.init (beq_iff_eq.mp M.fn) (codeAny_mono (F.run _ X.stack _ _ ⟨Value.ref (s.heap.objs.size + 1) :: us, []⟩ (Value.ref (s.heap.objs.size + 1) :: us) _ _ E (hr.make C us [])
    (I2.env0.make C us []) (by have := hb _ (Value.ref (s.heap.objs.size + 1) :: us) I2.kIn hl; rw [List.append_nil] at this; exact this) r2 hq) fun r s' hq' => ?_))
  cases r with
  | error e => exact hx pins _ _ e s' I2 hq'
  | ok fl =>
    cases fl with
    | ret u =>
      obtain ⟨v, H', I3, rv, ev, q3⟩ := I2.after hq'
      subst ev
      exact ⟨rv, ⟨V.ref (s.heap.objs.size + 1), H', I3, rfl, q3⟩⟩
    | next => exact False.elim hq'
    | brk => exact False.elim hq'
    | cont => exact False.elim hq'
theorem pe_mkS {X : Cx} {CX : CXT} {k : Nat} {f C : Addr} {fd : FuncData} {ps : List Str} {sp : Sp} {E : L2.St → XK} {x : Str} {p pos : Pos} {e : Expr} {es : List Expr} {t : TA} (M : Mk X.K C f) (F : FnOk X.prog X.w X.K X.mg X.base CX k f fd ps sp) (hr : Room (k + 1) X.A) (hg : Gl X x) (hm : X.mg x = some (.ref C)) (hb : Binds X.K fd ps []) (hx : ∀ σ, PassesAt CX X σ (E σ))
    (ha : PA X (e :: es) t) (hdb : (x == ("__debug__" : Str)) = false := by decide) (he : starEach (e :: es) X.env = (false, eval e X.env) :: starEach es X.env := by rfl) (hpl : (backTo pos (starEach es X.env)).any (·.1) = false := by rfl) :
    PE X (.Call (.Name x p) (e :: es) [] pos) (tMkS C sp E t) := by
  refine ⟨fun pins s σ H Q I h => ?_⟩
  refine wpAny_Call_Name_kw (ld_glob I hg hm ?_ hdb)
  refine PySem.W.callWith_K (h₀ := X.base) I.ok.mod.kin M.kp (thn (ha.run pos pins s σ H _ I h) fun us s1 ⟨vs, H1, I1, r, q⟩ => ⟨I1.kIn, ?_⟩) he hpl
  exact run_mkS M F hr hb (hx σ) I1 r q
section
variable {K : PySem.W.Frag} {E : XK} {σ : L2.St} {H0 F H F' H' : Hp} {te ta to : TE} {α β ρ : Type} [Rp α] [Rp β] [Rp ρ] {D : Ends} {SS : Addr → Prop} {v : V} {b : Bk} {Ex : L2.St → XK} {nm : Str}
/-! ### fields -/
theorem g_fB {m : R Bk} (X : BkF K) (h : Gr K E to σ F H m) (hF : Same F H) : Gr K E (tFld K to "boards") σ F H (R.bd m fun b => .ok b.boards) := fun H1 e Q hq =>
  h H1 e _ (by
    rw [wp_bd] at hq
    exact wp_mono hq (fun b _ k v H2 e2 r => by
      obtain ⟨p, dx, pb, pd, pg, rfl, hp, r1, r2, r3⟩ := r
      exact ⟨p, _, dx, _, _, rfl, mix_same hF (e.trans e2) _ _ hp, X.cl, X.nB, bf_b, k _ H2 e2 r1⟩) fun _ _ z => z)
theorem g_fD {m : R Bk} (X : BkF K) (h : Gr K E to σ F H m) (hF : Same F H) : Gr K E (tFld K to "deeds") σ F H (R.bd m fun b => .ok b.deeds) := fun H1 e Q hq =>
  h H1 e _ (by
    rw [wp_bd] at hq
    exact wp_mono hq (fun b _ k v H2 e2 r => by
      obtain ⟨p, dx, pb, pd, pg, rfl, hp, r1, r2, r3⟩ := r
      exact ⟨p, _, dx, _, _, rfl, mix_same hF (e.trans e2) _ _ hp, X.cl, X.nD, bf_d, k _ H2 e2 r2⟩) fun _ _ z => z)
theorem g_fG {m : R Bk} (X : BkF K) (h : Gr K E to σ F H m) (hF : Same F H) : Gr K E (tFld K to "gone") σ F H (R.bd m fun b => .ok b.gone) := fun H1 e Q hq =>
  h H1 e _ (by
    rw [wp_bd] at hq
    exact wp_mono hq (fun b _ k v H2 e2 r => by
      obtain ⟨p, dx, pb, pd, pg, rfl, hp, r1, r2, r3⟩ := r
      exact ⟨p, _, dx, _, _, rfl, mix_same hF (e.trans e2) _ _ hp, X.cl, X.nG, bf_g, k _ H2 e2 r3⟩) fun _ _ z => z)
/-! ### methods that look -/
theorem g_me0 {f : Bk → R ρ} {ma : R Bk} (ha : Gr K E ta σ H H ma) (hE : Ex σ = E := by rfl) (h1 : ¬ nm = "boards" := by decide +kernel) (h2 : ¬ nm = "deeds" := by decide +kernel) (h3 : ¬ nm = "gone" := by decide +kernel) : Gr K E (tMeS (bC K) nm (sp1 K f) Ex ta tNil) σ F H (R.bd ma f) := by
  subst hE
  exact fun H1 e Q hq => gr_arg ha e hq fun a v H2 e2 r hq2 => by
    obtain ⟨p, dx, pb, pd, pg, rfl, hp, r1, r2, r3⟩ := id r
    exact ⟨p, dx, _, rfl, hp, bf_no h1 h2 h3, .ref p, a, rfl, r, wp_mono hq2 (fun b _ k v' H3 e3 r3 => k v' H3 e3 (Rp.mono (dif_mix (e.trans e2) e3) r3)) fun c _ z => z⟩
/-! ### methods that change -/
def spBk0 (K : PySem.W.Frag) (f : Bk → R (ρ × Bk)) : Sp := fun vs H Q E => ∃ v b S0 Gz, vs = [v] ∧ Same Gz H ∧ Tr.tr K H S0 v b ∧ (∀ q, S0 q → Gz q = none ∧ muc H q) ∧
  Wp (f b) (fun z => ∀ v' F' H' S', Nx S0 Gz H F' H' → Tr.tr K H' S' v z.2 → (∀ q, S' q → (S0 q ∨ H q = none) ∧ F' q = none ∧ muc H' q) → Rp.rep K F' v' z.1 → Q v' H') (EE K E H)
def spBk1 (K : PySem.W.Frag) (f : Bk → α → R (ρ × Bk)) : Sp := fun vs H Q E => ∃ v w b a S0 Gz, vs = [v, w] ∧ Same Gz H ∧ Tr.tr K H S0 v b ∧ (∀ q, S0 q → Gz q = none ∧ muc H q) ∧ Rp.rep K Gz w a ∧
  Wp (f b a) (fun z => ∀ v' F' H' S', Nx S0 Gz H F' H' → Tr.tr K H' S' v z.2 → (∀ q, S' q → (S0 q ∨ H q = none) ∧ F' q = none ∧ muc H' q) → Rp.rep K F' v' z.1 → Q v' H') (EE K E H)
/-- a book behind a change -/
def BkJ (K : PySem.W.Frag) (H0 H : Hp) (SS : Addr → Prop) (v : V) : Hp → Hp → Bk → Prop := fun F' H' b' => ∃ SS', ApO K H0 F' H' SS' v b' ∧ ∀ q, SS' q → (SS q ∨ H q = none) ∧ H' q ≠ none
theorem bkj_of {S S' : Addr → Prop} {b' : Bk} (e0 : Same H0 H) (hS : ∀ q, S q → SS q ∧ F q = none ∧ H0 q = none ∧ muc H q) (r : Tr.tr K H' S' v b') (h : ∀ q, S' q → (S q ∨ H q = none) ∧ F' q = none ∧ muc H' q) : BkJ K H0 H SS v F' H' b' :=
  ⟨S', ⟨S', r, fun q z => ⟨z, (h q z).2.1, (h q z).1.elim (fun w => (hS q w).2.2.1) fun w => Same.free e0 w, (h q z).2.2⟩⟩, fun q z => ⟨(h q z).1.imp (fun w => (hS q w).1) id, muc_some (h q z).2.2⟩⟩
theorem g_bk0 {f : Bk → R (ρ × Bk)} (A : ApO K H0 F H SS v b) (hv : AtV to σ H v) (hF : Same F H) (e0 : Same H0 H) (hE : Ex σ = E := by rfl) (h1 : ¬ nm = "boards" := by decide +kernel) (h2 : ¬ nm = "deeds" := by decide +kernel) (h3 : ¬ nm = "gone" := by decide +kernel) :
    GrM K E (tMeS (bC K) nm (spBk0 K f) Ex to tNil) σ H0 F H (fun q => (SS q ∧ tupB (H q) = false) ∨ False) (BkJ K H0 H SS v) (f b) := by
  subst hE
  intro Q hq
  refine hv H (Same.refl _) _ ?_
  obtain ⟨S, r, hS⟩ := A.ex
  obtain ⟨p, pb, pd, pg, rfl, c⟩ := id r
  obtain ⟨dx, hp⟩ := c.hp
  exact ⟨p, dx, _, rfl, hp, bf_no h1 h2 h3, .ref p, b, S, F, rfl, hF, r, fun q z => ⟨(hS q z).2.1, (hS q z).2.2.2⟩, wp_mono hq (fun z _ k v' F' H' S' n r' hS' rv => k v' F' H' (n.wk fun q z => .inl ⟨(hS q z).1, muc_tb (hS q z).2.2.2⟩) (n.e0 e0 fun q z => (hS q z).2.2.1) (bkj_of e0 hS r' hS') rv) fun c _ z => z.mono e0⟩
theorem g_bk1 {f : Bk → α → R (ρ × Bk)} {ma : R α} (ha : Gr K E ta σ F H ma) (A : ApO K H0 F H SS v b) (hv : AtV to σ H v) (hF : Same F H) (e0 : Same H0 H) (hE : Ex σ = E := by rfl) (h1 : ¬ nm = "boards" := by decide +kernel) (h2 : ¬ nm = "deeds" := by decide +kernel) (h3 : ¬ nm = "gone" := by decide +kernel) :
    GrM K E (tMeS (bC K) nm (spBk1 K f) Ex to (tCons ta tNil)) σ H0 F H (fun q => (SS q ∧ tupB (H q) = false) ∨ False) (BkJ K H0 H SS v) (R.bd ma fun a => f b a) := by
  subst hE
  intro Q hq
  refine hv H (Same.refl _) _ ?_
  obtain ⟨S, r, hS⟩ := A.ex
  obtain ⟨p, pb, pd, pg, rfl, c⟩ := id r
  obtain ⟨dx, hp⟩ := c.hp
  refine ⟨p, dx, _, rfl, hp, bf_no h1 h2 h3, gm_arg ha (Same.refl _) e0 hq fun a w H1 e1 ra hq => ?_⟩
  have n0 := Nx.mk' hF e1
  refine ⟨.ref p, w, b, a, S, mix F H H1, rfl, mix_same hF e1, Tr.mono (Agr.same e1) r, fun q z => ⟨?_, muc_mono e1 (hS q z).2.2.2⟩, ra, wp_mono hq (fun z _ k v' F' H' S' n r' hS' rv => k v' F' H' ((n0.tr n).wk fun q z => .inl ⟨(hS q z).1, muc_tb (hS q z).2.2.2⟩) (n.e0 (e0.trans e1) fun q z => (hS q z).2.2.1) (bkj_of e0 hS r' fun q z => ⟨(hS' q z).1.imp id fun w => Same.free e1 w, (hS' q z).2⟩) rv) fun c _ z => z.mono (e0.trans e1)⟩
  obtain ⟨u, h4, h5⟩ := (hS q z).2.2.2
  rw [mix_old h4 h5]
  exact (hS q z).2.1
/-! ### a new book -/
def spMk (K : PySem.W.Frag) (f : α → R Bk) : Sp := fun vs H Q E => ∃ x dx w a, vs = [.ref x, w] ∧ H x = some (.ins (bC K) dx []) ∧ Rp.rep K H w a ∧
  Wp (f a) (fun b => ∀ H' S', (∀ q o, H q = some o → q ≠ x → H' q = some o) → Tr.tr K H' S' (.ref x) b → (∀ q, S' q → (q = x ∨ H q = none) ∧ muc H' q) → Q .non H') (EE K E H)
theorem gx_mk {f : α → R Bk} {ma : R α} (ha : Gr K E ta σ H H ma) (hE : Ex σ = E := by rfl) : GrX K E (tMkS (bC K) (spMk K f) Ex (tCons ta tNil)) σ H (R.bd ma f) := by
  subst hE
  intro H1 e Q hq
  refine ha H1 e _ ?_
  rw [wp_bd] at hq
  refine wp_mono hq (fun a _ k v H2 e2 r => ?_) fun c _ z => z
  intro x dx hx hdx ne
  have r2 : Rp.rep K H2 v a := Rp.mono (mix_same (Same.refl _) (e.trans e2)) r
  have eX : Same H2 (upd (upd H2 dx (.own x)) x (.ins (bC K) dx [])) := (same_upd hdx).trans (same_upd (by rw [upd_ne (Ne.symm ne)]; exact hx))
  have k := wp_mono k (fun _ _ z => z) fun c _ z => z
  refine ⟨x, dx, v, a, rfl, upd_same, Rp.mono eX r2, wp_mono k (fun b _ k H' S' h1 h2 h3 => ⟨rfl, k _ H' (fun q o h => ?_) ⟨S', h2, fun q z => ⟨?_, (h3 q z).2⟩⟩⟩) fun c _ z => z.mono (e2.trans eX)⟩
  · have h2' := e2 q o h
    exact h1 q o (eX q o h2') fun z => by rw [z, hx] at h2'; cases h2'
  · rcases (h3 q z).1 with w | w
    · rw [w]
      exact Same.free (e.trans e2) hx
    · exact Same.free (e.trans (e2.trans eX)) w
/-- RingBook(e), told and forgotten -/
theorem g_mkD {f : α → R Bk} {ma : R α} (ha : Gr K E ta σ H H ma) (hE : Ex σ = E := by rfl) : Gr K E (tMkS (bC K) (spMk K f) Ex (tCons ta tNil)) σ F H (R.bd ma f) := fun H1 e Q hq =>
  gx_mk ha hE H1 e Q (wp_mono hq (fun a _ k v H2 e2 ⟨S, r, n⟩ => k v H2 e2 (Tr.rep (newS_mix (e.trans e2) r n))) fun _ _ z => z)
/-- RingBook(e).m(), told nothing -/
theorem g_mk0 {g : α → R Bk} {f : Bk → R (Unit × Bk)} {ma : R α} {Ex2 : L2.St → XK} (ha : Gr K E ta σ H H ma) (hE : Ex σ = E := by rfl) (hE2 : Ex2 σ = E := by rfl) (h1 : ¬ nm = "boards" := by decide +kernel) (h2 : ¬ nm = "deeds" := by decide +kernel) (h3 : ¬ nm = "gone" := by decide +kernel) :
    Gr K E (tMeS (bC K) nm (spBk0 K f) Ex2 (tMkS (bC K) (spMk K g) Ex (tCons ta tNil)) tNil) σ F H (R.bd ma fun a => R.bd (g a) fun b => R.bd (f b) fun z => .ok z.1) := by
  subst hE
  intro H1 e Q hq
  refine ha H1 e _ ?_
  rw [wp_bd] at hq
  refine wp_mono hq (fun a _ k v H2 e2 r => ?_) fun c _ z => z
  intro x dx hx hdx ne
  have r2 : Rp.rep K H2 v a := Rp.mono (mix_same (Same.refl _) (e.trans e2)) r
  have eX : Same H2 (upd (upd H2 dx (.own x)) x (.ins (bC K) dx [])) := (same_upd hdx).trans (same_upd (by rw [upd_ne (Ne.symm ne)]; exact hx))
  have k := wp_bdi k
  refine ⟨x, dx, v, a, rfl, upd_same, Rp.mono eX r2, wp_mono k (fun b _ k H' S' q1 q2 q3 => ⟨rfl, ?_⟩) fun c _ z => z.mono (e2.trans eX)⟩
  have e3 : Same H2 H' := fun q o h => q1 q o (eX q o h) fun z => by rw [z, hx] at h; cases h
  have hS : ∀ q, S' q → H2 q = none := fun q z => (q3 q z).1.elim (fun w => by rw [w]; exact hx) fun w => Same.free eX w
  obtain ⟨p, pb, pd, pg, hp, c⟩ := id q2
  cases hp
  obtain ⟨dx2, hp⟩ := c.hp
  have k := wp_bdi k
  rw [hE2]
  exact ⟨x, dx2, _, rfl, hp, bf_no h1 h2 h3, .ref x, b, S', H2, rfl, e3, q2, fun q z => ⟨hS q z, (q3 q z).2⟩, wp_mono k (fun z _ k v' F' H3 S3 n _ _ rv => k v' H3 (fun q o h => n.hh q o (fun w => by have := hS q w; rw [e2 q o h] at this; cases this) (e3 q o (e2 q o h))) rv) fun c _ z => z.mono (e2.trans e3)⟩
theorem s_asgBk {i : Nat} {m : R Bk} {k : Bk → R ρ} {kk : ρ → Prop} (he : GrX K E te σ H m) (hF : Same F H) (e0 : Same H0 H) (hQ : Wp (R.bd m k) kk (EE K E H0))
    (c : ∀ b v F' H' SS, Nx0 F H F' H' → Same H0 H' → ApO K H0 F' H' SS v b → (∀ q, SS q → H q = none) → (∀ q, SS q → H' q ≠ none) → Wp (k b) kk (EE K E H0) → D.nx (σ.set i (some v)) H') : tAsg te (gName i) D σ H :=
  s_asgAp (gx_apt he) hF e0 (by cases m <;> exact hQ) c
/-! ### what a method leaves -/
theorem nx_bk {S : Addr → Prop} (hF : Same F H) (hh : ∀ q o, ¬ S q → H q = some o → H' q = some o) (hs : ∀ q, S q → F q = none ∧ muc H q ∧ muc H' q) : Nx S F H (tupF F H') H' := by
  have key : ∀ q o, F q = some o → H' q = some o := fun q o h => hh q o (fun z => by rw [(hs q z).1] at h; cases h) (hF q o h)
  refine ⟨fun q o h => ?_, hh, fun q o h => ?_, fun q o t h f => ?_, fun q o h => ?_⟩
  · unfold tupF
    split
    · exact key q o h
    · exact h
  · unfold tupF at h
    split at h
    · exact h
    · exact key q o h
  · refine tupF_none ?_ f
    by_cases z : S q
    · exact muc_tb (hs q z).2.2
    · rw [hh q o z h]; exact t
  · by_cases z : S q
    · obtain ⟨_, ⟨o1, a1, a2⟩, o2, b1, b2⟩ := hs q z
      rw [h] at a1
      cases a1
      exact ⟨o2, b1, b2.trans a2.symm⟩
    · exact ⟨o, hh q o z h, rfl⟩
end
section
variable {K : PySem.W.Frag} {Gz H H3 H4 : Hp} {S0 S' : Addr → Prop} {p pb pd pg pg' : Addr} {b b' : Bk}
theorem bk_inn (C : BkC K H3 S0 p pb pd pg b) (h4 : ∀ q o, H3 q = some o → q ≠ p → q ≠ pb → q ≠ pd → q ≠ pg → H4 q = some o) (hs : ∀ q, S0 q → S' q) (hg' : pg' = pg ∨ H3 pg' = none) : Same (inn H3 S0 p pb pd pg) (inn H4 S' p pb pd pg') := inn_to fun q o hq c => by
  obtain ⟨dx, hp⟩ := C.hp
  obtain ⟨_, hb, _⟩ := C.hb
  obtain ⟨_, hd, _⟩ := C.hd
  obtain ⟨_, hg, _⟩ := C.hg
  rcases c with c | c
  · refine ⟨h4 q o hq (fun z => ?_) (fun z => ?_) (fun z => ?_) (fun z => ?_), .inl c⟩
    · rw [z, hp] at hq; cases hq; cases c
    · rw [z, hb] at hq; cases hq; cases c
    · rw [z, hd] at hq; cases hq; cases c
    · rw [z, hg] at hq; cases hq; cases c
  · refine ⟨h4 q o hq c.2.1 c.2.2.1 c.2.2.2.1 c.2.2.2.2, .inr ⟨hs q c.1, fun z => ?_⟩⟩
    rcases hg' with w | w
    · exact c.2.2.2.2 (z.trans w)
    · rw [z, w] at hq; cases hq
theorem bk_end (e : Same H H3) (hG : Same Gz H) (hS : ∀ q, S0 q → Gz q = none ∧ muc H q) (C : BkC K H3 S0 p pb pd pg b) (C' : BkC K H4 S' p pb pd pg' b') (h4 : ∀ q o, H3 q = some o → q ≠ p → q ≠ pb → q ≠ pd → q ≠ pg → H4 q = some o) (hg4 : muc H4 pg)
    (hs : ∀ q, S' q → S0 q ∨ (H q = none ∧ muc H4 q)) : Nx S0 Gz H (tupF Gz H4) H4 ∧ Tr.tr K H4 S' (.ref p) b' ∧ ∀ q, S' q → (S0 q ∨ H q = none) ∧ tupF Gz H4 q = none ∧ muc H4 q := by
  have key : ∀ q, S0 q → muc H4 q := fun q z => by
    by_cases c1 : q = p
    · obtain ⟨dx, h⟩ := C'.hp
      rw [c1]; exact ⟨_, h, rfl⟩
    by_cases c2 : q = pb
    · obtain ⟨_, h, _⟩ := C'.hb
      rw [c2]; exact ⟨_, h, rfl⟩
    by_cases c3 : q = pd
    · obtain ⟨_, h, _⟩ := C'.hd
      rw [c3]; exact ⟨_, h, rfl⟩
    by_cases c4 : q = pg
    · rw [c4]; exact hg4
    obtain ⟨o, a1, a2⟩ := (hS q z).2
    exact ⟨o, h4 q o (e q o a1) c1 c2 c3 c4, a2⟩
  have n : Nx S0 Gz H (tupF Gz H4) H4 := nx_bk hG (fun q o ns h => h4 q o (e q o h) (fun z => ns (z ▸ C.s.1)) (fun z => ns (z ▸ C.s.2.1)) (fun z => ns (z ▸ C.s.2.2.1)) (fun z => ns (z ▸ C.s.2.2.2))) fun q z => ⟨(hS q z).1, (hS q z).2, key q z⟩
  refine ⟨n, ⟨p, pb, pd, pg', rfl, C'⟩, fun q z => ?_⟩
  rcases hs q z with w | ⟨w, m⟩
  · exact ⟨.inl w, tupF_none (muc_tb (key q w)) (hS q w).1, key q w⟩
  · exact ⟨.inr w, tupF_none (muc_tb m) (Same.free hG w), m⟩
end
noncomputable def popLast {α : Type} (l : List α) : R (α × List α) := match l.getLast? with
  | some a => .ok (a, l.dropLast)
  | none => .bad
noncomputable def m_bk_undo (b : Bk) : R (Unit × Bk) := R.bd (.ok (decide ((b.deeds.length : Int) = 0))) fun c => if c = true then .er (.own .NoDeed) else
  R.bd (popLast b.deeds) fun d => R.bd (popLast b.boards) fun l => gd (b.gone.length < lim) (.ok ((), ⟨l.2, d.2, b.gone ++ [(d.1, l.1)]⟩))
noncomputable def m_bk_redo (b : Bk) : R (Unit × Bk) := R.bd (.ok (decide ((b.gone.length : Int) = 0))) fun c => if c = true then .er (.own .NoDeed) else
  R.bd (popLast b.gone) fun t => gd (b.deeds.length < lim ∧ b.boards.length < lim) (.ok ((), ⟨b.boards ++ [t.1.2], b.deeds ++ [t.1.1], t.2⟩))
/-- where it is refused alone -/
noncomputable def m_bk_undoN (b : Bk) : R Unit := R.bd (.ok (decide ((b.deeds.length : Int) = 0))) fun c => if c = true then .er (.own .NoDeed) else .bad
noncomputable def m_bk_redoN (b : Bk) : R Unit := R.bd (.ok (decide ((b.gone.length : Int) = 0))) fun c => if c = true then .er (.own .NoDeed) else .bad
/-- a deed done: raw -/
def spDone (K : PySem.W.Frag) : Sp := fun vs H Q E => ∃ p dx pb pd pg vb vd xd xm, vs = [.ref p, xd, xm] ∧ H p = some (.ins (bC K) dx (bf pb pd pg)) ∧ H pb = some (.lst vb) ∧ H pd = some (.lst vd) ∧ pb ≠ pd ∧ vb.length < lim ∧ vd.length < lim ∧
  ∀ l, H l = none → Q .non (upd (upd (upd (upd H pd (.lst (vd ++ [xd]))) pb (.lst (vb ++ [xm]))) l (.lst [])) p (.ins (bC K) dx (bf pb pd l)))
noncomputable def m_bk_done (b : Bk) (d : T3 Str Int Int) (l : List Int) : R Bk := gd (b.deeds.length < lim ∧ b.boards.length < lim) (.ok ⟨b.boards ++ [l], b.deeds ++ [d], []⟩)
noncomputable def m_bk_sow (f : List Int → Int → R (List Int × Int)) (b : Bk) (pit : Int) : R (Int × Bk) := R.bd (R.bd (idx b.boards (-1)) fun B => f B pit) fun z =>
  R.bd (R.bd (R.bd (idx b.boards (-1)) fun B => idx B pit) fun x => .ok (T3.mk ("sow" : Str) pit x)) fun d => R.bd (m_bk_done b d z.1) fun c => .ok (z.2, c)
noncomputable def m_bk_back (f : List Int → Int → R (List Int × Int)) (b : Bk) (pit : Int) : R (Int × Bk) := R.bd (R.bd (idx b.boards (-1)) fun B => f B pit) fun z =>
  R.bd (R.bd (R.bd (idx z.1 z.2) fun x => .ok (0 - x)) fun x => .ok (T3.mk ("back" : Str) pit x)) fun d => R.bd (m_bk_done b d z.1) fun c => .ok (z.2, c)
section
variable {K : PySem.W.Frag} {Gz H H3 H5 F' : Hp} {S0 : Addr → Prop} {p pb pd pg l dx : Addr} {b : Bk} {vb vd : List V} {xd xm : V} {d : T3 Str Int Int} {B : List Int}
/-- what is new stands among the inner things -/
theorem inn_new {S' : Addr → Prop} (n : Nx0 nil0 H F' H3) (C : BkC K H3 S0 p pb pd pg b) (hn : ∀ q, (q = p ∨ q = pb ∨ q = pd ∨ q = pg) → H q ≠ none) (hs : ∀ q o, H q = none → H3 q = some o → tupB (some o) = false → S' q) : Same F' (inn H3 S' p pb pd pg) := fun q o h => by
  have h3 := n.fh q o h
  refine inn_of h3 ?_
  cases t : tupB (some o) with
  | true => exact .inl rfl
  | false =>
    have hq : H q = none := by
      cases z : H q with
      | none => rfl
      | some u =>
        exfalso
        have := n.hh q u (fun z => z) z
        rw [h3] at this
        cases this
        have := n.own q o t z rfl
        rw [h] at this
        cases this
    exact .inr ⟨hs q o hq h3 t, fun z => hn q (.inl z) hq, fun z => hn q (.inr (.inl z)) hq, fun z => hn q (.inr (.inr (.inl z))) hq, fun z => hn q (.inr (.inr (.inr z))) hq⟩
/-- behind done_now: H3 with the deed and the board done -/
theorem bk_done (e : Same H H3) (hG : Same Gz H) (hS : ∀ q, S0 q → Gz q = none ∧ muc H q) (C : BkC K H3 S0 p pb pd pg b) (hp : H3 p = some (.ins (bC K) dx (bf pb pd pg))) (hb : H3 pb = some (.lst vb)) (hd : H3 pd = some (.lst vd)) (hl : H3 l = none)
    (rd : Rp.rep K (inn H3 (fun q => S0 q ∨ (H q = none ∧ muc H3 q)) p pb pd pg) xd d) (rb : Rp.rep K (inn H3 (fun q => S0 q ∨ (H q = none ∧ muc H3 q)) p pb pd pg) xm B)
    (h5 : upd (upd (upd (upd H3 pd (.lst (vd ++ [xd]))) pb (.lst (vb ++ [xm]))) l (.lst [])) p (.ins (bC K) dx (bf pb pd l)) = H5) :
    ∃ F' S', Nx S0 Gz H F' H5 ∧ Tr.tr K H5 S' (.ref p) (⟨b.boards ++ [B], b.deeds ++ [d], []⟩ : Bk) ∧ ∀ q, S' q → (S0 q ∨ H q = none) ∧ F' q = none ∧ muc H5 q := by
  obtain ⟨q1, q2, q3⟩ := C.np
  obtain ⟨n1, n2, n3⟩ := C.n
  obtain ⟨vg, hg, rg⟩ := C.hg
  have l1 : l ≠ p := fun z => by rw [z, hp] at hl; cases hl
  have l2 : l ≠ pb := fun z => by rw [z, hb] at hl; cases hl
  have l3 : l ≠ pd := fun z => by rw [z, hd] at hl; cases hl
  have l4 : l ≠ pg := fun z => by rw [z, hg] at hl; cases hl
  have h4 : ∀ q o, H3 q = some o → q ≠ p → q ≠ pb → q ≠ pd → q ≠ pg → H5 q = some o := fun q o h b0 b1 b2 b3 => by
    have : q ≠ l := fun z => by rw [z, hl] at h; cases h
    rw [← h5, upd_ne b0, upd_ne this, upd_ne b1, upd_ne b2]
    exact h
  have gl : H5 l = some (.lst []) := by rw [← h5, upd_ne l1]; exact upd_same
  have gg : H5 pg = some (.lst vg) := by rw [← h5, upd_ne q3.symm, upd_ne l4.symm, upd_ne n2.symm, upd_ne n3.symm]; exact hg
  have gp : H5 p = some (.ins (bC K) dx (bf pb pd l)) := by rw [← h5]; exact upd_same
  have gb : H5 pb = some (.lst (vb ++ [xm])) := by rw [← h5, upd_ne q1.symm, upd_ne l2.symm]; exact upd_same
  have gd_ : H5 pd = some (.lst (vd ++ [xd])) := by rw [← h5, upd_ne q2.symm, upd_ne l3.symm, upd_ne n1.symm]; exact upd_same
  have si := bk_inn (S' := fun q => S0 q ∨ (H q = none ∧ muc H5 q)) (pg' := l) C h4 (fun _ z => .inl z) (.inr hl)
  have muc5 : ∀ q, muc H3 q → q ≠ p → q ≠ pb → q ≠ pd → q ≠ pg → muc H5 q := fun q ⟨o, a, t⟩ c0 c1 c2 c3 => ⟨o, h4 q o a c0 c1 c2 c3, t⟩
  have sn : Same (inn H3 (fun q => S0 q ∨ (H q = none ∧ muc H3 q)) p pb pd pg) (inn H5 (fun q => S0 q ∨ (H q = none ∧ muc H5 q)) p pb pd l) := inn_to fun q o hq c => by
    rcases c with c | c
    · refine ⟨h4 q o hq (fun z => ?_) (fun z => ?_) (fun z => ?_) (fun z => ?_), .inl c⟩
      · rw [z, hp] at hq; cases hq; cases c
      · rw [z, hb] at hq; cases hq; cases c
      · rw [z, hd] at hq; cases hq; cases c
      · rw [z, hg] at hq; cases hq; cases c
    · refine ⟨h4 q o hq c.2.1 c.2.2.1 c.2.2.2.1 c.2.2.2.2, .inr ⟨c.1.imp id fun w => ⟨w.1, muc5 q w.2 c.2.1 c.2.2.1 c.2.2.2.1 c.2.2.2.2⟩, fun z => ?_⟩⟩
      rw [z, hl] at hq; cases hq
  have C5 : BkC K H5 (fun q => S0 q ∨ (H q = none ∧ muc H5 q)) p pb pd l ⟨b.boards ++ [B], b.deeds ++ [d], []⟩ := by
    obtain ⟨vb2, hb2, rb2⟩ := C.hb
    obtain ⟨vd2, hd2, rd2⟩ := C.hd
    rw [hb] at hb2
    rw [hd] at hd2
    cases hb2
    cases hd2
    exact ⟨⟨dx, gp⟩, ⟨_, gb, (rb2.mono fun _ _ r => Rp.mono si r).append (.cons (Rp.mono sn rb) .nil)⟩, ⟨_, gd_, (rd2.mono fun _ _ r => Rp.mono si r).append (.cons (Rp.mono sn rd) .nil)⟩, ⟨_, gl, .nil⟩, ⟨.inl C.s.1, .inl C.s.2.1, .inl C.s.2.2.1, .inr ⟨Same.free e hl, _, gl, rfl⟩⟩, n1, l2.symm, l3.symm⟩
  obtain ⟨nn, tr, hs⟩ := bk_end e hG hS C C5 h4 ⟨_, gg, rfl⟩ fun q z => z
  exact ⟨_, _, nn, tr, hs⟩
end
theorem tcons_gr {α : Type} [Rp α] {K : PySem.W.Frag} {E : XK} {σ : L2.St} {F H0 H : Hp} {te : TE} {ts : TA} {m : R α} {kk : α → Prop} {Q : List V → Hp → Prop} (h : Gr K E te σ F H m) (e0 : Same H0 H) (hQ : Wp m kk (EE K E H0)) (c : ∀ a v H2, Same H H2 → Rp.rep K (mix F H H2) v a → kk a → ts σ H2 fun xs H3 => Q (v :: xs) H3) : tCons te ts σ H Q :=
  h H (Same.refl _) _ (wp_mono hQ (fun a _ k v H2 e2 r => c a v H2 e2 r k) fun c _ z => z.mono e0)
noncomputable def m_bk_init (f : List Int → R Unit) (board : List Int) : R Bk := R.bd (f board) fun _ => .ok ⟨[board], [], []⟩
theorem bf_two {pb pd : Addr} : putF "deeds" (.ref pd) (putF "boards" (.ref pb) []) = ([(("boards" : Str), V.ref pb), (("deeds" : Str), V.ref pd)] : List (Str × V)) := by
  show (if ("boards" : Str) = "deeds" then _ else (("boards" : Str), V.ref pb) :: [(("deeds" : Str), V.ref pd)]) = _
  rw [if_neg nBD]
/-- o.f = [e] -/
theorem s_fldL1 {α : Type} [Rp α] {K : PySem.W.Frag} {E : XK} {σ : L2.St} {F H0 H : Hp} {ta te : TE} {f : Str} {D : Ends} {m : R α} {kk : α → Prop} (h : Gr K E te σ F H m) (e0 : Same H0 H) (hQ : Wp m kk (EE K E H0))
    (c : ∀ a v H2, Same H H2 → Rp.rep K (mix F H H2) v a → kk a → ∀ q, H2 q = none → ta σ (upd H2 q (.lst [v])) fun x H3 => ∃ a C dx fs, x = .ref a ∧ H3 a = some (.ins C dx fs) ∧ Cls K C ∧ NoAttr K C f ∧ fs.length < 1000 ∧ D.nx σ (upd H3 a (.ins C dx (putF f (.ref q) fs)))) : sFld K ta (tLst (tCons te tNil)) f D σ H :=
  h H (Same.refl _) _ (wp_mono hQ (fun a _ k v H2 e2 r => ⟨by show 1 ≤ sizeLine; decide, fun q hq => c a v H2 e2 r k q hq⟩) fun c _ z => z.mono e0)
theorem Nx.bk {P : Addr → Prop} {F H F' H' : Hp} (n : Nx P F H F' H') {q : Addr} (h : H' q = none) : H q = none := by
  cases z : H q with
  | none => rfl
  | some u =>
    obtain ⟨o, w, _⟩ := n.th q u z
    rw [h] at w
    cases w
theorem bk_apart {τ : Type} [Rp τ] [Cel τ] {K : PySem.W.Frag} {H0 F H H' : Hp} {b : Bool} {a : Addr} {x : τ} {SS SS' : Addr → Prop} (o : Own K H0 b F H a x) (d : ¬ SS a) (hs : ∀ q, SS' q → (SS q ∨ H q = none) ∧ H' q ≠ none) : ¬ SS' a := fun z => (hs a z).1.elim d fun y => by
  obtain ⟨u, hu⟩ := o.there
  rw [hu] at y
  cases y
/-- xs.append(ys.pop()), both ours -/
theorem s_appPop {α β : Type} [Rp α] [Rp β] {K : PySem.W.Frag} {E : XK} {σ : L2.St} {H0 F H : Hp} {b : Bool} {D : Ends} {i j : Nat} {p q : Addr} {xs ys : List α} {k : List α × List α → R β} {kk : β → Prop} (hi : σ[i]? = some (some (.ref p))) (hj : σ[j]? = some (some (.ref q))) (o : Own K H0 b F H p xs) (o2 : Own K H0 b F H q ys) (ne : p ≠ q) (hF : Same F H) (e0 : Same H0 H)
    (hQ : Wp (R.bd (R.bd (lastR ys) fun z => R.bd (appR xs z.1) fun l => .ok (l, z.2)) k) kk (EE K E H0))
    (c : ∀ xs' ys' F1 H1 F' H', Nx (fun z => z = q) F H F1 H1 → Same H0 H1 → Own K H0 b F1 H1 q ys' → Nx (fun z => z = p) F1 H1 F' H' → Same H0 H' → Own K H0 b F' H' p xs' → Wp (k (xs', ys')) kk (EE K E H0) → D.nx σ H') : tDrop (tBM K "list" rAppend (tVar i) (tCons (tBM0 K "list" rPop (tVar j)) tNil)) D σ H := by
  obtain ⟨h0, f, vs, hp, r⟩ := o.lst
  obtain ⟨h02, f2, ws, hq, r2⟩ := o2.lst
  refine ⟨_, hi, .inl ⟨rfl, _, SqL.of hp⟩, ?_⟩
  refine ⟨_, hj, .inl ⟨rfl, _, SqL.of hq⟩, ?_⟩
  unfold lastR at hQ
  cases z : ys.getLast? with
  | none => rw [z] at hQ; exact hQ.elim
  | some a =>
    rw [z] at hQ
    obtain ⟨y, hy, ry⟩ := all2_last r2 z
    refine ⟨q, ws, y, rfl, rfl, hq, hy, ?_⟩
    have n1 := nx_upd (o' := .lst ws.dropLast) hF (Same.refl H) hq f2
    have e1 := e0_upd (o' := .lst ws.dropLast) e0 (Same.refl _) h02
    have hp1 : upd H q (.lst ws.dropLast) p = some (.lst vs) := by rw [upd_ne ne]; exact hp
    have hQ : Wp (R.bd (R.bd (appR xs a) fun l => .ok (l, ys.dropLast)) k) kk (EE K E H0) := hQ
    unfold appR gd at hQ
    split at hQ
    · rename_i cl
      refine ⟨p, vs, y, rfl, rfl, hp1, lim_line' (by rw [r.length]; exact cl), ?_⟩
      have o1 := o.nx n1 ne
      have f1 : mix F H H p = none := by rw [mix_old hp]; exact f
      have n2 := nx_upd (o' := .lst (vs ++ [y])) n1.fh (Same.refl _) hp1 f1
      exact c _ _ _ _ _ _ n1 e1 (Own.of h02 (by rw [mix_old hq]; exact f2) upd_same (r2.mono fun _ _ x => Rp.mono (bs_ff n1.ff) x).dropLast) n2 (e0_upd e1 (Same.refl _) h0) (Own.of h0 (by rw [mix_old hp1]; exact f1) upd_same ((r.mono fun _ _ x => Rp.mono (bs_ff (n1.ff.trans n2.ff)) x).append (.cons (Rp.mono (bs_ff (n1.ff.trans n2.ff)) ry) .nil))) hQ
    · exact hQ.elim
theorem apo_bk {α : Type} [Rp α] [Tr α] {K : PySem.W.Frag} {F H : Hp} {S0 : Addr → Prop} {v : V} {a : α} (r : Tr.tr K H S0 v a) (h : ∀ b, S0 b → F b = none ∧ muc H b) : ApO K (delS S0 H) F H S0 v a := by
  obtain ⟨S, t, q⟩ := (apo_in r h).ex
  refine ⟨S, t, fun b z => ⟨(q b z).1.elim id fun w => ?_, (q b z).2⟩⟩
  obtain ⟨o, h1, _⟩ := (q b z).2.2.2
  rw [w] at h1
  cases h1
/-- return f(book, ..), where it is changed -/
theorem s_retMe {α S β : Type} [Rp α] {K : PySem.W.Frag} {E : XK} {σ : L2.St} {H0 F H : Hp} {te : TE} {D : Ends} {P : Addr → Prop} {J : Hp → Hp → S → Prop} {m : R (α × S)} {k : α × S → R β} {kk : β → Prop} (he : GrM K E te σ H0 F H P J m) (hQ : Wp (R.bd m k) kk (EE K E H0))
    (c : ∀ a s v F' H', Nx P F H F' H' → Same H0 H' → J F' H' s → Rp.rep K F' v a → Wp (k (a, s)) kk (EE K E H0) → D.rt v H') : tRet te D σ H :=
  he _ (by rw [wp_bd] at hQ; exact wp_mono hQ (fun z _ q v F' H' n e j r => c z.1 z.2 v F' H' n e j r q) fun c _ z => z)
theorem lin_id {S : Addr → Prop} {H : Hp} (q : Addr) (z : S q) : S q ∨ H q = none := .inl z
/-! ### lists of things of several kinds, told anew -/
section
variable {K : PySem.W.Frag} {E : XK} {σ : L2.St} {H0 F H : Hp} {te ta tb tc to : TE} {α β γ ρ : Type} [Rp α] [Rp β] [Rp γ] [Rp ρ] [Tr α] [Tr β] [Tr γ] {D : Ends} {SS : Addr → Prop} {v : V} {a : α}
theorem gx_dy [DyN α] [TrD α] {m : R α} (h : GrX K E te σ H m) : GrX K E te σ H (R.bd m fun a => .ok (DyN.dy a)) := fun H1 e Q hq =>
  h H1 e Q (by
    rw [wp_bd] at hq
    exact wp_mono hq (fun a _ k v H2 e2 ⟨S, r, n⟩ => k v H2 e2 ⟨S, TrD.to r, n⟩) fun _ _ z => z)
theorem gx_lst3 {ma mb mc : R α} (ha : GrX K E ta σ H ma) (hb : ∀ H2, Same H H2 → GrX K E tb σ H2 mb) (hc : ∀ H2, Same H H2 → GrX K E tc σ H2 mc) : GrX K E (tLst (tCons ta (tCons tb (tCons tc tNil)))) σ H (R.bd ma fun a => R.bd mb fun b => R.bd mc fun c => .ok [a, b, c]) := fun H1 e Q hq =>
  ha H1 e _ (by
    rw [wp_bd] at hq
    refine wp_mono hq (fun a _ k v H2 e2 ⟨S, r, n⟩ => ?_) fun _ _ z => z
    refine hb H2 (e.trans e2) H2 (Same.refl _) _ ?_
    rw [wp_bd] at k
    refine wp_mono k (fun b _ k w H3 e3 ⟨S2, r3, n3⟩ => ?_) fun _ _ z => z.mono e2
    refine hc H3 (e.trans (e2.trans e3)) H3 (Same.refl _) _ ?_
    rw [wp_bd] at k
    refine wp_mono k (fun c _ k x H4 e4 ⟨S3, r4, n4⟩ => ?_) fun _ _ z => z.mono (e2.trans e3)
    refine ⟨by show 3 ≤ sizeLine; decide, fun p hp => k _ _ (e2.trans (e3.trans (e4.trans (same_upd hp)))) ⟨fun b => (S b ∨ S2 b ∨ S3 b) ∨ b = p, ⟨p, [v, w, x], fun b => S b ∨ S2 b ∨ S3 b, rfl, upd_same, .inr rfl, fun b z => ⟨.inl z, ?_⟩, .cons (S1 := S) (S2 := fun b => S2 b ∨ S3 b) (fun b z => ⟨.inl z, fun y => y.elim (fun y => muc_some (n b z).2 (n3 b y).1) fun y => muc_some (muc_mono e3 (n b z).2) (n4 b y).1⟩) (fun _ z => .inr z) (Tr.mono (Agr.same (e3.trans (e4.trans (same_upd hp)))) r) (.cons (S1 := S2) (S2 := S3) (fun b z => ⟨.inl z, fun y => muc_some (n3 b z).2 (n4 b y).1⟩) (fun _ z => .inr z) (Tr.mono (Agr.same (e4.trans (same_upd hp))) r3) (.cons (S1 := S3) (S2 := fun _ => False) (fun b z => ⟨z, fun w => w⟩) (fun _ z => z.elim) (Tr.mono (Agr.same (same_upd hp)) r4) .nil))⟩, fun b z => ?_⟩⟩
    · intro y
      rw [y] at z
      rcases z with z | z | z
      · exact muc_some (muc_mono (e3.trans e4) (n p z).2) hp
      · exact muc_some (muc_mono e4 (n3 p z).2) hp
      · exact muc_some (n4 p z).2 hp
    · rcases z with (z | z | z) | z
      · exact ⟨(n b z).1, muc_mono (e3.trans (e4.trans (same_upd hp))) (n b z).2⟩
      · exact ⟨Same.free (e.trans e2) (n3 b z).1, muc_mono (e4.trans (same_upd hp)) (n3 b z).2⟩
      · exact ⟨Same.free (e.trans (e2.trans e3)) (n4 b z).1, muc_mono (same_upd hp) (n4 b z).2⟩
      · rw [z]; exact ⟨Same.free (e.trans (e2.trans (e3.trans e4))) hp, _, upd_same, rfl⟩)
theorem sub_un [DyN γ] [TrD γ] {d : Dy} {x : γ} {put : Dy → α} (s : Sub K to σ H v a d put) (h : DyN.un d = some x) : Sub K to σ H v a x (fun y => put (DyN.dy y)) := fun S r => by
  obtain ⟨w, S1, h1, h2, h3, h4⟩ := s S r
  exact ⟨w, S1, h1, TrD.of h2 h, h3, fun H' b' ag rb => h4 H' _ ag (TrD.to rb)⟩
theorem s_asgX {i : Nat} {m : R α} {k : α → R ρ} {kk : ρ → Prop} (he : GrX K E te σ H m) (hF : Same F H) (e0 : Same H0 H) (hQ : Wp (R.bd m k) kk (EE K E H0))
    (c : ∀ a v F' H' SS, Nx0 F H F' H' → Same H0 H' → ApO K H0 F' H' SS v a → (∀ q, SS q → H q = none) → (∀ q, SS q → H' q ≠ none) → Wp (k a) kk (EE K E H0) → D.nx (σ.set i (some v)) H') : tAsg te (gName i) D σ H :=
  s_asgAp (gx_apt he) hF e0 (by cases m <;> exact hQ) c
end
/-! ### tests that change a book -/
section
variable {K : PySem.W.Frag} {E : XK} {σ : L2.St} {H0 F H : Hp} {te : TE} {ρ S : Type} [Rp ρ] {D : Ends} {P : Addr → Prop} {J : Hp → Hp → S → Prop} {tu tw : TS}
theorem rne_int {a c : Int} {Q : VK} (h : Q (.bl (!decide (a = c))) H) : rNe (.int a) (.int c) H Q := by
  refine ⟨Sc.sc a c, ?_⟩
  rw [show decide (V.int a = V.int c) = decide (a = c) from decide_eq_decide.mpr ⟨fun z => by injection z, fun z => by rw [z]⟩]
  exact h
theorem gm_notNU {m : R (Unit × S)} (h : GrM K E te σ H0 F H P J m) : GrM K E (tNotN te) σ H0 F H P J (R.bd m fun z => .ok (false, z.2)) := fun Q hq =>
  h _ (by
    rw [wp_bd] at hq
    refine wp_mono hq (fun z _ k v F' H' n e j r => ?_) fun _ _ z => z
    obtain rfl : v = .non := r
    exact k _ F' H' n e j rfl)
theorem gm_neI {i : Nat} {c : Int} {m : R (Int × S)} (h : GrM K E te σ H0 F H P J m) (hi : σ[i]? = some (some (.int c))) : GrM K E (tOp rNe te (tVar i)) σ H0 F H P J (R.bd m fun z => .ok (!decide (z.1 = c), z.2)) := fun Q hq =>
  h _ (by
    rw [wp_bd] at hq
    refine wp_mono hq (fun z _ k v F' H' n e j r => ⟨_, hi, ?_⟩) fun _ _ z => z
    obtain rfl : v = .int z.1 := r
    exact rne_int (k _ F' H' n e j rfl))
theorem s_ifOrMT {u : TT} {m : R (Bool × S)} {k : Bool × S → R ρ} {kk : ρ → Prop} (he : GrM K E te σ H0 F H P J m) (hQ : Wp (R.bd m k) kk (EE K E H0))
    (h1 : ∀ s F' H', Nx P F H F' H' → Same H0 H' → J F' H' s → Wp (k (true, s)) kk (EE K E H0) → tu D σ H') (h2 : ∀ s F' H', Nx P F H F' H' → Same H0 H' → J F' H' s → Wp (k (false, s)) kk (EE K E H0) → tIfS u tu tw D σ H') : tIfS (tOr (tTest te) u) tu tw D σ H :=
  he _ (by
    rw [wp_bd] at hQ
    refine wp_mono hQ (fun z _ q v F' H' n e j r => ⟨z.1, r, ?_⟩) fun c _ z => z
    obtain ⟨b, s⟩ := z
    cases b with
    | true => exact h1 s F' H' n e j q
    | false => exact h2 s F' H' n e j q)
end
/-! ### own lists: clear, two pops at once, a pop unpacked, the length of one of two -/
section
variable {K : PySem.W.Frag} {E : XK} {σ : L2.St} {H0 F H : Hp} {α β ρ : Type} [Rp α] [Rp β] [Rp ρ] {b : Bool} {D : Ends} {ti : TE}
theorem s_clr {i : Nat} {p : Addr} {xs : List α} {k : List α → R ρ} {kk : ρ → Prop} (hi : σ[i]? = some (some (.ref p))) (o : Own K H0 b F H p xs) (hF : Same F H) (e0 : Same H0 H) (hQ : Wp (R.bd (.ok ([] : List α)) k) kk (EE K E H0))
    (c : ∀ xs' F' H', Nx (fun q => q = p) F H F' H' → Same H0 H' → Own K H0 b F' H' p xs' → Wp (k xs') kk (EE K E H0) → D.nx σ H') : tDrop (tBM0 K "list" rClear (tVar i)) D σ H := by
  obtain ⟨h0, f, vs, hp, r⟩ := o.lst
  refine ⟨_, hi, .inl ⟨rfl, _, SqL.of hp⟩, p, vs, rfl, rfl, hp, ?_⟩
  have n := nx_upd (o' := .lst []) hF (Same.refl H) hp f
  exact c [] _ _ n (e0_upd e0 (Same.refl _) h0) (Own.of h0 (by rw [mix_old hp]; exact f) upd_same .nil) hQ
/-- xs.append((ys.pop(), zs.pop())), all ours -/
theorem s_appPop2 {i j l : Nat} {p q r : Addr} {xs : List (α × β)} {ys : List α} {zs : List β} {k : List (α × β) × List α × List β → R ρ} {kk : ρ → Prop} (hi : σ[i]? = some (some (.ref p))) (hj : σ[j]? = some (some (.ref q))) (hl : σ[l]? = some (some (.ref r))) (o : Own K H0 false F H p xs) (o2 : Own K H0 false F H q ys) (o3 : Own K H0 false F H r zs) (pq : p ≠ q) (pr : p ≠ r) (qr : q ≠ r) (hF : Same F H) (e0 : Same H0 H)
    (hQ : Wp (R.bd (R.bd (lastR ys) fun y => R.bd (lastR zs) fun z => R.bd (appR xs (y.1, z.1)) fun l => .ok (l, y.2, z.2)) k) kk (EE K E H0))
    (c : ∀ xs' ys' zs' F' H', Nx (fun z => z = p ∨ z = q ∨ z = r ∨ False) F H F' H' → Same H0 H' → Own K H0 false F' H' p xs' → Own K H0 false F' H' q ys' → Own K H0 false F' H' r zs' → Wp (k (xs', ys', zs')) kk (EE K E H0) → D.nx σ H') :
    tDrop (tBM K "list" rAppend (tVar i) (tCons (tTup (tCons (tBM0 K "list" rPop (tVar j)) (tCons (tBM0 K "list" rPop (tVar l)) tNil))) tNil)) D σ H := by
  obtain ⟨h0, f, vs, hp, rp⟩ := o.lst
  obtain ⟨h02, f2, ws, hq, rq⟩ := o2.lst
  obtain ⟨h03, f3, us, hr, rr⟩ := o3.lst
  refine ⟨_, hi, .inl ⟨rfl, _, SqL.of hp⟩, ?_⟩
  refine ⟨_, hj, .inl ⟨rfl, _, SqL.of hq⟩, ?_⟩
  unfold lastR at hQ
  cases zy : ys.getLast? with
  | none => rw [zy] at hQ; exact hQ.elim
  | some a =>
    rw [zy] at hQ
    cases zz : zs.getLast? with
    | none => rw [zz] at hQ; exact hQ.elim
    | some d =>
      rw [zz] at hQ
      obtain ⟨y, hy, ry⟩ := all2_last rq zy
      obtain ⟨x, hx, rx⟩ := all2_last rr zz
      have hQ : Wp (R.bd (R.bd (appR xs (a, d)) fun l => .ok (l, ys.dropLast, zs.dropLast)) k) kk (EE K E H0) := hQ
      unfold appR gd at hQ
      split at hQ
      · rename_i cl
        refine ⟨q, ws, y, rfl, rfl, hq, hy, ?_⟩
        generalize hH1 : upd H q (.lst ws.dropLast) = H1
        have n1 := nx_upd (o' := .lst ws.dropLast) hF (Same.refl H) hq f2
        rw [hH1] at n1
        have e1 := e0_upd (o' := .lst ws.dropLast) e0 (Same.refl _) h02
        rw [hH1] at e1
        have o1p := o.nx n1 pq
        have o1r := o3.nx n1 qr.symm
        have o1q : Own K H0 false _ H1 q ys.dropLast := Own.of (F := mix F H H) h02 (by rw [mix_old hq]; exact f2) (by rw [← hH1]; exact upd_same) (rq.mono fun _ _ x => Rp.mono (bs_ff n1.ff) x).dropLast
        have hr1 : H1 r = some (.lst us) := by rw [← hH1, upd_ne qr.symm]; exact hr
        refine ⟨_, hl, .inl ⟨rfl, _, SqL.of hr1⟩, r, us, x, rfl, rfl, hr1, hx, ?_⟩
        generalize hH2 : upd H1 r (.lst us.dropLast) = H2
        have n2 := nx_upd (o' := .lst us.dropLast) n1.fh (Same.refl H1) hr1 o1r.f
        rw [hH2] at n2
        have e2 := e0_upd (o' := .lst us.dropLast) e1 (Same.refl _) h03
        rw [hH2] at e2
        have o2p := o1p.nx n2 pr
        have o2q := o1q.nx n2 qr
        have o2r : Own K H0 false _ H2 r zs.dropLast := Own.of (F := mix (mix F H H) H1 H1) h03 (by rw [mix_old hr1]; exact o1r.f) (by rw [← hH2]; exact upd_same) (rr.mono fun _ _ x => Rp.mono (bs_ff (n1.ff.trans n2.ff)) x).dropLast
        refine ⟨by show 2 ≤ sizeLine; decide, fun t ht => ?_⟩
        have e3 : Same H2 (upd H2 t (.tup [y, x])) := same_upd ht
        generalize hH3 : upd H2 t (.tup [y, x]) = H3
        rw [hH3] at e3
        have n3 := Nx.mk' n2.fh e3
        have o3p := o2p.nx0 n3
        have o3q := o2q.nx0 n3
        have o3r := o2r.nx0 n3
        have ht3 : mix (mix (mix F H H) H1 H1) H2 H3 t = some (.tup [y, x]) := by rw [mix_new ht, ← hH3]; exact upd_same
        have ff := n1.ff.trans (n2.ff.trans n3.ff)
        have rt : Rp.rep K (mix (mix (mix F H H) H1 H1) H2 H3) (.ref t) (a, d) := ⟨t, y, x, rfl, ht3, Rp.mono ff ry, Rp.mono ff rx⟩
        obtain ⟨_, f9, vs9, hp3, rp3⟩ := o3p.lst
        refine ⟨p, vs9, .ref t, rfl, rfl, hp3, lim_line' (by rw [rp3.length]; exact cl), ?_⟩
        have n4 := nx_upd (o' := .lst (vs9 ++ [.ref t])) n3.fh (Same.refl H3) hp3 f9
        have e4 := e0_upd (o' := .lst (vs9 ++ [.ref t])) (e2.trans e3) (Same.refl _) h0
        have nn : Nx (fun z => z = p ∨ z = q ∨ z = r ∨ False) F H _ _ := (((n1.wk fun z y => .inr (.inl y)).step n2 fun z y => .inl (.inr (.inr (.inl y)))).step n3 fun _ z => z.elim).step n4 fun z y => .inl (.inl y)
        exact c _ _ _ _ _ nn e4 (Own.of h0 (by rw [mix_old hp3]; exact f9) upd_same ((rp3.mono fun _ _ x => Rp.mono n4.ff x).append (.cons (Rp.mono n4.ff rt) .nil))) (o3q.nx n4 pq.symm) (o3r.nx n4 pr.symm) hQ
      · exact hQ.elim
/-- a, b = ys.pop() -/
theorem s_unpPop {i1 i2 j : Nat} {q : Addr} {ys : List (α × β)} {k : (α × β) × List (α × β) → R ρ} {kk : ρ → Prop} (hj : σ[j]? = some (some (.ref q))) (o : Own K H0 false F H q ys) (hF : Same F H) (e0 : Same H0 H)
    (hQ : Wp (R.bd (lastR ys) k) kk (EE K E H0))
    (c : ∀ a d v w ys' F' H', Nx (fun z => z = q) F H F' H' → Same H0 H' → Own K H0 false F' H' q ys' → Rp.rep K F' v a → Rp.rep K F' w d → Wp (k ((a, d), ys')) kk (EE K E H0) → D.nx ((σ.set i1 (some v)).set i2 (some w)) H') :
    tAsg (tBM0 K "list" rPop (tVar j)) (gTup K 2 (gCons (gName i1) (gCons (gName i2) gNil))) D σ H := by
  obtain ⟨h02, f2, ws, hq, rq⟩ := o.lst
  refine ⟨_, hj, .inl ⟨rfl, _, SqL.of hq⟩, ?_⟩
  unfold lastR at hQ
  cases zy : ys.getLast? with
  | none => rw [zy] at hQ; exact hQ.elim
  | some a =>
    rw [zy] at hQ
    obtain ⟨y, hy, ry⟩ := all2_last rq zy
    have n1 := nx_upd (o' := .lst ws.dropLast) hF (Same.refl H) hq f2
    have e1 := e0_upd (o' := .lst ws.dropLast) e0 (Same.refl _) h02
    obtain ⟨t, xa, xb, rfl, ht, ra, rb⟩ := ry
    have ht2 := n1.fh _ _ (n1.ff _ _ ht)
    exact ⟨q, ws, .ref t, rfl, rfl, hq, hy, t, _, rfl, SqT.of ht2, rfl, xa, _, rfl, xb, _, rfl, rfl, c a.1 a.2 xa xb _ _ _ n1 e1 (Own.of h02 (by rw [mix_old hq]; exact f2) upd_same (rq.mono fun _ _ x => Rp.mono (bs_ff n1.ff) x).dropLast) (Rp.mono n1.ff ra) (Rp.mono n1.ff rb) hQ⟩
/-- len([xs, ys][i]) -/
theorem g_lenIx2 {i j : Nat} {p q : Addr} {xs : List α} {ys : List β} {mi : R Int} (hi : σ[i]? = some (some (.ref p))) (hj : σ[j]? = some (some (.ref q))) (ox : Own K H0 b F H p xs) (oy : Own K H0 b F H q ys) (h : Gr K E ti σ F H mi) :
    Gr K E (tCB (rLen K) (tCons (tOp (rIxL K) (tLst (tCons (tVar i) (tCons (tVar j) tNil))) ti) tNil)) σ F H (R.bd mi fun n => idx [(xs.length : Int), (ys.length : Int)] n) := fun H1 e Q hq => by
  obtain ⟨_, _, vs, hp, rp⟩ := ox.lst
  obtain ⟨_, _, ws, hq', rq⟩ := oy.lst
  refine ⟨_, hi, _, hj, by show 2 ≤ sizeLine; decide, fun l hl => ?_⟩
  have eL := same_upd (o := .lst [V.ref p, V.ref q]) hl
  refine h _ (e.trans eL) _ ?_
  rw [wp_bd] at hq
  refine wp_mono hq (fun n _ k v H2 e2 rn => ?_) fun c _ z => z.mono eL
  obtain rfl : v = .int n := rn
  have hl2 := e2 l (.lst [V.ref p, V.ref q]) upd_same
  unfold idx at k
  cases z : atI [(xs.length : Int), (ys.length : Int)] n with
  | none => rw [z] at k; exact k.elim
  | some m =>
    rw [z] at k
    have e9 : Same H H2 := e.trans (eL.trans e2)
    have hpp := e9 _ _ hp
    have hqq := e9 _ _ hq'
    have fin : ∀ x us, H2 x = some (.lst us) → (us.length : Int) = m → atI [V.ref p, V.ref q] n = some (.ref x) → _ := fun x us hu hm hx =>
      (⟨l, _, n, .ref x, rfl, rfl, SqL.of hl2, hx, x, us, rfl, .inl (SqL.of hu), by rw [hm]; exact k _ H2 (eL.trans e2) rfl⟩ : rIxL K (.ref l) (.int n) H2 fun x H3 => tNil σ H3 fun vs H4 => rLen K (x :: vs) H4 Q)
    have hx : ∀ (A B : V) (a b : Int), (atI [a, b] n = some m) → ((atI [A, B] n = some A ∧ m = a) ∨ (atI [A, B] n = some B ∧ m = b)) := fun A B a b hh => by
      have hh : (ixN 2 n).bind (fun j => [a, b][j]?) = some m := hh
      show ((ixN 2 n).bind (fun j => [A, B][j]?) = some A ∧ m = a) ∨ ((ixN 2 n).bind (fun j => [A, B][j]?) = some B ∧ m = b)
      cases u : ixN 2 n with
      | none => rw [u] at hh; cases hh
      | some k =>
        rw [u] at hh
        match k with
        | 0 => exact .inl ⟨rfl, by injection hh with hh; exact hh.symm⟩
        | 1 => exact .inr ⟨rfl, by injection hh with hh; exact hh.symm⟩
        | k + 2 => simp at hh
    rcases hx (.ref p) (.ref q) _ _ z with ⟨h1, h2⟩ | ⟨h1, h2⟩
    · exact fin p vs hpp (by rw [rp.length, h2]) h1
    · exact fin q ws hqq (by rw [rq.length, h2]) h1
end
/-! ### changes of a book by which a refusal leaves all as it was -/
section
variable {K : PySem.W.Frag} {E : XK} {σ : L2.St} {Hb H0 F H : Hp} {te ta to : TE} {α β ρ S : Type} [Rp α] [Rp β] [Rp ρ] {D : Ends} {P SS : Addr → Prop} {J : Hp → Hp → S → Prop} {v : V} {b : Bk} {Ex : L2.St → XK} {nm : Str}
def GrM2 {α S : Type} [Rp α] (K : PySem.W.Frag) (E : XK) (te : TE) (σ : L2.St) (H0 F H : Hp) (P : Addr → Prop) (J : Hp → Hp → S → Prop) (m : R (α × S)) : Prop :=
  ∀ Q : VK, Wp m (fun z => ∀ v F' H', Nx P F H F' H' → Same H0 H' → J F' H' z.2 → Rp.rep K F' v z.1 → Q v H') (EE K E H) → te σ H Q
theorem gm2_dy [DyN α] {m : R (α × S)} (h : GrM2 K E te σ H0 F H P J m) : GrM2 K E te σ H0 F H P J (R.bd m fun z => .ok (DyN.dy z.1, z.2)) := fun Q hq =>
  h _ (by
    rw [wp_bd] at hq
    exact wp_mono hq (fun z _ k v F' H' n e j r => k v F' H' n e j (DyN.to r)) fun _ _ z => z)
theorem s_asgM2 {i : Nat} {m : R (α × S)} {k : α × S → R β} {kk : β → Prop} (he : GrM2 K E te σ H0 F H P J m) (eb : Same Hb H) (hQ : Wp (R.bd m k) kk (EE K E Hb))
    (c : ∀ a s v F' H', Nx P F H F' H' → Same H0 H' → J F' H' s → Rp.rep K F' v a → Wp (k (a, s)) kk (EE K E Hb) → D.nx (σ.set i (some v)) H') : tAsg te (gName i) D σ H :=
  he _ (by rw [wp_bd] at hQ; exact wp_mono hQ (fun z _ q v F' H' n e j r => c z.1 z.2 v F' H' n e j r q) fun c _ z => z.mono eb)
theorem s_retM2 {m : R (α × S)} {k : α × S → R β} {kk : β → Prop} (he : GrM2 K E te σ H0 F H P J m) (eb : Same Hb H) (hQ : Wp (R.bd m k) kk (EE K E Hb))
    (c : ∀ a s v F' H', Nx P F H F' H' → Same H0 H' → J F' H' s → Rp.rep K F' v a → Wp (k (a, s)) kk (EE K E Hb) → D.rt v H') : tRet te D σ H :=
  he _ (by rw [wp_bd] at hQ; exact wp_mono hQ (fun z _ q v F' H' n e j r => c z.1 z.2 v F' H' n e j r q) fun c _ z => z.mono eb)
theorem g_bk0s {f : Bk → R (ρ × Bk)} (A : ApO K H0 F H SS v b) (hv : AtV to σ H v) (hF : Same F H) (e0 : Same H0 H) (hE : Ex σ = E := by rfl) (h1 : ¬ nm = "boards" := by decide +kernel) (h2 : ¬ nm = "deeds" := by decide +kernel) (h3 : ¬ nm = "gone" := by decide +kernel) :
    GrM2 K E (tMeS (bC K) nm (spBk0 K f) Ex to tNil) σ H0 F H (fun q => (SS q ∧ tupB (H q) = false) ∨ False) (BkJ K H0 H SS v) (f b) := by
  subst hE
  intro Q hq
  refine hv H (Same.refl _) _ ?_
  obtain ⟨S, r, hS⟩ := A.ex
  obtain ⟨p, pb, pd, pg, rfl, c⟩ := id r
  obtain ⟨dx, hp⟩ := c.hp
  exact ⟨p, dx, _, rfl, hp, bf_no h1 h2 h3, .ref p, b, S, F, rfl, hF, r, fun q z => ⟨(hS q z).2.1, (hS q z).2.2.2⟩, wp_mono hq (fun z _ k v' F' H' S' n r' hS' rv => k v' F' H' (n.wk fun q z => .inl ⟨(hS q z).1, muc_tb (hS q z).2.2.2⟩) (n.e0 e0 fun q z => (hS q z).2.2.1) (bkj_of e0 hS r' hS') rv) fun c _ z => z⟩
theorem g_bk1s {f : Bk → α → R (ρ × Bk)} {ma : R α} (ha : Gr K E ta σ F H ma) (A : ApO K H0 F H SS v b) (hv : AtV to σ H v) (hF : Same F H) (e0 : Same H0 H) (hE : Ex σ = E := by rfl) (h1 : ¬ nm = "boards" := by decide +kernel) (h2 : ¬ nm = "deeds" := by decide +kernel) (h3 : ¬ nm = "gone" := by decide +kernel) :
    GrM2 K E (tMeS (bC K) nm (spBk1 K f) Ex to (tCons ta tNil)) σ H0 F H (fun q => (SS q ∧ tupB (H q) = false) ∨ False) (BkJ K H0 H SS v) (R.bd ma fun a => f b a) := by
  subst hE
  intro Q hq
  refine hv H (Same.refl _) _ ?_
  obtain ⟨S, r, hS⟩ := A.ex
  obtain ⟨p, pb, pd, pg, rfl, c⟩ := id r
  obtain ⟨dx, hp⟩ := c.hp
  refine ⟨p, dx, _, rfl, hp, bf_no h1 h2 h3, gm_arg ha (Same.refl _) (Same.refl _) hq fun a w H1 e1 ra hq => ?_⟩
  have n0 := Nx.mk' hF e1
  refine ⟨.ref p, w, b, a, S, mix F H H1, rfl, mix_same hF e1, Tr.mono (Agr.same e1) r, fun q z => ⟨?_, muc_mono e1 (hS q z).2.2.2⟩, ra, wp_mono hq (fun z _ k v' F' H' S' n r' hS' rv => k v' F' H' ((n0.tr n).wk fun q z => .inl ⟨(hS q z).1, muc_tb (hS q z).2.2.2⟩) (n.e0 (e0.trans e1) fun q z => (hS q z).2.2.1) (bkj_of e0 hS r' fun q z => ⟨(hS' q z).1.imp id fun w => Same.free e1 w, (hS' q z).2⟩) rv) fun c _ z => z.mono e1⟩
  obtain ⟨u, h4, h5⟩ := (hS q z).2.2.2
  rw [mix_old h4 h5]
  exact (hS q z).2.1
end
end G

set_option Elab.async false
set_option linter.all false
set_option maxRecDepth 100000
set_option maxHeartbeats 2000000
/-! G: plain words for the plain laws. -/
namespace G
open PySem PySem.Spec PyProof.Rows L2
theorem gd_dec {α : Type} {c : Prop} [Decidable c] {m : R α} : gd c m = if c then m else .bad := by
  by_cases h : c
  · rw [gd_pos h, if_pos h]
  · rw [if_neg h]; unfold gd; exact if_neg h
theorem ixN_ok {n : Nat} {i : Int} (h0 : 0 ≤ i) (h1 : i < n) : ixN n i = some i.toNat := by
  unfold ixN
  rw [if_pos h0, if_pos h1]
theorem atI_ok {α : Type} {xs : List α} {i : Int} (h0 : 0 ≤ i) (h1 : i < xs.length) : atI xs i = xs[i.toNat]? := by
  unfold atI
  rw [ixN_ok h0 h1]
  rfl
theorem idx_ok {α : Type} {xs : List α} {i : Int} {a : α} (h0 : 0 ≤ i) (h : xs[i.toNat]? = some a) : idx xs i = .ok a := by
  obtain ⟨h1, h2⟩ := List.getElem?_eq_some_iff.mp h
  unfold idx
  rw [atI_ok h0 (by omega), h]
theorem idx_at {α : Type} {xs : List α} {i : Int} (h0 : 0 ≤ i) (h1 : i < xs.length) : idx xs i = .ok (xs[i.toNat]'(by omega)) := idx_ok h0 (List.getElem?_eq_getElem _)
theorem idx_nat {α : Type} {xs : List α} {i : Nat} {a : α} (h : xs[i]? = some a) : idx xs (i : Int) = .ok a := idx_ok (by omega) (by simpa using h)
theorem idx_last {α : Type} {xs : List α} {a : α} (h : xs.getLast? = some a) : idx xs (-1) = .ok a := by
  cases xs with
  | nil => cases h
  | cons x l =>
    unfold idx atI ixN
    rw [if_neg (by omega), if_pos (by simp; omega)]
    have e : ((-1 : Int) + ((x :: l).length : Int)).toNat = (x :: l).length - 1 := by simp only [List.length_cons]; omega
    rw [e]
    rw [List.getLast?_eq_getElem?] at h
    show (match (some ((x :: l).length - 1)).bind (fun j => (x :: l)[j]?) with | some a => R.ok a | none => .bad) = _
    rw [Option.bind_some, h]
theorem setR_ok {α : Type} {xs : List α} {i : Int} {a : α} (h0 : 0 ≤ i) (h1 : i < xs.length) : setR xs i a = .ok (xs.set i.toNat a) := by
  unfold setR
  rw [ixN_ok h0 h1]
theorem setR_nat {α : Type} {xs : List α} {i : Nat} {a : α} (h1 : i < xs.length) : setR xs (i : Int) a = .ok (xs.set i a) := by
  rw [setR_ok (by omega) (by omega)]
  simp
theorem modR_ok {a b : Int} (h : 0 < b) : modR a b = .ok (a % b) := gd_pos h
theorem divR_ok {a b : Int} {w : Nat} (h : 0 < b) (hb : b < 2 ^ w) (h0 : 0 < w) (h9 : w ≤ 9000) : divR a b = .ok (a / b) := gd_pos (wide_div h (b := w) (by
  have : (b.natAbs : Int) = b := Int.natAbs_of_nonneg (by omega)
  have h2 : ((2 ^ w : Nat) : Int) = (2 : Int) ^ w := by simp
  omega) h0 h9)
theorem natAbs_lt {a : Int} {w : Nat} (h0 : 0 ≤ a) (h : a < 2 ^ w) : a.natAbs < 2 ^ w := by
  have h2 : ((2 ^ w : Nat) : Int) = (2 : Int) ^ w := by simp
  omega
theorem mulR_ok {a b : Int} {w v : Nat} (h0 : 0 ≤ a) (h1 : a < 2 ^ w) (h2 : 0 ≤ b) (h3 : b < 2 ^ v) (h4 : 0 < w) (h5 : 0 < v) (h6 : w + v ≤ 134000000) : mulR a b = .ok (a * b) := gd_pos (wide_mulV (natAbs_lt h0 h1) (natAbs_lt h2 h3) h4 h5 h6)
theorem cut_take {α : Type} {l : List α} {n : Int} (h0 : 0 ≤ n) (h1 : n ≤ l.length) : cut l none (some n) = l.take n.toNat := by
  obtain ⟨k, rfl⟩ : ∃ k : Nat, n = (k : Int) := ⟨n.toNat, by omega⟩
  unfold cut
  rw [HT.sIx_nat, HT.sIx_none, Nat.min_eq_left (by omega)]
  simp
theorem cut_drop {α : Type} {l : List α} {n : Int} (h0 : 0 ≤ n) (h1 : n ≤ l.length) : cut l (some n) none = l.drop n.toNat := by
  obtain ⟨k, rfl⟩ : ∃ k : Nat, n = (k : Int) := ⟨n.toNat, by omega⟩
  unfold cut
  rw [HT.sIx_nat, HT.sIx_none, Nat.min_eq_left (by omega)]
  rw [Int.toNat_natCast, List.take_of_length_le (by simp)]
theorem popR_ok {α : Type} {l : List α} (h : 0 < l.length) : popR l = .ok l.dropLast := by
  cases l with
  | nil => simp at h
  | cons x l => rfl
theorem appR_ok {α : Type} {xs : List α} {a : α} (h : xs.length < lim) : appR xs a = .ok (xs ++ [a]) := gd_pos h
theorem rng1_ok {n : Int} (h0 : 0 ≤ n) (h : n ≤ 1000000000) : rng1 n = .ok (rngL 0 n) := gd_pos ⟨by omega, by omega⟩
theorem rng2_ok {a b : Int} (h0 : 0 ≤ a) (h : a ≤ 1000000000) (h2 : 0 ≤ b) (h3 : b ≤ 1000000000) : rng2 a b = .ok (rngL a b) := gd_pos ⟨⟨by omega, by omega⟩, by omega, by omega⟩
theorem rng3D_ok {a b : Int} (h0 : 0 ≤ a) (h : a ≤ 1000000000) (h2 : 0 ≤ b) (h3 : b ≤ 1000000000) : rng3D a b = .ok (rngD a b) := gd_pos ⟨⟨by omega, by omega⟩, by omega, by omega⟩
theorem rngL_at {lo hi : Int} {i : Nat} {x : Int} (h : (rngL lo hi)[i]? = some x) : x = lo + i ∧ x < hi := by
  have h1 : i < (hi - lo).toNat := by
    have := (List.getElem?_eq_some_iff.mp h).1
    rw [rngL_len] at this
    exact this
  rw [rngL_get h1] at h
  cases h
  exact ⟨rfl, by omega⟩
theorem rngL_nil {lo hi : Int} (h : hi ≤ lo) : rngL lo hi = [] := by
  apply List.eq_nil_of_length_eq_zero
  rw [rngL_len]
  omega
theorem repR_ok {α : Type} {a : α} {k : Int} (h0 : 0 ≤ k) (h : k ≤ 10000000) : repR [a] k = .ok (List.replicate k.toNat a) := by
  unfold repR
  rw [gd_pos ⟨by omega, by omega, by unfold lim; simp; omega⟩]
  congr 1
  generalize k.toNat = n
  induction n with
  | zero => rfl
  | succ n ih => rw [List.replicate_succ, List.flatten_cons, ih]; rfl
theorem repR_neg {α : Type} {xs : List α} {k : Int} (h0 : k ≤ 0) (h : -10000000 ≤ k) : repR xs k = .ok [] := by
  unfold repR
  have : k.toNat = 0 := by omega
  rw [this, gd_pos ⟨by omega, by omega, by simp⟩]
  rfl
theorem catG {α : Type} {xs ys : List α} (h : xs.length + ys.length ≤ lim) : gd (xs.length + ys.length ≤ lim) (.ok (xs ++ ys)) = .ok (xs ++ ys) := gd_pos h
theorem forS_ok {α S : Type} {body : α → S → R S} (I : Nat → S → Prop) : ∀ (xs : List α) (n : Nat) (s : S), I n s → (∀ i x s, xs[i]? = some x → I (n + i) s → ∃ s', body x s = .ok s' ∧ I (n + i + 1) s') → ∃ s', forS body xs s = .ok s' ∧ I (n + xs.length) s'
  | [], n, s, h, _ => ⟨s, rfl, h⟩
  | x :: l, n, s, h, st => by
    obtain ⟨s1, e1, h1⟩ := st 0 x s rfl h
    obtain ⟨s2, e2, h2⟩ := forS_ok I l (n + 1) s1 h1 fun i y s hy hs => by
      have := st (i + 1) y s (by simpa using hy) (by rw [show n + (i + 1) = n + 1 + i by omega]; exact hs)
      rw [show n + (i + 1) + 1 = n + 1 + i + 1 by omega] at this
      exact this
    refine ⟨s2, ?_, by rw [List.length_cons, show n + (l.length + 1) = n + 1 + l.length by omega]; exact h2⟩
    show R.bd (body x s) (fun s' => forS body l s') = _
    rw [e1]
    exact e2
theorem forS_inv {α S : Type} {body : α → S → R S} {xs : List α} {s : S} (I : Nat → S → Prop) (h : I 0 s) (st : ∀ i x s, xs[i]? = some x → I i s → ∃ s', body x s = .ok s' ∧ I (i + 1) s') : ∃ s', forS body xs s = .ok s' ∧ I xs.length s' := by
  obtain ⟨s', e, q⟩ := forS_ok I xs 0 s h fun i x s hx hs => by
    rw [Nat.zero_add] at hs ⊢
    exact st i x s hx hs
  exact ⟨s', e, by rw [Nat.zero_add] at q; exact q⟩
theorem forR_ok {α S ρ : Type} {body : α → S → R (Fl S ρ)} (I : Nat → S → Prop) : ∀ (xs : List α) (n : Nat) (s : S), I n s → (∀ i x s, xs[i]? = some x → I (n + i) s → ∃ s', body x s = .ok (.go s') ∧ I (n + i + 1) s') → ∃ s', forR body xs s = .ok (.go s') ∧ I (n + xs.length) s'
  | [], n, s, h, _ => ⟨s, rfl, h⟩
  | x :: l, n, s, h, st => by
    obtain ⟨s1, e1, h1⟩ := st 0 x s rfl h
    obtain ⟨s2, e2, h2⟩ := forR_ok I l (n + 1) s1 h1 fun i y s hy hs => by
      have := st (i + 1) y s (by simpa using hy) (by rw [show n + (i + 1) = n + 1 + i by omega]; exact hs)
      rw [show n + (i + 1) + 1 = n + 1 + i + 1 by omega] at this
      exact this
    refine ⟨s2, ?_, by rw [List.length_cons, show n + (l.length + 1) = n + 1 + l.length by omega]; exact h2⟩
    unfold forR
    rw [e1]
    exact e2
theorem forR_inv {α S ρ : Type} {body : α → S → R (Fl S ρ)} {xs : List α} {s : S} (I : Nat → S → Prop) (h : I 0 s) (st : ∀ i x s, xs[i]? = some x → I i s → ∃ s', body x s = .ok (.go s') ∧ I (i + 1) s') : ∃ s', forR body xs s = .ok (.go s') ∧ I xs.length s' := by
  obtain ⟨s', e, q⟩ := forR_ok I xs 0 s h fun i x s hx hs => by
    rw [Nat.zero_add] at hs ⊢
    exact st i x s hx hs
  exact ⟨s', e, by rw [Nat.zero_add] at q; exact q⟩
/-- every turn goes on, nothing is carried -/
theorem forR_all {α ρ : Type} {body : α → Unit → R (Fl Unit ρ)} {xs : List α} (st : ∀ x ∈ xs, body x () = .ok (.go ())) : forR body xs () = .ok (.go ()) := by
  obtain ⟨s', e, _⟩ := forR_inv (body := body) (xs := xs) (s := ()) (fun _ _ => True) trivial fun i x s hx _ => ⟨(), st x (List.mem_of_getElem? hx), trivial⟩
  cases s'
  exact e
theorem compGo_ok {α β : Type} {f : α → R β} {g : α → β} : ∀ {xs : List α}, (∀ x ∈ xs, f x = .ok (g x)) → compGo (fun _ => .ok true) f xs = .ok (xs.map g)
  | [], _ => rfl
  | x :: l, h => by
    unfold compGo
    rw [h x (by simp)]
    show R.bd (compGo _ f l) _ = _
    rw [compGo_ok fun y hy => h y (by simp [hy])]
    rfl
theorem compR_ok {α β : Type} {f : α → R β} {g : α → β} {xs : List α} (hl : xs.length ≤ lim) (h : ∀ x ∈ xs, f x = .ok (g x)) : compR xs (fun _ => .ok true) f = .ok (xs.map g) := by
  unfold compR
  rw [gd_pos hl, compGo_ok h]
theorem minR_nn {xs : List Int} (h : xs ≠ []) (hp : ∀ x ∈ xs, 0 ≤ x) : ∃ m, minR xs = .ok m ∧ 0 ≤ m := by
  unfold minR
  cases e : xs.min? with
  | none => exact absurd (List.min?_eq_none_iff.mp e) h
  | some m => exact ⟨m, rfl, hp m (List.min?_eq_some_iff.mp e).1⟩
theorem sum_le {xs : List Int} {b : Int} (h : ∀ x ∈ xs, x ≤ b) : xs.sum ≤ xs.length * b := by
  induction xs with
  | nil => simp
  | cons x l ih =>
    rw [List.sum_cons, List.length_cons]
    have h1 := h x (by simp)
    have h2 := ih fun y hy => h y (by simp [hy])
    have : ((l.length + 1 : Nat) : Int) * b = l.length * b + b := by rw [Int.natCast_add, Int.add_mul]; simp
    omega
theorem sum_nn {xs : List Int} (h : ∀ x ∈ xs, 0 ≤ x) : 0 ≤ xs.sum := by
  induction xs with
  | nil => simp
  | cons x l ih =>
    rw [List.sum_cons]
    have h1 := h x (by simp)
    have h2 := ih fun y hy => h y (by simp [hy])
    omega
theorem emod2 {x p : Int} (h0 : 0 ≤ x) (h1 : x < 2 * p) : x % p = if x < p then x else x - p := by
  by_cases c : x < p
  · rw [if_pos c, Int.emod_eq_of_lt h0 c]
  · rw [if_neg c]
    have : x = (x - p) + p := by omega
    rw [this, Int.add_emod_right, Int.emod_eq_of_lt (by omega) (by omega)]
    omega
theorem ediv_eq {a b q r : Int} (h : a = b * q + r) (h0 : 0 ≤ r) (h1 : r < b) : a / b = q := by
  rw [h, Int.mul_add_ediv_left _ _ (by omega), Int.ediv_eq_zero_of_lt h0 h1]
  omega
/-! ### it ends, and .. -/
def Ok {α : Type} (m : R α) (P : α → Prop) : Prop := ∃ a, m = .ok a ∧ P a
section
variable {α β γ S ρ : Type} {m : R α} {f : α → R β} {P P' : α → Prop} {Q : β → Prop} {a : α} {b : β}
theorem ok_ret (h : P a) : Ok (.ok a) P := ⟨a, rfl, h⟩
theorem ok_bd (h : Ok m P) (k : ∀ a, P a → Ok (f a) Q) : Ok (R.bd m f) Q := by
  obtain ⟨a, rfl, ha⟩ := h
  exact k a ha
theorem ok_eq (e : m = .ok a) (h : Ok (f a) Q) : Ok (R.bd m f) Q := by rw [e]; exact h
theorem ok_st (h : Ok (f a) Q) : Ok (R.bd (.ok a) f) Q := h
theorem ok_of (e : m = .ok a) (h : P a) : Ok m P := ⟨a, e, h⟩
theorem ok_mono (h : Ok m P) (k : ∀ a, P a → P' a) : Ok m P' := let ⟨a, e, q⟩ := h; ⟨a, e, k a q⟩
theorem ok_is (h : Ok m fun x => x = a) : m = .ok a := by
  obtain ⟨x, e, rfl⟩ := h
  exact e
theorem ok_it {c : Bool} {X Y : R α} (h1 : c = true → Ok X P) (h2 : c = false → Ok Y P) : Ok (if c = true then X else Y) P := by
  cases c with
  | true => exact h1 rfl
  | false => exact h2 rfl
theorem ok_if {c : Prop} [Decidable c] {X Y : R α} (h1 : c → Ok X P) (h2 : ¬ c → Ok Y P) : Ok (if decide c = true then X else Y) P := by
  by_cases h : c
  · rw [if_pos (decide_eq_true h)]; exact h1 h
  · rw [if_neg (by rw [decide_eq_false h]; decide)]; exact h2 h
theorem ok_idx {xs : List α} {i : Int} (h0 : 0 ≤ i) (h1 : i < xs.length) (h : ∀ x, xs[i.toNat]? = some x → x ∈ xs → P x) : Ok (idx xs i) P := by
  have e : xs[i.toNat]? = some (xs[i.toNat]'(by omega)) := List.getElem?_eq_getElem _
  exact ⟨_, idx_ok h0 e, h _ e (List.mem_of_getElem? e)⟩
theorem ok_forS {body : α → S → R S} {xs : List α} {s : S} (I : Nat → S → Prop) (h : I 0 s) (st : ∀ i x s, xs[i]? = some x → I i s → Ok (body x s) (I (i + 1))) : Ok (forS body xs s) (I xs.length) := forS_inv I h st
/-- a loop that may tell -/
def FlP (P : S → Prop) (J : S → Prop) (Rr : ρ → Prop) : Fl S ρ → Prop
  | .go s => P s
  | .brk s => J s
  | .ret r => Rr r
theorem ok_forRn {body : α → S → R (Fl S ρ)} (I : Nat → S → Prop) (J : S → Prop) (Rr : ρ → Prop) : ∀ (xs : List α) (n : Nat) (s : S), I n s → (∀ i x s, xs[i]? = some x → I (n + i) s → Ok (body x s) (FlP (I (n + i + 1)) J Rr)) → Ok (forR body xs s) (FlP (fun s => I (n + xs.length) s ∨ J s) (fun _ => False) Rr)
  | [], n, s, h, _ => ⟨_, rfl, .inl h⟩
  | x :: l, n, s, h, st => by
    obtain ⟨f, e1, h1⟩ := st 0 x s rfl h
    unfold forR
    rw [e1, bd_ok]
    cases f with
    | go s1 =>
      have := ok_forRn I J Rr l (n + 1) s1 h1 fun i y s hy hs => by
        have := st (i + 1) y s (by simpa using hy) (by rw [show n + (i + 1) = n + 1 + i by omega]; exact hs)
        rw [show n + (i + 1) + 1 = n + 1 + i + 1 by omega] at this
        exact this
      rw [List.length_cons, show n + (l.length + 1) = n + 1 + l.length by omega]
      exact this
    | brk s1 => exact ⟨_, rfl, .inr h1⟩
    | ret r => exact ⟨_, rfl, h1⟩
theorem ok_forR {body : α → S → R (Fl S ρ)} {xs : List α} {s : S} (I : Nat → S → Prop) (J : S → Prop) (Rr : ρ → Prop) (h : I 0 s) (st : ∀ i x s, xs[i]? = some x → I i s → Ok (body x s) (FlP (I (i + 1)) J Rr)) : Ok (forR body xs s) (FlP (fun s => I xs.length s ∨ J s) (fun _ => False) Rr) := by
  have := ok_forRn I J Rr xs 0 s h fun i x s hx hs => by rw [Nat.zero_add] at hs ⊢; exact st i x s hx hs
  rw [Nat.zero_add] at this
  exact this
/-- all turns go on, nothing is carried -/
theorem ok_forA {body : α → Unit → R (Fl Unit ρ)} {xs : List α} {k : Fl Unit ρ → R β} (st : ∀ x ∈ xs, Ok (body x ()) (fun f => f = .go ())) (h : Ok (k (.go ())) Q) : Ok (R.bd (forR body xs ()) k) Q := by
  rw [forR_all fun x hx => ok_is (st x hx)]
  exact h
theorem ok_whileS {c : S → R Bool} {body : S → R S} (I : S → Prop) (μ : S → Nat) (Dn : S → Prop) : ∀ (n : Nat) (s : S), I s → μ s < n → (∀ s, I s → Ok (c s) fun b => if b = true then Ok (body s) (fun s' => I s' ∧ μ s' < μ s) else Dn s) → Ok (whileS c body n s) Dn
  | 0, s, _, h, _ => by omega
  | n + 1, s, hI, h, st => by
    obtain ⟨b, e, q⟩ := st s hI
    unfold whileS
    rw [e, bd_ok]
    cases b with
    | true =>
      rw [if_pos rfl] at q ⊢
      obtain ⟨s', e2, h2, h3⟩ := q
      rw [e2, bd_ok]
      exact ok_whileS I μ Dn n s' h2 (by omega) st
    | false =>
      rw [if_neg (by decide)] at q ⊢
      exact ⟨s, rfl, q⟩
theorem ok_compR {f : α → R β} {xs : List α} (P : Nat → β → Prop) (hl : xs.length ≤ lim) (h : ∀ i x, xs[i]? = some x → Ok (f x) (P i)) : Ok (compR xs (fun _ => .ok true) f) fun ys => ys.length = xs.length ∧ ∀ i y, ys[i]? = some y → P i y := by
  have key : ∀ (xs : List α) (n : Nat), (∀ i x, xs[i]? = some x → Ok (f x) (P (n + i))) → Ok (compGo (fun _ => .ok true) f xs) fun ys => ys.length = xs.length ∧ ∀ i y, ys[i]? = some y → P (n + i) y := by
    intro xs
    induction xs with
    | nil => exact fun n _ => ⟨[], rfl, rfl, fun i y hy => by simp at hy⟩
    | cons x l ih =>
      intro n h
      obtain ⟨y, e, hy⟩ := h 0 x rfl
      obtain ⟨ys, e2, h2, h3⟩ := ih (n + 1) fun i z hz => by
        have := h (i + 1) z (by simpa using hz)
        rw [show n + (i + 1) = n + 1 + i by omega] at this
        exact this
      refine ⟨y :: ys, ?_, by simp [h2], fun i z hz => ?_⟩
      · unfold compGo
        rw [e]
        show R.bd (compGo _ f l) _ = _
        rw [e2]
        rfl
      · cases i with
        | zero => simp at hz; subst hz; exact hy
        | succ i =>
          have := h3 i z (by simpa using hz)
          rw [show n + 1 + i = n + (i + 1) by omega] at this
          exact this
  have := key xs 0 fun i x hx => by rw [Nat.zero_add]; exact h i x hx
  unfold compR
  rw [gd_pos hl]
  simpa using this
end
/-! ### steps by simp: conditions by omega -/
theorem dT {c : Prop} [Decidable c] (h : c) : decide c = true := decide_eq_true h
theorem dF {c : Prop} [Decidable c] (h : ¬ c) : decide c = false := decide_eq_false h
theorem ifT {α : Type} {a b : α} : (if true = true then a else b) = a := rfl
theorem ifF {α : Type} {a b : α} : (if false = true then a else b) = b := rfl
theorem rngL_mem {lo hi x : Int} : x ∈ rngL lo hi ↔ lo ≤ x ∧ x < hi := by
  constructor
  · intro h
    obtain ⟨i, hi⟩ := List.mem_iff_getElem?.mp h
    obtain ⟨rfl, h2⟩ := rngL_at hi
    omega
  · intro ⟨h1, h2⟩
    apply List.mem_iff_getElem?.mpr
    refine ⟨(x - lo).toNat, ?_⟩
    rw [rngL_get (by omega)]
    congr 1
    omega
theorem compR_true {α : Type} {f : α → R Bool} {xs : List α} (hl : xs.length ≤ lim) (h : ∀ x ∈ xs, f x = .ok true) : compR xs (fun _ => .ok true) f = .ok (xs.map fun _ => true) := compR_ok hl h
theorem all_true {α : Type} {xs : List α} : (xs.map fun _ => true).all id = true := by simp
theorem lim_eq : lim = 10000000 := rfl
theorem forS_er {α : Type} {body : α → Unit → R Unit} {e : Er} : ∀ {xs : List α}, (∀ x ∈ xs, body x () = .ok () ∨ body x () = .er e) → (∃ x ∈ xs, body x () = .er e) → forS body xs () = .er e
  | [], _, ⟨x, h, _⟩ => by cases h
  | y :: l, h, ⟨x, hx, hb⟩ => by
    unfold forS
    rcases h y (by simp) with h1 | h1
    · rw [h1, bd_ok]
      refine forS_er (fun z hz => h z (by simp [hz])) ⟨x, ?_, hb⟩
      rcases List.mem_cons.mp hx with c | c
      · rw [c, h1] at hb
        cases hb
      · exact c
    · rw [h1]
      rfl
theorem enumL_at {α : Type} [Rp α] {xs : List α} {i : Nat} {p : Int × α} (h : (enumL xs)[i]? = some p) : p.1 = i ∧ xs[i]? = some p.2 := by
  have hl : i < xs.length := by
    have := (List.getElem?_eq_some_iff.mp h).1
    rw [enumL_len] at this
    exact this
  rw [enumL_get (List.getElem?_eq_getElem hl)] at h
  cases h
  exact ⟨rfl, List.getElem?_eq_getElem hl⟩
theorem emod_le {x m : Int} (h0 : 0 ≤ x) (hm : 0 < m) : x % m ≤ x := by
  have q1 := Int.mul_ediv_add_emod x m
  have q2 : 0 ≤ m * (x / m) := Int.mul_nonneg (by omega) (Int.ediv_nonneg h0 (by omega))
  omega
theorem compGo_filter {α β : Type} {c : α → R Bool} {p : α → Bool} {f : α → R β} {g : α → β} : ∀ {xs : List α}, (∀ x ∈ xs, c x = .ok (p x)) → (∀ x ∈ xs, p x = true → f x = .ok (g x)) → compGo c f xs = .ok ((xs.filter p).map g)
  | [], _, _ => rfl
  | x :: l, h, h2 => by
    have ih := compGo_filter (xs := l) (fun y hy => h y (by simp [hy])) (fun y hy => h2 y (by simp [hy]))
    unfold compGo
    rw [h x (by simp)]
    show (if p x = true then R.bd (f x).nx fun y => R.bd (compGo c f l) fun ys => .ok (y :: ys) else compGo c f l) = _
    by_cases c : p x = true
    · rw [if_pos c, h2 x (by simp) c, ih, List.filter_cons_of_pos c]
      rfl
    · rw [if_neg c, ih, List.filter_cons_of_neg c]
theorem compR_filter {α β : Type} {c : α → R Bool} {p : α → Bool} {f : α → R β} {g : α → β} {xs : List α} (hl : xs.length ≤ lim) (h : ∀ x ∈ xs, c x = .ok (p x)) (h2 : ∀ x ∈ xs, p x = true → f x = .ok (g x)) : compR xs c f = .ok ((xs.filter p).map g) := by
  unfold compR
  rw [gd_pos hl, compGo_filter h h2]
theorem inL_iff {α : Type} [DecidableEq α] {a : α} {l : List α} : inL a l = true ↔ a ∈ l := by unfold inL; simp
theorem inL_no {α : Type} [DecidableEq α] {a : α} {l : List α} (h : a ∉ l) : inL a l = false := by unfold inL; simp [h]
theorem inL_yes {α : Type} [DecidableEq α] {a : α} {l : List α} (h : a ∈ l) : inL a l = true := by unfold inL; simp [h]
theorem indexR_ok {α : Type} [DecidableEq α] {l : List α} {a : α} {j : Nat} (h : l[j]? = some a) (hn : ∀ i, i < j → l[i]? ≠ some a) : indexR l a = .ok (j : Int) := by
  unfold indexR
  have hj := (List.getElem?_eq_some_iff.mp h).1
  have : l.findIdx? (fun z => decide (z = a)) = some j := by
    rw [List.findIdx?_eq_some_iff_getElem]
    refine ⟨hj, ?_, fun i hi => ?_⟩
    · have := (List.getElem?_eq_some_iff.mp h).2
      simpa using this
    · have e := List.getElem?_eq_getElem (l := l) (i := i) (by omega)
      have := hn i hi
      rw [e] at this
      simpa using this
  rw [this]
theorem ok_whileR {S ρ : Type} {c : S → R Bool} {body : S → R (Fl S ρ)} (I : S → Prop) (μ : S → Nat) (Dn : S → Prop) (Rr : ρ → Prop) : ∀ (n : Nat) (s : S), I s → μ s < n → (∀ s, I s → Ok (c s) fun b => if b = true then Ok (body s) (FlP (fun s' => I s' ∧ μ s' < μ s) Dn Rr) else Dn s) → Ok (whileR c body n s) (FlP Dn (fun _ => False) Rr)
  | 0, s, _, h, _ => by omega
  | n + 1, s, hI, h, st => by
    obtain ⟨b, e, q⟩ := st s hI
    unfold whileR
    rw [e, bd_ok]
    cases b with
    | true =>
      rw [if_pos rfl] at q ⊢
      obtain ⟨f, e2, h2⟩ := q
      rw [e2, bd_ok]
      cases f with
      | go s' =>
        obtain ⟨h3, h4⟩ := h2
        exact ok_whileR I μ Dn Rr n s' h3 (by omega) st
      | brk s' => exact ⟨_, rfl, h2⟩
      | ret r => exact ⟨_, rfl, h2⟩
    | false =>
      rw [if_neg (by decide)] at q ⊢
      exact ⟨_, rfl, q⟩
theorem cut_init {α : Type} (l : List α) : cut l none (some (-1)) = l.dropLast := by
  unfold cut
  have : HT.sIx l.length l.length (some (-1)) = l.length - 1 := by
    show (if (-1 : Int) < 0 then ((-1 : Int) + (l.length : Int)).toNat else min (-1 : Int).toNat l.length) = _
    rw [if_pos (by decide)]
    omega
  rw [this, HT.sIx_none, List.drop_zero, Nat.sub_zero, List.dropLast_eq_take]
theorem cut_tail {α : Type} (l : List α) : cut l (some 1) none = l.drop 1 := by
  unfold cut
  rw [show (1 : Int) = ((1 : Nat) : Int) from rfl, HT.sIx_nat, HT.sIx_none]
  by_cases c : 1 ≤ l.length
  · rw [Nat.min_eq_left c, List.take_of_length_le (by simp)]
  · have : l = [] := List.eq_nil_of_length_eq_zero (by omega)
    rw [this]
    rfl
theorem nodup_lt : ∀ (N : Nat) (ns : List Nat), ns.Nodup → (∀ x ∈ ns, x < N) → ns.length ≤ N
  | 0, ns, _, h => by
    cases ns with
    | nil => simp
    | cons x l => exact absurd (h x List.mem_cons_self) (by omega)
  | N + 1, ns, hn, h => by
    by_cases c : N ∈ ns
    · have := nodup_lt N (ns.erase N) (hn.erase N) fun x hx => by
        obtain ⟨h1, h2⟩ := (List.Nodup.mem_erase_iff hn).mp hx
        have := h x h2
        omega
      rw [List.length_erase_of_mem c] at this
      omega
    · have := nodup_lt N ns hn fun x hx => by
        have h1 := h x hx
        have h2 : x ≠ N := fun z => c (z ▸ hx)
        omega
      omega
end G

set_option Elab.async false
set_option linter.all false
set_option maxRecDepth 100000
set_option maxHeartbeats 4000000
namespace G
open PySem L2
noncomputable section
def m_ask_board (board : List Int) : R Unit :=
  R.bd (.ok ((decide ((board.length : Int) < (2 : Int))) || (decide ((24 : Int) < (board.length : Int))))) fun (b16 : Bool) => if b16 = true then
    (.er (.own .BadBoard))
  else
    (R.bd (R.bd (R.bd (minR board) fun (t7 : Int) => .ok (decide (t7 < (0 : Int)))) fun (t8 : Bool) => .ok (t8 || (decide ((10 ^ 60 : Int) < board.sum)))) fun (b15 : Bool) => if b15 = true then
    (.er (.own .BadBoard))
  else
    (.ok ()))

def m_ask_pit (board : List Int) (pit : Int) : R Unit :=
  R.bd (.ok ((decide (pit < (0 : Int))) || (decide ((board.length : Int) ≤ pit)))) fun (b7 : Bool) => if b7 = true then
    (.er (.own .BadPit))
  else
    (.ok ())

def m_ask_seeds (board : List Int) (pit : Int) : R Unit :=
  R.bd (m_ask_board board) fun (_ : Unit) =>
  R.bd (m_ask_pit board pit) fun (_ : Unit) =>
  R.bd (R.bd (idx board pit) fun (t11 : Int) => .ok (decide (t11 = (0 : Int)))) fun (b18 : Bool) => if b18 = true then
    (.er (.own .NoSeeds))
  else
    (.ok ())

def m_put_round (board : List Int) (pit : Int) (seeds : Int) : R (List Int) :=
  R.bd (.ok (board.length : Int)) fun (pits : Int) =>
  R.bd (compR board (fun (held : Int) => .ok true) (fun (held : Int) => R.bd (divR seeds pits) fun (t23 : Int) => .ok (held + t23))) fun (made : List Int) =>
  R.bd (R.bd (R.bd (modR seeds pits) fun (t25 : Int) => .ok (t25 + (1 : Int))) fun (t26 : Int) => rng2 (1 : Int) t26) fun (t63 : List Int) => R.bd (forS (fun (step : Int) (made : (List Int)) => 
    R.bd (R.bd (modR (pit + step) pits) fun (t60 : Int) => R.bd (idx made t60) fun (t61 : Int) => setR made t60 (t61 + (1 : Int))) fun (made : List Int) =>
  .ok made) t63 made) fun (made : (List Int)) =>
  R.bd (.ok made) fun (r : List Int) => .ok r

def m_sown_plain (board : List Int) (pit : Int) : R ((List Int) × Int) :=
  R.bd (.ok board) fun (emptied : List Int) =>
  R.bd (setR emptied pit (0 : Int)) fun (emptied : List Int) =>
  R.bd (R.bd (R.bd (idx board pit) fun (t14 : Int) => m_put_round emptied pit t14) fun (t17 : List Int) => R.bd (R.bd (R.bd (idx board pit) fun (t15 : Int) => .ok (pit + t15)) fun (t16 : Int) => modR t16 (board.length : Int)) fun (t18 : Int) => .ok (t17, t18)) fun (r : (List Int) × Int) => .ok r

def m_sown (board : List Int) (pit : Int) : R ((List Int) × Int) :=
  R.bd (m_ask_seeds board pit) fun (_ : Unit) =>
  R.bd (m_sown_plain board pit) fun (r : (List Int) × Int) => .ok r

def m_first_emptied (board : List Int) (pit : Int) : R (Int × Int) :=
  R.bd (.ok (board.length : Int)) fun (pits : Int) =>
  R.bd (minR board) fun (least : Int) =>
  R.bd (.ok (0 : Int)) fun (steps : Int) =>
  R.bd (whileS (fun (steps : Int) => R.bd (R.bd (modR (pit - steps) pits) fun (t29 : Int) => idx board t29) fun (t30 : Int) => .ok (decide (least < t30))) (fun (steps : Int) =>
    R.bd (.ok (steps + (1 : Int))) fun (steps : Int) =>
  .ok steps) fuel steps) fun (steps : Int) =>
  R.bd (R.bd (modR (pit - steps) pits) fun (t44 : Int) => R.bd (R.bd (mulR least pits) fun (t43 : Int) => .ok (t43 + steps)) fun (t45 : Int) => .ok (t44, t45)) fun (r : Int × Int) => .ok r

def m_taken_back (board : List Int) (pit : Int) : R ((List Int) × Int) :=
  R.bd (m_ask_seeds board pit) fun (_ : Unit) =>
  R.bd (m_first_emptied board pit) fun ((home, seeds) : Int × Int) =>
  R.bd (.ok (board.length : Int)) fun (pits : Int) =>
  R.bd (compR board (fun (held : Int) => .ok true) (fun (held : Int) => R.bd (divR seeds pits) fun (t37 : Int) => .ok (held - t37))) fun (made : List Int) =>
  R.bd (R.bd (modR seeds pits) fun (t39 : Int) => rng1 t39) fun (t81 : List Int) => R.bd (forS (fun (step : Int) (made : (List Int)) => 
    R.bd (R.bd (modR (pit - step) pits) fun (t73 : Int) => R.bd (idx made t73) fun (t74 : Int) => setR made t73 (t74 - (1 : Int))) fun (made : List Int) =>
  .ok made) t81 made) fun (made : (List Int)) =>
  R.bd (setR made home seeds) fun (made : List Int) =>
  R.bd (.ok (made, home)) fun (r : (List Int) × Int) => .ok r

def m_bk_board (self : Bk) : R (List Int) :=
  R.bd (idx self.boards (-(1 : Int))) fun (r : List Int) => .ok r

def m_bk_plan (self : Bk) : R (List (Str × Int)) :=
  R.bd (compR self.deeds (fun (deed : T3 Str Int Int) => .ok true) (fun (deed : T3 Str Int Int) => .ok (deed.a, deed.b))) fun (r : List (Str × Int)) => .ok r

def m_bk_sown_in_all (self : Bk) : R Int :=
  R.bd (R.bd (compR self.deeds (fun (deed : T3 Str Int Int) => .ok true) (fun (deed : T3 Str Int Int) => .ok deed.c)) fun (t9 : List Int) => .ok t9.sum) fun (r : Int) => .ok r

def m_bk_came_again (self : Bk) : R (List (Int × Int)) :=
  R.bd (.ok ([] : List (Int × Int))) fun (found : List (Int × Int)) =>
  R.bd (rng1 (self.boards.length : Int)) fun (t80 : List Int) => R.bd (forS (fun (later : Int) (found : (List (Int × Int))) => 
    R.bd (.ok (later - (1 : Int))) fun (earlier : Int) =>
  R.bd (whileS (fun (earlier : Int) => if (decide ((0 : Int) ≤ earlier)) = true then R.bd (idx self.boards earlier) fun (t53 : List Int) => R.bd (idx self.boards later) fun (t54 : List Int) => .ok (!decide (t53 = t54)) else .ok false) (fun (earlier : Int) =>
    R.bd (.ok (earlier - (1 : Int))) fun (earlier : Int) =>
  .ok earlier) fuel earlier) fun (earlier : Int) =>
  R.bd (.ok (decide ((0 : Int) ≤ earlier))) fun (b78 : Bool) => if b78 = true then
    (R.bd (appR found (earlier, later)) fun (found : List (Int × Int)) =>
  .ok found)
  else
    (.ok found)) t80 found) fun (found : (List (Int × Int))) =>
  R.bd (sortR found) fun (r : List (Int × Int)) => .ok r

def m__law_at (script : Scr) (k : Int) : R Int :=
  R.bd (.ok (decide (k < (script.l.length : Int)))) fun (b7 : Bool) => if b7 = true then
    (R.bd (idx script.l k) fun (r : Int) => .ok r)
  else
    (R.bd (.ok (0 : Int)) fun (r : Int) => .ok r)

def m__law_folded (script : Scr) (many : Int) : R (List Int) :=
  R.bd (repR [(0 : Int)] many) fun (numbers : List Int) =>
  R.bd (rng2 (1 : Int) (script.l.length : Int)) fun (t56 : List Int) => R.bd (forS (fun (k : Int) (numbers : (List Int)) => 
    R.bd (modR (k - (1 : Int)) many) fun (at_ : Int) =>
  R.bd (R.bd (R.bd (R.bd (R.bd (idx numbers at_) fun (t46 : Int) => .ok (t46 * (31 : Int))) fun (t47 : Int) => R.bd (idx script.l k) fun (t48 : Int) => .ok (t47 + t48)) fun (t49 : Int) => .ok (t49 % (10 ^ 60 : Int))) fun (t50 : Int) => setR numbers at_ t50) fun (numbers : List Int) =>
  .ok numbers) t56 numbers) fun (numbers : (List Int)) =>
  R.bd (.ok numbers) fun (r : List Int) => .ok r

def m__law_board (script : Scr) (pits : Int) (way : Int) : R (List Int) :=
  R.bd (.ok ([] : List Int)) fun (board : List Int) =>
  R.bd (m__law_folded script pits) fun (t114 : List Int) => R.bd (forS (fun (number : Int) (board : (List Int)) => 
    R.bd (.ok ((number / (11 : Int)) % (4 : Int))) fun (held : Int) =>
  R.bd (R.bd (.ok (decide (way = (1 : Int)))) fun (b113 : Bool) => if b113 = true then
    (R.bd (.ok ((number / (11 : Int)) % (30 : Int))) fun (held : Int) =>
  .ok held)
  else
    (.ok held)) fun (held : Int) =>
  R.bd (R.bd (.ok (decide (way = (2 : Int)))) fun (b112 : Bool) => if b112 = true then
    (R.bd (.ok (number / (24 : Int))) fun (held : Int) =>
  .ok held)
  else
    (.ok held)) fun (held : Int) =>
  R.bd (R.bd (.ok (decide (way = (3 : Int)))) fun (b111 : Bool) => if b111 = true then
    (R.bd (idx [(0 : Int), (1 : Int), (number / (24 : Int)), pits] ((number / (7 : Int)) % (4 : Int))) fun (held : Int) =>
  .ok held)
  else
    (.ok held)) fun (held : Int) =>
  R.bd (appR board held) fun (board : List Int) =>
  .ok board) t114 board) fun (board : (List Int)) =>
  R.bd (.ok board) fun (r : List Int) => .ok r

def m__law_asked (book : Bk) (way : Int) (pit : Int) : R (Dy × Bk) :=
  R.bd (.ok (decide (way = (0 : Int)))) fun (b73 : Bool) => if b73 = true then
    (R.bd (R.bd (m_bk_sow m_sown book pit) fun z_ => .ok (DyN.dy z_.1, z_.2)) fun ((r, book) : Dy × Bk) => .ok (r, book))
  else
    (R.bd (.ok (decide (way = (1 : Int)))) fun (b72 : Bool) => if b72 = true then
    (R.bd (R.bd (m_bk_back m_taken_back book pit) fun z_ => .ok (DyN.dy z_.1, z_.2)) fun ((r, book) : Dy × Bk) => .ok (r, book))
  else
    (R.bd (.ok (decide (way = (2 : Int)))) fun (b71 : Bool) => if b71 = true then
    (R.bd (R.bd (m_bk_undo book) fun z_ => .ok (DyN.dy z_.1, z_.2)) fun ((r, book) : Dy × Bk) => .ok (r, book))
  else
    (R.bd (R.bd (m_bk_redo book) fun z_ => .ok (DyN.dy z_.1, z_.2)) fun ((r, book) : Dy × Bk) => .ok (r, book))))

def m__law_told (book : Bk) (way : Int) (pit : Int) : R (Dy × Bk) :=
  R.bd (.ok (none : Option Er)) fun (caught : Option Er) =>
  R.bd (.ok Dy.non) fun (told : Dy) =>
  R.bd (catchR [.SowError, .BadBoard, .BadPit, .NoSeeds, .NoDeed] (R.bd (m__law_asked book way pit) fun ((told, book) : Dy × Bk) =>
  .ok (told, caught, book)) fun (e : Er) =>
    R.bd (.ok (some e)) fun (caught : Option Er) =>
  .ok (told, caught, book)) fun ((told, caught, book) : Dy × (Option Er) × Bk) =>
  R.bd (.ok caught.isNone) fun (b99 : Bool) => if b99 = true then
    (R.bd (.ok told) fun (r : Dy) => .ok (r, book))
  else
    (R.bd (R.bd (R.bd (isXR .BadPit caught) fun (t72 : Bool) => R.bd (R.bd (isXR .NoSeeds caught) fun (t70 : Bool) => R.bd (R.bd (isXR .NoDeed caught) fun (t69 : Bool) => .ok (t69 :: ([] : List Bool))) fun (t71 : List Bool) => .ok (t70 :: t71)) fun (t73 : List Bool) => .ok (t72 :: t73)) fun (t74 : List Bool) => gd (t74.length ≤ lim) (.ok t74)) fun (kinds : List Bool) =>
  R.bd (R.bd (R.bd (isVR caught) fun (t78 : Bool) => .ok (!t78)) fun (t79 : Bool) => .ok (t79 || (!decide (((kinds.count true : Nat) : Int) = (1 : Int))))) fun (b98 : Bool) => if b98 = true then
    (R.bd (.ok (DyN.dy ("another" : Str))) fun (r : Dy) => .ok (r, book))
  else
    (R.bd (R.bd (indexR kinds true) fun (t90 : Int) => idx [("BadPit" : Str), ("NoSeeds" : Str), ("NoDeed" : Str)] t90) fun (word : Str) =>
  R.bd (R.bd (R.bd (R.bd (R.bd (calledR caught) fun (t94 : Str) => .ok (!decide (t94 = word))) fun (t95 : Bool) => .ok (if t95 = true then (1 : Int) else 0)) fun (t96 : Int) => idx [word, ("another" : Str)] t96) fun (t97 : Str) => .ok (DyN.dy t97)) fun (r : Dy) => .ok (r, book)))

def m__law_due (boards : List (List Int)) (deeds : List (T3 Str Int Int)) (gone : List ((T3 Str Int Int) × (List Int))) (way : Int) (pit : Int) : R (Dy × (List (List Int)) × (List (T3 Str Int Int)) × (List ((T3 Str Int Int) × (List Int)))) :=
  R.bd (.ok ((decide (way = (2 : Int))) || (decide (way = (3 : Int))))) fun (b145 : Bool) => if b145 = true then
    (R.bd (R.bd (idx [(deeds.length : Int), (gone.length : Int)] (way - (2 : Int))) fun (t7 : Int) => .ok (decide (t7 = (0 : Int)))) fun (b61 : Bool) => if b61 = true then
    (R.bd (.ok (DyN.dy ("NoDeed" : Str))) fun (r : Dy) => .ok (r, boards, deeds, gone))
  else
    (R.bd (R.bd (.ok (decide (way = (2 : Int)))) fun (b60 : Bool) => if b60 = true then
    (R.bd (R.bd (lastR deeds) fun y_ => R.bd (lastR boards) fun z_ => R.bd (appR gone (y_.1, z_.1)) fun l_ => .ok (l_, y_.2, z_.2)) fun ((gone, deeds, boards) : (List ((T3 Str Int Int) × (List Int))) × (List (T3 Str Int Int)) × (List (List Int))) =>
  .ok (gone, deeds, boards))
  else
    (R.bd (lastR gone) fun (((deed, board), gone) : ((T3 Str Int Int) × (List Int)) × (List ((T3 Str Int Int) × (List Int)))) =>
  R.bd (appR deeds deed) fun (deeds : List (T3 Str Int Int)) =>
  R.bd (appR boards board) fun (boards : List (List Int)) =>
  .ok (gone, deeds, boards))) fun ((gone, deeds, boards) : (List ((T3 Str Int Int) × (List Int))) × (List (T3 Str Int Int)) × (List (List Int))) =>
  R.bd (.ok Dy.non) fun (r : Dy) => .ok (r, boards, deeds, gone)))
  else
    (R.bd (idx boards (-(1 : Int))) fun (board : List Int) =>
  R.bd (.ok ((decide (pit < (0 : Int))) || (decide ((board.length : Int) ≤ pit)))) fun (b144 : Bool) => if b144 = true then
    (R.bd (.ok (DyN.dy ("BadPit" : Str))) fun (r : Dy) => .ok (r, boards, deeds, gone))
  else
    (R.bd (R.bd (idx board pit) fun (t75 : Int) => .ok (decide (t75 = (0 : Int)))) fun (b143 : Bool) => if b143 = true then
    (R.bd (.ok (DyN.dy ("NoSeeds" : Str))) fun (r : Dy) => .ok (r, boards, deeds, gone))
  else
    (R.bd (.ok ([] : List ((T3 Str Int Int) × (List Int)))) fun (gone : List ((T3 Str Int Int) × (List Int))) =>
  R.bd (R.bd (.ok (decide (way = (0 : Int)))) fun (b142 : Bool) => if b142 = true then
    (R.bd (m_sown board pit) fun ((made, last) : (List Int) × Int) =>
  R.bd (R.bd (R.bd (idx board pit) fun (t117 : Int) => .ok (T3.mk ("sow" : Str) pit t117)) fun (t118 : T3 Str Int Int) => appR deeds t118) fun (deeds : List (T3 Str Int Int)) =>
  .ok (made, last, deeds))
  else
    (R.bd (m_taken_back board pit) fun ((made, last) : (List Int) × Int) =>
  R.bd (R.bd (R.bd (R.bd (idx made last) fun (t133 : Int) => .ok ((0 : Int) - t133)) fun (t134 : Int) => .ok (T3.mk ("back" : Str) pit t134)) fun (t135 : T3 Str Int Int) => appR deeds t135) fun (deeds : List (T3 Str Int Int)) =>
  .ok (made, last, deeds))) fun ((made, last, deeds) : (List Int) × Int × (List (T3 Str Int Int))) =>
  R.bd (appR boards made) fun (boards : List (List Int)) =>
  R.bd (.ok (DyN.dy last)) fun (r : Dy) => .ok (r, boards, deeds, gone))))

def m__law_again (boards : List (List Int)) : R (List (Int × Int)) :=
  R.bd (.ok ([] : List (Int × Int))) fun (found : List (Int × Int)) =>
  R.bd (rng1 (boards.length : Int)) fun (t82 : List Int) => R.bd (forS (fun (later : Int) (found : (List (Int × Int))) => 
    R.bd (.ok (later - (1 : Int))) fun (earlier : Int) =>
  R.bd (whileS (fun (earlier : Int) => if (decide ((0 : Int) ≤ earlier)) = true then R.bd (idx boards earlier) fun (t53 : List Int) => R.bd (idx boards later) fun (t54 : List Int) => .ok (!decide (t53 = t54)) else .ok false) (fun (earlier : Int) =>
    R.bd (.ok (earlier - (1 : Int))) fun (earlier : Int) =>
  .ok earlier) fuel earlier) fun (earlier : Int) =>
  R.bd (.ok (decide ((0 : Int) ≤ earlier))) fun (b80 : Bool) => if b80 = true then
    (R.bd (appR found (earlier, later)) fun (found : List (Int × Int)) =>
  .ok found)
  else
    (.ok found)) t82 found) fun (found : (List (Int × Int))) =>
  R.bd (sortR found) fun (r : List (Int × Int)) => .ok r

def m__law_as_kept (book : Bk) (boards : List (List Int)) (deeds : List (T3 Str Int Int)) (cell : Int) : R Bool :=
  R.bd (rng1 (4 : Int)) fun (t159 : List Int) => R.bd (forR (ρ := Bool) (fun (k : Int) (_ : Unit) => 
    R.bd (.ok ((cell + k) % (4 : Int))) fun (way : Int) =>
  R.bd (.ok (decide (way = (0 : Int)))) fun (b158 : Bool) => if b158 = true then
    (R.bd (m_bk_board book) fun (board : List Int) =>
  R.bd (if (!true) = true then .ok true else R.bd (idx boards (-(1 : Int))) fun (t55 : List Int) => .ok (!decide (board = t55))) fun (b69 : Bool) => if b69 = true then
    (R.bd (.ok false) fun (r : Bool) => .ok (.ret r))
  else
    (R.bd (R.bd (R.bd (idx board (0 : Int)) fun (t62 : Int) => .ok (t62 + (1 : Int))) fun (t63 : Int) => setR board (0 : Int) t63) fun (board : List Int) =>
  .ok (.go ())))
  else
    (R.bd (.ok (decide (way = (1 : Int)))) fun (b157 : Bool) => if b157 = true then
    (R.bd (m_bk_plan book) fun (plan : List (Str × Int)) =>
  R.bd (if (!true) = true then .ok true else R.bd (compR deeds (fun (deed : T3 Str Int Int) => .ok true) (fun (deed : T3 Str Int Int) => .ok (deed.a, deed.b))) fun (t92 : List (Str × Int)) => .ok (!decide (plan = t92))) fun (b104 : Bool) => if b104 = true then
    (R.bd (.ok false) fun (r : Bool) => .ok (.ret r))
  else
    (R.bd (appR plan (("sow" : Str), (0 : Int))) fun (plan : List (Str × Int)) =>
  .ok (.go ())))
  else
    (R.bd (.ok (decide (way = (2 : Int)))) fun (b156 : Bool) => if b156 = true then
    (R.bd (m_bk_came_again book) fun (pairs : List (Int × Int)) =>
  R.bd (if (!true) = true then .ok true else R.bd (m__law_again boards) fun (t119 : List (Int × Int)) => .ok (!decide (pairs = t119))) fun (b131 : Bool) => if b131 = true then
    (R.bd (.ok false) fun (r : Bool) => .ok (.ret r))
  else
    (R.bd (appR pairs ((0 : Int), (0 : Int))) fun (pairs : List (Int × Int)) =>
  .ok (.go ())))
  else
    (R.bd (m_bk_sown_in_all book) fun (seeds : Int) =>
  R.bd (if (!true) = true then .ok true else if false = true then .ok true else R.bd (R.bd (compR deeds (fun (deed : T3 Str Int Int) => .ok true) (fun (deed : T3 Str Int Int) => .ok deed.c)) fun (t147 : List Int) => .ok t147.sum) fun (t148 : Int) => .ok (!decide (seeds = t148))) fun (b155 : Bool) => if b155 = true then
    (R.bd (.ok false) fun (r : Bool) => .ok (.ret r))
  else
    (.ok (.go ())))))) t159 ()) (flk (fun (_ : Unit) =>
  R.bd (.ok true) fun (r : Bool) => .ok r) fun r => .ok r)

def m_law (script : Scr) : R Bool :=
  R.bd (m__law_at script (0 : Int)) fun (head : Int) =>
  R.bd (.ok ((2 : Int) + (head % (5 : Int)))) fun (pits : Int) =>
  R.bd (R.bd (.ok (decide (((head / (5 : Int)) % (8 : Int)) = (3 : Int)))) fun (b228 : Bool) => if b228 = true then
    (R.bd (.ok ((7 : Int) + ((head / (40 : Int)) % (18 : Int)))) fun (pits : Int) =>
  .ok pits)
  else
    (.ok pits)) fun (pits : Int) =>
  R.bd (m__law_board script pits ((head / (720 : Int)) % (4 : Int))) fun (first : List Int) =>
  R.bd (.ok first) fun (handed : List Int) =>
  R.bd (m_bk_init m_ask_board handed) fun (book : Bk) =>
  R.bd (R.bd (R.bd (idx handed (0 : Int)) fun (t61 : Int) => .ok (t61 + (1 : Int))) fun (t62 : Int) => setR handed (0 : Int) t62) fun (handed : List Int) =>
  R.bd (gd ([first].length ≤ lim) (.ok [first])) fun (boards : List (List Int)) =>
  R.bd (.ok ([] : List (T3 Str Int Int))) fun (deeds : List (T3 Str Int Int)) =>
  R.bd (gd (([] : List ((T3 Str Int Int) × (List Int))).length ≤ lim) (.ok ([] : List ((T3 Str Int Int) × (List Int))))) fun (gone : List ((T3 Str Int Int) × (List Int))) =>
  R.bd (.ok (cut script.l none (some (63 : Int)))) fun (t226 : List Int) => R.bd (forR (ρ := Bool) (fun (cell : Int) ((boards, deeds, gone, book) : (List (List Int)) × (List (T3 Str Int Int)) × (List ((T3 Str Int Int) × (List Int))) × Bk) => 
    R.bd (idx [(0 : Int), (1 : Int), (0 : Int), (1 : Int), (2 : Int), (2 : Int), (3 : Int)] (cell % (7 : Int))) fun (way : Int) =>
  R.bd (modR (cell / (7 : Int)) pits) fun (pit : Int) =>
  R.bd (R.bd (.ok (decide (((cell / (49 : Int)) % (9 : Int)) = (4 : Int)))) fun (b225 : Bool) => if b225 = true then
    (R.bd (.ok ((cell / (441 : Int)) % (10 ^ 60 : Int))) fun (far : Int) =>
  R.bd (idx [(-(1 : Int)), pits, ((-(1 : Int)) - far), (pits + far)] (far % (4 : Int))) fun (pit : Int) =>
  .ok pit)
  else
    (.ok pit)) fun (pit : Int) =>
  R.bd (m__law_due boards deeds gone way pit) fun ((due, boards, deeds, gone) : Dy × (List (List Int)) × (List (T3 Str Int Int)) × (List ((T3 Str Int Int) × (List Int)))) =>
  R.bd (m__law_told book way pit) fun ((told, book) : Dy × Bk) =>
  R.bd (if (dyIs 1 told) = true then .ok true else R.bd (R.bd (eqDy told due) fun c => .ok (!c)) fun (t217 : Bool) => if t217 = true then .ok true else R.bd (m__law_as_kept book boards deeds (cell / (3 : Int))) fun (t216 : Bool) => .ok (!t216)) fun (b224 : Bool) => if b224 = true then
    (R.bd (.ok false) fun (r : Bool) => .ok (.ret r))
  else
    (.ok (.go (boards, deeds, gone, book)))) t226 (boards, deeds, gone, book)) (flk (fun ((boards, deeds, gone, book) : (List (List Int)) × (List (T3 Str Int Int)) × (List ((T3 Str Int Int) × (List Int))) × Bk) =>
  R.bd (m__law_as_kept book boards deeds (head / (7 : Int))) fun (r : Bool) => .ok r) fun r => .ok r)
end
end G

set_option Elab.async false
set_option linter.all false
set_option maxRecDepth 100000
set_option maxHeartbeats 4000000
namespace G
open PySem PySem.Spec PyProof.Rows L2
def top (i : Nat) : Stmt := PySem.Challenge.pw_sowring_k58_deeds_of_a_book.main.body.getD i (.Pass ⟨0, 0, 0, 0⟩)
abbrev s_ask_board : Stmt := top 10
def d_ask_board : He.DefD := ⟨("ask_board", none), "ask_board", "ask_board", defArgs s_ask_board, defBody s_ask_board, defScope s_ask_board, [], []⟩
abbrev s_ask_pit : Stmt := top 11
def d_ask_pit : He.DefD := ⟨("ask_pit", none), "ask_pit", "ask_pit", defArgs s_ask_pit, defBody s_ask_pit, defScope s_ask_pit, [], []⟩
abbrev s_ask_seeds : Stmt := top 12
def d_ask_seeds : He.DefD := ⟨("ask_seeds", none), "ask_seeds", "ask_seeds", defArgs s_ask_seeds, defBody s_ask_seeds, defScope s_ask_seeds, [], []⟩
abbrev s_put_round : Stmt := top 13
def d_put_round : He.DefD := ⟨("put_round", none), "put_round", "put_round", defArgs s_put_round, defBody s_put_round, defScope s_put_round, [], []⟩
abbrev s_sown_plain : Stmt := top 14
def d_sown_plain : He.DefD := ⟨("sown_plain", none), "sown_plain", "sown_plain", defArgs s_sown_plain, defBody s_sown_plain, defScope s_sown_plain, [], []⟩
abbrev s_sown : Stmt := top 15
def d_sown : He.DefD := ⟨("sown", none), "sown", "sown", defArgs s_sown, defBody s_sown, defScope s_sown, [], []⟩
abbrev s_first_emptied : Stmt := top 16
def d_first_emptied : He.DefD := ⟨("first_emptied", none), "first_emptied", "first_emptied", defArgs s_first_emptied, defBody s_first_emptied, defScope s_first_emptied, [], []⟩
abbrev s_taken_back : Stmt := top 17
def d_taken_back : He.DefD := ⟨("taken_back", none), "taken_back", "taken_back", defArgs s_taken_back, defBody s_taken_back, defScope s_taken_back, [], []⟩
abbrev s_bk_board : Stmt := inClass (top 19) 6
def d_bk_board : He.DefD := ⟨("RingBook", some "board"), "board", "RingBook.board", defArgs s_bk_board, defBody s_bk_board, defScope s_bk_board, [], []⟩
abbrev s_bk_plan : Stmt := inClass (top 19) 7
def d_bk_plan : He.DefD := ⟨("RingBook", some "plan"), "plan", "RingBook.plan", defArgs s_bk_plan, defBody s_bk_plan, defScope s_bk_plan, [], []⟩
abbrev s_bk_sown_in_all : Stmt := inClass (top 19) 8
def d_bk_sown_in_all : He.DefD := ⟨("RingBook", some "sown_in_all"), "sown_in_all", "RingBook.sown_in_all", defArgs s_bk_sown_in_all, defBody s_bk_sown_in_all, defScope s_bk_sown_in_all, [], []⟩
abbrev s_bk_came_again : Stmt := inClass (top 19) 9
def d_bk_came_again : He.DefD := ⟨("RingBook", some "came_again"), "came_again", "RingBook.came_again", defArgs s_bk_came_again, defBody s_bk_came_again, defScope s_bk_came_again, [], []⟩
abbrev s__law_at : Stmt := top 21
def d__law_at : He.DefD := ⟨("_law_at", none), "_law_at", "_law_at", defArgs s__law_at, defBody s__law_at, defScope s__law_at, [], []⟩
abbrev s__law_folded : Stmt := top 22
def d__law_folded : He.DefD := ⟨("_law_folded", none), "_law_folded", "_law_folded", defArgs s__law_folded, defBody s__law_folded, defScope s__law_folded, [], []⟩
abbrev s__law_board : Stmt := top 23
def d__law_board : He.DefD := ⟨("_law_board", none), "_law_board", "_law_board", defArgs s__law_board, defBody s__law_board, defScope s__law_board, [], []⟩
abbrev s__law_asked : Stmt := top 24
def d__law_asked : He.DefD := ⟨("_law_asked", none), "_law_asked", "_law_asked", defArgs s__law_asked, defBody s__law_asked, defScope s__law_asked, [], []⟩
abbrev s__law_told : Stmt := top 25
def d__law_told : He.DefD := ⟨("_law_told", none), "_law_told", "_law_told", defArgs s__law_told, defBody s__law_told, defScope s__law_told, [], []⟩
abbrev s__law_due : Stmt := top 26
def d__law_due : He.DefD := ⟨("_law_due", none), "_law_due", "_law_due", defArgs s__law_due, defBody s__law_due, defScope s__law_due, [], []⟩
abbrev s__law_again : Stmt := top 27
def d__law_again : He.DefD := ⟨("_law_again", none), "_law_again", "_law_again", defArgs s__law_again, defBody s__law_again, defScope s__law_again, [], []⟩
abbrev s__law_as_kept : Stmt := top 28
def d__law_as_kept : He.DefD := ⟨("_law_as_kept", none), "_law_as_kept", "_law_as_kept", defArgs s__law_as_kept, defBody s__law_as_kept, defScope s__law_as_kept, [], []⟩
abbrev s_law : Stmt := top 29
def d_law : He.DefD := ⟨("law", none), "law", "law", defArgs s_law, defBody s_law, defScope s_law, [], []⟩
abbrev s_cSowError : Stmt := inClass (top 1) 0
def d_cSowError : He.DefD := ⟨("SowError", some "called"), "called", "SowError.called", defArgs s_cSowError, defBody s_cSowError, defScope s_cSowError, [], []⟩
abbrev s_cBadBoard : Stmt := inClass (top 2) 0
def d_cBadBoard : He.DefD := ⟨("BadBoard", some "called"), "called", "BadBoard.called", defArgs s_cBadBoard, defBody s_cBadBoard, defScope s_cBadBoard, [], []⟩
abbrev s_cBadPit : Stmt := inClass (top 3) 0
def d_cBadPit : He.DefD := ⟨("BadPit", some "called"), "called", "BadPit.called", defArgs s_cBadPit, defBody s_cBadPit, defScope s_cBadPit, [], []⟩
abbrev s_cNoSeeds : Stmt := inClass (top 4) 0
def d_cNoSeeds : He.DefD := ⟨("NoSeeds", some "called"), "called", "NoSeeds.called", defArgs s_cNoSeeds, defBody s_cNoSeeds, defScope s_cNoSeeds, [], []⟩
abbrev s_cNoDeed : Stmt := inClass (top 5) 0
def d_cNoDeed : He.DefD := ⟨("NoDeed", some "called"), "called", "NoDeed.called", defArgs s_cNoDeed, defBody s_cNoDeed, defScope s_cNoDeed, [], []⟩
abbrev s_bk_undo : Stmt := inClass (top 19) 4
def d_bk_undo : He.DefD := ⟨("RingBook", some "undo"), "undo", "RingBook.undo", defArgs s_bk_undo, defBody s_bk_undo, defScope s_bk_undo, [], []⟩
abbrev s_bk_redo : Stmt := inClass (top 19) 5
def d_bk_redo : He.DefD := ⟨("RingBook", some "redo"), "redo", "RingBook.redo", defArgs s_bk_redo, defBody s_bk_redo, defScope s_bk_redo, [], []⟩
abbrev s_bk_done : Stmt := inClass (top 19) 1
def d_bk_done : He.DefD := ⟨("RingBook", some "done_now"), "done_now", "RingBook.done_now", defArgs s_bk_done, defBody s_bk_done, defScope s_bk_done, [], []⟩
abbrev s_bk_sow : Stmt := inClass (top 19) 2
def d_bk_sow : He.DefD := ⟨("RingBook", some "sow"), "sow", "RingBook.sow", defArgs s_bk_sow, defBody s_bk_sow, defScope s_bk_sow, [], []⟩
abbrev s_bk_back : Stmt := inClass (top 19) 3
def d_bk_back : He.DefD := ⟨("RingBook", some "back"), "back", "RingBook.back", defArgs s_bk_back, defBody s_bk_back, defScope s_bk_back, [], []⟩
abbrev s_bk_init : Stmt := inClass (top 19) 0
def d_bk_init : He.DefD := ⟨("RingBook", some "__init__"), "__init__", "RingBook.__init__", defArgs s_bk_init, defBody s_bk_init, defScope s_bk_init, [], []⟩
def fn : List He.DefD := [d_ask_board, d_ask_pit, d_ask_seeds, d_put_round, d_sown_plain, d_sown, d_first_emptied, d_taken_back, d_bk_board, d_bk_plan, d_bk_sown_in_all, d_bk_came_again, d__law_at, d__law_folded, d__law_board, d__law_asked, d__law_told, d__law_due, d__law_again, d__law_as_kept, d_law, d_bk_undo, d_bk_redo, d_bk_done, d_bk_sow, d_bk_back, d_bk_init, d_cSowError, d_cBadBoard, d_cBadPit, d_cNoSeeds, d_cNoDeed]
def fa : List He.Fa := [.glo "ask_board", .glo "ask_pit", .glo "ask_seeds", .glo "put_round", .glo "sown_plain", .glo "sown", .glo "first_emptied", .glo "taken_back", .meth "RingBook" "board", .meth "RingBook" "plan", .meth "RingBook" "sown_in_all", .meth "RingBook" "came_again", .glo "_law_at", .glo "_law_folded", .glo "_law_board", .glo "_law_asked", .glo "_law_told", .glo "_law_due", .glo "_law_again", .glo "_law_as_kept", .glo "law", .cls "RingBook", .noat "RingBook" "boards", .noat "RingBook" "deeds", .noat "RingBook" "gone", .meth "RingBook" "undo", .meth "RingBook" "redo", .meth "RingBook" "done_now", .meth "RingBook" "sow", .meth "RingBook" "back", .meth "RingBook" "__init__", .mkr "RingBook", .glo "RingBook", .free "ValueError", .free "bool", .free "int", .free "isinstance", .free "len", .free "list", .free "min", .free "range", .free "sorted", .free "sum", .int "FEWEST_PITS" (2), .int "MOST_PITS" (24), .int "MOST_SEEDS" (10 ^ 60), .glo "SowError", .exc "SowError", .glo "BadBoard", .exc "BadBoard", .glo "BadPit", .exc "BadPit", .glo "NoSeeds", .exc "NoSeeds", .glo "NoDeed", .exc "NoDeed", .exm "SowError" "SowError" true, .exm "BadBoard" "SowError" true, .exm "BadPit" "SowError" true, .exm "NoSeeds" "SowError" true, .exm "NoDeed" "SowError" true, .meth "SowError" "called", .meth "BadBoard" "called", .meth "BadPit" "called", .meth "NoSeeds" "called", .meth "NoDeed" "called"]
def bx (K : PySem.W.Frag) : Bool := ([.SowError, .BadBoard, .BadPit, .NoSeeds, .NoDeed] : List Cn).all (fun c => cfB K c) && (allCn.all fun c => decide (c ∈ ([.SowError, .BadBoard, .BadPit, .NoSeeds, .NoDeed] : List Cn)) || !knB K c)
/-- what the top has written -/
structure Hd (K : PySem.W.Frag) (mg : Str → Option Value) : Prop where
  g_ask_board : mg "ask_board" = some (.ref (He.ga K "ask_board"))
  g_ask_pit : mg "ask_pit" = some (.ref (He.ga K "ask_pit"))
  g_ask_seeds : mg "ask_seeds" = some (.ref (He.ga K "ask_seeds"))
  g_put_round : mg "put_round" = some (.ref (He.ga K "put_round"))
  g_sown_plain : mg "sown_plain" = some (.ref (He.ga K "sown_plain"))
  g_sown : mg "sown" = some (.ref (He.ga K "sown"))
  g_first_emptied : mg "first_emptied" = some (.ref (He.ga K "first_emptied"))
  g_taken_back : mg "taken_back" = some (.ref (He.ga K "taken_back"))
  me_bk_board : Meth K (bC K) "board" (He.ma K (He.ga K "RingBook") "board")
  me_bk_plan : Meth K (bC K) "plan" (He.ma K (He.ga K "RingBook") "plan")
  me_bk_sown_in_all : Meth K (bC K) "sown_in_all" (He.ma K (He.ga K "RingBook") "sown_in_all")
  me_bk_came_again : Meth K (bC K) "came_again" (He.ma K (He.ga K "RingBook") "came_again")
  g__law_at : mg "_law_at" = some (.ref (He.ga K "_law_at"))
  g__law_folded : mg "_law_folded" = some (.ref (He.ga K "_law_folded"))
  g__law_board : mg "_law_board" = some (.ref (He.ga K "_law_board"))
  g__law_asked : mg "_law_asked" = some (.ref (He.ga K "_law_asked"))
  g__law_told : mg "_law_told" = some (.ref (He.ga K "_law_told"))
  g__law_due : mg "_law_due" = some (.ref (He.ga K "_law_due"))
  g__law_again : mg "_law_again" = some (.ref (He.ga K "_law_again"))
  g__law_as_kept : mg "_law_as_kept" = some (.ref (He.ga K "_law_as_kept"))
  g_law : mg "law" = some (.ref (He.ga K "law"))
  bk : BkF K
  d_bk_undo : ∃ fd, FunD K "undo" "RingBook.undo" (defArgs s_bk_undo) (defBody s_bk_undo) (defScope s_bk_undo) [] [] (He.ma K (He.ga K "RingBook") "undo") fd
  me_bk_undo : Meth K (bC K) "undo" (He.ma K (He.ga K "RingBook") "undo")
  d_bk_redo : ∃ fd, FunD K "redo" "RingBook.redo" (defArgs s_bk_redo) (defBody s_bk_redo) (defScope s_bk_redo) [] [] (He.ma K (He.ga K "RingBook") "redo") fd
  me_bk_redo : Meth K (bC K) "redo" (He.ma K (He.ga K "RingBook") "redo")
  d_bk_done : ∃ fd, FunD K "done_now" "RingBook.done_now" (defArgs s_bk_done) (defBody s_bk_done) (defScope s_bk_done) [] [] (He.ma K (He.ga K "RingBook") "done_now") fd
  me_bk_done : Meth K (bC K) "done_now" (He.ma K (He.ga K "RingBook") "done_now")
  d_bk_sow : ∃ fd, FunD K "sow" "RingBook.sow" (defArgs s_bk_sow) (defBody s_bk_sow) (defScope s_bk_sow) [] [] (He.ma K (He.ga K "RingBook") "sow") fd
  me_bk_sow : Meth K (bC K) "sow" (He.ma K (He.ga K "RingBook") "sow")
  d_bk_back : ∃ fd, FunD K "back" "RingBook.back" (defArgs s_bk_back) (defBody s_bk_back) (defScope s_bk_back) [] [] (He.ma K (He.ga K "RingBook") "back") fd
  me_bk_back : Meth K (bC K) "back" (He.ma K (He.ga K "RingBook") "back")
  d_bk_init : ∃ fd, FunD K "__init__" "RingBook.__init__" (defArgs s_bk_init) (defBody s_bk_init) (defScope s_bk_init) [] [] (He.ma K (He.ga K "RingBook") "__init__") fd
  me_bk_init : Meth K (bC K) "__init__" (He.ma K (He.ga K "RingBook") "__init__")
  mk_bk : Mk K (bC K) (He.ma K (He.ga K "RingBook") "__init__")
  g_bk : mg "RingBook" = some (.ref (bC K))
  d_bk_board : ∃ fd, FunD K "board" "RingBook.board" (defArgs s_bk_board) (defBody s_bk_board) (defScope s_bk_board) [] [] (He.ma K (He.ga K "RingBook") "board") fd
  d_bk_plan : ∃ fd, FunD K "plan" "RingBook.plan" (defArgs s_bk_plan) (defBody s_bk_plan) (defScope s_bk_plan) [] [] (He.ma K (He.ga K "RingBook") "plan") fd
  d_bk_sown_in_all : ∃ fd, FunD K "sown_in_all" "RingBook.sown_in_all" (defArgs s_bk_sown_in_all) (defBody s_bk_sown_in_all) (defScope s_bk_sown_in_all) [] [] (He.ma K (He.ga K "RingBook") "sown_in_all") fd
  d_bk_came_again : ∃ fd, FunD K "came_again" "RingBook.came_again" (defArgs s_bk_came_again) (defBody s_bk_came_again) (defScope s_bk_came_again) [] [] (He.ma K (He.ga K "RingBook") "came_again") fd
  d_ask_board : ∃ fd, FunD K "ask_board" "ask_board" (defArgs s_ask_board) (defBody s_ask_board) (defScope s_ask_board) [] [] (He.ga K "ask_board") fd
  d_ask_pit : ∃ fd, FunD K "ask_pit" "ask_pit" (defArgs s_ask_pit) (defBody s_ask_pit) (defScope s_ask_pit) [] [] (He.ga K "ask_pit") fd
  d_ask_seeds : ∃ fd, FunD K "ask_seeds" "ask_seeds" (defArgs s_ask_seeds) (defBody s_ask_seeds) (defScope s_ask_seeds) [] [] (He.ga K "ask_seeds") fd
  d_put_round : ∃ fd, FunD K "put_round" "put_round" (defArgs s_put_round) (defBody s_put_round) (defScope s_put_round) [] [] (He.ga K "put_round") fd
  d_sown_plain : ∃ fd, FunD K "sown_plain" "sown_plain" (defArgs s_sown_plain) (defBody s_sown_plain) (defScope s_sown_plain) [] [] (He.ga K "sown_plain") fd
  d_sown : ∃ fd, FunD K "sown" "sown" (defArgs s_sown) (defBody s_sown) (defScope s_sown) [] [] (He.ga K "sown") fd
  d_first_emptied : ∃ fd, FunD K "first_emptied" "first_emptied" (defArgs s_first_emptied) (defBody s_first_emptied) (defScope s_first_emptied) [] [] (He.ga K "first_emptied") fd
  d_taken_back : ∃ fd, FunD K "taken_back" "taken_back" (defArgs s_taken_back) (defBody s_taken_back) (defScope s_taken_back) [] [] (He.ga K "taken_back") fd
  d__law_at : ∃ fd, FunD K "_law_at" "_law_at" (defArgs s__law_at) (defBody s__law_at) (defScope s__law_at) [] [] (He.ga K "_law_at") fd
  d__law_folded : ∃ fd, FunD K "_law_folded" "_law_folded" (defArgs s__law_folded) (defBody s__law_folded) (defScope s__law_folded) [] [] (He.ga K "_law_folded") fd
  d__law_board : ∃ fd, FunD K "_law_board" "_law_board" (defArgs s__law_board) (defBody s__law_board) (defScope s__law_board) [] [] (He.ga K "_law_board") fd
  d__law_asked : ∃ fd, FunD K "_law_asked" "_law_asked" (defArgs s__law_asked) (defBody s__law_asked) (defScope s__law_asked) [] [] (He.ga K "_law_asked") fd
  d__law_told : ∃ fd, FunD K "_law_told" "_law_told" (defArgs s__law_told) (defBody s__law_told) (defScope s__law_told) [] [] (He.ga K "_law_told") fd
  d__law_due : ∃ fd, FunD K "_law_due" "_law_due" (defArgs s__law_due) (defBody s__law_due) (defScope s__law_due) [] [] (He.ga K "_law_due") fd
  d__law_again : ∃ fd, FunD K "_law_again" "_law_again" (defArgs s__law_again) (defBody s__law_again) (defScope s__law_again) [] [] (He.ga K "_law_again") fd
  d__law_as_kept : ∃ fd, FunD K "_law_as_kept" "_law_as_kept" (defArgs s__law_as_kept) (defBody s__law_as_kept) (defScope s__law_as_kept) [] [] (He.ga K "_law_as_kept") fd
  d_law : ∃ fd, FunD K "law" "law" (defArgs s_law) (defBody s_law) (defScope s_law) [] [] (He.ga K "law") fd
  f_ValueError : mg "ValueError" = none
  f_bool : mg "bool" = none
  f_int : mg "int" = none
  f_isinstance : mg "isinstance" = none
  f_len : mg "len" = none
  f_list : mg "list" = none
  f_min : mg "min" = none
  f_range : mg "range" = none
  f_sorted : mg "sorted" = none
  f_sum : mg "sum" = none
  c_FEWEST_PITS : ∃ t, mg "FEWEST_PITS" = some (.int (2) t)
  c_MOST_PITS : ∃ t, mg "MOST_PITS" = some (.int (24) t)
  c_MOST_SEEDS : ∃ t, mg "MOST_SEEDS" = some (.int (10 ^ 60) t)
  g_SowError : mg "SowError" = some (.ref (He.ga K "SowError"))
  k_SowError : knB K .SowError = true
  x_SowError : PySem.W.excIn K (He.ga K "SowError") He.veBase "ValueError.__new__" = true ∧ PySem.W.keepIn K (.ref (He.ga K "SowError")) = true ∧ PySem.W.subIn K (.ref (He.ga K "SowError")) (.type "BaseException") = some true ∧ PySem.W.typeIn K (.ref (He.ga K "SowError")) = some (.type "type")
  g_BadBoard : mg "BadBoard" = some (.ref (He.ga K "BadBoard"))
  k_BadBoard : knB K .BadBoard = true
  x_BadBoard : PySem.W.excIn K (He.ga K "BadBoard") He.veBase "ValueError.__new__" = true ∧ PySem.W.keepIn K (.ref (He.ga K "BadBoard")) = true ∧ PySem.W.subIn K (.ref (He.ga K "BadBoard")) (.type "BaseException") = some true ∧ PySem.W.typeIn K (.ref (He.ga K "BadBoard")) = some (.type "type")
  g_BadPit : mg "BadPit" = some (.ref (He.ga K "BadPit"))
  k_BadPit : knB K .BadPit = true
  x_BadPit : PySem.W.excIn K (He.ga K "BadPit") He.veBase "ValueError.__new__" = true ∧ PySem.W.keepIn K (.ref (He.ga K "BadPit")) = true ∧ PySem.W.subIn K (.ref (He.ga K "BadPit")) (.type "BaseException") = some true ∧ PySem.W.typeIn K (.ref (He.ga K "BadPit")) = some (.type "type")
  g_NoSeeds : mg "NoSeeds" = some (.ref (He.ga K "NoSeeds"))
  k_NoSeeds : knB K .NoSeeds = true
  x_NoSeeds : PySem.W.excIn K (He.ga K "NoSeeds") He.veBase "ValueError.__new__" = true ∧ PySem.W.keepIn K (.ref (He.ga K "NoSeeds")) = true ∧ PySem.W.subIn K (.ref (He.ga K "NoSeeds")) (.type "BaseException") = some true ∧ PySem.W.typeIn K (.ref (He.ga K "NoSeeds")) = some (.type "type")
  g_NoDeed : mg "NoDeed" = some (.ref (He.ga K "NoDeed"))
  k_NoDeed : knB K .NoDeed = true
  x_NoDeed : PySem.W.excIn K (He.ga K "NoDeed") He.veBase "ValueError.__new__" = true ∧ PySem.W.keepIn K (.ref (He.ga K "NoDeed")) = true ∧ PySem.W.subIn K (.ref (He.ga K "NoDeed")) (.type "BaseException") = some true ∧ PySem.W.typeIn K (.ref (He.ga K "NoDeed")) = some (.type "type")
  cfs : ∀ c ∈ ([.SowError, .BadBoard, .BadPit, .NoSeeds, .NoDeed] : List Cn), Cf K c
  cf_SowError : Cf K .SowError
  cf_BadBoard : Cf K .BadBoard
  cf_BadPit : Cf K .BadPit
  cf_NoSeeds : Cf K .NoSeeds
  cf_NoDeed : Cf K .NoDeed
  exm_SowError : ∀ c ∈ ([.SowError, .BadBoard, .BadPit, .NoSeeds, .NoDeed] : List Cn), PySem.W.exmOne K (.ref (He.ga K c.nm)) (.ref (He.ga K "SowError")) = some true
  only : ∀ c, knB K c = true → c ∈ ([.SowError, .BadBoard, .BadPit, .NoSeeds, .NoDeed] : List Cn)
  m_SowError : PySem.W.findIn K (.ref (He.ga K "SowError")) "called" = some (some (.ref (He.ma K (He.ga K "SowError") "called"))) ∧ PySem.W.isFn K (.ref (He.ma K (He.ga K "SowError") "called")) = true ∧ PySem.W.keepIn K (.ref (He.ma K (He.ga K "SowError") "called")) = true
  dc_SowError : ∃ fd, FunD K "called" "SowError.called" (defArgs s_cSowError) (defBody s_cSowError) (defScope s_cSowError) [] [] (He.ma K (He.ga K "SowError") "called") fd
  m_BadBoard : PySem.W.findIn K (.ref (He.ga K "BadBoard")) "called" = some (some (.ref (He.ma K (He.ga K "BadBoard") "called"))) ∧ PySem.W.isFn K (.ref (He.ma K (He.ga K "BadBoard") "called")) = true ∧ PySem.W.keepIn K (.ref (He.ma K (He.ga K "BadBoard") "called")) = true
  dc_BadBoard : ∃ fd, FunD K "called" "BadBoard.called" (defArgs s_cBadBoard) (defBody s_cBadBoard) (defScope s_cBadBoard) [] [] (He.ma K (He.ga K "BadBoard") "called") fd
  m_BadPit : PySem.W.findIn K (.ref (He.ga K "BadPit")) "called" = some (some (.ref (He.ma K (He.ga K "BadPit") "called"))) ∧ PySem.W.isFn K (.ref (He.ma K (He.ga K "BadPit") "called")) = true ∧ PySem.W.keepIn K (.ref (He.ma K (He.ga K "BadPit") "called")) = true
  dc_BadPit : ∃ fd, FunD K "called" "BadPit.called" (defArgs s_cBadPit) (defBody s_cBadPit) (defScope s_cBadPit) [] [] (He.ma K (He.ga K "BadPit") "called") fd
  m_NoSeeds : PySem.W.findIn K (.ref (He.ga K "NoSeeds")) "called" = some (some (.ref (He.ma K (He.ga K "NoSeeds") "called"))) ∧ PySem.W.isFn K (.ref (He.ma K (He.ga K "NoSeeds") "called")) = true ∧ PySem.W.keepIn K (.ref (He.ma K (He.ga K "NoSeeds") "called")) = true
  dc_NoSeeds : ∃ fd, FunD K "called" "NoSeeds.called" (defArgs s_cNoSeeds) (defBody s_cNoSeeds) (defScope s_cNoSeeds) [] [] (He.ma K (He.ga K "NoSeeds") "called") fd
  m_NoDeed : PySem.W.findIn K (.ref (He.ga K "NoDeed")) "called" = some (some (.ref (He.ma K (He.ga K "NoDeed") "called"))) ∧ PySem.W.isFn K (.ref (He.ma K (He.ga K "NoDeed") "called")) = true ∧ PySem.W.keepIn K (.ref (He.ma K (He.ga K "NoDeed") "called")) = true
  dc_NoDeed : ∃ fd, FunD K "called" "NoDeed.called" (defArgs s_cNoDeed) (defBody s_cNoDeed) (defScope s_cNoDeed) [] [] (He.ma K (He.ga K "NoDeed") "called") fd
section
variable {P : Program} {w : World} {K : PySem.W.Frag} {mg : Str → Option Value} {base : Heap}
theorem sc_cSowError : FnScope ["self"] ["self"] (defScope s_cSowError) := ⟨rfl, rfl, rfl, by decide +kernel, rfl, by decide +kernel, by decide +kernel⟩
theorem ok_cSowError (T : Hd K mg) : ∃ fd, Binds K fd ["self"] [] ∧ FnOk P w K mg base (L2.CX P w) 1 (He.ma K (He.ga K "SowError") "called") fd ["self"] (spCalled .SowError) := by
  obtain ⟨fd, F⟩ := T.dc_SowError
  refine ⟨fd, F.bindsN fun _ _ _ _ _ _ us hl => match us, hl with | [_], _ => rfl, ?_⟩
  refine F.ok sc_cSowError (fun vs H Q E h => ?_) (fun cdv A outer s H vs Q E hr h => ?_)
  · obtain ⟨⟨v, rfl⟩, _⟩ := h
    rfl
  · obtain ⟨⟨v, rfl⟩, hQ⟩ := h
    exact ⟨_, pss_one (ps_ret pe_str), hQ⟩
theorem sc_cBadBoard : FnScope ["self"] ["self"] (defScope s_cBadBoard) := ⟨rfl, rfl, rfl, by decide +kernel, rfl, by decide +kernel, by decide +kernel⟩
theorem ok_cBadBoard (T : Hd K mg) : ∃ fd, Binds K fd ["self"] [] ∧ FnOk P w K mg base (L2.CX P w) 1 (He.ma K (He.ga K "BadBoard") "called") fd ["self"] (spCalled .BadBoard) := by
  obtain ⟨fd, F⟩ := T.dc_BadBoard
  refine ⟨fd, F.bindsN fun _ _ _ _ _ _ us hl => match us, hl with | [_], _ => rfl, ?_⟩
  refine F.ok sc_cBadBoard (fun vs H Q E h => ?_) (fun cdv A outer s H vs Q E hr h => ?_)
  · obtain ⟨⟨v, rfl⟩, _⟩ := h
    rfl
  · obtain ⟨⟨v, rfl⟩, hQ⟩ := h
    exact ⟨_, pss_one (ps_ret pe_str), hQ⟩
theorem sc_cBadPit : FnScope ["self"] ["self"] (defScope s_cBadPit) := ⟨rfl, rfl, rfl, by decide +kernel, rfl, by decide +kernel, by decide +kernel⟩
theorem ok_cBadPit (T : Hd K mg) : ∃ fd, Binds K fd ["self"] [] ∧ FnOk P w K mg base (L2.CX P w) 1 (He.ma K (He.ga K "BadPit") "called") fd ["self"] (spCalled .BadPit) := by
  obtain ⟨fd, F⟩ := T.dc_BadPit
  refine ⟨fd, F.bindsN fun _ _ _ _ _ _ us hl => match us, hl with | [_], _ => rfl, ?_⟩
  refine F.ok sc_cBadPit (fun vs H Q E h => ?_) (fun cdv A outer s H vs Q E hr h => ?_)
  · obtain ⟨⟨v, rfl⟩, _⟩ := h
    rfl
  · obtain ⟨⟨v, rfl⟩, hQ⟩ := h
    exact ⟨_, pss_one (ps_ret pe_str), hQ⟩
theorem sc_cNoSeeds : FnScope ["self"] ["self"] (defScope s_cNoSeeds) := ⟨rfl, rfl, rfl, by decide +kernel, rfl, by decide +kernel, by decide +kernel⟩
theorem ok_cNoSeeds (T : Hd K mg) : ∃ fd, Binds K fd ["self"] [] ∧ FnOk P w K mg base (L2.CX P w) 1 (He.ma K (He.ga K "NoSeeds") "called") fd ["self"] (spCalled .NoSeeds) := by
  obtain ⟨fd, F⟩ := T.dc_NoSeeds
  refine ⟨fd, F.bindsN fun _ _ _ _ _ _ us hl => match us, hl with | [_], _ => rfl, ?_⟩
  refine F.ok sc_cNoSeeds (fun vs H Q E h => ?_) (fun cdv A outer s H vs Q E hr h => ?_)
  · obtain ⟨⟨v, rfl⟩, _⟩ := h
    rfl
  · obtain ⟨⟨v, rfl⟩, hQ⟩ := h
    exact ⟨_, pss_one (ps_ret pe_str), hQ⟩
theorem sc_cNoDeed : FnScope ["self"] ["self"] (defScope s_cNoDeed) := ⟨rfl, rfl, rfl, by decide +kernel, rfl, by decide +kernel, by decide +kernel⟩
theorem ok_cNoDeed (T : Hd K mg) : ∃ fd, Binds K fd ["self"] [] ∧ FnOk P w K mg base (L2.CX P w) 1 (He.ma K (He.ga K "NoDeed") "called") fd ["self"] (spCalled .NoDeed) := by
  obtain ⟨fd, F⟩ := T.dc_NoDeed
  refine ⟨fd, F.bindsN fun _ _ _ _ _ _ us hl => match us, hl with | [_], _ => rfl, ?_⟩
  refine F.ok sc_cNoDeed (fun vs H Q E h => ?_) (fun cdv A outer s H vs Q E hr h => ?_)
  · obtain ⟨⟨v, rfl⟩, _⟩ := h
    rfl
  · obtain ⟨⟨v, rfl⟩, hQ⟩ := h
    exact ⟨_, pss_one (ps_ret pe_str), hQ⟩
theorem ok_called (T : Hd K mg) : MthX P w K mg base (L2.CX P w) 1 "called" (fun c => Cf K c) spCalled := by
  refine ⟨fun c h => ⟨h.ex.hg, h.ex.hk⟩, fun c h => ?_⟩
  have hc := T.only c h.kb
  simp only [List.mem_cons, List.not_mem_nil, or_false] at hc
  rcases hc with rfl | rfl | rfl | rfl | rfl
  · obtain ⟨fd, b, f⟩ := ok_cSowError (P := P) (w := w) (base := base) T
    exact ⟨_, fd, _, T.m_SowError.1, T.m_SowError.2.1, T.m_SowError.2.2, b, f⟩
  · obtain ⟨fd, b, f⟩ := ok_cBadBoard (P := P) (w := w) (base := base) T
    exact ⟨_, fd, _, T.m_BadBoard.1, T.m_BadBoard.2.1, T.m_BadBoard.2.2, b, f⟩
  · obtain ⟨fd, b, f⟩ := ok_cBadPit (P := P) (w := w) (base := base) T
    exact ⟨_, fd, _, T.m_BadPit.1, T.m_BadPit.2.1, T.m_BadPit.2.2, b, f⟩
  · obtain ⟨fd, b, f⟩ := ok_cNoSeeds (P := P) (w := w) (base := base) T
    exact ⟨_, fd, _, T.m_NoSeeds.1, T.m_NoSeeds.2.1, T.m_NoSeeds.2.2, b, f⟩
  · obtain ⟨fd, b, f⟩ := ok_cNoDeed (P := P) (w := w) (base := base) T
    exact ⟨_, fd, _, T.m_NoDeed.1, T.m_NoDeed.2.1, T.m_NoDeed.2.2, b, f⟩
abbrev N_ask_board : List Str := ["board"]
theorem sc_ask_board : FnScope N_ask_board ["board"] (defScope s_ask_board) := ⟨rfl, rfl, rfl, by decide +kernel, rfl, by decide +kernel, by decide +kernel⟩
theorem ok_ask_board (T : Hd K mg) : ∃ fd, PySem.W.keepIn K (.ref (He.ga K "ask_board")) = true ∧ Binds K fd ["board"] [] ∧ FnOk P w K mg base (L2.CX P w) 1 (He.ga K "ask_board") fd ["board"] (sp1 K m_ask_board) := by
  obtain ⟨fd, F⟩ := T.d_ask_board
  obtain ⟨t_FEWEST_PITS, c_FEWEST_PITS⟩ := T.c_FEWEST_PITS
  obtain ⟨t_MOST_PITS, c_MOST_PITS⟩ := T.c_MOST_PITS
  obtain ⟨t_MOST_SEEDS, c_MOST_SEEDS⟩ := T.c_MOST_SEEDS
  refine ⟨fd, F.kp, F.bindsN fun _ _ _ _ _ _ us hl => match us, hl with | [_], _ => rfl, ?_⟩
  refine F.ok sc_ask_board (fun vs H Q E h => ?_) (fun cdv A outer s H vs Q E hr h => ?_)
  · obtain ⟨v_board, board, rfl, r_board, hQ⟩ := h
    rfl
  · obtain ⟨v_board, board, rfl, r_board, hQ⟩ := h
    have tk : Takes (cxOf (L2.CX P w) P w K mg base N_ask_board "ask_board" (defScope s_ask_board) (He.ga K "ask_board") cdv A outer s H E) (fun cls d _ H => E cls d H) := takes_of rfl rfl rfl rfl
    refine ⟨_, (by exact (pss_cons (ps_if (PW.pt (pw_or (pt_cmpR op_lt (pe_callB call_len_seq rfl T.f_len PySem.boot_len (pa_cons (pv 0) pa_nil)) (pe_glob (v := .int (2)) rfl c_FEWEST_PITS ⟨_, rfl⟩) (nomark _)) (pw_or1 (pt_cmpR op_gt (pe_callB call_len_seq rfl T.f_len PySem.boot_len (pa_cons (pv 0) pa_nil)) (pe_glob (v := .int (24)) rfl c_MOST_PITS ⟨_, rfl⟩) (nomark _))))) (pss_one (ps_raise rfl tk (pmk_own PySem.F.excBase_ValueError T.x_BadBoard.1 T.g_BadBoard T.x_BadBoard.2.1 (raises_own T.x_BadBoard.2.2.1 T.x_BadBoard.2.2.2) (by exact rfl)))) pss_nil)
          (pss_one (ps_if (PW.pt (pw_or (pt_cmpR op_lt (pe_callB (cr_min rfl) rfl T.f_min (by decide +kernel) (pa_cons (pv 0) pa_nil)) pe_int (nomark _)) (pw_or1 (pt_cmpR op_gt (pe_callB (cr_sum rfl) rfl T.f_sum (by decide +kernel) (pa_cons (pv 0) pa_nil)) (pe_glob (v := .int (10 ^ 60)) rfl c_MOST_SEEDS ⟨_, rfl⟩) (nomark _))))) (pss_one (ps_raise rfl tk (pmk_own PySem.F.excBase_ValueError T.x_BadBoard.1 T.g_BadBoard T.x_BadBoard.2.1 (raises_own T.x_BadBoard.2.2.1 T.x_BadBoard.2.2.2) (by exact rfl)))) pss_nil)))), ?_⟩
    unfold m_ask_board at hQ
    first | with_reducible refine st_n ?_ | skip
    refine st_seq ?_
    refine s_if ?_ (Same.refl _) (Same.refl _) hQ ?_ ?_
    · exact (t_orP (t_test (F := H) (g_b0 (g_len (g_var (a := board) (Rp.mono (Same.refl _) r_board) (Same.refl _)) (Same.refl _)) g_int)) (t_test (F := H) (g_b0 (g_len (g_var (a := board) (Rp.mono (Same.refl _) r_board) (Same.refl _)) (Same.refl _)) g_int)))
    · intro F2 H3 nx1 e04 hQ
      replace hQ := if_t hQ
      replace r_board := Rp.mono nx1.ff r_board
      have hF5 := nx1.fh
      first | with_reducible refine st_n ?_ | skip
      exact raise_of (c := .BadBoard) hQ e04
    intro F2 H3 nx1 e04 hQ
    replace hQ := if_f hQ
    refine st_next ?_
    replace r_board := Rp.mono nx1.ff r_board
    have hF6 := nx1.fh
    first | with_reducible refine st_n ?_ | skip
    refine s_if ?_ hF6 e04 hQ ?_ ?_
    · exact (t_orP (t_test (F := H3) (g_b0 (g_min (g_var (a := board) (Rp.mono hF6 r_board) (Same.refl _)) (Same.refl _)) g_int)) (t_test (F := H3) (g_b0 (g_sum (g_var (a := board) (Rp.mono hF6 r_board) (Same.refl _)) (Same.refl _)) g_int)))
    · intro F10 H11 nx9 e012 hQ
      replace hQ := if_t hQ
      replace r_board := Rp.mono nx9.ff r_board
      have hF13 := nx9.fh
      first | with_reducible refine st_n ?_ | skip
      exact raise_of (c := .BadBoard) hQ e012
    intro F10 H11 nx9 e012 hQ
    replace hQ := if_f hQ
    refine st_next ?_
    replace r_board := Rp.mono nx9.ff r_board
    have hF14 := nx9.fh
    exact hQ V.non H11 e012 rfl

abbrev N_ask_pit : List Str := ["board", "pit"]
theorem sc_ask_pit : FnScope N_ask_pit ["board", "pit"] (defScope s_ask_pit) := ⟨rfl, rfl, rfl, by decide +kernel, rfl, by decide +kernel, by decide +kernel⟩
theorem ok_ask_pit (T : Hd K mg) : ∃ fd, PySem.W.keepIn K (.ref (He.ga K "ask_pit")) = true ∧ Binds K fd ["board", "pit"] [] ∧ FnOk P w K mg base (L2.CX P w) 1 (He.ga K "ask_pit") fd ["board", "pit"] (sp2 K m_ask_pit) := by
  obtain ⟨fd, F⟩ := T.d_ask_pit
  refine ⟨fd, F.kp, F.bindsN fun _ _ _ _ _ _ us hl => match us, hl with | [_, _], _ => rfl, ?_⟩
  refine F.ok sc_ask_pit (fun vs H Q E h => ?_) (fun cdv A outer s H vs Q E hr h => ?_)
  · obtain ⟨v_board, v_pit, board, pit, rfl, r_board, r_pit, hQ⟩ := h
    rfl
  · obtain ⟨v_board, v_pit, board, pit, rfl, r_board, r_pit, hQ⟩ := h
    obtain rfl : v_pit = V.int pit := r_pit
    have tk : Takes (cxOf (L2.CX P w) P w K mg base N_ask_pit "ask_pit" (defScope s_ask_pit) (He.ga K "ask_pit") cdv A outer s H E) (fun cls d _ H => E cls d H) := takes_of rfl rfl rfl rfl
    refine ⟨_, (by exact (pss_one (ps_if (PW.pt (pw_or (pt_cmpR op_lt (pv 1) pe_int (nomark _)) (pw_or1 (pt_cmpR op_ge (pv 1) (pe_callB call_len_seq rfl T.f_len PySem.boot_len (pa_cons (pv 0) pa_nil)) (nomark _))))) (pss_one (ps_raise rfl tk (pmk_own PySem.F.excBase_ValueError T.x_BadPit.1 T.g_BadPit T.x_BadPit.2.1 (raises_own T.x_BadPit.2.2.1 T.x_BadPit.2.2.2) (by exact rfl)))) pss_nil))), ?_⟩
    unfold m_ask_pit at hQ
    first | with_reducible refine st_n ?_ | skip
    refine s_if ?_ (Same.refl _) (Same.refl _) hQ ?_ ?_
    · exact (t_orP (t_test (F := H) (g_b0 (g_var (a := pit) rfl (Same.refl _)) g_int)) (t_test (F := H) (g_b0 (g_var (a := pit) rfl (Same.refl _)) (g_len (g_var (a := board) (Rp.mono (Same.refl _) r_board) (Same.refl _)) (Same.refl _)))))
    · intro F2 H3 nx1 e04 hQ
      replace hQ := if_t hQ
      replace r_board := Rp.mono nx1.ff r_board
      have hF5 := nx1.fh
      first | with_reducible refine st_n ?_ | skip
      exact raise_of (c := .BadPit) hQ e04
    intro F2 H3 nx1 e04 hQ
    replace hQ := if_f hQ
    refine st_next ?_
    replace r_board := Rp.mono nx1.ff r_board
    have hF6 := nx1.fh
    exact hQ V.non H3 e04 rfl

abbrev N_ask_seeds : List Str := ["board", "pit"]
theorem sc_ask_seeds : FnScope N_ask_seeds ["board", "pit"] (defScope s_ask_seeds) := ⟨rfl, rfl, rfl, by decide +kernel, rfl, by decide +kernel, by decide +kernel⟩
theorem ok_ask_seeds (T : Hd K mg) : ∃ fd, PySem.W.keepIn K (.ref (He.ga K "ask_seeds")) = true ∧ Binds K fd ["board", "pit"] [] ∧ FnOk P w K mg base (L2.CX P w) 2 (He.ga K "ask_seeds") fd ["board", "pit"] (sp2 K m_ask_seeds) := by
  obtain ⟨fd, F⟩ := T.d_ask_seeds
  obtain ⟨fd_ask_board, kp_ask_board, b_ask_board, G_ask_board⟩ := ok_ask_board (P := P) (w := w) (base := base) T
  obtain ⟨fd_ask_pit, kp_ask_pit, b_ask_pit, G_ask_pit⟩ := ok_ask_pit (P := P) (w := w) (base := base) T
  refine ⟨fd, F.kp, F.bindsN fun _ _ _ _ _ _ us hl => match us, hl with | [_, _], _ => rfl, ?_⟩
  refine F.ok sc_ask_seeds (fun vs H Q E h => ?_) (fun cdv A outer s H vs Q E hr h => ?_)
  · obtain ⟨v_board, v_pit, board, pit, rfl, r_board, r_pit, hQ⟩ := h
    rfl
  · obtain ⟨v_board, v_pit, board, pit, rfl, r_board, r_pit, hQ⟩ := h
    obtain rfl : v_pit = V.int pit := r_pit
    have tk : Takes (cxOf (L2.CX P w) P w K mg base N_ask_seeds "ask_seeds" (defScope s_ask_seeds) (He.ga K "ask_seeds") cdv A outer s H E) (fun cls d _ H => E cls d H) := takes_of rfl rfl rfl rfl
    refine ⟨_, (by exact (pss_cons (ps_expr (pe_callS G_ask_board (hr.mono (by decide)) rfl T.g_ask_board kp_ask_board b_ask_board (fun σ => passAt tk σ) (pa_cons (pv 0) pa_nil)))
          (pss_cons (ps_expr (pe_callS G_ask_pit (hr.mono (by decide)) rfl T.g_ask_pit kp_ask_pit b_ask_pit (fun σ => passAt tk σ) (pa_cons (pv 0) (pa_cons (pv 1) pa_nil))))
          (pss_one (ps_if (pt_cmpR op_eq (pe_ix ix_list (pv 0) (pv 1) (fun _ _ => rfl)) pe_int (nomark _)) (pss_one (ps_raise rfl tk (pmk_own PySem.F.excBase_ValueError T.x_NoSeeds.1 T.g_NoSeeds T.x_NoSeeds.2.1 (raises_own T.x_NoSeeds.2.2.1 T.x_NoSeeds.2.2.2) (by exact rfl)))) pss_nil))))), ?_⟩
    unfold m_ask_seeds at hQ
    first | with_reducible refine st_n ?_ | skip
    refine st_seq ?_
    refine s_drop ?_ (Same.refl _) (Same.refl _) hQ ?_
    · exact (g_im (Same.refl _) (g_call1 (ma := .ok board) (g_var (a := board) (Rp.mono (Same.refl _) r_board) (Same.refl _))))
    intro _ F2 H3 nx1 e04 hQ
    replace r_board := Rp.mono nx1.ff r_board
    have hF5 := nx1.fh
    first | with_reducible refine st_n ?_ | skip
    refine st_seq ?_
    refine s_drop ?_ hF5 e04 hQ ?_
    · exact (g_im (Same.refl _) (g_call2 (ma := .ok board) (mb := .ok pit) (g_var (a := board) (Rp.mono hF5 r_board) (Same.refl _)) (g_var (a := pit) rfl (Same.refl _))))
    intro _ F7 H8 nx6 e09 hQ
    replace r_board := Rp.mono nx6.ff r_board
    have hF10 := nx6.fh
    first | with_reducible refine st_n ?_ | skip
    refine s_if ?_ hF10 e09 hQ ?_ ?_
    · exact (t_test (F := H8) (g_eq (g_idx (g_var (a := board) (Rp.mono hF10 r_board) (Same.refl _)) (g_var (a := pit) rfl (Same.refl _)) (Same.refl _)) g_int))
    · intro F13 H14 nx12 e015 hQ
      replace hQ := if_t hQ
      replace r_board := Rp.mono nx12.ff r_board
      have hF16 := nx12.fh
      first | with_reducible refine st_n ?_ | skip
      exact raise_of (c := .NoSeeds) hQ e015
    intro F13 H14 nx12 e015 hQ
    replace hQ := if_f hQ
    refine st_next ?_
    replace r_board := Rp.mono nx12.ff r_board
    have hF17 := nx12.fh
    exact hQ V.non H14 e015 rfl

abbrev N_put_round : List Str := ["board", "pit", "seeds", "pits", "made", "step", "held"]
theorem sc_put_round : FnScope N_put_round ["board", "pit", "seeds"] (defScope s_put_round) := ⟨rfl, rfl, rfl, by decide +kernel, rfl, by decide +kernel, by decide +kernel⟩
theorem ok_put_round (T : Hd K mg) : ∃ fd, PySem.W.keepIn K (.ref (He.ga K "put_round")) = true ∧ Binds K fd ["board", "pit", "seeds"] [] ∧ FnOk P w K mg base (L2.CX P w) 1 (He.ga K "put_round") fd ["board", "pit", "seeds"] (sp3 K m_put_round) := by
  obtain ⟨fd, F⟩ := T.d_put_round
  refine ⟨fd, F.kp, F.bindsN fun _ _ _ _ _ _ us hl => match us, hl with | [_, _, _], _ => rfl, ?_⟩
  refine F.ok sc_put_round (fun vs H Q E h => ?_) (fun cdv A outer s H vs Q E hr h => ?_)
  · obtain ⟨v_board, v_pit, v_seeds, board, pit, seeds, rfl, r_board, r_pit, r_seeds, hQ⟩ := h
    rfl
  · obtain ⟨v_board, v_pit, v_seeds, board, pit, seeds, rfl, r_board, r_pit, r_seeds, hQ⟩ := h
    obtain rfl : v_pit = V.int pit := r_pit
    obtain rfl : v_seeds = V.int seeds := r_seeds
    have tk : Takes (cxOf (L2.CX P w) P w K mg base N_put_round "put_round" (defScope s_put_round) (He.ga K "put_round") cdv A outer s H E) (fun cls d _ H => E cls d H) := takes_of rfl rfl rfl rfl
    refine ⟨_, (by exact (pss_cons (ps_set (i := 3) sc_put_round.nd rfl (Or.inr rfl) (pe_callB call_len_seq rfl T.f_len PySem.boot_len (pa_cons (pv 0) pa_nil)))
          (pss_cons (ps_setLc (i := 4) (own := [("held", 6)]) (g := gName 6) (tt := tYes) rfl sc_put_round.nd rfl rfl (sw_true rfl rfl rfl (by decide +kernel)) (pi_list (pv 0)) (blkOk_by (N := N_put_round) (sc := defScope s_put_round) (by decide +kernel)) (fun _ _ _ _ _ => pg_name (i := 6) sc_put_round.nd rfl (Or.inl rfl)) (fun _ _ _ _ _ => pts_nil) (fun _ _ _ _ _ => (pe_op op_add (pv 6) (pe_op op_fdivW (pv 2) (pv 3)))))
          (pss_cons (ps_for (passes_of rfl) rfl (pi_range2 rfl T.f_range (pa_cons pe_int (pa_cons (pe_op op_add (pe_op op_mod (pv 2) (pv 3)) pe_int) pa_nil))) (pg_name (i := 5) sc_put_round.nd rfl (Or.inl rfl)) (pss_one (ps_augS (pv 4) (pe_op op_mod (pe_op op_add (pv 1) (pv 5)) (pv 3)) pget_list pe_int ip_add set_list)))
          (pss_one (ps_ret (pv 4))))))), ?_⟩
    unfold m_put_round at hQ
    first | with_reducible refine st_n ?_ | skip
    refine st_seq ?_
    refine s_asg ?_ (Same.refl _) (Same.refl _) hQ ?_
    · exact (g_sc (F' := H) (g_len (g_var (a := board) (Rp.mono (Same.refl _) r_board) (Same.refl _)) (Same.refl _)))
    intro pits v5 F2 H3 nx1 e04 r6 hQ
    replace r_board := Rp.mono nx1.ff r_board
    have hF7 := nx1.fh
    obtain rfl : v5 = V.int pits := r6
    first | with_reducible refine st_n ?_ | skip
    refine st_seq ?_
    refine s_asgI (b := false) ?_ hF7 e04 hQ ?_
    · exact (g_compI (i_list (g_var (a := board) (Rp.mono hF7 r_board) (Same.refl _)) (Same.refl _)) (fun held v16 F17 H18 f19 h20 hh21 rx22 => by
        obtain rfl : v16 = V.int held := rx22
        exact ⟨_, fun _ q => q, rfl, t_yes, (g_sc (F' := H18) (g_i0 (g_var (a := held) rfl (Same.refl _)) (g_div (g_var (a := seeds) rfl (Same.refl _)) (g_var (a := pits) rfl (Same.refl _)))))⟩))
    intro made p13 F9 H10 nx8 e011 o12 nw14 hQ
    replace r_board := Rp.mono nx8.ff r_board
    have hF24 := nx8.fh
    first | with_reducible refine st_n ?_ | skip
    refine st_seq ?_
    refine s_for ?_ hF24 e011 hQ ?_
    · exact (i_rng2 (g_sc (F' := H10) g_int) (g_sc (F' := H10) (g_i0 (g_mod (g_var (a := seeds) rfl (Same.refl _)) (g_var (a := pits) rfl (Same.refl _))) g_int)))
    intro xs31 J32 F28 H29 nx27 e030 ok33 hQ
    replace r_board := Rp.mono nx27.ff r_board
    replace o12 := o12.nx0 nx27
    have hF35 := nx27.fh
    replace hQ := wp_bdi hQ
    refine for_S ok33 (fun (made : (List Int)) σ40 H39 => ∃ (F36 : Hp) (j42 : Option V), σ40 = [some v_board, some (.int pit), some (.int seeds), some (.int pits), some (.ref p13), j42, none] ∧ Nx (fun q => q = p13 ∨ False) F28 H29 F36 H39 ∧ Same H H39 ∧ Own K H false F36 H39 p13 made) ?hku64 ?h0u64 hQ ?turnu64 ?doneu64
    case hku64 =>
      intro made σ9 H39 hI
      obtain ⟨F36, j42, rfl, nL37, e038, o41⟩ := hI
      exact nL37.ff.trans nL37.fh
    case h0u64 =>
      exact ⟨_, _, rfl, (Nx.refl' hF35), e030, o12⟩
    case turnu64 =>
      intro step l46 made v47 σ9 H39 H48 hI e49 rx50 hQ
      obtain ⟨F36, j42, rfl, nL37, e038, o41⟩ := hI
      have r_board := Rp.mono nL37.ff r_board
      have hF43 := nL37.fh
      have nA44 := nL37
      have nx51 : Nx0 F36 H39 (mix F36 H39 H48) H48 := Nx.mk' hF43 e49
      have e053 := e038.trans e49
      replace r_board := Rp.mono nx51.ff r_board
      replace o41 := o41.nx0 nx51
      replace nA44 := nA44.step0 nx51
      have hF54 := nx51.fh
      refine gn ?_
      obtain rfl : v47 = V.int step := rx50
      first | with_reducible refine st_n ?_ | skip
      refine s_augS (mi := modR (pit + step) pits) (m := .ok (1 : Int)) ?ha o41 ?hi ?he hF54 e053 hQ ?_
      case ha => exact at_var rfl
      case hi => exact (g_mod (g_i0 (g_var (a := pit) rfl (Same.refl _)) (g_var (a := step) rfl (Same.refl _))) (g_var (a := pits) rfl (Same.refl _)))
      case he => exact g_int
      intro made F57 H58 nx56 e059 o2 hQ
      replace r_board := Rp.mono nx56.ff r_board
      replace nA44 := nA44.step nx56 (fun q z => .inl (.inl z))
      have hF62 := nx56.fh
      replace o41 := o2
      exact ⟨made, ⟨_, _, rfl, nA44, e059, o41⟩, hQ⟩
    case doneu64 =>
      intro made σ9 H39 hI hQ
      obtain ⟨F36, j42, rfl, nL37, e038, o41⟩ := hI
      have r_board := Rp.mono nL37.ff r_board
      have hF43 := nL37.fh
      first | with_reducible refine st_n ?_ | skip
      refine s_ret ?_ e038 hQ (fun a h => h)
      exact (g_var (a := made) (o41.repI hF43) dif_le)

abbrev N_sown_plain : List Str := ["board", "pit", "emptied"]
theorem sc_sown_plain : FnScope N_sown_plain ["board", "pit"] (defScope s_sown_plain) := ⟨rfl, rfl, rfl, by decide +kernel, rfl, by decide +kernel, by decide +kernel⟩
theorem ok_sown_plain (T : Hd K mg) : ∃ fd, PySem.W.keepIn K (.ref (He.ga K "sown_plain")) = true ∧ Binds K fd ["board", "pit"] [] ∧ FnOk P w K mg base (L2.CX P w) 2 (He.ga K "sown_plain") fd ["board", "pit"] (sp2 K m_sown_plain) := by
  obtain ⟨fd, F⟩ := T.d_sown_plain
  obtain ⟨fd_put_round, kp_put_round, b_put_round, G_put_round⟩ := ok_put_round (P := P) (w := w) (base := base) T
  refine ⟨fd, F.kp, F.bindsN fun _ _ _ _ _ _ us hl => match us, hl with | [_, _], _ => rfl, ?_⟩
  refine F.ok sc_sown_plain (fun vs H Q E h => ?_) (fun cdv A outer s H vs Q E hr h => ?_)
  · obtain ⟨v_board, v_pit, board, pit, rfl, r_board, r_pit, hQ⟩ := h
    rfl
  · obtain ⟨v_board, v_pit, board, pit, rfl, r_board, r_pit, hQ⟩ := h
    obtain rfl : v_pit = V.int pit := r_pit
    have tk : Takes (cxOf (L2.CX P w) P w K mg base N_sown_plain "sown_plain" (defScope s_sown_plain) (He.ga K "sown_plain") cdv A outer s H E) (fun cls d _ H => E cls d H) := takes_of rfl rfl rfl rfl
    refine ⟨_, (by exact (pss_cons (ps_set (i := 2) sc_sown_plain.nd rfl (Or.inl rfl) (pe_callTy call_list_of rfl T.f_list (by decide +kernel) (pa_cons (pv 0) pa_nil)))
          (pss_cons (ps_asg pe_int (pg_sub (pv 2) (pv 1) set_list))
          (pss_one (ps_ret (pe_tup (pa_cons (pe_callS G_put_round (hr.mono (by decide)) rfl T.g_put_round kp_put_round b_put_round (fun σ => passAt tk σ) (pa_cons (pv 2) (pa_cons (pv 1) (pa_cons (pe_ix ix_list (pv 0) (pv 1) (fun _ _ => rfl)) pa_nil)))) (pa_cons (pe_op op_mod (pe_op op_add (pv 1) (pe_ix ix_list (pv 0) (pv 1) (fun _ _ => rfl))) (pe_callB call_len_seq rfl T.f_len PySem.boot_len (pa_cons (pv 0) pa_nil))) pa_nil)))))))), ?_⟩
    unfold m_sown_plain at hQ
    first | with_reducible refine st_n ?_ | skip
    refine st_seq ?_
    refine s_asgI (b := false) ?_ (Same.refl _) (Same.refl _) hQ ?_
    · exact (g_listI (g_var (a := board) (Rp.mono (Same.refl _) r_board) (Same.refl _)))
    intro emptied p6 F2 H3 nx1 e04 o5 nw7 hQ
    replace r_board := Rp.mono nx1.ff r_board
    have hF8 := nx1.fh
    first | with_reducible refine st_n ?_ | skip
    refine st_seq ?_
    refine s_set (m := .ok (0 : Int)) (mi := .ok pit) ?ha o5 ?he ?hi hF8 e04 hQ ?_
    case ha => exact at_var rfl
    case he => exact (g_sc (F' := H3) g_int)
    case hi => exact (g_var (a := pit) rfl (Same.refl _))
    intro emptied F10 H11 nx9 e012 o2 hQ
    replace r_board := Rp.mono nx9.ff r_board
    have hF13 := nx9.fh
    replace o5 := o2
    first | with_reducible refine st_n ?_ | skip
    refine s_ret ?_ e012 hQ (fun a h => h)
    exact (g_pair (g_call3 (ma := .ok emptied) (mb := .ok pit) (mc := idx board pit) (g_var (a := emptied) (o5.rep hF13) (Same.refl _)) (g_var (a := pit) rfl (Same.refl _)) (g_idx (g_var (a := board) (Rp.mono hF13 r_board) (Same.refl _)) (g_var (a := pit) rfl (Same.refl _)) (Same.refl _))) (g_sc (F' := H11) (g_mod (g_i0 (g_var (a := pit) rfl (Same.refl _)) (g_idx (g_var (a := board) (Rp.mono hF13 r_board) (Same.refl _)) (g_var (a := pit) rfl (Same.refl _)) (Same.refl _))) (g_len (g_var (a := board) (Rp.mono hF13 r_board) (Same.refl _)) (Same.refl _)))))

abbrev N_sown : List Str := ["board", "pit"]
theorem sc_sown : FnScope N_sown ["board", "pit"] (defScope s_sown) := ⟨rfl, rfl, rfl, by decide +kernel, rfl, by decide +kernel, by decide +kernel⟩
theorem ok_sown (T : Hd K mg) : ∃ fd, PySem.W.keepIn K (.ref (He.ga K "sown")) = true ∧ Binds K fd ["board", "pit"] [] ∧ FnOk P w K mg base (L2.CX P w) 3 (He.ga K "sown") fd ["board", "pit"] (sp2 K m_sown) := by
  obtain ⟨fd, F⟩ := T.d_sown
  obtain ⟨fd_ask_seeds, kp_ask_seeds, b_ask_seeds, G_ask_seeds⟩ := ok_ask_seeds (P := P) (w := w) (base := base) T
  obtain ⟨fd_sown_plain, kp_sown_plain, b_sown_plain, G_sown_plain⟩ := ok_sown_plain (P := P) (w := w) (base := base) T
  refine ⟨fd, F.kp, F.bindsN fun _ _ _ _ _ _ us hl => match us, hl with | [_, _], _ => rfl, ?_⟩
  refine F.ok sc_sown (fun vs H Q E h => ?_) (fun cdv A outer s H vs Q E hr h => ?_)
  · obtain ⟨v_board, v_pit, board, pit, rfl, r_board, r_pit, hQ⟩ := h
    rfl
  · obtain ⟨v_board, v_pit, board, pit, rfl, r_board, r_pit, hQ⟩ := h
    obtain rfl : v_pit = V.int pit := r_pit
    have tk : Takes (cxOf (L2.CX P w) P w K mg base N_sown "sown" (defScope s_sown) (He.ga K "sown") cdv A outer s H E) (fun cls d _ H => E cls d H) := takes_of rfl rfl rfl rfl
    refine ⟨_, (by exact (pss_cons (ps_expr (pe_callS G_ask_seeds (hr.mono (by decide)) rfl T.g_ask_seeds kp_ask_seeds b_ask_seeds (fun σ => passAt tk σ) (pa_cons (pv 0) (pa_cons (pv 1) pa_nil))))
          (pss_one (ps_ret (pe_callS G_sown_plain (hr.mono (by decide)) rfl T.g_sown_plain kp_sown_plain b_sown_plain (fun σ => passAt tk σ) (pa_cons (pv 0) (pa_cons (pv 1) pa_nil))))))), ?_⟩
    unfold m_sown at hQ
    first | with_reducible refine st_n ?_ | skip
    refine st_seq ?_
    refine s_drop ?_ (Same.refl _) (Same.refl _) hQ ?_
    · exact (g_im (Same.refl _) (g_call2 (ma := .ok board) (mb := .ok pit) (g_var (a := board) (Rp.mono (Same.refl _) r_board) (Same.refl _)) (g_var (a := pit) rfl (Same.refl _))))
    intro _ F2 H3 nx1 e04 hQ
    replace r_board := Rp.mono nx1.ff r_board
    have hF5 := nx1.fh
    first | with_reducible refine st_n ?_ | skip
    refine s_ret ?_ e04 hQ (fun a h => h)
    exact (g_call2 (ma := .ok board) (mb := .ok pit) (g_var (a := board) (Rp.mono hF5 r_board) (Same.refl _)) (g_var (a := pit) rfl (Same.refl _)))

abbrev N_first_emptied : List Str := ["board", "pit", "pits", "least", "steps"]
theorem sc_first_emptied : FnScope N_first_emptied ["board", "pit"] (defScope s_first_emptied) := ⟨rfl, rfl, rfl, by decide +kernel, rfl, by decide +kernel, by decide +kernel⟩
theorem ok_first_emptied (T : Hd K mg) : ∃ fd, PySem.W.keepIn K (.ref (He.ga K "first_emptied")) = true ∧ Binds K fd ["board", "pit"] [] ∧ FnOk P w K mg base (L2.CX P w) 1 (He.ga K "first_emptied") fd ["board", "pit"] (sp2 K m_first_emptied) := by
  obtain ⟨fd, F⟩ := T.d_first_emptied
  refine ⟨fd, F.kp, F.bindsN fun _ _ _ _ _ _ us hl => match us, hl with | [_, _], _ => rfl, ?_⟩
  refine F.ok sc_first_emptied (fun vs H Q E h => ?_) (fun cdv A outer s H vs Q E hr h => ?_)
  · obtain ⟨v_board, v_pit, board, pit, rfl, r_board, r_pit, hQ⟩ := h
    rfl
  · obtain ⟨v_board, v_pit, board, pit, rfl, r_board, r_pit, hQ⟩ := h
    obtain rfl : v_pit = V.int pit := r_pit
    have tk : Takes (cxOf (L2.CX P w) P w K mg base N_first_emptied "first_emptied" (defScope s_first_emptied) (He.ga K "first_emptied") cdv A outer s H E) (fun cls d _ H => E cls d H) := takes_of rfl rfl rfl rfl
    refine ⟨_, (by exact (pss_cons (ps_set (i := 2) sc_first_emptied.nd rfl (Or.inl rfl) (pe_callB call_len_seq rfl T.f_len PySem.boot_len (pa_cons (pv 0) pa_nil)))
          (pss_cons (ps_set (i := 3) sc_first_emptied.nd rfl (Or.inl rfl) (pe_callB (cr_min rfl) rfl T.f_min (by decide +kernel) (pa_cons (pv 0) pa_nil)))
          (pss_cons (ps_set (i := 4) sc_first_emptied.nd rfl (Or.inl rfl) pe_int)
          (pss_cons (ps_while (passes_of rfl) (pt_cmpR op_gt (pe_ix ix_list (pv 0) (pe_op op_mod (pe_op op_sub (pv 1) (pv 4)) (pv 2)) (fun _ _ => rfl)) (pv 3) (nomark _)) (pss_one (ps_aug (i := 4) sc_first_emptied.nd rfl (Or.inl rfl) pe_int ip_add)))
          (pss_one (ps_ret (pe_tup (pa_cons (pe_op op_mod (pe_op op_sub (pv 1) (pv 4)) (pv 2)) (pa_cons (pe_op op_add (pe_op op_mulV (pv 3) (pv 2)) (pv 4)) pa_nil)))))))))), ?_⟩
    unfold m_first_emptied at hQ
    first | with_reducible refine st_n ?_ | skip
    refine st_seq ?_
    refine s_asg ?_ (Same.refl _) (Same.refl _) hQ ?_
    · exact (g_sc (F' := H) (g_len (g_var (a := board) (Rp.mono (Same.refl _) r_board) (Same.refl _)) (Same.refl _)))
    intro pits v5 F2 H3 nx1 e04 r6 hQ
    replace r_board := Rp.mono nx1.ff r_board
    have hF7 := nx1.fh
    obtain rfl : v5 = V.int pits := r6
    first | with_reducible refine st_n ?_ | skip
    refine st_seq ?_
    refine s_asg ?_ hF7 e04 hQ ?_
    · exact (g_sc (F' := H3) (g_min (g_var (a := board) (Rp.mono hF7 r_board) (Same.refl _)) (Same.refl _)))
    intro least v12 F9 H10 nx8 e011 r13 hQ
    replace r_board := Rp.mono nx8.ff r_board
    have hF14 := nx8.fh
    obtain rfl : v12 = V.int least := r13
    first | with_reducible refine st_n ?_ | skip
    refine st_seq ?_
    refine s_asg ?_ hF14 e011 hQ ?_
    · exact (g_sc (F' := H10) g_int)
    intro steps v19 F16 H17 nx15 e018 r20 hQ
    replace r_board := Rp.mono nx15.ff r_board
    have hF21 := nx15.fh
    obtain rfl : v19 = V.int steps := r20
    first | with_reducible refine st_n ?_ | skip
    refine st_seq ?_
    replace hQ := wp_bdi hQ
    refine while_S (fun (steps : Int) σ26 H25 => ∃ (F22 : Hp), σ26 = [some v_board, some (.int pit), some (.int pits), some (.int least), some (.int steps)] ∧ Nx (fun _ => False) F16 H17 F22 H25 ∧ Same H H25) ?h0u46 hQ ?hcu46 ?hbu46 ?hdu46
    case h0u46 =>
      exact ⟨_, rfl, (Nx.refl' hF21), e018⟩
    case hcu46 =>
      intro steps σ9 H25 hI
      obtain ⟨F22, rfl, nL23, e024⟩ := hI
      have r_board := Rp.mono nL23.ff r_board
      have hF27 := nL23.fh
      exact ⟨e024, (t_test (F := H25) (g_b0 (g_idx (g_var (a := board) (Rp.mono hF27 r_board) (Same.refl _)) (g_mod (g_i0 (g_var (a := pit) rfl (Same.refl _)) (g_var (a := steps) rfl (Same.refl _))) (g_var (a := pits) rfl (Same.refl _))) (Same.refl _)) (g_var (a := least) rfl (Same.refl _))))⟩
    case hbu46 =>
      intro n9 steps σ9 H25 H31 hI e32 hQ
      obtain ⟨F22, rfl, nL23, e024⟩ := hI
      have r_board := Rp.mono nL23.ff r_board
      have hF27 := nL23.fh
      have nA28 := nL23
      have nx33 : Nx0 F22 H25 (mix F22 H25 H31) H31 := Nx.mk' hF27 e32
      have e034 := e024.trans e32
      replace r_board := Rp.mono nx33.ff r_board
      replace nA28 := nA28.step0 nx33
      have hF35 := nx33.fh
      first | with_reducible refine st_n ?_ | skip
      refine s_aug (m := .ok (1 : Int)) rfl ?_ hF35 e034 hQ ?_
      · exact g_int
      intro steps F38 H39 nx37 e040 hQ
      replace r_board := Rp.mono nx37.ff r_board
      replace nA28 := nA28.step0 nx37
      have hF41 := nx37.fh
      exact ⟨steps, ⟨_, rfl, nA28, e040⟩, hQ⟩
    case hdu46 =>
      intro steps σ9 H25 H31 hI e32 hQ
      obtain ⟨F22, rfl, nL23, e024⟩ := hI
      have r_board := Rp.mono nL23.ff r_board
      have hF27 := nL23.fh
      have nx33 : Nx0 F22 H25 (mix F22 H25 H31) H31 := Nx.mk' hF27 e32
      have e034 := e024.trans e32
      replace r_board := Rp.mono nx33.ff r_board
      have hF42 := nx33.fh
      first | with_reducible refine st_n ?_ | skip
      refine s_ret ?_ e034 hQ (fun a h => h)
      exact (g_im (Same.refl _) (g_pair (g_mod (g_i0 (g_var (a := pit) rfl (Same.refl _)) (g_var (a := steps) rfl (Same.refl _))) (g_var (a := pits) rfl (Same.refl _))) (g_i0 (g_mul (g_var (a := least) rfl (Same.refl _)) (g_var (a := pits) rfl (Same.refl _))) (g_var (a := steps) rfl (Same.refl _)))))

abbrev N_taken_back : List Str := ["board", "pit", "home", "seeds", "pits", "made", "step", "held"]
theorem sc_taken_back : FnScope N_taken_back ["board", "pit"] (defScope s_taken_back) := ⟨rfl, rfl, rfl, by decide +kernel, rfl, by decide +kernel, by decide +kernel⟩
theorem ok_taken_back (T : Hd K mg) : ∃ fd, PySem.W.keepIn K (.ref (He.ga K "taken_back")) = true ∧ Binds K fd ["board", "pit"] [] ∧ FnOk P w K mg base (L2.CX P w) 3 (He.ga K "taken_back") fd ["board", "pit"] (sp2 K m_taken_back) := by
  obtain ⟨fd, F⟩ := T.d_taken_back
  obtain ⟨fd_ask_seeds, kp_ask_seeds, b_ask_seeds, G_ask_seeds⟩ := ok_ask_seeds (P := P) (w := w) (base := base) T
  obtain ⟨fd_first_emptied, kp_first_emptied, b_first_emptied, G_first_emptied⟩ := ok_first_emptied (P := P) (w := w) (base := base) T
  refine ⟨fd, F.kp, F.bindsN fun _ _ _ _ _ _ us hl => match us, hl with | [_, _], _ => rfl, ?_⟩
  refine F.ok sc_taken_back (fun vs H Q E h => ?_) (fun cdv A outer s H vs Q E hr h => ?_)
  · obtain ⟨v_board, v_pit, board, pit, rfl, r_board, r_pit, hQ⟩ := h
    rfl
  · obtain ⟨v_board, v_pit, board, pit, rfl, r_board, r_pit, hQ⟩ := h
    obtain rfl : v_pit = V.int pit := r_pit
    have tk : Takes (cxOf (L2.CX P w) P w K mg base N_taken_back "taken_back" (defScope s_taken_back) (He.ga K "taken_back") cdv A outer s H E) (fun cls d _ H => E cls d H) := takes_of rfl rfl rfl rfl
    refine ⟨_, (by exact (pss_cons (ps_expr (pe_callS G_ask_seeds (hr.mono (by decide)) rfl T.g_ask_seeds kp_ask_seeds b_ask_seeds (fun σ => passAt tk σ) (pa_cons (pv 0) (pa_cons (pv 1) pa_nil))))
          (pss_cons (ps_asg (pe_callS G_first_emptied (hr.mono (by decide)) rfl T.g_first_emptied kp_first_emptied b_first_emptied (fun σ => passAt tk σ) (pa_cons (pv 0) (pa_cons (pv 1) pa_nil))) (pg_tup rfl (pgs_cons (pg_name (i := 2) sc_taken_back.nd rfl (Or.inl rfl)) (pgs_cons (pg_name (i := 3) sc_taken_back.nd rfl (Or.inr rfl)) pgs_nil))))
          (pss_cons (ps_set (i := 4) sc_taken_back.nd rfl (Or.inr rfl) (pe_callB call_len_seq rfl T.f_len PySem.boot_len (pa_cons (pv 0) pa_nil)))
          (pss_cons (ps_setLc (i := 5) (own := [("held", 7)]) (g := gName 7) (tt := tYes) rfl sc_taken_back.nd rfl rfl (sw_true rfl rfl rfl (by decide +kernel)) (pi_list (pv 0)) (blkOk_by (N := N_taken_back) (sc := defScope s_taken_back) (by decide +kernel)) (fun _ _ _ _ _ => pg_name (i := 7) sc_taken_back.nd rfl (Or.inl rfl)) (fun _ _ _ _ _ => pts_nil) (fun _ _ _ _ _ => (pe_op op_sub (pv 7) (pe_op op_fdivW (pv 3) (pv 4)))))
          (pss_cons (ps_for (passes_of rfl) rfl (pi_range1 rfl T.f_range (pa_cons (pe_op op_mod (pv 3) (pv 4)) pa_nil)) (pg_name (i := 6) sc_taken_back.nd rfl (Or.inl rfl)) (pss_one (ps_augS (pv 5) (pe_op op_mod (pe_op op_sub (pv 1) (pv 6)) (pv 4)) pget_list pe_int ip_sub set_list)))
          (pss_cons (ps_asg (pv 3) (pg_sub (pv 5) (pv 2) set_list))
          (pss_one (ps_ret (pe_tup (pa_cons (pv 5) (pa_cons (pv 2) pa_nil)))))))))))), ?_⟩
    unfold m_taken_back at hQ
    first | with_reducible refine st_n ?_ | skip
    refine st_seq ?_
    refine s_drop ?_ (Same.refl _) (Same.refl _) hQ ?_
    · exact (g_im (Same.refl _) (g_call2 (ma := .ok board) (mb := .ok pit) (g_var (a := board) (Rp.mono (Same.refl _) r_board) (Same.refl _)) (g_var (a := pit) rfl (Same.refl _))))
    intro _ F2 H3 nx1 e04 hQ
    replace r_board := Rp.mono nx1.ff r_board
    have hF5 := nx1.fh
    first | with_reducible refine st_n ?_ | skip
    refine st_seq ?_
    refine s_unp ?_ hF5 e04 hQ ?_
    · exact (g_im (Same.refl _) (g_call2 (ma := .ok board) (mb := .ok pit) (g_var (a := board) (Rp.mono hF5 r_board) (Same.refl _)) (g_var (a := pit) rfl (Same.refl _))))
    intro home seeds v10 v11 F7 H8 nx6 e09 r12 r13 hQ
    replace r_board := Rp.mono nx6.ff r_board
    have hF14 := nx6.fh
    obtain rfl : v10 = V.int home := r12
    obtain rfl : v11 = V.int seeds := r13
    first | with_reducible refine st_n ?_ | skip
    refine st_seq ?_
    refine s_asg ?_ hF14 e09 hQ ?_
    · exact (g_sc (F' := H8) (g_len (g_var (a := board) (Rp.mono hF14 r_board) (Same.refl _)) (Same.refl _)))
    intro pits v19 F16 H17 nx15 e018 r20 hQ
    replace r_board := Rp.mono nx15.ff r_board
    have hF21 := nx15.fh
    obtain rfl : v19 = V.int pits := r20
    first | with_reducible refine st_n ?_ | skip
    refine st_seq ?_
    refine s_asgI (b := false) ?_ hF21 e018 hQ ?_
    · exact (g_compI (i_list (g_var (a := board) (Rp.mono hF21 r_board) (Same.refl _)) (Same.refl _)) (fun held v30 F31 H32 f33 h34 hh35 rx36 => by
        obtain rfl : v30 = V.int held := rx36
        exact ⟨_, fun _ q => q, rfl, t_yes, (g_sc (F' := H32) (g_i0 (g_var (a := held) rfl (Same.refl _)) (g_div (g_var (a := seeds) rfl (Same.refl _)) (g_var (a := pits) rfl (Same.refl _)))))⟩))
    intro made p27 F23 H24 nx22 e025 o26 nw28 hQ
    replace r_board := Rp.mono nx22.ff r_board
    have hF38 := nx22.fh
    first | with_reducible refine st_n ?_ | skip
    refine st_seq ?_
    refine s_for ?_ hF38 e025 hQ ?_
    · exact (i_rng1 (g_sc (F' := H24) (g_mod (g_var (a := seeds) rfl (Same.refl _)) (g_var (a := pits) rfl (Same.refl _)))))
    intro xs44 J45 F41 H42 nx40 e043 ok46 hQ
    replace r_board := Rp.mono nx40.ff r_board
    replace o26 := o26.nx0 nx40
    have hF48 := nx40.fh
    replace hQ := wp_bdi hQ
    refine for_S ok46 (fun (made : (List Int)) σ53 H52 => ∃ (F49 : Hp) (j55 : Option V), σ53 = [some v_board, some (.int pit), some (.int home), some (.int seeds), some (.int pits), some (.ref p27), j55, none] ∧ Nx (fun q => q = p27 ∨ False) F41 H42 F49 H52 ∧ Same H H52 ∧ Own K H false F49 H52 p27 made) ?hku82 ?h0u82 hQ ?turnu82 ?doneu82
    case hku82 =>
      intro made σ9 H52 hI
      obtain ⟨F49, j55, rfl, nL50, e051, o54⟩ := hI
      exact nL50.ff.trans nL50.fh
    case h0u82 =>
      exact ⟨_, _, rfl, (Nx.refl' hF48), e043, o26⟩
    case turnu82 =>
      intro step l59 made v60 σ9 H52 H61 hI e62 rx63 hQ
      obtain ⟨F49, j55, rfl, nL50, e051, o54⟩ := hI
      have r_board := Rp.mono nL50.ff r_board
      have hF56 := nL50.fh
      have nA57 := nL50
      have nx64 : Nx0 F49 H52 (mix F49 H52 H61) H61 := Nx.mk' hF56 e62
      have e066 := e051.trans e62
      replace r_board := Rp.mono nx64.ff r_board
      replace o54 := o54.nx0 nx64
      replace nA57 := nA57.step0 nx64
      have hF67 := nx64.fh
      refine gn ?_
      obtain rfl : v60 = V.int step := rx63
      first | with_reducible refine st_n ?_ | skip
      refine s_augS (mi := modR (pit - step) pits) (m := .ok (1 : Int)) ?ha o54 ?hi ?he hF67 e066 hQ ?_
      case ha => exact at_var rfl
      case hi => exact (g_mod (g_i0 (g_var (a := pit) rfl (Same.refl _)) (g_var (a := step) rfl (Same.refl _))) (g_var (a := pits) rfl (Same.refl _)))
      case he => exact g_int
      intro made F70 H71 nx69 e072 o2 hQ
      replace r_board := Rp.mono nx69.ff r_board
      replace nA57 := nA57.step nx69 (fun q z => .inl (.inl z))
      have hF75 := nx69.fh
      replace o54 := o2
      exact ⟨made, ⟨_, _, rfl, nA57, e072, o54⟩, hQ⟩
    case doneu82 =>
      intro made σ9 H52 hI hQ
      obtain ⟨F49, j55, rfl, nL50, e051, o54⟩ := hI
      have r_board := Rp.mono nL50.ff r_board
      have hF56 := nL50.fh
      first | with_reducible refine st_n ?_ | skip
      refine st_seq ?_
      refine s_set (m := .ok seeds) (mi := .ok home) ?ha o54 ?he ?hi hF56 e051 hQ ?_
      case ha => exact at_var rfl
      case he => exact (g_var (a := seeds) rfl hF56)
      case hi => exact (g_var (a := home) rfl (Same.refl _))
      intro made F77 H78 nx76 e079 o2 hQ
      replace r_board := Rp.mono nx76.ff r_board
      have hF80 := nx76.fh
      replace o54 := o2
      first | with_reducible refine st_n ?_ | skip
      refine s_ret ?_ e079 hQ (fun a h => h)
      exact (g_pair (g_var (a := made) (o54.repI hF80) dif_le) (g_var (a := home) rfl dif_le))

abbrev N_bk_board : List Str := ["self"]
theorem sc_bk_board : FnScope N_bk_board ["self"] (defScope s_bk_board) := ⟨rfl, rfl, rfl, by decide +kernel, rfl, by decide +kernel, by decide +kernel⟩
theorem ok_bk_board (T : Hd K mg) : ∃ fd, PySem.W.keepIn K (.ref (He.ma K (He.ga K "RingBook") "board")) = true ∧ Binds K fd ["self"] [] ∧ FnOk P w K mg base (L2.CX P w) 1 (He.ma K (He.ga K "RingBook") "board") fd ["self"] (sp1 K m_bk_board) := by
  obtain ⟨fd, F⟩ := T.d_bk_board
  refine ⟨fd, F.kp, F.bindsN fun _ _ _ _ _ _ us hl => match us, hl with | [_], _ => rfl, ?_⟩
  refine F.ok sc_bk_board (fun vs H Q E h => ?_) (fun cdv A outer s H vs Q E hr h => ?_)
  · obtain ⟨v_self, self, rfl, r_self, hQ⟩ := h
    rfl
  · obtain ⟨v_self, self, rfl, r_self, hQ⟩ := h
    have tk : Takes (cxOf (L2.CX P w) P w K mg base N_bk_board "RingBook.board" (defScope s_bk_board) (He.ma K (He.ga K "RingBook") "board") cdv A outer s H E) (fun cls d _ H => E cls d H) := takes_of rfl rfl rfl rfl
    refine ⟨_, (by exact (pss_one (ps_ret (pe_callTy call_list_of rfl T.f_list (by decide +kernel) (pa_cons (pe_ix ix_list (pe_fld (pv 0) rfl) (pe_un un_neg pe_int) (fun _ _ => rfl)) pa_nil))))), ?_⟩
    unfold m_bk_board at hQ
    first | with_reducible refine st_n ?_ | skip
    refine s_ret ?_ (Same.refl _) hQ (fun a h => h)
    exact (g_listI (g_idx (g_fB T.bk (g_var (a := self) (Rp.mono (Same.refl _) r_self) (Same.refl _)) (Same.refl _)) (g_neg g_int) (Same.refl _)))

abbrev N_bk_plan : List Str := ["self", "deed"]
theorem sc_bk_plan : FnScope N_bk_plan ["self"] (defScope s_bk_plan) := ⟨rfl, rfl, rfl, by decide +kernel, rfl, by decide +kernel, by decide +kernel⟩
theorem ok_bk_plan (T : Hd K mg) : ∃ fd, PySem.W.keepIn K (.ref (He.ma K (He.ga K "RingBook") "plan")) = true ∧ Binds K fd ["self"] [] ∧ FnOk P w K mg base (L2.CX P w) 1 (He.ma K (He.ga K "RingBook") "plan") fd ["self"] (sp1 K m_bk_plan) := by
  obtain ⟨fd, F⟩ := T.d_bk_plan
  refine ⟨fd, F.kp, F.bindsN fun _ _ _ _ _ _ us hl => match us, hl with | [_], _ => rfl, ?_⟩
  refine F.ok sc_bk_plan (fun vs H Q E h => ?_) (fun cdv A outer s H vs Q E hr h => ?_)
  · obtain ⟨v_self, self, rfl, r_self, hQ⟩ := h
    rfl
  · obtain ⟨v_self, self, rfl, r_self, hQ⟩ := h
    have tk : Takes (cxOf (L2.CX P w) P w K mg base N_bk_plan "RingBook.plan" (defScope s_bk_plan) (He.ma K (He.ga K "RingBook") "plan") cdv A outer s H E) (fun cls d _ H => E cls d H) := takes_of rfl rfl rfl rfl
    refine ⟨_, (by exact (pss_one (ps_ret (pe_lc (own := [("deed", 1)]) (g := gName 1) (tt := tYes) rfl sc_bk_plan.nd (pi_list (pe_fld (pv 0) rfl)) (blkOk_by (N := N_bk_plan) (sc := defScope s_bk_plan) (by decide +kernel)) (fun _ _ _ _ _ => pg_name (i := 1) sc_bk_plan.nd rfl (Or.inl rfl)) (fun _ _ _ _ _ => pts_nil) (fun _ _ _ _ _ => (pe_tup (pa_cons (pe_ix (ix_tupK (K := K) rfl) (pv 1) pe_int (fun _ _ => rfl)) (pa_cons (pe_ix (ix_tupK (K := K) rfl) (pv 1) pe_int (fun _ _ => rfl)) pa_nil)))))))), ?_⟩
    unfold m_bk_plan at hQ
    first | with_reducible refine st_n ?_ | skip
    refine s_ret ?_ (Same.refl _) hQ (fun a h => h)
    exact (g_compI (i_list (g_fD T.bk (g_var (a := self) (Rp.mono (Same.refl _) r_self) (Same.refl _)) (Same.refl _)) (Same.refl _)) (fun deed v2 F3 H4 f5 h6 hh7 rx8 => ⟨(wipe _ _).set 1 (some v2), fun _ q => q, rfl, t_yes, (g_im (Same.refl _) (g_pair (g_t3a (g_var (a := deed) (Rp.mono h6 rx8) (Same.refl _)) (Same.refl _)) (g_t3b (g_var (a := deed) (Rp.mono h6 rx8) (Same.refl _)) (Same.refl _))))⟩))

abbrev N_bk_sown_in_all : List Str := ["self", "deed"]
theorem sc_bk_sown_in_all : FnScope N_bk_sown_in_all ["self"] (defScope s_bk_sown_in_all) := ⟨rfl, rfl, rfl, by decide +kernel, rfl, by decide +kernel, by decide +kernel⟩
theorem ok_bk_sown_in_all (T : Hd K mg) : ∃ fd, PySem.W.keepIn K (.ref (He.ma K (He.ga K "RingBook") "sown_in_all")) = true ∧ Binds K fd ["self"] [] ∧ FnOk P w K mg base (L2.CX P w) 1 (He.ma K (He.ga K "RingBook") "sown_in_all") fd ["self"] (sp1 K m_bk_sown_in_all) := by
  obtain ⟨fd, F⟩ := T.d_bk_sown_in_all
  refine ⟨fd, F.kp, F.bindsN fun _ _ _ _ _ _ us hl => match us, hl with | [_], _ => rfl, ?_⟩
  refine F.ok sc_bk_sown_in_all (fun vs H Q E h => ?_) (fun cdv A outer s H vs Q E hr h => ?_)
  · obtain ⟨v_self, self, rfl, r_self, hQ⟩ := h
    rfl
  · obtain ⟨v_self, self, rfl, r_self, hQ⟩ := h
    have tk : Takes (cxOf (L2.CX P w) P w K mg base N_bk_sown_in_all "RingBook.sown_in_all" (defScope s_bk_sown_in_all) (He.ma K (He.ga K "RingBook") "sown_in_all") cdv A outer s H E) (fun cls d _ H => E cls d H) := takes_of rfl rfl rfl rfl
    refine ⟨_, (by exact (pss_one (ps_ret (pe_callB (cr_sum rfl) rfl T.f_sum (by decide +kernel) (pa_cons (pe_lc (own := [("deed", 1)]) (g := gName 1) (tt := tYes) rfl sc_bk_sown_in_all.nd (pi_list (pe_fld (pv 0) rfl)) (blkOk_by (N := N_bk_sown_in_all) (sc := defScope s_bk_sown_in_all) (by decide +kernel)) (fun _ _ _ _ _ => pg_name (i := 1) sc_bk_sown_in_all.nd rfl (Or.inl rfl)) (fun _ _ _ _ _ => pts_nil) (fun _ _ _ _ _ => (pe_ix (ix_tupK (K := K) rfl) (pv 1) pe_int (fun _ _ => rfl)))) pa_nil))))), ?_⟩
    unfold m_bk_sown_in_all at hQ
    first | with_reducible refine st_n ?_ | skip
    refine s_ret ?_ (Same.refl _) hQ (fun a h => h)
    exact (g_sc (F' := H) (g_sum (g_compI (i_list (g_fD T.bk (g_var (a := self) (Rp.mono (Same.refl _) r_self) (Same.refl _)) (Same.refl _)) (Same.refl _)) (fun deed v2 F3 H4 f5 h6 hh7 rx8 => ⟨(wipe _ _).set 1 (some v2), fun _ q => q, rfl, t_yes, (g_sc (F' := H4) (g_t3c (g_var (a := deed) (Rp.mono h6 rx8) (Same.refl _)) (Same.refl _)))⟩)) (Same.refl _)))

abbrev N_bk_came_again : List Str := ["self", "found", "later", "earlier"]
theorem sc_bk_came_again : FnScope N_bk_came_again ["self"] (defScope s_bk_came_again) := ⟨rfl, rfl, rfl, by decide +kernel, rfl, by decide +kernel, by decide +kernel⟩
theorem ok_bk_came_again (T : Hd K mg) : ∃ fd, PySem.W.keepIn K (.ref (He.ma K (He.ga K "RingBook") "came_again")) = true ∧ Binds K fd ["self"] [] ∧ FnOk P w K mg base (L2.CX P w) 1 (He.ma K (He.ga K "RingBook") "came_again") fd ["self"] (sp1 K m_bk_came_again) := by
  obtain ⟨fd, F⟩ := T.d_bk_came_again
  refine ⟨fd, F.kp, F.bindsN fun _ _ _ _ _ _ us hl => match us, hl with | [_], _ => rfl, ?_⟩
  refine F.ok sc_bk_came_again (fun vs H Q E h => ?_) (fun cdv A outer s H vs Q E hr h => ?_)
  · obtain ⟨v_self, self, rfl, r_self, hQ⟩ := h
    rfl
  · obtain ⟨v_self, self, rfl, r_self, hQ⟩ := h
    have tk : Takes (cxOf (L2.CX P w) P w K mg base N_bk_came_again "RingBook.came_again" (defScope s_bk_came_again) (He.ma K (He.ga K "RingBook") "came_again") cdv A outer s H E) (fun cls d _ H => E cls d H) := takes_of rfl rfl rfl rfl
    refine ⟨_, (by exact (pss_cons (ps_set (i := 1) sc_bk_came_again.nd rfl (Or.inl rfl) (pe_lst pa_nil))
          (pss_cons (ps_for (passes_of rfl) rfl (pi_range1 rfl T.f_range (pa_cons (pe_callB call_len_seq rfl T.f_len PySem.boot_len (pa_cons (pe_fld (pv 0) rfl) pa_nil)) pa_nil)) (pg_name (i := 2) sc_bk_came_again.nd rfl (Or.inl rfl)) (pss_cons (ps_set (i := 3) sc_bk_came_again.nd rfl (Or.inl rfl) (pe_op op_sub (pv 2) pe_int))
          (pss_cons (ps_while (passes_of rfl) (PW.pt (pw_and (pt_cmpR op_ge (pv 3) pe_int (nomark _)) (pw_and1 (pt_cmpR (op_neP hr.units) (pe_ix ix_list (pe_fld (pv 0) rfl) (pv 3) (fun _ _ => rfl)) (pe_ix ix_list (pe_fld (pv 0) rfl) (pv 2) (fun _ _ => rfl)) (nomark _))))) (pss_one (ps_aug (i := 3) sc_bk_came_again.nd rfl (Or.inl rfl) pe_int ip_sub)))
          (pss_one (ps_if (pt_cmpR op_ge (pv 3) pe_int (nomark _)) (pss_one (ps_expr (pe_bm PySem.F.plainAttrs_list PySem.F.slot_list_append PySem.F.type_list_append mt_append (pv 1) (pa_cons (pe_tup (pa_cons (pv 3) (pa_cons (pv 2) pa_nil))) pa_nil)))) pss_nil)))))
          (pss_one (ps_ret (pe_callB (cr_sortA (α := Int × Int) hr.units) rfl T.f_sorted (by decide +kernel) (pa_cons (pv 1) pa_nil))))))), ?_⟩
    unfold m_bk_came_again at hQ
    first | with_reducible refine st_n ?_ | skip
    refine st_seq ?_
    refine s_asgI (b := false) ?_ (Same.refl _) (Same.refl _) hQ ?_
    · exact (g_lstK a_nil (Nat.le_of_ble_eq_true rfl))
    intro found p6 F2 H3 nx1 e04 o5 nw7 hQ
    replace r_self := Rp.mono nx1.ff r_self
    have hF8 := nx1.fh
    first | with_reducible refine st_n ?_ | skip
    refine st_seq ?_
    refine s_for ?_ hF8 e04 hQ ?_
    · exact (i_rng1 (g_sc (F' := H3) (g_len (g_fB T.bk (g_var (a := self) (Rp.mono hF8 r_self) (Same.refl _)) (Same.refl _)) (Same.refl _))))
    intro xs13 J14 F10 H11 nx9 e012 ok15 hQ
    replace r_self := Rp.mono nx9.ff r_self
    replace o5 := o5.nx0 nx9
    have hF17 := nx9.fh
    replace hQ := wp_bdi hQ
    refine for_S ok15 (fun (found : (List (Int × Int))) σ22 H21 => ∃ (F18 : Hp) (j24 : Option V) (j25 : Option V), σ22 = [some v_self, some (.ref p6), j25, j24] ∧ Nx (fun q => q = p6 ∨ False) F10 H11 F18 H21 ∧ Same H H21 ∧ Own K H false F18 H21 p6 found) ?hku81 ?h0u81 hQ ?turnu81 ?doneu81
    case hku81 =>
      intro found σ9 H21 hI
      obtain ⟨F18, j24, j25, rfl, nL19, e020, o23⟩ := hI
      exact nL19.ff.trans nL19.fh
    case h0u81 =>
      exact ⟨_, _, _, rfl, (Nx.refl' hF17), e012, o5⟩
    case turnu81 =>
      intro later l29 found v30 σ9 H21 H31 hI e32 rx33 hQ
      obtain ⟨F18, j24, j25, rfl, nL19, e020, o23⟩ := hI
      have r_self := Rp.mono nL19.ff r_self
      have hF26 := nL19.fh
      have nA27 := nL19
      have nx34 : Nx0 F18 H21 (mix F18 H21 H31) H31 := Nx.mk' hF26 e32
      have e036 := e020.trans e32
      replace r_self := Rp.mono nx34.ff r_self
      replace o23 := o23.nx0 nx34
      replace nA27 := nA27.step0 nx34
      have hF37 := nx34.fh
      refine gn ?_
      obtain rfl : v30 = V.int later := rx33
      first | with_reducible refine st_n ?_ | skip
      refine st_seq ?_
      refine s_asg ?_ hF37 e036 hQ ?_
      · exact (g_sc (F' := H31) (g_i0 (g_var (a := later) rfl (Same.refl _)) g_int))
      intro earlier v43 F40 H41 nx39 e042 r44 hQ
      replace r_self := Rp.mono nx39.ff r_self
      replace o23 := o23.nx0 nx39
      replace nA27 := nA27.step0 nx39
      have hF45 := nx39.fh
      obtain rfl : v43 = V.int earlier := r44
      first | with_reducible refine st_n ?_ | skip
      refine st_seq ?_
      replace hQ := wp_bdi hQ
      refine while_S (fun (earlier : Int) σ50 H49 => ∃ (F46 : Hp), σ50 = [some v_self, some (.ref p6), some (.int later), some (.int earlier)] ∧ Nx (fun _ => False) F40 H41 F46 H49 ∧ Same H H49) ?h0u79 hQ ?hcu79 ?hbu79 ?hdu79
      case h0u79 =>
        exact ⟨_, rfl, (Nx.refl' hF45), e042⟩
      case hcu79 =>
        intro earlier σ9 H49 hI
        obtain ⟨F46, rfl, nL47, e048⟩ := hI
        have r_self := Rp.mono nL47.ff r_self
        have o23 := o23.nx nL47 (fun z => z)
        have hF51 := nL47.fh
        have nA27 := nA27.step0 nL47
        exact ⟨e048, (t_and (t_test (F := H49) (g_b0 (g_var (a := earlier) rfl (Same.refl _)) g_int)) (t_test (F := H49) (g_neD (g_idx (g_fB T.bk (g_var (a := self) (Rp.mono hF51 r_self) (Same.refl _)) (Same.refl _)) (g_var (a := earlier) rfl (Same.refl _)) (Same.refl _)) (g_idx (g_fB T.bk (g_var (a := self) (Rp.mono hF51 r_self) (Same.refl _)) (Same.refl _)) (g_var (a := later) rfl (Same.refl _)) (Same.refl _)) (Same.refl _))))⟩
      case hbu79 =>
        intro n9 earlier σ9 H49 H55 hI e56 hQ
        obtain ⟨F46, rfl, nL47, e048⟩ := hI
        have r_self := Rp.mono nL47.ff r_self
        have o23 := o23.nx nL47 (fun z => z)
        have hF51 := nL47.fh
        have nA27 := nA27.step0 nL47
        have nA52 := nL47
        have nx57 : Nx0 F46 H49 (mix F46 H49 H55) H55 := Nx.mk' hF51 e56
        have e058 := e048.trans e56
        replace r_self := Rp.mono nx57.ff r_self
        replace o23 := o23.nx0 nx57
        replace nA27 := nA27.step0 nx57
        replace nA52 := nA52.step0 nx57
        have hF59 := nx57.fh
        first | with_reducible refine st_n ?_ | skip
        refine s_aug (m := .ok (1 : Int)) rfl ?_ hF59 e058 hQ ?_
        · exact g_int
        intro earlier F62 H63 nx61 e064 hQ
        replace r_self := Rp.mono nx61.ff r_self
        replace o23 := o23.nx0 nx61
        replace nA27 := nA27.step0 nx61
        replace nA52 := nA52.step0 nx61
        have hF65 := nx61.fh
        exact ⟨earlier, ⟨_, rfl, nA52, e064⟩, hQ⟩
      case hdu79 =>
        intro earlier σ9 H49 H55 hI e56 hQ
        obtain ⟨F46, rfl, nL47, e048⟩ := hI
        have r_self := Rp.mono nL47.ff r_self
        have o23 := o23.nx nL47 (fun z => z)
        have hF51 := nL47.fh
        have nA27 := nA27.step0 nL47
        have nx57 : Nx0 F46 H49 (mix F46 H49 H55) H55 := Nx.mk' hF51 e56
        have e058 := e048.trans e56
        replace r_self := Rp.mono nx57.ff r_self
        replace o23 := o23.nx0 nx57
        replace nA27 := nA27.step0 nx57
        have hF66 := nx57.fh
        first | with_reducible refine st_n ?_ | skip
        refine s_if ?_ hF66 e058 hQ ?_ ?_
        · exact (t_test (F := H55) (g_b0 (g_var (a := earlier) rfl (Same.refl _)) g_int))
        · intro F68 H69 nx67 e070 hQ
          replace hQ := if_t hQ
          replace r_self := Rp.mono nx67.ff r_self
          replace o23 := o23.nx0 nx67
          replace nA27 := nA27.step0 nx67
          have hF71 := nx67.fh
          first | with_reducible refine st_n ?_ | skip
          refine s_app (m := .ok (earlier, later)) ?ha o23 ?he hF71 e070 hQ ?_
          case ha => exact at_var rfl
          case he => exact (g_im (Same.refl _) (g_pair (g_var (a := earlier) rfl (Same.refl _)) (g_var (a := later) rfl (Same.refl _))))
          intro found F74 H75 nx73 e076 o2 hQ
          replace r_self := Rp.mono nx73.ff r_self
          replace nA27 := nA27.step nx73 (fun q z => .inl (.inl z))
          have hF77 := nx73.fh
          replace o23 := o2
          exact ⟨found, ⟨_, _, _, rfl, nA27, e076, o23⟩, hQ⟩
        intro F68 H69 nx67 e070 hQ
        replace hQ := if_f hQ
        refine st_next ?_
        replace r_self := Rp.mono nx67.ff r_self
        replace o23 := o23.nx0 nx67
        replace nA27 := nA27.step0 nx67
        have hF72 := nx67.fh
        exact ⟨found, ⟨_, _, _, rfl, nA27, e070, o23⟩, hQ⟩
    case doneu81 =>
      intro found σ9 H21 hI hQ
      obtain ⟨F18, j24, j25, rfl, nL19, e020, o23⟩ := hI
      have r_self := Rp.mono nL19.ff r_self
      have hF26 := nL19.fh
      first | with_reducible refine st_n ?_ | skip
      refine s_ret ?_ e020 hQ (fun a h => h)
      exact (g_sortI (g_var (a := found) (o23.rep hF26) (Same.refl _)))

abbrev N_bk_undo : List Str := ["self"]
theorem sc_bk_undo : FnScope N_bk_undo ["self"] (defScope s_bk_undo) := ⟨rfl, rfl, rfl, by decide +kernel, rfl, by decide +kernel, by decide +kernel⟩
theorem okr_bk_undo (T : Hd K mg) : ∃ fd, Binds K fd ["self"] [] ∧ FnOk P w K mg base (L2.CX P w) 1 (He.ma K (He.ga K "RingBook") "undo") fd ["self"] (spBk0 K m_bk_undo) := by
  obtain ⟨fd, F⟩ := T.d_bk_undo
  refine ⟨fd, F.bindsN fun _ _ _ _ _ _ us hl => match us, hl with | [_], _ => rfl, ?_⟩
  refine F.ok sc_bk_undo (fun vs H Q E h => ?_) (fun cdv A outer s H vs Q E hr h => ?_)
  · obtain ⟨v, b, S0, Gz, rfl, _⟩ := h
    rfl
  · obtain ⟨v, b, S0, Gz, rfl, hG, tr, hS, hQ⟩ := h
    obtain ⟨p, pb, pd, pg, rfl, C⟩ := tr
    have tk : Takes (cxOf (L2.CX P w) P w K mg base N_bk_undo "RingBook.undo" (defScope s_bk_undo) (He.ma K (He.ga K "RingBook") "undo") cdv A outer s H E) (fun cls d _ H => E cls d H) := takes_of rfl rfl rfl rfl
    refine ⟨_, (by exact (pss_cons (ps_if (pt_cmpR op_eq (pe_callB call_len_seq rfl T.f_len PySem.boot_len (pa_cons (pe_fld (pv 0) rfl) pa_nil)) pe_int (nomark _)) (pss_one (ps_raise rfl tk (pmk_own PySem.F.excBase_ValueError T.x_NoDeed.1 T.g_NoDeed T.x_NoDeed.2.1 (raises_own T.x_NoDeed.2.2.1 T.x_NoDeed.2.2.2) (by exact rfl)))) pss_nil)
      (pss_one (ps_expr (pe_bm PySem.F.plainAttrs_list PySem.F.slot_list_append PySem.F.type_list_append mt_append (pe_fld (pv 0) rfl) (pa_cons (pe_tup (pa_cons (pe_bm0 PySem.F.plainAttrs_list PySem.F.slot_list_pop PySem.F.type_list_pop mt_pop (pe_fld (pv 0) rfl)) (pa_cons (pe_bm0 PySem.F.plainAttrs_list PySem.F.slot_list_pop PySem.F.type_list_pop mt_pop (pe_fld (pv 0) rfl)) pa_nil))) pa_nil)))))), ?_⟩
    unfold m_bk_undo at hQ
    refine st_seq ?_
    refine s_if (F := H) ?_ (Same.refl _) (Same.refl _) hQ ?_ ?_
    · exact (t_test (F := H) (g_eq (g_len (g_fD T.bk (g_var (a := b) C.rep (Same.refl _)) (Same.refl _)) (Same.refl _)) g_int))
    · intro F2 H3 nx e0 hQ
      exact raise_of (c := .NoDeed) (if_t hQ) e0
    intro F2 H3 nx e0 hQ
    replace hQ := if_f hQ
    have C3 := C.agr (Agr.same (S := S0) nx.same)
    obtain ⟨⟨dx, hp⟩, ⟨vb, hb, rb⟩, ⟨vd, hd, rd⟩, ⟨vg, hg, rg⟩, sS, ⟨n1, n2, n3⟩⟩ := id C3
    obtain ⟨q1, q2, q3⟩ := C3.np
    unfold popLast at hQ
    cases ed : b.deeds.getLast? with
    | none => rw [ed] at hQ; exact hQ.elim
    | some d =>
      rw [ed] at hQ
      cases el : b.boards.getLast? with
      | none => rw [el] at hQ; exact hQ.elim
      | some l =>
        rw [el] at hQ
        obtain ⟨xd, hxd, rxd⟩ := all2_last rd ed
        obtain ⟨xb, hxb, rxb⟩ := all2_last rb el
        have hQ : Wp (gd (b.gone.length < lim) (.ok ((), (⟨b.boards.dropLast, b.deeds.dropLast, b.gone ++ [(d, l)]⟩ : Bk)))) _ (EE K E H) := hQ
        unfold gd at hQ
        split at hQ
        · rename_i cl
          refine ⟨_, rfl, p, _, dx, _, _, rfl, hp, T.bk.cl, T.bk.nG, bf_g, .inl ⟨rfl, _, SqL.of hg⟩, ?_⟩
          refine ⟨_, rfl, p, _, dx, _, _, rfl, hp, T.bk.cl, T.bk.nD, bf_d, .inl ⟨rfl, _, SqL.of hd⟩, pd, vd, xd, rfl, rfl, hd, hxd, ?_⟩
          have hb2 : upd H3 pd (.lst vd.dropLast) pb = some (.lst vb) := by rw [upd_ne n1]; exact hb
          refine ⟨_, rfl, p, _, dx, _, _, rfl, (by rw [upd_ne q2]; exact hp), T.bk.cl, T.bk.nB, bf_b, .inl ⟨rfl, _, SqL.of hb2⟩, pb, vb, xb, rfl, rfl, hb2, hxb, ?_⟩
          refine ⟨by show 2 ≤ sizeLine; decide, fun t ht => ?_⟩
          have tn : H3 t = none ∧ t ≠ pb ∧ t ≠ pd := by
            have a : t ≠ pb := fun z => by rw [z, upd_same] at ht; cases ht
            rw [upd_ne a] at ht
            have c : t ≠ pd := fun z => by rw [z, upd_same] at ht; cases ht
            rw [upd_ne c] at ht
            exact ⟨ht, a, c⟩
          have tg : t ≠ pg := fun z => by rw [z, hg] at tn; cases tn.1
          have tp : t ≠ p := fun z => by rw [z, hp] at tn; cases tn.1
          have hg2 : upd (upd (upd H3 pd (.lst vd.dropLast)) pb (.lst vb.dropLast)) t (.tup [xd, xb]) pg = some (.lst vg) := by rw [upd_ne tg.symm, upd_ne n2.symm, upd_ne n3.symm]; exact hg
          refine ⟨pg, vg, .ref t, rfl, rfl, hg2, lim_line' (by rw [rg.length]; exact cl), ?_⟩
          generalize hH4 : upd (upd (upd (upd H3 pd (.lst vd.dropLast)) pb (.lst vb.dropLast)) t (.tup [xd, xb])) pg (.lst (vg ++ [.ref t])) = H4
          have h4 : ∀ q o, H3 q = some o → q ≠ p → q ≠ pb → q ≠ pd → q ≠ pg → H4 q = some o := fun q o h _ b1 b2 b3 => by
            have : q ≠ t := fun z => by rw [z, tn.1] at h; cases h
            rw [← hH4, upd_ne b3, upd_ne this, upd_ne b1, upd_ne b2]
            exact h
          have si := bk_inn (S' := S0) (pg' := pg) C3 h4 (fun _ z => z) (.inl rfl)
          have gp : H4 pg = some (.lst (vg ++ [.ref t])) := by rw [← hH4]; exact upd_same
          have ht4 : H4 t = some (.tup [xd, xb]) := by rw [← hH4, upd_ne tg]; exact upd_same
          have C4 : BkC K H4 S0 p pb pd pg ⟨b.boards.dropLast, b.deeds.dropLast, b.gone ++ [(d, l)]⟩ := by
            refine ⟨⟨dx, ?_⟩, ⟨vb.dropLast, ?_, All2.dropLast (rb.mono fun _ _ r => Rp.mono si r)⟩, ⟨vd.dropLast, ?_, All2.dropLast (rd.mono fun _ _ r => Rp.mono si r)⟩, ⟨_, gp, (rg.mono fun _ _ r => Rp.mono si r).append (.cons ⟨t, xd, xb, rfl, inn_of ht4 (.inl rfl), Rp.mono si rxd, Rp.mono si rxb⟩ .nil)⟩, sS, n1, n2, n3⟩
            · rw [← hH4, upd_ne q3, upd_ne tp.symm, upd_ne q1, upd_ne q2]; exact hp
            · rw [← hH4, upd_ne n2, upd_ne tn.2.1.symm]; exact upd_same
            · rw [← hH4, upd_ne n3, upd_ne tn.2.2.symm, upd_ne n1.symm]; exact upd_same
          obtain ⟨nn, tr, hs⟩ := bk_end nx.same hG hS C3 C4 h4 ⟨_, gp, rfl⟩ fun q z => .inl z
          exact hQ .non _ _ S0 nn tr hs rfl
        · exact hQ.elim

theorem ok_bk_undo (T : Hd K mg) : ∃ fd, PySem.W.keepIn K (.ref (He.ma K (He.ga K "RingBook") "undo")) = true ∧ Binds K fd ["self"] [] ∧ FnOk P w K mg base (L2.CX P w) 1 (He.ma K (He.ga K "RingBook") "undo") fd ["self"] (spBk0 K m_bk_undo) := by
  obtain ⟨fd, b, G⟩ := okr_bk_undo (P := P) (w := w) (base := base) T
  exact ⟨fd, T.me_bk_undo.kp, b, G⟩

abbrev N_bk_redo : List Str := ["self", "deed", "made"]
theorem sc_bk_redo : FnScope N_bk_redo ["self"] (defScope s_bk_redo) := ⟨rfl, rfl, rfl, by decide +kernel, rfl, by decide +kernel, by decide +kernel⟩
theorem okr_bk_redo (T : Hd K mg) : ∃ fd, Binds K fd ["self"] [] ∧ FnOk P w K mg base (L2.CX P w) 1 (He.ma K (He.ga K "RingBook") "redo") fd ["self"] (spBk0 K m_bk_redo) := by
  obtain ⟨fd, F⟩ := T.d_bk_redo
  refine ⟨fd, F.bindsN fun _ _ _ _ _ _ us hl => match us, hl with | [_], _ => rfl, ?_⟩
  refine F.ok sc_bk_redo (fun vs H Q E h => ?_) (fun cdv A outer s H vs Q E hr h => ?_)
  · obtain ⟨v, b, S0, Gz, rfl, _⟩ := h
    rfl
  · obtain ⟨v, b, S0, Gz, rfl, hG, tr, hS, hQ⟩ := h
    obtain ⟨p, pb, pd, pg, rfl, C⟩ := tr
    have tk : Takes (cxOf (L2.CX P w) P w K mg base N_bk_redo "RingBook.redo" (defScope s_bk_redo) (He.ma K (He.ga K "RingBook") "redo") cdv A outer s H E) (fun cls d _ H => E cls d H) := takes_of rfl rfl rfl rfl
    refine ⟨_, (by exact (pss_cons (ps_if (pt_cmpR op_eq (pe_callB call_len_seq rfl T.f_len PySem.boot_len (pa_cons (pe_fld (pv 0) rfl) pa_nil)) pe_int (nomark _)) (pss_one (ps_raise rfl tk (pmk_own PySem.F.excBase_ValueError T.x_NoDeed.1 T.g_NoDeed T.x_NoDeed.2.1 (raises_own T.x_NoDeed.2.2.1 T.x_NoDeed.2.2.2) (by exact rfl)))) pss_nil)
      (pss_cons (ps_asg (pe_bm0 PySem.F.plainAttrs_list PySem.F.slot_list_pop PySem.F.type_list_pop mt_pop (pe_fld (pv 0) rfl)) (pg_tup rfl (pgs_cons (pg_name (i := 1) sc_bk_redo.nd rfl (Or.inl rfl)) (pgs_cons (pg_name (i := 2) sc_bk_redo.nd rfl (Or.inl rfl)) pgs_nil))))
      (pss_cons (ps_expr (pe_bm PySem.F.plainAttrs_list PySem.F.slot_list_append PySem.F.type_list_append mt_append (pe_fld (pv 0) rfl) (pa_cons (pv 1) pa_nil)))
      (pss_one (ps_expr (pe_bm PySem.F.plainAttrs_list PySem.F.slot_list_append PySem.F.type_list_append mt_append (pe_fld (pv 0) rfl) (pa_cons (pv 2) pa_nil)))))))), ?_⟩
    unfold m_bk_redo at hQ
    refine st_seq ?_
    refine s_if (F := H) ?_ (Same.refl _) (Same.refl _) hQ ?_ ?_
    · exact (t_test (F := H) (g_eq (g_len (g_fG T.bk (g_var (a := b) C.rep (Same.refl _)) (Same.refl _)) (Same.refl _)) g_int))
    · intro F2 H3 nx e0 hQ
      exact raise_of (c := .NoDeed) (if_t hQ) e0
    intro F2 H3 nx e0 hQ
    replace hQ := if_f hQ
    have C3 := C.agr (Agr.same (S := S0) nx.same)
    obtain ⟨⟨dx, hp⟩, ⟨vb, hb, rb⟩, ⟨vd, hd, rd⟩, ⟨vg, hg, rg⟩, sS, ⟨n1, n2, n3⟩⟩ := id C3
    obtain ⟨q1, q2, q3⟩ := C3.np
    unfold popLast at hQ
    cases eg : b.gone.getLast? with
    | none => rw [eg] at hQ; exact hQ.elim
    | some z =>
      rw [eg] at hQ
      obtain ⟨d, l⟩ := z
      obtain ⟨xg, hxg, rxg⟩ := all2_last rg eg
      obtain ⟨t, xd, xb, rfl, ht, rxd, rxb⟩ := rxg
      have ht3 := inn_le _ _ ht
      have hQ : Wp (gd (b.deeds.length < lim ∧ b.boards.length < lim) (.ok ((), (⟨b.boards ++ [l], b.deeds ++ [d], b.gone.dropLast⟩ : Bk)))) _ (EE K E H) := hQ
      unfold gd at hQ
      split at hQ
      · rename_i cl
        have tg : t ≠ pg := fun z => by rw [z, hg] at ht3; cases ht3
        refine st_seq ?_
        refine ⟨_, rfl, p, _, dx, _, _, rfl, hp, T.bk.cl, T.bk.nG, bf_g, .inl ⟨rfl, _, SqL.of hg⟩, pg, vg, .ref t, rfl, rfl, hg, hxg, ?_⟩
        refine ⟨t, _, rfl, SqT.of (by rw [upd_ne tg]; exact ht3), rfl, xd, _, rfl, xb, _, rfl, rfl, ?_⟩
        first | with_reducible refine st_n ?_ | skip
        refine st_seq ?_
        have hd2 : upd H3 pg (.lst vg.dropLast) pd = some (.lst vd) := by rw [upd_ne n3]; exact hd
        refine ⟨_, rfl, p, _, dx, _, _, rfl, (by rw [upd_ne q3]; exact hp), T.bk.cl, T.bk.nD, bf_d, .inl ⟨rfl, _, SqL.of hd2⟩, _, rfl, pd, vd, xd, rfl, rfl, hd2, lim_line' (by rw [rd.length]; exact cl.1), ?_⟩
        first | with_reducible refine st_n ?_ | skip
        have hb2 : upd (upd H3 pg (.lst vg.dropLast)) pd (.lst (vd ++ [xd])) pb = some (.lst vb) := by rw [upd_ne n1, upd_ne n2]; exact hb
        refine ⟨_, rfl, p, _, dx, _, _, rfl, (by rw [upd_ne q2, upd_ne q3]; exact hp), T.bk.cl, T.bk.nB, bf_b, .inl ⟨rfl, _, SqL.of hb2⟩, _, rfl, pb, vb, xb, rfl, rfl, hb2, lim_line' (by rw [rb.length]; exact cl.2), ?_⟩
        generalize hH4 : upd (upd (upd H3 pg (.lst vg.dropLast)) pd (.lst (vd ++ [xd]))) pb (.lst (vb ++ [xb])) = H4
        have h4 : ∀ q o, H3 q = some o → q ≠ p → q ≠ pb → q ≠ pd → q ≠ pg → H4 q = some o := fun q o h _ b1 b2 b3 => by
          rw [← hH4, upd_ne b1, upd_ne b2, upd_ne b3]
          exact h
        have si := bk_inn (S' := S0) (pg' := pg) C3 h4 (fun _ z => z) (.inl rfl)
        have gp : H4 pg = some (.lst vg.dropLast) := by rw [← hH4, upd_ne n2.symm, upd_ne n3.symm]; exact upd_same
        have C4 : BkC K H4 S0 p pb pd pg ⟨b.boards ++ [l], b.deeds ++ [d], b.gone.dropLast⟩ := by
          refine ⟨⟨dx, ?_⟩, ⟨vb ++ [xb], ?_, (rb.mono fun _ _ r => Rp.mono si r).append (.cons (Rp.mono si rxb) .nil)⟩, ⟨vd ++ [xd], ?_, (rd.mono fun _ _ r => Rp.mono si r).append (.cons (Rp.mono si rxd) .nil)⟩, ⟨_, gp, All2.dropLast (rg.mono fun _ _ r => Rp.mono si r)⟩, sS, n1, n2, n3⟩
          · rw [← hH4, upd_ne q1, upd_ne q2, upd_ne q3]; exact hp
          · rw [← hH4]; exact upd_same
          · rw [← hH4, upd_ne n1.symm]; exact upd_same
        obtain ⟨nn, tr, hs⟩ := bk_end nx.same hG hS C3 C4 h4 ⟨_, gp, rfl⟩ fun q z => .inl z
        exact hQ .non _ _ S0 nn tr hs rfl
      · exact hQ.elim

theorem ok_bk_redo (T : Hd K mg) : ∃ fd, PySem.W.keepIn K (.ref (He.ma K (He.ga K "RingBook") "redo")) = true ∧ Binds K fd ["self"] [] ∧ FnOk P w K mg base (L2.CX P w) 1 (He.ma K (He.ga K "RingBook") "redo") fd ["self"] (spBk0 K m_bk_redo) := by
  obtain ⟨fd, b, G⟩ := okr_bk_redo (P := P) (w := w) (base := base) T
  exact ⟨fd, T.me_bk_redo.kp, b, G⟩

abbrev N_bk_done : List Str := ["self", "deed", "made"]
theorem sc_bk_done : FnScope N_bk_done ["self", "deed", "made"] (defScope s_bk_done) := ⟨rfl, rfl, rfl, by decide +kernel, rfl, by decide +kernel, by decide +kernel⟩
theorem okr_bk_done (T : Hd K mg) : ∃ fd, Binds K fd ["self", "deed", "made"] [] ∧ FnOk P w K mg base (L2.CX P w) 1 (He.ma K (He.ga K "RingBook") "done_now") fd ["self", "deed", "made"] (spDone K) := by
  obtain ⟨fd, F⟩ := T.d_bk_done
  refine ⟨fd, F.bindsN fun _ _ _ _ _ _ us hl => match us, hl with | [_, _, _], _ => rfl, ?_⟩
  refine F.ok sc_bk_done (fun vs H Q E h => ?_) (fun cdv A outer s H vs Q E hr h => ?_)
  · obtain ⟨p, dx, pb, pd, pg, vb, vd, xd, xm, rfl, _⟩ := h
    rfl
  · obtain ⟨p, dx, pb, pd, pg, vb, vd, xd, xm, rfl, hp, hb, hd, n1, lb, ld, hQ⟩ := h
    have q1 : p ≠ pb := fun z => by rw [z, hb] at hp; cases hp
    have q2 : p ≠ pd := fun z => by rw [z, hd] at hp; cases hp
    refine ⟨_, (by exact (pss_cons (ps_expr (pe_bm PySem.F.plainAttrs_list PySem.F.slot_list_append PySem.F.type_list_append mt_append (pe_fld (pv 0) rfl) (pa_cons (pv 1) pa_nil)))
      (pss_cons (ps_expr (pe_bm PySem.F.plainAttrs_list PySem.F.slot_list_append PySem.F.type_list_append mt_append (pe_fld (pv 0) rfl) (pa_cons (pv 2) pa_nil)))
      (pss_one (ps_fld (pv 0) (pe_lst pa_nil) rfl))))), ?_⟩
    refine st_seq ?_
    refine ⟨_, rfl, p, _, dx, _, _, rfl, hp, T.bk.cl, T.bk.nD, bf_d, .inl ⟨rfl, _, SqL.of hd⟩, _, rfl, pd, vd, xd, rfl, rfl, hd, lim_line' ld, ?_⟩
    first | with_reducible refine st_n ?_ | skip
    refine st_seq ?_
    have hb2 : upd H pd (.lst (vd ++ [xd])) pb = some (.lst vb) := by rw [upd_ne n1]; exact hb
    refine ⟨_, rfl, p, _, dx, _, _, rfl, (by rw [upd_ne q2]; exact hp), T.bk.cl, T.bk.nB, bf_b, .inl ⟨rfl, _, SqL.of hb2⟩, _, rfl, pb, vb, xm, rfl, rfl, hb2, lim_line' lb, ?_⟩
    first | with_reducible refine st_n ?_ | skip
    refine ⟨Nat.zero_le _, fun l hl => ?_⟩
    have a1 : l ≠ pb := fun z => by rw [z, upd_same] at hl; cases hl
    rw [upd_ne a1] at hl
    have a2 : l ≠ pd := fun z => by rw [z, upd_same] at hl; cases hl
    rw [upd_ne a2] at hl
    have a3 : l ≠ p := fun z => by rw [z, hp] at hl; cases hl
    refine ⟨_, rfl, p, _, dx, _, rfl, (by rw [upd_ne a3.symm, upd_ne q1, upd_ne q2]; exact hp), T.bk.cl, T.bk.nG, (by show 3 < 1000; decide), ?_⟩
    rw [bf_put]
    exact hQ l hl

abbrev N_bk_sow : List Str := ["self", "pit", "made", "last"]
theorem sc_bk_sow : FnScope N_bk_sow ["self", "pit"] (defScope s_bk_sow) := ⟨rfl, rfl, rfl, by decide +kernel, rfl, by decide +kernel, by decide +kernel⟩
theorem okr_bk_sow (T : Hd K mg) {m_f : List Int → Int → R (List Int × Int)} {k : Nat} {fd_f : FuncData} (hk : 1 ≤ k) (G_f : FnOk P w K mg base (L2.CX P w) k (He.ga K "sown") fd_f ["board", "pit"] (sp2 K m_f)) (kp_f : PySem.W.keepIn K (.ref (He.ga K "sown")) = true) (b_f : Binds K fd_f ["board", "pit"] []) : ∃ fd, Binds K fd ["self", "pit"] [] ∧ FnOk P w K mg base (L2.CX P w) (k + 1) (He.ma K (He.ga K "RingBook") "sow") fd ["self", "pit"] (spBk1 K (m_bk_sow m_f)) := by
  obtain ⟨fd, F⟩ := T.d_bk_sow
  obtain ⟨fd_d, b_d, G_d⟩ := okr_bk_done (P := P) (w := w) (base := base) T
  refine ⟨fd, F.bindsN fun _ _ _ _ _ _ us hl => match us, hl with | [_, _], _ => rfl, ?_⟩
  refine F.ok sc_bk_sow (fun vs H Q E h => ?_) (fun cdv A outer s H vs Q E hr h => ?_)
  · obtain ⟨v, vw, b, a, S0, Gz, rfl, _⟩ := h
    rfl
  · obtain ⟨v, vw, b, pit, S0, Gz, rfl, hG, tr, hS, ra, hQ⟩ := h
    obtain rfl : vw = V.int pit := ra
    obtain ⟨p, pb, pd, pg, rfl, C⟩ := tr
    have tk : Takes (cxOf (L2.CX P w) P w K mg base N_bk_sow "RingBook.sow" (defScope s_bk_sow) (He.ma K (He.ga K "RingBook") "sow") cdv A outer s H E) (fun cls d _ H => E cls d H) := takes_of rfl rfl rfl rfl
    refine ⟨_, (by exact (pss_cons (ps_asg (pe_callS G_f hr rfl T.g_sown kp_f b_f (fun σ => passAt tk σ) (pa_cons (pe_ix ix_list (pe_fld (pv 0) rfl) (pe_un un_neg pe_int) (fun _ _ => rfl)) (pa_cons (pv 1) pa_nil))) (pg_tup rfl (pgs_cons (pg_name (i := 2) sc_bk_sow.nd rfl (Or.inl rfl)) (pgs_cons (pg_name (i := 3) sc_bk_sow.nd rfl (Or.inl rfl)) pgs_nil))))
      (pss_cons (ps_expr (pe_meS (pv 0) T.bk.cl T.me_bk_done G_d (hr.mono hk) b_d (fun σ => passAt tk σ) (pa_cons (pe_tup (pa_cons pe_str (pa_cons (pv 1) (pa_cons (pe_ix ix_list (pe_ix ix_list (pe_fld (pv 0) rfl) (pe_un un_neg pe_int) (fun _ _ => rfl)) (pv 1) (fun _ _ => rfl)) pa_nil)))) (pa_cons (pv 2) pa_nil))))
      (pss_one (ps_ret (pv 3)))))), ?_⟩
    unfold m_bk_sow at hQ
    refine st_seq ?_
    refine s_unp (F := nil0) ?_ nil_same (Same.refl _) hQ ?_
    · exact (g_call2 (ma := idx b.boards (-1)) (mb := .ok pit) (g_idx (g_fB T.bk (g_var (a := b) C.rep (Same.refl _)) (Same.refl _)) (g_neg g_int) (Same.refl _)) (g_var (a := pit) rfl (Same.refl _)))
    intro made last vm vl F' H2 nx e0 rm rl hQ
    obtain rfl : vl = V.int last := rl
    have C2 := C.agr (Agr.same (S := S0) nx.same)
    first | with_reducible refine st_n ?_ | skip
    refine st_seq ?_
    obtain ⟨⟨dx, hp⟩, _⟩ := id C2
    refine ⟨_, rfl, p, dx, _, rfl, hp, bf_no (by decide +kernel) (by decide +kernel) (by decide +kernel), ?_⟩
    have rm2 := Rp.mono nx.fh rm
    have hQ := wp_bdi hQ
    refine tcons_gr (F := nil0) ?hd e0 hQ fun d xd H3 e3 rd hQ => ?_
    case hd => exact (g_im (G := H2) (Same.refl _) (g_tri g_str (g_var (a := pit) rfl (Same.refl _)) (g_idx (g_idx (g_fB T.bk (g_var (a := b) C2.rep (Same.refl _)) (Same.refl _)) (g_neg g_int) (Same.refl _)) (g_var (a := pit) rfl (Same.refl _)) (Same.refl _))))
    have C3 := C2.agr (Agr.same (S := S0) e3)
    obtain ⟨⟨dx, hp⟩, ⟨vb, hb, rb⟩, ⟨vd, hd, rvd⟩, ⟨vg, hg, rg⟩, sS, ⟨n1, n2, _⟩⟩ := id C3
    unfold m_bk_done at hQ
    have hQ : Wp (R.bd (gd (b.deeds.length < lim ∧ b.boards.length < lim) (.ok (⟨b.boards ++ [made], b.deeds ++ [d], []⟩ : Bk))) fun c => .ok (last, c)) _ (EE K E H) := hQ
    unfold gd at hQ
    split at hQ
    · rename_i cl
      have hH : ∀ q, (q = p ∨ q = pb ∨ q = pd ∨ q = pg) → H q ≠ none := fun q z => by
        rcases z with rfl | rfl | rfl | rfl
        · exact muc_some (hS _ sS.1).2
        · exact muc_some (hS _ sS.2.1).2
        · exact muc_some (hS _ sS.2.2.1).2
        · exact muc_some (hS _ sS.2.2.2).2
      refine ⟨_, rfl, p, dx, pb, pd, pg, vb, vd, xd, vm, rfl, hp, hb, hd, n1, by rw [rb.length]; exact cl.2, by rw [rvd.length]; exact cl.1, fun l hl => ?_⟩
      first | with_reducible refine st_n ?_ | skip
      have rm3 : Rp.rep K (inn H3 (fun q => S0 q ∨ (H q = none ∧ muc H3 q)) p pb pd pg) vm made := Rp.mono (inn_new (nx.step0 (Nx.mk' nx.fh e3)) C3 hH fun q o h1 h2 h3 => .inr ⟨h1, o, h2, h3⟩) (Rp.mono (Nx.mk' nx.fh e3).ff rm)
      have rd3 : Rp.rep K (inn H3 (fun q => S0 q ∨ (H q = none ∧ muc H3 q)) p pb pd pg) xd d := Im.mv (fun q ys z => by
        refine inn_of ?_ (.inl rfl)
        exact mix_same nil_same e3 _ _ z) rd
      obtain ⟨F5, S', nn, tr, hs⟩ := bk_done (nx.same.trans e3) hG hS C3 hp hb hd hl rd3 rm3 rfl
      exact ⟨_, rfl, hQ (.int last) F5 _ S' nn tr hs rfl⟩
    · exact hQ.elim

theorem ok_bk_sow (T : Hd K mg) : ∃ fd, PySem.W.keepIn K (.ref (He.ma K (He.ga K "RingBook") "sow")) = true ∧ Binds K fd ["self", "pit"] [] ∧ FnOk P w K mg base (L2.CX P w) 4 (He.ma K (He.ga K "RingBook") "sow") fd ["self", "pit"] (spBk1 K (m_bk_sow m_sown)) := by
  obtain ⟨fds, kps, bs, Gs⟩ := ok_sown (P := P) (w := w) (base := base) T
  obtain ⟨fd, b, G⟩ := okr_bk_sow (P := P) (w := w) (base := base) T (by decide) Gs kps bs
  exact ⟨fd, T.me_bk_sow.kp, b, G⟩

abbrev N_bk_back : List Str := ["self", "pit", "made", "home"]
theorem sc_bk_back : FnScope N_bk_back ["self", "pit"] (defScope s_bk_back) := ⟨rfl, rfl, rfl, by decide +kernel, rfl, by decide +kernel, by decide +kernel⟩
theorem okr_bk_back (T : Hd K mg) {m_f : List Int → Int → R (List Int × Int)} {k : Nat} {fd_f : FuncData} (hk : 1 ≤ k) (G_f : FnOk P w K mg base (L2.CX P w) k (He.ga K "taken_back") fd_f ["board", "pit"] (sp2 K m_f)) (kp_f : PySem.W.keepIn K (.ref (He.ga K "taken_back")) = true) (b_f : Binds K fd_f ["board", "pit"] []) : ∃ fd, Binds K fd ["self", "pit"] [] ∧ FnOk P w K mg base (L2.CX P w) (k + 1) (He.ma K (He.ga K "RingBook") "back") fd ["self", "pit"] (spBk1 K (m_bk_back m_f)) := by
  obtain ⟨fd, F⟩ := T.d_bk_back
  obtain ⟨fd_d, b_d, G_d⟩ := okr_bk_done (P := P) (w := w) (base := base) T
  refine ⟨fd, F.bindsN fun _ _ _ _ _ _ us hl => match us, hl with | [_, _], _ => rfl, ?_⟩
  refine F.ok sc_bk_back (fun vs H Q E h => ?_) (fun cdv A outer s H vs Q E hr h => ?_)
  · obtain ⟨v, vw, b, a, S0, Gz, rfl, _⟩ := h
    rfl
  · obtain ⟨v, vw, b, pit, S0, Gz, rfl, hG, tr, hS, ra, hQ⟩ := h
    obtain rfl : vw = V.int pit := ra
    obtain ⟨p, pb, pd, pg, rfl, C⟩ := tr
    have tk : Takes (cxOf (L2.CX P w) P w K mg base N_bk_back "RingBook.back" (defScope s_bk_back) (He.ma K (He.ga K "RingBook") "back") cdv A outer s H E) (fun cls d _ H => E cls d H) := takes_of rfl rfl rfl rfl
    refine ⟨_, (by exact (pss_cons (ps_asg (pe_callS G_f hr rfl T.g_taken_back kp_f b_f (fun σ => passAt tk σ) (pa_cons (pe_ix ix_list (pe_fld (pv 0) rfl) (pe_un un_neg pe_int) (fun _ _ => rfl)) (pa_cons (pv 1) pa_nil))) (pg_tup rfl (pgs_cons (pg_name (i := 2) sc_bk_back.nd rfl (Or.inl rfl)) (pgs_cons (pg_name (i := 3) sc_bk_back.nd rfl (Or.inl rfl)) pgs_nil))))
      (pss_cons (ps_expr (pe_meS (pv 0) T.bk.cl T.me_bk_done G_d (hr.mono hk) b_d (fun σ => passAt tk σ) (pa_cons (pe_tup (pa_cons pe_str (pa_cons (pv 1) (pa_cons (pe_op op_sub pe_int (pe_ix ix_list (pv 2) (pv 3) (fun _ _ => rfl))) pa_nil)))) (pa_cons (pv 2) pa_nil))))
      (pss_one (ps_ret (pv 3)))))), ?_⟩
    unfold m_bk_back at hQ
    refine st_seq ?_
    refine s_unp (F := nil0) ?_ nil_same (Same.refl _) hQ ?_
    · exact (g_call2 (ma := idx b.boards (-1)) (mb := .ok pit) (g_idx (g_fB T.bk (g_var (a := b) C.rep (Same.refl _)) (Same.refl _)) (g_neg g_int) (Same.refl _)) (g_var (a := pit) rfl (Same.refl _)))
    intro made last vm vl F' H2 nx e0 rm rl hQ
    obtain rfl : vl = V.int last := rl
    have C2 := C.agr (Agr.same (S := S0) nx.same)
    first | with_reducible refine st_n ?_ | skip
    refine st_seq ?_
    obtain ⟨⟨dx, hp⟩, _⟩ := id C2
    refine ⟨_, rfl, p, dx, _, rfl, hp, bf_no (by decide +kernel) (by decide +kernel) (by decide +kernel), ?_⟩
    have rm2 := Rp.mono nx.fh rm
    have hQ := wp_bdi hQ
    refine tcons_gr (F := nil0) ?hd e0 hQ fun d xd H3 e3 rd hQ => ?_
    case hd => exact (g_im (G := H2) (Same.refl _) (g_tri g_str (g_var (a := pit) rfl (Same.refl _)) (g_i0 g_int (g_idx (g_var (a := made) rm2 (Same.refl _)) (g_var (a := last) rfl (Same.refl _)) (Same.refl _)))))
    have C3 := C2.agr (Agr.same (S := S0) e3)
    obtain ⟨⟨dx, hp⟩, ⟨vb, hb, rb⟩, ⟨vd, hd, rvd⟩, ⟨vg, hg, rg⟩, sS, ⟨n1, n2, _⟩⟩ := id C3
    unfold m_bk_done at hQ
    have hQ : Wp (R.bd (gd (b.deeds.length < lim ∧ b.boards.length < lim) (.ok (⟨b.boards ++ [made], b.deeds ++ [d], []⟩ : Bk))) fun c => .ok (last, c)) _ (EE K E H) := hQ
    unfold gd at hQ
    split at hQ
    · rename_i cl
      have hH : ∀ q, (q = p ∨ q = pb ∨ q = pd ∨ q = pg) → H q ≠ none := fun q z => by
        rcases z with rfl | rfl | rfl | rfl
        · exact muc_some (hS _ sS.1).2
        · exact muc_some (hS _ sS.2.1).2
        · exact muc_some (hS _ sS.2.2.1).2
        · exact muc_some (hS _ sS.2.2.2).2
      refine ⟨_, rfl, p, dx, pb, pd, pg, vb, vd, xd, vm, rfl, hp, hb, hd, n1, by rw [rb.length]; exact cl.2, by rw [rvd.length]; exact cl.1, fun l hl => ?_⟩
      first | with_reducible refine st_n ?_ | skip
      have rm3 : Rp.rep K (inn H3 (fun q => S0 q ∨ (H q = none ∧ muc H3 q)) p pb pd pg) vm made := Rp.mono (inn_new (nx.step0 (Nx.mk' nx.fh e3)) C3 hH fun q o h1 h2 h3 => .inr ⟨h1, o, h2, h3⟩) (Rp.mono (Nx.mk' nx.fh e3).ff rm)
      have rd3 : Rp.rep K (inn H3 (fun q => S0 q ∨ (H q = none ∧ muc H3 q)) p pb pd pg) xd d := Im.mv (fun q ys z => by
        refine inn_of ?_ (.inl rfl)
        exact mix_same nil_same e3 _ _ z) rd
      obtain ⟨F5, S', nn, tr, hs⟩ := bk_done (nx.same.trans e3) hG hS C3 hp hb hd hl rd3 rm3 rfl
      exact ⟨_, rfl, hQ (.int last) F5 _ S' nn tr hs rfl⟩
    · exact hQ.elim

theorem ok_bk_back (T : Hd K mg) : ∃ fd, PySem.W.keepIn K (.ref (He.ma K (He.ga K "RingBook") "back")) = true ∧ Binds K fd ["self", "pit"] [] ∧ FnOk P w K mg base (L2.CX P w) 4 (He.ma K (He.ga K "RingBook") "back") fd ["self", "pit"] (spBk1 K (m_bk_back m_taken_back)) := by
  obtain ⟨fds, kps, bs, Gs⟩ := ok_taken_back (P := P) (w := w) (base := base) T
  obtain ⟨fd, b, G⟩ := okr_bk_back (P := P) (w := w) (base := base) T (by decide) Gs kps bs
  exact ⟨fd, T.me_bk_back.kp, b, G⟩

abbrev N_bk_init : List Str := ["self", "board"]
theorem sc_bk_init : FnScope N_bk_init ["self", "board"] (defScope s_bk_init) := ⟨rfl, rfl, rfl, by decide +kernel, rfl, by decide +kernel, by decide +kernel⟩
theorem okr_bk_init (T : Hd K mg) {m_f : List Int → R Unit} {k : Nat} {fd_f : FuncData} (G_f : FnOk P w K mg base (L2.CX P w) k (He.ga K "ask_board") fd_f ["board"] (sp1 K m_f)) (kp_f : PySem.W.keepIn K (.ref (He.ga K "ask_board")) = true) (b_f : Binds K fd_f ["board"] []) : ∃ fd, Binds K fd ["self", "board"] [] ∧ FnOk P w K mg base (L2.CX P w) (k + 1) (He.ma K (He.ga K "RingBook") "__init__") fd ["self", "board"] (spMk K (m_bk_init m_f)) := by
  obtain ⟨fd, F⟩ := T.d_bk_init
  refine ⟨fd, F.bindsN fun _ _ _ _ _ _ us hl => match us, hl with | [_, _], _ => rfl, ?_⟩
  refine F.ok sc_bk_init (fun vs H Q E h => ?_) (fun cdv A outer s H vs Q E hr h => ?_)
  · obtain ⟨x, dx, vw, a, rfl, _⟩ := h
    rfl
  · obtain ⟨x, dx, vw, board, rfl, hx, ra, hQ⟩ := h
    have tk : Takes (cxOf (L2.CX P w) P w K mg base N_bk_init "RingBook.__init__" (defScope s_bk_init) (He.ma K (He.ga K "RingBook") "__init__") cdv A outer s H E) (fun cls d _ H => E cls d H) := takes_of rfl rfl rfl rfl
    refine ⟨_, (by exact (pss_cons (ps_expr (pe_callS G_f hr rfl T.g_ask_board kp_f b_f (fun σ => passAt tk σ) (pa_cons (pv 1) pa_nil)))
      (pss_cons (ps_fld (pv 0) (pe_lst (pa_cons (pe_callTy call_list_of rfl T.f_list (by decide +kernel) (pa_cons (pv 1) pa_nil)) pa_nil)) rfl)
      (pss_cons (ps_fld (pv 0) (pe_lst pa_nil) rfl)
      (pss_one (ps_fld (pv 0) (pe_lst pa_nil) rfl)))))), ?_⟩
    unfold m_bk_init at hQ
    refine st_seq ?_
    refine s_drop (F := H) ?_ (Same.refl _) (Same.refl _) hQ ?_
    · exact (g_im (Same.refl _) (g_call1 (ma := .ok board) (g_var (a := board) ra (Same.refl _))))
    intro _ F2 H3 nx e0 hQ
    have ra3 := Rp.mono nx.same ra
    have hx3 := nx.same _ _ hx
    first | with_reducible refine st_n ?_ | skip
    refine st_seq ?_
    refine s_fldL1 (F := nil0) (E := E) (m := .ok board) (kk := fun l => l = board) ?hd e0 rfl fun l vl H4 e4 rl el pb hpb => ?_
    case hd => exact (g_listI (g_var (a := board) ra3 (Same.refl _)))
    subst el
    have hx4 := e4 _ _ hx3
    have b1 : pb ≠ x := fun z => by rw [z, hx4] at hpb; cases hpb
    refine ⟨_, rfl, x, _, dx, [], rfl, (by rw [upd_ne b1.symm]; exact hx4), T.bk.cl, T.bk.nB, (by show 0 < 1000; decide), ?_⟩
    first | with_reducible refine st_n ?_ | skip
    refine st_seq ?_
    refine ⟨Nat.zero_le _, fun pd hpd => ?_⟩
    have d1 : pd ≠ x := fun z => by rw [z, upd_same] at hpd; cases hpd
    rw [upd_ne d1] at hpd
    have d2 : pd ≠ pb := fun z => by rw [z, upd_same] at hpd; cases hpd
    rw [upd_ne d2] at hpd
    refine ⟨_, rfl, x, _, dx, _, rfl, (by rw [upd_ne d1.symm]; exact upd_same), T.bk.cl, T.bk.nD, (by show 1 < 1000; decide), ?_⟩
    first | with_reducible refine st_n ?_ | skip
    refine ⟨Nat.zero_le _, fun pg hpg => ?_⟩
    have g1 : pg ≠ x := fun z => by rw [z, upd_same] at hpg; cases hpg
    rw [upd_ne g1] at hpg
    have g2 : pg ≠ pd := fun z => by rw [z, upd_same] at hpg; cases hpg
    rw [upd_ne g2, upd_ne g1] at hpg
    have g3 : pg ≠ pb := fun z => by rw [z, upd_same] at hpg; cases hpg
    rw [upd_ne g3] at hpg
    refine ⟨_, rfl, x, _, dx, _, rfl, (by rw [upd_ne g1.symm]; exact upd_same), T.bk.cl, T.bk.nG, (by rw [bf_two]; show 2 < 1000; decide), ?_⟩
    rw [bf_new]
    have hQ : ∀ H' S', (∀ q o, H q = some o → q ≠ x → H' q = some o) → Tr.tr K H' S' (.ref x) (⟨[l], [], []⟩ : Bk) → (∀ q, S' q → (q = x ∨ H q = none) ∧ muc H' q) → Q .non H' := hQ
    generalize hH : upd (upd (upd (upd (upd (upd H4 pb (.lst [vl])) x (.ins (bC K) dx (putF "boards" (.ref pb) []))) pd (.lst [])) x (.ins (bC K) dx (putF "deeds" (.ref pd) (putF "boards" (.ref pb) [])))) pg (.lst [])) x (.ins (bC K) dx (bf pb pd pg)) = H'
    have e04 : Same H H4 := nx.same.trans e4
    have hh : ∀ q o, H4 q = some o → q ≠ x → H' q = some o := fun q o h n => by
      have q1 : q ≠ pb := fun z => by rw [z, hpb] at h; cases h
      have q2 : q ≠ pd := fun z => by rw [z, hpd] at h; cases h
      have q3 : q ≠ pg := fun z => by rw [z, hpg] at h; cases h
      rw [← hH, upd_ne n, upd_ne q3, upd_ne n, upd_ne q2, upd_ne n, upd_ne q1]
      exact h
    have gx : H' x = some (.ins (bC K) dx (bf pb pd pg)) := by rw [← hH]; exact upd_same
    have gb : H' pb = some (.lst [vl]) := by rw [← hH, upd_ne b1, upd_ne g3.symm, upd_ne b1, upd_ne d2.symm, upd_ne b1]; exact upd_same
    have gd_ : H' pd = some (.lst []) := by rw [← hH, upd_ne d1, upd_ne g2.symm, upd_ne d1]; exact upd_same
    have gg : H' pg = some (.lst []) := by rw [← hH, upd_ne g1]; exact upd_same
    have nw : ∀ q, H4 q = none → H q = none := fun q h => Same.free e04 h
    have si : Same (mix nil0 H3 H4) (inn H' (fun q => (q = x ∨ H q = none) ∧ muc H' q) x pb pd pg) := fun q o h => by
      have h4 := mix_same nil_same e4 _ _ h
      have n0 : q ≠ x ∨ tupB (some o) = true := by
        by_cases z : q = x
        · rw [z, hx4] at h4
          cases h4
          exfalso
          rw [z, mix_old hx3] at h
          cases h
        · exact .inl z
      have n1 : q ≠ pb := fun z => by rw [z, hpb] at h4; cases h4
      have n2 : q ≠ pd := fun z => by rw [z, hpd] at h4; cases h4
      have n3 : q ≠ pg := fun z => by rw [z, hpg] at h4; cases h4
      have nx0 : q ≠ x := by
        rcases n0 with z | z
        · exact z
        · intro w
          rw [w, hx4] at h4
          cases h4
          cases z
      have h9 := hh q o h4 nx0
      refine inn_of h9 ?_
      rcases mix_cases h with ⟨z, _⟩ | ⟨_, z⟩ | ⟨_, _, _, z⟩
      · cases t : tupB (some o) with
        | true => exact .inl rfl
        | false => exact .inr ⟨⟨.inr (Same.free nx.same z), o, h9, t⟩, nx0, n1, n2, n3⟩
      · exact .inl z
      · cases z
    refine hQ H' (fun q => (q = x ∨ H q = none) ∧ muc H' q) (fun q o h n => hh q o (e04 q o h) n) ⟨x, pb, pd, pg, rfl, ⟨dx, gx⟩, ⟨_, gb, .cons (Rp.mono si rl) .nil⟩, ⟨_, gd_, .nil⟩, ⟨_, gg, .nil⟩, ⟨⟨.inl rfl, _, gx, rfl⟩, ⟨.inr (nw _ hpb), _, gb, rfl⟩, ⟨.inr (nw _ hpd), _, gd_, rfl⟩, ⟨.inr (nw _ hpg), _, gg, rfl⟩⟩, d2.symm, g3.symm, g2.symm⟩ fun q z => z

theorem ok_bk_init (T : Hd K mg) : ∃ fd, PySem.W.keepIn K (.ref (He.ma K (He.ga K "RingBook") "__init__")) = true ∧ Binds K fd ["self", "board"] [] ∧ FnOk P w K mg base (L2.CX P w) 2 (He.ma K (He.ga K "RingBook") "__init__") fd ["self", "board"] (spMk K (m_bk_init m_ask_board)) := by
  obtain ⟨fds, kps, bs, Gs⟩ := ok_ask_board (P := P) (w := w) (base := base) T
  obtain ⟨fd, b, G⟩ := okr_bk_init (P := P) (w := w) (base := base) T Gs kps bs
  exact ⟨fd, T.me_bk_init.kp, b, G⟩

abbrev N__law_at : List Str := ["script", "k"]
theorem sc__law_at : FnScope N__law_at ["script", "k"] (defScope s__law_at) := ⟨rfl, rfl, rfl, by decide +kernel, rfl, by decide +kernel, by decide +kernel⟩
theorem ok__law_at (T : Hd K mg) : ∃ fd, PySem.W.keepIn K (.ref (He.ga K "_law_at")) = true ∧ Binds K fd ["script", "k"] [] ∧ FnOk P w K mg base (L2.CX P w) 1 (He.ga K "_law_at") fd ["script", "k"] (sp2 K m__law_at) := by
  obtain ⟨fd, F⟩ := T.d__law_at
  refine ⟨fd, F.kp, F.bindsN fun _ _ _ _ _ _ us hl => match us, hl with | [_, _], _ => rfl, ?_⟩
  refine F.ok sc__law_at (fun vs H Q E h => ?_) (fun cdv A outer s H vs Q E hr h => ?_)
  · obtain ⟨v_script, v_k, script, k, rfl, r_script, r_k, hQ⟩ := h
    rfl
  · obtain ⟨v_script, v_k, script, k, rfl, r_script, r_k, hQ⟩ := h
    obtain rfl : v_k = V.int k := r_k
    have tk : Takes (cxOf (L2.CX P w) P w K mg base N__law_at "_law_at" (defScope s__law_at) (He.ga K "_law_at") cdv A outer s H E) (fun cls d _ H => E cls d H) := takes_of rfl rfl rfl rfl
    refine ⟨_, (by exact (pss_cons (ps_if (pt_cmpR op_lt (pv 1) (pe_callB call_len_seq rfl T.f_len PySem.boot_len (pa_cons (pv 0) pa_nil)) (nomark _)) (pss_one (ps_ret (pe_ix ix_list (pv 0) (pv 1) (fun _ _ => rfl)))) pss_nil)
          (pss_one (ps_ret pe_int)))), ?_⟩
    unfold m__law_at at hQ
    first | with_reducible refine st_n ?_ | skip
    refine st_seq ?_
    refine s_if ?_ (Same.refl _) (Same.refl _) hQ ?_ ?_
    · exact (t_test (F := H) (g_b0 (g_var (a := k) rfl (Same.refl _)) (g_lenS (g_var (a := script) (Rp.mono (Same.refl _) r_script) (Same.refl _)) (Same.refl _))))
    · intro F2 H3 nx1 e04 hQ
      replace hQ := if_t hQ
      replace r_script := Rp.mono nx1.ff r_script
      have hF5 := nx1.fh
      first | with_reducible refine st_n ?_ | skip
      refine s_ret ?_ e04 hQ (fun a h => h)
      exact (g_sc (F' := H3) (g_idxS (g_var (a := script) (Rp.mono hF5 r_script) (Same.refl _)) (g_var (a := k) rfl (Same.refl _)) (Same.refl _)))
    intro F2 H3 nx1 e04 hQ
    replace hQ := if_f hQ
    refine st_next ?_
    replace r_script := Rp.mono nx1.ff r_script
    have hF6 := nx1.fh
    first | with_reducible refine st_n ?_ | skip
    refine s_ret ?_ e04 hQ (fun a h => h)
    exact (g_sc (F' := H3) g_int)

abbrev N__law_folded : List Str := ["script", "many", "numbers", "k", "at"]
theorem sc__law_folded : FnScope N__law_folded ["script", "many"] (defScope s__law_folded) := ⟨rfl, rfl, rfl, by decide +kernel, rfl, by decide +kernel, by decide +kernel⟩
theorem ok__law_folded (T : Hd K mg) : ∃ fd, PySem.W.keepIn K (.ref (He.ga K "_law_folded")) = true ∧ Binds K fd ["script", "many"] [] ∧ FnOk P w K mg base (L2.CX P w) 1 (He.ga K "_law_folded") fd ["script", "many"] (sp2 K m__law_folded) := by
  obtain ⟨fd, F⟩ := T.d__law_folded
  refine ⟨fd, F.kp, F.bindsN fun _ _ _ _ _ _ us hl => match us, hl with | [_, _], _ => rfl, ?_⟩
  refine F.ok sc__law_folded (fun vs H Q E h => ?_) (fun cdv A outer s H vs Q E hr h => ?_)
  · obtain ⟨v_script, v_many, script, many, rfl, r_script, r_many, hQ⟩ := h
    rfl
  · obtain ⟨v_script, v_many, script, many, rfl, r_script, r_many, hQ⟩ := h
    obtain rfl : v_many = V.int many := r_many
    have tk : Takes (cxOf (L2.CX P w) P w K mg base N__law_folded "_law_folded" (defScope s__law_folded) (He.ga K "_law_folded") cdv A outer s H E) (fun cls d _ H => E cls d H) := takes_of rfl rfl rfl rfl
    refine ⟨_, (by exact (pss_cons (ps_set (i := 2) sc__law_folded.nd rfl (Or.inl rfl) (pe_op op_rep (pe_lst (pa_cons pe_int pa_nil)) (pv 1)))
          (pss_cons (ps_for (passes_of rfl) rfl (pi_range2 rfl T.f_range (pa_cons pe_int (pa_cons (pe_callB call_len_seq rfl T.f_len PySem.boot_len (pa_cons (pv 0) pa_nil)) pa_nil))) (pg_name (i := 3) sc__law_folded.nd rfl (Or.inl rfl)) (pss_cons (ps_set (i := 4) sc__law_folded.nd rfl (Or.inl rfl) (pe_op op_mod (pe_op op_sub (pv 3) pe_int) (pv 1)))
          (pss_one (ps_asg (pe_op op_mod (pe_op op_add (pe_op op_mul (pe_ix ix_list (pv 2) (pv 4) (fun _ _ => rfl)) pe_int) (pe_ix ix_list (pv 0) (pv 3) (fun _ _ => rfl))) (pe_op op_pow pe_int pe_int)) (pg_sub (pv 2) (pv 4) set_list)))))
          (pss_one (ps_ret (pv 2)))))), ?_⟩
    unfold m__law_folded at hQ
    first | with_reducible refine st_n ?_ | skip
    refine st_seq ?_
    refine s_asgI (b := false) ?_ (Same.refl _) (Same.refl _) hQ ?_
    · exact (g_repI (g_lstK (a_cons g_int a_nil) (Nat.le_of_ble_eq_true rfl)) (g_var (a := many) rfl (Same.refl _)))
    intro numbers p6 F2 H3 nx1 e04 o5 nw7 hQ
    replace r_script := Rp.mono nx1.ff r_script
    have hF8 := nx1.fh
    first | with_reducible refine st_n ?_ | skip
    refine st_seq ?_
    refine s_for ?_ hF8 e04 hQ ?_
    · exact (i_rng2 (g_sc (F' := H3) g_int) (g_sc (F' := H3) (g_lenS (g_var (a := script) (Rp.mono hF8 r_script) (Same.refl _)) (Same.refl _))))
    intro xs13 J14 F10 H11 nx9 e012 ok15 hQ
    replace r_script := Rp.mono nx9.ff r_script
    replace o5 := o5.nx0 nx9
    have hF17 := nx9.fh
    replace hQ := wp_bdi hQ
    refine for_S ok15 (fun (numbers : (List Int)) σ22 H21 => ∃ (F18 : Hp) (j24 : Option V) (j25 : Option V), σ22 = [some v_script, some (.int many), some (.ref p6), j25, j24] ∧ Nx (fun q => q = p6 ∨ False) F10 H11 F18 H21 ∧ Same H H21 ∧ Own K H false F18 H21 p6 numbers) ?hku57 ?h0u57 hQ ?turnu57 ?doneu57
    case hku57 =>
      intro numbers σ9 H21 hI
      obtain ⟨F18, j24, j25, rfl, nL19, e020, o23⟩ := hI
      exact nL19.ff.trans nL19.fh
    case h0u57 =>
      exact ⟨_, _, _, rfl, (Nx.refl' hF17), e012, o5⟩
    case turnu57 =>
      intro k l29 numbers v30 σ9 H21 H31 hI e32 rx33 hQ
      obtain ⟨F18, j24, j25, rfl, nL19, e020, o23⟩ := hI
      have r_script := Rp.mono nL19.ff r_script
      have hF26 := nL19.fh
      have nA27 := nL19
      have nx34 : Nx0 F18 H21 (mix F18 H21 H31) H31 := Nx.mk' hF26 e32
      have e036 := e020.trans e32
      replace r_script := Rp.mono nx34.ff r_script
      replace o23 := o23.nx0 nx34
      replace nA27 := nA27.step0 nx34
      have hF37 := nx34.fh
      refine gn ?_
      obtain rfl : v30 = V.int k := rx33
      first | with_reducible refine st_n ?_ | skip
      refine st_seq ?_
      refine s_asg ?_ hF37 e036 hQ ?_
      · exact (g_sc (F' := H31) (g_mod (g_i0 (g_var (a := k) rfl (Same.refl _)) g_int) (g_var (a := many) rfl (Same.refl _))))
      intro at_ v43 F40 H41 nx39 e042 r44 hQ
      replace r_script := Rp.mono nx39.ff r_script
      replace o23 := o23.nx0 nx39
      replace nA27 := nA27.step0 nx39
      have hF45 := nx39.fh
      obtain rfl : v43 = V.int at_ := r44
      first | with_reducible refine st_n ?_ | skip
      refine s_set (m := R.bd (R.bd (R.bd (idx numbers at_) fun (t46 : Int) => .ok (t46 * (31 : Int))) fun (t47 : Int) => R.bd (idx script.l k) fun (t48 : Int) => .ok (t47 + t48)) fun (t49 : Int) => .ok (t49 % (10 ^ 60 : Int))) (mi := .ok at_) ?ha o23 ?he ?hi hF45 e042 hQ ?_
      case ha => exact at_var rfl
      case he => exact (g_sc (F' := H41) (g_modL (by decide +kernel) (g_i0 (g_mulL (by decide) (g_idx (g_var (a := numbers) (o23.rep hF45) (Same.refl _)) (g_var (a := at_) rfl (Same.refl _)) (Same.refl _)) g_int) (g_idxS (g_var (a := script) (Rp.mono hF45 r_script) (Same.refl _)) (g_var (a := k) rfl (Same.refl _)) (Same.refl _))) (g_pow (by decide))))
      case hi => exact (g_var (a := at_) rfl (Same.refl _))
      intro numbers F52 H53 nx51 e054 o2 hQ
      replace r_script := Rp.mono nx51.ff r_script
      replace nA27 := nA27.step nx51 (fun q z => .inl (.inl z))
      have hF55 := nx51.fh
      replace o23 := o2
      exact ⟨numbers, ⟨_, _, _, rfl, nA27, e054, o23⟩, hQ⟩
    case doneu57 =>
      intro numbers σ9 H21 hI hQ
      obtain ⟨F18, j24, j25, rfl, nL19, e020, o23⟩ := hI
      have r_script := Rp.mono nL19.ff r_script
      have hF26 := nL19.fh
      first | with_reducible refine st_n ?_ | skip
      refine s_ret ?_ e020 hQ (fun a h => h)
      exact (g_var (a := numbers) (o23.repI hF26) dif_le)

abbrev N__law_board : List Str := ["script", "pits", "way", "board", "number", "held"]
theorem sc__law_board : FnScope N__law_board ["script", "pits", "way"] (defScope s__law_board) := ⟨rfl, rfl, rfl, by decide +kernel, rfl, by decide +kernel, by decide +kernel⟩
theorem ok__law_board (T : Hd K mg) : ∃ fd, PySem.W.keepIn K (.ref (He.ga K "_law_board")) = true ∧ Binds K fd ["script", "pits", "way"] [] ∧ FnOk P w K mg base (L2.CX P w) 2 (He.ga K "_law_board") fd ["script", "pits", "way"] (sp3 K m__law_board) := by
  obtain ⟨fd, F⟩ := T.d__law_board
  obtain ⟨fd__law_folded, kp__law_folded, b__law_folded, G__law_folded⟩ := ok__law_folded (P := P) (w := w) (base := base) T
  refine ⟨fd, F.kp, F.bindsN fun _ _ _ _ _ _ us hl => match us, hl with | [_, _, _], _ => rfl, ?_⟩
  refine F.ok sc__law_board (fun vs H Q E h => ?_) (fun cdv A outer s H vs Q E hr h => ?_)
  · obtain ⟨v_script, v_pits, v_way, script, pits, way, rfl, r_script, r_pits, r_way, hQ⟩ := h
    rfl
  · obtain ⟨v_script, v_pits, v_way, script, pits, way, rfl, r_script, r_pits, r_way, hQ⟩ := h
    obtain rfl : v_pits = V.int pits := r_pits
    obtain rfl : v_way = V.int way := r_way
    have tk : Takes (cxOf (L2.CX P w) P w K mg base N__law_board "_law_board" (defScope s__law_board) (He.ga K "_law_board") cdv A outer s H E) (fun cls d _ H => E cls d H) := takes_of rfl rfl rfl rfl
    refine ⟨_, (by exact (pss_cons (ps_set (i := 3) sc__law_board.nd rfl (Or.inl rfl) (pe_lst pa_nil))
          (pss_cons (ps_for (passes_of rfl) rfl (pi_list (pe_callS G__law_folded (hr.mono (by decide)) rfl T.g__law_folded kp__law_folded b__law_folded (fun σ => passAt tk σ) (pa_cons (pv 0) (pa_cons (pv 1) pa_nil)))) (pg_name (i := 4) sc__law_board.nd rfl (Or.inl rfl)) (pss_cons (ps_set (i := 5) sc__law_board.nd rfl (Or.inl rfl) (pe_op op_mod (pe_op op_fdivW (pv 4) pe_int) pe_int))
          (Evl.pss_cut (ps_if (pt_cmpR op_eq (pv 2) pe_int (nomark _)) (pss_one (ps_set (i := 5) sc__law_board.nd rfl (Or.inl rfl) (pe_op op_mod (pe_op op_fdivW (pv 4) pe_int) pe_int))) pss_nil)
          (Evl.pss_cut (ps_if (pt_cmpR op_eq (pv 2) pe_int (nomark _)) (pss_one (ps_set (i := 5) sc__law_board.nd rfl (Or.inl rfl) (pe_op op_fdivW (pv 4) pe_int))) pss_nil)
          (Evl.pss_cut (ps_if (pt_cmpR op_eq (pv 2) pe_int (nomark _)) (pss_one (ps_set (i := 5) sc__law_board.nd rfl (Or.inl rfl) (pe_ix ix_list (pe_lst (pa_cons pe_int (pa_cons pe_int (pa_cons (pe_op op_fdivW (pv 4) pe_int) (pa_cons (pv 1) pa_nil))))) (pe_op op_mod (pe_op op_fdivW (pv 4) pe_int) pe_int) (fun _ _ => rfl)))) pss_nil)
          (pss_one (ps_expr (pe_bm PySem.F.plainAttrs_list PySem.F.slot_list_append PySem.F.type_list_append mt_append (pv 3) (pa_cons (pv 5) pa_nil)))))))))
          (pss_one (ps_ret (pv 3)))))), ?_⟩
    unfold m__law_board at hQ
    first | with_reducible refine st_n ?_ | skip
    refine st_seq ?_
    refine s_asgI (b := false) ?_ (Same.refl _) (Same.refl _) hQ ?_
    · exact (g_lstK a_nil (Nat.le_of_ble_eq_true rfl))
    intro board p6 F2 H3 nx1 e04 o5 nw7 hQ
    replace r_script := Rp.mono nx1.ff r_script
    have hF8 := nx1.fh
    first | with_reducible refine st_n ?_ | skip
    refine st_seq ?_
    refine s_for ?_ hF8 e04 hQ ?_
    · exact (i_list (g_call2 (ma := .ok script) (mb := .ok pits) (g_var (a := script) (Rp.mono hF8 r_script) (Same.refl _)) (g_var (a := pits) rfl (Same.refl _))) hF8)
    intro xs13 J14 F10 H11 nx9 e012 ok15 hQ
    replace r_script := Rp.mono nx9.ff r_script
    replace o5 := o5.nx0 nx9
    have hF17 := nx9.fh
    replace hQ := wp_bdi hQ
    refine for_S ok15 (fun (board : (List Int)) σ22 H21 => ∃ (F18 : Hp) (j24 : Option V) (j25 : Option V), σ22 = [some v_script, some (.int pits), some (.int way), some (.ref p6), j25, j24] ∧ Nx (fun q => q = p6 ∨ False) F10 H11 F18 H21 ∧ Same H H21 ∧ Own K H false F18 H21 p6 board) ?hku115 ?h0u115 hQ ?turnu115 ?doneu115
    case hku115 =>
      intro board σ9 H21 hI
      obtain ⟨F18, j24, j25, rfl, nL19, e020, o23⟩ := hI
      exact nL19.ff.trans nL19.fh
    case h0u115 =>
      exact ⟨_, _, _, rfl, (Nx.refl' hF17), e012, o5⟩
    case turnu115 =>
      intro number l29 board v30 σ9 H21 H31 hI e32 rx33 hQ
      obtain ⟨F18, j24, j25, rfl, nL19, e020, o23⟩ := hI
      have r_script := Rp.mono nL19.ff r_script
      have hF26 := nL19.fh
      have nA27 := nL19
      have nx34 : Nx0 F18 H21 (mix F18 H21 H31) H31 := Nx.mk' hF26 e32
      have e036 := e020.trans e32
      replace r_script := Rp.mono nx34.ff r_script
      replace o23 := o23.nx0 nx34
      replace nA27 := nA27.step0 nx34
      have hF37 := nx34.fh
      refine gn ?_
      obtain rfl : v30 = V.int number := rx33
      first | with_reducible refine st_n ?_ | skip
      refine st_seq ?_
      refine s_asg ?_ hF37 e036 hQ ?_
      · exact (g_sc (F' := H31) (g_modL (by decide +kernel) (g_divL (by decide +kernel) (g_var (a := number) rfl (Same.refl _)) g_int) g_int))
      intro held v43 F40 H41 nx39 e042 r44 hQ
      replace r_script := Rp.mono nx39.ff r_script
      replace o23 := o23.nx0 nx39
      replace nA27 := nA27.step0 nx39
      have hF45 := nx39.fh
      obtain rfl : v43 = V.int held := r44
      first | with_reducible refine st_n ?_ | skip
      replace hQ := wp_bdi hQ
      refine s_cutW (I := fun (held : Int) σ54 H53 => ∃ (F50 : Hp), σ54 = [some v_script, some (.int pits), some (.int way), some (.ref p6), some (.int number), some (.int held)] ∧ Nx (fun _ => False) F40 H41 F50 H53 ∧ Same H H53) (hQ := hQ) ?_ ?_
      · intro hQ
        have nA56 : Nx (fun _ => False) F40 H41 F40 H41 := Nx.refl' hF45
        refine s_if ?_ hF45 e042 hQ ?_ ?_
        · exact (t_test (F := H41) (g_eq (g_var (a := way) rfl (Same.refl _)) g_int))
        · intro F47 H48 nx46 e049 hQ
          replace hQ := if_t hQ
          replace r_script := Rp.mono nx46.ff r_script
          replace o23 := o23.nx0 nx46
          replace nA27 := nA27.step0 nx46
          replace nA56 := nA56.step0 nx46
          have hF57 := nx46.fh
          first | with_reducible refine st_n ?_ | skip
          refine s_asg ?_ hF57 e049 hQ ?_
          · exact (g_sc (F' := H48) (g_modL (by decide +kernel) (g_divL (by decide +kernel) (g_var (a := number) rfl (Same.refl _)) g_int) g_int))
          intro held v63 F60 H61 nx59 e062 r64 hQ
          replace r_script := Rp.mono nx59.ff r_script
          replace o23 := o23.nx0 nx59
          replace nA27 := nA27.step0 nx59
          replace nA56 := nA56.step0 nx59
          have hF65 := nx59.fh
          obtain rfl : v63 = V.int held := r64
          exact ⟨held, ⟨_, rfl, nA56, e062⟩, hQ⟩
        intro F47 H48 nx46 e049 hQ
        replace hQ := if_f hQ
        refine st_next ?_
        replace r_script := Rp.mono nx46.ff r_script
        replace o23 := o23.nx0 nx46
        replace nA27 := nA27.step0 nx46
        replace nA56 := nA56.step0 nx46
        have hF58 := nx46.fh
        exact ⟨held, ⟨_, rfl, nA56, e049⟩, hQ⟩
      rintro held σ9 H53 hI hQ
      obtain ⟨F50, rfl, nL51, e052⟩ := hI
      have r_script := Rp.mono nL51.ff r_script
      have o23 := o23.nx nL51 (fun z => z)
      have hF55 := nL51.fh
      have nA27 := nA27.step0 nL51
      first | with_reducible refine st_n ?_ | skip
      replace hQ := wp_bdi hQ
      refine s_cutW (I := fun (held : Int) σ74 H73 => ∃ (F70 : Hp), σ74 = [some v_script, some (.int pits), some (.int way), some (.ref p6), some (.int number), some (.int held)] ∧ Nx (fun _ => False) F50 H53 F70 H73 ∧ Same H H73) (hQ := hQ) ?_ ?_
      · intro hQ
        have nA76 : Nx (fun _ => False) F50 H53 F50 H53 := Nx.refl' hF55
        refine s_if ?_ hF55 e052 hQ ?_ ?_
        · exact (t_test (F := H53) (g_eq (g_var (a := way) rfl (Same.refl _)) g_int))
        · intro F67 H68 nx66 e069 hQ
          replace hQ := if_t hQ
          replace r_script := Rp.mono nx66.ff r_script
          replace o23 := o23.nx0 nx66
          replace nA27 := nA27.step0 nx66
          replace nA76 := nA76.step0 nx66
          have hF77 := nx66.fh
          first | with_reducible refine st_n ?_ | skip
          refine s_asg ?_ hF77 e069 hQ ?_
          · exact (g_sc (F' := H68) (g_divL (by decide +kernel) (g_var (a := number) rfl (Same.refl _)) g_int))
          intro held v83 F80 H81 nx79 e082 r84 hQ
          replace r_script := Rp.mono nx79.ff r_script
          replace o23 := o23.nx0 nx79
          replace nA27 := nA27.step0 nx79
          replace nA76 := nA76.step0 nx79
          have hF85 := nx79.fh
          obtain rfl : v83 = V.int held := r84
          exact ⟨held, ⟨_, rfl, nA76, e082⟩, hQ⟩
        intro F67 H68 nx66 e069 hQ
        replace hQ := if_f hQ
        refine st_next ?_
        replace r_script := Rp.mono nx66.ff r_script
        replace o23 := o23.nx0 nx66
        replace nA27 := nA27.step0 nx66
        replace nA76 := nA76.step0 nx66
        have hF78 := nx66.fh
        exact ⟨held, ⟨_, rfl, nA76, e069⟩, hQ⟩
      rintro held σ9 H73 hI hQ
      obtain ⟨F70, rfl, nL71, e072⟩ := hI
      have r_script := Rp.mono nL71.ff r_script
      have o23 := o23.nx nL71 (fun z => z)
      have hF75 := nL71.fh
      have nA27 := nA27.step0 nL71
      first | with_reducible refine st_n ?_ | skip
      replace hQ := wp_bdi hQ
      refine s_cutW (I := fun (held : Int) σ94 H93 => ∃ (F90 : Hp), σ94 = [some v_script, some (.int pits), some (.int way), some (.ref p6), some (.int number), some (.int held)] ∧ Nx (fun _ => False) F70 H73 F90 H93 ∧ Same H H93) (hQ := hQ) ?_ ?_
      · intro hQ
        have nA96 : Nx (fun _ => False) F70 H73 F70 H73 := Nx.refl' hF75
        refine s_if ?_ hF75 e072 hQ ?_ ?_
        · exact (t_test (F := H73) (g_eq (g_var (a := way) rfl (Same.refl _)) g_int))
        · intro F87 H88 nx86 e089 hQ
          replace hQ := if_t hQ
          replace r_script := Rp.mono nx86.ff r_script
          replace o23 := o23.nx0 nx86
          replace nA27 := nA27.step0 nx86
          replace nA96 := nA96.step0 nx86
          have hF97 := nx86.fh
          first | with_reducible refine st_n ?_ | skip
          refine s_asg ?_ hF97 e089 hQ ?_
          · exact (g_sc (F' := H88) (g_idx (g_lstK (a_cons g_int (a_cons g_int (a_cons (g_divL (by decide +kernel) (g_var (a := number) rfl (Same.refl _)) g_int) (a_cons (g_var (a := pits) rfl (Same.refl _)) a_nil)))) (Nat.le_of_ble_eq_true rfl)) (g_modL (by decide +kernel) (g_divL (by decide +kernel) (g_var (a := number) rfl (Same.refl _)) g_int) g_int) (Same.refl _)))
          intro held v103 F100 H101 nx99 e0102 r104 hQ
          replace r_script := Rp.mono nx99.ff r_script
          replace o23 := o23.nx0 nx99
          replace nA27 := nA27.step0 nx99
          replace nA96 := nA96.step0 nx99
          have hF105 := nx99.fh
          obtain rfl : v103 = V.int held := r104
          exact ⟨held, ⟨_, rfl, nA96, e0102⟩, hQ⟩
        intro F87 H88 nx86 e089 hQ
        replace hQ := if_f hQ
        refine st_next ?_
        replace r_script := Rp.mono nx86.ff r_script
        replace o23 := o23.nx0 nx86
        replace nA27 := nA27.step0 nx86
        replace nA96 := nA96.step0 nx86
        have hF98 := nx86.fh
        exact ⟨held, ⟨_, rfl, nA96, e089⟩, hQ⟩
      rintro held σ9 H93 hI hQ
      obtain ⟨F90, rfl, nL91, e092⟩ := hI
      have r_script := Rp.mono nL91.ff r_script
      have o23 := o23.nx nL91 (fun z => z)
      have hF95 := nL91.fh
      have nA27 := nA27.step0 nL91
      first | with_reducible refine st_n ?_ | skip
      refine s_app (m := .ok held) ?ha o23 ?he hF95 e092 hQ ?_
      case ha => exact at_var rfl
      case he => exact (g_var (a := held) rfl hF95)
      intro board F107 H108 nx106 e0109 o2 hQ
      replace r_script := Rp.mono nx106.ff r_script
      replace nA27 := nA27.step nx106 (fun q z => .inl (.inl z))
      have hF110 := nx106.fh
      replace o23 := o2
      exact ⟨board, ⟨_, _, _, rfl, nA27, e0109, o23⟩, hQ⟩
    case doneu115 =>
      intro board σ9 H21 hI hQ
      obtain ⟨F18, j24, j25, rfl, nL19, e020, o23⟩ := hI
      have r_script := Rp.mono nL19.ff r_script
      have hF26 := nL19.fh
      first | with_reducible refine st_n ?_ | skip
      refine s_ret ?_ e020 hQ (fun a h => h)
      exact (g_var (a := board) (o23.repI hF26) dif_le)

abbrev N__law_asked : List Str := ["book", "way", "pit"]
theorem sc__law_asked : FnScope N__law_asked ["book", "way", "pit"] (defScope s__law_asked) := ⟨rfl, rfl, rfl, by decide +kernel, rfl, by decide +kernel, by decide +kernel⟩
def spB__law_asked (K : PySem.W.Frag) : Sp := fun vs H Q E => ∃ (v_book : V) (v_way : V) (v_pit : V) (book : Bk) (way : Int) (pit : Int) (S0 : Addr → Prop) (Gz : Hp), vs = [v_book, v_way, v_pit] ∧ Same Gz H ∧ Tr.tr K H S0 v_book book ∧ Rp.rep K Gz v_way way ∧ Rp.rep K Gz v_pit pit ∧ (∀ b, S0 b → Gz b = none ∧ muc H b) ∧ Wp (m__law_asked book way pit) (fun z => ∀ v' F' H' S', Nx S0 Gz H F' H' → Tr.tr K H' S' v_book z.2 → (∀ q, S' q → (S0 q ∨ H q = none) ∧ F' q = none ∧ muc H' q) → Rp.rep K F' v' z.1 → Q v' H') (EE K E H)
theorem g_B__law_asked {E : XK} {σ : L2.St} {H0 F H : Hp} {Ex : L2.St → XK} {m0 : R Int} {t0 : TE} {m1 : R Int} {t1 : TE} {book : Bk} {v_book : V} {SS : Addr → Prop} {tx : TE} (h0 : Gr K E t0 σ F H m0) (h1 : Gr K E t1 σ F H m1) (o : ApO K H0 F H SS v_book book) (hv : AtV tx σ H v_book) (hF : Same F H) (e0 : Same H0 H) (hE : Ex σ = E := by rfl) :
    GrM2 K E (tCallS (spB__law_asked K) Ex (tCons tx (tCons t0 (tCons t1 tNil)))) σ H0 F H (fun q => (SS q ∧ tupB (H q) = false) ∨ False) (BkJ K H0 H SS v_book) (R.bd m0 fun (way : Int) => R.bd m1 fun (pit : Int) => m__law_asked book way pit) := by
  subst hE
  intro Q hq
  refine hv _ (Same.refl _) _ ?_
  refine gm_arg h0 (Same.refl _) (Same.refl _) hq fun way v_way H1 e1 r_way hq => ?_
  refine gm_arg h1 e1 (Same.refl _) hq fun pit v_pit H2 e2 r_pit hq => ?_
  obtain ⟨S0, tr0, hS0, hSS, h0⟩ := apo_out o (e1.trans e2) hF
  have n0 := Nx.mk' hF (e1.trans e2)
  have e9 := e0.trans (e1.trans e2)
  exact ⟨v_book, v_way, v_pit, book, way, pit, S0, mix F H H2, rfl, mix_same hF (e1.trans e2), tr0, (Rp.mono (mix_mono e2) r_way), r_pit, hS0, wp_mono hq (fun z _ k v' F' H' S' n r' hS' rv => k v' F' H' ((n0.tr n).wk fun q z => .inl (hSS q z)) (n.e0 e9 h0) ⟨S', ⟨S', r', fun q w => ⟨w, (hS' q w).2.1, (hS' q w).1.elim (h0 q) (Same.free e9), (hS' q w).2.2⟩⟩, fun q w => ⟨(hS' q w).1.imp (fun y => (hSS q y).1) (Same.free (e1.trans e2)), muc_some (hS' q w).2.2⟩⟩ rv) fun c _ z => z.mono (e1.trans e2)⟩
theorem ok__law_asked (T : Hd K mg) : ∃ fd, PySem.W.keepIn K (.ref (He.ga K "_law_asked")) = true ∧ Binds K fd ["book", "way", "pit"] [] ∧ FnOk P w K mg base (L2.CX P w) 5 (He.ga K "_law_asked") fd ["book", "way", "pit"] (spB__law_asked K) := by
  obtain ⟨fd, F⟩ := T.d__law_asked
  obtain ⟨fd_bk_back, kp_bk_back, b_bk_back, G_bk_back⟩ := ok_bk_back (P := P) (w := w) (base := base) T
  obtain ⟨fd_bk_redo, kp_bk_redo, b_bk_redo, G_bk_redo⟩ := ok_bk_redo (P := P) (w := w) (base := base) T
  obtain ⟨fd_bk_sow, kp_bk_sow, b_bk_sow, G_bk_sow⟩ := ok_bk_sow (P := P) (w := w) (base := base) T
  obtain ⟨fd_bk_undo, kp_bk_undo, b_bk_undo, G_bk_undo⟩ := ok_bk_undo (P := P) (w := w) (base := base) T
  refine ⟨fd, F.kp, F.bindsN fun _ _ _ _ _ _ us hl => match us, hl with | [_, _, _], _ => rfl, ?_⟩
  refine F.ok sc__law_asked (fun vs H Q E h => ?_) (fun cdv A outer s Hz vs Q E hr h => ?_)
  · obtain ⟨v_book, v_way, v_pit, book, way, pit, S0, Gz, rfl, hG, w_book, r_way, r_pit, hS0, hQ⟩ := h
    rfl
  · obtain ⟨v_book, v_way, v_pit, book, way, pit, S0, Gz, rfl, hG, w_book, r_way, r_pit, hS0, hQ⟩ := h
    obtain ⟨H, hH⟩ : ∃ H, H = delS S0 Hz := ⟨_, rfl⟩
    have e0z : Same H Hz := by rw [hH]; exact delS_le
    have A_book : ApO K H Gz Hz S0 v_book book := by rw [hH]; exact apo_bk w_book hS0
    have L_book : ∀ q, S0 q → Hz q ≠ none := fun q z => muc_some (hS0 q z).2
    have nR : Nx (fun q => (S0 q ∧ tupB (Hz q) = false) ∨ False) Gz Hz Gz Hz := Nx.refl' hG
    obtain rfl : v_way = V.int way := r_way
    obtain rfl : v_pit = V.int pit := r_pit
    have tk : Takes (cxOf (L2.CX P w) P w K mg base N__law_asked "_law_asked" (defScope s__law_asked) (He.ga K "_law_asked") cdv A outer s Hz E) (fun cls d _ H => E cls d H) := takes_of rfl rfl rfl rfl
    refine ⟨_, (by exact (pss_cons (ps_if (pt_cmpR op_eq (pv 1) pe_int (nomark _)) (pss_one (ps_ret (pe_meS (pv 0) T.bk.cl T.me_bk_sow G_bk_sow (hr.mono (by decide)) b_bk_sow (fun σ => passAt tk σ) (pa_cons (pv 2) pa_nil)))) pss_nil)
          (pss_cons (ps_if (pt_cmpR op_eq (pv 1) pe_int (nomark _)) (pss_one (ps_ret (pe_meS (pv 0) T.bk.cl T.me_bk_back G_bk_back (hr.mono (by decide)) b_bk_back (fun σ => passAt tk σ) (pa_cons (pv 2) pa_nil)))) pss_nil)
          (pss_cons (ps_if (pt_cmpR op_eq (pv 1) pe_int (nomark _)) (pss_one (ps_ret (pe_meS0 (pv 0) T.bk.cl T.me_bk_undo G_bk_undo (hr.mono (by decide)) b_bk_undo (fun σ => passAt tk σ)))) pss_nil)
          (pss_one (ps_ret (pe_meS0 (pv 0) T.bk.cl T.me_bk_redo G_bk_redo (hr.mono (by decide)) b_bk_redo (fun σ => passAt tk σ)))))))), ?_⟩
    unfold m__law_asked at hQ
    first | with_reducible refine st_n ?_ | skip
    refine st_seq ?_
    refine s_if ?_ hG (Same.refl _) hQ ?_ ?_
    · exact (t_test (F := Hz) (g_eq (g_var (a := way) rfl (Same.refl _)) g_int))
    · intro F2 H3 nx1 e04 hQ
      replace hQ := if_t hQ
      replace A_book := A_book.nx0 nx1
      replace L_book := al_nx nx1 L_book
      replace nR := nR.step0 nx1
      have hF5 := nx1.fh
      first | with_reducible refine st_n ?_ | skip
      refine s_retM2 (m := R.bd (m_bk_sow m_sown book pit) fun z_ => .ok (DyN.dy z_.1, z_.2)) (gm2_dy (g_bk1s (ma := .ok pit) (g_var (a := pit) rfl hF5) A_book (atv_v rfl) hF5 (e0z.trans e04))) e04 hQ ?_
      intro r book v12 F7 H8 nx9 e010 j11 r13 hQ
      obtain ⟨SS14, A15, hs17⟩ := j11
      have ha16 := fun q z => (hs17 q z).2
      have c18 := fun q (z : SS14 q) => (hs17 q z).1.elim (fun u => (lin_id q u : S0 q ∨ Hz q = none)) (fun u => .inr (nR.bk u))
      replace nR := nR.step nx9 (fun q => fun z => Or.elim z (fun z => ((ap_in nR z.1 z.2).imp (fun w => .inl w) id)) (fun z => z.elim))
      have hF19 := nx9.fh
      exact hQ v12 F7 H8 _ (nR.wk fun q z => z.elim (fun w => w.1) fun w => w.elim) A15.ex.choose_spec.1 (fun q z => ⟨c18 q (A15.ex.choose_spec.2 q z).1, (A15.ex.choose_spec.2 q z).2.1, (A15.ex.choose_spec.2 q z).2.2.2⟩) r13
    intro F2 H3 nx1 e04 hQ
    replace hQ := if_f hQ
    refine st_next ?_
    replace A_book := A_book.nx0 nx1
    replace L_book := al_nx nx1 L_book
    replace nR := nR.step0 nx1
    have hF6 := nx1.fh
    first | with_reducible refine st_n ?_ | skip
    refine st_seq ?_
    refine s_if ?_ hF6 e04 hQ ?_ ?_
    · exact (t_test (F := H3) (g_eq (g_var (a := way) rfl (Same.refl _)) g_int))
    · intro F21 H22 nx20 e023 hQ
      replace hQ := if_t hQ
      replace A_book := A_book.nx0 nx20
      replace L_book := al_nx nx20 L_book
      replace nR := nR.step0 nx20
      have hF24 := nx20.fh
      first | with_reducible refine st_n ?_ | skip
      refine s_retM2 (m := R.bd (m_bk_back m_taken_back book pit) fun z_ => .ok (DyN.dy z_.1, z_.2)) (gm2_dy (g_bk1s (ma := .ok pit) (g_var (a := pit) rfl hF24) A_book (atv_v rfl) hF24 (e0z.trans e023))) e023 hQ ?_
      intro r book v31 F26 H27 nx28 e029 j30 r32 hQ
      obtain ⟨SS33, A34, hs36⟩ := j30
      have ha35 := fun q z => (hs36 q z).2
      have c37 := fun q (z : SS33 q) => (hs36 q z).1.elim (fun u => (lin_id q u : S0 q ∨ Hz q = none)) (fun u => .inr (nR.bk u))
      replace nR := nR.step nx28 (fun q => fun z => Or.elim z (fun z => ((ap_in nR z.1 z.2).imp (fun w => .inl w) id)) (fun z => z.elim))
      have hF38 := nx28.fh
      exact hQ v31 F26 H27 _ (nR.wk fun q z => z.elim (fun w => w.1) fun w => w.elim) A34.ex.choose_spec.1 (fun q z => ⟨c37 q (A34.ex.choose_spec.2 q z).1, (A34.ex.choose_spec.2 q z).2.1, (A34.ex.choose_spec.2 q z).2.2.2⟩) r32
    intro F21 H22 nx20 e023 hQ
    replace hQ := if_f hQ
    refine st_next ?_
    replace A_book := A_book.nx0 nx20
    replace L_book := al_nx nx20 L_book
    replace nR := nR.step0 nx20
    have hF25 := nx20.fh
    first | with_reducible refine st_n ?_ | skip
    refine st_seq ?_
    refine s_if ?_ hF25 e023 hQ ?_ ?_
    · exact (t_test (F := H22) (g_eq (g_var (a := way) rfl (Same.refl _)) g_int))
    · intro F40 H41 nx39 e042 hQ
      replace hQ := if_t hQ
      replace A_book := A_book.nx0 nx39
      replace L_book := al_nx nx39 L_book
      replace nR := nR.step0 nx39
      have hF43 := nx39.fh
      first | with_reducible refine st_n ?_ | skip
      refine s_retM2 (m := R.bd (m_bk_undo book) fun z_ => .ok (DyN.dy z_.1, z_.2)) (gm2_dy (g_bk0s A_book (atv_v rfl) hF43 (e0z.trans e042))) e042 hQ ?_
      intro r book v50 F45 H46 nx47 e048 j49 r51 hQ
      obtain ⟨SS52, A53, hs55⟩ := j49
      have ha54 := fun q z => (hs55 q z).2
      have c56 := fun q (z : SS52 q) => (hs55 q z).1.elim (fun u => (lin_id q u : S0 q ∨ Hz q = none)) (fun u => .inr (nR.bk u))
      replace nR := nR.step nx47 (fun q => fun z => Or.elim z (fun z => ((ap_in nR z.1 z.2).imp (fun w => .inl w) id)) (fun z => z.elim))
      have hF57 := nx47.fh
      exact hQ v50 F45 H46 _ (nR.wk fun q z => z.elim (fun w => w.1) fun w => w.elim) A53.ex.choose_spec.1 (fun q z => ⟨c56 q (A53.ex.choose_spec.2 q z).1, (A53.ex.choose_spec.2 q z).2.1, (A53.ex.choose_spec.2 q z).2.2.2⟩) r51
    intro F40 H41 nx39 e042 hQ
    replace hQ := if_f hQ
    refine st_next ?_
    replace A_book := A_book.nx0 nx39
    replace L_book := al_nx nx39 L_book
    replace nR := nR.step0 nx39
    have hF44 := nx39.fh
    first | with_reducible refine st_n ?_ | skip
    refine s_retM2 (m := R.bd (m_bk_redo book) fun z_ => .ok (DyN.dy z_.1, z_.2)) (gm2_dy (g_bk0s A_book (atv_v rfl) hF44 (e0z.trans e042))) e042 hQ ?_
    intro r book v63 F58 H59 nx60 e061 j62 r64 hQ
    obtain ⟨SS65, A66, hs68⟩ := j62
    have ha67 := fun q z => (hs68 q z).2
    have c69 := fun q (z : SS65 q) => (hs68 q z).1.elim (fun u => (lin_id q u : S0 q ∨ Hz q = none)) (fun u => .inr (nR.bk u))
    replace nR := nR.step nx60 (fun q => fun z => Or.elim z (fun z => ((ap_in nR z.1 z.2).imp (fun w => .inl w) id)) (fun z => z.elim))
    have hF70 := nx60.fh
    exact hQ v63 F58 H59 _ (nR.wk fun q z => z.elim (fun w => w.1) fun w => w.elim) A66.ex.choose_spec.1 (fun q z => ⟨c69 q (A66.ex.choose_spec.2 q z).1, (A66.ex.choose_spec.2 q z).2.1, (A66.ex.choose_spec.2 q z).2.2.2⟩) r64

abbrev N__law_told : List Str := ["book", "way", "pit", "caught", "told", "e", "kinds", "word"]
theorem sc__law_told : FnScope N__law_told ["book", "way", "pit"] (defScope s__law_told) := ⟨rfl, rfl, rfl, by decide +kernel, rfl, by decide +kernel, by decide +kernel⟩
def spB__law_told (K : PySem.W.Frag) : Sp := fun vs H Q E => ∃ (v_book : V) (v_way : V) (v_pit : V) (book : Bk) (way : Int) (pit : Int) (S0 : Addr → Prop) (Gz : Hp), vs = [v_book, v_way, v_pit] ∧ Same Gz H ∧ Tr.tr K H S0 v_book book ∧ Rp.rep K Gz v_way way ∧ Rp.rep K Gz v_pit pit ∧ (∀ b, S0 b → Gz b = none ∧ muc H b) ∧ Wp (m__law_told book way pit) (fun z => ∀ v' F' H' S', Nx S0 Gz H F' H' → Tr.tr K H' S' v_book z.2 → (∀ q, S' q → (S0 q ∨ H q = none) ∧ F' q = none ∧ muc H' q) → Rp.rep K F' v' z.1 → Q v' H') (EE K E (delS S0 H))
theorem g_B__law_told {E : XK} {σ : L2.St} {H0 F H : Hp} {Ex : L2.St → XK} {m0 : R Int} {t0 : TE} {m1 : R Int} {t1 : TE} {book : Bk} {v_book : V} {SS : Addr → Prop} {tx : TE} (h0 : Gr K E t0 σ F H m0) (h1 : Gr K E t1 σ F H m1) (o : ApO K H0 F H SS v_book book) (hv : AtV tx σ H v_book) (hF : Same F H) (e0 : Same H0 H) (hE : Ex σ = E := by rfl) :
    GrM K E (tCallS (spB__law_told K) Ex (tCons tx (tCons t0 (tCons t1 tNil)))) σ H0 F H (fun q => (SS q ∧ tupB (H q) = false) ∨ False) (BkJ K H0 H SS v_book) (R.bd m0 fun (way : Int) => R.bd m1 fun (pit : Int) => m__law_told book way pit) := by
  subst hE
  intro Q hq
  refine hv _ (Same.refl _) _ ?_
  refine gm_arg h0 (Same.refl _) e0 hq fun way v_way H1 e1 r_way hq => ?_
  refine gm_arg h1 e1 e0 hq fun pit v_pit H2 e2 r_pit hq => ?_
  obtain ⟨S0, tr0, hS0, hSS, h0⟩ := apo_out o (e1.trans e2) hF
  have n0 := Nx.mk' hF (e1.trans e2)
  have e9 := e0.trans (e1.trans e2)
  exact ⟨v_book, v_way, v_pit, book, way, pit, S0, mix F H H2, rfl, mix_same hF (e1.trans e2), tr0, (Rp.mono (mix_mono e2) r_way), r_pit, hS0, wp_mono hq (fun z _ k v' F' H' S' n r' hS' rv => k v' F' H' ((n0.tr n).wk fun q z => .inl (hSS q z)) (n.e0 e9 h0) ⟨S', ⟨S', r', fun q w => ⟨w, (hS' q w).2.1, (hS' q w).1.elim (h0 q) (Same.free e9), (hS' q w).2.2⟩⟩, fun q w => ⟨(hS' q w).1.imp (fun y => (hSS q y).1) (Same.free (e1.trans e2)), muc_some (hS' q w).2.2⟩⟩ rv) fun c _ z => z.mono (same_delS e9 h0)⟩
theorem ok__law_told (T : Hd K mg) : ∃ fd, PySem.W.keepIn K (.ref (He.ga K "_law_told")) = true ∧ Binds K fd ["book", "way", "pit"] [] ∧ FnOk P w K mg base (L2.CX P w) 6 (He.ga K "_law_told") fd ["book", "way", "pit"] (spB__law_told K) := by
  obtain ⟨fd, F⟩ := T.d__law_told
  obtain ⟨fd__law_asked, kp__law_asked, b__law_asked, G__law_asked⟩ := ok__law_asked (P := P) (w := w) (base := base) T
  have G_called : MthX P w K mg base (L2.CX P w) 1 "called" (fun c => Cf K c) spCalled := ok_called T
  refine ⟨fd, F.kp, F.bindsN fun _ _ _ _ _ _ us hl => match us, hl with | [_, _, _], _ => rfl, ?_⟩
  refine F.ok sc__law_told (fun vs H Q E h => ?_) (fun cdv A outer s Hz vs Q E hr h => ?_)
  · obtain ⟨v_book, v_way, v_pit, book, way, pit, S0, Gz, rfl, hG, w_book, r_way, r_pit, hS0, hQ⟩ := h
    rfl
  · obtain ⟨v_book, v_way, v_pit, book, way, pit, S0, Gz, rfl, hG, w_book, r_way, r_pit, hS0, hQ⟩ := h
    obtain ⟨H, hH⟩ : ∃ H, H = delS S0 Hz := ⟨_, rfl⟩
    rw [← hH] at hQ
    have e0z : Same H Hz := by rw [hH]; exact delS_le
    have A_book : ApO K H Gz Hz S0 v_book book := by rw [hH]; exact apo_bk w_book hS0
    have L_book : ∀ q, S0 q → Hz q ≠ none := fun q z => muc_some (hS0 q z).2
    have nR : Nx (fun q => (S0 q ∧ tupB (Hz q) = false) ∨ False) Gz Hz Gz Hz := Nx.refl' hG
    obtain rfl : v_way = V.int way := r_way
    obtain rfl : v_pit = V.int pit := r_pit
    have tk : Takes (cxOf (L2.CX P w) P w K mg base N__law_told "_law_told" (defScope s__law_told) (He.ga K "_law_told") cdv A outer s Hz E) (fun cls d _ H => E cls d H) := takes_of rfl rfl rfl rfl
    refine ⟨_, (by exact (pss_cons (ps_set (i := 3) sc__law_told.nd rfl (Or.inl rfl) pe_non)
          (pss_cons (ps_set (i := 4) sc__law_told.nd rfl (Or.inl rfl) pe_non)
          (Evl.pss_cut (ps_try_hold (i := 5) (tb := fun W => _) rfl rfl rfl sc__law_told.nd rfl rfl ⟨rfl, by decide, .inl T.g_SowError⟩
          (fun W pn xe tk _ => (pss_one (ps_set (i := 4) sc__law_told.nd rfl (Or.inl rfl) (pe_callS G__law_asked (hr.mono (by decide)) rfl T.g__law_asked kp__law_asked b__law_asked (fun σ => passAt tk σ) (pa_cons (pv 0) (pa_cons (pv 1) (pa_cons (pv 2) pa_nil)))))))
          (fun a pn => (pss_one (ps_set (i := 3) sc__law_told.nd rfl (Or.inl rfl) (pv 5)))))
          (pss_cons (ps_if (pt_cmp (pc_isN (pv 3))) (pss_one (ps_ret (pv 4))) pss_nil)
          (pss_cons (ps_set (i := 6) sc__law_told.nd rfl (Or.inl rfl) (pe_lst (pa_cons (pe_callB call_isX rfl T.f_isinstance (by decide +kernel) (pa_cons (pv 3) (pa_cons (pe_glob (v := .ref (He.ga K "BadPit")) rfl T.g_BadPit rfl) pa_nil))) (pa_cons (pe_callB call_isX rfl T.f_isinstance (by decide +kernel) (pa_cons (pv 3) (pa_cons (pe_glob (v := .ref (He.ga K "NoSeeds")) rfl T.g_NoSeeds rfl) pa_nil))) (pa_cons (pe_callB call_isX rfl T.f_isinstance (by decide +kernel) (pa_cons (pv 3) (pa_cons (pe_glob (v := .ref (He.ga K "NoDeed")) rfl T.g_NoDeed rfl) pa_nil))) pa_nil)))))
          (pss_cons (ps_if (PW.pt (pw_or (pt_not (pt_val (pe_callB call_isX rfl T.f_isinstance (by decide +kernel) (pa_cons (pv 3) (pa_cons (pe_bltn (v := .ty "ValueError") rfl T.f_ValueError (by rfl) rfl) pa_nil))))) (pw_or1 (pt_cmpR op_ne (pe_bm PySem.F.plainAttrs_list PySem.F.slot_list_count PySem.F.type_list_count mt_countV (pv 6) (pa_cons pe_bl pa_nil)) pe_int (nomark _))))) (pss_one (ps_ret pe_str)) pss_nil)
          (pss_cons (ps_set (i := 7) sc__law_told.nd rfl (Or.inl rfl) (pe_ix ix_list (pe_lst (pa_cons pe_str (pa_cons pe_str (pa_cons pe_str pa_nil)))) (pe_bm PySem.F.plainAttrs_list PySem.F.slot_list_index PySem.F.type_list_index mt_index (pv 6) (pa_cons pe_bl pa_nil)) (fun _ _ => rfl)))
          (pss_one (ps_ret (pe_ix ix_list (pe_lst (pa_cons (pv 7) (pa_cons pe_str pa_nil))) (pe_callTy call_int1 rfl T.f_int (by decide +kernel) (pa_cons (pe_cmpR op_ne (pe_methX (pv 3) G_called (hr.mono (by decide)) (fun σ => passAt tk σ)) (pv 7) (nomark _)) pa_nil)) (fun _ _ => rfl)))))))))))), ?_⟩
    unfold m__law_told at hQ
    first | with_reducible refine st_n ?_ | skip
    refine st_seq ?_
    refine s_asg ?_ hG e0z hQ ?_
    · exact g_non
    intro caught v5 F2 H3 nx1 e04 r6 hQ
    replace A_book := A_book.nx0 nx1
    replace L_book := al_nx nx1 L_book
    replace nR := nR.step0 nx1
    have hF7 := nx1.fh
    first | with_reducible refine st_n ?_ | skip
    refine st_seq ?_
    refine s_asg ?_ hF7 e04 hQ ?_
    · exact g_nonDy
    intro told v12 F9 H10 nx8 e011 r13 hQ
    replace A_book := A_book.nx0 nx8
    replace L_book := al_nx nx8 L_book
    replace r6 := Rp.mono nx8.ff r6
    replace nR := nR.step0 nx8
    have hF14 := nx8.fh
    first | with_reducible refine st_n ?_ | skip
    replace hQ := wp_bdi hQ
    refine s_cutW (I := fun (st : Dy × (Option Er) × Bk) σ19 H18 => match st with | (told, caught, book) => ∃ (F15 : Hp) (v20 : V) (v22 : V) (SS25 : Addr → Prop), σ19 = [some v_book, some (.int way), some (.int pit), some v22, some v20, none, none, none] ∧ Nx (fun q => (S0 q ∧ tupB (H10 q) = false) ∨ False) F9 H10 F15 H18 ∧ Same H H18 ∧ Rp.rep K F15 v20 told ∧ Rp.rep K F15 v22 caught ∧ ApO K H F15 H18 SS25 v_book book ∧ (∀ q, SS25 q → H18 q ≠ none) ∧ (∀ q, SS25 q → S0 q ∨ H10 q = none)) (hQ := hQ) ?_ ?_
    · intro hQ
      have nA30 : Nx (fun q => (S0 q ∧ tupB (H10 q) = false) ∨ False) F9 H10 F9 H10 := Nx.refl' hF14
      refine s_tryW hF14 e011 hQ T.exm_SowError T.cfs ?_ ?_
      · intro e a45 F46 H47 nx48 e049 r50 hQ
        replace A_book := A_book.nx0 nx48
        replace L_book := al_nx nx48 L_book
        replace r6 := Rp.mono nx48.ff r6
        replace r13 := Rp.mono nx48.ff r13
        replace nR := nR.step0 nx48
        replace nA30 := nA30.step0 nx48
        have hF51 := nx48.fh
        first | with_reducible refine st_n ?_ | skip
        refine s_asg ?_ hF51 e049 hQ ?_
        · exact (g_some (g_var (a := e) r50 hF51))
        intro caught v56 F53 H54 nx52 e055 r57 hQ
        replace A_book := A_book.nx0 nx52
        replace L_book := al_nx nx52 L_book
        replace r13 := Rp.mono nx52.ff r13
        replace r50 := Rp.mono nx52.ff r50
        replace nR := nR.step0 nx52
        replace nA30 := nA30.step0 nx52
        have hF58 := nx52.fh
        exact ⟨(told, caught, book), ⟨_, _, _, _, rfl, nA30, e055, r13, r57, A_book, L_book, lin_id⟩, hQ⟩
      intro hQ
      first | with_reducible refine st_n ?_ | skip
      refine s_asgM2 (m := m__law_asked book way pit) (g_B__law_asked (m0 := .ok way) (g_var (a := way) rfl hF14) (m1 := .ok pit) (g_var (a := pit) rfl hF14) A_book (atv_v rfl) hF14 (e011.trans (Same.refl _))) (Same.refl _) hQ ?_
      intro told book v36 F31 H32 nx33 e034 j35 r37 hQ
      obtain ⟨SS38, A39, hs41⟩ := j35
      have ha40 := fun q z => (hs41 q z).2
      have c42 := fun q (z : SS38 q) => (hs41 q z).1.elim (fun u => (lin_id q u : S0 q ∨ Hz q = none)) (fun u => .inr (nR.bk u))
      have c43 := fun q (z : SS38 q) => (hs41 q z).1.elim (fun u => (lin_id q u : S0 q ∨ H10 q = none)) (fun u => .inr (nA30.bk u))
      replace r6 := Rp.mono nx33.ff r6
      replace nR := nR.step nx33 (fun q => fun z => Or.elim z (fun z => ((ap_in nR z.1 z.2).imp (fun w => .inl w) id)) (fun z => z.elim))
      replace nA30 := nA30.step nx33 (fun q => fun z => Or.elim z (fun z => ((ap_in nA30 z.1 z.2).imp (fun w => .inl w) id)) (fun z => z.elim))
      have hF44 := nx33.fh
      exact ⟨(told, caught, book), ⟨_, _, _, _, rfl, nA30, e034, r37, r6, A39, ha40, c43⟩, hQ⟩
    rintro ⟨told, caught, book⟩ σ9 H18 hI hQ
    obtain ⟨F15, v20, v22, SS25, rfl, nL16, e017, r21, r23, A24, ha26, c27⟩ := hI
    have hF28 := nL16.fh
    have c29 := fun q (z : SS25 q) => (c27 q z).elim (fun u => (lin_id q u : S0 q ∨ Hz q = none)) (fun u => .inr (nR.bk u))
    have nR := nR.step nL16 (fun q => fun z => Or.elim z (fun z => ((ap_in nR z.1 z.2).imp (fun w => .inl w) id)) (fun z => z.elim))
    first | with_reducible refine st_n ?_ | skip
    refine st_seq ?_
    refine s_if ?_ hF28 e017 hQ ?_ ?_
    · exact (t_B (F := H18) (g_isN (g_var (a := caught) (Rp.mono hF28 r23) (Same.refl _))))
    · intro F60 H61 nx59 e062 hQ
      replace hQ := if_t hQ
      replace A24 := A24.nx0 nx59
      replace ha26 := al_nx nx59 ha26
      replace r23 := Rp.mono nx59.ff r23
      replace r21 := Rp.mono nx59.ff r21
      replace nR := nR.step0 nx59
      have hF63 := nx59.fh
      first | with_reducible refine st_n ?_ | skip
      refine s_retM ?_ hF63 e062 nR hQ (fun a h v F' H' n n0 r => h v F' H' _ (n.wk fun q z => z.elim (fun w => w.1) fun w => w.elim) (A24.nx0 n0).ex.choose_spec.1 (fun q z => ⟨c29 q ((A24.nx0 n0).ex.choose_spec.2 q z).1, ((A24.nx0 n0).ex.choose_spec.2 q z).2.1, ((A24.nx0 n0).ex.choose_spec.2 q z).2.2.2⟩) r)
      exact (g_var (a := told) r21 hF63)
    intro F60 H61 nx59 e062 hQ
    replace hQ := if_f hQ
    refine st_next ?_
    replace A24 := A24.nx0 nx59
    replace ha26 := al_nx nx59 ha26
    replace r23 := Rp.mono nx59.ff r23
    replace r21 := Rp.mono nx59.ff r21
    replace nR := nR.step0 nx59
    have hF64 := nx59.fh
    first | with_reducible refine st_n ?_ | skip
    refine st_seq ?_
    refine s_asg ?_ hF64 e062 hQ ?_
    · exact (g_lst (a_cons (g_sc (F' := H61) (g_isX (g_var (a := caught) (Rp.mono hF64 r23) (Same.refl _)) (Same.refl _) T.k_BadPit T.cf_BadPit)) (a_cons (g_sc (F' := H61) (g_isX (g_var (a := caught) (Rp.mono hF64 r23) (Same.refl _)) (Same.refl _) T.k_NoSeeds T.cf_NoSeeds)) (a_cons (g_sc (F' := H61) (g_isX (g_var (a := caught) (Rp.mono hF64 r23) (Same.refl _)) (Same.refl _) T.k_NoDeed T.cf_NoDeed)) a_nil))))
    intro kinds v75 F66 H67 nx65 e068 r76 hQ
    replace A24 := A24.nx0 nx65
    replace ha26 := al_nx nx65 ha26
    replace r23 := Rp.mono nx65.ff r23
    replace r21 := Rp.mono nx65.ff r21
    replace nR := nR.step0 nx65
    have hF77 := nx65.fh
    first | with_reducible refine st_n ?_ | skip
    refine st_seq ?_
    refine s_if ?_ hF77 e068 hQ ?_ ?_
    · exact (t_orP (t_not (t_B (F := H67) (g_isV (g_var (a := caught) (Rp.mono hF77 r23) (Same.refl _)) (Same.refl _)))) (t_test (F := H67) (g_ne (g_count (g_var (a := kinds) (Rp.mono hF77 r76) (Same.refl _)) g_bl eqV_bl) g_int)))
    · intro F81 H82 nx80 e083 hQ
      replace hQ := if_t hQ
      replace A24 := A24.nx0 nx80
      replace ha26 := al_nx nx80 ha26
      replace r23 := Rp.mono nx80.ff r23
      replace r21 := Rp.mono nx80.ff r21
      replace r76 := Rp.mono nx80.ff r76
      replace nR := nR.step0 nx80
      have hF84 := nx80.fh
      first | with_reducible refine st_n ?_ | skip
      refine s_retM ?_ hF84 e083 nR hQ (fun a h v F' H' n n0 r => h v F' H' _ (n.wk fun q z => z.elim (fun w => w.1) fun w => w.elim) (A24.nx0 n0).ex.choose_spec.1 (fun q z => ⟨c29 q ((A24.nx0 n0).ex.choose_spec.2 q z).1, ((A24.nx0 n0).ex.choose_spec.2 q z).2.1, ((A24.nx0 n0).ex.choose_spec.2 q z).2.2.2⟩) r)
      exact (g_dy (g_sc (F' := H82) g_str))
    intro F81 H82 nx80 e083 hQ
    replace hQ := if_f hQ
    refine st_next ?_
    replace A24 := A24.nx0 nx80
    replace ha26 := al_nx nx80 ha26
    replace r23 := Rp.mono nx80.ff r23
    replace r21 := Rp.mono nx80.ff r21
    replace r76 := Rp.mono nx80.ff r76
    replace nR := nR.step0 nx80
    have hF85 := nx80.fh
    first | with_reducible refine st_n ?_ | skip
    refine st_seq ?_
    refine s_asg ?_ hF85 e083 hQ ?_
    · exact (g_sc (F' := H82) (g_idx (g_lstK (a_cons g_str (a_cons g_str (a_cons g_str a_nil))) (Nat.le_of_ble_eq_true rfl)) (g_index (g_var (a := kinds) (Rp.mono hF85 r76) (Same.refl _)) g_bl eqV_bl) (Same.refl _)))
    intro word v91 F87 H88 nx86 e089 r92 hQ
    replace A24 := A24.nx0 nx86
    replace ha26 := al_nx nx86 ha26
    replace r23 := Rp.mono nx86.ff r23
    replace r21 := Rp.mono nx86.ff r21
    replace r76 := Rp.mono nx86.ff r76
    replace nR := nR.step0 nx86
    have hF93 := nx86.fh
    obtain rfl : v91 = V.str word := r92
    first | with_reducible refine st_n ?_ | skip
    refine s_retM ?_ hF93 e089 nR hQ (fun a h v F' H' n n0 r => h v F' H' _ (n.wk fun q z => z.elim (fun w => w.1) fun w => w.elim) (A24.nx0 n0).ex.choose_spec.1 (fun q z => ⟨c29 q ((A24.nx0 n0).ex.choose_spec.2 q z).1, ((A24.nx0 n0).ex.choose_spec.2 q z).2.1, ((A24.nx0 n0).ex.choose_spec.2 q z).2.2.2⟩) r)
    exact (g_dy (g_sc (F' := H88) (g_idx (g_lstK (a_cons (g_var (a := word) rfl (Same.refl _)) (a_cons g_str a_nil)) (Nat.le_of_ble_eq_true rfl)) (g_intB (g_ne (g_called (m := .ok caught) (g_var (a := caught) (Rp.mono hF93 r23) (Same.refl _)) (Same.refl _) fun _ h => h) (g_var (a := word) rfl (Same.refl _)))) (Same.refl _))))

abbrev N__law_due : List Str := ["boards", "deeds", "gone", "way", "pit", "deed", "board", "made", "last"]
theorem sc__law_due : FnScope N__law_due ["boards", "deeds", "gone", "way", "pit"] (defScope s__law_due) := ⟨rfl, rfl, rfl, by decide +kernel, rfl, by decide +kernel, by decide +kernel⟩
def spM__law_due (K : PySem.W.Frag) : Sp := fun vs H Q E => ∃ (p_boards : Addr) (p_deeds : Addr) (p_gone : Addr) (v_way : V) (v_pit : V) (boards : List (List Int)) (deeds : List (T3 Str Int Int)) (gone : List ((T3 Str Int Int) × (List Int))) (way : Int) (pit : Int) (Gz : Hp), vs = [.ref p_boards, .ref p_deeds, .ref p_gone, v_way, v_pit] ∧ Same Gz H ∧ OwM K Gz H p_boards boards ∧ OwM K Gz H p_deeds deeds ∧ OwM K Gz H p_gone gone ∧ Rp.rep K Gz v_way way ∧ Rp.rep K Gz v_pit pit ∧ p_boards ≠ p_deeds ∧ p_boards ≠ p_gone ∧ p_deeds ≠ p_gone ∧ Wp (m__law_due boards deeds gone way pit) (fun z => ∀ v' F' H', Nx (fun q => q = p_boards ∨ q = p_deeds ∨ q = p_gone ∨ False) Gz H F' H' → (∃ u, H' p_boards = some u ∧ Cel.cel K F' u z.2.1) → (∃ u, H' p_deeds = some u ∧ Cel.cel K F' u z.2.2.1) → (∃ u, H' p_gone = some u ∧ Cel.cel K F' u z.2.2.2) → Rp.rep K F' v' z.1 → Q v' H') (EE K E (delH (delH (delH H p_boards) p_deeds) p_gone))
theorem g_M__law_due {E : XK} {σ : L2.St} {H0 F H : Hp} {Ex : L2.St → XK} {m0 : R Int} {t0 : TE} {m1 : R Int} {t1 : TE} {p_boards : Addr} {boards : List (List Int)} {i_boards : Nat} {p_deeds : Addr} {deeds : List (T3 Str Int Int)} {i_deeds : Nat} {p_gone : Addr} {gone : List ((T3 Str Int Int) × (List Int))} {i_gone : Nat} (h0 : Gr K E t0 σ F H m0) (h1 : Gr K E t1 σ F H m1) (o_boards : Own K H0 false F H p_boards boards) (o_deeds : Own K H0 false F H p_deeds deeds) (o_gone : Own K H0 false F H p_gone gone) (d_boards_deeds : p_boards ≠ p_deeds) (d_boards_gone : p_boards ≠ p_gone) (d_deeds_gone : p_deeds ≠ p_gone) (hF : Same F H) (e0 : Same H0 H) (hE : Ex σ = E := by rfl) (s_boards : σ[i_boards]? = some (some (.ref p_boards)) := by rfl) (s_deeds : σ[i_deeds]? = some (some (.ref p_deeds)) := by rfl) (s_gone : σ[i_gone]? = some (some (.ref p_gone)) := by rfl) :
    GrM K E (tCallS (spM__law_due K) Ex (tCons (tVar i_boards) (tCons (tVar i_deeds) (tCons (tVar i_gone) (tCons t0 (tCons t1 tNil)))))) σ H0 F H (fun q => q = p_boards ∨ q = p_deeds ∨ q = p_gone ∨ False) (fun F' H' z => Own K H0 false F' H' p_boards z.1 ∧ Own K H0 false F' H' p_deeds z.2.1 ∧ Own K H0 false F' H' p_gone z.2.2) (R.bd m0 fun (way : Int) => R.bd m1 fun (pit : Int) => m__law_due boards deeds gone way pit) := by
  subst hE
  intro Q hq
  refine ⟨_, s_boards, ?_⟩
  refine ⟨_, s_deeds, ?_⟩
  refine ⟨_, s_gone, ?_⟩
  refine gm_arg h0 (Same.refl _) e0 hq fun way v_way H1 e1 r_way hq => ?_
  refine gm_arg h1 e1 e0 hq fun pit v_pit H2 e2 r_pit hq => ?_
  have n0 := Nx.mk' hF (e1.trans e2)
  replace o_boards := o_boards.nx0 n0
  replace o_deeds := o_deeds.nx0 n0
  replace o_gone := o_gone.nx0 n0
  have e9 := e0.trans (e1.trans e2)
  have ed : Same H0 (delH (delH (delH H2 p_boards) p_deeds) p_gone) := fun q o h => by
    have hh := e9 q o h
    have n_boards : q ≠ p_boards := ne_of_none h o_boards.h0
    have n_deeds : q ≠ p_deeds := ne_of_none h o_deeds.h0
    have n_gone : q ≠ p_gone := ne_of_none h o_gone.h0
    rw [delH_ne n_gone, delH_ne n_deeds, delH_ne n_boards]; exact hh
  exact ⟨p_boards, p_deeds, p_gone, v_way, v_pit, boards, deeds, gone, way, pit, mix F H H2, rfl, (mix_same hF (e1.trans e2)), o_boards.owm, o_deeds.owm, o_gone.owm, (Rp.mono (mix_mono e2) r_way), r_pit, d_boards_deeds, d_boards_gone, d_deeds_gone, wp_mono hq (fun z _ k v' F' H' n c0 c1 c2 r => k v' F' H' (n0.tr n) (n.e0 e9 (fun q z => by rcases z with z | z | z | z <;> first | (rw [z]; first | exact o_boards.h0 | exact o_deeds.h0 | exact o_gone.h0) | exact z.elim)) ⟨o_boards.nxM n c0, o_deeds.nxM n c1, o_gone.nxM n c2⟩ r) fun c _ z => z.mono ed⟩
theorem ok__law_due (T : Hd K mg) : ∃ fd, PySem.W.keepIn K (.ref (He.ga K "_law_due")) = true ∧ Binds K fd ["boards", "deeds", "gone", "way", "pit"] [] ∧ FnOk P w K mg base (L2.CX P w) 4 (He.ga K "_law_due") fd ["boards", "deeds", "gone", "way", "pit"] (spM__law_due K) := by
  obtain ⟨fd, F⟩ := T.d__law_due
  obtain ⟨fd_sown, kp_sown, b_sown, G_sown⟩ := ok_sown (P := P) (w := w) (base := base) T
  obtain ⟨fd_taken_back, kp_taken_back, b_taken_back, G_taken_back⟩ := ok_taken_back (P := P) (w := w) (base := base) T
  refine ⟨fd, F.kp, F.bindsN fun _ _ _ _ _ _ us hl => match us, hl with | [_, _, _, _, _], _ => rfl, ?_⟩
  refine F.ok sc__law_due (fun vs H Q E h => ?_) (fun cdv A outer s Hz vs Q E hr h => ?_)
  · obtain ⟨p_boards, p_deeds, p_gone, v_way, v_pit, boards, deeds, gone, way, pit, Gz, rfl, hG, w_boards, w_deeds, w_gone, r_way, r_pit, d_boards_deeds, d_boards_gone, d_deeds_gone, hQ⟩ := h
    rfl
  · obtain ⟨p_boards, p_deeds, p_gone, v_way, v_pit, boards, deeds, gone, way, pit, Gz, rfl, hG, w_boards, w_deeds, w_gone, r_way, r_pit, d_boards_deeds, d_boards_gone, d_deeds_gone, hQ⟩ := h
    obtain ⟨H, hH⟩ : ∃ H, H = delH (delH (delH Hz p_boards) p_deeds) p_gone := ⟨_, rfl⟩
    rw [← hH] at hQ
    have e0z : Same H Hz := by rw [hH]; exact del_le.trans (del_le.trans (del_le))
    have z_boards : H p_boards = none := by rw [hH]; exact delH_none (delH_none (delH_same))
    have o_boards := w_boards.own z_boards
    have z_deeds : H p_deeds = none := by rw [hH]; exact delH_none (delH_same)
    have o_deeds := w_deeds.own z_deeds
    have z_gone : H p_gone = none := by rw [hH]; exact delH_same
    have o_gone := w_gone.own z_gone
    have nR : Nx (fun q => q = p_boards ∨ q = p_deeds ∨ q = p_gone ∨ False) Gz Hz Gz Hz := Nx.refl' hG
    obtain rfl : v_way = V.int way := r_way
    obtain rfl : v_pit = V.int pit := r_pit
    have tk : Takes (cxOf (L2.CX P w) P w K mg base N__law_due "_law_due" (defScope s__law_due) (He.ga K "_law_due") cdv A outer s Hz E) (fun cls d _ H => E cls d H) := takes_of rfl rfl rfl rfl
    refine ⟨_, (by exact (pss_cons (ps_if (PW.pt (pw_or (pt_cmpR op_eq (pv 3) pe_int (nomark _)) (pw_or1 (pt_cmpR op_eq (pv 3) pe_int (nomark _))))) (pss_cons (ps_if (pt_cmpR op_eq (pe_callB call_len_seq rfl T.f_len PySem.boot_len (pa_cons (pe_ix ix_list (pe_lst (pa_cons (pv 1) (pa_cons (pv 2) pa_nil))) (pe_op op_sub (pv 3) pe_int) (fun _ _ => rfl)) pa_nil)) pe_int (nomark _)) (pss_one (ps_ret pe_str)) pss_nil)
          (Evl.pss_cut (ps_if (pt_cmpR op_eq (pv 3) pe_int (nomark _)) (pss_one (ps_expr (pe_bm PySem.F.plainAttrs_list PySem.F.slot_list_append PySem.F.type_list_append mt_append (pv 2) (pa_cons (pe_tup (pa_cons (pe_bm0 PySem.F.plainAttrs_list PySem.F.slot_list_pop PySem.F.type_list_pop mt_pop (pv 1)) (pa_cons (pe_bm0 PySem.F.plainAttrs_list PySem.F.slot_list_pop PySem.F.type_list_pop mt_pop (pv 0)) pa_nil))) pa_nil)))) (pss_cons (ps_asg (pe_bm0 PySem.F.plainAttrs_list PySem.F.slot_list_pop PySem.F.type_list_pop mt_pop (pv 2)) (pg_tup rfl (pgs_cons (pg_name (i := 5) sc__law_due.nd rfl (Or.inl rfl)) (pgs_cons (pg_name (i := 6) sc__law_due.nd rfl (Or.inl rfl)) pgs_nil))))
          (pss_cons (ps_expr (pe_bm PySem.F.plainAttrs_list PySem.F.slot_list_append PySem.F.type_list_append mt_append (pv 1) (pa_cons (pv 5) pa_nil)))
          (pss_one (ps_expr (pe_bm PySem.F.plainAttrs_list PySem.F.slot_list_append PySem.F.type_list_append mt_append (pv 0) (pa_cons (pv 6) pa_nil)))))))
          (pss_one (ps_ret pe_non)))) pss_nil)
          (pss_cons (ps_set (i := 6) sc__law_due.nd rfl (Or.inl rfl) (pe_ix ix_list (pv 0) (pe_un un_neg pe_int) (fun _ _ => rfl)))
          (pss_cons (ps_if (PW.pt (pw_or (pt_cmpR op_lt (pv 4) pe_int (nomark _)) (pw_or1 (pt_cmpR op_ge (pv 4) (pe_callB call_len_seq rfl T.f_len PySem.boot_len (pa_cons (pv 6) pa_nil)) (nomark _))))) (pss_one (ps_ret pe_str)) pss_nil)
          (pss_cons (ps_if (pt_cmpR op_eq (pe_ix ix_list (pv 6) (pv 4) (fun _ _ => rfl)) pe_int (nomark _)) (pss_one (ps_ret pe_str)) pss_nil)
          (pss_cons (ps_expr (pe_bm0 PySem.F.plainAttrs_list PySem.F.slot_list_clear PySem.F.type_list_clear mt_clear (pv 2)))
          (Evl.pss_cut (ps_if (pt_cmpR op_eq (pv 3) pe_int (nomark _)) (pss_cons (ps_asg (pe_callS G_sown (hr.mono (by decide)) rfl T.g_sown kp_sown b_sown (fun σ => passAt tk σ) (pa_cons (pe_callTy call_list_of rfl T.f_list (by decide +kernel) (pa_cons (pv 6) pa_nil)) (pa_cons (pv 4) pa_nil))) (pg_tup rfl (pgs_cons (pg_name (i := 7) sc__law_due.nd rfl (Or.inl rfl)) (pgs_cons (pg_name (i := 8) sc__law_due.nd rfl (Or.inl rfl)) pgs_nil))))
          (pss_one (ps_expr (pe_bm PySem.F.plainAttrs_list PySem.F.slot_list_append PySem.F.type_list_append mt_append (pv 1) (pa_cons (pe_tup (pa_cons pe_str (pa_cons (pv 4) (pa_cons (pe_ix ix_list (pv 6) (pv 4) (fun _ _ => rfl)) pa_nil)))) pa_nil))))) (pss_cons (ps_asg (pe_callS G_taken_back (hr.mono (by decide)) rfl T.g_taken_back kp_taken_back b_taken_back (fun σ => passAt tk σ) (pa_cons (pe_callTy call_list_of rfl T.f_list (by decide +kernel) (pa_cons (pv 6) pa_nil)) (pa_cons (pv 4) pa_nil))) (pg_tup rfl (pgs_cons (pg_name (i := 7) sc__law_due.nd rfl (Or.inl rfl)) (pgs_cons (pg_name (i := 8) sc__law_due.nd rfl (Or.inl rfl)) pgs_nil))))
          (pss_one (ps_expr (pe_bm PySem.F.plainAttrs_list PySem.F.slot_list_append PySem.F.type_list_append mt_append (pv 1) (pa_cons (pe_tup (pa_cons pe_str (pa_cons (pv 4) (pa_cons (pe_op op_sub pe_int (pe_ix ix_list (pv 7) (pv 8) (fun _ _ => rfl))) pa_nil)))) pa_nil))))))
          (pss_cons (ps_expr (pe_bm PySem.F.plainAttrs_list PySem.F.slot_list_append PySem.F.type_list_append mt_append (pv 0) (pa_cons (pv 7) pa_nil)))
          (pss_one (ps_ret (pv 8))))))))))), ?_⟩
    unfold m__law_due at hQ
    first | with_reducible refine st_n ?_ | skip
    refine st_seq ?_
    refine s_if ?_ hG e0z hQ ?_ ?_
    · exact (t_orP (t_test (F := Hz) (g_eq (g_var (a := way) rfl (Same.refl _)) g_int)) (t_test (F := Hz) (g_eq (g_var (a := way) rfl (Same.refl _)) g_int)))
    · intro F2 H3 nx1 e04 hQ
      replace hQ := if_t hQ
      replace o_boards := o_boards.nx0 nx1
      replace o_deeds := o_deeds.nx0 nx1
      replace o_gone := o_gone.nx0 nx1
      replace nR := nR.step0 nx1
      have hF5 := nx1.fh
      first | with_reducible refine st_n ?_ | skip
      refine st_seq ?_
      refine s_if ?_ hF5 e04 hQ ?_ ?_
      · exact (t_test (F := H3) (g_eq (g_lenIx2 (mi := .ok (way - (2 : Int))) rfl rfl o_deeds o_gone (g_sc (F' := H3) (g_i0 (g_var (a := way) rfl (Same.refl _)) g_int))) g_int))
      · intro F9 H10 nx8 e011 hQ
        replace hQ := if_t hQ
        replace o_boards := o_boards.nx0 nx8
        replace o_deeds := o_deeds.nx0 nx8
        replace o_gone := o_gone.nx0 nx8
        replace nR := nR.step0 nx8
        have hF12 := nx8.fh
        first | with_reducible refine st_n ?_ | skip
        refine s_retM ?_ hF12 e011 nR hQ (fun a h v F' H' n n0 r => h v F' H' n (o_boards.nx0 n0).atM (o_deeds.nx0 n0).atM (o_gone.nx0 n0).atM r)
        exact (g_dy (g_sc (F' := H10) g_str))
      intro F9 H10 nx8 e011 hQ
      replace hQ := if_f hQ
      refine st_next ?_
      replace o_boards := o_boards.nx0 nx8
      replace o_deeds := o_deeds.nx0 nx8
      replace o_gone := o_gone.nx0 nx8
      replace nR := nR.step0 nx8
      have hF13 := nx8.fh
      first | with_reducible refine st_n ?_ | skip
      replace hQ := wp_bdi hQ
      refine s_cutW (I := fun (st : (List ((T3 Str Int Int) × (List Int))) × (List (T3 Str Int Int)) × (List (List Int))) σ22 H21 => match st with | (gone, deeds, boards) => ∃ (F18 : Hp) (j26 : Option V) (j27 : Option V), σ22 = [some (.ref p_boards), some (.ref p_deeds), some (.ref p_gone), some (.int way), some (.int pit), j26, j27, none, none] ∧ Nx (fun q => q = p_gone ∨ q = p_deeds ∨ q = p_boards ∨ False) F9 H10 F18 H21 ∧ Same H H21 ∧ Own K H false F18 H21 p_gone gone ∧ Own K H false F18 H21 p_deeds deeds ∧ Own K H false F18 H21 p_boards boards) (hQ := hQ) ?_ ?_
      · intro hQ
        have nA29 : Nx (fun q => q = p_gone ∨ q = p_deeds ∨ q = p_boards ∨ False) F9 H10 F9 H10 := Nx.refl' hF13
        refine s_if ?_ hF13 e011 hQ ?_ ?_
        · exact (t_test (F := H10) (g_eq (g_var (a := way) rfl (Same.refl _)) g_int))
        · intro F15 H16 nx14 e017 hQ
          replace hQ := if_t hQ
          replace o_boards := o_boards.nx0 nx14
          replace o_deeds := o_deeds.nx0 nx14
          replace o_gone := o_gone.nx0 nx14
          replace nR := nR.step0 nx14
          replace nA29 := nA29.step0 nx14
          have hF30 := nx14.fh
          first | with_reducible refine st_n ?_ | skip
          refine s_appPop2 rfl rfl rfl o_gone o_deeds o_boards (Ne.symm d_deeds_gone) (Ne.symm d_boards_gone) (Ne.symm d_boards_deeds) hF30 e017 hQ ?_
          intro gone deeds boards F32 H33 nx34 e035 o36 o37 o38 hQ
          replace nR := nR.step nx34 (fun q => fun z => Or.elim z (fun z => (.inl (.inr (.inr (.inl z))))) (fun z => Or.elim z (fun z => (.inl (.inr (.inl z)))) (fun z => Or.elim z (fun z => (.inl (.inl z))) (fun z => z.elim))))
          replace nA29 := nA29.step nx34 (fun q => fun z => Or.elim z (fun z => (.inl (.inl z))) (fun z => Or.elim z (fun z => (.inl (.inr (.inl z)))) (fun z => Or.elim z (fun z => (.inl (.inr (.inr (.inl z))))) (fun z => z.elim))))
          have hF39 := nx34.fh
          replace o_gone := o36
          replace o_deeds := o37
          replace o_boards := o38
          exact ⟨(gone, deeds, boards), ⟨_, _, _, rfl, nA29, e035, o_gone, o_deeds, o_boards⟩, hQ⟩
        intro F15 H16 nx14 e017 hQ
        replace hQ := if_f hQ
        replace o_boards := o_boards.nx0 nx14
        replace o_deeds := o_deeds.nx0 nx14
        replace o_gone := o_gone.nx0 nx14
        replace nR := nR.step0 nx14
        replace nA29 := nA29.step0 nx14
        have hF31 := nx14.fh
        first | with_reducible refine st_n ?_ | skip
        refine st_seq ?_
        refine s_unpPop rfl o_gone hF31 e017 hQ ?_
        intro deed board v45 v46 gone F40 H41 nx42 e043 o44 r47 r48 hQ
        replace o_boards := o_boards.nx nx42 d_boards_gone
        replace o_deeds := o_deeds.nx nx42 d_deeds_gone
        replace nR := nR.step nx42 (fun q z => .inl (.inr (.inr (.inl z))))
        replace nA29 := nA29.step nx42 (fun q z => .inl (.inl z))
        have hF49 := nx42.fh
        replace o_gone := o44
        first | with_reducible refine st_n ?_ | skip
        refine st_seq ?_
        refine s_app (m := .ok deed) ?ha o_deeds ?he hF49 e043 hQ ?_
        case ha => exact at_var rfl
        case he => exact (g_var (a := deed) r47 hF49)
        intro deeds F51 H52 nx50 e053 o2 hQ
        replace o_boards := o_boards.nx nx50 d_boards_deeds
        replace o_gone := o_gone.nx nx50 (Ne.symm d_deeds_gone)
        replace r47 := Rp.mono nx50.ff r47
        replace r48 := Rp.mono nx50.ff r48
        replace nR := nR.step nx50 (fun q z => .inl (.inr (.inl z)))
        replace nA29 := nA29.step nx50 (fun q z => .inl (.inr (.inl z)))
        have hF54 := nx50.fh
        replace o_deeds := o2
        first | with_reducible refine st_n ?_ | skip
        refine s_app (m := .ok board) ?ha o_boards ?he hF54 e053 hQ ?_
        case ha => exact at_var rfl
        case he => exact (g_var (a := board) r48 hF54)
        intro boards F56 H57 nx55 e058 o2 hQ
        replace o_deeds := o_deeds.nx nx55 (Ne.symm d_boards_deeds)
        replace o_gone := o_gone.nx nx55 (Ne.symm d_boards_gone)
        replace r47 := Rp.mono nx55.ff r47
        replace r48 := Rp.mono nx55.ff r48
        replace nR := nR.step nx55 (fun q z => .inl (.inl z))
        replace nA29 := nA29.step nx55 (fun q z => .inl (.inr (.inr (.inl z))))
        have hF59 := nx55.fh
        replace o_boards := o2
        exact ⟨(gone, deeds, boards), ⟨_, _, _, rfl, nA29, e058, o_gone, o_deeds, o_boards⟩, hQ⟩
      rintro ⟨gone, deeds, boards⟩ σ9 H21 hI hQ
      obtain ⟨F18, j26, j27, rfl, nL19, e020, o23, o24, o25⟩ := hI
      have hF28 := nL19.fh
      have nR := nR.step nL19 (fun q => fun z => Or.elim z (fun z => (.inl (.inr (.inr (.inl z))))) (fun z => Or.elim z (fun z => (.inl (.inr (.inl z)))) (fun z => Or.elim z (fun z => (.inl (.inl z))) (fun z => z.elim))))
      first | with_reducible refine st_n ?_ | skip
      refine s_retM ?_ hF28 e020 nR hQ (fun a h v F' H' n n0 r => h v F' H' n (o25.nx0 n0).atM (o24.nx0 n0).atM (o23.nx0 n0).atM r)
      exact g_nonDy
    intro F2 H3 nx1 e04 hQ
    replace hQ := if_f hQ
    refine st_next ?_
    replace o_boards := o_boards.nx0 nx1
    replace o_deeds := o_deeds.nx0 nx1
    replace o_gone := o_gone.nx0 nx1
    replace nR := nR.step0 nx1
    have hF6 := nx1.fh
    first | with_reducible refine st_n ?_ | skip
    refine st_seq ?_
    refine s_asg ?_ hF6 e04 hQ ?_
    · exact (g_idxO (at_var rfl) o_boards (g_neg g_int) hF6)
    intro board v66 F63 H64 nx62 e065 r67 hQ
    replace o_boards := o_boards.nx0 nx62
    replace o_deeds := o_deeds.nx0 nx62
    replace o_gone := o_gone.nx0 nx62
    replace nR := nR.step0 nx62
    have hF68 := nx62.fh
    first | with_reducible refine st_n ?_ | skip
    refine st_seq ?_
    refine s_if ?_ hF68 e065 hQ ?_ ?_
    · exact (t_orP (t_test (F := H64) (g_b0 (g_var (a := pit) rfl (Same.refl _)) g_int)) (t_test (F := H64) (g_b0 (g_var (a := pit) rfl (Same.refl _)) (g_len (g_var (a := board) (Rp.mono hF68 r67) (Same.refl _)) (Same.refl _)))))
    · intro F70 H71 nx69 e072 hQ
      replace hQ := if_t hQ
      replace o_boards := o_boards.nx0 nx69
      replace o_deeds := o_deeds.nx0 nx69
      replace o_gone := o_gone.nx0 nx69
      replace r67 := Rp.mono nx69.ff r67
      replace nR := nR.step0 nx69
      have hF73 := nx69.fh
      first | with_reducible refine st_n ?_ | skip
      refine s_retM ?_ hF73 e072 nR hQ (fun a h v F' H' n n0 r => h v F' H' n (o_boards.nx0 n0).atM (o_deeds.nx0 n0).atM (o_gone.nx0 n0).atM r)
      exact (g_dy (g_sc (F' := H71) g_str))
    intro F70 H71 nx69 e072 hQ
    replace hQ := if_f hQ
    refine st_next ?_
    replace o_boards := o_boards.nx0 nx69
    replace o_deeds := o_deeds.nx0 nx69
    replace o_gone := o_gone.nx0 nx69
    replace r67 := Rp.mono nx69.ff r67
    replace nR := nR.step0 nx69
    have hF74 := nx69.fh
    first | with_reducible refine st_n ?_ | skip
    refine st_seq ?_
    refine s_if ?_ hF74 e072 hQ ?_ ?_
    · exact (t_test (F := H71) (g_eq (g_idx (g_var (a := board) (Rp.mono hF74 r67) (Same.refl _)) (g_var (a := pit) rfl (Same.refl _)) (Same.refl _)) g_int))
    · intro F77 H78 nx76 e079 hQ
      replace hQ := if_t hQ
      replace o_boards := o_boards.nx0 nx76
      replace o_deeds := o_deeds.nx0 nx76
      replace o_gone := o_gone.nx0 nx76
      replace r67 := Rp.mono nx76.ff r67
      replace nR := nR.step0 nx76
      have hF80 := nx76.fh
      first | with_reducible refine st_n ?_ | skip
      refine s_retM ?_ hF80 e079 nR hQ (fun a h v F' H' n n0 r => h v F' H' n (o_boards.nx0 n0).atM (o_deeds.nx0 n0).atM (o_gone.nx0 n0).atM r)
      exact (g_dy (g_sc (F' := H78) g_str))
    intro F77 H78 nx76 e079 hQ
    replace hQ := if_f hQ
    refine st_next ?_
    replace o_boards := o_boards.nx0 nx76
    replace o_deeds := o_deeds.nx0 nx76
    replace o_gone := o_gone.nx0 nx76
    replace r67 := Rp.mono nx76.ff r67
    replace nR := nR.step0 nx76
    have hF81 := nx76.fh
    first | with_reducible refine st_n ?_ | skip
    refine st_seq ?_
    refine s_clr rfl o_gone hF81 e079 hQ ?_
    intro gone F82 H83 nx84 e085 o86 hQ
    replace o_boards := o_boards.nx nx84 d_boards_gone
    replace o_deeds := o_deeds.nx nx84 d_deeds_gone
    replace r67 := Rp.mono nx84.ff r67
    replace nR := nR.step nx84 (fun q z => .inl (.inr (.inr (.inl z))))
    have hF87 := nx84.fh
    replace o_gone := o86
    first | with_reducible refine st_n ?_ | skip
    replace hQ := wp_bdi hQ
    refine s_cutW (I := fun (st : (List Int) × Int × (List (T3 Str Int Int))) σ96 H95 => match st with | (made, last, deeds) => ∃ (F92 : Hp) (v97 : V), σ96 = [some (.ref p_boards), some (.ref p_deeds), some (.ref p_gone), some (.int way), some (.int pit), none, some v66, some v97, some (.int last)] ∧ Nx (fun q => q = p_deeds ∨ False) F82 H83 F92 H95 ∧ Same H H95 ∧ Rp.rep K F92 v97 made ∧ Own K H false F92 H95 p_deeds deeds) (hQ := hQ) ?_ ?_
    · intro hQ
      have nA101 : Nx (fun q => q = p_deeds ∨ False) F82 H83 F82 H83 := Nx.refl' hF87
      refine s_if ?_ hF87 e085 hQ ?_ ?_
      · exact (t_test (F := H83) (g_eq (g_var (a := way) rfl (Same.refl _)) g_int))
      · intro F89 H90 nx88 e091 hQ
        replace hQ := if_t hQ
        replace o_boards := o_boards.nx0 nx88
        replace o_deeds := o_deeds.nx0 nx88
        replace o_gone := o_gone.nx0 nx88
        replace r67 := Rp.mono nx88.ff r67
        replace nR := nR.step0 nx88
        replace nA101 := nA101.step0 nx88
        have hF102 := nx88.fh
        first | with_reducible refine st_n ?_ | skip
        refine st_seq ?_
        refine s_unp ?_ hF102 e091 hQ ?_
        · exact (g_call2 (ma := .ok board) (mb := .ok pit) (g_listI (g_var (a := board) (Rp.mono hF102 r67) (Same.refl _))) (g_var (a := pit) rfl (Same.refl _)))
        intro made last v108 v109 F105 H106 nx104 e0107 r110 r111 hQ
        replace o_boards := o_boards.nx0 nx104
        replace o_deeds := o_deeds.nx0 nx104
        replace o_gone := o_gone.nx0 nx104
        replace r67 := Rp.mono nx104.ff r67
        replace nR := nR.step0 nx104
        replace nA101 := nA101.step0 nx104
        have hF112 := nx104.fh
        obtain rfl : v109 = V.int last := r111
        first | with_reducible refine st_n ?_ | skip
        refine s_app (m := R.bd (idx board pit) fun (t117 : Int) => .ok (T3.mk ("sow" : Str) pit t117)) ?ha o_deeds ?he hF112 e0107 hQ ?_
        case ha => exact at_var rfl
        case he => exact (g_im (Same.refl _) (g_tri g_str (g_var (a := pit) rfl (Same.refl _)) (g_idx (g_var (a := board) (Rp.mono hF112 r67) (Same.refl _)) (g_var (a := pit) rfl (Same.refl _)) (Same.refl _))))
        intro deeds F114 H115 nx113 e0116 o2 hQ
        replace o_boards := o_boards.nx nx113 d_boards_deeds
        replace o_gone := o_gone.nx nx113 (Ne.symm d_deeds_gone)
        replace r67 := Rp.mono nx113.ff r67
        replace r110 := Rp.mono nx113.ff r110
        replace nR := nR.step nx113 (fun q z => .inl (.inr (.inl z)))
        replace nA101 := nA101.step nx113 (fun q z => .inl (.inl z))
        have hF119 := nx113.fh
        replace o_deeds := o2
        exact ⟨(made, last, deeds), ⟨_, _, rfl, nA101, e0116, r110, o_deeds⟩, hQ⟩
      intro F89 H90 nx88 e091 hQ
      replace hQ := if_f hQ
      replace o_boards := o_boards.nx0 nx88
      replace o_deeds := o_deeds.nx0 nx88
      replace o_gone := o_gone.nx0 nx88
      replace r67 := Rp.mono nx88.ff r67
      replace nR := nR.step0 nx88
      replace nA101 := nA101.step0 nx88
      have hF103 := nx88.fh
      first | with_reducible refine st_n ?_ | skip
      refine st_seq ?_
      refine s_unp ?_ hF103 e091 hQ ?_
      · exact (g_call2 (ma := .ok board) (mb := .ok pit) (g_listI (g_var (a := board) (Rp.mono hF103 r67) (Same.refl _))) (g_var (a := pit) rfl (Same.refl _)))
      intro made last v124 v125 F121 H122 nx120 e0123 r126 r127 hQ
      replace o_boards := o_boards.nx0 nx120
      replace o_deeds := o_deeds.nx0 nx120
      replace o_gone := o_gone.nx0 nx120
      replace r67 := Rp.mono nx120.ff r67
      replace nR := nR.step0 nx120
      replace nA101 := nA101.step0 nx120
      have hF128 := nx120.fh
      obtain rfl : v125 = V.int last := r127
      first | with_reducible refine st_n ?_ | skip
      refine s_app (m := R.bd (R.bd (idx made last) fun (t133 : Int) => .ok ((0 : Int) - t133)) fun (t134 : Int) => .ok (T3.mk ("back" : Str) pit t134)) ?ha o_deeds ?he hF128 e0123 hQ ?_
      case ha => exact at_var rfl
      case he => exact (g_im (Same.refl _) (g_tri g_str (g_var (a := pit) rfl (Same.refl _)) (g_i0 g_int (g_idx (g_var (a := made) (Rp.mono hF128 r126) (Same.refl _)) (g_var (a := last) rfl (Same.refl _)) (Same.refl _)))))
      intro deeds F130 H131 nx129 e0132 o2 hQ
      replace o_boards := o_boards.nx nx129 d_boards_deeds
      replace o_gone := o_gone.nx nx129 (Ne.symm d_deeds_gone)
      replace r67 := Rp.mono nx129.ff r67
      replace r126 := Rp.mono nx129.ff r126
      replace nR := nR.step nx129 (fun q z => .inl (.inr (.inl z)))
      replace nA101 := nA101.step nx129 (fun q z => .inl (.inl z))
      have hF136 := nx129.fh
      replace o_deeds := o2
      exact ⟨(made, last, deeds), ⟨_, _, rfl, nA101, e0132, r126, o_deeds⟩, hQ⟩
    rintro ⟨made, last, deeds⟩ σ9 H95 hI hQ
    obtain ⟨F92, v97, rfl, nL93, e094, r98, o99⟩ := hI
    have o_boards := o_boards.nx nL93 (fun z => by rcases z with z | z <;> first | exact z | exact absurd z d_boards_deeds)
    have o_gone := o_gone.nx nL93 (fun z => by rcases z with z | z <;> first | exact z | exact absurd z (Ne.symm d_deeds_gone))
    have r67 := Rp.mono nL93.ff r67
    have hF100 := nL93.fh
    have nR := nR.step nL93 (fun q => fun z => Or.elim z (fun z => (.inl (.inr (.inl z)))) (fun z => z.elim))
    first | with_reducible refine st_n ?_ | skip
    refine st_seq ?_
    refine s_app (m := .ok made) ?ha o_boards ?he hF100 e094 hQ ?_
    case ha => exact at_var rfl
    case he => exact (g_var (a := made) r98 hF100)
    intro boards F138 H139 nx137 e0140 o2 hQ
    replace o99 := o99.nx nx137 (Ne.symm d_boards_deeds)
    replace o_gone := o_gone.nx nx137 (Ne.symm d_boards_gone)
    replace r67 := Rp.mono nx137.ff r67
    replace r98 := Rp.mono nx137.ff r98
    replace nR := nR.step nx137 (fun q z => .inl (.inl z))
    have hF141 := nx137.fh
    replace o_boards := o2
    first | with_reducible refine st_n ?_ | skip
    refine s_retM ?_ hF141 e0140 nR hQ (fun a h v F' H' n n0 r => h v F' H' n (o_boards.nx0 n0).atM (o99.nx0 n0).atM (o_gone.nx0 n0).atM r)
    exact (g_dy (g_var (a := last) rfl hF141))

abbrev N__law_again : List Str := ["boards", "found", "later", "earlier"]
theorem sc__law_again : FnScope N__law_again ["boards"] (defScope s__law_again) := ⟨rfl, rfl, rfl, by decide +kernel, rfl, by decide +kernel, by decide +kernel⟩
theorem ok__law_again (T : Hd K mg) : ∃ fd, PySem.W.keepIn K (.ref (He.ga K "_law_again")) = true ∧ Binds K fd ["boards"] [] ∧ FnOk P w K mg base (L2.CX P w) 1 (He.ga K "_law_again") fd ["boards"] (sp1 K m__law_again) := by
  obtain ⟨fd, F⟩ := T.d__law_again
  refine ⟨fd, F.kp, F.bindsN fun _ _ _ _ _ _ us hl => match us, hl with | [_], _ => rfl, ?_⟩
  refine F.ok sc__law_again (fun vs H Q E h => ?_) (fun cdv A outer s H vs Q E hr h => ?_)
  · obtain ⟨v_boards, boards, rfl, r_boards, hQ⟩ := h
    rfl
  · obtain ⟨v_boards, boards, rfl, r_boards, hQ⟩ := h
    have tk : Takes (cxOf (L2.CX P w) P w K mg base N__law_again "_law_again" (defScope s__law_again) (He.ga K "_law_again") cdv A outer s H E) (fun cls d _ H => E cls d H) := takes_of rfl rfl rfl rfl
    refine ⟨_, (by exact (pss_cons (ps_set (i := 1) sc__law_again.nd rfl (Or.inl rfl) (pe_lst pa_nil))
          (pss_cons (ps_for (passes_of rfl) rfl (pi_range1 rfl T.f_range (pa_cons (pe_callB call_len_seq rfl T.f_len PySem.boot_len (pa_cons (pv 0) pa_nil)) pa_nil)) (pg_name (i := 2) sc__law_again.nd rfl (Or.inl rfl)) (pss_cons (ps_set (i := 3) sc__law_again.nd rfl (Or.inl rfl) (pe_op op_sub (pv 2) pe_int))
          (pss_cons (ps_while (passes_of rfl) (PW.pt (pw_and (pt_cmpR op_ge (pv 3) pe_int (nomark _)) (pw_and1 (pt_cmpR (op_neP hr.units) (pe_ix ix_list (pv 0) (pv 3) (fun _ _ => rfl)) (pe_ix ix_list (pv 0) (pv 2) (fun _ _ => rfl)) (nomark _))))) (pss_one (ps_set (i := 3) sc__law_again.nd rfl (Or.inl rfl) (pe_op op_sub (pv 3) pe_int))))
          (pss_one (ps_if (pt_cmpR op_ge (pv 3) pe_int (nomark _)) (pss_one (ps_expr (pe_bm PySem.F.plainAttrs_list PySem.F.slot_list_append PySem.F.type_list_append mt_append (pv 1) (pa_cons (pe_tup (pa_cons (pv 3) (pa_cons (pv 2) pa_nil))) pa_nil)))) pss_nil)))))
          (pss_one (ps_ret (pe_callB (cr_sortA (α := Int × Int) hr.units) rfl T.f_sorted (by decide +kernel) (pa_cons (pv 1) pa_nil))))))), ?_⟩
    unfold m__law_again at hQ
    first | with_reducible refine st_n ?_ | skip
    refine st_seq ?_
    refine s_asgI (b := false) ?_ (Same.refl _) (Same.refl _) hQ ?_
    · exact (g_lstK a_nil (Nat.le_of_ble_eq_true rfl))
    intro found p6 F2 H3 nx1 e04 o5 nw7 hQ
    replace r_boards := Rp.mono nx1.ff r_boards
    have hF8 := nx1.fh
    first | with_reducible refine st_n ?_ | skip
    refine st_seq ?_
    refine s_for ?_ hF8 e04 hQ ?_
    · exact (i_rng1 (g_sc (F' := H3) (g_len (g_var (a := boards) (Rp.mono hF8 r_boards) (Same.refl _)) (Same.refl _))))
    intro xs13 J14 F10 H11 nx9 e012 ok15 hQ
    replace r_boards := Rp.mono nx9.ff r_boards
    replace o5 := o5.nx0 nx9
    have hF17 := nx9.fh
    replace hQ := wp_bdi hQ
    refine for_S ok15 (fun (found : (List (Int × Int))) σ22 H21 => ∃ (F18 : Hp) (j24 : Option V) (j25 : Option V), σ22 = [some v_boards, some (.ref p6), j25, j24] ∧ Nx (fun q => q = p6 ∨ False) F10 H11 F18 H21 ∧ Same H H21 ∧ Own K H false F18 H21 p6 found) ?hku83 ?h0u83 hQ ?turnu83 ?doneu83
    case hku83 =>
      intro found σ9 H21 hI
      obtain ⟨F18, j24, j25, rfl, nL19, e020, o23⟩ := hI
      exact nL19.ff.trans nL19.fh
    case h0u83 =>
      exact ⟨_, _, _, rfl, (Nx.refl' hF17), e012, o5⟩
    case turnu83 =>
      intro later l29 found v30 σ9 H21 H31 hI e32 rx33 hQ
      obtain ⟨F18, j24, j25, rfl, nL19, e020, o23⟩ := hI
      have r_boards := Rp.mono nL19.ff r_boards
      have hF26 := nL19.fh
      have nA27 := nL19
      have nx34 : Nx0 F18 H21 (mix F18 H21 H31) H31 := Nx.mk' hF26 e32
      have e036 := e020.trans e32
      replace r_boards := Rp.mono nx34.ff r_boards
      replace o23 := o23.nx0 nx34
      replace nA27 := nA27.step0 nx34
      have hF37 := nx34.fh
      refine gn ?_
      obtain rfl : v30 = V.int later := rx33
      first | with_reducible refine st_n ?_ | skip
      refine st_seq ?_
      refine s_asg ?_ hF37 e036 hQ ?_
      · exact (g_sc (F' := H31) (g_i0 (g_var (a := later) rfl (Same.refl _)) g_int))
      intro earlier v43 F40 H41 nx39 e042 r44 hQ
      replace r_boards := Rp.mono nx39.ff r_boards
      replace o23 := o23.nx0 nx39
      replace nA27 := nA27.step0 nx39
      have hF45 := nx39.fh
      obtain rfl : v43 = V.int earlier := r44
      first | with_reducible refine st_n ?_ | skip
      refine st_seq ?_
      replace hQ := wp_bdi hQ
      refine while_S (fun (earlier : Int) σ50 H49 => ∃ (F46 : Hp), σ50 = [some v_boards, some (.ref p6), some (.int later), some (.int earlier)] ∧ Nx (fun _ => False) F40 H41 F46 H49 ∧ Same H H49) ?h0u81 hQ ?hcu81 ?hbu81 ?hdu81
      case h0u81 =>
        exact ⟨_, rfl, (Nx.refl' hF45), e042⟩
      case hcu81 =>
        intro earlier σ9 H49 hI
        obtain ⟨F46, rfl, nL47, e048⟩ := hI
        have r_boards := Rp.mono nL47.ff r_boards
        have o23 := o23.nx nL47 (fun z => z)
        have hF51 := nL47.fh
        have nA27 := nA27.step0 nL47
        exact ⟨e048, (t_and (t_test (F := H49) (g_b0 (g_var (a := earlier) rfl (Same.refl _)) g_int)) (t_test (F := H49) (g_neD (g_idx (g_var (a := boards) (Rp.mono hF51 r_boards) (Same.refl _)) (g_var (a := earlier) rfl (Same.refl _)) (Same.refl _)) (g_idx (g_var (a := boards) (Rp.mono hF51 r_boards) (Same.refl _)) (g_var (a := later) rfl (Same.refl _)) (Same.refl _)) (Same.refl _))))⟩
      case hbu81 =>
        intro n9 earlier σ9 H49 H55 hI e56 hQ
        obtain ⟨F46, rfl, nL47, e048⟩ := hI
        have r_boards := Rp.mono nL47.ff r_boards
        have o23 := o23.nx nL47 (fun z => z)
        have hF51 := nL47.fh
        have nA27 := nA27.step0 nL47
        have nA52 := nL47
        have nx57 : Nx0 F46 H49 (mix F46 H49 H55) H55 := Nx.mk' hF51 e56
        have e058 := e048.trans e56
        replace r_boards := Rp.mono nx57.ff r_boards
        replace o23 := o23.nx0 nx57
        replace nA27 := nA27.step0 nx57
        replace nA52 := nA52.step0 nx57
        have hF59 := nx57.fh
        first | with_reducible refine st_n ?_ | skip
        refine s_asg ?_ hF59 e058 hQ ?_
        · exact (g_sc (F' := H55) (g_i0 (g_var (a := earlier) rfl (Same.refl _)) g_int))
        intro earlier v65 F62 H63 nx61 e064 r66 hQ
        replace r_boards := Rp.mono nx61.ff r_boards
        replace o23 := o23.nx0 nx61
        replace nA27 := nA27.step0 nx61
        replace nA52 := nA52.step0 nx61
        have hF67 := nx61.fh
        obtain rfl : v65 = V.int earlier := r66
        exact ⟨earlier, ⟨_, rfl, nA52, e064⟩, hQ⟩
      case hdu81 =>
        intro earlier σ9 H49 H55 hI e56 hQ
        obtain ⟨F46, rfl, nL47, e048⟩ := hI
        have r_boards := Rp.mono nL47.ff r_boards
        have o23 := o23.nx nL47 (fun z => z)
        have hF51 := nL47.fh
        have nA27 := nA27.step0 nL47
        have nx57 : Nx0 F46 H49 (mix F46 H49 H55) H55 := Nx.mk' hF51 e56
        have e058 := e048.trans e56
        replace r_boards := Rp.mono nx57.ff r_boards
        replace o23 := o23.nx0 nx57
        replace nA27 := nA27.step0 nx57
        have hF68 := nx57.fh
        first | with_reducible refine st_n ?_ | skip
        refine s_if ?_ hF68 e058 hQ ?_ ?_
        · exact (t_test (F := H55) (g_b0 (g_var (a := earlier) rfl (Same.refl _)) g_int))
        · intro F70 H71 nx69 e072 hQ
          replace hQ := if_t hQ
          replace r_boards := Rp.mono nx69.ff r_boards
          replace o23 := o23.nx0 nx69
          replace nA27 := nA27.step0 nx69
          have hF73 := nx69.fh
          first | with_reducible refine st_n ?_ | skip
          refine s_app (m := .ok (earlier, later)) ?ha o23 ?he hF73 e072 hQ ?_
          case ha => exact at_var rfl
          case he => exact (g_im (Same.refl _) (g_pair (g_var (a := earlier) rfl (Same.refl _)) (g_var (a := later) rfl (Same.refl _))))
          intro found F76 H77 nx75 e078 o2 hQ
          replace r_boards := Rp.mono nx75.ff r_boards
          replace nA27 := nA27.step nx75 (fun q z => .inl (.inl z))
          have hF79 := nx75.fh
          replace o23 := o2
          exact ⟨found, ⟨_, _, _, rfl, nA27, e078, o23⟩, hQ⟩
        intro F70 H71 nx69 e072 hQ
        replace hQ := if_f hQ
        refine st_next ?_
        replace r_boards := Rp.mono nx69.ff r_boards
        replace o23 := o23.nx0 nx69
        replace nA27 := nA27.step0 nx69
        have hF74 := nx69.fh
        exact ⟨found, ⟨_, _, _, rfl, nA27, e072, o23⟩, hQ⟩
    case doneu83 =>
      intro found σ9 H21 hI hQ
      obtain ⟨F18, j24, j25, rfl, nL19, e020, o23⟩ := hI
      have r_boards := Rp.mono nL19.ff r_boards
      have hF26 := nL19.fh
      first | with_reducible refine st_n ?_ | skip
      refine s_ret ?_ e020 hQ (fun a h => h)
      exact (g_sortI (g_var (a := found) (o23.rep hF26) (Same.refl _)))

abbrev N__law_as_kept : List Str := ["book", "boards", "deeds", "cell", "k", "way", "board", "plan", "pairs", "seeds", "deed"]
theorem sc__law_as_kept : FnScope N__law_as_kept ["book", "boards", "deeds", "cell"] (defScope s__law_as_kept) := ⟨rfl, rfl, rfl, by decide +kernel, rfl, by decide +kernel, by decide +kernel⟩
theorem ok__law_as_kept (T : Hd K mg) : ∃ fd, PySem.W.keepIn K (.ref (He.ga K "_law_as_kept")) = true ∧ Binds K fd ["book", "boards", "deeds", "cell"] [] ∧ FnOk P w K mg base (L2.CX P w) 2 (He.ga K "_law_as_kept") fd ["book", "boards", "deeds", "cell"] (sp4 K m__law_as_kept) := by
  obtain ⟨fd, F⟩ := T.d__law_as_kept
  obtain ⟨fd__law_again, kp__law_again, b__law_again, G__law_again⟩ := ok__law_again (P := P) (w := w) (base := base) T
  obtain ⟨fd_bk_board, kp_bk_board, b_bk_board, G_bk_board⟩ := ok_bk_board (P := P) (w := w) (base := base) T
  obtain ⟨fd_bk_came_again, kp_bk_came_again, b_bk_came_again, G_bk_came_again⟩ := ok_bk_came_again (P := P) (w := w) (base := base) T
  obtain ⟨fd_bk_plan, kp_bk_plan, b_bk_plan, G_bk_plan⟩ := ok_bk_plan (P := P) (w := w) (base := base) T
  obtain ⟨fd_bk_sown_in_all, kp_bk_sown_in_all, b_bk_sown_in_all, G_bk_sown_in_all⟩ := ok_bk_sown_in_all (P := P) (w := w) (base := base) T
  refine ⟨fd, F.kp, F.bindsN fun _ _ _ _ _ _ us hl => match us, hl with | [_, _, _, _], _ => rfl, ?_⟩
  refine F.ok sc__law_as_kept (fun vs H Q E h => ?_) (fun cdv A outer s H vs Q E hr h => ?_)
  · obtain ⟨v_book, v_boards, v_deeds, v_cell, book, boards, deeds, cell, rfl, r_book, r_boards, r_deeds, r_cell, hQ⟩ := h
    rfl
  · obtain ⟨v_book, v_boards, v_deeds, v_cell, book, boards, deeds, cell, rfl, r_book, r_boards, r_deeds, r_cell, hQ⟩ := h
    obtain rfl : v_cell = V.int cell := r_cell
    have tk : Takes (cxOf (L2.CX P w) P w K mg base N__law_as_kept "_law_as_kept" (defScope s__law_as_kept) (He.ga K "_law_as_kept") cdv A outer s H E) (fun cls d _ H => E cls d H) := takes_of rfl rfl rfl rfl
    refine ⟨_, (by exact (pss_cons (ps_for (passes_of rfl) rfl (pi_range1 rfl T.f_range (pa_cons pe_int pa_nil)) (pg_name (i := 4) sc__law_as_kept.nd rfl (Or.inl rfl)) (pss_cons (ps_set (i := 5) sc__law_as_kept.nd rfl (Or.inl rfl) (pe_op op_mod (pe_op op_add (pv 3) (pv 4)) pe_int))
          (pss_one (ps_if (pt_cmpR op_eq (pv 5) pe_int (nomark _)) (pss_cons (ps_set (i := 6) sc__law_as_kept.nd rfl (Or.inl rfl) (pe_meS0 (pv 0) T.bk.cl T.me_bk_board G_bk_board (hr.mono (by decide)) b_bk_board (fun σ => passAt tk σ)))
          (pss_cons (ps_if (PW.pt (pw_or (pt_not (pt_val (pe_callB call_isi rfl T.f_isinstance (by decide +kernel) (pa_cons (pv 6) (pa_cons (pe_bltn (v := .ty "list") rfl T.f_list (by rfl) rfl) pa_nil))))) (pw_or1 (pt_cmpR (op_neP hr.units) (pv 6) (pe_ix ix_list (pv 1) (pe_un un_neg pe_int) (fun _ _ => rfl)) (nomark _))))) (pss_one (ps_ret pe_bl)) pss_nil)
          (pss_one (ps_asg (pe_op op_add (pe_ix ix_list (pv 6) pe_int (fun _ _ => rfl)) pe_int) (pg_sub (pv 6) pe_int set_list))))) (pss_one (ps_if (pt_cmpR op_eq (pv 5) pe_int (nomark _)) (pss_cons (ps_set (i := 7) sc__law_as_kept.nd rfl (Or.inl rfl) (pe_meS0 (pv 0) T.bk.cl T.me_bk_plan G_bk_plan (hr.mono (by decide)) b_bk_plan (fun σ => passAt tk σ)))
          (pss_cons (ps_if (PW.pt (pw_or (pt_not (pt_val (pe_callB call_isi rfl T.f_isinstance (by decide +kernel) (pa_cons (pv 7) (pa_cons (pe_bltn (v := .ty "list") rfl T.f_list (by rfl) rfl) pa_nil))))) (pw_or1 (pt_cmpR (op_neP hr.units) (pv 7) (pe_lc (own := [("deed", 10)]) (g := gName 10) (tt := tYes) rfl sc__law_as_kept.nd (pi_list (pv 2)) (blkOk_by (N := N__law_as_kept) (sc := defScope s__law_as_kept) (by decide +kernel)) (fun _ _ _ _ _ => pg_name (i := 10) sc__law_as_kept.nd rfl (Or.inl rfl)) (fun _ _ _ _ _ => pts_nil) (fun _ _ _ _ _ => (pe_tup (pa_cons (pe_ix (ix_tupK (K := K) rfl) (pv 10) pe_int (fun _ _ => rfl)) (pa_cons (pe_ix (ix_tupK (K := K) rfl) (pv 10) pe_int (fun _ _ => rfl)) pa_nil))))) (nomark _))))) (pss_one (ps_ret pe_bl)) pss_nil)
          (pss_one (ps_expr (pe_bm PySem.F.plainAttrs_list PySem.F.slot_list_append PySem.F.type_list_append mt_append (pv 7) (pa_cons (pe_tup (pa_cons pe_str (pa_cons pe_int pa_nil))) pa_nil)))))) (pss_one (ps_if (pt_cmpR op_eq (pv 5) pe_int (nomark _)) (pss_cons (ps_set (i := 8) sc__law_as_kept.nd rfl (Or.inl rfl) (pe_meS0 (pv 0) T.bk.cl T.me_bk_came_again G_bk_came_again (hr.mono (by decide)) b_bk_came_again (fun σ => passAt tk σ)))
          (pss_cons (ps_if (PW.pt (pw_or (pt_not (pt_val (pe_callB call_isi rfl T.f_isinstance (by decide +kernel) (pa_cons (pv 8) (pa_cons (pe_bltn (v := .ty "list") rfl T.f_list (by rfl) rfl) pa_nil))))) (pw_or1 (pt_cmpR (op_neP hr.units) (pv 8) (pe_callS G__law_again (hr.mono (by decide)) rfl T.g__law_again kp__law_again b__law_again (fun σ => passAt tk σ) (pa_cons (pv 1) pa_nil)) (nomark _))))) (pss_one (ps_ret pe_bl)) pss_nil)
          (pss_one (ps_expr (pe_bm PySem.F.plainAttrs_list PySem.F.slot_list_append PySem.F.type_list_append mt_append (pv 8) (pa_cons (pe_tup (pa_cons pe_int (pa_cons pe_int pa_nil))) pa_nil)))))) (pss_cons (ps_set (i := 9) sc__law_as_kept.nd rfl (Or.inl rfl) (pe_meS0 (pv 0) T.bk.cl T.me_bk_sown_in_all G_bk_sown_in_all (hr.mono (by decide)) b_bk_sown_in_all (fun σ => passAt tk σ)))
          (pss_one (ps_if (PW.pt (pw_or (pt_not (pt_val (pe_callB call_isi rfl T.f_isinstance (by decide +kernel) (pa_cons (pv 9) (pa_cons (pe_bltn (v := .ty "int") rfl T.f_int (by rfl) rfl) pa_nil))))) (pw_or (pt_val (pe_callB call_isi rfl T.f_isinstance (by decide +kernel) (pa_cons (pv 9) (pa_cons (pe_bltn (v := .ty "bool") rfl T.f_bool (by rfl) rfl) pa_nil)))) (pw_or1 (pt_cmpR op_ne (pv 9) (pe_callB (cr_sum rfl) rfl T.f_sum (by decide +kernel) (pa_cons (pe_lc (own := [("deed", 10)]) (g := gName 10) (tt := tYes) rfl sc__law_as_kept.nd (pi_list (pv 2)) (blkOk_by (N := N__law_as_kept) (sc := defScope s__law_as_kept) (by decide +kernel)) (fun _ _ _ _ _ => pg_name (i := 10) sc__law_as_kept.nd rfl (Or.inl rfl)) (fun _ _ _ _ _ => pts_nil) (fun _ _ _ _ _ => (pe_ix (ix_tupK (K := K) rfl) (pv 10) pe_int (fun _ _ => rfl)))) pa_nil)) (nomark _)))))) (pss_one (ps_ret pe_bl)) pss_nil)))))))))))
          (pss_one (ps_ret pe_bl)))), ?_⟩
    unfold m__law_as_kept at hQ
    first | with_reducible refine st_n ?_ | skip
    refine st_seq ?_
    refine s_for ?_ (Same.refl _) (Same.refl _) hQ ?_
    · exact (i_rng1 (g_sc (F' := H) g_int))
    intro xs5 J6 F2 H3 nx1 e04 ok7 hQ
    replace r_book := Rp.mono nx1.ff r_book
    replace r_boards := Rp.mono nx1.ff r_boards
    replace r_deeds := Rp.mono nx1.ff r_deeds
    have hF9 := nx1.fh
    replace hQ := wp_bdi hQ
    refine for_Rd ok7 (fun (_ : Unit) σ14 H13 => ∃ (F10 : Hp) (j15 : Option V) (j16 : Option V) (j17 : Option V) (j18 : Option V) (j19 : Option V) (j20 : Option V), σ14 = [some v_book, some v_boards, some v_deeds, some (.int cell), j20, j15, j16, j17, j18, j19, none] ∧ Nx (fun _ => False) F2 H3 F10 H13 ∧ Same H H13) ?hku160 ?h0u160 hQ ?doneu160 ?turnu160
    case hku160 =>
      intro st σ9 H13 hI
      obtain ⟨F10, j15, j16, j17, j18, j19, j20, rfl, nL11, e012⟩ := hI
      exact nL11.ff.trans nL11.fh
    case h0u160 =>
      exact ⟨_, _, _, _, _, _, _, rfl, (Nx.refl' hF9), e04⟩
    case turnu160 =>
      intro k l24 st v25 σ9 H13 H26 hI e27 rx28 hd33 hQ
      obtain ⟨F10, j15, j16, j17, j18, j19, j20, rfl, nL11, e012⟩ := hI
      have r_book := Rp.mono nL11.ff r_book
      have r_boards := Rp.mono nL11.ff r_boards
      have r_deeds := Rp.mono nL11.ff r_deeds
      have hF21 := nL11.fh
      have nA22 := nL11
      have nx29 : Nx0 F10 H13 (mix F10 H13 H26) H26 := Nx.mk' hF21 e27
      have e031 := e012.trans e27
      replace r_book := Rp.mono nx29.ff r_book
      replace r_boards := Rp.mono nx29.ff r_boards
      replace r_deeds := Rp.mono nx29.ff r_deeds
      replace nA22 := nA22.step0 nx29
      have hF32 := nx29.fh
      refine gn ?_
      obtain rfl : v25 = V.int k := rx28
      first | with_reducible refine st_n ?_ | skip
      refine st_seq ?_
      refine s_asg ?_ hF32 e031 hQ ?_
      · exact (g_sc (F' := H26) (g_modL (by decide +kernel) (g_i0 (g_var (a := cell) rfl (Same.refl _)) (g_var (a := k) rfl (Same.refl _))) g_int))
      intro way v38 F35 H36 nx34 e037 r39 hQ
      replace r_book := Rp.mono nx34.ff r_book
      replace r_boards := Rp.mono nx34.ff r_boards
      replace r_deeds := Rp.mono nx34.ff r_deeds
      replace nA22 := nA22.step0 nx34
      have hF40 := nx34.fh
      obtain rfl : v38 = V.int way := r39
      first | with_reducible refine st_n ?_ | skip
      refine s_if ?_ hF40 e037 hQ ?_ ?_
      · exact (t_test (F := H36) (g_eq (g_var (a := way) rfl (Same.refl _)) g_int))
      · intro F42 H43 nx41 e044 hQ
        replace hQ := if_t hQ
        replace r_book := Rp.mono nx41.ff r_book
        replace r_boards := Rp.mono nx41.ff r_boards
        replace r_deeds := Rp.mono nx41.ff r_deeds
        replace nA22 := nA22.step0 nx41
        have hF45 := nx41.fh
        first | with_reducible refine st_n ?_ | skip
        refine st_seq ?_
        refine s_asgI (b := false) ?_ hF45 e044 hQ ?_
        · exact (g_me0 (ma := .ok book) (g_var (a := book) (Rp.mono hF45 r_book) (Same.refl _)))
        intro board p52 F48 H49 nx47 e050 o51 nw53 hQ
        have zp52_nA22 := none_of_new nA22 nw53
        replace r_book := Rp.mono nx47.ff r_book
        replace r_boards := Rp.mono nx47.ff r_boards
        replace r_deeds := Rp.mono nx47.ff r_deeds
        replace nA22 := nA22.step0 nx47
        have hF54 := nx47.fh
        first | with_reducible refine st_n ?_ | skip
        refine st_seq ?_
        refine s_if ?_ hF54 e050 hQ ?_ ?_
        · exact (t_or (t_not (t_B (F := H49) (g_isi (b := true) (g_var (a := board) (o51.rep hF54) (Same.refl _)) (Same.refl _)))) (t_test (F := H49) (g_neD (g_var (a := board) (o51.rep hF54) (Same.refl _)) (g_idx (g_var (a := boards) (Rp.mono hF54 r_boards) (Same.refl _)) (g_neg g_int) (Same.refl _)) (Same.refl _))))
        · intro F57 H58 nx56 e059 hQ
          replace hQ := if_t hQ
          replace r_book := Rp.mono nx56.ff r_book
          replace r_boards := Rp.mono nx56.ff r_boards
          replace r_deeds := Rp.mono nx56.ff r_deeds
          replace o51 := o51.nx0 nx56
          replace nA22 := nA22.step0 nx56
          have hF60 := nx56.fh
          first | with_reducible refine st_n ?_ | skip
          refine s_ret ?_ e059 hQ (fun a h => h)
          exact (g_sc (F' := H58) g_bl)
        intro F57 H58 nx56 e059 hQ
        replace hQ := if_f hQ
        refine st_next ?_
        replace r_book := Rp.mono nx56.ff r_book
        replace r_boards := Rp.mono nx56.ff r_boards
        replace r_deeds := Rp.mono nx56.ff r_deeds
        replace o51 := o51.nx0 nx56
        replace nA22 := nA22.step0 nx56
        have hF61 := nx56.fh
        first | with_reducible refine st_n ?_ | skip
        refine s_set (m := R.bd (idx board (0 : Int)) fun (t62 : Int) => .ok (t62 + (1 : Int))) (mi := .ok (0 : Int)) ?ha o51 ?he ?hi hF61 e059 hQ ?_
        case ha => exact at_var rfl
        case he => exact (g_sc (F' := H58) (g_i0 (g_idx (g_var (a := board) (o51.rep hF61) (Same.refl _)) g_int (Same.refl _)) g_int))
        case hi => exact g_int
        intro board F65 H66 nx64 e067 o2 hQ
        replace r_book := Rp.mono nx64.ff r_book
        replace r_boards := Rp.mono nx64.ff r_boards
        replace r_deeds := Rp.mono nx64.ff r_deeds
        replace nA22 := nA22.step nx64 (fun q z => .inr (by rw [z]; exact zp52_nA22))
        have hF68 := nx64.fh
        replace o51 := o2
        exact ⟨(), ⟨_, _, _, _, _, _, _, rfl, nA22, e067⟩, hQ⟩
      intro F42 H43 nx41 e044 hQ
      replace hQ := if_f hQ
      replace r_book := Rp.mono nx41.ff r_book
      replace r_boards := Rp.mono nx41.ff r_boards
      replace r_deeds := Rp.mono nx41.ff r_deeds
      replace nA22 := nA22.step0 nx41
      have hF46 := nx41.fh
      first | with_reducible refine st_n ?_ | skip
      refine s_if ?_ hF46 e044 hQ ?_ ?_
      · exact (t_test (F := H43) (g_eq (g_var (a := way) rfl (Same.refl _)) g_int))
      · intro F71 H72 nx70 e073 hQ
        replace hQ := if_t hQ
        replace r_book := Rp.mono nx70.ff r_book
        replace r_boards := Rp.mono nx70.ff r_boards
        replace r_deeds := Rp.mono nx70.ff r_deeds
        replace nA22 := nA22.step0 nx70
        have hF74 := nx70.fh
        first | with_reducible refine st_n ?_ | skip
        refine st_seq ?_
        refine s_asgI (b := false) ?_ hF74 e073 hQ ?_
        · exact (g_me0 (ma := .ok book) (g_var (a := book) (Rp.mono hF74 r_book) (Same.refl _)))
        intro plan p81 F77 H78 nx76 e079 o80 nw82 hQ
        have zp81_nA22 := none_of_new nA22 nw82
        replace r_book := Rp.mono nx76.ff r_book
        replace r_boards := Rp.mono nx76.ff r_boards
        replace r_deeds := Rp.mono nx76.ff r_deeds
        replace nA22 := nA22.step0 nx76
        have hF83 := nx76.fh
        first | with_reducible refine st_n ?_ | skip
        refine st_seq ?_
        refine s_if ?_ hF83 e079 hQ ?_ ?_
        · exact (t_or (t_not (t_B (F := H78) (g_isi (b := true) (g_var (a := plan) (o80.rep hF83) (Same.refl _)) (Same.refl _)))) (t_test (F := H78) (g_neD (g_var (a := plan) (o80.rep hF83) (Same.refl _)) (g_compI (i_list (g_var (a := deeds) (Rp.mono hF83 r_deeds) (Same.refl _)) (Same.refl _)) (fun deed v85 F86 H87 f88 h89 hh90 rx91 => ⟨(wipe _ _).set 10 (some v85), fun _ q => q, rfl, t_yes, (g_im (Same.refl _) (g_pair (g_t3a (g_var (a := deed) (Rp.mono h89 rx91) (Same.refl _)) (Same.refl _)) (g_t3b (g_var (a := deed) (Rp.mono h89 rx91) (Same.refl _)) (Same.refl _))))⟩)) (Same.refl _))))
        · intro F94 H95 nx93 e096 hQ
          replace hQ := if_t hQ
          replace r_book := Rp.mono nx93.ff r_book
          replace r_boards := Rp.mono nx93.ff r_boards
          replace r_deeds := Rp.mono nx93.ff r_deeds
          replace o80 := o80.nx0 nx93
          replace nA22 := nA22.step0 nx93
          have hF97 := nx93.fh
          first | with_reducible refine st_n ?_ | skip
          refine s_ret ?_ e096 hQ (fun a h => h)
          exact (g_sc (F' := H95) g_bl)
        intro F94 H95 nx93 e096 hQ
        replace hQ := if_f hQ
        refine st_next ?_
        replace r_book := Rp.mono nx93.ff r_book
        replace r_boards := Rp.mono nx93.ff r_boards
        replace r_deeds := Rp.mono nx93.ff r_deeds
        replace o80 := o80.nx0 nx93
        replace nA22 := nA22.step0 nx93
        have hF98 := nx93.fh
        first | with_reducible refine st_n ?_ | skip
        refine s_app (m := .ok (("sow" : Str), (0 : Int))) ?ha o80 ?he hF98 e096 hQ ?_
        case ha => exact at_var rfl
        case he => exact (g_im (Same.refl _) (g_pair g_str g_int))
        intro plan F100 H101 nx99 e0102 o2 hQ
        replace r_book := Rp.mono nx99.ff r_book
        replace r_boards := Rp.mono nx99.ff r_boards
        replace r_deeds := Rp.mono nx99.ff r_deeds
        replace nA22 := nA22.step nx99 (fun q z => .inr (by rw [z]; exact zp81_nA22))
        have hF103 := nx99.fh
        replace o80 := o2
        exact ⟨(), ⟨_, _, _, _, _, _, _, rfl, nA22, e0102⟩, hQ⟩
      intro F71 H72 nx70 e073 hQ
      replace hQ := if_f hQ
      replace r_book := Rp.mono nx70.ff r_book
      replace r_boards := Rp.mono nx70.ff r_boards
      replace r_deeds := Rp.mono nx70.ff r_deeds
      replace nA22 := nA22.step0 nx70
      have hF75 := nx70.fh
      first | with_reducible refine st_n ?_ | skip
      refine s_if ?_ hF75 e073 hQ ?_ ?_
      · exact (t_test (F := H72) (g_eq (g_var (a := way) rfl (Same.refl _)) g_int))
      · intro F106 H107 nx105 e0108 hQ
        replace hQ := if_t hQ
        replace r_book := Rp.mono nx105.ff r_book
        replace r_boards := Rp.mono nx105.ff r_boards
        replace r_deeds := Rp.mono nx105.ff r_deeds
        replace nA22 := nA22.step0 nx105
        have hF109 := nx105.fh
        first | with_reducible refine st_n ?_ | skip
        refine st_seq ?_
        refine s_asgI (b := false) ?_ hF109 e0108 hQ ?_
        · exact (g_me0 (ma := .ok book) (g_var (a := book) (Rp.mono hF109 r_book) (Same.refl _)))
        intro pairs p116 F112 H113 nx111 e0114 o115 nw117 hQ
        have zp116_nA22 := none_of_new nA22 nw117
        replace r_book := Rp.mono nx111.ff r_book
        replace r_boards := Rp.mono nx111.ff r_boards
        replace r_deeds := Rp.mono nx111.ff r_deeds
        replace nA22 := nA22.step0 nx111
        have hF118 := nx111.fh
        first | with_reducible refine st_n ?_ | skip
        refine st_seq ?_
        refine s_if ?_ hF118 e0114 hQ ?_ ?_
        · exact (t_or (t_not (t_B (F := H113) (g_isi (b := true) (g_var (a := pairs) (o115.rep hF118) (Same.refl _)) (Same.refl _)))) (t_test (F := H113) (g_neD (g_var (a := pairs) (o115.rep hF118) (Same.refl _)) (g_call1 (ma := .ok boards) (g_var (a := boards) (Rp.mono hF118 r_boards) (Same.refl _))) (Same.refl _))))
        · intro F121 H122 nx120 e0123 hQ
          replace hQ := if_t hQ
          replace r_book := Rp.mono nx120.ff r_book
          replace r_boards := Rp.mono nx120.ff r_boards
          replace r_deeds := Rp.mono nx120.ff r_deeds
          replace o115 := o115.nx0 nx120
          replace nA22 := nA22.step0 nx120
          have hF124 := nx120.fh
          first | with_reducible refine st_n ?_ | skip
          refine s_ret ?_ e0123 hQ (fun a h => h)
          exact (g_sc (F' := H122) g_bl)
        intro F121 H122 nx120 e0123 hQ
        replace hQ := if_f hQ
        refine st_next ?_
        replace r_book := Rp.mono nx120.ff r_book
        replace r_boards := Rp.mono nx120.ff r_boards
        replace r_deeds := Rp.mono nx120.ff r_deeds
        replace o115 := o115.nx0 nx120
        replace nA22 := nA22.step0 nx120
        have hF125 := nx120.fh
        first | with_reducible refine st_n ?_ | skip
        refine s_app (m := .ok ((0 : Int), (0 : Int))) ?ha o115 ?he hF125 e0123 hQ ?_
        case ha => exact at_var rfl
        case he => exact (g_im (Same.refl _) (g_pair g_int g_int))
        intro pairs F127 H128 nx126 e0129 o2 hQ
        replace r_book := Rp.mono nx126.ff r_book
        replace r_boards := Rp.mono nx126.ff r_boards
        replace r_deeds := Rp.mono nx126.ff r_deeds
        replace nA22 := nA22.step nx126 (fun q z => .inr (by rw [z]; exact zp116_nA22))
        have hF130 := nx126.fh
        replace o115 := o2
        exact ⟨(), ⟨_, _, _, _, _, _, _, rfl, nA22, e0129⟩, hQ⟩
      intro F106 H107 nx105 e0108 hQ
      replace hQ := if_f hQ
      replace r_book := Rp.mono nx105.ff r_book
      replace r_boards := Rp.mono nx105.ff r_boards
      replace r_deeds := Rp.mono nx105.ff r_deeds
      replace nA22 := nA22.step0 nx105
      have hF110 := nx105.fh
      first | with_reducible refine st_n ?_ | skip
      refine st_seq ?_
      refine s_asg ?_ hF110 e0108 hQ ?_
      · exact (g_sc (F' := H107) (g_me0 (ma := .ok book) (g_var (a := book) (Rp.mono hF110 r_book) (Same.refl _))))
      intro seeds v136 F133 H134 nx132 e0135 r137 hQ
      replace r_book := Rp.mono nx132.ff r_book
      replace r_boards := Rp.mono nx132.ff r_boards
      replace r_deeds := Rp.mono nx132.ff r_deeds
      replace nA22 := nA22.step0 nx132
      have hF138 := nx132.fh
      obtain rfl : v136 = V.int seeds := r137
      first | with_reducible refine st_n ?_ | skip
      refine s_if ?_ hF138 e0135 hQ ?_ ?_
      · exact (t_or (t_not (t_B (F := H134) (g_isi (b := true) (g_var (a := seeds) rfl (Same.refl _)) (Same.refl _)))) (t_or (t_B (F := H134) (g_isi (b := false) (g_var (a := seeds) rfl (Same.refl _)) (Same.refl _))) (t_test (F := H134) (g_ne (g_var (a := seeds) rfl (Same.refl _)) (g_sum (g_compI (i_list (g_var (a := deeds) (Rp.mono hF138 r_deeds) (Same.refl _)) (Same.refl _)) (fun deed v140 F141 H142 f143 h144 hh145 rx146 => ⟨(wipe _ _).set 10 (some v140), fun _ q => q, rfl, t_yes, (g_sc (F' := H142) (g_t3c (g_var (a := deed) (Rp.mono h144 rx146) (Same.refl _)) (Same.refl _)))⟩)) (Same.refl _))))))
      · intro F150 H151 nx149 e0152 hQ
        replace hQ := if_t hQ
        replace r_book := Rp.mono nx149.ff r_book
        replace r_boards := Rp.mono nx149.ff r_boards
        replace r_deeds := Rp.mono nx149.ff r_deeds
        replace nA22 := nA22.step0 nx149
        have hF153 := nx149.fh
        first | with_reducible refine st_n ?_ | skip
        refine s_ret ?_ e0152 hQ (fun a h => h)
        exact (g_sc (F' := H151) g_bl)
      intro F150 H151 nx149 e0152 hQ
      replace hQ := if_f hQ
      refine st_next ?_
      replace r_book := Rp.mono nx149.ff r_book
      replace r_boards := Rp.mono nx149.ff r_boards
      replace r_deeds := Rp.mono nx149.ff r_deeds
      replace nA22 := nA22.step0 nx149
      have hF154 := nx149.fh
      exact ⟨(), ⟨_, _, _, _, _, _, _, rfl, nA22, e0152⟩, hQ⟩
    case doneu160 =>
      intro st σ9 H13 hI hQ
      replace hQ := flk_go hQ
      obtain ⟨F10, j15, j16, j17, j18, j19, j20, rfl, nL11, e012⟩ := hI
      have r_book := Rp.mono nL11.ff r_book
      have r_boards := Rp.mono nL11.ff r_boards
      have r_deeds := Rp.mono nL11.ff r_deeds
      have hF21 := nL11.fh
      first | with_reducible refine st_n ?_ | skip
      refine s_ret ?_ e012 hQ (fun a h => h)
      exact (g_sc (F' := H13) g_bl)

abbrev N_law : List Str := ["script", "head", "pits", "first", "handed", "book", "boards", "deeds", "gone", "cell", "way", "pit", "far", "due", "told"]
theorem sc_law : FnScope N_law ["script"] (defScope s_law) := ⟨rfl, rfl, rfl, by decide +kernel, rfl, by decide +kernel, by decide +kernel⟩
theorem ok_law (T : Hd K mg) {fd : FuncData} (F : FunD K "law" "law" (defArgs s_law) (defBody s_law) (defScope s_law) [] [] (He.ga K "law") fd) : FnOk P w K mg base (L2.CX P w) 7 (He.ga K "law") fd ["script"] (sp1 K m_law) := by
  obtain ⟨fd__law_as_kept, kp__law_as_kept, b__law_as_kept, G__law_as_kept⟩ := ok__law_as_kept (P := P) (w := w) (base := base) T
  obtain ⟨fd__law_at, kp__law_at, b__law_at, G__law_at⟩ := ok__law_at (P := P) (w := w) (base := base) T
  obtain ⟨fd__law_board, kp__law_board, b__law_board, G__law_board⟩ := ok__law_board (P := P) (w := w) (base := base) T
  obtain ⟨fd__law_due, kp__law_due, b__law_due, G__law_due⟩ := ok__law_due (P := P) (w := w) (base := base) T
  obtain ⟨fd__law_told, kp__law_told, b__law_told, G__law_told⟩ := ok__law_told (P := P) (w := w) (base := base) T
  obtain ⟨fd_bk_init, kp_bk_init, b_bk_init, G_bk_init⟩ := ok_bk_init (P := P) (w := w) (base := base) T
  refine F.ok sc_law (fun vs H Q E h => ?_) (fun cdv A outer s H vs Q E hr h => ?_)
  · obtain ⟨v_script, script, rfl, r_script, hQ⟩ := h
    rfl
  · obtain ⟨v_script, script, rfl, r_script, hQ⟩ := h
    have tk : Takes (cxOf (L2.CX P w) P w K mg base N_law "law" (defScope s_law) (He.ga K "law") cdv A outer s H E) (fun cls d _ H => E cls d H) := takes_of rfl rfl rfl rfl
    refine ⟨_, (by exact (pss_cons (ps_set (i := 1) sc_law.nd rfl (Or.inl rfl) (pe_callS G__law_at (hr.mono (by decide)) rfl T.g__law_at kp__law_at b__law_at (fun σ => passAt tk σ) (pa_cons (pv 0) (pa_cons pe_int pa_nil))))
          (pss_cons (ps_set (i := 2) sc_law.nd rfl (Or.inl rfl) (pe_op op_add pe_int (pe_op op_mod (pv 1) pe_int)))
          (Evl.pss_cut (ps_if (pt_cmpR op_eq (pe_op op_mod (pe_op op_fdivW (pv 1) pe_int) pe_int) pe_int (nomark _)) (pss_one (ps_set (i := 2) sc_law.nd rfl (Or.inl rfl) (pe_op op_add pe_int (pe_op op_mod (pe_op op_fdivW (pv 1) pe_int) pe_int)))) pss_nil)
          (pss_cons (ps_set (i := 3) sc_law.nd rfl (Or.inl rfl) (pe_callS G__law_board (hr.mono (by decide)) rfl T.g__law_board kp__law_board b__law_board (fun σ => passAt tk σ) (pa_cons (pv 0) (pa_cons (pv 2) (pa_cons (pe_op op_mod (pe_op op_fdivW (pv 1) pe_int) pe_int) pa_nil)))))
          (pss_cons (ps_set (i := 4) sc_law.nd rfl (Or.inl rfl) (pe_callTy call_list_of rfl T.f_list (by decide +kernel) (pa_cons (pv 3) pa_nil)))
          (pss_cons (ps_set (i := 5) sc_law.nd rfl (Or.inl rfl) (pe_mkS T.mk_bk G_bk_init (hr.mono (by decide)) rfl T.g_bk b_bk_init (fun σ => passAt tk σ) (pa_cons (pv 4) pa_nil)))
          (pss_cons (ps_asg (pe_op op_add (pe_ix ix_list (pv 4) pe_int (fun _ _ => rfl)) pe_int) (pg_sub (pv 4) pe_int set_list))
          (pss_cons (ps_set (i := 6) sc_law.nd rfl (Or.inl rfl) (pe_lst (pa_cons (pe_callTy call_list_of rfl T.f_list (by decide +kernel) (pa_cons (pv 3) pa_nil)) pa_nil)))
          (pss_cons (ps_set (i := 7) sc_law.nd rfl (Or.inl rfl) (pe_lst pa_nil))
          (pss_cons (ps_set (i := 8) sc_law.nd rfl (Or.inl rfl) (pe_lst pa_nil))
          (pss_cons (ps_for (passes_of rfl) rfl (pi_list (pe_slice sl_list (pv 0) po_none (po_some pe_int))) (pg_name (i := 9) sc_law.nd rfl (Or.inl rfl)) (pss_cons (ps_set (i := 10) sc_law.nd rfl (Or.inl rfl) (pe_ix ix_list (pe_lst (pa_cons pe_int (pa_cons pe_int (pa_cons pe_int (pa_cons pe_int (pa_cons pe_int (pa_cons pe_int (pa_cons pe_int pa_nil)))))))) (pe_op op_mod (pv 9) pe_int) (fun _ _ => rfl)))
          (pss_cons (ps_set (i := 11) sc_law.nd rfl (Or.inl rfl) (pe_op op_mod (pe_op op_fdivW (pv 9) pe_int) (pv 2)))
          (Evl.pss_cut (ps_if (pt_cmpR op_eq (pe_op op_mod (pe_op op_fdivW (pv 9) pe_int) pe_int) pe_int (nomark _)) (pss_cons (ps_set (i := 12) sc_law.nd rfl (Or.inl rfl) (pe_op op_mod (pe_op op_fdivW (pv 9) pe_int) (pe_op op_pow pe_int pe_int)))
          (pss_one (ps_set (i := 11) sc_law.nd rfl (Or.inl rfl) (pe_ix ix_list (pe_lst (pa_cons (pe_un un_neg pe_int) (pa_cons (pv 2) (pa_cons (pe_op op_sub (pe_un un_neg pe_int) (pv 12)) (pa_cons (pe_op op_add (pv 2) (pv 12)) pa_nil))))) (pe_op op_mod (pv 12) pe_int) (fun _ _ => rfl))))) pss_nil)
          (pss_cons (ps_set (i := 13) sc_law.nd rfl (Or.inl rfl) (pe_callS G__law_due (hr.mono (by decide)) rfl T.g__law_due kp__law_due b__law_due (fun σ => passAt tk σ) (pa_cons (pv 6) (pa_cons (pv 7) (pa_cons (pv 8) (pa_cons (pv 10) (pa_cons (pv 11) pa_nil)))))))
          (pss_cons (ps_set (i := 14) sc_law.nd rfl (Or.inl rfl) (pe_callS G__law_told (hr.mono (by decide)) rfl T.g__law_told kp__law_told b__law_told (fun σ => passAt tk σ) (pa_cons (pv 5) (pa_cons (pv 10) (pa_cons (pv 11) pa_nil)))))
          (pss_one (ps_if (PW.pt (pw_or (pt_val (pe_callB call_isi rfl T.f_isinstance (by decide +kernel) (pa_cons (pv 14) (pa_cons (pe_bltn (v := .ty "bool") rfl T.f_bool (by rfl) rfl) pa_nil)))) (pw_or (pt_cmpR (op_neP hr.units) (pv 14) (pv 13) (nomark _)) (pw_or1 (pt_not (pt_val (pe_callS G__law_as_kept (hr.mono (by decide)) rfl T.g__law_as_kept kp__law_as_kept b__law_as_kept (fun σ => passAt tk σ) (pa_cons (pv 5) (pa_cons (pv 6) (pa_cons (pv 7) (pa_cons (pe_op op_fdivW (pv 9) pe_int) pa_nil))))))))))) (pss_one (ps_ret pe_bl)) pss_nil))))))))
          (pss_one (ps_ret (pe_callS G__law_as_kept (hr.mono (by decide)) rfl T.g__law_as_kept kp__law_as_kept b__law_as_kept (fun σ => passAt tk σ) (pa_cons (pv 5) (pa_cons (pv 6) (pa_cons (pv 7) (pa_cons (pe_op op_fdivW (pv 1) pe_int) pa_nil))))))))))))))))))), ?_⟩
    unfold m_law at hQ
    first | with_reducible refine st_n ?_ | skip
    refine st_seq ?_
    refine s_asg ?_ (Same.refl _) (Same.refl _) hQ ?_
    · exact (g_sc (F' := H) (g_call2 (ma := .ok script) (mb := .ok (0 : Int)) (g_var (a := script) (Rp.mono (Same.refl _) r_script) (Same.refl _)) g_int))
    intro head v5 F2 H3 nx1 e04 r6 hQ
    replace r_script := Rp.mono nx1.ff r_script
    have hF7 := nx1.fh
    obtain rfl : v5 = V.int head := r6
    first | with_reducible refine st_n ?_ | skip
    refine st_seq ?_
    refine s_asg ?_ hF7 e04 hQ ?_
    · exact (g_sc (F' := H3) (g_i0 g_int (g_modL (by decide +kernel) (g_var (a := head) rfl (Same.refl _)) g_int)))
    intro pits v12 F9 H10 nx8 e011 r13 hQ
    replace r_script := Rp.mono nx8.ff r_script
    have hF14 := nx8.fh
    obtain rfl : v12 = V.int pits := r13
    first | with_reducible refine st_n ?_ | skip
    replace hQ := wp_bdi hQ
    refine s_cutW (I := fun (pits : Int) σ23 H22 => ∃ (F19 : Hp), σ23 = [some v_script, some (.int head), some (.int pits), none, none, none, none, none, none, none, none, none, none, none, none] ∧ Nx (fun _ => False) F9 H10 F19 H22 ∧ Same H H22) (hQ := hQ) ?_ ?_
    · intro hQ
      have nA25 : Nx (fun _ => False) F9 H10 F9 H10 := Nx.refl' hF14
      refine s_if ?_ hF14 e011 hQ ?_ ?_
      · exact (t_test (F := H10) (g_eq (g_modL (by decide +kernel) (g_divL (by decide +kernel) (g_var (a := head) rfl (Same.refl _)) g_int) g_int) g_int))
      · intro F16 H17 nx15 e018 hQ
        replace hQ := if_t hQ
        replace r_script := Rp.mono nx15.ff r_script
        replace nA25 := nA25.step0 nx15
        have hF26 := nx15.fh
        first | with_reducible refine st_n ?_ | skip
        refine s_asg ?_ hF26 e018 hQ ?_
        · exact (g_sc (F' := H17) (g_i0 g_int (g_modL (by decide +kernel) (g_divL (by decide +kernel) (g_var (a := head) rfl (Same.refl _)) g_int) g_int)))
        intro pits v32 F29 H30 nx28 e031 r33 hQ
        replace r_script := Rp.mono nx28.ff r_script
        replace nA25 := nA25.step0 nx28
        have hF34 := nx28.fh
        obtain rfl : v32 = V.int pits := r33
        exact ⟨pits, ⟨_, rfl, nA25, e031⟩, hQ⟩
      intro F16 H17 nx15 e018 hQ
      replace hQ := if_f hQ
      refine st_next ?_
      replace r_script := Rp.mono nx15.ff r_script
      replace nA25 := nA25.step0 nx15
      have hF27 := nx15.fh
      exact ⟨pits, ⟨_, rfl, nA25, e018⟩, hQ⟩
    rintro pits σ9 H22 hI hQ
    obtain ⟨F19, rfl, nL20, e021⟩ := hI
    have r_script := Rp.mono nL20.ff r_script
    have hF24 := nL20.fh
    first | with_reducible refine st_n ?_ | skip
    refine st_seq ?_
    refine s_asg ?_ hF24 e021 hQ ?_
    · exact (g_call3 (ma := .ok script) (mb := .ok pits) (mc := .ok ((head / (720 : Int)) % (4 : Int))) (g_var (a := script) (Rp.mono hF24 r_script) (Same.refl _)) (g_var (a := pits) rfl (Same.refl _)) (g_modL (by decide +kernel) (g_divL (by decide +kernel) (g_var (a := head) rfl (Same.refl _)) g_int) g_int))
    intro first v39 F36 H37 nx35 e038 r40 hQ
    replace r_script := Rp.mono nx35.ff r_script
    have hF41 := nx35.fh
    first | with_reducible refine st_n ?_ | skip
    refine st_seq ?_
    refine s_asgI (b := false) ?_ hF41 e038 hQ ?_
    · exact (g_listI (g_var (a := first) (Rp.mono hF41 r40) (Same.refl _)))
    intro handed p47 F43 H44 nx42 e045 o46 nw48 hQ
    replace r_script := Rp.mono nx42.ff r_script
    replace r40 := Rp.mono nx42.ff r40
    have hF49 := nx42.fh
    first | with_reducible refine st_n ?_ | skip
    refine st_seq ?_
    refine s_asgBk (m := m_bk_init m_ask_board handed) ?_ hF49 e045 hQ ?_
    · exact (gx_mk (ma := .ok handed) (g_var (a := handed) (o46.rep hF49) (Same.refl _)))
    intro book v54 F51 H52 SS55 nx50 e053 A56 hn57 ha58 hQ
    have d59 : ¬ SS55 p47 := ap_no hn57 o46.there
    replace r_script := Rp.mono nx50.ff r_script
    replace r40 := Rp.mono nx50.ff r40
    replace o46 := o46.nx0 nx50
    have hF60 := nx50.fh
    first | with_reducible refine st_n ?_ | skip
    refine st_seq ?_
    refine s_set (m := R.bd (idx handed (0 : Int)) fun (t61 : Int) => .ok (t61 + (1 : Int))) (mi := .ok (0 : Int)) ?ha o46 ?he ?hi hF60 e053 hQ ?_
    case ha => exact at_var rfl
    case he => exact (g_sc (F' := H52) (g_i0 (g_idx (g_var (a := handed) (o46.rep hF60) (Same.refl _)) g_int (Same.refl _)) g_int))
    case hi => exact g_int
    intro handed F64 H65 nx63 e066 o2 hQ
    replace A56 := A56.nx nx63 (fun q => fun z => by rw [z]; exact d59) (fun q => fun z => by rw [z]; exact o46.nt)
    replace ha58 := al_nx nx63 ha58
    replace r_script := Rp.mono nx63.ff r_script
    replace r40 := Rp.mono nx63.ff r40
    have hF67 := nx63.fh
    replace o46 := o2
    first | with_reducible refine st_n ?_ | skip
    refine st_seq ?_
    refine s_asgL (b := false) (m := .ok [first]) ?_ hF67 e066 hQ ?_
    · exact (a_cons (g_listI (g_var (a := first) (Rp.mono hF67 r40) (Same.refl _))) a_nil)
    intro boards p73 F69 H70 nx68 e071 o72 nw74 hQ
    have d75 : p47 ≠ p73 := nw74 p47 o46.there
    have d76 : ¬ SS55 p73 := ap_nw ha58 nw74
    replace A56 := A56.nx0 nx68
    replace ha58 := al_nx nx68 ha58
    replace r_script := Rp.mono nx68.ff r_script
    replace r40 := Rp.mono nx68.ff r40
    replace o46 := o46.nx0 nx68
    have hF77 := nx68.fh
    first | with_reducible refine st_n ?_ | skip
    refine st_seq ?_
    refine s_asgI (b := false) ?_ hF77 e071 hQ ?_
    · exact (g_lstK a_nil (Nat.le_of_ble_eq_true rfl))
    intro deeds p83 F79 H80 nx78 e081 o82 nw84 hQ
    have d85 : p47 ≠ p83 := nw84 p47 o46.there
    have d86 : p73 ≠ p83 := nw84 p73 o72.there
    have d87 : ¬ SS55 p83 := ap_nw ha58 nw84
    replace A56 := A56.nx0 nx78
    replace ha58 := al_nx nx78 ha58
    replace r_script := Rp.mono nx78.ff r_script
    replace r40 := Rp.mono nx78.ff r40
    replace o46 := o46.nx0 nx78
    replace o72 := o72.nx0 nx78
    have hF88 := nx78.fh
    first | with_reducible refine st_n ?_ | skip
    refine st_seq ?_
    refine s_asgL (b := false) (m := .ok ([] : List ((T3 Str Int Int) × (List Int)))) ?_ hF88 e081 hQ ?_
    · exact a_nil
    intro gone p94 F90 H91 nx89 e092 o93 nw95 hQ
    have d96 : p47 ≠ p94 := nw95 p47 o46.there
    have d97 : p73 ≠ p94 := nw95 p73 o72.there
    have d98 : p83 ≠ p94 := nw95 p83 o82.there
    have d99 : ¬ SS55 p94 := ap_nw ha58 nw95
    replace A56 := A56.nx0 nx89
    replace ha58 := al_nx nx89 ha58
    replace r_script := Rp.mono nx89.ff r_script
    replace r40 := Rp.mono nx89.ff r40
    replace o46 := o46.nx0 nx89
    replace o72 := o72.nx0 nx89
    replace o82 := o82.nx0 nx89
    have hF100 := nx89.fh
    first | with_reducible refine st_n ?_ | skip
    refine st_seq ?_
    refine s_for ?_ hF100 e092 hQ ?_
    · exact (i_list (g_cutSS (g_var (a := script) (Rp.mono hF100 r_script) (Same.refl _)) o_no (o_some (F := H91) g_int)) hF100)
    intro xs105 J106 F102 H103 nx101 e0104 ok107 hQ
    replace A56 := A56.nx0 nx101
    replace ha58 := al_nx nx101 ha58
    replace r_script := Rp.mono nx101.ff r_script
    replace r40 := Rp.mono nx101.ff r40
    replace o46 := o46.nx0 nx101
    replace o72 := o72.nx0 nx101
    replace o82 := o82.nx0 nx101
    replace o93 := o93.nx0 nx101
    have hF109 := nx101.fh
    replace hQ := wp_bdi hQ
    refine for_Rd ok107 (fun (st : (List (List Int)) × (List (T3 Str Int Int)) × (List ((T3 Str Int Int) × (List Int))) × Bk) σ114 H113 => match st with | (boards, deeds, gone, book) => ∃ (F110 : Hp) (SS119 : Addr → Prop) (j126 : Option V) (j127 : Option V) (j128 : Option V) (j129 : Option V) (j130 : Option V) (j131 : Option V), σ114 = [some v_script, some (.int head), some (.int pits), some v39, some (.ref p47), some v54, some (.ref p73), some (.ref p83), some (.ref p94), j131, j126, j127, j128, j129, j130] ∧ Nx (fun q => q = p73 ∨ q = p83 ∨ q = p94 ∨ (SS55 q ∧ tupB (H103 q) = false) ∨ False) F102 H103 F110 H113 ∧ Same H H113 ∧ Own K H false F110 H113 p73 boards ∧ Own K H false F110 H113 p83 deeds ∧ Own K H false F110 H113 p94 gone ∧ ApO K H F110 H113 SS119 v54 book ∧ (∀ q, SS119 q → H113 q ≠ none) ∧ (∀ q, SS119 q → SS55 q ∨ H103 q = none) ∧ ¬ SS119 p47 ∧ ¬ SS119 p73 ∧ ¬ SS119 p83 ∧ ¬ SS119 p94) ?hku227 ?h0u227 hQ ?doneu227 ?turnu227
    case hku227 =>
      intro st σ9 H113 hI
      obtain ⟨boards, deeds, gone, book⟩ := st
      obtain ⟨F110, SS119, j126, j127, j128, j129, j130, j131, rfl, nL111, e0112, o115, o116, o117, A118, ha120, c121, d122, d123, d124, d125⟩ := hI
      exact nL111.ff.trans nL111.fh
    case h0u227 =>
      exact ⟨_, _, _, _, _, _, _, _, rfl, (Nx.refl' hF109), e0104, o72, o82, o93, A56, ha58, (fun q z => .inl z), d59, d76, d87, d99⟩
    case turnu227 =>
      intro cell l135 st v136 σ9 H113 H137 hI e138 rx139 hd144 hQ
      obtain ⟨boards, deeds, gone, book⟩ := st
      obtain ⟨F110, SS119, j126, j127, j128, j129, j130, j131, rfl, nL111, e0112, o115, o116, o117, A118, ha120, c121, d122, d123, d124, d125⟩ := hI
      have r_script := Rp.mono nL111.ff r_script
      have r40 := Rp.mono nL111.ff r40
      have o46 := o46.nx nL111 (fun z => (fun z => Or.elim z (fun z => d75 z) (fun z => Or.elim z (fun z => d85 z) (fun z => Or.elim z (fun z => d96 z) (fun z => Or.elim z (fun z => d59 z.1) (fun z => z.elim))))) z)
      have hF132 := nL111.fh
      have nA133 := nL111
      have nx140 : Nx0 F110 H113 (mix F110 H113 H137) H137 := Nx.mk' hF132 e138
      have e0142 := e0112.trans e138
      replace A118 := A118.nx0 nx140
      replace ha120 := al_nx nx140 ha120
      replace r_script := Rp.mono nx140.ff r_script
      replace r40 := Rp.mono nx140.ff r40
      replace o46 := o46.nx0 nx140
      replace o115 := o115.nx0 nx140
      replace o116 := o116.nx0 nx140
      replace o117 := o117.nx0 nx140
      replace nA133 := nA133.step0 nx140
      have hF143 := nx140.fh
      refine gn ?_
      obtain rfl : v136 = V.int cell := rx139
      first | with_reducible refine st_n ?_ | skip
      refine st_seq ?_
      refine s_asg ?_ hF143 e0142 hQ ?_
      · exact (g_sc (F' := H137) (g_idx (g_lstK (a_cons g_int (a_cons g_int (a_cons g_int (a_cons g_int (a_cons g_int (a_cons g_int (a_cons g_int a_nil))))))) (Nat.le_of_ble_eq_true rfl)) (g_modL (by decide +kernel) (g_var (a := cell) rfl (Same.refl _)) g_int) (Same.refl _)))
      intro way v149 F146 H147 nx145 e0148 r150 hQ
      replace A118 := A118.nx0 nx145
      replace ha120 := al_nx nx145 ha120
      replace r_script := Rp.mono nx145.ff r_script
      replace r40 := Rp.mono nx145.ff r40
      replace o46 := o46.nx0 nx145
      replace o115 := o115.nx0 nx145
      replace o116 := o116.nx0 nx145
      replace o117 := o117.nx0 nx145
      replace nA133 := nA133.step0 nx145
      have hF151 := nx145.fh
      obtain rfl : v149 = V.int way := r150
      first | with_reducible refine st_n ?_ | skip
      refine st_seq ?_
      refine s_asg ?_ hF151 e0148 hQ ?_
      · exact (g_sc (F' := H147) (g_mod (g_divL (by decide +kernel) (g_var (a := cell) rfl (Same.refl _)) g_int) (g_var (a := pits) rfl (Same.refl _))))
      intro pit v156 F153 H154 nx152 e0155 r157 hQ
      replace A118 := A118.nx0 nx152
      replace ha120 := al_nx nx152 ha120
      replace r_script := Rp.mono nx152.ff r_script
      replace r40 := Rp.mono nx152.ff r40
      replace o46 := o46.nx0 nx152
      replace o115 := o115.nx0 nx152
      replace o116 := o116.nx0 nx152
      replace o117 := o117.nx0 nx152
      replace nA133 := nA133.step0 nx152
      have hF158 := nx152.fh
      obtain rfl : v156 = V.int pit := r157
      first | with_reducible refine st_n ?_ | skip
      replace hQ := wp_bdi hQ
      refine s_cutW (I := fun (pit : Int) σ167 H166 => ∃ (F163 : Hp) (j168 : Option V), σ167 = [some v_script, some (.int head), some (.int pits), some v39, some (.ref p47), some v54, some (.ref p73), some (.ref p83), some (.ref p94), some (.int cell), some (.int way), some (.int pit), j168, j129, j130] ∧ Nx (fun _ => False) F153 H154 F163 H166 ∧ Same H H166) (hQ := hQ) ?_ ?_
      · intro hQ
        have nA170 : Nx (fun _ => False) F153 H154 F153 H154 := Nx.refl' hF158
        refine s_if ?_ hF158 e0155 hQ ?_ ?_
        · exact (t_test (F := H154) (g_eq (g_modL (by decide +kernel) (g_divL (by decide +kernel) (g_var (a := cell) rfl (Same.refl _)) g_int) g_int) g_int))
        · intro F160 H161 nx159 e0162 hQ
          replace hQ := if_t hQ
          replace A118 := A118.nx0 nx159
          replace ha120 := al_nx nx159 ha120
          replace r_script := Rp.mono nx159.ff r_script
          replace r40 := Rp.mono nx159.ff r40
          replace o46 := o46.nx0 nx159
          replace o115 := o115.nx0 nx159
          replace o116 := o116.nx0 nx159
          replace o117 := o117.nx0 nx159
          replace nA133 := nA133.step0 nx159
          replace nA170 := nA170.step0 nx159
          have hF171 := nx159.fh
          first | with_reducible refine st_n ?_ | skip
          refine st_seq ?_
          refine s_asg ?_ hF171 e0162 hQ ?_
          · exact (g_sc (F' := H161) (g_modL (by decide +kernel) (g_divL (by decide +kernel) (g_var (a := cell) rfl (Same.refl _)) g_int) (g_pow (by decide))))
          intro far v177 F174 H175 nx173 e0176 r178 hQ
          replace A118 := A118.nx0 nx173
          replace ha120 := al_nx nx173 ha120
          replace r_script := Rp.mono nx173.ff r_script
          replace r40 := Rp.mono nx173.ff r40
          replace o46 := o46.nx0 nx173
          replace o115 := o115.nx0 nx173
          replace o116 := o116.nx0 nx173
          replace o117 := o117.nx0 nx173
          replace nA133 := nA133.step0 nx173
          replace nA170 := nA170.step0 nx173
          have hF179 := nx173.fh
          obtain rfl : v177 = V.int far := r178
          first | with_reducible refine st_n ?_ | skip
          refine s_asg ?_ hF179 e0176 hQ ?_
          · exact (g_sc (F' := H175) (g_idx (g_lstK (a_cons (g_neg g_int) (a_cons (g_var (a := pits) rfl (Same.refl _)) (a_cons (g_i0 (g_neg g_int) (g_var (a := far) rfl (Same.refl _))) (a_cons (g_i0 (g_var (a := pits) rfl (Same.refl _)) (g_var (a := far) rfl (Same.refl _))) a_nil)))) (Nat.le_of_ble_eq_true rfl)) (g_modL (by decide +kernel) (g_var (a := far) rfl (Same.refl _)) g_int) (Same.refl _)))
          intro pit v184 F181 H182 nx180 e0183 r185 hQ
          replace A118 := A118.nx0 nx180
          replace ha120 := al_nx nx180 ha120
          replace r_script := Rp.mono nx180.ff r_script
          replace r40 := Rp.mono nx180.ff r40
          replace o46 := o46.nx0 nx180
          replace o115 := o115.nx0 nx180
          replace o116 := o116.nx0 nx180
          replace o117 := o117.nx0 nx180
          replace nA133 := nA133.step0 nx180
          replace nA170 := nA170.step0 nx180
          have hF186 := nx180.fh
          obtain rfl : v184 = V.int pit := r185
          exact ⟨pit, ⟨_, _, rfl, nA170, e0183⟩, hQ⟩
        intro F160 H161 nx159 e0162 hQ
        replace hQ := if_f hQ
        refine st_next ?_
        replace A118 := A118.nx0 nx159
        replace ha120 := al_nx nx159 ha120
        replace r_script := Rp.mono nx159.ff r_script
        replace r40 := Rp.mono nx159.ff r40
        replace o46 := o46.nx0 nx159
        replace o115 := o115.nx0 nx159
        replace o116 := o116.nx0 nx159
        replace o117 := o117.nx0 nx159
        replace nA133 := nA133.step0 nx159
        replace nA170 := nA170.step0 nx159
        have hF172 := nx159.fh
        exact ⟨pit, ⟨_, _, rfl, nA170, e0162⟩, hQ⟩
      rintro pit σ9 H166 hI hQ
      obtain ⟨F163, j168, rfl, nL164, e0165⟩ := hI
      have A118 := A118.nx nL164 (fun q => fun z => z.elim) (fun q => fun z => z.elim)
      have ha120 := al_nx nL164 ha120
      have r_script := Rp.mono nL164.ff r_script
      have r40 := Rp.mono nL164.ff r40
      have o46 := o46.nx nL164 (fun z => z)
      have o115 := o115.nx nL164 (fun z => z)
      have o116 := o116.nx nL164 (fun z => z)
      have o117 := o117.nx nL164 (fun z => z)
      have hF169 := nL164.fh
      have nA133 := nA133.step0 nL164
      first | with_reducible refine st_n ?_ | skip
      refine st_seq ?_
      refine s_asgM (m := m__law_due boards deeds gone way pit) (g_M__law_due (m0 := .ok way) (g_var (a := way) rfl hF169) (m1 := .ok pit) (g_var (a := pit) rfl hF169) o115 o116 o117 d86 d97 d98 hF169 e0165) hQ ?_
      intro due s194 v187 F188 H189 nx190 e0191 j192 r193 hQ
      obtain ⟨boards, deeds, gone⟩ := s194
      obtain ⟨o195, o196, o197⟩ := j192
      replace A118 := A118.nx nx190 (fun q => fun z => Or.elim z (fun z => by rw [z]; exact d123) (fun z => Or.elim z (fun z => by rw [z]; exact d124) (fun z => Or.elim z (fun z => by rw [z]; exact d125) (fun z => z.elim)))) (fun q => fun z => Or.elim z (fun z => by rw [z]; exact o115.nt) (fun z => Or.elim z (fun z => by rw [z]; exact o116.nt) (fun z => Or.elim z (fun z => by rw [z]; exact o117.nt) (fun z => z.elim))))
      replace ha120 := al_nx nx190 ha120
      replace r_script := Rp.mono nx190.ff r_script
      replace r40 := Rp.mono nx190.ff r40
      replace o46 := o46.nx nx190 (fun z => by rcases z with z | z | z | z <;> first | exact z | exact absurd z d75 | exact absurd z d85 | exact absurd z d96)
      replace nA133 := nA133.step nx190 (fun q => fun z => Or.elim z (fun z => (.inl (.inl z))) (fun z => Or.elim z (fun z => (.inl (.inr (.inl z)))) (fun z => Or.elim z (fun z => (.inl (.inr (.inr (.inl z))))) (fun z => z.elim))))
      have hF198 := nx190.fh
      replace o115 := o195
      replace o116 := o196
      replace o117 := o197
      first | with_reducible refine st_n ?_ | skip
      refine st_seq ?_
      refine s_asgM (m := m__law_told book way pit) (g_B__law_told (m0 := .ok way) (g_var (a := way) rfl hF198) (m1 := .ok pit) (g_var (a := pit) rfl hF198) A118 (atv_v rfl) hF198 e0191) hQ ?_
      intro told book v204 F199 H200 nx201 e0202 j203 r205 hQ
      obtain ⟨SS206, A207, hs209⟩ := j203
      have ha208 := fun q z => (hs209 q z).2
      have d210 : ¬ SS206 p47 := bk_apart o46 d122 hs209
      have d211 : ¬ SS206 p73 := bk_apart o115 d123 hs209
      have d212 : ¬ SS206 p83 := bk_apart o116 d124 hs209
      have d213 : ¬ SS206 p94 := bk_apart o117 d125 hs209
      have c214 := fun q (z : SS206 q) => (hs209 q z).1.elim (fun u => (c121 q u : SS55 q ∨ H103 q = none)) (fun u => .inr (nA133.bk u))
      replace r_script := Rp.mono nx201.ff r_script
      replace r40 := Rp.mono nx201.ff r40
      replace o46 := o46.nx nx201 (fun z => (fun z => Or.elim z (fun z => d122 z.1) (fun z => z.elim)) z)
      replace o115 := o115.nx nx201 (fun z => (fun z => Or.elim z (fun z => d123 z.1) (fun z => z.elim)) z)
      replace o116 := o116.nx nx201 (fun z => (fun z => Or.elim z (fun z => d124 z.1) (fun z => z.elim)) z)
      replace o117 := o117.nx nx201 (fun z => (fun z => Or.elim z (fun z => d125 z.1) (fun z => z.elim)) z)
      replace r193 := Rp.mono nx201.ff r193
      replace nA133 := nA133.step nx201 (fun q => fun z => Or.elim z (fun z => ((c121 _ z.1).elim (fun u => (ap_in nA133 u z.2).imp (fun w => .inr (.inr (.inr (.inl w)))) id) .inr)) (fun z => z.elim))
      have hF215 := nx201.fh
      first | with_reducible refine st_n ?_ | skip
      refine s_if ?_ hF215 e0202 hQ ?_ ?_
      · exact (t_or (t_B (F := H200) (g_isiDy (k := 1) (n := "bool") (g_var (a := told) (Rp.mono hF215 r205) (Same.refl _)) (Same.refl _))) (t_or (t_test (F := H200) (g_neDy (g_var (a := told) (Rp.mono hF215 r205) (Same.refl _)) (g_var (a := due) (Rp.mono hF215 r193) (Same.refl _)) (Same.refl _))) (t_not (t_B (F := H200) (g_call4 (ma := .ok book) (mb := .ok boards) (mc := .ok deeds) (md := .ok (cell / (3 : Int))) (g_var (a := book) A207.see (Same.refl _)) (g_var (a := boards) (o115.rep hF215) (Same.refl _)) (g_var (a := deeds) (o116.rep hF215) (Same.refl _)) (g_divL (by decide +kernel) (g_var (a := cell) rfl (Same.refl _)) g_int))))))
      · intro F219 H220 nx218 e0221 hQ
        replace hQ := if_t hQ
        replace A207 := A207.nx0 nx218
        replace ha208 := al_nx nx218 ha208
        replace r_script := Rp.mono nx218.ff r_script
        replace r40 := Rp.mono nx218.ff r40
        replace o46 := o46.nx0 nx218
        replace o115 := o115.nx0 nx218
        replace o116 := o116.nx0 nx218
        replace o117 := o117.nx0 nx218
        replace r193 := Rp.mono nx218.ff r193
        replace r205 := Rp.mono nx218.ff r205
        replace nA133 := nA133.step0 nx218
        have hF222 := nx218.fh
        first | with_reducible refine st_n ?_ | skip
        refine s_ret ?_ e0221 hQ (fun a h => h)
        exact (g_sc (F' := H220) g_bl)
      intro F219 H220 nx218 e0221 hQ
      replace hQ := if_f hQ
      refine st_next ?_
      replace A207 := A207.nx0 nx218
      replace ha208 := al_nx nx218 ha208
      replace r_script := Rp.mono nx218.ff r_script
      replace r40 := Rp.mono nx218.ff r40
      replace o46 := o46.nx0 nx218
      replace o115 := o115.nx0 nx218
      replace o116 := o116.nx0 nx218
      replace o117 := o117.nx0 nx218
      replace r193 := Rp.mono nx218.ff r193
      replace r205 := Rp.mono nx218.ff r205
      replace nA133 := nA133.step0 nx218
      have hF223 := nx218.fh
      exact ⟨(boards, deeds, gone, book), ⟨_, _, _, _, _, _, _, _, rfl, nA133, e0221, o115, o116, o117, A207, ha208, c214, d210, d211, d212, d213⟩, hQ⟩
    case doneu227 =>
      intro st σ9 H113 hI hQ
      replace hQ := flk_go hQ
      obtain ⟨boards, deeds, gone, book⟩ := st
      obtain ⟨F110, SS119, j126, j127, j128, j129, j130, j131, rfl, nL111, e0112, o115, o116, o117, A118, ha120, c121, d122, d123, d124, d125⟩ := hI
      have r_script := Rp.mono nL111.ff r_script
      have r40 := Rp.mono nL111.ff r40
      have o46 := o46.nx nL111 (fun z => (fun z => Or.elim z (fun z => d75 z) (fun z => Or.elim z (fun z => d85 z) (fun z => Or.elim z (fun z => d96 z) (fun z => Or.elim z (fun z => d59 z.1) (fun z => z.elim))))) z)
      have hF132 := nL111.fh
      first | with_reducible refine st_n ?_ | skip
      refine s_ret ?_ e0112 hQ (fun a h => h)
      exact (g_sc (F' := H113) (g_call4 (ma := .ok book) (mb := .ok boards) (mc := .ok deeds) (md := .ok (head / (7 : Int))) (g_var (a := book) A118.see (Same.refl _)) (g_var (a := boards) (o115.rep hF132) (Same.refl _)) (g_var (a := deeds) (o116.rep hF132) (Same.refl _)) (g_divL (by decide +kernel) (g_var (a := head) rfl (Same.refl _)) g_int)))

end
end G

set_option Elab.async false
set_option linter.all false
set_option maxRecDepth 100000
set_option maxHeartbeats 4000000
/-! boards that come again -/
namespace G
open PySem L2
/-- e is the nearest before l with the same board -/
def Pr (bs : List (List Int)) (e l : Nat) : Prop := e < l ∧ l < bs.length ∧ bs[e]? = bs[l]? ∧ ∀ k, e < k → k < l → bs[k]? ≠ bs[l]?
def le2 (a b : Int × Int) : Bool := !Od.lt b a
theorem le2_iff {a b : Int × Int} : le2 a b = true ↔ a.1 < b.1 ∨ (a.1 = b.1 ∧ a.2 ≤ b.2) := by
  unfold le2
  have : Od.lt b a = ltP b a := rfl
  rw [this]
  unfold ltP
  have e1 : ∀ x y : Int, Od.lt x y = decide (x < y) := fun _ _ => rfl
  simp only [e1]
  by_cases c : b.1 = a.1
  · simp [c]
    intro h
    omega
  · simp [c]
    omega
theorem le2_tr (a b c : Int × Int) (h : le2 a b = true) (g : le2 b c = true) : le2 a c = true := by
  rw [le2_iff] at *
  omega
theorem le2_tot (a b : Int × Int) : (le2 a b || le2 b a) = true := by
  rw [Bool.or_eq_true, le2_iff, le2_iff]
  omega
theorem le2_anti {a b : Int × Int} (h : le2 a b = true) (g : le2 b a = true) : a = b := by
  rw [le2_iff] at *
  obtain ⟨a1, a2⟩ := a
  obtain ⟨b1, b2⟩ := b
  simp only [Prod.mk.injEq]
  simp only at h g
  omega
/-- what is told is the sorted list of the pairs -/
structure Ag (bs : List (List Int)) (z : List (Int × Int)) : Prop where
  so : z.Pairwise fun a b => le2 a b = true
  nd : z.Nodup
  mem : ∀ p, p ∈ z ↔ ∃ e l : Nat, Pr bs e l ∧ p = ((e : Int), (l : Int))
  ln : z.length ≤ 1000 * 1000
theorem Ag.same {bs : List (List Int)} {y z : List (Int × Int)} (h : Ag bs y) (g : Ag bs z) : y = z :=
  List.Perm.eq_of_pairwise (le := fun a b => le2 a b = true) (fun _ _ _ _ h g => le2_anti h g) h.so g.so ((List.perm_ext_iff_of_nodup h.nd g.nd).mpr fun p => (h.mem p).trans (g.mem p).symm)
theorem ok_sort2 (xs : List (Int × Int)) : okSort xs := .inl fun d hd => by
  obtain ⟨x, _, rfl⟩ := List.mem_map.mp hd
  exact ⟨_, _, rfl⟩
theorem came_ok {b : Bk} (h : b.boards.length ≤ 1000) : Ok (m_bk_came_again b) (Ag b.boards) := by
  generalize hb : b.boards = bs at h
  unfold m_bk_came_again
  rw [hb, bd_ok, rng1_ok (by omega) (by omega), bd_ok]
  refine ok_bd (ok_forS (fun i (found : List (Int × Int)) => (∀ p, p ∈ found ↔ ∃ e l : Nat, l < i ∧ Pr bs e l ∧ p = ((e : Int), (l : Int))) ∧ found.Nodup ∧ found.length ≤ i) ⟨fun p => ⟨fun z => (by cases z), fun ⟨_, l, z, _⟩ => by omega⟩, .nil, Nat.le_refl _⟩ ?_) ?_
  · rintro i x found hx ⟨f1, f2, f3⟩
    obtain ⟨rfl, x2⟩ := rngL_at hx
    have lt : i < bs.length := by omega
    have ql := List.getElem?_eq_getElem (l := bs) (i := i) lt
    generalize bs[i] = B at ql
    have il : idx bs (0 + (i : Int)) = .ok B := by rw [Int.zero_add]; exact idx_nat ql
    rw [bd_ok]
    refine ok_bd (ok_whileS (fun (z : Int) => ∃ k : Nat, z = (k : Int) - 1 ∧ k ≤ i ∧ ∀ j, k ≤ j → j < i → bs[j]? ≠ bs[i]?) (fun z => (z + 1).toNat) (fun z => ∃ k : Nat, z = (k : Int) - 1 ∧ k ≤ i ∧ (∀ j, k ≤ j → j < i → bs[j]? ≠ bs[i]?) ∧ (k = 0 ∨ bs[k - 1]? = bs[i]?)) fuel _ ⟨i, by omega, Nat.le_refl _, fun j a b => by omega⟩ (by rw [fuel_eq]; omega) ?_) ?_
    · rintro _ ⟨k, rfl, k1, k2⟩
      by_cases c : k = 0
      · rw [dF (by omega), if_neg (by decide)]
        exact ok_ret ⟨k, rfl, k1, k2, .inl c⟩
      · have qk := List.getElem?_eq_getElem (l := bs) (i := k - 1) (by omega)
        have ik : idx bs ((k : Int) - 1) = .ok bs[k - 1] := idx_ok (by omega) (by rw [show ((k : Int) - 1).toNat = k - 1 by omega]; exact qk)
        rw [dT (by omega), if_pos rfl, ik, bd_ok, il, bd_ok]
        by_cases d : bs[k - 1] = B
        · rw [dT d]
          exact ok_ret ⟨k, rfl, k1, k2, .inr (by rw [qk, ql, d])⟩
        · rw [dF d]
          refine ok_ret ?_
          show Ok (R.bd (.ok ((k : Int) - 1 - 1)) _) _
          rw [bd_ok]
          refine ok_ret ⟨⟨k - 1, by omega, by omega, fun j a b => ?_⟩, by omega⟩
          by_cases e : j = k - 1
          · rw [e, qk, ql]
            intro z
            injection z with z
            exact d z
          · exact k2 j (by omega) b
    · rintro _ ⟨k, rfl, k1, k2, k3⟩
      rw [bd_ok]
      refine ok_if (fun c => ?_) fun c => ?_
      · rw [appR_ok (by unfold lim; omega), bd_ok]
        have pr : Pr bs (k - 1) i := ⟨by omega, lt, k3.resolve_left (by omega), fun j a b => k2 j (by omega) b⟩
        refine ok_ret ⟨fun p => ?_, ?_, by rw [List.length_append, List.length_singleton]; omega⟩
        · rw [List.mem_append, f1, List.mem_singleton]
          constructor
          · rintro (⟨e, l, a1, a2, a3⟩ | rfl)
            · exact ⟨e, l, by omega, a2, a3⟩
            · exact ⟨k - 1, i, by omega, pr, by rw [Int.zero_add]; congr 1; omega⟩
          · rintro ⟨e, l, a1, a2, rfl⟩
            by_cases z : l < i
            · exact .inl ⟨e, l, z, a2, rfl⟩
            · have : l = i := by omega
              subst this
              have : e = k - 1 := by
                obtain ⟨b1, b2, b3, b4⟩ := a2
                obtain ⟨c1, c2, c3, c4⟩ := pr
                by_cases u : e < k - 1
                · exact absurd c3 (b4 _ u c1)
                · by_cases v : k - 1 < e
                  · exact absurd b3 (c4 _ v b1)
                  · omega
              subst this
              exact .inr (by rw [Int.zero_add]; congr 1; omega)
        · refine List.nodup_append.mpr ⟨f2, List.pairwise_singleton _ _, fun p hp q hq => ?_⟩
          rw [List.mem_singleton] at hq
          rintro rfl
          obtain ⟨e, l, a1, _, a3⟩ := (f1 _).mp hp
          rw [hq] at a3
          injection a3 with _ a4
          omega
      · refine ok_ret ⟨fun p => ?_, f2, by omega⟩
        rw [f1]
        constructor
        · rintro ⟨e, l, a1, a2, a3⟩
          exact ⟨e, l, by omega, a2, a3⟩
        · rintro ⟨e, l, a1, a2, a3⟩
          refine ⟨e, l, ?_, a2, a3⟩
          by_cases z : l = i
          · subst z
            exact absurd a2.2.2.1 (k2 e (by omega) a2.1)
          · omega
  · rintro found ⟨f1, f2, f3⟩
    rw [rngL_len] at f1 f3
    unfold sortR
    rw [gd_pos ⟨by unfold lim; omega, ok_sort2 _⟩, bd_ok]
    have pm := List.mergeSort_perm found fun a b => !Od.lt b a
    refine ok_ret ⟨List.pairwise_mergeSort (le := le2) le2_tr le2_tot found, pm.nodup_iff.mpr f2, fun p => ?_, by rw [pm.length_eq]; omega⟩
    rw [pm.mem_iff, f1]
    constructor
    · rintro ⟨e, l, _, a2, a3⟩
      exact ⟨e, l, a2, a3⟩
    · rintro ⟨e, l, a2, a3⟩
      exact ⟨e, l, by have := a2.2.1; omega, a2, a3⟩
end G

set_option Elab.async false
set_option linter.all false
set_option maxRecDepth 100000
set_option maxHeartbeats 4000000
set_option exponentiation.threshold 10000
namespace G
open PySem L2
/-! the ring game: what a good board is -/
def GB (B : List Int) : Prop := 2 ≤ B.length ∧ B.length ≤ 24 ∧ (∀ x ∈ B, 0 ≤ x) ∧ B.sum ≤ 10 ^ 60
theorem ask_board_ok {B : List Int} (g : GB B) : m_ask_board B = .ok () := by
  obtain ⟨h1, h2, h3, h4⟩ := g
  obtain ⟨m, e, hm⟩ := minR_nn (xs := B) (by intro q; rw [q] at h1; simp at h1) h3
  unfold m_ask_board
  have a : decide ((B.length : Int) < 2) = false := decide_eq_false (by omega)
  have b : decide ((24 : Int) < (B.length : Int)) = false := decide_eq_false (by omega)
  have c : decide (m < 0) = false := decide_eq_false (by omega)
  have d : decide ((10 ^ 60 : Int) < B.sum) = false := decide_eq_false (by omega)
  simp only [R.bd, e, a, b, c, d, Bool.or_false]
  rfl
theorem gb_small {M : List Int} (h0 : 2 ≤ M.length) (h1 : M.length ≤ 24) (h : ∀ x ∈ M, 0 ≤ x ∧ x ≤ (10 ^ 60 - 1) / 24) : GB M := by
  refine ⟨h0, h1, fun x hx => (h x hx).1, ?_⟩
  have := sum_le fun x hx => (h x hx).2
  have h3 : (M.length : Int) * ((10 ^ 60 - 1) / 24) ≤ 24 * ((10 ^ 60 - 1) / 24) := Int.mul_le_mul_of_nonneg_right (by omega) (by decide)
  have h4 : 24 * ((10 ^ 60 - 1) / 24) ≤ (10 ^ 60 : Int) := by decide
  omega
end G

set_option Elab.async false
set_option linter.all false
set_option maxRecDepth 100000
set_option maxHeartbeats 4000000
set_option exponentiation.threshold 10000
namespace G
open PySem L2
theorem folded_ok (ns : List Int) (hl : ns.length ≤ 63) {n : Int} (h0 : 2 ≤ n) (h1 : n ≤ 24) : ∃ N, m__law_folded ⟨ns⟩ n = .ok N ∧ N.length = n.toNat ∧ ∀ x ∈ N, 0 ≤ x ∧ x < 10 ^ 60 := by
  have hz : ((Scr.mk ns).l.length : Int) ≤ 63 := by show (ns.length : Int) ≤ 63; omega
  unfold m__law_folded
  rw [repR_ok (by omega) (by omega), bd_ok, rng2_ok (by omega) (by omega) (by omega) (by omega), bd_ok]
  obtain ⟨M, e, hM⟩ := forS_inv (xs := rngL 1 (ns.length : Int)) (s := List.replicate n.toNat (0 : Int))
    (body := fun (k : Int) (numbers : (List Int)) =>
    R.bd (modR (k - (1 : Int)) n) fun (at_ : Int) =>
  R.bd (R.bd (R.bd (R.bd (R.bd (idx numbers at_) fun (t45 : Int) => .ok (t45 * (31 : Int))) fun (t46 : Int) => R.bd (idx ns k) fun (t47 : Int) => .ok (t46 + t47)) fun (t48 : Int) => .ok (t48 % (10 ^ 60 : Int))) fun (t49 : Int) => setR numbers at_ t49) fun (numbers : List Int) =>
  .ok numbers)
    (fun i M => M.length = n.toNat ∧ ∀ x ∈ M, 0 ≤ x ∧ x < 10 ^ 60)
    ⟨by simp, fun x hx => by rw [(List.mem_replicate.mp hx).2]; decide⟩
    (fun i x M hx ⟨hL, hM⟩ => by
      obtain ⟨rfl, hx2⟩ := rngL_at hx
      have a0 := Int.emod_nonneg (1 + (i : Int) - 1) (show n ≠ 0 by omega)
      have a1 := Int.emod_lt_of_pos (1 + (i : Int) - 1) (show 0 < n by omega)
      rw [modR_ok (by omega), bd_ok]
      generalize (1 + (i : Int) - 1) % n = t at *
      rw [idx_at a0 (by omega), bd_ok, bd_ok, idx_at (xs := ns) (by omega) (by omega), bd_ok, bd_ok, bd_ok, setR_ok a0 (by omega), bd_ok]
      refine ⟨_, rfl, by simp [hL], fun y hy => ?_⟩
      rcases List.mem_or_eq_of_mem_set hy with h | h
      · exact hM y h
      · rw [h]
        exact ⟨Int.emod_nonneg _ (by decide), Int.emod_lt_of_pos _ (by decide)⟩)
  show ∃ N, R.bd (forS _ (rngL 1 (ns.length : Int)) _) _ = .ok N ∧ _
  rw [e]
  exact ⟨M, rfl, hM.1, hM.2⟩
theorem board_ok2 (ns : List Int) (hl : ns.length ≤ 63) {n : Int} (w : Int) (h0 : 2 ≤ n) (h1 : n ≤ 24) : ∃ B, m__law_board ⟨ns⟩ n w = .ok B ∧ (B.length : Int) = n ∧ ∀ x ∈ B, 0 ≤ x ∧ x ≤ (10 ^ 60 - 1) / 24 := by
  obtain ⟨N, eN, lN, hN⟩ := folded_ok ns hl h0 h1
  unfold m__law_board
  rw [bd_ok, eN, bd_ok]
  obtain ⟨M, e, hM⟩ := forS_inv (xs := N) (s := ([] : List Int))
    (body := fun (number : Int) (board : (List Int)) =>
    R.bd (.ok ((number / (11 : Int)) % (4 : Int))) fun (held : Int) =>
  R.bd (R.bd (.ok (decide (w = (1 : Int)))) fun (b112 : Bool) => if b112 = true then
    (R.bd (.ok ((number / (11 : Int)) % (30 : Int))) fun (held : Int) =>
  .ok held)
  else
    (.ok held)) fun (held : Int) =>
  R.bd (R.bd (.ok (decide (w = (2 : Int)))) fun (b111 : Bool) => if b111 = true then
    (R.bd (.ok (number / (24 : Int))) fun (held : Int) =>
  .ok held)
  else
    (.ok held)) fun (held : Int) =>
  R.bd (R.bd (.ok (decide (w = (3 : Int)))) fun (b110 : Bool) => if b110 = true then
    (R.bd (idx [(0 : Int), (1 : Int), (number / (24 : Int)), n] ((number / (7 : Int)) % (4 : Int))) fun (held : Int) =>
  .ok held)
  else
    (.ok held)) fun (held : Int) =>
  R.bd (appR board held) fun (board : List Int) =>
  .ok board)
    (fun i M => M.length = i ∧ i ≤ N.length ∧ ∀ x ∈ M, 0 ≤ x ∧ x ≤ (10 ^ 60 - 1) / 24)
    ⟨rfl, by omega, fun x hx => by cases hx⟩
    (fun i x M hx ⟨hL, hi, hM⟩ => by
      have hb := hN x (List.mem_of_getElem? hx)
      have hi2 : i < N.length := (List.getElem?_eq_some_iff.mp hx).1
      have fin : ∀ h : Int, 0 ≤ h → h ≤ (10 ^ 60 - 1) / 24 → ∃ s', (R.bd (appR M h) fun (board : List Int) => .ok board) = .ok s' ∧ s'.length = i + 1 ∧ i + 1 ≤ N.length ∧ ∀ x ∈ s', 0 ≤ x ∧ x ≤ (10 ^ 60 - 1) / 24 := by
        intro h g0 g1
        rw [appR_ok (by unfold lim; omega)]
        refine ⟨_, rfl, by simp [hL], by omega, fun y hy => ?_⟩
        rcases List.mem_append.mp hy with q | q
        · exact hM y q
        · rw [List.mem_singleton.mp q]
          exact ⟨g0, g1⟩
      have step : ∀ h : Int, 0 ≤ h → h ≤ (10 ^ 60 - 1) / 24 → ∃ s', (R.bd (R.bd (.ok (decide (w = (3 : Int)))) fun (b110 : Bool) => if b110 = true then
    (R.bd (idx [(0 : Int), (1 : Int), (x / (24 : Int)), n] ((x / (7 : Int)) % (4 : Int))) fun (held : Int) =>
  .ok held)
  else
    (.ok h)) fun (held : Int) =>
  R.bd (appR M held) fun (board : List Int) =>
  .ok board) = .ok s' ∧ s'.length = i + 1 ∧ i + 1 ≤ N.length ∧ ∀ x ∈ s', 0 ≤ x ∧ x ≤ (10 ^ 60 - 1) / 24 := by
        intro h g0 g1
        by_cases c3 : w = 3
        · rw [decide_eq_true c3, bd_ok, if_pos rfl]
          have hk : 0 ≤ (x / 7) % 4 ∧ (x / 7) % 4 < 4 := by omega
          generalize (x / 7) % 4 = k at hk
          have : k = 0 ∨ k = 1 ∨ k = 2 ∨ k = 3 := by omega
          rcases this with rfl | rfl | rfl | rfl
          · exact fin 0 (by omega) (by omega)
          · exact fin 1 (by omega) (by omega)
          · exact fin (x / 24) (by omega) (by omega)
          · exact fin n (by omega) (by omega)
        · rw [decide_eq_false c3]
          exact fin h g0 g1
      by_cases c1 : w = 1
      · subst c1
        exact step (x / 11 % 30) (by omega) (by omega)
      · by_cases c2 : w = 2
        · subst c2
          exact step (x / 24) (by omega) (by omega)
        · rw [decide_eq_false c1, decide_eq_false c2]
          exact step (x / 11 % 4) (by omega) (by omega))
  rw [e, bd_ok]
  have hlen : (M.length : Int) = n := by rw [hM.1, lN]; omega
  exact ⟨M, rfl, hlen, hM.2.2⟩
theorem board_ok (ns : List Int) (hl : ns.length ≤ 63) {n : Int} (w : Int) (h0 : 2 ≤ n) (h1 : n ≤ 24) : ∃ B, m__law_board ⟨ns⟩ n w = .ok B ∧ (B.length : Int) = n ∧ GB B := by
  obtain ⟨B, e1, e2, e3⟩ := board_ok2 ns hl w h0 h1
  exact ⟨B, e1, e2, gb_small (by omega) (by omega) e3⟩
theorem law_at_ok (ns : List Int) : ∃ h, m__law_at ⟨ns⟩ 0 = .ok h := by
  unfold m__law_at
  by_cases c : (0 : Int) < (ns.length : Int)
  · rw [decide_eq_true (show (0 : Int) < ((Scr.mk ns).l.length : Int) from c), bd_ok, if_pos rfl, idx_at (xs := ns) (by omega) (by omega)]
    exact ⟨_, rfl⟩
  · rw [decide_eq_false (show ¬ (0 : Int) < ((Scr.mk ns).l.length : Int) from c)]
    exact ⟨0, rfl⟩
end G

set_option Elab.async false
set_option linter.all false
set_option maxRecDepth 100000
set_option maxHeartbeats 4000000
set_option exponentiation.threshold 10000
namespace G
open PySem L2
theorem ask_pit_ok {B : List Int} {p : Int} (h0 : 0 ≤ p) (h1 : p < B.length) : m_ask_pit B p = .ok () := by
  unfold m_ask_pit
  have a : decide (p < 0) = false := decide_eq_false (by omega)
  have b : decide ((B.length : Int) ≤ p) = false := decide_eq_false (by omega)
  simp only [R.bd, a, b, Bool.or_false]
  rfl
theorem ask_pit_no {B : List Int} {p : Int} (h : p < 0 ∨ (B.length : Int) ≤ p) : m_ask_pit B p = .er (.own .BadPit) := by
  unfold m_ask_pit
  have a : (decide (p < 0) || decide ((B.length : Int) ≤ p)) = true := by
    rcases h with h | h
    · rw [decide_eq_true h]; rfl
    · rw [decide_eq_true h]; simp
  simp only [R.bd, a]
  rfl
/-- what the sowing makes -/
def D (p n j : Int) : Int := if p ≤ j then j - p else j - p + n
def sw (B : List Int) (p s : Int) (j : Nat) : Int := (if (j : Int) = p then 0 else B.getD j 0) + s / (B.length : Int) + (if 1 ≤ D p B.length j ∧ D p B.length j ≤ s % (B.length : Int) then 1 else 0)
theorem far_eq {p n j : Int} (h0 : 0 ≤ p) (h1 : p < n) (j0 : 0 ≤ j) (j1 : j < n) : (j - p - 1) % n = if 1 ≤ D p n j then D p n j - 1 else n - 1 := by
  unfold D
  by_cases c : p ≤ j
  · rw [if_pos c]
    by_cases c2 : 1 ≤ j - p
    · rw [if_pos c2, Int.emod_eq_of_lt (by omega) (by omega)]
    · rw [if_neg c2]
      have : j - p - 1 = (n - 1) + n * (-1) := by omega
      rw [this, Int.add_mul_emod_self_left, Int.emod_eq_of_lt (by omega) (by omega)]
  · rw [if_neg c, if_pos (by omega)]
    have : j - p - 1 = (j - p + n - 1) + n * (-1) := by omega
    rw [this, Int.add_mul_emod_self_left, Int.emod_eq_of_lt (by omega) (by omega)]
theorem got_eq {p n j s : Int} (h0 : 0 ≤ p) (h1 : p < n) (j0 : 0 ≤ j) (j1 : j < n) (hs : 0 ≤ s) :
    (if 1 + (j - p - 1) % n ≤ s then 1 + (s - (1 + (j - p - 1) % n)) / n else 0) = s / n + (if 1 ≤ D p n j ∧ D p n j ≤ s % n then 1 else 0) := by
  rw [far_eq h0 h1 j0 j1]
  have hq := Int.mul_ediv_add_emod s n
  have hr := Int.emod_nonneg s (show n ≠ 0 by omega)
  have hr2 := Int.emod_lt_of_pos s (show 0 < n by omega)
  have hq0 : 0 ≤ s / n := Int.ediv_nonneg hs (by omega)
  have hd : 0 ≤ D p n j ∧ D p n j < n := by unfold D; split <;> omega
  generalize D p n j = d at *
  generalize hQ : s / n = q at *
  generalize s % n = r at *
  have key : ∀ f : Int, 1 ≤ f → f ≤ n → (if f ≤ s then 1 + (s - f) / n else 0) = q + (if f ≤ r then 1 else 0) := by
    intro f f1 f2
    by_cases c : f ≤ r
    · have : f ≤ s := by
        have : 0 ≤ n * q := Int.mul_nonneg (by omega) hq0
        omega
      rw [if_pos this, if_pos c, ediv_eq (q := q) (r := r - f) (by omega) (by omega) (by omega)]
      omega
    · rw [if_neg c]
      by_cases c2 : f ≤ s
      · have e : n * q = n * (q - 1) + n := by rw [Int.mul_sub]; omega
        rw [if_pos c2, ediv_eq (q := q - 1) (r := r + n - f) (by omega) (by omega) (by omega)]
        omega
      · rw [if_neg c2]
        by_cases c3 : q = 0
        · omega
        · have : n * 1 ≤ n * q := Int.mul_le_mul_of_nonneg_left (by omega) (by omega)
          omega
  by_cases c : 1 ≤ d
  · rw [if_pos c, show 1 + (d - 1) = d by omega, key d c (by omega)]
    simp [c]
  · rw [if_neg c, show 1 + (n - 1) = n by omega, key n (by omega) (by omega), if_neg (by omega), if_neg (by omega)]
end G

set_option Elab.async false
set_option linter.all false
set_option maxRecDepth 100000
set_option maxHeartbeats 4000000
set_option exponentiation.threshold 10000
namespace G
open PySem L2
theorem emodq {p n k : Int} (h0 : 0 ≤ p) (h1 : p < n) (k0 : 0 ≤ k) (k1 : k < n) : (p - k) % n = if k ≤ p then p - k else p - k + n := by
  by_cases c : k ≤ p
  · rw [if_pos c, Int.emod_eq_of_lt (by omega) (by omega)]
  · rw [if_neg c]
    have : p - k = (p - k + n) + n * (-1) := by omega
    rw [this, Int.add_mul_emod_self_left, Int.emod_eq_of_lt (by omega) (by omega)]
    omega
theorem minR_spec {xs : List Int} (h : xs ≠ []) : ∃ m, minR xs = .ok m ∧ m ∈ xs ∧ ∀ x ∈ xs, m ≤ x := by
  unfold minR
  cases e : xs.min? with
  | none => exact absurd (List.min?_eq_none_iff.mp e) h
  | some m => exact ⟨m, rfl, (List.min?_eq_some_iff.mp e).1, (List.min?_eq_some_iff.mp e).2⟩
theorem getD_some {B : List Int} {j : Nat} (h : j < B.length) : B[j]? = some (B.getD j 0) := by
  rw [List.getElem?_eq_getElem h, List.getD_eq_getElem?_getD, List.getElem?_eq_getElem h]
  rfl
theorem getD_mem {B : List Int} {j : Nat} (h : j < B.length) : B.getD j 0 ∈ B := List.mem_of_getElem? (getD_some h)
theorem seeds_ok {B : List Int} {p x : Int} (g : GB B) (h0 : 0 ≤ p) (h1 : p < B.length) (hz : idx B p = .ok x) (hx : x ≠ 0) : m_ask_seeds B p = .ok () := by
  unfold m_ask_seeds
  rw [ask_board_ok g, bd_ok, ask_pit_ok h0 h1, bd_ok, hz, bd_ok, bd_ok, decide_eq_false hx]
  rfl
theorem seeds_no {B : List Int} {p : Int} (g : GB B) (h0 : 0 ≤ p) (h1 : p < B.length) (hz : idx B p = .ok 0) : m_ask_seeds B p = .er (.own .NoSeeds) := by
  unfold m_ask_seeds
  rw [ask_board_ok g, bd_ok, ask_pit_ok h0 h1, bd_ok, hz]
  rfl
theorem seeds_nopit {B : List Int} {p : Int} (g : GB B) (h : p < 0 ∨ (B.length : Int) ≤ p) : m_ask_seeds B p = .er (.own .BadPit) := by
  unfold m_ask_seeds
  rw [ask_board_ok g, bd_ok, ask_pit_no h]
  rfl
theorem sum_set' : ∀ (l : List Int) (i : Nat) (x a : Int), l[i]? = some x → (l.set i a).sum = l.sum - x + a
  | [], i, x, a, h => by simp at h
  | y :: l, 0, x, a, h => by
    simp at h
    subst h
    simp only [List.set_cons_zero, List.sum_cons]
    omega
  | y :: l, i + 1, x, a, h => by
    have := sum_set' l i x a (by simpa using h)
    simp only [List.set_cons_succ, List.sum_cons, this]
    omega
theorem sum_addc (c : Int) : ∀ l : List Int, (l.map fun held => held + c).sum = l.sum + (l.length : Int) * c
  | [] => by simp
  | x :: l => by
    simp only [List.map_cons, List.sum_cons, sum_addc c l, List.length_cons, Int.natCast_add, Int.add_mul]
    simp
    omega
theorem put_ok {B : List Int} {p s : Int} (h0 : 0 ≤ p) (h1 : p < B.length) (h24 : B.length ≤ 24) (hs : 0 ≤ s) :
    ∃ M, m_put_round (B.set p.toNat 0) p s = .ok M ∧ M.length = B.length ∧ (∀ j, j < B.length → M[j]? = some (sw B p s j)) ∧ M.sum = (B.set p.toNat 0).sum + s := by
  have n0 : (0 : Int) < (B.length : Int) := by omega
  have hl : (((B.set p.toNat 0).length : Nat) : Int) = (B.length : Int) := by simp
  have hr := Int.emod_nonneg s (show (B.length : Int) ≠ 0 by omega)
  have hr2 := Int.emod_lt_of_pos s n0
  have hdm := Int.mul_ediv_add_emod s (B.length : Int)
  unfold m_put_round
  rw [bd_ok, hl, compR_ok (g := fun held => held + s / (B.length : Int)) (by simp; unfold lim; omega) (fun x _ => by rw [divR_ok (w := 5) n0 (by omega) (by omega) (by omega)]; rfl), bd_ok, modR_ok n0, bd_ok, bd_ok, rng2_ok (by omega) (by omega) (by omega) (by omega), bd_ok]
  obtain ⟨M, e, hM⟩ := forS_inv (xs := rngL 1 (s % (B.length : Int) + 1)) (s := (B.set p.toNat 0).map fun held => held + s / (B.length : Int))
    (body := fun (step : Int) (made : (List Int)) => R.bd (R.bd (modR (p + step) (B.length : Int)) fun (t59 : Int) => R.bd (idx made t59) fun (t60 : Int) => setR made t59 (t60 + (1 : Int))) fun (made : List Int) => .ok made)
    (fun i M => M.length = B.length ∧ (∀ j, j < B.length → M[j]? = some ((if (j : Int) = p then 0 else B.getD j 0) + s / (B.length : Int) + (if 1 ≤ D p B.length j ∧ D p B.length j ≤ i then 1 else 0))) ∧ M.sum = (B.set p.toNat 0).sum + (B.length : Int) * (s / (B.length : Int)) + i)
    ⟨by simp, fun j hj => by
      rw [List.getElem?_map, List.getElem?_set]
      have c : ¬ (1 ≤ D p B.length j ∧ D p B.length j ≤ (0 : Nat)) := by omega
      rw [if_neg c]
      by_cases c2 : p.toNat = j
      · rw [if_pos c2, if_pos (by omega), if_pos (by omega)]
        simp
      · rw [if_neg c2, if_neg (by omega), List.getElem?_eq_getElem hj]
        simp [List.getD_eq_getElem?_getD, List.getElem?_eq_getElem hj], by rw [sum_addc]; simp⟩
    (fun i x M hx ⟨hL, hM, hS⟩ => by
      obtain ⟨rfl, hx2⟩ := rngL_at hx
      have ht := emod2 (x := p + (1 + (i : Int))) (p := (B.length : Int)) (by omega) (by omega)
      rw [modR_ok n0, bd_ok, ht]
      generalize hT : (if p + (1 + (i : Int)) < (B.length : Int) then p + (1 + (i : Int)) else p + (1 + (i : Int)) - (B.length : Int)) = t
      have t0 : 0 ≤ t := by rw [← hT]; split <;> omega
      have t1 : t < B.length := by rw [← hT]; split <;> omega
      have hd : D p B.length t = i + 1 := by unfold D; rw [← hT]; split <;> split <;> omega
      have hd2 : ∀ j : Nat, j < B.length → (j : Int) ≠ t → D p B.length j ≠ i + 1 := by
        intro j hj hne
        unfold D
        rw [← hT] at hne
        split at hne <;> split <;> omega
      have g := hM t.toNat (by omega)
      rw [idx_ok t0 g, bd_ok, setR_ok t0 (by omega), bd_ok]
      refine ⟨_, rfl, by simp [hL], fun j hj => ?_, by rw [sum_set' M t.toNat _ _ g, hS]; omega⟩
      rw [List.getElem?_set]
      by_cases c : t.toNat = j
      · have c' : (j : Int) = t := by omega
        rw [if_pos c, if_pos (by omega), ← c, show ((t.toNat : Nat) : Int) = t by omega, hd, if_neg (show ¬ (1 ≤ (i : Int) + 1 ∧ (i : Int) + 1 ≤ (i : Nat)) by omega), if_pos (show 1 ≤ (i : Int) + 1 ∧ (i : Int) + 1 ≤ ((i + 1 : Nat) : Int) by omega)]
        congr 1
        omega
      · rw [if_neg c, hM j hj]
        have := hd2 j hj (by omega)
        congr 2
        by_cases c2 : 1 ≤ D p (B.length) j ∧ D p (B.length) j ≤ (i : Nat)
        · rw [if_pos c2, if_pos (by omega)]
        · rw [if_neg c2, if_neg (by omega)])
  rw [e]
  rw [rngL_len] at hM
  have hr3 : (((s % (B.length : Int) + 1 - 1).toNat : Nat) : Int) = s % (B.length : Int) := by omega
  refine ⟨M, rfl, hM.1, fun j hj => ?_, by rw [hM.2.2, hr3]; omega⟩
  rw [hM.2.1 j hj]
  unfold sw
  rw [hr3]
structure St (B : List Int) (p : Int) : Prop where
  g : GB B
  h0 : 0 ≤ p
  h1 : p < B.length
  pos : 0 < B.getD p.toNat 0
theorem St.idx {B : List Int} {p : Int} (h : St B p) : idx B p = .ok (B.getD p.toNat 0) := idx_ok h.h0 (getD_some (by have := h.h1; have := h.h0; omega))
theorem sown_ok {B : List Int} {p : Int} (h : St B p) : ∃ S, m_sown B p = .ok (S, (p + B.getD p.toNat 0) % (B.length : Int)) ∧ S.length = B.length ∧ (∀ j, j < B.length → S[j]? = some (sw B p (B.getD p.toNat 0) j)) ∧ S.sum = B.sum := by
  obtain ⟨g, h0, h1, pos⟩ := h
  have hi : idx B p = .ok (B.getD p.toNat 0) := idx_ok h0 (getD_some (by omega))
  obtain ⟨S, e, lS, hS, sS⟩ := put_ok (s := B.getD p.toNat 0) h0 h1 g.2.1 (by omega)
  refine ⟨S, ?_, lS, hS, ?_⟩
  · unfold m_sown
    rw [seeds_ok g h0 h1 hi (by omega), bd_ok]
    unfold m_sown_plain
    rw [bd_ok, setR_ok h0 h1, bd_ok, hi, bd_ok, e, bd_ok, bd_ok, bd_ok, modR_ok (by omega), bd_ok, bd_ok]
    rfl
  · rw [sS, sum_set' B p.toNat _ 0 (getD_some (by omega))]
    omega
/-- the last seed falls into a pit that holds seeds then -/
theorem sow_stp {B : List Int} {p : Int} (h : St B p) : ∃ S q, m_sown B p = .ok (S, q) ∧ St S q ∧ S.sum = B.sum ∧ S.length = B.length ∧ q = (p + B.getD p.toNat 0) % (B.length : Int) ∧ ∀ j, j < B.length → S[j]? = some (sw B p (B.getD p.toNat 0) j) := by
  obtain ⟨S, e, lS, hS, sS⟩ := sown_ok h
  obtain ⟨g, h0, h1, pos⟩ := h
  have n0 : (0 : Int) < (B.length : Int) := by omega
  have hS' := hS
  generalize hx : B.getD p.toNat 0 = x at *
  have m0 : 0 ≤ x / (B.length : Int) := Int.ediv_nonneg (by omega) (by omega)
  have t0 := Int.emod_nonneg x (show (B.length : Int) ≠ 0 by omega)
  have t1 := Int.emod_lt_of_pos x n0
  have hdm := Int.mul_ediv_add_emod x (B.length : Int)
  have hq : (p + x) % (B.length : Int) = if p + x % (B.length : Int) < (B.length : Int) then p + x % (B.length : Int) else p + x % (B.length : Int) - (B.length : Int) := by
    have : p + x = (p + x % (B.length : Int)) + (B.length : Int) * (x / (B.length : Int)) := by omega
    rw [this, Int.add_mul_emod_self_left, emod2 (by omega) (by omega)]
  refine ⟨S, _, e, ?_, sS, lS, rfl, hS'⟩
  rw [hq]
  generalize hQ : (if p + x % (B.length : Int) < (B.length : Int) then p + x % (B.length : Int) else p + x % (B.length : Int) - (B.length : Int)) = q
  generalize hm : x / (B.length : Int) = m at *
  generalize ht : x % (B.length : Int) = t at *
  have q0 : 0 ≤ q ∧ q < B.length := by rw [← hQ]; split <;> omega
  have gd : ∀ j, j < B.length → S.getD j 0 = sw B p x j := fun j hj => by rw [List.getD_eq_getElem?_getD, hS j hj]; rfl
  have b0 : ∀ j, j < B.length → 0 ≤ B.getD j 0 := fun j hj => g.2.2.1 _ (getD_mem hj)
  have gS : GB S := ⟨by rw [lS]; exact g.1, by rw [lS]; exact g.2.1, fun y hy => by
    obtain ⟨j, hj⟩ := List.mem_iff_getElem?.mp hy
    have lj := (List.getElem?_eq_some_iff.mp hj).1
    rw [hS j (by omega)] at hj
    cases hj
    have := b0 j (by omega)
    unfold sw
    rw [hm]
    split <;> split <;> omega, by rw [sS]; exact g.2.2.2⟩
  refine ⟨gS, q0.1, by omega, ?_⟩
  rw [gd q.toNat (by omega)]
  unfold sw
  rw [hm, ht, show ((q.toNat : Nat) : Int) = q by omega]
  have b := b0 q.toNat (by omega)
  by_cases c : t = 0
  · have hd : D p B.length q = 0 := by unfold D; rw [← hQ]; split <;> split <;> omega
    have hmp : 0 < m := by
      by_cases c2 : m = 0
      · subst c2
        simp at hdm
        omega
      · omega
    rw [hd, if_neg (show ¬ ((1 : Int) ≤ 0 ∧ (0 : Int) ≤ t) by omega)]
    split <;> omega
  · have hd : D p B.length q = t := by unfold D; rw [← hQ]; split <;> split <;> omega
    rw [hd, if_pos (show 1 ≤ t ∧ t ≤ t by omega)]
    split <;> omega
end G

set_option Elab.async false
set_option linter.all false
set_option maxRecDepth 100000
set_option maxHeartbeats 4000000
set_option exponentiation.threshold 10000
namespace G
open PySem L2
/-! the taking back -/
def Eb (p n j : Int) : Int := if j ≤ p then p - j else p - j + n
/-- where the last seed fell from -/
structure BkS (B : List Int) (p m t h : Int) : Prop where
  t0 : 0 ≤ t
  t1 : t < B.length
  h0 : 0 ≤ h
  h1 : h < B.length
  e : Eb p B.length h = t
  lo : ∀ x ∈ B, m ≤ x
  at_ : B.getD h.toNat 0 = m
  gt : ∀ j : Nat, j < B.length → Eb p B.length j < t → m < B.getD j 0
theorem first_emptied_ok {B : List Int} {p : Int} (g : GB B) (h0 : 0 ≤ p) (h1 : p < B.length) : ∃ m t h, BkS B p m t h ∧ 0 ≤ m ∧ m_first_emptied B p = .ok (h, m * (B.length : Int) + t) := by
  obtain ⟨g1, g2, g3, g4⟩ := g
  obtain ⟨m, em, mm, ml⟩ := minR_spec (xs := B) (by intro q; rw [q] at g1; simp at g1)
  have m0 := g3 m mm
  obtain ⟨j0, hj0⟩ := List.mem_iff_getElem?.mp mm
  have lj0 := (List.getElem?_eq_some_iff.mp hj0).1
  have ej0 : B.getD j0 0 = m := by rw [List.getD_eq_getElem?_getD, hj0]; rfl
  have n0 : (0 : Int) < (B.length : Int) := by omega
  have mu : m < 2 ^ 200 := by
    have a1 : ∀ l : List Int, (∀ x ∈ l, 0 ≤ x) → ∀ x ∈ l, x ≤ l.sum := by
      intro l
      induction l with
      | nil => exact fun _ x hx => by cases hx
      | cons y l ih =>
        intro hp x hx
        rw [List.sum_cons]
        have s0 := sum_nn (xs := l) fun z hz => hp z (by simp [hz])
        have y0 := hp y (by simp)
        rcases List.mem_cons.mp hx with e | e
        · omega
        · have := ih (fun z hz => hp z (by simp [hz])) x e
          omega
    have := a1 B g3 m mm
    have : (10 ^ 60 : Int) < 2 ^ 200 := by decide
    omega
  obtain ⟨t, ht⟩ : ∃ t, whileS (fun (steps : Int) => R.bd (R.bd (modR (p - steps) (B.length : Int)) fun (t29 : Int) => idx B t29) fun (t30 : Int) => .ok (decide (m < t30))) (fun (steps : Int) =>
    R.bd (.ok (steps + (1 : Int))) fun (steps : Int) => .ok steps) fuel 0 = .ok t ∧ 0 ≤ t ∧ t < B.length ∧ (∀ j : Nat, j < B.length → Eb p B.length j < t → m < B.getD j 0) ∧ ∀ j : Nat, j < B.length → Eb p B.length j = t → B.getD j 0 = m := by
    refine ok_whileS (fun (k : Int) => 0 ≤ k ∧ k < B.length ∧ ∀ j : Nat, j < B.length → Eb p B.length j < k → m < B.getD j 0) (fun k => ((B.length : Int) - k).toNat) _ fuel 0 ⟨by omega, by omega, fun j hj h => by unfold Eb at h; split at h <;> omega⟩ (by rw [fuel_eq]; omega) ?_
    intro k ⟨k0, k1, hk⟩
    have hq := emodq h0 h1 k0 k1
    rw [modR_ok n0, bd_ok, hq]
    generalize hQ : (if k ≤ p then p - k else p - k + (B.length : Int)) = q
    have q0 : 0 ≤ q ∧ q < B.length ∧ Eb p B.length q = k := by unfold Eb; rw [← hQ]; split <;> split <;> omega
    have un : ∀ j : Nat, j < B.length → Eb p B.length j = k → j = q.toNat := fun j hj h => by
      unfold Eb at h
      rw [← hQ]
      split at h <;> split <;> omega
    rw [idx_ok q0.1 (getD_some (B := B) (j := q.toNat) (by omega))]
    refine ok_ret ?_
    by_cases c : m < B.getD q.toNat 0
    · rw [if_pos (decide_eq_true c)]
      have hk' : ∀ j : Nat, j < B.length → Eb p B.length j < k + 1 → m < B.getD j 0 := fun j hj h => by
        by_cases c2 : Eb p B.length j = k
        · rw [un j hj c2]; exact c
        · exact hk j hj (by omega)
      refine ok_st (ok_ret ⟨⟨by omega, ?_, hk'⟩, by omega⟩)
      have : ¬ Eb p B.length j0 < k + 1 := fun h => by have := hk' j0 lj0 h; omega
      have : Eb p B.length (j0 : Int) < B.length := by unfold Eb; split <;> omega
      omega
    · rw [if_neg (by rw [decide_eq_false c]; decide)]
      refine ⟨k0, k1, hk, fun j hj h => ?_⟩
      rw [un j hj h]
      have := ml _ (getD_mem (B := B) (j := q.toNat) (by omega))
      omega
  obtain ⟨et, t0, t1, tg, te⟩ := ht
  have hq := emodq h0 h1 t0 t1
  refine ⟨m, t, (p - t) % (B.length : Int), ?_, m0, ?_⟩
  · rw [hq]
    generalize hQ : (if t ≤ p then p - t else p - t + (B.length : Int)) = q
    have q0 : 0 ≤ q ∧ q < B.length ∧ Eb p B.length q = t := by unfold Eb; rw [← hQ]; split <;> split <;> omega
    exact ⟨t0, t1, q0.1, q0.2.1, q0.2.2, ml, te q.toNat (by omega) (by rw [show ((q.toNat : Nat) : Int) = q by omega]; exact q0.2.2), tg⟩
  · unfold m_first_emptied
    rw [bd_ok, em, bd_ok, bd_ok, et, bd_ok, modR_ok n0, bd_ok, mulR_ok (w := 200) (v := 5) m0 mu (by omega) (by omega) (by omega) (by omega) (by omega), bd_ok, bd_ok, bd_ok]
/-- what the taking back makes -/
def bkx (B : List Int) (p m t h : Int) (j : Nat) : Int := if (j : Int) = h then m * (B.length : Int) + t else B.getD j 0 - m - (if Eb p B.length j < t then 1 else 0)
theorem taken_ok {B : List Int} {p m t h : Int} (g : GB B) (h0 : 0 ≤ p) (h1 : p < B.length) (k : BkS B p m t h) (m0 : 0 ≤ m) (e : m_first_emptied B p = .ok (h, m * (B.length : Int) + t)) (ha : m_ask_seeds B p = .ok ()) :
    ∃ M, m_taken_back B p = .ok (M, h) ∧ M.length = B.length ∧ ∀ j, j < B.length → M[j]? = some (bkx B p m t h j) := by
  obtain ⟨t0, t1, hh0, hh1, he, lo, hat, gt⟩ := k
  have n0 : (0 : Int) < (B.length : Int) := by omega
  have h24 := g.2.1
  have hdv : (m * (B.length : Int) + t) / (B.length : Int) = m := ediv_eq (q := m) (r := t) (by rw [Int.mul_comm]) t0 t1
  have hmd : (m * (B.length : Int) + t) % (B.length : Int) = t := by rw [Int.add_comm, Int.add_mul_emod_self_right, Int.emod_eq_of_lt t0 t1]
  unfold m_taken_back
  rw [ha, bd_ok, e, bd_ok]
  show ∃ M, R.bd (R.ok (B.length : Int)) _ = _ ∧ _
  rw [bd_ok, compR_ok (g := fun held => held - m) (by unfold lim; omega) (fun x _ => by rw [divR_ok (w := 5) n0 (by omega) (by omega) (by omega), hdv]; rfl), bd_ok, modR_ok n0, hmd, bd_ok, rng1_ok t0 (by omega), bd_ok]
  obtain ⟨M, eM, hM⟩ := forS_inv (xs := rngL 0 t) (s := B.map fun held => held - m)
    (body := fun (step : Int) (made : (List Int)) => R.bd (R.bd (modR (p - step) (B.length : Int)) fun (t72 : Int) => R.bd (idx made t72) fun (t73 : Int) => setR made t72 (t73 - (1 : Int))) fun (made : List Int) => .ok made)
    (fun i M => M.length = B.length ∧ ∀ j, j < B.length → M[j]? = some (B.getD j 0 - m - (if Eb p B.length j < (i : Int) then 1 else 0)))
    ⟨by simp, fun j hj => by
      have : ¬ Eb p B.length j < ((0 : Nat) : Int) := by unfold Eb; split <;> omega
      rw [List.getElem?_map, getD_some hj, if_neg this]
      simp⟩
    (fun i x M hx ⟨hL, hM⟩ => by
      obtain ⟨rfl, hx2⟩ := rngL_at hx
      rw [Int.zero_add] at hx2 ⊢
      rw [modR_ok n0, bd_ok, emodq h0 h1 (by omega) (by omega)]
      generalize hQ : (if (i : Int) ≤ p then p - (i : Int) else p - (i : Int) + (B.length : Int)) = q
      have q0 : 0 ≤ q ∧ q < B.length ∧ Eb p B.length q = i := by unfold Eb; rw [← hQ]; split <;> split <;> omega
      have un : ∀ j : Nat, j < B.length → Eb p B.length j = i → (j : Int) = q := fun j hj h => by
        unfold Eb at h
        rw [← hQ]
        split at h <;> split <;> omega
      rw [idx_ok q0.1 (hM q.toNat (by omega)), bd_ok, setR_ok q0.1 (by omega), bd_ok]
      refine ⟨_, rfl, by simp [hL], fun j hj => ?_⟩
      rw [List.getElem?_set]
      by_cases c : q.toNat = j
      · have c' : (j : Int) = q := by omega
        rw [if_pos c, if_pos (by omega), ← c, show ((q.toNat : Nat) : Int) = q by omega, q0.2.2, if_neg (by omega), if_pos (by omega)]
        congr 1
        omega
      · rw [if_neg c, hM j hj]
        have : Eb p B.length j ≠ i := fun h => c (by have := un j hj h; omega)
        congr 2
        by_cases c2 : Eb p B.length j < (i : Int)
        · rw [if_pos c2, if_pos (by omega)]
        · rw [if_neg c2, if_neg (by omega)])
  rw [eM, bd_ok, setR_ok hh0 (by rw [hM.1]; exact hh1), bd_ok, bd_ok]
  rw [rngL_len] at hM
  refine ⟨_, rfl, by simp [hM.1], fun j hj => ?_⟩
  rw [List.getElem?_set]
  unfold bkx
  by_cases c : h.toNat = j
  · rw [if_pos c, if_pos (by omega), if_pos (by omega)]
  · rw [if_neg c, if_neg (by omega), hM.2 j hj]
    have : (((t - 0).toNat : Nat) : Int) = t := by omega
    rw [this]
/-- the board behind is a board with seeds at h; sown it is the first one -/
theorem bk_nn {B : List Int} {p m t h : Int} (g : GB B) (k : BkS B p m t h) (m0 : 0 ≤ m) {j : Nat} (hj : j < B.length) : 0 ≤ bkx B p m t h j := by
  unfold bkx
  split
  · have := Int.mul_nonneg m0 (show (0 : Int) ≤ (B.length : Int) by omega)
    have := k.t0
    omega
  · have a := k.lo _ (getD_mem hj)
    split
    · have := k.gt j hj (by assumption)
      omega
    · omega
theorem bk_pos {B : List Int} {p m t h x : Int} (g : GB B) (h0 : 0 ≤ p) (h1 : p < B.length) (k : BkS B p m t h) (m0 : 0 ≤ m) (hx : B[p.toNat]? = some x) (x0 : x ≠ 0) : 0 < m * (B.length : Int) + t := by
  have n2 := g.1
  by_cases c : m = 0
  · subst c
    by_cases c2 : t = 0
    · have e := k.e
      rw [c2] at e
      have : h = p := by
        have := k.h0
        have := k.h1
        unfold Eb at e
        split at e <;> omega
      have a := k.at_
      rw [this, List.getD_eq_getElem?_getD, hx] at a
      exact absurd a x0
    · have := k.t0
      omega
  · have : (B.length : Int) * 1 ≤ (B.length : Int) * m := Int.mul_le_mul_of_nonneg_left (by omega) (by omega)
    have e : m * (B.length : Int) = (B.length : Int) * m := Int.mul_comm _ _
    have := k.t0
    omega
theorem sw_bk {B M : List Int} {p m t h : Int} (g : GB B) (h0 : 0 ≤ p) (h1 : p < B.length) (k : BkS B p m t h) (lM : M.length = B.length) (hM : ∀ j, j < B.length → M[j]? = some (bkx B p m t h j)) :
    ∀ j, j < B.length → sw M h (m * (B.length : Int) + t) j = B.getD j 0 := by
  intro j hj
  obtain ⟨t0, t1, hh0, hh1, he, lo, hat, gt⟩ := k
  have hdv : (m * (B.length : Int) + t) / (B.length : Int) = m := ediv_eq (q := m) (r := t) (by rw [Int.mul_comm]) t0 t1
  have hmd : (m * (B.length : Int) + t) % (B.length : Int) = t := by rw [Int.add_comm, Int.add_mul_emod_self_right, Int.emod_eq_of_lt t0 t1]
  unfold sw
  rw [lM, hdv, hmd]
  have e1 : M.getD j 0 = bkx B p m t h j := by rw [List.getD_eq_getElem?_getD, hM j hj]; rfl
  rw [e1]
  unfold bkx
  by_cases c : (j : Int) = h
  · rw [if_pos c]
    have : ¬ (1 ≤ D h B.length j ∧ D h B.length j ≤ t) := by unfold D; split <;> omega
    rw [if_neg this, ← hat, ← c]
    simp
  · rw [if_neg c, if_neg c]
    have : (Eb p B.length j < t) ↔ (1 ≤ D h B.length j ∧ D h B.length j ≤ t) := by
      unfold Eb D at *
      split at he <;> split <;> split <;> omega
    by_cases c2 : Eb p B.length j < t
    · rw [if_pos c2, if_pos (this.mp c2)]
      omega
    · rw [if_neg c2, if_neg (fun z => c2 (this.mpr z))]
      omega
theorem end_bk {B : List Int} {p m t h : Int} (h0 : 0 ≤ p) (h1 : p < B.length) (k : BkS B p m t h) : (h + (m * (B.length : Int) + t)) % (B.length : Int) = p := by
  obtain ⟨t0, t1, hh0, hh1, he, lo, hat, gt⟩ := k
  have : h + (m * (B.length : Int) + t) = (h + t) + (B.length : Int) * m := by rw [Int.mul_comm]; omega
  rw [this, Int.add_mul_emod_self_left, emod2 (by omega) (by omega)]
  unfold Eb at he
  split at he <;> split <;> omega
end G

set_option Elab.async false
set_option linter.all false
set_option maxRecDepth 100000
set_option maxHeartbeats 4000000
set_option exponentiation.threshold 10000
namespace G
open PySem L2
theorem bk_uni {B : List Int} {p m t h m' t' h' : Int} (h0 : 0 ≤ p) (h1 : p < B.length) (k : BkS B p m t h) (k' : BkS B p m' t' h') : m = m' ∧ t = t' ∧ h = h' := by
  obtain ⟨t0, t1, hh0, hh1, he, lo, hat, gt⟩ := k
  obtain ⟨t0', t1', hh0', hh1', he', lo', hat', gt'⟩ := k'
  have a1 := lo _ (getD_mem (B := B) (j := h'.toNat) (by omega))
  have a2 := lo' _ (getD_mem (B := B) (j := h.toNat) (by omega))
  have em : m = m' := by omega
  have et : t = t' := by
    by_cases c : t < t'
    · have := gt' h.toNat (by omega) (by rw [show ((h.toNat : Nat) : Int) = h by omega, he]; exact c)
      omega
    · by_cases c2 : t' < t
      · have := gt h'.toNat (by omega) (by rw [show ((h'.toNat : Nat) : Int) = h' by omega, he']; exact c2)
        omega
      · omega
  refine ⟨em, et, ?_⟩
  subst et
  unfold Eb at he he'
  split at he <;> split at he' <;> omega
theorem sow_st {B : List Int} {p : Int} (h : St B p) : ∃ S q, m_sown B p = .ok (S, q) ∧ St S q ∧ m_taken_back S q = .ok (B, p) ∧ S.sum = B.sum ∧ S.length = B.length := by
  obtain ⟨S, e, lS, hS, sS⟩ := sown_ok h
  obtain ⟨g, h0, h1, pos⟩ := h
  have n0 : (0 : Int) < (B.length : Int) := by omega
  generalize hx : B.getD p.toNat 0 = x at *
  have m0 : 0 ≤ x / (B.length : Int) := Int.ediv_nonneg (by omega) (by omega)
  have t0 := Int.emod_nonneg x (show (B.length : Int) ≠ 0 by omega)
  have t1 := Int.emod_lt_of_pos x n0
  have hdm := Int.mul_ediv_add_emod x (B.length : Int)
  have hq : (p + x) % (B.length : Int) = if p + x % (B.length : Int) < (B.length : Int) then p + x % (B.length : Int) else p + x % (B.length : Int) - (B.length : Int) := by
    have : p + x = (p + x % (B.length : Int)) + (B.length : Int) * (x / (B.length : Int)) := by omega
    rw [this, Int.add_mul_emod_self_left, emod2 (by omega) (by omega)]
  rw [hq] at e
  generalize hQ : (if p + x % (B.length : Int) < (B.length : Int) then p + x % (B.length : Int) else p + x % (B.length : Int) - (B.length : Int)) = q at e
  generalize hm : x / (B.length : Int) = m at *
  generalize ht : x % (B.length : Int) = t at *
  have q0 : 0 ≤ q ∧ q < B.length := by rw [← hQ]; split <;> omega
  have gd : ∀ j, j < B.length → S.getD j 0 = sw B p x j := fun j hj => by rw [List.getD_eq_getElem?_getD, hS j hj]; rfl
  have b0 : ∀ j, j < B.length → 0 ≤ B.getD j 0 := fun j hj => g.2.2.1 _ (getD_mem hj)
  have k : BkS S q m t p := ⟨t0, by omega, h0, by omega, by
      rw [lS]; unfold Eb; rw [← hQ]; split <;> split <;> omega, fun y hy => by
      obtain ⟨j, hj⟩ := List.mem_iff_getElem?.mp hy
      have lj := (List.getElem?_eq_some_iff.mp hj).1
      rw [hS j (by omega)] at hj
      cases hj
      have := b0 j (by omega)
      unfold sw
      rw [hm]
      split <;> split <;> omega, by
      rw [gd p.toNat (by omega)]
      unfold sw
      rw [hm, show ((p.toNat : Nat) : Int) = p by omega, if_pos rfl]
      have : D p (B.length : Int) p = 0 := by unfold D; split <;> omega
      rw [this, if_neg (by omega)]
      omega, fun j hj he => by
      rw [lS] at he hj
      rw [gd j hj]
      have := b0 j hj
      have hd : 1 ≤ D p B.length j ∧ D p B.length j ≤ t := by
        unfold Eb at he
        unfold D
        rw [← hQ] at he
        split at he <;> split at he <;> split <;> omega
      have hne : (j : Int) ≠ p := fun z => by rw [z] at hd; unfold D at hd; split at hd <;> omega
      unfold sw
      rw [hm, ht, if_pos hd, if_neg hne]
      omega⟩
  have gS : GB S := ⟨by rw [lS]; exact g.1, by rw [lS]; exact g.2.1, fun y hy => by have := k.lo y hy; omega, by rw [sS]; exact g.2.2.2⟩
  have hpos : 0 < S.getD q.toNat 0 := by
    rw [gd q.toNat (by omega)]
    unfold sw
    rw [hm, ht, show ((q.toNat : Nat) : Int) = q by omega]
    have b := b0 q.toNat (by omega)
    by_cases c : t = 0
    · have hd : D p B.length q = 0 := by unfold D; rw [← hQ]; split <;> split <;> omega
      have hmp : 0 < m := by
        by_cases c2 : m = 0
        · subst c2
          simp at hdm
          omega
        · omega
      rw [hd, if_neg (show ¬ ((1 : Int) ≤ 0 ∧ (0 : Int) ≤ t) by omega)]
      split <;> omega
    · have hd : D p B.length q = t := by unfold D; rw [← hQ]; split <;> split <;> omega
      rw [hd, if_pos (show 1 ≤ t ∧ t ≤ t by omega)]
      split <;> omega
  have st : St S q := ⟨gS, q0.1, by omega, hpos⟩
  refine ⟨S, q, e, st, ?_, sS, lS⟩
  obtain ⟨m', t', h', k', m0', e'⟩ := first_emptied_ok gS q0.1 (by omega)
  obtain ⟨rfl, rfl, rfl⟩ := bk_uni q0.1 (by omega) k k'
  obtain ⟨M, eM, lM, hM⟩ := taken_ok gS q0.1 (by omega) k m0' e' (seeds_ok gS q0.1 (by omega) st.idx (by omega))
  rw [eM]
  have : M = B := by
    apply List.ext_getElem?
    intro j
    by_cases cj : j < B.length
    · rw [hM j (by omega), getD_some cj]
      unfold bkx
      rw [gd j cj, lS]
      by_cases c : (j : Int) = p
      · rw [if_pos c]
        have : j = p.toNat := by omega
        rw [this, hx]
        congr 1
        rw [Int.mul_comm]
        omega
      · rw [if_neg c]
        unfold sw
        rw [hm, ht, if_neg c]
        have : (Eb q B.length j < t) ↔ (1 ≤ D p B.length j ∧ D p B.length j ≤ t) := by
          unfold Eb D
          rw [← hQ]
          split <;> split <;> split <;> omega
        by_cases c2 : Eb q B.length j < t
        · rw [if_pos c2, if_pos (this.mp c2)]
          congr 1
          omega
        · rw [if_neg c2, if_neg (fun z => c2 (this.mpr z))]
          congr 1
          omega
    · rw [List.getElem?_eq_none (by omega), List.getElem?_eq_none (by omega)]
  rw [this]
theorem back_st {B : List Int} {p : Int} (h : St B p) : ∃ M q, m_taken_back B p = .ok (M, q) ∧ St M q ∧ m_sown M q = .ok (B, p) ∧ M.sum = B.sum ∧ M.length = B.length := by
  have hi := h.idx
  obtain ⟨g, h0, h1, pos⟩ := h
  obtain ⟨m, t, q, k, m0, e⟩ := first_emptied_ok g h0 h1
  obtain ⟨M, eM, lM, hM⟩ := taken_ok g h0 h1 k m0 e (seeds_ok g h0 h1 hi (by omega))
  have hh := k.h0
  have hh1 := k.h1
  have hpos := bk_pos g h0 h1 k m0 (getD_some (by omega)) (show B.getD p.toNat 0 ≠ 0 by omega)
  have gM : M.getD q.toNat 0 = m * (B.length : Int) + t := by
    rw [List.getD_eq_getElem?_getD, hM q.toNat (by omega)]
    unfold bkx
    rw [if_pos (by omega)]
    rfl
  have hnn : ∀ y ∈ M, 0 ≤ y := fun y hy => by
    obtain ⟨j, hj⟩ := List.mem_iff_getElem?.mp hy
    have lj := (List.getElem?_eq_some_iff.mp hj).1
    rw [hM j (by omega)] at hj
    cases hj
    exact bk_nn g k m0 (by omega)
  obtain ⟨S, e2, lS, hS, sS⟩ := put_ok (B := M) (p := q) (s := m * (B.length : Int) + t) hh (by omega) (by rw [lM]; exact g.2.1) (by omega)
  have eSB : S = B := by
    apply List.ext_getElem?
    intro j
    by_cases cj : j < B.length
    · rw [hS j (by omega), sw_bk g h0 h1 k lM hM j cj, getD_some cj]
    · rw [List.getElem?_eq_none (by omega), List.getElem?_eq_none (by omega)]
  have sM : M.sum = B.sum := by
    rw [← eSB, sS, sum_set' M q.toNat _ 0 (getD_some (by omega)), gM]
    omega
  have st : St M q := ⟨⟨by rw [lM]; exact g.1, by rw [lM]; exact g.2.1, hnn, by rw [sM]; exact g.2.2.2⟩, hh, by omega, by rw [gM]; exact hpos⟩
  refine ⟨M, q, eM, st, ?_, sM, lM⟩
  obtain ⟨S', e', lS', hS', sS'⟩ := sown_ok st
  rw [gM] at e' hS'
  have : S' = B := by
    apply List.ext_getElem?
    intro j
    by_cases cj : j < B.length
    · rw [hS' j (by omega), sw_bk g h0 h1 k lM hM j cj, getD_some cj]
    · rw [List.getElem?_eq_none (by omega), List.getElem?_eq_none (by omega)]
  rw [e', this, lM, end_bk h0 h1 k]
/-! ### going on -/
noncomputable def dd (f : Bool) (s : List Int × Int) : R (List Int × Int) := if f = true then m_sown s.1 s.2 else m_taken_back s.1 s.2
noncomputable def itR (f : Bool) : Nat → List Int × Int → R (List Int × Int)
  | 0, s => .ok s
  | k + 1, s => R.bd (itR f k s) (dd f)
theorem dd_st {f : Bool} {B : List Int} {p : Int} (h : St B p) : ∃ S q, dd f (B, p) = .ok (S, q) ∧ St S q ∧ dd (!f) (S, q) = .ok (B, p) ∧ S.sum = B.sum ∧ S.length = B.length := by
  cases f with
  | true => exact sow_st h
  | false => exact back_st h
theorem it_st (f : Bool) {B : List Int} {p : Int} (h : St B p) : ∀ k, ∃ S q, itR f k (B, p) = .ok (S, q) ∧ St S q ∧ S.sum = B.sum ∧ S.length = B.length
  | 0 => ⟨B, p, rfl, h, rfl, rfl⟩
  | k + 1 => by
    obtain ⟨S, q, e, st, s1, l1⟩ := it_st f h k
    obtain ⟨S2, q2, e2, st2, _, s2, l2⟩ := dd_st (f := f) st
    exact ⟨S2, q2, by unfold itR; rw [e]; exact e2, st2, by omega, by omega⟩
theorem it_for {f : Bool} {body : Int → List Int × Int → R (List Int × Int)} {B : List Int} {p : Int} (h : St B p) (hb : ∀ x S q, St S q → body x (S, q) = dd f (S, q)) (xs : List Int) : forS body xs (B, p) = itR f xs.length (B, p) := by
  obtain ⟨s', e, q⟩ := forS_inv (body := body) (xs := xs) (s := (B, p)) (fun i s => itR f i (B, p) = .ok s ∧ St s.1 s.2) ⟨rfl, h⟩ fun i x s _ ⟨e, st⟩ => by
    obtain ⟨S, q⟩ := s
    obtain ⟨S2, q2, e2, st2, _⟩ := dd_st (f := f) st
    exact ⟨(S2, q2), by rw [hb x S q st]; exact e2, by unfold itR; rw [e]; exact e2, st2⟩
  rw [e, q.1]
theorem it_back (f : Bool) : ∀ (k : Nat) {B S : List Int} {p q : Int}, St B p → itR f k (B, p) = .ok (S, q) → itR (!f) k (S, q) = .ok (B, p)
  | 0, B, S, p, q, h, e => by cases e; rfl
  | k + 1, B, S, p, q, h, e => by
    -- the last deed is undone first
    have front : ∀ (g : Bool) (k : Nat) (s : List Int × Int), itR g (k + 1) s = R.bd (dd g s) (itR g k) := by
      intro g k
      induction k with
      | zero => intro s; show R.bd (.ok s) (dd g) = R.bd (dd g s) fun s => .ok s; rw [bd_id]; rfl
      | succ k ih =>
        intro s
        show R.bd (itR g (k + 1) s) (dd g) = _
        rw [ih s, bd_assoc]
        rfl
    obtain ⟨S1, q1, e1, st1, _, _⟩ := it_st f h k
    obtain ⟨S2, q2, e2, st2, e3, _⟩ := dd_st (f := f) st1
    unfold itR at e
    rw [e1, bd_ok, e2] at e
    cases e
    rw [front, e3, bd_ok]
    exact it_back f k h e1
end G

set_option Elab.async false
set_option linter.all false
set_option maxRecDepth 100000
set_option maxHeartbeats 4000000
set_option exponentiation.threshold 10000
namespace G
open PySem L2
/-- a book as the law keeps it -/
structure Iv (n i : Nat) (b : Bk) : Prop where
  d : b.deeds.length + 1 = b.boards.length
  s : b.boards.length + b.gone.length ≤ i + 1
  ok : ∀ B ∈ b.boards ++ b.gone.map Prod.snd, GB B ∧ B.length = n
theorem Iv.last {n i : Nat} {b : Bk} (h : Iv n i b) : ∃ B, b.boards.getLast? = some B ∧ GB B ∧ B.length = n := by
  have := h.d
  cases z : b.boards.getLast? with
  | none => rw [List.getLast?_eq_none_iff] at z; rw [z] at this; simp at this
  | some B => exact ⟨B, rfl, h.ok B (List.mem_append_left _ (List.mem_of_getLast? z))⟩
theorem again_eq (b : Bk) : m_bk_came_again b = m__law_again b.boards := rfl
theorem kept_ok {n i : Nat} {b : Bk} (h : Iv n i b) (hi : i ≤ 900) (cell : Int) : m__law_as_kept b b.boards b.deeds cell = .ok true := by
  refine ok_is ?_
  unfold m__law_as_kept
  have hd := h.d
  have hs := h.s
  obtain ⟨B, eB, gB, lB⟩ := h.last
  have g1 := gB.1
  have iB : idx b.boards (-1) = .ok B := idx_last eB
  have e1 : m_bk_board b = .ok B := by
    unfold m_bk_board
    rw [iB, bd_ok]
  have ep := compR_ok (xs := b.deeds) (f := fun (deed : T3 Str Int Int) => .ok (deed.a, deed.b)) (g := fun deed => (deed.a, deed.b)) (by unfold lim; omega) (fun x _ => rfl)
  have ec := compR_ok (xs := b.deeds) (f := fun (deed : T3 Str Int Int) => .ok deed.c) (g := T3.c) (by unfold lim; omega) (fun x _ => rfl)
  have e2 : m_bk_plan b = .ok (b.deeds.map fun deed => (deed.a, deed.b)) := by
    unfold m_bk_plan
    rw [ep, bd_ok]
  have e4 : m_bk_sown_in_all b = .ok (b.deeds.map T3.c).sum := by
    unfold m_bk_sown_in_all
    rw [ec, bd_ok, bd_ok]
  obtain ⟨z, ez, az⟩ := came_ok (b := b) (by omega)
  have ez2 := ez
  rw [again_eq] at ez2
  rw [rng1_ok (by decide) (by decide), bd_ok]
  refine ok_forA (fun k _ => ?_) ?_
  · rw [bd_ok, bd_ok]
    generalize (cell + k) % 4 = way
    refine ok_it (fun c => ?_) fun c => ?_
    · rw [e1, bd_ok, iB, Bool.not_true, ifF, bd_ok, dT rfl, Bool.not_true, bd_ok, ifF, idx_at (by decide) (by omega), bd_ok, bd_ok, setR_ok (by decide) (by omega), bd_ok]
      exact ok_ret rfl
    rw [bd_ok]
    refine ok_it (fun c => ?_) fun c => ?_
    · rw [e2, bd_ok, Bool.not_true, ifF, ep, bd_ok, dT rfl, Bool.not_true, bd_ok, ifF, appR_ok (by rw [List.length_map]; unfold lim; omega), bd_ok]
      exact ok_ret rfl
    rw [bd_ok]
    refine ok_it (fun c => ?_) fun c => ?_
    · have zl := az.ln
      rw [ez, bd_ok, Bool.not_true, ifF, ez2, bd_ok, dT rfl, Bool.not_true, bd_ok, ifF, appR_ok (by unfold lim; omega), bd_ok]
      exact ok_ret rfl
    · rw [e4, bd_ok, Bool.not_true, ifF, ifF, ec, bd_ok, bd_ok, dT rfl, Bool.not_true, bd_ok, ifF]
      exact ok_ret rfl
  · show Ok (R.bd (.ok true) _) _
    rw [bd_ok]
    exact ok_ret rfl
theorem catch_own {S : Type} {m : R S} {c : Cn} {f : Er → R S} {cs : List Cn} (h : m = .er (.own c)) (hc : c ∈ cs) : catchR cs m f = f (.own c) := by
  rw [h]
  exact if_pos hc
theorem told_ok {b b' : Bk} {way pit : Int} {d : Dy} (h : m__law_asked b way pit = .ok (d, b')) : m__law_told b way pit = .ok (d, b') := by
  unfold m__law_told
  rw [h]
  rfl
theorem told_er {b : Bk} {way pit : Int} {c : Cn} (h : m__law_asked b way pit = .er (.own c)) (hc : c = .BadPit ∨ c = .NoSeeds ∨ c = .NoDeed) : m__law_told b way pit = .ok (DyN.dy c.nm, b) := by
  unfold m__law_told
  rw [h, bd_ok, bd_ok]
  have l3 : ∀ l : List Bool, l.length = 3 → gd (l.length ≤ lim) (.ok l) = .ok l := fun l e => gd_pos (by rw [e]; unfold lim; omega)
  rcases hc with rfl | rfl | rfl
  · rw [catch_own (c := .BadPit) (by rfl) (by decide), bd_ok, bd_ok]
    show R.bd (.ok false) _ = _
    rw [bd_ok, ifF]
    show R.bd (gd ([isC .BadPit .BadPit, isC .BadPit .NoSeeds, isC .BadPit .NoDeed].length ≤ lim) (.ok [isC .BadPit .BadPit, isC .BadPit .NoSeeds, isC .BadPit .NoDeed])) _ = _
    rw [l3 _ rfl, show [isC .BadPit .BadPit, isC .BadPit .NoSeeds, isC .BadPit .NoDeed] = [true, false, false] by decide, bd_ok]
    rfl
  · rw [catch_own (c := .NoSeeds) (by rfl) (by decide), bd_ok, bd_ok]
    show R.bd (.ok false) _ = _
    rw [bd_ok, ifF]
    show R.bd (gd ([isC .NoSeeds .BadPit, isC .NoSeeds .NoSeeds, isC .NoSeeds .NoDeed].length ≤ lim) (.ok [isC .NoSeeds .BadPit, isC .NoSeeds .NoSeeds, isC .NoSeeds .NoDeed])) _ = _
    rw [l3 _ rfl, show [isC .NoSeeds .BadPit, isC .NoSeeds .NoSeeds, isC .NoSeeds .NoDeed] = [false, true, false] by decide, bd_ok]
    rfl
  · rw [catch_own (c := .NoDeed) (by rfl) (by decide), bd_ok, bd_ok]
    show R.bd (.ok false) _ = _
    rw [bd_ok, ifF]
    show R.bd (gd ([isC .NoDeed .BadPit, isC .NoDeed .NoSeeds, isC .NoDeed .NoDeed].length ≤ lim) (.ok [isC .NoDeed .BadPit, isC .NoDeed .NoSeeds, isC .NoDeed .NoDeed])) _ = _
    rw [l3 _ rfl, show [isC .NoDeed .BadPit, isC .NoDeed .NoSeeds, isC .NoDeed .NoDeed] = [false, false, true] by decide, bd_ok]
    rfl
/-- what is told alike -/
def Al (d : Dy) : Prop := dyIs 1 d = false ∧ eqDy d d = .ok true
theorem al_int (x : Int) : Al (DyN.dy x) := ⟨rfl, by rw [eqDy_same (by decide), dT rfl]⟩
theorem al_str (x : Str) : Al (DyN.dy x) := ⟨rfl, by rw [eqDy_same (by decide), dT rfl]⟩
theorem al_non : Al Dy.non := ⟨rfl, by
  unfold eqDy
  rw [gd_pos (by simp [Dy.dp])]
  simp⟩
theorem asked0 {b : Bk} {p : Int} : m__law_asked b 0 p = R.bd (R.bd (m_bk_sow m_sown b p) fun z_ => .ok (DyN.dy z_.1, z_.2)) fun ((r, book) : Dy × Bk) => .ok (r, book) := rfl
theorem asked1 {b : Bk} {p : Int} : m__law_asked b 1 p = R.bd (R.bd (m_bk_back m_taken_back b p) fun z_ => .ok (DyN.dy z_.1, z_.2)) fun ((r, book) : Dy × Bk) => .ok (r, book) := rfl
theorem asked2 {b : Bk} {p : Int} : m__law_asked b 2 p = R.bd (R.bd (m_bk_undo b) fun z_ => .ok (DyN.dy z_.1, z_.2)) fun ((r, book) : Dy × Bk) => .ok (r, book) := rfl
theorem asked3 {b : Bk} {p : Int} : m__law_asked b 3 p = R.bd (R.bd (m_bk_redo b) fun z_ => .ok (DyN.dy z_.1, z_.2)) fun ((r, book) : Dy × Bk) => .ok (r, book) := rfl
theorem step_ok {n i : Nat} {b : Bk} (h : Iv n i b) (hi : i ≤ 900) {way : Int} (pit : Int) (hw : way = 0 ∨ way = 1 ∨ way = 2 ∨ way = 3) : ∃ d b', m__law_due b.boards b.deeds b.gone way pit = .ok (d, b'.boards, b'.deeds, b'.gone) ∧ m__law_told b way pit = .ok (d, b') ∧ Al d ∧ Iv n (i + 1) b' := by
  have hd := h.d
  have hs := h.s
  obtain ⟨B, eB, gB, lB⟩ := h.last
  have iB : idx b.boards (-1) = .ok B := idx_last eB
  have keep : Iv n (i + 1) b := ⟨hd, by omega, h.ok⟩
  have push : ∀ {C : List Int} {d : T3 Str Int Int}, GB C → C.length = n → Iv n (i + 1) ⟨b.boards ++ [C], b.deeds ++ [d], []⟩ := fun {C d} gC lC => by
    refine ⟨?_, ?_, fun X hX => ?_⟩
    · show (b.deeds ++ [d]).length + 1 = (b.boards ++ [C]).length
      rw [List.length_append, List.length_append, List.length_singleton, List.length_singleton]; omega
    · show (b.boards ++ [C]).length + 0 ≤ _
      rw [List.length_append, List.length_singleton]; omega
    · have hX : X ∈ (b.boards ++ [C]) ++ [] := hX
      rw [List.append_nil] at hX
      rcases List.mem_append.mp hX with q | q
      · exact h.ok X (List.mem_append_left _ q)
      · rw [List.mem_singleton.mp q]; exact ⟨gC, lC⟩
  rcases hw with rfl | rfl | rfl | rfl
  · -- sow
    unfold m__law_due
    rw [dF (by decide), dF (by decide), Bool.or_self, bd_ok, ifF, iB, bd_ok, bd_ok]
    by_cases c : pit < 0 ∨ (B.length : Int) ≤ pit
    · have e : (decide (pit < 0) || decide ((B.length : Int) ≤ pit)) = true := by
        rcases c with c | c
        · rw [dT c]; rfl
        · rw [dT c, Bool.or_true]
      have er : m__law_asked b 0 pit = .er (.own .BadPit) := by
        rw [asked0]
        unfold m_bk_sow
        rw [iB, bd_ok]
        unfold m_sown
        rw [seeds_nopit gB c]
        rfl
      rw [e, ifT, bd_ok]
      exact ⟨_, b, rfl, told_er er (.inl rfl), al_str _, keep⟩
    · have p0 : 0 ≤ pit := by omega
      have p1 : pit < B.length := by omega
      have q := getD_some (B := B) (j := pit.toNat) (by omega)
      have ip : idx B pit = .ok (B.getD pit.toNat 0) := idx_ok p0 q
      rw [dF (by omega), dF (by omega), Bool.or_self, ifF, ip, bd_ok, bd_ok]
      by_cases c2 : B.getD pit.toNat 0 = 0
      · have er : m__law_asked b 0 pit = .er (.own .NoSeeds) := by
          rw [asked0]
          unfold m_bk_sow
          rw [iB, bd_ok]
          unfold m_sown
          rw [seeds_no gB p0 p1 (by rw [ip, c2])]
          rfl
        rw [dT c2, ifT, bd_ok]
        exact ⟨_, b, rfl, told_er er (.inr (.inl rfl)), al_str _, keep⟩
      · have nn := gB.2.2.1 _ (List.mem_of_getElem? q)
        have st : St B pit := ⟨gB, p0, p1, by omega⟩
        obtain ⟨S, q2, e1, stS, sS, lS, _⟩ := sow_stp st
        have es : m_bk_sow m_sown b pit = .ok (q2, ⟨b.boards ++ [S], b.deeds ++ [⟨"sow", pit, B.getD pit.toNat 0⟩], []⟩) := by
          unfold m_bk_sow m_bk_done
          rw [iB, bd_ok, e1, bd_ok, bd_ok, ip, bd_ok, bd_ok, gd_pos ⟨by unfold lim; omega, by unfold lim; omega⟩, bd_ok]
        have as : m__law_asked b 0 pit = .ok (DyN.dy q2, ⟨b.boards ++ [S], b.deeds ++ [⟨"sow", pit, B.getD pit.toNat 0⟩], []⟩) := by
          rw [asked0, es]
          rfl
        rw [dF c2, ifF, bd_ok, dT rfl, bd_ok, ifT, e1, bd_ok]
        show ∃ d b', R.bd (R.bd (R.bd (R.bd (R.ok (B.getD pit.toNat 0)) _) _) _) _ = _ ∧ _
        rw [bd_ok, bd_ok, appR_ok (by unfold lim; omega), bd_ok, bd_ok]
        show ∃ d b', R.bd (appR b.boards S) _ = _ ∧ _
        rw [appR_ok (by unfold lim; omega), bd_ok, bd_ok]
        exact ⟨_, _, rfl, told_ok as, al_int _, push stS.g (by omega)⟩
  · -- back
    unfold m__law_due
    rw [dF (by decide), dF (by decide), Bool.or_self, bd_ok, ifF, iB, bd_ok, bd_ok]
    by_cases c : pit < 0 ∨ (B.length : Int) ≤ pit
    · have e : (decide (pit < 0) || decide ((B.length : Int) ≤ pit)) = true := by
        rcases c with c | c
        · rw [dT c]; rfl
        · rw [dT c, Bool.or_true]
      have er : m__law_asked b 1 pit = .er (.own .BadPit) := by
        rw [asked1]
        unfold m_bk_back
        rw [iB, bd_ok]
        unfold m_taken_back
        rw [seeds_nopit gB c]
        rfl
      rw [e, ifT, bd_ok]
      exact ⟨_, b, rfl, told_er er (.inl rfl), al_str _, keep⟩
    · have p0 : 0 ≤ pit := by omega
      have p1 : pit < B.length := by omega
      have q := getD_some (B := B) (j := pit.toNat) (by omega)
      have ip : idx B pit = .ok (B.getD pit.toNat 0) := idx_ok p0 q
      rw [dF (by omega), dF (by omega), Bool.or_self, ifF, ip, bd_ok, bd_ok]
      by_cases c2 : B.getD pit.toNat 0 = 0
      · have er : m__law_asked b 1 pit = .er (.own .NoSeeds) := by
          rw [asked1]
          unfold m_bk_back
          rw [iB, bd_ok]
          unfold m_taken_back
          rw [seeds_no gB p0 p1 (by rw [ip, c2])]
          rfl
        rw [dT c2, ifT, bd_ok]
        exact ⟨_, b, rfl, told_er er (.inr (.inl rfl)), al_str _, keep⟩
      · have nn := gB.2.2.1 _ (List.mem_of_getElem? q)
        have st : St B pit := ⟨gB, p0, p1, by omega⟩
        obtain ⟨M, q2, e1, stM, _, sM, lM⟩ := back_st st
        have es : m_bk_back m_taken_back b pit = .ok (q2, ⟨b.boards ++ [M], b.deeds ++ [⟨"back", pit, 0 - M.getD q2.toNat 0⟩], []⟩) := by
          unfold m_bk_back m_bk_done
          rw [iB, bd_ok, e1, bd_ok]
          show R.bd (R.bd (R.bd (idx M q2) _) _) _ = _
          rw [stM.idx, bd_ok, bd_ok, bd_ok, gd_pos ⟨by unfold lim; omega, by unfold lim; omega⟩, bd_ok]
        have as : m__law_asked b 1 pit = .ok (DyN.dy q2, ⟨b.boards ++ [M], b.deeds ++ [⟨"back", pit, 0 - M.getD q2.toNat 0⟩], []⟩) := by
          rw [asked1, es]
          rfl
        rw [dF c2, ifF, bd_ok, dF (by decide), bd_ok, ifF, e1, bd_ok]
        show ∃ d b', R.bd (R.bd (R.bd (R.bd (R.bd (idx M q2) _) _) _) _) _ = _ ∧ _
        rw [stM.idx, bd_ok, bd_ok, bd_ok, appR_ok (by unfold lim; omega), bd_ok, bd_ok]
        show ∃ d b', R.bd (appR b.boards M) _ = _ ∧ _
        rw [appR_ok (by unfold lim; omega), bd_ok, bd_ok]
        exact ⟨_, _, rfl, told_ok as, al_int _, push stM.g (by omega)⟩
  · -- undo
    unfold m__law_due
    rw [dT rfl, Bool.true_or, bd_ok, ifT, show idx [(b.deeds.length : Int), (b.gone.length : Int)] (2 - 2) = .ok (b.deeds.length : Int) from rfl, bd_ok, bd_ok]
    by_cases c : (b.deeds.length : Int) = 0
    · have er : m__law_asked b 2 pit = .er (.own .NoDeed) := by
        rw [asked2]
        unfold m_bk_undo
        rw [dT c]
        rfl
      rw [dT c, ifT, bd_ok]
      exact ⟨_, b, rfl, told_er er (.inr (.inr rfl)), al_str _, keep⟩
    · obtain ⟨d, ed⟩ : ∃ d, b.deeds.getLast? = some d := by
        cases z : b.deeds.getLast? with
        | none => rw [List.getLast?_eq_none_iff] at z; rw [z] at c; exact absurd rfl c
        | some d => exact ⟨d, rfl⟩
      have es : m_bk_undo b = .ok ((), ⟨b.boards.dropLast, b.deeds.dropLast, b.gone ++ [(d, B)]⟩) := by
        unfold m_bk_undo popLast
        rw [dF c, bd_ok, ifF, ed, eB]
        show gd _ _ = _
        rw [gd_pos (by unfold lim; omega)]
      have as : m__law_asked b 2 pit = .ok (Dy.non, ⟨b.boards.dropLast, b.deeds.dropLast, b.gone ++ [(d, B)]⟩) := by
        rw [asked2, es]
        rfl
      have l1 : lastR b.deeds = .ok (d, b.deeds.dropLast) := by unfold lastR; rw [ed]
      have l2 : lastR b.boards = .ok (B, b.boards.dropLast) := by unfold lastR; rw [eB]
      rw [dF c, ifF, bd_ok, ifT, l1, bd_ok, l2, bd_ok, appR_ok (by unfold lim; omega), bd_ok, bd_ok]
      refine ⟨_, ⟨b.boards.dropLast, b.deeds.dropLast, b.gone ++ [(d, B)]⟩, rfl, told_ok as, al_non, ?_, ?_, fun X hX => ?_⟩
      · show b.deeds.dropLast.length + 1 = b.boards.dropLast.length
        rw [List.length_dropLast, List.length_dropLast]; omega
      · show b.boards.dropLast.length + (b.gone ++ [(d, B)]).length ≤ _
        rw [List.length_dropLast, List.length_append, List.length_singleton]; omega
      · have hX : X ∈ b.boards.dropLast ++ (b.gone ++ [(d, B)]).map Prod.snd := hX
        rw [List.map_append] at hX
        rcases List.mem_append.mp hX with q | q
        · exact h.ok X (List.mem_append_left _ (List.dropLast_subset _ q))
        · rcases List.mem_append.mp q with q | q
          · exact h.ok X (List.mem_append_right _ q)
          · have : X = B := by simpa using q
            rw [this]; exact ⟨gB, lB⟩
  · -- redo
    unfold m__law_due
    rw [dF (by decide), dT rfl, Bool.or_true, bd_ok, ifT, show idx [(b.deeds.length : Int), (b.gone.length : Int)] (3 - 2) = .ok (b.gone.length : Int) from rfl, bd_ok, bd_ok]
    by_cases c : (b.gone.length : Int) = 0
    · have er : m__law_asked b 3 pit = .er (.own .NoDeed) := by
        rw [asked3]
        unfold m_bk_redo
        rw [dT c]
        rfl
      rw [dT c, ifT, bd_ok]
      exact ⟨_, b, rfl, told_er er (.inr (.inr rfl)), al_str _, keep⟩
    · obtain ⟨t, et⟩ : ∃ t, b.gone.getLast? = some t := by
        cases z : b.gone.getLast? with
        | none => rw [List.getLast?_eq_none_iff] at z; rw [z] at c; exact absurd rfl c
        | some d => exact ⟨d, rfl⟩
      obtain ⟨d, C⟩ := t
      have gC := h.ok C (List.mem_append_right _ (List.mem_map.mpr ⟨_, List.mem_of_getLast? et, rfl⟩))
      have gl : b.gone.dropLast.length = b.gone.length - 1 := List.length_dropLast ..
      have es : m_bk_redo b = .ok ((), ⟨b.boards ++ [C], b.deeds ++ [d], b.gone.dropLast⟩) := by
        unfold m_bk_redo popLast
        rw [dF c, bd_ok, ifF, et]
        show gd _ _ = _
        rw [gd_pos ⟨by unfold lim; omega, by unfold lim; omega⟩]
      have as : m__law_asked b 3 pit = .ok (Dy.non, ⟨b.boards ++ [C], b.deeds ++ [d], b.gone.dropLast⟩) := by
        rw [asked3, es]
        rfl
      have l1 : lastR b.gone = .ok ((d, C), b.gone.dropLast) := by unfold lastR; rw [et]
      rw [dF c, ifF, bd_ok, ifF, l1, bd_ok]
      show ∃ d' b', R.bd (R.bd (appR b.deeds d) _) _ = _ ∧ _
      rw [appR_ok (by unfold lim; omega), bd_ok, appR_ok (by unfold lim; omega), bd_ok, bd_ok]
      refine ⟨_, ⟨b.boards ++ [C], b.deeds ++ [d], b.gone.dropLast⟩, rfl, told_ok as, al_non, ?_, ?_, fun X hX => ?_⟩
      · show (b.deeds ++ [d]).length + 1 = (b.boards ++ [C]).length
        rw [List.length_append, List.length_append, List.length_singleton, List.length_singleton]; omega
      · show (b.boards ++ [C]).length + b.gone.dropLast.length ≤ _
        rw [List.length_append, List.length_singleton]; omega
      · have hX : X ∈ (b.boards ++ [C]) ++ b.gone.dropLast.map Prod.snd := hX
        rcases List.mem_append.mp hX with q | q
        · rcases List.mem_append.mp q with q | q
          · exact h.ok X (List.mem_append_left _ q)
          · rw [List.mem_singleton.mp q]; exact gC
        · obtain ⟨y, hy, rfl⟩ := List.mem_map.mp q
          exact h.ok _ (List.mem_append_right _ (List.mem_map.mpr ⟨y, List.dropLast_subset _ hy, rfl⟩))
theorem law_true (ns : List Int) (hl : ns.length ≤ 63) (hb : ∀ k ∈ ns, Builtin.Int.intBits k ≤ 1048576) : m_law ⟨ns⟩ = .ok true := by
  refine ok_is ?_
  unfold m_law
  obtain ⟨head, eh⟩ := law_at_ok ns
  rw [eh, bd_ok, bd_ok]
  refine ok_bd (P := fun p : Int => 2 ≤ p ∧ p ≤ 24) ?_ fun pits hp => ?_
  · rw [bd_ok]
    refine ok_it (fun c => ?_) fun c => ok_ret (by omega)
    rw [bd_ok]
    exact ok_ret (by omega)
  obtain ⟨n, rfl⟩ : ∃ n : Nat, pits = (n : Int) := ⟨pits.toNat, by omega⟩
  obtain ⟨B, e0, l0, gB⟩ := board_ok ns hl (head / 720 % 4) hp.1 (by omega)
  have g1 := gB.1
  have hi : m_bk_init m_ask_board B = .ok ⟨[B], [], []⟩ := by
    unfold m_bk_init
    rw [ask_board_ok gB]
    rfl
  rw [e0, bd_ok, bd_ok, hi, bd_ok, idx_at (by decide) (by omega), bd_ok, bd_ok, setR_ok (by decide) (by omega), bd_ok, gd_pos (by show 1 ≤ lim; unfold lim; omega), bd_ok, bd_ok, gd_pos (by show 0 ≤ lim; unfold lim; omega), bd_ok, bd_ok]
  have hc : (cut (Scr.mk ns).l none (some (63 : Int))).length ≤ 63 := by
    unfold cut
    rw [List.length_take]
    have : HT.sIx (Scr.mk ns).l.length (Scr.mk ns).l.length (some (63 : Int)) ≤ 63 := by
      rw [show (63 : Int) = ((63 : Nat) : Int) from rfl, HT.sIx_nat]
      omega
    omega
  generalize cut (Scr.mk ns).l none (some (63 : Int)) = cells at hc
  refine ok_bd (ok_forR (fun i (z : (List (List Int)) × (List (T3 Str Int Int)) × (List ((T3 Str Int Int) × (List Int))) × Bk) => z.1 = z.2.2.2.boards ∧ z.2.1 = z.2.2.2.deeds ∧ z.2.2.1 = z.2.2.2.gone ∧ Iv n i z.2.2.2) (fun _ => False) (fun _ => False) ⟨rfl, rfl, rfl, rfl, Nat.le_refl _, fun C hC => by rw [show C = B by simpa using hC]; exact ⟨gB, by omega⟩⟩ ?_) ?_
  · rintro i cell ⟨boards, deeds, gone, b⟩ hcell ⟨h1, h2, h3, h⟩
    have ci := (List.getElem?_eq_some_iff.mp hcell).1
    replace h : Iv n i b := h
    obtain rfl : boards = b.boards := h1
    obtain rfl : deeds = b.deeds := h2
    obtain rfl : gone = b.gone := h3
    have w0 := Int.emod_nonneg cell (show (7 : Int) ≠ 0 by decide)
    have w1 := Int.emod_lt_of_pos cell (show (0 : Int) < 7 by decide)
    refine ok_bd (P := fun w : Int => w = 0 ∨ w = 1 ∨ w = 2 ∨ w = 3) (ok_idx w0 (by show cell % 7 < 7; exact w1) fun x _ hx => ?_) fun way hw => ?_
    · simp only [List.mem_cons, List.not_mem_nil, or_false] at hx
      omega
    rw [modR_ok (by omega), bd_ok]
    refine ok_bd (P := fun _ : Int => True) ?_ fun pit _ => ?_
    · rw [bd_ok]
      refine ok_it (fun c => ?_) fun c => ok_ret trivial
      rw [bd_ok]
      have f0 := Int.emod_nonneg (cell / 441 % 10 ^ 60) (show (4 : Int) ≠ 0 by decide)
      have f1 := Int.emod_lt_of_pos (cell / 441 % 10 ^ 60) (show (0 : Int) < 4 by decide)
      refine ok_bd (P := fun _ => True) (ok_idx f0 (by show _ < (4 : Int); exact f1) fun _ _ _ => trivial) fun _ _ => ok_ret trivial
    obtain ⟨d, b', e1, e2, ⟨a1, a2⟩, hv⟩ := step_ok h (by omega) pit hw
    rw [e1, bd_ok]
    show Ok (R.bd (m__law_told b way pit) _) _
    rw [e2, bd_ok]
    show Ok (R.bd (if dyIs 1 d = true then _ else R.bd (R.bd (eqDy d d) _) _) _) _
    rw [a1, ifF, a2, bd_ok, Bool.not_true, bd_ok, ifF, kept_ok hv (by omega), bd_ok, Bool.not_true, bd_ok, ifF]
    exact ok_ret ⟨rfl, rfl, rfl, hv⟩
  · rintro (z | z | z) hz
    · rcases hz with ⟨h1, h2, h3, h⟩ | hz
      · obtain ⟨boards, deeds, gone, b⟩ := z
        replace h : Iv n cells.length b := h
        obtain rfl : boards = b.boards := h1
        obtain rfl : deeds = b.deeds := h2
        show Ok (R.bd (m__law_as_kept b b.boards b.deeds (head / 7)) _) _
        rw [kept_ok h (by omega), bd_ok]
        exact ok_ret rfl
      · exact hz.elim
    · exact hz.elim
    · exact hz.elim
end G

set_option Elab.async false
set_option linter.all false
set_option maxRecDepth 100000
set_option maxHeartbeats 4000000
namespace G
open PySem PySem.Spec PyProof.Rows L2
abbrev Rr : PySem.W.OpenRow := PySem.W.OpenLaw.row PySem.Challenge.rw_sowring_k58_deeds_of_a_book
abbrev hk : PySem.W.Hook := hookF 5 fa fn bx
def ob (s : PySem.W.SharedT) : He.AlD := obsF 5 fa fn bx (HandSHeadRun.getT s)
theorem ob_eq (s : PySem.W.SharedT) : ob s = hk.obs s.abs := obsF_eq (HandSHeadRun.getT_eq s)
theorem run (w : World) : HandSHeadRun.RunEq Rr (PySem.W.view Rr.prog [29]) hk ob 30000 ((["SowError", "BadBoard", "BadPit", "NoSeeds", "NoDeed", "FEWEST_PITS", "MOST_PITS", "MOST_SEEDS", "ask_board", "ask_pit", "ask_seeds", "put_round", "sown_plain", "sown", "first_emptied", "taken_back", "RingBook", "bk_board", "bk_plan", "bk_sown_in_all", "bk_came_again", "_law_at", "_law_folded", "_law_board", "_law_asked", "_law_told", "_law_due", "_law_again", "_law_as_kept"] : List PySem.Str)) w := by
  intro os
  kernel_rfl
theorem hd_of {K : PySem.W.Frag} {h : Heap} {mg : Str → Option Value} (X : K.In h) (G : h.Ns mainGlobals mg) (c : SaysG fa fn bx K) : Hd K mg where
  g_ask_board := He.glo_ok X G (c.d.fact 0 (f := .glo "ask_board") rfl)
  g_ask_pit := He.glo_ok X G (c.d.fact 1 (f := .glo "ask_pit") rfl)
  g_ask_seeds := He.glo_ok X G (c.d.fact 2 (f := .glo "ask_seeds") rfl)
  g_put_round := He.glo_ok X G (c.d.fact 3 (f := .glo "put_round") rfl)
  g_sown_plain := He.glo_ok X G (c.d.fact 4 (f := .glo "sown_plain") rfl)
  g_sown := He.glo_ok X G (c.d.fact 5 (f := .glo "sown") rfl)
  g_first_emptied := He.glo_ok X G (c.d.fact 6 (f := .glo "first_emptied") rfl)
  g_taken_back := He.glo_ok X G (c.d.fact 7 (f := .glo "taken_back") rfl)
  me_bk_board := He.meth_ok (c.d.fact 8 rfl)
  me_bk_plan := He.meth_ok (c.d.fact 9 rfl)
  me_bk_sown_in_all := He.meth_ok (c.d.fact 10 rfl)
  me_bk_came_again := He.meth_ok (c.d.fact 11 rfl)
  g__law_at := He.glo_ok X G (c.d.fact 12 (f := .glo "_law_at") rfl)
  g__law_folded := He.glo_ok X G (c.d.fact 13 (f := .glo "_law_folded") rfl)
  g__law_board := He.glo_ok X G (c.d.fact 14 (f := .glo "_law_board") rfl)
  g__law_asked := He.glo_ok X G (c.d.fact 15 (f := .glo "_law_asked") rfl)
  g__law_told := He.glo_ok X G (c.d.fact 16 (f := .glo "_law_told") rfl)
  g__law_due := He.glo_ok X G (c.d.fact 17 (f := .glo "_law_due") rfl)
  g__law_again := He.glo_ok X G (c.d.fact 18 (f := .glo "_law_again") rfl)
  g__law_as_kept := He.glo_ok X G (c.d.fact 19 (f := .glo "_law_as_kept") rfl)
  g_law := He.glo_ok X G (c.d.fact 20 (f := .glo "law") rfl)
  bk := ⟨He.cls_ok (c.d.fact 21 rfl), He.noat_ok (c.d.fact 22 rfl), He.noat_ok (c.d.fact 23 rfl), He.noat_ok (c.d.fact 24 rfl)⟩
  d_bk_undo := c.d.def_ 21 (d := d_bk_undo) rfl
  me_bk_undo := He.meth_ok (c.d.fact 25 rfl)
  d_bk_redo := c.d.def_ 22 (d := d_bk_redo) rfl
  me_bk_redo := He.meth_ok (c.d.fact 26 rfl)
  d_bk_done := c.d.def_ 23 (d := d_bk_done) rfl
  me_bk_done := He.meth_ok (c.d.fact 27 rfl)
  d_bk_sow := c.d.def_ 24 (d := d_bk_sow) rfl
  me_bk_sow := He.meth_ok (c.d.fact 28 rfl)
  d_bk_back := c.d.def_ 25 (d := d_bk_back) rfl
  me_bk_back := He.meth_ok (c.d.fact 29 rfl)
  d_bk_init := c.d.def_ 26 (d := d_bk_init) rfl
  me_bk_init := He.meth_ok (c.d.fact 30 rfl)
  mk_bk := He.mkr_ok (c.d.fact 31 rfl)
  g_bk := He.glo_ok X G (c.d.fact 32 (f := .glo "RingBook") rfl)
  d_bk_board := c.d.def_ 8 (d := d_bk_board) rfl
  d_bk_plan := c.d.def_ 9 (d := d_bk_plan) rfl
  d_bk_sown_in_all := c.d.def_ 10 (d := d_bk_sown_in_all) rfl
  d_bk_came_again := c.d.def_ 11 (d := d_bk_came_again) rfl
  d_ask_board := c.d.def_ 0 (d := d_ask_board) rfl
  d_ask_pit := c.d.def_ 1 (d := d_ask_pit) rfl
  d_ask_seeds := c.d.def_ 2 (d := d_ask_seeds) rfl
  d_put_round := c.d.def_ 3 (d := d_put_round) rfl
  d_sown_plain := c.d.def_ 4 (d := d_sown_plain) rfl
  d_sown := c.d.def_ 5 (d := d_sown) rfl
  d_first_emptied := c.d.def_ 6 (d := d_first_emptied) rfl
  d_taken_back := c.d.def_ 7 (d := d_taken_back) rfl
  d__law_at := c.d.def_ 12 (d := d__law_at) rfl
  d__law_folded := c.d.def_ 13 (d := d__law_folded) rfl
  d__law_board := c.d.def_ 14 (d := d__law_board) rfl
  d__law_asked := c.d.def_ 15 (d := d__law_asked) rfl
  d__law_told := c.d.def_ 16 (d := d__law_told) rfl
  d__law_due := c.d.def_ 17 (d := d__law_due) rfl
  d__law_again := c.d.def_ 18 (d := d__law_again) rfl
  d__law_as_kept := c.d.def_ 19 (d := d__law_as_kept) rfl
  d_law := c.d.def_ 20 (d := d_law) rfl
  f_ValueError := He.free_ok X G (c.d.fact 33 (f := .free "ValueError") rfl)
  f_bool := He.free_ok X G (c.d.fact 34 (f := .free "bool") rfl)
  f_int := He.free_ok X G (c.d.fact 35 (f := .free "int") rfl)
  f_isinstance := He.free_ok X G (c.d.fact 36 (f := .free "isinstance") rfl)
  f_len := He.free_ok X G (c.d.fact 37 (f := .free "len") rfl)
  f_list := He.free_ok X G (c.d.fact 38 (f := .free "list") rfl)
  f_min := He.free_ok X G (c.d.fact 39 (f := .free "min") rfl)
  f_range := He.free_ok X G (c.d.fact 40 (f := .free "range") rfl)
  f_sorted := He.free_ok X G (c.d.fact 41 (f := .free "sorted") rfl)
  f_sum := He.free_ok X G (c.d.fact 42 (f := .free "sum") rfl)
  c_FEWEST_PITS := He.int_ok X G (c.d.fact 43 rfl)
  c_MOST_PITS := He.int_ok X G (c.d.fact 44 rfl)
  c_MOST_SEEDS := He.int_ok X G (c.d.fact 45 rfl)
  g_SowError := He.glo_ok X G (c.d.fact 46 (f := .glo "SowError") rfl)
  k_SowError := kn_ok (c := .SowError) (c.d.fact 46 rfl)
  x_SowError := exc_ok (c.d.fact 47 rfl)
  g_BadBoard := He.glo_ok X G (c.d.fact 48 (f := .glo "BadBoard") rfl)
  k_BadBoard := kn_ok (c := .BadBoard) (c.d.fact 48 rfl)
  x_BadBoard := exc_ok (c.d.fact 49 rfl)
  g_BadPit := He.glo_ok X G (c.d.fact 50 (f := .glo "BadPit") rfl)
  k_BadPit := kn_ok (c := .BadPit) (c.d.fact 50 rfl)
  x_BadPit := exc_ok (c.d.fact 51 rfl)
  g_NoSeeds := He.glo_ok X G (c.d.fact 52 (f := .glo "NoSeeds") rfl)
  k_NoSeeds := kn_ok (c := .NoSeeds) (c.d.fact 52 rfl)
  x_NoSeeds := exc_ok (c.d.fact 53 rfl)
  g_NoDeed := He.glo_ok X G (c.d.fact 54 (f := .glo "NoDeed") rfl)
  k_NoDeed := kn_ok (c := .NoDeed) (c.d.fact 54 rfl)
  x_NoDeed := exc_ok (c.d.fact 55 rfl)
  cfs := fun d hd => cf_of (List.all_eq_true.mp (He.ba c.b |>.1) d hd)
  cf_SowError := cf_of (List.all_eq_true.mp (He.ba c.b |>.1) .SowError (by decide))
  cf_BadBoard := cf_of (List.all_eq_true.mp (He.ba c.b |>.1) .BadBoard (by decide))
  cf_BadPit := cf_of (List.all_eq_true.mp (He.ba c.b |>.1) .BadPit (by decide))
  cf_NoSeeds := cf_of (List.all_eq_true.mp (He.ba c.b |>.1) .NoSeeds (by decide))
  cf_NoDeed := cf_of (List.all_eq_true.mp (He.ba c.b |>.1) .NoDeed (by decide))
  exm_SowError := by
      simp only [List.forall_mem_cons, List.not_mem_nil, false_implies, implies_true, and_true]
      exact ⟨exm_ok (c.d.fact 56 rfl), exm_ok (c.d.fact 57 rfl), exm_ok (c.d.fact 58 rfl), exm_ok (c.d.fact 59 rfl), exm_ok (c.d.fact 60 rfl)⟩
  only := fun d hd => by
      have q := List.all_eq_true.mp (He.ba c.b).2 d (mem_allCn d)
      rw [hd] at q
      simpa using q
  m_SowError := meth_ok (c.d.fact 61 rfl)
  dc_SowError := c.d.def_ 27 (d := d_cSowError) rfl
  m_BadBoard := meth_ok (c.d.fact 62 rfl)
  dc_BadBoard := c.d.def_ 28 (d := d_cBadBoard) rfl
  m_BadPit := meth_ok (c.d.fact 63 rfl)
  dc_BadPit := c.d.def_ 29 (d := d_cBadPit) rfl
  m_NoSeeds := meth_ok (c.d.fact 64 rfl)
  dc_NoSeeds := c.d.def_ 30 (d := d_cNoSeeds) rfl
  m_NoDeed := meth_ok (c.d.fact 65 rfl)
  dc_NoDeed := c.d.def_ 31 (d := d_cNoDeed) rfl
end G
open PySem PySem.W PySem.Calls PyProof.Rows
set_option maxRecDepth 100000 in
set_option maxHeartbeats 0 in
theorem PySem.Challenge.cw_sowring_k58_deeds_of_a_book_holds : PySem.Challenge.rw_sowring_k58_deeds_of_a_book.Holds := by
  w_on; o_law
  refine HandSHeadRun.head_any (r := OpenLaw.row PySem.Challenge.rw_sowring_k58_deeds_of_a_book) (q := view (OpenLaw.row PySem.Challenge.rw_sowring_k58_deeds_of_a_book).prog [29]) (H := G.hk) (ob := G.ob) (M := 30000) (loose := ((["SowError", "BadBoard", "BadPit", "NoSeeds", "NoDeed", "FEWEST_PITS", "MOST_PITS", "MOST_SEEDS", "ask_board", "ask_pit", "ask_seeds", "put_round", "sown_plain", "sown", "first_emptied", "taken_back", "RingBook", "bk_board", "bk_plan", "bk_sown_in_all", "bk_came_again", "_law_at", "_law_folded", "_law_board", "_law_asked", "_law_told", "_law_due", "_law_again", "_law_as_kept"] : List PySem.Str))) (d := HandSHeadRun.topDef (OpenLaw.row PySem.Challenge.rw_sowring_k58_deeds_of_a_book).prog 29) (kwd := []) G.ob_eq
    (by kernel_rfl) (fun s => by kernel_rfl) G.run (by kernel_rfl) (by kernel_rfl) (by kernel_rfl) (by rfl) (by first | assumption | decide +kernel) (by decide +kernel) ⟨rfl, rfl, rfl, rfl, rfl, by decide +kernel⟩ ?hw ?hc
  case hw => w_witness2
  case hc =>
    refine G.walk_ofW (l := PySem.Challenge.rw_sowring_k58_deeds_of_a_book) (n := 63) (k := 7) (x := "script") (CX := fun w => L2.CX PySem.Challenge.rw_sowring_k58_deeds_of_a_book.prog w) rfl (by decide) (by kernel_rfl) ⟨rfl, by decide, by decide⟩ ?F ?C
    case C =>
      intro w H s e s' h
      obtain ⟨_, _, _, _, _, _, _, _, _, _, _, _, z⟩ := h
      exact z
    case F =>
      intro w mg fa h Y G' hmg0
      obtain ⟨K, KX, c⟩ := Y
      have hmg : mg ("law" : PySem.Str) = some (.ref fa) := by
        have e : (HandSHeadRun.topDef (OpenLaw.row PySem.Challenge.rw_sowring_k58_deeds_of_a_book).prog 29).name = ("law" : PySem.Str) := by kernel_rfl
        rw [← e]
        exact hmg0
      have T : G.Hd K mg := G.hd_of KX G' c
      have e := hmg.symm.trans T.g_law
      cases e
      obtain ⟨fd, F⟩ := T.d_law
      have b := L2.FunD.bindsA (ps := ["script"]) F fun _ _ _ _ _ _ us hl => match us, hl with | [_], _ => rfl
      exact ⟨K, fd, G.sp1 K G.m_law, KX, fun s v => b s [v] rfl, fun H a ns hl hb hS => ⟨_, ⟨ns⟩, rfl, ⟨a, rfl, hS⟩, by
        rw [G.law_true ns hl hb]
        exact fun v' H' _ r => r⟩, fun base _ _ => G.ok_law T F⟩
