import PyProof.Rows.All
import Wide.All
import OpenK.AllK
import Wide.FinOn
import PyProof.EqAt
import PyProof.EqKinds
import PyProof.TupleCall
import KE.KStateDown
import Lean
import HandS.ForMost
import HandS.Exc
import HandS.TryOnly
import HandS.ExcOwn
import HandS.ExcIs
import HandS.ExcValue
import HandS.IsInst
import HandS.More
import HandS.Wide
import HandS.Words
import HandS.WordsExc
import HandS.WordsList
import HandS.Defaults
import HandS.Evl
import HandS.Head0
import HandS.Head1
import HandS.Head2
import HandS.HeadEnd
import HandS.HeadHook1
import HandS.HeadHook2
import KE.DataEq
import KE.KExcMore
import KE.KExcIs
import HandS.EndBits
import HandS.Sort
import KE.SortData
import KE.DataMinMax
import KE.DataCmp
import HandS.Deep
import HandS.Rev
import KE.KDictList
import HandS.Dict
import HandS.TupLen
import HandS.Conv
import KE.KDictSum
import KE.KDictDisplayH
import KE.GoesMore
import KE.GoesEnum
import KE.DatumOrd
import HandS.SortKw
import HandS.ExcInit
import HandS.ExcField
import PySem.Challenge.RW_sowring_k35_lines_ahead
set_option Elab.async false
set_option linter.all false
set_option maxRecDepth 100000
set_option maxHeartbeats 2000000
/-! G: outcomes, what a value tells, what an expression evaluates to. -/
namespace G
open PySem PySem.Spec PyProof.Rows L2

/-! ### outcomes -/
inductive Cn where
  | SowError | BadBoard | BadPit | BadPits | BadCount | NoSeeds | BadPlan | Unlike | TooLong | TooMany | BadLine | BadRow | BadYard | NoDeed | BadText
  deriving DecidableEq, Repr
def Cn.nm : Cn → Str
  | .SowError => "SowError" | .BadBoard => "BadBoard" | .BadPit => "BadPit" | .BadPits => "BadPits" | .BadCount => "BadCount" | .NoSeeds => "NoSeeds"
  | .BadPlan => "BadPlan" | .Unlike => "Unlike" | .TooLong => "TooLong" | .TooMany => "TooMany" | .BadLine => "BadLine" | .BadRow => "BadRow"
  | .BadYard => "BadYard" | .NoDeed => "NoDeed" | .BadText => "BadText"
inductive Er where
  | own (c : Cn)
  | plan (n : Int)
  deriving DecidableEq, Repr
inductive R (α : Type) where
  | ok (a : α)
  | er (e : Er)
  | bad
  deriving DecidableEq, Repr
def R.bd {α β : Type} (m : R α) (f : α → R β) : R β := match m with
  | .ok a => f a
  | .er e => .er e
  | .bad => .bad
def Wp {α : Type} (m : R α) (k : α → Prop) (e : Er → Prop) : Prop := match m with
  | .ok a => k a
  | .er c => e c
  | .bad => False
section
variable {α β γ : Type} {m : R α} {f : α → R β} {k : β → Prop} {e e' : Er → Prop}
theorem wp_bd : Wp (R.bd m f) k e = Wp m (fun a => Wp (f a) k e) e := by cases m <;> rfl
theorem wp_mono {k k' : α → Prop} (h : Wp m k e) (hk : ∀ a, m = .ok a → k a → k' a) (he : ∀ c, m = .er c → e c → e' c) : Wp m k' e' := by
  cases m with
  | ok a => exact hk a rfl h
  | er c => exact he c rfl h
  | bad => exact h
theorem bd_ok {a : α} : R.bd (.ok a) f = f a := rfl
theorem bd_er {c : Er} : R.bd (.er c) f = .er c := rfl
theorem bd_bad : R.bd .bad f = .bad := rfl
theorem bd_assoc {g : β → R γ} : R.bd (R.bd m f) g = R.bd m fun a => R.bd (f a) g := by cases m <;> rfl
theorem bd_id {m : R α} : R.bd m (fun a => .ok a) = m := by cases m <;> rfl
end
/-- nothing is raised, or it is not promised -/
def R.nx {α : Type} (m : R α) : R α := match m with
  | .ok a => .ok a
  | _ => .bad
/-! ### heaps -/
/-- a tuple never changes: it is seen from everywhere -/
def tupB : Option HO → Bool
  | some (.tup _) => true
  | _ => false
def dif (H0 H : Hp) : Hp := fun b => if tupB (H b) = true then H b else if (H0 b).isSome = true then none else H b
def mix (F H H' : Hp) : Hp := fun b => if (H b).isSome = true then (if tupB (H b) = true then H b else F b) else H' b
theorem dif_some {H0 H : Hp} {b : Addr} {o : HO} (h : dif H0 H b = some o) : (H0 b = none ∨ tupB (some o) = true) ∧ H b = some o := by
  unfold dif at h
  split at h
  · rename_i c
    rw [h] at c
    exact ⟨.inr c, h⟩
  · split at h
    · cases h
    · rename_i c
      refine ⟨.inl ?_, h⟩
      cases q : H0 b with
      | none => rfl
      | some u => rw [q] at c; exact absurd rfl c
theorem dif_of {H0 H : Hp} {b : Addr} {o : HO} (h0 : H0 b = none) (h : H b = some o) : dif H0 H b = some o := by
  unfold dif
  rw [h0]
  split <;> exact h
theorem dif_tup {H0 H : Hp} {b : Addr} {o : HO} (h0 : tupB (some o) = true) (h : H b = some o) : dif H0 H b = some o := by
  unfold dif
  rw [h, if_pos h0]
theorem dif_of' {H0 H : Hp} {b : Addr} {o : HO} (h0 : H0 b = none ∨ tupB (some o) = true) (h : H b = some o) : dif H0 H b = some o := h0.elim (fun z => dif_of z h) fun z => dif_tup z h
theorem mix_new {F H H' : Hp} {p : Addr} (h : H p = none) : mix F H H' p = H' p := by
  unfold mix
  rw [h]
  rfl
theorem mix_tup {F H H' : Hp} {p : Addr} {o : HO} (h : H p = some o) (ho : tupB (some o) = true) : mix F H H' p = some o := by
  unfold mix
  rw [h, if_pos (show (some o).isSome = true from rfl), if_pos ho]
theorem mix_old {F H H' : Hp} {p : Addr} {o : HO} (h : H p = some o) (ho : tupB (some o) = false := by rfl) : mix F H H' p = F p := by
  unfold mix
  rw [h, if_pos (show (some o).isSome = true from rfl), if_neg (by rw [ho]; decide)]
theorem mix_cases {F H H' : Hp} {p : Addr} {o : HO} (h : mix F H H' p = some o) : (H p = none ∧ H' p = some o) ∨ (H p = some o ∧ tupB (some o) = true) ∨ (∃ u, H p = some u ∧ tupB (some u) = false ∧ F p = some o) := by
  cases q : H p with
  | none => rw [mix_new q] at h; exact .inl ⟨rfl, h⟩
  | some u =>
    cases z : tupB (some u) with
    | true => rw [mix_tup q z] at h; cases h; exact .inr (.inl ⟨rfl, z⟩)
    | false => rw [mix_old q z] at h; exact .inr (.inr ⟨u, rfl, z, h⟩)
theorem same_mix {F H H' : Hp} (hF : Same F H) : Same F (mix F H H') := fun b o q => by
  have h := hF b o q
  cases z : tupB (some o) with
  | true => exact mix_tup h z
  | false => rw [mix_old h z]; exact q
theorem mix_same {F H H' : Hp} (hF : Same F H) (e : Same H H') : Same (mix F H H') H' := fun b o q => by
  rcases mix_cases q with ⟨_, h⟩ | ⟨h, _⟩ | ⟨_, _, _, h⟩
  · exact h
  · exact e b o h
  · exact e b o (hF b o h)
theorem mix_mono {F H H' H2 : Hp} (e : Same H' H2) : Same (mix F H H') (mix F H H2) := fun b o q => by
  rcases mix_cases q with ⟨h, h2⟩ | ⟨h, z⟩ | ⟨u, h, z, h2⟩
  · rw [mix_new h]; exact e b o h2
  · exact mix_tup h z
  · rw [mix_old h z]; exact h2
/-- the new part of a later heap lies in the mix -/
theorem dif_mix {F H H1 H' : Hp} (e : Same H H1) (e1 : Same H1 H') : Same (dif H1 H') (mix F H H') := fun b o q => by
  obtain ⟨h1, h2⟩ := dif_some q
  cases z : H b with
  | none => rw [mix_new z]; exact h2
  | some u =>
    rcases h1 with h1 | h1
    · rw [Same.free e h1] at z; cases z
    · have := (e.trans e1) b u z
      rw [h2] at this
      cases this
      exact mix_tup z h1
theorem dif_mono {H0 H H' : Hp} (e : Same H H') : Same (dif H0 H) (dif H0 H') := fun b o q => by
  obtain ⟨h1, h2⟩ := dif_some q
  exact dif_of' h1 (e b o h2)
theorem dif_le {H0 H : Hp} : Same (dif H0 H) H := fun b o q => (dif_some q).2
/-- what is new since H1 is new since H0 -/
theorem dif_back {H0 H1 H' : Hp} (e : Same H0 H1) : Same (dif H1 H') (dif H0 H') := fun b o q => by
  obtain ⟨h1, h2⟩ := dif_some q
  exact dif_of' (h1.elim (fun z => .inl (Same.free e z)) .inr) h2
theorem mix_dif {H0 F H H' : Hp} (e0 : Same H0 H) (hF : Same F H) (e : Same H H') : Same (mix (dif H0 F) H H') (dif H0 (mix F H H')) := fun b o q => by
  rcases mix_cases q with ⟨h, h2⟩ | ⟨h, z⟩ | ⟨u, h, z, h2⟩
  · exact dif_of (Same.free e0 h) (by rw [mix_new h]; exact h2)
  · exact dif_tup z (mix_tup h z)
  · obtain ⟨h3, h4⟩ := dif_some h2
    exact dif_of' h3 (same_mix hF b o h4)
/-! ### what a value tells -/
class Rp (α : Type) where
  rep : PySem.W.Frag → Hp → V → α → Prop
  mono : ∀ {K : PySem.W.Frag} {H H' : Hp} {v : V} {a : α}, Same H H' → rep K H v a → rep K H' v a
inductive All2 {α β : Type} (F : α → β → Prop) : List α → List β → Prop
  | nil : All2 F [] []
  | cons {a : α} {b : β} {l : List α} {l' : List β} : F a b → All2 F l l' → All2 F (a :: l) (b :: l')
section
variable {α β : Type} {F F' : α → β → Prop}
theorem All2.mono (h : ∀ a b, F a b → F' a b) : ∀ {l : List α} {l' : List β}, All2 F l l' → All2 F' l l'
  | _, _, .nil => .nil
  | _, _, .cons r t => .cons (h _ _ r) (All2.mono h t)
theorem All2.length : ∀ {l : List α} {l' : List β}, All2 F l l' → l.length = l'.length
  | _, _, .nil => rfl
  | _, _, .cons r t => by simp [All2.length t]
theorem All2.get : ∀ {l : List α} {l' : List β} {i : Nat} {b : β}, All2 F l l' → l'[i]? = some b → ∃ a, l[i]? = some a ∧ F a b
  | _, _, _, _, .nil, e => by simp at e
  | _, _, 0, _, .cons r t, e => by
    simp at e
    subst e
    exact ⟨_, rfl, r⟩
  | _, _, i + 1, b, .cons r t, e => by
    obtain ⟨a, h1, h2⟩ := All2.get (i := i) (b := b) t (by simpa using e)
    exact ⟨a, by simpa using h1, h2⟩
theorem All2.getL : ∀ {l : List α} {l' : List β} {i : Nat} {a : α}, All2 F l l' → l[i]? = some a → ∃ b, l'[i]? = some b ∧ F a b
  | _, _, _, _, .nil, e => by simp at e
  | _, _, 0, _, .cons r t, e => by
    simp at e
    subst e
    exact ⟨_, rfl, r⟩
  | _, _, i + 1, b, .cons r t, e => by
    obtain ⟨a, h1, h2⟩ := All2.getL (i := i) (a := b) t (by simpa using e)
    exact ⟨a, by simpa using h1, h2⟩
theorem All2.set {a : α} {b : β} (r : F a b) : ∀ {l : List α} {l' : List β} (i : Nat), All2 F l l' → All2 F (l.set i a) (l'.set i b)
  | _, _, _, .nil => .nil
  | _, _, 0, .cons _ t => .cons r t
  | _, _, i + 1, .cons q t => .cons q (All2.set r i t)
theorem All2.append : ∀ {l m : List α} {l' m' : List β}, All2 F l l' → All2 F m m' → All2 F (l ++ m) (l' ++ m')
  | _, _, _, _, .nil, s => s
  | _, _, _, _, .cons r t, s => .cons r (All2.append t s)
theorem All2.take : ∀ {l : List α} {l' : List β} (n : Nat), All2 F l l' → All2 F (l.take n) (l'.take n)
  | _, _, 0, _ => by simp; exact .nil
  | _, _, _ + 1, .nil => .nil
  | _, _, n + 1, .cons r t => .cons r (All2.take n t)
theorem All2.drop : ∀ {l : List α} {l' : List β} (n : Nat), All2 F l l' → All2 F (l.drop n) (l'.drop n)
  | _, _, 0, r => r
  | _, _, _ + 1, .nil => .nil
  | _, _, n + 1, .cons r t => All2.drop n t
theorem All2.dropLast : ∀ {l : List α} {l' : List β}, All2 F l l' → All2 F l.dropLast l'.dropLast := fun {l l'} h => by
  rw [List.dropLast_eq_take, List.dropLast_eq_take, h.length]
  exact h.take _
theorem All2.eraseIdx : ∀ {l : List α} {l' : List β} (i : Nat), All2 F l l' → All2 F (l.eraseIdx i) (l'.eraseIdx i)
  | _, _, _, .nil => .nil
  | _, _, 0, .cons _ t => t
  | _, _, i + 1, .cons q t => .cons q (All2.eraseIdx i t)
theorem All2.reverse : ∀ {l : List α} {l' : List β}, All2 F l l' → All2 F l.reverse l'.reverse
  | _, _, .nil => .nil
  | _, _, .cons r t => by
    rw [List.reverse_cons, List.reverse_cons]
    exact All2.append (All2.reverse t) (.cons r .nil)
theorem All2.rep {a : α} {b : β} (r : F a b) : ∀ n : Nat, All2 F (List.replicate n a) (List.replicate n b)
  | 0 => .nil
  | n + 1 => .cons r (All2.rep r n)
theorem All2.map (enc : β → α) (h : ∀ a b, F a b ↔ a = enc b) : ∀ {l : List α} {l' : List β}, All2 F l l' → l = l'.map enc
  | _, _, .nil => rfl
  | _, _, .cons r t => by rw [(h _ _).mp r, All2.map enc h t]; rfl
theorem All2.ofMap (enc : β → α) (h : ∀ b, F (enc b) b) : ∀ l' : List β, All2 F (l'.map enc) l'
  | [] => .nil
  | b :: t => .cons (h b) (All2.ofMap enc h t)
end
instance : Rp Int where
  rep _ _ v n := v = .int n
  mono _ h := h
instance : Rp Bool where
  rep _ _ v n := v = .bl n
  mono _ h := h
instance : Rp Str where
  rep _ _ v n := v = .str n
  mono _ h := h
instance : Rp Unit where
  rep _ _ v _ := v = .non
  mono _ h := h
instance {α : Type} [Rp α] : Rp (Option α) where
  rep K H v o := match o with
    | none => v = .non
    | some a => v ≠ .non ∧ Rp.rep K H v a
  mono {K H H' v a} e h := by
    cases a with
    | none => exact h
    | some a => exact ⟨h.1, Rp.mono e h.2⟩
instance {α : Type} [Rp α] : Rp (List α) where
  rep K H v xs := ∃ p vs, v = .ref p ∧ H p = some (.lst vs) ∧ All2 (Rp.rep K H) vs xs
  mono {K H H' v a} e h := by
    obtain ⟨p, vs, e1, e2, e3⟩ := h
    exact ⟨p, vs, e1, e p _ e2, e3.mono fun _ _ r => Rp.mono e r⟩
/-- the script: a list that is read alone -/
structure Scr where
  l : List Int
instance : Rp Scr where
  rep K H v s := ∃ p, v = .ref p ∧ SqL K H p (s.l.map V.int)
  mono {K H H' v a} e h := by
    obtain ⟨p, e1, e2⟩ := h
    exact ⟨p, e1, e.seq e2⟩
theorem same_seqT {K : PySem.W.Frag} {H H' : Hp} {a : Addr} {xs : List V} (e : Same H H') (h : SqT K H a xs) : SqT K H' a xs := by
  rcases h with (h | ⟨o, h⟩) | h
  · exact .inl (.inl (e _ _ h))
  · exact .inl (.inr ⟨o, e _ _ h⟩)
  · exact .inr h
instance {α β : Type} [Rp α] [Rp β] : Rp (α × β) where
  rep K H v t := ∃ p x y, v = .ref p ∧ H p = some (.tup [x, y]) ∧ Rp.rep K H x t.1 ∧ Rp.rep K H y t.2
  mono {K H H' v a} e h := by
    obtain ⟨p, x, y, e1, e2, e3, e4⟩ := h
    exact ⟨p, x, y, e1, e p _ e2, Rp.mono e e3, Rp.mono e e4⟩
/-- a triple -/
structure T3 (α β γ : Type) where
  a : α
  b : β
  c : γ
  deriving DecidableEq, Repr
instance {α β γ : Type} [Rp α] [Rp β] [Rp γ] : Rp (T3 α β γ) where
  rep K H v t := ∃ p x y z, v = .ref p ∧ H p = some (.tup [x, y, z]) ∧ Rp.rep K H x t.a ∧ Rp.rep K H y t.b ∧ Rp.rep K H z t.c
  mono {K H H' v a} e h := by
    obtain ⟨p, x, y, z, e1, e2, e3, e4, e5⟩ := h
    exact ⟨p, x, y, z, e1, e p _ e2, Rp.mono e e3, Rp.mono e e4, Rp.mono e e5⟩
/-- a tuple of any length of one kind -/
structure Tu (α : Type) where
  l : List α
  deriving DecidableEq, Repr
instance {α : Type} [Rp α] : Rp (Tu α) where
  rep K H v t := ∃ p vs, v = .ref p ∧ H p = some (.tup vs) ∧ All2 (Rp.rep K H) vs t.l
  mono {K H H' v a} e h := by
    obtain ⟨p, vs, e1, e2, e3⟩ := h
    exact ⟨p, vs, e1, e p _ e2, e3.mono fun _ _ r => Rp.mono e r⟩
theorem rep_ints {K : PySem.W.Frag} {H : Hp} {vs : List V} {ns : List Int} (h : All2 (Rp.rep K H) vs ns) : vs = ns.map V.int := h.map V.int fun _ _ => Iff.rfl
theorem rep_bools {K : PySem.W.Frag} {H : Hp} {vs : List V} {ns : List Bool} (h : All2 (Rp.rep K H) vs ns) : vs = ns.map V.bl := h.map V.bl fun _ _ => Iff.rfl
theorem rep_strs {K : PySem.W.Frag} {H : Hp} {vs : List V} {ns : List Str} (h : All2 (Rp.rep K H) vs ns) : vs = ns.map V.str := h.map V.str fun _ _ => Iff.rfl
theorem ints_rep {K : PySem.W.Frag} {H : Hp} (ns : List Int) : All2 (Rp.rep K H) (ns.map V.int) ns := All2.ofMap V.int (fun _ => rfl) ns
/-- a value that is not None -/
class NN (α : Type) [Rp α] where
  nn : ∀ {K : PySem.W.Frag} {H : Hp} {v : V} {a : α}, Rp.rep K H v a → v ≠ .non
instance : NN Int := ⟨fun h => by rw [show _ = V.int _ from h]; intro q; cases q⟩
instance : NN Bool := ⟨fun h => by rw [show _ = V.bl _ from h]; intro q; cases q⟩
instance : NN Str := ⟨fun h => by rw [show _ = V.str _ from h]; intro q; cases q⟩
instance {α : Type} [Rp α] : NN (List α) := ⟨fun ⟨_, _, h, _⟩ => by rw [h]; intro q; cases q⟩
instance {α β : Type} [Rp α] [Rp β] : NN (α × β) := ⟨fun ⟨_, _, _, h, _⟩ => by rw [h]; intro q; cases q⟩
instance {α β γ : Type} [Rp α] [Rp β] [Rp γ] : NN (T3 α β γ) := ⟨fun ⟨_, _, _, _, h, _⟩ => by rw [h]; intro q; cases q⟩
instance {α : Type} [Rp α] : NN (Tu α) := ⟨fun ⟨_, _, h, _⟩ => by rw [h]; intro q; cases q⟩

/-! ### what an expression evaluates to -/
/-- what is wished of an error behind H0 -/
def EE (K : PySem.W.Frag) (E : XK) (H0 : Hp) : Er → Prop
  | .own c => ∀ H', Same H0 H' → E (.ref (He.ga K c.nm)) none H'
  | .plan n => ∀ d H', Same H0 H' → H0 d = none → (∃ m, H' d = some (.xd [("at", .int n), ("words", .str m)])) → E (.ref (He.ga K "BadPlan")) (some d) H'
theorem EE.mono {K : PySem.W.Frag} {E : XK} {H0 H1 : Hp} (e : Same H0 H1) {c : Er} (h : EE K E H0 c) : EE K E H1 c := by
  cases c with
  | own c => exact fun H' q => h H' (e.trans q)
  | plan n => exact fun d H' q hd hm => h d H' (e.trans q) (e.free hd) hm
def Gr {α : Type} [Rp α] (K : PySem.W.Frag) (E : XK) (te : TE) (σ : L2.St) (F H : Hp) (m : R α) : Prop :=
  ∀ H1, Same H H1 → ∀ Q : VK, Wp m (fun a => ∀ v H2, Same H1 H2 → Rp.rep K (mix F H H2) v a → Q v H2) (EE K E H1) → te σ H1 Q
def GrT (K : PySem.W.Frag) (E : XK) (t : TT) (σ : L2.St) (H : Hp) (m : R Bool) : Prop :=
  ∀ H1, Same H H1 → ∀ Q : Bool → Hp → Prop, Wp m (fun b => ∀ H2, Same H1 H2 → Q b H2) (EE K E H1) → t σ H1 Q
section
variable {K : PySem.W.Frag} {E : XK} {σ : L2.St} {F H : Hp} {ta tb te : TE} {t u : TT} {α β γ δ : Type} [Rp α] [Rp β] [Rp γ] [Rp δ]
/-- two in a row -/
theorem gr_seq {ma : R α} {f : α → R β} {Q : VK} {H1 : Hp} (ha : Gr K E ta σ F H ma) (e : Same H H1) (hq : Wp (R.bd ma f) (fun b => ∀ v H2, Same H1 H2 → Rp.rep K (mix F H H2) v b → Q v H2) (EE K E H1))
    {Q' : VK} (h : ∀ a v H2, Same H1 H2 → Rp.rep K (mix F H H2) v a → Wp (f a) (fun b => ∀ v H3, Same H2 H3 → Rp.rep K (mix F H H3) v b → Q v H3) (EE K E H2) → Q' v H2) : ta σ H1 Q' := by
  refine ha H1 e Q' ?_
  rw [wp_bd] at hq
  exact wp_mono hq (fun a _ ka v H2 e2 r => h a v H2 e2 r (wp_mono ka (fun b _ kb v H3 e3 r3 => kb v H3 (e2.trans e3) r3) fun c _ z => z.mono e2)) fun c _ z => z
theorem gr_seqT {ma : R Bool} {f : Bool → R β} {Q : VK} {H1 : Hp} (ha : GrT K E t σ H ma) (e : Same H H1) (hq : Wp (R.bd ma f) (fun b => ∀ v H2, Same H1 H2 → Rp.rep K (mix F H H2) v b → Q v H2) (EE K E H1))
    {Q' : Bool → Hp → Prop} (h : ∀ a H2, Same H1 H2 → Wp (f a) (fun b => ∀ v H3, Same H2 H3 → Rp.rep K (mix F H H3) v b → Q v H3) (EE K E H2) → Q' a H2) : t σ H1 Q' := by
  refine ha H1 e Q' ?_
  rw [wp_bd] at hq
  exact wp_mono hq (fun a _ ka H2 e2 => h a H2 e2 (wp_mono ka (fun b _ kb v H3 e3 r3 => kb v H3 (e2.trans e3) r3) fun c _ z => z.mono e2)) fun c _ z => z
theorem g_var {i : Nat} {v : V} {a : α} (r : Rp.rep K F v a) (hF : Same F H) (h : σ[i]? = some (some v) := by rfl) : Gr K E (tVar i) σ F H (.ok a) :=
  fun H1 e Q hq => ⟨v, h, hq v H1 (Same.refl _) (Rp.mono (same_mix hF) r)⟩
theorem g_c {v : V} {a : α} (r : ∀ H', Rp.rep K H' v a) : Gr K E (tC v) σ F H (.ok a) := fun H1 e Q hq => hq v H1 (Same.refl _) (r _)
theorem g_int {n : Int} : Gr K E (tC (.int n)) σ F H (.ok n) := g_c fun _ => rfl
theorem g_bl {n : Bool} : Gr K E (tC (.bl n)) σ F H (.ok n) := g_c fun _ => rfl
theorem g_str {n : Str} : Gr K E (tC (.str n)) σ F H (.ok n) := g_c fun _ => rfl
theorem g_unit : Gr K E (tC .non) σ F H (.ok ()) := g_c fun _ => rfl
theorem g_non : Gr K E (tC .non) σ F H (.ok (none : Option α)) := g_c fun _ => rfl
/-- ints, bools, texts tell the same over any heap -/
class Sc (α : Type) [Rp α] where
  enc : α → V
  inj : ∀ {a b : α}, enc a = enc b → a = b
  is : ∀ {K : PySem.W.Frag} {H : Hp} {v : V} {a : α}, Rp.rep K H v a ↔ v = enc a
  sc : ∀ a b : α, scal (enc a) (enc b) = true
  flat : ∀ a : α, flatV (enc a) = true
instance : Sc Int := ⟨V.int, fun h => V.int.inj h, Iff.rfl, fun _ _ => rfl, fun _ => rfl⟩
instance : Sc Bool := ⟨V.bl, fun h => V.bl.inj h, Iff.rfl, fun _ _ => rfl, fun _ => rfl⟩
instance : Sc Str := ⟨V.str, fun h => V.str.inj h, Iff.rfl, fun _ _ => rfl, fun _ => rfl⟩
theorem g_sc [Sc α] {F' : Hp} {m : R α} (h : Gr K E te σ F' H m) : Gr K E te σ F H m := fun H1 e Q hq =>
  h H1 e Q (wp_mono hq (fun a _ k v H2 e2 r => k v H2 e2 (Sc.is.mpr (Sc.is.mp r))) fun _ _ z => z)
theorem g_some [NN α] {m : R α} (h : Gr K E te σ F H m) : Gr K E te σ F H (R.bd m fun a => .ok (some a)) := fun H1 e Q hq =>
  h H1 e Q (by rw [wp_bd] at hq; exact wp_mono hq (fun a _ k v H2 e2 r => k v H2 e2 ⟨NN.nn r, r⟩) fun _ _ z => z)
/-- a value that may be None, known not to be -/
def unO {α : Type} (o : Option α) : R α := match o with
  | some a => .ok a
  | none => .bad
theorem g_un {m : R (Option α)} (h : Gr K E te σ F H m) : Gr K E te σ F H (R.bd m unO) := fun H1 e Q hq =>
  h H1 e Q (by
    rw [wp_bd] at hq
    refine wp_mono hq (fun a _ k v H2 e2 r => ?_) fun _ _ z => z
    cases a with
    | none => exact k.elim
    | some a => exact k v H2 e2 r.2)
/-! operators -/
theorem g_i0 {f : Int → Int → Int} {ma mb : R Int} (ha : Gr K E ta σ F H ma) (hb : Gr K E tb σ F H mb) : Gr K E (tOp (rI0 fun i j => .int (f i j)) ta tb) σ F H (R.bd ma fun a => R.bd mb fun b => .ok (f a b)) := fun H1 e Q hq =>
  gr_seq ha e hq fun a v H2 e2 r hq2 => gr_seq hb (e.trans e2) hq2 fun b w H3 e3 r3 hq3 => ⟨a, b, r, r3, hq3 _ H3 (Same.refl _) rfl⟩
theorem g_b0 {f : Int → Int → Bool} {ma mb : R Int} (ha : Gr K E ta σ F H ma) (hb : Gr K E tb σ F H mb) : Gr K E (tOp (rI0 fun i j => .bl (f i j)) ta tb) σ F H (R.bd ma fun a => R.bd mb fun b => .ok (f a b)) := fun H1 e Q hq =>
  gr_seq ha e hq fun a v H2 e2 r hq2 => gr_seq hb (e.trans e2) hq2 fun b w H3 e3 r3 hq3 => ⟨a, b, r, r3, hq3 _ H3 (Same.refl _) rfl⟩
open Classical in
noncomputable def gd {α : Type} (c : Prop) (m : R α) : R α := if c then m else .bad
theorem gd_pos {α : Type} {c : Prop} {m : R α} (h : c) : gd c m = m := if_pos h
theorem g_iC {C : Int → Int → Prop} [∀ a b, Decidable (C a b)] {f : Int → Int → Int} {ma mb : R Int} (ha : Gr K E ta σ F H ma) (hb : Gr K E tb σ F H mb) :
    Gr K E (tOp (rI C fun i j => .int (f i j)) ta tb) σ F H (R.bd ma fun a => R.bd mb fun b => gd (C a b) (.ok (f a b))) := fun H1 e Q hq =>
  gr_seq ha e hq fun a v H2 e2 r hq2 => gr_seq hb (e.trans e2) hq2 fun b w H3 e3 r3 hq3 => by
    unfold gd at hq3
    split at hq3
    · rename_i c
      exact ⟨a, b, r, r3, c, hq3 _ H3 (Same.refl _) rfl⟩
    · exact hq3.elim
/-- .. with a condition that is known -/
theorem g_iK {C : Int → Int → Prop} {f : Int → Int → Int} {ma : R Int} {b : Int} (hc : ∀ a, C a b) (ha : Gr K E ta σ F H ma) (hb : Gr K E tb σ F H (.ok b)) :
    Gr K E (tOp (rI C fun i j => .int (f i j)) ta tb) σ F H (R.bd ma fun a => .ok (f a b)) := fun H1 e Q hq =>
  gr_seq ha e hq fun a v H2 e2 r hq2 => hb H2 (e.trans e2) _ fun w H3 e3 r3 => ⟨a, b, r, r3, hc a, hq2 _ H3 e3 rfl⟩
/-- * of two factors of together less than 134 million bits -/
def CMulV (i j : Int) : Prop := i.natAbs.log2 + j.natAbs.log2 < 134000000
theorem CMulV.ok {i j : Int} (h : CMulV i j) : IntMulOk i j := by
  have b : ∀ x : Int, Builtin.Int.intBits x ≤ x.natAbs.log2 + 1 := fun x => by
    unfold Builtin.Int.intBits
    split <;> omega
  have h1 := b i
  have h2 := b j
  have h3 : i.natAbs.log2 + j.natAbs.log2 < 134000000 := h
  have e : bitsLine = 134217728 := by decide
  unfold IntMulOk
  intro z
  rw [Bool.and_eq_true] at z
  have z3 := of_decide_eq_true (show decide _ = true from z.2)
  rw [e] at z3
  omega
theorem op_mulV {X : Cx} : OpR X (binaryOp .Mult) (rI CMulV fun i j => .int (i * j)) := opI fun _ _ _ _ _ _ _ hc q => mul_int q hc.ok
theorem wide_mulV {i j : Int} {a b : Nat} (ha : i.natAbs < 2 ^ a) (hb : j.natAbs < 2 ^ b) (h0 : 0 < a) (h1 : 0 < b) (h : a + b ≤ 134000000) : CMulV i j := by
  have x := PySem.Flt.log2_lt_of h0 ha
  have y := PySem.Flt.log2_lt_of h1 hb
  unfold CMulV
  omega
instance {a b : Int} : Decidable (CMulV a b) := by unfold CMulV; exact inferInstance
instance {a b : Int} : Decidable (CDivW a b) := by unfold CDivW; exact inferInstance
noncomputable def mulR (a b : Int) : R Int := gd (CMulV a b) (.ok (a * b))
noncomputable def divR (a b : Int) : R Int := gd (CDivW a b) (.ok (a / b))
noncomputable def modR (a b : Int) : R Int := gd (0 < b) (.ok (a % b))
noncomputable def shrR (a b : Int) : R Int := gd (0 ≤ b) (.ok (a / 2 ^ b.toNat))
theorem g_mul {ma mb : R Int} (ha : Gr K E ta σ F H ma) (hb : Gr K E tb σ F H mb) : Gr K E (tOp (rI CMulV fun i j => .int (i * j)) ta tb) σ F H (R.bd ma fun a => R.bd mb fun b => mulR a b) := g_iC ha hb
theorem g_div {ma mb : R Int} (ha : Gr K E ta σ F H ma) (hb : Gr K E tb σ F H mb) : Gr K E (tOp (rI CDivW fun i j => .int (i / j)) ta tb) σ F H (R.bd ma fun a => R.bd mb fun b => divR a b) := g_iC ha hb
theorem g_mod {ma mb : R Int} (ha : Gr K E ta σ F H ma) (hb : Gr K E tb σ F H mb) : Gr K E (tOp (rI (fun _ j => 0 < j) fun i j => .int (i % j)) ta tb) σ F H (R.bd ma fun a => R.bd mb fun b => modR a b) := g_iC ha hb
theorem g_shr {ma mb : R Int} (ha : Gr K E ta σ F H ma) (hb : Gr K E tb σ F H mb) : Gr K E (tOp (rI (fun _ j => 0 ≤ j) fun i j => .int (i / 2 ^ j.toNat)) ta tb) σ F H (R.bd ma fun a => R.bd mb fun b => shrR a b) := g_iC ha hb
/-- a written factor -/
theorem g_mulL {ma : R Int} {b : Int} (hc : -(2 ^ 64) < b ∧ b < 2 ^ 64) (ha : Gr K E ta σ F H ma) (hb : Gr K E tb σ F H (.ok b)) : Gr K E (tOp (rI CMul fun i j => .int (i * j)) ta tb) σ F H (R.bd ma fun a => .ok (a * b)) := g_iK (fun _ => .inr hc) ha hb
theorem g_mulF {mb : R Int} {a : Int} (hc : -(2 ^ 64) < a ∧ a < 2 ^ 64) (ha : Gr K E ta σ F H (.ok a)) (hb : Gr K E tb σ F H mb) : Gr K E (tOp (rI CMul fun i j => .int (i * j)) ta tb) σ F H (R.bd mb fun b => .ok (a * b)) := fun H1 e Q hq =>
  ha H1 e _ fun v H2 e2 r2 => gr_seq hb (e.trans e2) (wp_mono hq (fun b _ kb v H3 e3 r3 => kb v H3 (e2.trans e3) r3) fun c _ z => z.mono e2) fun b w H3 e3 r3 hq3 => ⟨a, b, r2, r3, .inl hc, hq3 _ H3 (Same.refl _) rfl⟩
theorem g_divL {ma : R Int} {b : Int} (hc : 0 < b ∧ b.natAbs.log2 < 9000) (ha : Gr K E ta σ F H ma) (hb : Gr K E tb σ F H (.ok b)) : Gr K E (tOp (rI CDivW fun i j => .int (i / j)) ta tb) σ F H (R.bd ma fun a => .ok (a / b)) := g_iK (fun _ => hc) ha hb
theorem g_modL {ma : R Int} {b : Int} (hc : 0 < b) (ha : Gr K E ta σ F H ma) (hb : Gr K E tb σ F H (.ok b)) : Gr K E (tOp (rI (fun _ j => 0 < j) fun i j => .int (i % j)) ta tb) σ F H (R.bd ma fun a => .ok (a % b)) := g_iK (fun _ => hc) ha hb
theorem g_pow {a : Int} {n : Nat} (hc : n ≤ 1000000 ∧ a.natAbs < 2 ^ 64) : Gr K E (tOp (rI CPow fun i j => .int (i ^ j.toNat)) (tC (.int a)) (tC (.int n))) σ F H (.ok (a ^ n)) := fun H1 e Q hq =>
  ⟨a, n, rfl, rfl, ⟨by omega, by omega, hc.2⟩, hq _ H1 (Same.refl _) rfl⟩
theorem g_neg {ma : R Int} (ha : Gr K E ta σ F H ma) : Gr K E (tUn (rU fun i => .int (-i)) ta) σ F H (R.bd ma fun a => .ok (-a)) := fun H1 e Q hq =>
  gr_seq ha e hq fun a v H2 e2 r hq2 => ⟨a, r, hq2 _ H2 (Same.refl _) rfl⟩
theorem g_eq [Sc α] [DecidableEq α] {ma mb : R α} (ha : Gr K E ta σ F H ma) (hb : Gr K E tb σ F H mb) : Gr K E (tOp rEq ta tb) σ F H (R.bd ma fun a => R.bd mb fun b => .ok (decide (a = b))) := fun H1 e Q hq =>
  gr_seq ha e hq fun a v H2 e2 r hq2 => gr_seq hb (e.trans e2) hq2 fun b w H3 e3 r3 hq3 => by
    have h1 := Sc.is.mp r
    have h2 := Sc.is.mp r3
    subst h1 h2
    refine ⟨Sc.sc a b, ?_⟩
    have e : decide (Sc.enc a = Sc.enc b) = decide (a = b) := decide_eq_decide.mpr ⟨Sc.inj, fun q => by rw [q]⟩
    rw [e]
    exact hq3 _ H3 (Same.refl _) rfl
theorem g_ne [Sc α] [DecidableEq α] {ma mb : R α} (ha : Gr K E ta σ F H ma) (hb : Gr K E tb σ F H mb) : Gr K E (tOp rNe ta tb) σ F H (R.bd ma fun a => R.bd mb fun b => .ok (!decide (a = b))) := fun H1 e Q hq =>
  gr_seq ha e hq fun a v H2 e2 r hq2 => gr_seq hb (e.trans e2) hq2 fun b w H3 e3 r3 hq3 => by
    have h1 := Sc.is.mp r
    have h2 := Sc.is.mp r3
    subst h1 h2
    refine ⟨Sc.sc a b, ?_⟩
    have e : decide (Sc.enc a = Sc.enc b) = decide (a = b) := decide_eq_decide.mpr ⟨Sc.inj, fun q => by rw [q]⟩
    rw [e]
    exact hq3 _ H3 (Same.refl _) rfl
theorem g_isN [NN α] {ma : R (Option α)} (ha : Gr K E ta σ F H ma) : Gr K E (tIsN ta) σ F H (R.bd ma fun a => .ok a.isNone) := fun H1 e Q hq =>
  gr_seq ha e hq fun a v H2 e2 r hq2 => by
    show Q (.bl (decide (v = .non))) H2
    cases a with
    | none =>
      have r' : v = .non := r
      rw [decide_eq_true r']
      exact hq2 _ H2 (Same.refl _) rfl
    | some a =>
      rw [decide_eq_false r.1]
      exact hq2 _ H2 (Same.refl _) rfl
theorem g_notN [NN α] {ma : R (Option α)} (ha : Gr K E ta σ F H ma) : Gr K E (tNotN ta) σ F H (R.bd ma fun a => .ok a.isSome) := fun H1 e Q hq =>
  gr_seq ha e hq fun a v H2 e2 r hq2 => by
    show Q (.bl (!decide (v = .non))) H2
    cases a with
    | none =>
      have r' : v = .non := r
      rw [decide_eq_true r']
      exact hq2 _ H2 (Same.refl _) rfl
    | some a =>
      rw [decide_eq_false r.1]
      exact hq2 _ H2 (Same.refl _) rfl
/-! tests -/
theorem t_test {ma : R Bool} (ha : Gr K E ta σ F H ma) : GrT K E (tTest ta) σ H ma := fun H1 e Q hq =>
  ha H1 e _ (wp_mono hq (fun a _ k v H2 e2 r => ⟨a, r, k H2 e2⟩) fun _ _ z => z)
theorem t_B {ma : R Bool} (ha : Gr K E ta σ F H ma) : GrT K E (tB ta) σ H ma := fun H1 e Q hq =>
  ha H1 e _ (wp_mono hq (fun a _ k v H2 e2 r => ⟨a, r, k H2 e2⟩) fun _ _ z => z)
theorem t_not {ma : R Bool} (ha : GrT K E t σ H ma) : GrT K E (tNot t) σ H (R.bd ma fun b => .ok (!b)) := fun H1 e Q hq =>
  ha H1 e _ (by rw [wp_bd] at hq; exact hq)
theorem t_and {ma mb : R Bool} (ha : GrT K E t σ H ma) (hb : GrT K E u σ H mb) : GrT K E (tAnd t u) σ H (R.bd ma fun b => if b = true then mb else .ok false) := fun H1 e Q hq =>
  ha H1 e _ (by
    rw [wp_bd] at hq
    refine wp_mono hq (fun a _ k H2 e2 => ?_) fun _ _ z => z
    cases a with
    | true => exact hb H2 (e.trans e2) _ (wp_mono k (fun b _ kb H3 e3 => kb H3 (e2.trans e3)) fun c _ z => z.mono e2)
    | false => exact k H2 e2)
theorem t_or {ma mb : R Bool} (ha : GrT K E t σ H ma) (hb : GrT K E u σ H mb) : GrT K E (tOr t u) σ H (R.bd ma fun b => if b = true then .ok true else mb) := fun H1 e Q hq =>
  ha H1 e _ (by
    rw [wp_bd] at hq
    refine wp_mono hq (fun a _ k H2 e2 => ?_) fun _ _ z => z
    cases a with
    | true => exact k H2 e2
    | false => exact hb H2 (e.trans e2) _ (wp_mono k (fun b _ kb H3 e3 => kb H3 (e2.trans e3)) fun c _ z => z.mono e2))
/-- .. where the second can't fail -/
theorem t_andP {ma : R Bool} {b : Bool} (ha : GrT K E t σ H ma) (hb : GrT K E u σ H (.ok b)) : GrT K E (tAnd t u) σ H (R.bd ma fun a => .ok (a && b)) := fun H1 e Q hq =>
  t_and ha hb H1 e Q (by
    rw [wp_bd] at hq ⊢
    refine wp_mono hq (fun a _ k => ?_) fun _ _ z => z
    cases a with
    | true => exact k
    | false => exact k)
theorem t_orP {ma : R Bool} {b : Bool} (ha : GrT K E t σ H ma) (hb : GrT K E u σ H (.ok b)) : GrT K E (tOr t u) σ H (R.bd ma fun a => .ok (a || b)) := fun H1 e Q hq =>
  t_or ha hb H1 e Q (by
    rw [wp_bd] at hq ⊢
    refine wp_mono hq (fun a _ k => ?_) fun _ _ z => z
    cases a with
    | true => exact k
    | false => exact k)
/-! .. as values -/
theorem g_notV {ma : R Bool} (ha : Gr K E ta σ F H ma) : Gr K E (tNotV ta) σ F H (R.bd ma fun b => .ok (!b)) := fun H1 e Q hq =>
  gr_seq ha e hq fun a v H2 e2 r hq2 => ⟨a, r, hq2 _ H2 (Same.refl _) rfl⟩
theorem g_andV {ma mb : R Bool} (ha : Gr K E ta σ F H ma) (hb : Gr K E tb σ F H mb) : Gr K E (tAndV ta tb) σ F H (R.bd ma fun b => if b = true then mb else .ok false) := fun H1 e Q hq =>
  gr_seq ha e hq fun a v H2 e2 r hq2 => ⟨a, r, by
    cases a with
    | true => exact hb H2 (e.trans e2) _ hq2
    | false => exact hq2 _ H2 (Same.refl _) rfl⟩
theorem g_orV {ma mb : R Bool} (ha : Gr K E ta σ F H ma) (hb : Gr K E tb σ F H mb) : Gr K E (tOrV ta tb) σ F H (R.bd ma fun b => if b = true then .ok true else mb) := fun H1 e Q hq =>
  gr_seq ha e hq fun a v H2 e2 r hq2 => ⟨a, r, by
    cases a with
    | true => exact hq2 _ H2 (Same.refl _) rfl
    | false => exact hb H2 (e.trans e2) _ hq2⟩
theorem g_andVP {ma : R Bool} {b : Bool} (ha : Gr K E ta σ F H ma) (hb : Gr K E tb σ F H (.ok b)) : Gr K E (tAndV ta tb) σ F H (R.bd ma fun a => .ok (a && b)) := fun H1 e Q hq =>
  g_andV ha hb H1 e Q (by
    rw [wp_bd] at hq ⊢
    refine wp_mono hq (fun a _ k => ?_) fun _ _ z => z
    cases a with
    | true => exact k
    | false => exact k)
theorem g_orVP {ma : R Bool} {b : Bool} (ha : Gr K E ta σ F H ma) (hb : Gr K E tb σ F H (.ok b)) : Gr K E (tOrV ta tb) σ F H (R.bd ma fun a => .ok (a || b)) := fun H1 e Q hq =>
  g_orV ha hb H1 e Q (by
    rw [wp_bd] at hq ⊢
    refine wp_mono hq (fun a _ k => ?_) fun _ _ z => z
    cases a with
    | true => exact k
    | false => exact k)
theorem g_if {mc : R Bool} {ma mb : R α} (hc : GrT K E t σ H mc) (ha : Gr K E ta σ F H ma) (hb : Gr K E tb σ F H mb) : Gr K E (tIf t ta tb) σ F H (R.bd mc fun b => if b = true then ma else mb) := fun H1 e Q hq =>
  gr_seqT hc e hq fun a H2 e2 hq2 => by
    cases a with
    | true => exact ha H2 (e.trans e2) _ hq2
    | false => exact hb H2 (e.trans e2) _ hq2
end
end G

set_option Elab.async false
set_option linter.all false
set_option maxRecDepth 100000
set_option maxHeartbeats 2000000
/-! G: lists, tuples, calls of built-ins, comprehensions. -/
namespace G
open PySem PySem.Spec PyProof.Rows L2
/-- lists made here are no longer than this -/
def lim : Nat := 10000000
theorem lim_line {n : Nat} (h : n ≤ lim) : n ≤ sizeLine := Nat.le_trans h (by decide)
theorem lim_line' {n : Nat} (h : n < lim) : n < sizeLine := Nat.lt_of_lt_of_le h (by decide)
section
variable {K : PySem.W.Frag} {E : XK} {σ : L2.St} {F H : Hp} {ta tb te tl : TE} {t u : TT} {α β γ δ ρ : Type} [Rp α] [Rp β] [Rp γ] [Rp δ] [Rp ρ]
/-! ### arguments in a row -/
inductive Rs : List (Σ α : Type, Rp α) → Type 1
  | nil : Rs []
def GrA (K : PySem.W.Frag) (E : XK) (ta : TA) (σ : L2.St) (F H : Hp) (m : R (List α)) : Prop :=
  ∀ H1, Same H H1 → ∀ Q : List V → Hp → Prop, Wp m (fun as => ∀ vs H2, Same H1 H2 → All2 (Rp.rep K (mix F H H2)) vs as → Q vs H2) (EE K E H1) → ta σ H1 Q
theorem a_nil : GrA K E tNil σ F H (.ok ([] : List α)) := fun H1 e Q hq => hq [] H1 (Same.refl _) .nil
theorem a_cons {tr : TA} {m : R α} {mr : R (List α)} (h : Gr K E ta σ F H m) (hr : GrA K E tr σ F H mr) : GrA K E (tCons ta tr) σ F H (R.bd m fun a => R.bd mr fun as => .ok (a :: as)) := fun H1 e Q hq =>
  h H1 e _ (by
    rw [wp_bd] at hq
    refine wp_mono hq (fun a _ k v H2 e2 r => ?_) fun _ _ z => z
    refine hr H2 (e.trans e2) _ ?_
    rw [wp_bd] at k
    exact wp_mono k (fun as _ k2 vs H3 e3 r3 => k2 (v :: vs) H3 (e2.trans e3) (.cons (Rp.mono (mix_mono e3) r) r3)) fun c _ z => z.mono e2)
/-- a list display -/
theorem g_lst {t : TA} {m : R (List α)} (h : GrA K E t σ F H m) : Gr K E (tLst t) σ F H (R.bd m fun as => gd (as.length ≤ lim) (.ok as)) := fun H1 e Q hq =>
  h H1 e _ (by
    rw [wp_bd] at hq
    refine wp_mono hq (fun as _ k vs H2 e2 r => ?_) fun _ _ z => z
    unfold gd at k
    split at k
    · rename_i c
      refine ⟨lim_line (by rw [r.length]; exact c), fun p hp => k _ _ (e2.trans (fun b o q => by rw [upd_ne (ne_of_none q hp)]; exact q)) ?_⟩
      have hn : H p = none := Same.free (e.trans e2) hp
      refine ⟨p, vs, rfl, by rw [mix_new hn]; exact upd_same, r.mono fun _ _ x => Rp.mono (mix_mono fun b o q => by rw [upd_ne (ne_of_none q hp)]; exact q) x⟩
    · exact k.elim)
/-- .. short, its items known -/
theorem g_lstK {t : TA} {as : List α} (h : GrA K E t σ F H (.ok as)) (hl : as.length ≤ lim := by decide) : Gr K E (tLst t) σ F H (.ok as) := fun H1 e Q hq =>
  g_lst h H1 e Q (by rw [wp_bd]; show Wp (gd _ _) _ _; rw [gd_pos hl]; exact hq)
theorem same_upd {H : Hp} {p : Addr} {o : HO} (hp : H p = none) : Same H (upd H p o) := fun b u q => by rw [upd_ne (ne_of_none q hp)]; exact q
theorem g_pair {ma : R α} {mb : R β} (ha : Gr K E ta σ F H ma) (hb : Gr K E tb σ F H mb) : Gr K E (tTup (tCons ta (tCons tb tNil))) σ F H (R.bd ma fun a => R.bd mb fun b => .ok (a, b)) := fun H1 e Q hq =>
  gr_seq ha e hq fun a v H2 e2 r hq2 => gr_seq hb (e.trans e2) hq2 fun b w H3 e3 r3 hq3 => by
    refine ⟨by show 2 ≤ sizeLine; decide, fun p hp => hq3 _ _ (same_upd hp) ?_⟩
    have hn : H p = none := Same.free (e.trans (e2.trans e3)) hp
    exact ⟨p, v, w, rfl, by rw [mix_new hn]; exact upd_same, Rp.mono (mix_mono (e3.trans (same_upd hp))) r, Rp.mono (mix_mono (same_upd hp)) r3⟩
theorem g_tri {tc : TE} {ma : R α} {mb : R β} {mc : R γ} (ha : Gr K E ta σ F H ma) (hb : Gr K E tb σ F H mb) (hc : Gr K E tc σ F H mc) :
    Gr K E (tTup (tCons ta (tCons tb (tCons tc tNil)))) σ F H (R.bd ma fun a => R.bd mb fun b => R.bd mc fun c => .ok (T3.mk a b c)) := fun H1 e Q hq =>
  gr_seq ha e hq fun a v H2 e2 r hq2 => gr_seq hb (e.trans e2) hq2 fun b w H3 e3 r3 hq3 => gr_seq hc (e.trans (e2.trans e3)) hq3 fun c z H4 e4 r4 hq4 => by
    refine ⟨by show 3 ≤ sizeLine; decide, fun p hp => hq4 _ _ (same_upd hp) ?_⟩
    have hn : H p = none := Same.free (e.trans (e2.trans (e3.trans e4))) hp
    exact ⟨p, v, w, z, rfl, by rw [mix_new hn]; exact upd_same, Rp.mono (mix_mono (e3.trans (e4.trans (same_upd hp)))) r, Rp.mono (mix_mono (e4.trans (same_upd hp))) r3, Rp.mono (mix_mono (same_upd hp)) r4⟩
/-! ### items -/
def idx {α : Type} (xs : List α) (i : Int) : R α := match atI xs i with
  | some a => .ok a
  | none => .bad
theorem all2_atI {P : V → α → Prop} {vs : List V} {xs : List α} {i : Int} {a : α} (h : All2 P vs xs) (e : atI xs i = some a) : ∃ v, atI vs i = some v ∧ P v a := by
  unfold atI at e ⊢
  rw [h.length]
  cases q : ixN xs.length i with
  | none => rw [q] at e; cases e
  | some j =>
    rw [q] at e
    exact h.get e
theorem g_idx {ma : R (List α)} {mi : R Int} (ha : Gr K E ta σ F H ma) (hi : Gr K E tb σ F H mi) (hF : Same F H) : Gr K E (tOp (rIxL K) ta tb) σ F H (R.bd ma fun a => R.bd mi fun i => idx a i) := fun H1 e Q hq =>
  gr_seq ha e hq fun xs v H2 e2 r hq2 => gr_seq hi (e.trans e2) hq2 fun i w H3 e3 r3 hq3 => by
    obtain ⟨p, vs, rfl, hp, hv⟩ := r
    have r3' : w = .int i := r3
    subst r3'
    unfold idx at hq3
    cases q : atI xs i with
    | none => rw [q] at hq3; exact hq3.elim
    | some a =>
      rw [q] at hq3
      obtain ⟨x, hx, rx⟩ := all2_atI hv q
      refine ⟨p, vs, i, x, rfl, rfl, SqL.of (e3 p _ (mix_same hF (e.trans e2) p _ hp)), hx, hq3 x H3 (Same.refl _) (Rp.mono (mix_mono e3) rx)⟩
theorem g_idxT {ma : R (Tu α)} {mi : R Int} (ha : Gr K E ta σ F H ma) (hi : Gr K E tb σ F H mi) (hF : Same F H) : Gr K E (tOp (rIxT K) ta tb) σ F H (R.bd ma fun a => R.bd mi fun i => idx a.l i) := fun H1 e Q hq =>
  gr_seq ha e hq fun xs v H2 e2 r hq2 => gr_seq hi (e.trans e2) hq2 fun i w H3 e3 r3 hq3 => by
    obtain ⟨p, vs, rfl, hp, hv⟩ := r
    have r3' : w = .int i := r3
    subst r3'
    unfold idx at hq3
    cases q : atI xs.l i with
    | none => rw [q] at hq3; exact hq3.elim
    | some a =>
      rw [q] at hq3
      obtain ⟨x, hx, rx⟩ := all2_atI hv q
      refine ⟨p, vs, i, x, rfl, rfl, SqT.of (e3 p _ (mix_same hF (e.trans e2) p _ hp)), hx, hq3 x H3 (Same.refl _) (Rp.mono (mix_mono e3) rx)⟩
theorem atI_map {α β : Type} {f : α → β} {xs : List α} {i : Int} {a : α} (h : atI xs i = some a) : atI (xs.map f) i = some (f a) := by
  unfold atI at h ⊢
  rw [List.length_map]
  cases q : ixN xs.length i with
  | none => rw [q] at h; cases h
  | some j =>
    rw [q] at h
    show (xs.map f)[j]? = some (f a)
    rw [List.getElem?_map, show xs[j]? = some a from h]
    rfl
/-- the script's -/
theorem g_idxS {ma : R Scr} {mi : R Int} (ha : Gr K E ta σ F H ma) (hi : Gr K E tb σ F H mi) (hF : Same F H) : Gr K E (tOp (rIxL K) ta tb) σ F H (R.bd ma fun a => R.bd mi fun i => idx a.l i) := fun H1 e Q hq =>
  gr_seq ha e hq fun xs v H2 e2 r hq2 => gr_seq hi (e.trans e2) hq2 fun i w H3 e3 r3 hq3 => by
    obtain ⟨p, rfl, hp⟩ := r
    have r3' : w = .int i := r3
    subst r3'
    unfold idx at hq3
    cases q : atI xs.l i with
    | none => rw [q] at hq3; exact hq3.elim
    | some a =>
      rw [q] at hq3
      exact ⟨p, _, i, _, rfl, rfl, e3.seq ((mix_same hF (e.trans e2)).seq hp), atI_map q, hq3 _ H3 (Same.refl _) rfl⟩
theorem g_fst {m : R (α × β)} (h : Gr K E ta σ F H m) (hF : Same F H) : Gr K E (tOp (rIxT K) ta (tC (.int 0))) σ F H (R.bd m fun p => .ok p.1) := fun H1 e Q hq =>
  gr_seq h e hq fun a v H2 e2 r hq2 => by
    obtain ⟨p, x, y, rfl, hp, r1, r2⟩ := r
    exact ⟨p, _, 0, x, rfl, rfl, SqT.of (mix_same hF (e.trans e2) p _ hp), rfl, hq2 x H2 (Same.refl _) r1⟩
theorem g_snd {m : R (α × β)} (h : Gr K E ta σ F H m) (hF : Same F H) : Gr K E (tOp (rIxT K) ta (tC (.int 1))) σ F H (R.bd m fun p => .ok p.2) := fun H1 e Q hq =>
  gr_seq h e hq fun a v H2 e2 r hq2 => by
    obtain ⟨p, x, y, rfl, hp, r1, r2⟩ := r
    exact ⟨p, _, 1, y, rfl, rfl, SqT.of (mix_same hF (e.trans e2) p _ hp), rfl, hq2 y H2 (Same.refl _) r2⟩
theorem g_t3a {m : R (T3 α β γ)} (h : Gr K E ta σ F H m) (hF : Same F H) : Gr K E (tOp (rIxT K) ta (tC (.int 0))) σ F H (R.bd m fun p => .ok p.a) := fun H1 e Q hq =>
  gr_seq h e hq fun a v H2 e2 r hq2 => by
    obtain ⟨p, x, y, z, rfl, hp, r1, r2, r3⟩ := r
    exact ⟨p, _, 0, x, rfl, rfl, SqT.of (mix_same hF (e.trans e2) p _ hp), rfl, hq2 x H2 (Same.refl _) r1⟩
theorem g_t3b {m : R (T3 α β γ)} (h : Gr K E ta σ F H m) (hF : Same F H) : Gr K E (tOp (rIxT K) ta (tC (.int 1))) σ F H (R.bd m fun p => .ok p.b) := fun H1 e Q hq =>
  gr_seq h e hq fun a v H2 e2 r hq2 => by
    obtain ⟨p, x, y, z, rfl, hp, r1, r2, r3⟩ := r
    exact ⟨p, _, 1, y, rfl, rfl, SqT.of (mix_same hF (e.trans e2) p _ hp), rfl, hq2 y H2 (Same.refl _) r2⟩
theorem g_t3c {m : R (T3 α β γ)} (h : Gr K E ta σ F H m) (hF : Same F H) : Gr K E (tOp (rIxT K) ta (tC (.int 2))) σ F H (R.bd m fun p => .ok p.c) := fun H1 e Q hq =>
  gr_seq h e hq fun a v H2 e2 r hq2 => by
    obtain ⟨p, x, y, z, rfl, hp, r1, r2, r3⟩ := r
    exact ⟨p, _, 2, z, rfl, rfl, SqT.of (mix_same hF (e.trans e2) p _ hp), rfl, hq2 z H2 (Same.refl _) r3⟩
/-! ### slices: xs[a:b] -/
def GrO (K : PySem.W.Frag) (E : XK) (to : TO) (σ : L2.St) (H : Hp) (m : R (Option Int)) : Prop :=
  ∀ H1, Same H H1 → ∀ Q : Option Int → Hp → Prop, Wp m (fun o => ∀ H2, Same H1 H2 → Q o H2) (EE K E H1) → to σ H1 Q
theorem o_no : GrO K E tNoPart σ H (.ok none) := fun H1 e Q hq => hq H1 (Same.refl _)
theorem o_some {m : R Int} (h : Gr K E ta σ F H m) : GrO K E (tPart ta) σ H (R.bd m fun i => .ok (some i)) := fun H1 e Q hq =>
  h H1 e _ (by rw [wp_bd] at hq; exact wp_mono hq (fun i _ k v H2 e2 r => ⟨i, r, k H2 e2⟩) fun _ _ z => z)
def cut {α : Type} (xs : List α) (lo hi : Option Int) : List α := (xs.drop (HT.sIx xs.length 0 lo)).take (HT.sIx xs.length xs.length hi - HT.sIx xs.length 0 lo)
theorem all2_cut {P : V → α → Prop} {vs : List V} {xs : List α} {lo hi : Option Int} (h : All2 P vs xs) : All2 P (cutV vs lo hi) (cut xs lo hi) := by
  unfold cutV cut
  rw [h.length]
  exact (h.drop _).take _
theorem gro_seq {mo : R (Option Int)} {to : TO} {f : Option Int → R β} {Q : VK} {H1 : Hp} (ha : GrO K E to σ H mo) (e : Same H H1) (hq : Wp (R.bd mo f) (fun b => ∀ v H2, Same H1 H2 → Rp.rep K (mix F H H2) v b → Q v H2) (EE K E H1))
    {Q' : Option Int → Hp → Prop} (h : ∀ a H2, Same H1 H2 → Wp (f a) (fun b => ∀ v H3, Same H2 H3 → Rp.rep K (mix F H H3) v b → Q v H3) (EE K E H2) → Q' a H2) : to σ H1 Q' := by
  refine ha H1 e Q' ?_
  rw [wp_bd] at hq
  exact wp_mono hq (fun a _ ka H2 e2 => h a H2 e2 (wp_mono ka (fun b _ kb v H3 e3 r3 => kb v H3 (e2.trans e3) r3) fun c _ z => z.mono e2)) fun c _ z => z
theorem g_cut {tlo thi : TO} {m : R (List α)} {mlo mhi : R (Option Int)} (h : Gr K E ta σ F H m) (hlo : GrO K E tlo σ H mlo) (hhi : GrO K E thi σ H mhi) (hF : Same F H) :
    Gr K E (tSl (rSlL K) ta tlo thi) σ F H (R.bd m fun xs => R.bd mlo fun lo => R.bd mhi fun hi => .ok (cut xs lo hi)) := fun H1 e Q hq =>
  gr_seq h e hq fun xs v H2 e2 r hq2 => gro_seq hlo (e.trans e2) hq2 fun lo H3 e3 hq3 => gro_seq hhi (e.trans (e2.trans e3)) hq3 fun hi H4 e4 hq4 => by
    obtain ⟨p, vs, rfl, hp, hv⟩ := r
    refine ⟨p, vs, rfl, SqL.of (e4 p _ (e3 p _ (mix_same hF (e.trans e2) p _ hp))), fun l hl => hq4 _ _ (same_upd hl) ?_⟩
    have hn : H l = none := Same.free (e.trans (e2.trans (e3.trans e4))) hl
    exact ⟨l, _, rfl, by rw [mix_new hn]; exact upd_same, all2_cut (hv.mono fun _ _ x => Rp.mono (mix_mono (e3.trans (e4.trans (same_upd hl)))) x)⟩
/-! ### +, * of lists -/
theorem g_cat {ma mb : R (List α)} (ha : Gr K E ta σ F H ma) (hb : Gr K E tb σ F H mb) (hF : Same F H) : Gr K E (tOp rCat ta tb) σ F H (R.bd ma fun a => R.bd mb fun b => gd (a.length + b.length ≤ lim) (.ok (a ++ b))) := fun H1 e Q hq =>
  gr_seq ha e hq fun a v H2 e2 r hq2 => gr_seq hb (e.trans e2) hq2 fun b w H3 e3 r3 hq3 => by
    obtain ⟨p, vs, rfl, hp, hv⟩ := r
    obtain ⟨q, ws, rfl, hq', hw⟩ := r3
    unfold gd at hq3
    split at hq3
    · rename_i c
      refine ⟨p, q, vs, ws, rfl, rfl, e3 p _ (mix_same hF (e.trans e2) p _ hp), mix_same hF (e.trans (e2.trans e3)) q _ hq', lim_line (by rw [hv.length, hw.length]; exact c), fun l hl => hq3 _ _ (same_upd hl) ?_⟩
      have hn : H l = none := Same.free (e.trans (e2.trans e3)) hl
      exact ⟨l, _, rfl, by rw [mix_new hn]; exact upd_same, (hv.mono fun _ _ x => Rp.mono (mix_mono (e3.trans (same_upd hl))) x).append (hw.mono fun _ _ x => Rp.mono (mix_mono (same_upd hl)) x)⟩
    · exact hq3.elim
theorem all2_rep {P : V → α → Prop} {vs : List V} {xs : List α} (h : All2 P vs xs) : ∀ n : Nat, All2 P (List.replicate n vs).flatten (List.replicate n xs).flatten
  | 0 => .nil
  | n + 1 => by
    rw [List.replicate_succ, List.replicate_succ, List.flatten_cons, List.flatten_cons]
    exact h.append (all2_rep h n)
noncomputable def repR {α : Type} (xs : List α) (k : Int) : R (List α) := gd (-(2 ^ 62) ≤ k ∧ k < 2 ^ 62 ∧ xs.length * k.toNat ≤ lim) (.ok (List.replicate k.toNat xs).flatten)
theorem g_rep {ma : R (List α)} {mb : R Int} (ha : Gr K E ta σ F H ma) (hb : Gr K E tb σ F H mb) (hF : Same F H) : Gr K E (tOp rRep ta tb) σ F H (R.bd ma fun a => R.bd mb fun b => repR a b) := fun H1 e Q hq =>
  gr_seq ha e hq fun a v H2 e2 r hq2 => gr_seq hb (e.trans e2) hq2 fun b w H3 e3 r3 hq3 => by
    obtain ⟨p, vs, rfl, hp, hv⟩ := r
    have r3' : w = .int b := r3
    subst r3'
    unfold repR gd at hq3
    split at hq3
    · rename_i c
      refine ⟨p, b, vs, rfl, rfl, e3 p _ (mix_same hF (e.trans e2) p _ hp), by omega, by omega, lim_line (by rw [hv.length]; exact c.2.2), fun l hl => hq3 _ _ (same_upd hl) ?_⟩
      have hn : H l = none := Same.free (e.trans (e2.trans e3)) hl
      exact ⟨l, _, rfl, by rw [mix_new hn]; exact upd_same, all2_rep (hv.mono fun _ _ x => Rp.mono (mix_mono (e3.trans (same_upd hl))) x) _⟩
    · exact hq3.elim
/-! ### built-ins -/
abbrev rLen (K : PySem.W.Frag) : List V → Hp → VK → Prop := fun xs H Q => ∃ p ys, xs = [.ref p] ∧ (SqL K H p ys ∨ SqT K H p ys) ∧ Q (.int ys.length) H
theorem g_len {m : R (List α)} (h : Gr K E ta σ F H m) (hF : Same F H) : Gr K E (tCB (rLen K) (tCons ta tNil)) σ F H (R.bd m fun xs => .ok (xs.length : Int)) := fun H1 e Q hq =>
  gr_seq h e hq fun xs v H2 e2 r hq2 => by
    obtain ⟨p, vs, rfl, hp, hv⟩ := r
    refine ⟨p, vs, rfl, .inl (SqL.of (mix_same hF (e.trans e2) p _ hp)), ?_⟩
    rw [hv.length]
    exact hq2 _ H2 (Same.refl _) rfl
theorem g_lenT {m : R (Tu α)} (h : Gr K E ta σ F H m) (hF : Same F H) : Gr K E (tCB (rLen K) (tCons ta tNil)) σ F H (R.bd m fun xs => .ok (xs.l.length : Int)) := fun H1 e Q hq =>
  gr_seq h e hq fun xs v H2 e2 r hq2 => by
    obtain ⟨p, vs, rfl, hp, hv⟩ := r
    refine ⟨p, vs, rfl, .inr (SqT.of (mix_same hF (e.trans e2) p _ hp)), ?_⟩
    rw [hv.length]
    exact hq2 _ H2 (Same.refl _) rfl
theorem g_lenS {m : R Scr} (h : Gr K E ta σ F H m) (hF : Same F H) : Gr K E (tCB (rLen K) (tCons ta tNil)) σ F H (R.bd m fun xs => .ok (xs.l.length : Int)) := fun H1 e Q hq =>
  gr_seq h e hq fun xs v H2 e2 r hq2 => by
    obtain ⟨p, rfl, hp⟩ := r
    refine ⟨p, _, rfl, .inl ((mix_same hF (e.trans e2)).seq hp), ?_⟩
    rw [List.length_map]
    exact hq2 _ H2 (Same.refl _) rfl
theorem g_len2 {m : R (α × β)} (h : Gr K E ta σ F H m) (hF : Same F H) : Gr K E (tCB (rLen K) (tCons ta tNil)) σ F H (R.bd m fun _ => .ok (2 : Int)) := fun H1 e Q hq =>
  gr_seq h e hq fun xs v H2 e2 r hq2 => by
    obtain ⟨p, x, y, rfl, hp, _⟩ := r
    exact ⟨p, _, rfl, .inr (SqT.of (mix_same hF (e.trans e2) p _ hp)), hq2 _ H2 (Same.refl _) rfl⟩
theorem g_len3 {m : R (T3 α β γ)} (h : Gr K E ta σ F H m) (hF : Same F H) : Gr K E (tCB (rLen K) (tCons ta tNil)) σ F H (R.bd m fun _ => .ok (3 : Int)) := fun H1 e Q hq =>
  gr_seq h e hq fun xs v H2 e2 r hq2 => by
    obtain ⟨p, x, y, z, rfl, hp, _⟩ := r
    exact ⟨p, _, rfl, .inr (SqT.of (mix_same hF (e.trans e2) p _ hp)), hq2 _ H2 (Same.refl _) rfl⟩
abbrev rListOf (K : PySem.W.Frag) : List V → Hp → VK → Prop := fun xs H Q => ∃ p ys, xs = [.ref p] ∧ (SqL K H p ys ∨ SqT K H p ys) ∧ ∀ l, H l = none → Q (.ref l) (upd H l (.lst ys))
theorem g_list {m : R (List α)} (h : Gr K E ta σ F H m) (hF : Same F H) : Gr K E (tCB (rListOf K) (tCons ta tNil)) σ F H m := fun H1 e Q hq =>
  gr_seq h e (by rw [bd_id]; exact hq) fun xs v H2 e2 r hq2 => by
    obtain ⟨p, vs, rfl, hp, hv⟩ := r
    refine ⟨p, vs, rfl, .inl (SqL.of (mix_same hF (e.trans e2) p _ hp)), fun l hl => hq2 _ _ (same_upd hl) ?_⟩
    have hn : H l = none := Same.free (e.trans e2) hl
    exact ⟨l, _, rfl, by rw [mix_new hn]; exact upd_same, hv.mono fun _ _ x => Rp.mono (mix_mono (same_upd hl)) x⟩
theorem g_listT {m : R (Tu α)} (h : Gr K E ta σ F H m) (hF : Same F H) : Gr K E (tCB (rListOf K) (tCons ta tNil)) σ F H (R.bd m fun t => .ok t.l) := fun H1 e Q hq =>
  gr_seq h e hq fun xs v H2 e2 r hq2 => by
    obtain ⟨p, vs, rfl, hp, hv⟩ := r
    refine ⟨p, vs, rfl, .inr (SqT.of (mix_same hF (e.trans e2) p _ hp)), fun l hl => hq2 _ _ (same_upd hl) ?_⟩
    have hn : H l = none := Same.free (e.trans e2) hl
    exact ⟨l, _, rfl, by rw [mix_new hn]; exact upd_same, hv.mono fun _ _ x => Rp.mono (mix_mono (same_upd hl)) x⟩
abbrev rTupOf (K : PySem.W.Frag) : List V → Hp → VK → Prop := fun xs H Q => ∃ p ys, xs = [.ref p] ∧ ((SqL K H p ys ∧ ∀ l, H l = none → Q (.ref l) (upd H l (.tup ys))) ∨ (SqT K H p ys ∧ Q (.ref p) H))
theorem g_tuple {m : R (List α)} (h : Gr K E ta σ F H m) (hF : Same F H) : Gr K E (tCB (rTupOf K) (tCons ta tNil)) σ F H (R.bd m fun l => .ok (Tu.mk l)) := fun H1 e Q hq =>
  gr_seq h e hq fun xs v H2 e2 r hq2 => by
    obtain ⟨p, vs, rfl, hp, hv⟩ := r
    refine ⟨p, vs, rfl, .inl ⟨SqL.of (mix_same hF (e.trans e2) p _ hp), fun l hl => hq2 _ _ (same_upd hl) ?_⟩⟩
    have hn : H l = none := Same.free (e.trans e2) hl
    exact ⟨l, _, rfl, by rw [mix_new hn]; exact upd_same, hv.mono fun _ _ x => Rp.mono (mix_mono (same_upd hl)) x⟩
theorem g_sum {m : R (List Int)} (h : Gr K E ta σ F H m) (hF : Same F H) : Gr K E (tCB (rSum K) (tCons ta tNil)) σ F H (R.bd m fun l => .ok l.sum) := fun H1 e Q hq =>
  gr_seq h e hq fun xs v H2 e2 r hq2 => by
    obtain ⟨p, vs, rfl, hp, hv⟩ := r
    have := rep_ints hv
    subst this
    exact ⟨p, xs, rfl, SqL.of (mix_same hF (e.trans e2) p _ hp), hq2 _ H2 (Same.refl _) rfl⟩
def minR (xs : List Int) : R Int := match xs.min? with
  | some a => .ok a
  | none => .bad
def maxR (xs : List Int) : R Int := match xs.max? with
  | some a => .ok a
  | none => .bad
theorem min_of {xs : List Int} {m : Int} (h1 : m ∈ xs) (h2 : ∀ y, y ∈ xs → m ≤ y) : xs.min? = some m := List.min?_eq_some_iff.mpr ⟨h1, h2⟩
theorem max_of {xs : List Int} {m : Int} (h1 : m ∈ xs) (h2 : ∀ y, y ∈ xs → y ≤ m) : xs.max? = some m := List.max?_eq_some_iff.mpr ⟨h1, h2⟩
theorem g_min {m : R (List Int)} (h : Gr K E ta σ F H m) (hF : Same F H) : Gr K E (tCB (rMin K) (tCons ta tNil)) σ F H (R.bd m minR) := fun H1 e Q hq =>
  gr_seq h e hq fun xs v H2 e2 r hq2 => by
    obtain ⟨p, vs, rfl, hp, hv⟩ := r
    have := rep_ints hv
    subst this
    refine ⟨p, xs, rfl, SqL.of (mix_same hF (e.trans e2) p _ hp), ?_, fun m h1 h2 => ?_⟩
    · cases xs with
      | nil => exact hq2.elim
      | cons a l => exact Nat.succ_pos _
    · unfold minR at hq2
      rw [min_of h1 h2] at hq2
      exact hq2 _ H2 (Same.refl _) rfl
theorem g_max {m : R (List Int)} (h : Gr K E ta σ F H m) (hF : Same F H) : Gr K E (tCB (rMax K) (tCons ta tNil)) σ F H (R.bd m maxR) := fun H1 e Q hq =>
  gr_seq h e hq fun xs v H2 e2 r hq2 => by
    obtain ⟨p, vs, rfl, hp, hv⟩ := r
    have := rep_ints hv
    subst this
    refine ⟨p, xs, rfl, SqL.of (mix_same hF (e.trans e2) p _ hp), ?_, fun m h1 h2 => ?_⟩
    · cases xs with
      | nil => exact hq2.elim
      | cons a l => exact Nat.succ_pos _
    · unfold maxR at hq2
      rw [max_of h1 h2] at hq2
      exact hq2 _ H2 (Same.refl _) rfl
theorem g_all {m : R (List Bool)} (h : Gr K E ta σ F H m) (hF : Same F H) : Gr K E (tCB (rAll K) (tCons ta tNil)) σ F H (R.bd m fun l => .ok (l.all id)) := fun H1 e Q hq =>
  gr_seq h e hq fun xs v H2 e2 r hq2 => by
    obtain ⟨p, vs, rfl, hp, hv⟩ := r
    have := rep_bools hv
    subst this
    exact ⟨p, xs, rfl, SqL.of (mix_same hF (e.trans e2) p _ hp), hq2 _ H2 (Same.refl _) rfl⟩
theorem g_any {m : R (List Bool)} (h : Gr K E ta σ F H m) (hF : Same F H) : Gr K E (tCB (rAny K) (tCons ta tNil)) σ F H (R.bd m fun l => .ok (l.any id)) := fun H1 e Q hq =>
  gr_seq h e hq fun xs v H2 e2 r hq2 => by
    obtain ⟨p, vs, rfl, hp, hv⟩ := r
    have := rep_bools hv
    subst this
    exact ⟨p, xs, rfl, SqL.of (mix_same hF (e.trans e2) p _ hp), hq2 _ H2 (Same.refl _) rfl⟩
abbrev rAbs : List V → Hp → VK → Prop := fun xs H Q => ∃ i, xs = [.int i] ∧ Q (.int (if i < 0 then -i else i)) H
theorem g_abs {m : R Int} (h : Gr K E ta σ F H m) : Gr K E (tCB rAbs (tCons ta tNil)) σ F H (R.bd m fun i => .ok (if i < 0 then -i else i)) := fun H1 e Q hq =>
  gr_seq h e hq fun i v H2 e2 r hq2 => ⟨i, by rw [show v = V.int i from r], hq2 _ H2 (Same.refl _) rfl⟩
abbrev rInt1 : List V → Hp → VK → Prop := fun xs H Q => (∃ i, xs = [.int i] ∧ Q (.int i) H) ∨ ∃ k, xs = [.bl k] ∧ Q (.int (if k then 1 else 0)) H
theorem g_intB {m : R Bool} (h : Gr K E ta σ F H m) : Gr K E (tCB rInt1 (tCons ta tNil)) σ F H (R.bd m fun b => .ok (if b = true then (1 : Int) else 0)) := fun H1 e Q hq =>
  gr_seq h e hq fun i v H2 e2 r hq2 => .inr ⟨i, by rw [show v = V.bl i from r], hq2 _ H2 (Same.refl _) rfl⟩
abbrev rMin2 : List V → Hp → VK → Prop := fun xs H Q => ∃ i j, xs = [.int i, .int j] ∧ Q (.int (if j < i then j else i)) H
theorem g_min2 {ma mb : R Int} (ha : Gr K E ta σ F H ma) (hb : Gr K E tb σ F H mb) : Gr K E (tCB rMin2 (tCons ta (tCons tb tNil))) σ F H (R.bd ma fun i => R.bd mb fun j => .ok (if j < i then j else i)) := fun H1 e Q hq =>
  gr_seq ha e hq fun i v H2 e2 r hq2 => gr_seq hb (e.trans e2) hq2 fun j w H3 e3 r3 hq3 => ⟨i, j, by rw [show v = V.int i from r, show w = V.int j from r3], hq3 _ H3 (Same.refl _) rfl⟩
abbrev rMax2 : List V → Hp → VK → Prop := fun xs H Q => ∃ i j, xs = [.int i, .int j] ∧ Q (.int (if j > i then j else i)) H
theorem g_max2 {ma mb : R Int} (ha : Gr K E ta σ F H ma) (hb : Gr K E tb σ F H mb) : Gr K E (tCB rMax2 (tCons ta (tCons tb tNil))) σ F H (R.bd ma fun i => R.bd mb fun j => .ok (if j > i then j else i)) := fun H1 e Q hq =>
  gr_seq ha e hq fun i v H2 e2 r hq2 => gr_seq hb (e.trans e2) hq2 fun j w H3 e3 r3 hq3 => ⟨i, j, by rw [show v = V.int i from r, show w = V.int j from r3], hq3 _ H3 (Same.refl _) rfl⟩
/-! ### x in xs -/
theorem g_in [Sc α] [DecidableEq α] {neg : Bool} {ma : R α} {mb : R (List α)} (ha : Gr K E ta σ F H ma) (hb : Gr K E tb σ F H mb) (hF : Same F H) (hv : ∀ (a b : α), eqV (Sc.enc a) (Sc.enc b) = decide (a = b)) :
    Gr K E (tOp (rIn K neg) ta tb) σ F H (R.bd ma fun a => R.bd mb fun b => .ok (if neg = true then !decide (a ∈ b) else decide (a ∈ b))) := fun H1 e Q hq =>
  gr_seq ha e hq fun a v H2 e2 r hq2 => gr_seq hb (e.trans e2) hq2 fun b w H3 e3 r3 hq3 => by
    obtain ⟨p, vs, rfl, hp, hw⟩ := r3
    have h1 := Sc.is.mp r
    subst h1
    have h2 : vs = b.map Sc.enc := hw.map Sc.enc fun _ _ => Sc.is
    subst h2
    have h3 : inV (Sc.enc a) (b.map Sc.enc) = decide (a ∈ b) := by
      unfold inV
      rw [List.any_map]
      induction b with
      | nil => rfl
      | cons x l ih =>
        rw [List.any_cons]
        have : (List.any l ((fun y => eqV y (Sc.enc a)) ∘ Sc.enc)) = decide (a ∈ l) := by
          clear ih hq3 hq2 hq hw hp hb ha
          induction l with
          | nil => rfl
          | cons y l ih =>
            rw [List.any_cons, ih]
            show (eqV (Sc.enc y) (Sc.enc a) || _) = _
            rw [hv]
            by_cases c : a = y
            · subst c; simp
            · have c' : ¬ y = a := fun q => c q.symm
              simp [c, c']
        rw [this]
        show (eqV (Sc.enc x) (Sc.enc a) || _) = _
        rw [hv]
        by_cases c : a = x
        · subst c; simp
        · have c' : ¬ x = a := fun q => c q.symm
          simp [c, c']
    refine ⟨p, _, rfl, .inl (SqL.of (mix_same hF (e.trans (e2.trans e3)) p _ hp)), Sc.flat a, ?_, ?_⟩
    · rw [List.all_map]
      exact List.all_eq_true.mpr fun x _ => Sc.flat x
    · rw [h3]
      exact hq3 _ H3 (Same.refl _) rfl
theorem eqV_int (a b : Int) : eqV (Sc.enc a) (Sc.enc b) = decide (a = b) := by
  show eqV (V.int a) (V.int b) = decide (a = b)
  simp only [eqV]
  exact Bool.beq_eq_decide_eq a b
/-! ### == of lists, tuples -/
def rEqP (K : PySem.W.Frag) : R2 := fun x y H Q => ∃ d e, Dp K H x d ∧ Dp K H y e ∧ d.plain = true ∧ e.plain = true ∧ min d.depth e.depth ≤ 64 ∧ Q (.bl (PyData.eqv d e)) H
def rNeP (K : PySem.W.Frag) : R2 := fun x y H Q => ∃ d e, Dp K H x d ∧ Dp K H y e ∧ d.plain = true ∧ e.plain = true ∧ min d.depth e.depth ≤ 64 ∧ Q (.bl (!PyData.eqv d e)) H
theorem op_eqP {X : Cx} (hu : X.A.units + 64 < cLine) : OpR X (compareOp .Eq) (rEqP X.K) := by
  intro pins s σ H x y v u Q I rx ry h
  obtain ⟨d, e, hd, he, sd, se, hm, q⟩ := h
  obtain ⟨as, r1⟩ := Dp.reads I d x v hd rx
  obtain ⟨bs, r2⟩ := Dp.reads I e y u he ry
  exact SeqAt.eq_plain r1 r2 sd se (by omega) ⟨.bl _, H, I, rfl, q⟩
theorem op_neP {X : Cx} (hu : X.A.units + 64 < cLine) : OpR X (compareOp .NotEq) (rNeP X.K) := by
  intro pins s σ H x y v u Q I rx ry h
  obtain ⟨d, e, hd, he, sd, se, hm, q⟩ := h
  obtain ⟨as, r1⟩ := Dp.reads I d x v hd rx
  obtain ⟨bs, r2⟩ := Dp.reads I e y u he ry
  exact SeqAt.ne_plain r1 r2 sd se (by omega) ⟨.bl _, H, I, rfl, q⟩
def rInP (K : PySem.W.Frag) (neg : Bool) : R2 := fun x y H Q => ∃ d ds, Dp K H x d ∧ (Dp K H y (.list ds) ∨ Dp K H y (.tuple ds)) ∧ d.plain = true ∧ PyData.plainAll ds = true ∧ min (PyData.depthAll ds) d.depth ≤ 62 ∧
  Q (.bl (if neg then !(ds.any fun z => PyData.eqv z d) else ds.any fun z => PyData.eqv z d)) H
theorem op_inP {X : Cx} (hu : X.A.units + 64 < cLine) : OpR X (compareOp .In) (rInP X.K false) := by
  intro pins s σ H x y v u Q I rx ry h
  obtain ⟨d, ds, hd, he, sd, se, hm, q⟩ := h
  obtain ⟨as, r1⟩ := Dp.reads I d x v hd rx
  rcases he with he | he
  · obtain ⟨bs, r2⟩ := Dp.reads I _ y u he ry
    exact SeqAt.in_list_data r2 r1 se sd (by omega) ⟨.bl _, H, I, rfl, q⟩
  · obtain ⟨bs, r2⟩ := Dp.reads I _ y u he ry
    exact SeqAt.in_tuple_data r2 r1 se sd (by omega) ⟨.bl _, H, I, rfl, q⟩
theorem op_notInP {X : Cx} (hu : X.A.units + 64 < cLine) : OpR X (compareOp .NotIn) (rInP X.K true) := by
  intro pins s σ H x y v u Q I rx ry h
  obtain ⟨d, ds, hd, he, sd, se, hm, q⟩ := h
  obtain ⟨as, r1⟩ := Dp.reads I d x v hd rx
  rcases he with he | he
  · obtain ⟨bs, r2⟩ := Dp.reads I _ y u he ry
    exact SeqAt.notIn_list_data r2 r1 se sd (by omega) ⟨.bl _, H, I, rfl, q⟩
  · obtain ⟨bs, r2⟩ := Dp.reads I _ y u he ry
    exact SeqAt.notIn_tuple_data r2 r1 se sd (by omega) ⟨.bl _, H, I, rfl, q⟩
class De (α : Type) [Rp α] where
  toD : α → PyData
  dp : ∀ {K : PySem.W.Frag} {H : Hp} {v : V} {a : α}, Rp.rep K H v a → Dp K H v (toD a)
  lay : ∀ a : α, (toD a).plain = true
  dep : Nat
  deep : ∀ a : α, (toD a).depth ≤ dep
  eqv : ∀ a b : α, PyData.eqv (toD a) (toD b) = true ↔ a = b
instance : De Int := ⟨.int, fun {K H v a} h => by rw [show v = V.int a from h]; exact .int a, fun _ => rfl, 0, fun _ => Nat.le_of_eq (by simp [PyData.depth]), fun a b => by simp [PyData.eqv]⟩
instance : De Str := ⟨.str, fun {K H v a} h => by rw [show v = V.str a from h]; exact .str a, fun _ => rfl, 0, fun _ => Nat.le_of_eq (by simp [PyData.depth]), fun a b => by simp [PyData.eqv]⟩
instance : De Bool := ⟨.bool, fun {K H v a} h => by rw [show v = V.bl a from h]; exact .bl a, fun _ => rfl, 0, fun _ => Nat.le_of_eq (by simp [PyData.depth]), fun a b => by simp [PyData.eqv]⟩
theorem dpAll_of [De α] {K : PySem.W.Frag} {H : Hp} : ∀ {vs : List V} {xs : List α}, All2 (Rp.rep K H) vs xs → DpAll K H vs (xs.map De.toD)
  | _, _, .nil => .nil
  | _, _, .cons r t => .cons (De.dp r) (dpAll_of t)
theorem layAll [De α] : ∀ xs : List α, PyData.plainAll (xs.map De.toD) = true
  | [] => rfl
  | x :: r => by
    show (PyData.plain (De.toD x) && PyData.plainAll (r.map De.toD)) = true
    rw [De.lay, layAll r] <;> rfl
theorem deepAll [De α] : ∀ xs : List α, PyData.depthAll (xs.map De.toD) ≤ De.dep α
  | [] => by simp [PyData.depthAll]
  | x :: r => by
    have h1 := De.deep x
    have h2 := deepAll r
    simp only [List.map_cons, PyData.depthAll]
    omega
theorem eqvAll [De α] : ∀ xs ys : List α, PyData.eqvAll (xs.map De.toD) (ys.map De.toD) = true ↔ xs = ys
  | [], [] => by simp [PyData.eqvAll]
  | x :: r, [] => by simp [PyData.eqvAll]
  | [], y :: r => by simp [PyData.eqvAll]
  | x :: r, y :: s => by
    simp only [List.map_cons, PyData.eqvAll, Bool.and_eq_true, De.eqv, eqvAll r s, List.cons.injEq]
instance {α : Type} [Rp α] [De α] : De (List α) := ⟨fun xs => .list (xs.map De.toD), fun {K H v a} h => by
    obtain ⟨p, vs, rfl, hp, hv⟩ := h
    exact .lst (SqL.of hp) (dpAll_of hv), fun xs => layAll xs, De.dep α + 1, fun xs => by
    have := deepAll xs
    simp only [PyData.depth]
    omega, fun a b => by
    simp only [PyData.eqv]
    exact eqvAll a b⟩
instance {α : Type} [Rp α] [De α] : De (Tu α) := ⟨fun xs => .tuple (xs.l.map De.toD), fun {K H v a} h => by
    obtain ⟨p, vs, rfl, hp, hv⟩ := h
    exact .tup (SqT.of hp) (dpAll_of hv), fun xs => layAll xs.l, De.dep α + 1, fun xs => by
    have := deepAll xs.l
    simp only [PyData.depth]
    omega, fun a b => by
    simp only [PyData.eqv]
    rw [eqvAll a.l b.l]
    cases a; cases b; simp⟩
instance {α β : Type} [Rp α] [Rp β] [De α] [De β] : De (α × β) := ⟨fun t => .tuple [De.toD t.1, De.toD t.2], fun {K H v a} h => by
    obtain ⟨p, x, y, rfl, hp, h1, h2⟩ := h
    exact .tup (SqT.of hp) (.cons (De.dp h1) (.cons (De.dp h2) .nil)), fun t => by
    show (PyData.plain (De.toD t.1) && (PyData.plain (De.toD t.2) && true)) = true
    rw [De.lay, De.lay] <;> rfl, max (De.dep α) (De.dep β) + 1, fun t => by
    have h1 := De.deep t.1
    have h2 := De.deep t.2
    simp only [PyData.depth, PyData.depthAll]
    omega, fun a b => by
    simp only [PyData.eqv, PyData.eqvAll, Bool.and_true, Bool.and_eq_true, De.eqv]
    exact ⟨fun h => Prod.ext h.1 h.2, fun h => by rw [h]; exact ⟨rfl, rfl⟩⟩⟩
instance {α β γ : Type} [Rp α] [Rp β] [Rp γ] [De α] [De β] [De γ] : De (T3 α β γ) := ⟨fun t => .tuple [De.toD t.a, De.toD t.b, De.toD t.c], fun {K H v a} h => by
    obtain ⟨p, x, y, z, rfl, hp, h1, h2, h3⟩ := h
    exact .tup (SqT.of hp) (.cons (De.dp h1) (.cons (De.dp h2) (.cons (De.dp h3) .nil))), fun t => by
    show (PyData.plain (De.toD t.a) && (PyData.plain (De.toD t.b) && (PyData.plain (De.toD t.c) && true))) = true
    rw [De.lay, De.lay, De.lay] <;> rfl, max (De.dep α) (max (De.dep β) (De.dep γ)) + 1, fun t => by
    have h1 := De.deep t.a
    have h2 := De.deep t.b
    have h3 := De.deep t.c
    simp only [PyData.depth, PyData.depthAll]
    omega, fun a b => by
    simp only [PyData.eqv, PyData.eqvAll, Bool.and_true, Bool.and_eq_true, De.eqv]
    cases a; cases b; simp⟩
theorem eqv_dec [De α] [DecidableEq α] (a b : α) : PyData.eqv (De.toD a) (De.toD b) = decide (a = b) := by
  by_cases c : a = b
  · rw [decide_eq_true c]
    exact (De.eqv a b).mpr c
  · rw [decide_eq_false c]
    exact Bool.eq_false_iff.mpr fun q => c ((De.eqv a b).mp q)
theorem g_eqD [De α] [DecidableEq α] {ma mb : R α} (ha : Gr K E ta σ F H ma) (hb : Gr K E tb σ F H mb) (hF : Same F H) (hd : De.dep α ≤ 64 := by decide) : Gr K E (tOp (rEqP K) ta tb) σ F H (R.bd ma fun a => R.bd mb fun b => .ok (decide (a = b))) := fun H1 e Q hq =>
  gr_seq ha e hq fun a v H2 e2 r hq2 => gr_seq hb (e.trans e2) hq2 fun b w H3 e3 r3 hq3 => by
    refine ⟨_, _, De.dp (Rp.mono ((mix_same hF (e.trans e2)).trans e3) r), De.dp (Rp.mono (mix_same hF (e.trans (e2.trans e3))) r3), De.lay a, De.lay b, by have := De.deep a; omega, ?_⟩
    rw [eqv_dec]
    exact hq3 _ H3 (Same.refl _) rfl
theorem g_neD [De α] [DecidableEq α] {ma mb : R α} (ha : Gr K E ta σ F H ma) (hb : Gr K E tb σ F H mb) (hF : Same F H) (hd : De.dep α ≤ 64 := by decide) : Gr K E (tOp (rNeP K) ta tb) σ F H (R.bd ma fun a => R.bd mb fun b => .ok (!decide (a = b))) := fun H1 e Q hq =>
  gr_seq ha e hq fun a v H2 e2 r hq2 => gr_seq hb (e.trans e2) hq2 fun b w H3 e3 r3 hq3 => by
    refine ⟨_, _, De.dp (Rp.mono ((mix_same hF (e.trans e2)).trans e3) r), De.dp (Rp.mono (mix_same hF (e.trans (e2.trans e3))) r3), De.lay a, De.lay b, by have := De.deep a; omega, ?_⟩
    rw [eqv_dec]
    exact hq3 _ H3 (Same.refl _) rfl
theorem plainAll_map [De α] (b : List α) : PyData.plainAll (b.map De.toD) = true := layAll b
def inL {α : Type} [DecidableEq α] (a : α) (b : List α) : Bool := decide (a ∈ b)
theorem any_dec [De α] [DecidableEq α] (a : α) : ∀ b : List α, ((b.map De.toD).any fun z => PyData.eqv z (De.toD a)) = inL a b
  | [] => rfl
  | x :: l => by
    rw [List.map_cons, List.any_cons, any_dec a l, eqv_dec]
    unfold inL
    by_cases c : a = x
    · subst c; simp
    · have c' : ¬ x = a := fun q => c q.symm
      simp [c, c']
theorem g_inD [De α] [DecidableEq α] {neg : Bool} {ma : R α} {mb : R (List α)} (ha : Gr K E ta σ F H ma) (hb : Gr K E tb σ F H mb) (hF : Same F H) (hd : De.dep α ≤ 60 := by decide) :
    Gr K E (tOp (rInP K neg) ta tb) σ F H (R.bd ma fun a => R.bd mb fun b => .ok (if neg = true then !inL a b else inL a b)) := fun H1 e Q hq =>
  gr_seq ha e hq fun a v H2 e2 r hq2 => gr_seq hb (e.trans e2) hq2 fun b w H3 e3 r3 hq3 => by
    refine ⟨_, _, De.dp (Rp.mono ((mix_same hF (e.trans e2)).trans e3) r), .inl (De.dp (α := List α) (Rp.mono (mix_same hF (e.trans (e2.trans e3))) r3)), De.lay a, plainAll_map b, by have := De.deep a; omega, ?_⟩
    rw [any_dec]
    exact hq3 _ H3 (Same.refl _) rfl
theorem g_inDT [De α] [DecidableEq α] {neg : Bool} {ma : R α} {mb : R (Tu α)} (ha : Gr K E ta σ F H ma) (hb : Gr K E tb σ F H mb) (hF : Same F H) (hd : De.dep α ≤ 60 := by decide) :
    Gr K E (tOp (rInP K neg) ta tb) σ F H (R.bd ma fun a => R.bd mb fun b => .ok (if neg = true then !inL a b.l else inL a b.l)) := fun H1 e Q hq =>
  gr_seq ha e hq fun a v H2 e2 r hq2 => gr_seq hb (e.trans e2) hq2 fun b w H3 e3 r3 hq3 => by
    refine ⟨_, _, De.dp (Rp.mono ((mix_same hF (e.trans e2)).trans e3) r), .inr (De.dp (α := Tu α) (Rp.mono (mix_same hF (e.trans (e2.trans e3))) r3)), De.lay a, plainAll_map b.l, by have := De.deep a; omega, ?_⟩
    rw [any_dec]
    exact hq3 _ H3 (Same.refl _) rfl
/-! ### isinstance of built-in classes: the kind is known -/
class Ty (α : Type) [Rp α] where
  ty : String
  is : ∀ {K : PySem.W.Frag} {H : Hp} {v : V} {a : α}, Rp.rep K H v a → TyX K H v (.type ty)
instance : Ty Int := ⟨"int", fun {K H v a} h => by rw [show v = V.int a from h]; exact .base (.int a)⟩
instance : Ty Bool := ⟨"bool", fun {K H v a} h => by rw [show v = V.bl a from h]; exact .base (.bl a)⟩
instance : Ty Str := ⟨"str", fun {K H v a} h => by rw [show v = V.str a from h]; exact .base (.str a)⟩
instance : Ty Unit := ⟨"NoneType", fun {K H v a} h => by rw [show v = V.non from h]; exact .base .non⟩
instance {α : Type} [Rp α] : Ty (List α) := ⟨"list", fun {K H v a} ⟨_, _, h, hp, _⟩ => by rw [h]; exact .base (.lst hp)⟩
instance {α : Type} [Rp α] : Ty (Tu α) := ⟨"tuple", fun {K H v a} ⟨_, _, h, hp, _⟩ => by rw [h]; exact .base (.tup hp)⟩
instance {α β : Type} [Rp α] [Rp β] : Ty (α × β) := ⟨"tuple", fun {K H v a} ⟨_, _, _, h, hp, _⟩ => by rw [h]; exact .base (.tup hp)⟩
instance {α β γ : Type} [Rp α] [Rp β] [Rp γ] : Ty (T3 α β γ) := ⟨"tuple", fun {K H v a} ⟨_, _, _, _, h, hp, _⟩ => by rw [h]; exact .base (.tup hp)⟩
theorem g_isi [Ty α] {m : R α} {n : String} {b : Bool} (h : Gr K E ta σ F H m) (hF : Same F H) (hk : kitB (Ty.ty α) n = some b := by decide +kernel) : Gr K E (tCB (rIsi K) (tCons ta (tCons (tC (.ty n)) tNil))) σ F H (R.bd m fun _ => .ok b) := fun H1 e Q hq =>
  gr_seq h e hq fun a v H2 e2 r hq2 => ⟨v, _, _, _, b, rfl, .ty n, Ty.is (Rp.mono (mix_same hF (e.trans e2)) r), kit_ty hk, hq2 _ H2 (Same.refl _) rfl⟩
def isiR {α : Type} (b b0 : Bool) : Option α → Bool
  | some _ => b
  | none => b0
/-- .. of what may be None -/
theorem g_isiO [Ty α] {m : R (Option α)} {n : String} {b b0 : Bool} (h : Gr K E ta σ F H m) (hF : Same F H) (hk : kitB (Ty.ty α) n = some b := by decide +kernel) (h0 : kitB "NoneType" n = some b0 := by decide +kernel) :
    Gr K E (tCB (rIsi K) (tCons ta (tCons (tC (.ty n)) tNil))) σ F H (R.bd m fun o => .ok (isiR b b0 o)) := fun H1 e Q hq =>
  gr_seq h e hq fun a v H2 e2 r hq2 => by
    cases a with
    | none => exact ⟨v, _, _, _, b0, rfl, .ty n, Ty.is (α := Unit) (K := K) (a := ()) (show v = .non from r), kit_ty h0, hq2 _ H2 (Same.refl _) rfl⟩
    | some a => exact ⟨v, _, _, _, b, rfl, .ty n, Ty.is (Rp.mono (mix_same hF (e.trans e2)) r.2), kit_ty hk, hq2 _ H2 (Same.refl _) rfl⟩
/-! ### calls of the program's defs. N: what is told is new -/
abbrev KN (K : PySem.W.Frag) (H : Hp) (Q : VK) : ρ → Prop := fun r => ∀ v' H', Same H H' → Rp.rep K (dif H H') v' r → Q v' H'
def sp0 (K : PySem.W.Frag) (f : R ρ) : Sp := fun vs H Q E => vs = [] ∧ Wp f (KN K H Q) (EE K E H)
def sp1 (K : PySem.W.Frag) (f : α → R ρ) : Sp := fun vs H Q E => ∃ v a, vs = [v] ∧ Rp.rep K H v a ∧ Wp (f a) (KN K H Q) (EE K E H)
def sp2 (K : PySem.W.Frag) (f : α → β → R ρ) : Sp := fun vs H Q E => ∃ v w a b, vs = [v, w] ∧ Rp.rep K H v a ∧ Rp.rep K H w b ∧ Wp (f a b) (KN K H Q) (EE K E H)
def sp3 (K : PySem.W.Frag) (f : α → β → γ → R ρ) : Sp := fun vs H Q E => ∃ v w x a b c, vs = [v, w, x] ∧ Rp.rep K H v a ∧ Rp.rep K H w b ∧ Rp.rep K H x c ∧ Wp (f a b c) (KN K H Q) (EE K E H)
def sp4 (K : PySem.W.Frag) (f : α → β → γ → δ → R ρ) : Sp := fun vs H Q E => ∃ v w x y a b c d, vs = [v, w, x, y] ∧ Rp.rep K H v a ∧ Rp.rep K H w b ∧ Rp.rep K H x c ∧ Rp.rep K H y d ∧ Wp (f a b c d) (KN K H Q) (EE K E H)
variable {Ex : L2.St → XK}
/-- arguments over the whole heap, in a row -/
theorem gr_arg {ma : R α} {f : α → R ρ} {Q : VK} {H1 : Hp} (ha : Gr K E ta σ H H ma) (e : Same H H1) (hq : Wp (R.bd ma f) (fun b => ∀ v H2, Same H1 H2 → Rp.rep K (mix F H H2) v b → Q v H2) (EE K E H1))
    {Q' : VK} (h : ∀ a v H2, Same H1 H2 → Rp.rep K H2 v a → Wp (f a) (fun b => ∀ v H3, Same H2 H3 → Rp.rep K (mix F H H3) v b → Q v H3) (EE K E H2) → Q' v H2) : ta σ H1 Q' := by
  refine ha H1 e Q' ?_
  rw [wp_bd] at hq
  exact wp_mono hq (fun a _ ka v H2 e2 r => h a v H2 e2 (Rp.mono (mix_same (Same.refl _) (e.trans e2)) r) (wp_mono ka (fun b _ kb v H3 e3 r3 => kb v H3 (e2.trans e3) r3) fun c _ z => z.mono e2)) fun c _ z => z
theorem g_call1 {f : α → R ρ} {ma : R α} (ha : Gr K E ta σ H H ma) (hE : Ex σ = E := by rfl) : Gr K E (tCallS (sp1 K f) Ex (tCons ta tNil)) σ F H (R.bd ma f) := by
  subst hE
  exact fun H1 e Q hq =>
  gr_arg ha e hq fun a v H2 e2 r hq2 => ⟨v, a, rfl, r, wp_mono hq2 (fun b _ k v' H3 e3 r3 => k v' H3 e3 (Rp.mono (dif_mix (e.trans e2) e3) r3)) fun c _ z => z⟩
theorem g_call2 {f : α → β → R ρ} {ma : R α} {mb : R β} (ha : Gr K E ta σ H H ma) (hb : Gr K E tb σ H H mb) (hE : Ex σ = E := by rfl) : Gr K E (tCallS (sp2 K f) Ex (tCons ta (tCons tb tNil))) σ F H (R.bd ma fun a => R.bd mb fun b => f a b) := by
  subst hE
  exact fun H1 e Q hq =>
  gr_arg ha e hq fun a v H2 e2 r hq2 => gr_arg hb (e.trans e2) hq2 fun b w H3 e3 r3 hq3 => ⟨v, w, a, b, rfl, Rp.mono e3 r, r3, wp_mono hq3 (fun b _ k v' H4 e4 r4 => k v' H4 e4 (Rp.mono (dif_mix (e.trans (e2.trans e3)) e4) r4)) fun c _ z => z⟩
theorem g_call3 {tc : TE} {f : α → β → γ → R ρ} {ma : R α} {mb : R β} {mc : R γ} (ha : Gr K E ta σ H H ma) (hb : Gr K E tb σ H H mb) (hc : Gr K E tc σ H H mc) (hE : Ex σ = E := by rfl) :
    Gr K E (tCallS (sp3 K f) Ex (tCons ta (tCons tb (tCons tc tNil)))) σ F H (R.bd ma fun a => R.bd mb fun b => R.bd mc fun c => f a b c) := by
  subst hE
  exact fun H1 e Q hq =>
  gr_arg ha e hq fun a v H2 e2 r hq2 => gr_arg hb (e.trans e2) hq2 fun b w H3 e3 r3 hq3 => gr_arg hc (e.trans (e2.trans e3)) hq3 fun c x H4 e4 r4 hq4 =>
    ⟨v, w, x, a, b, c, rfl, Rp.mono (e3.trans e4) r, Rp.mono e4 r3, r4, wp_mono hq4 (fun b _ k v' H5 e5 r5 => k v' H5 e5 (Rp.mono (dif_mix (e.trans (e2.trans (e3.trans e4))) e5) r5)) fun c _ z => z⟩
theorem g_call4 {tc td : TE} {f : α → β → γ → δ → R ρ} {ma : R α} {mb : R β} {mc : R γ} {md : R δ} (ha : Gr K E ta σ H H ma) (hb : Gr K E tb σ H H mb) (hc : Gr K E tc σ H H mc) (hd : Gr K E td σ H H md) (hE : Ex σ = E := by rfl) :
    Gr K E (tCallS (sp4 K f) Ex (tCons ta (tCons tb (tCons tc (tCons td tNil))))) σ F H (R.bd ma fun a => R.bd mb fun b => R.bd mc fun c => R.bd md fun d => f a b c d) := by
  subst hE
  exact fun H1 e Q hq =>
  gr_arg ha e hq fun a v H2 e2 r hq2 => gr_arg hb (e.trans e2) hq2 fun b w H3 e3 r3 hq3 => gr_arg hc (e.trans (e2.trans e3)) hq3 fun c x H4 e4 r4 hq4 => gr_arg hd (e.trans (e2.trans (e3.trans e4))) hq4 fun d y H5 e5 r5 hq5 =>
    ⟨v, w, x, y, a, b, c, d, rfl, Rp.mono (e3.trans (e4.trans e5)) r, Rp.mono (e4.trans e5) r3, Rp.mono e5 r4, r5, wp_mono hq5 (fun b _ k v' H6 e6 r6 => k v' H6 e6 (Rp.mono (dif_mix (e.trans (e2.trans (e3.trans (e4.trans e5)))) e6) r6)) fun c _ z => z⟩
end
end G

set_option Elab.async false
set_option linter.all false
set_option maxRecDepth 100000
set_option maxHeartbeats 2000000
/-! G: statements, loops, comprehensions. -/
namespace G
open PySem PySem.Spec PyProof.Rows L2
/-- a later pair of heaps (the frozen one, the whole); the list at p may have changed -/
structure Nx (p : Addr → Prop) (F H F' H' : Hp) : Prop where
  ff : Same F F'
  hh : ∀ b o, ¬ p b → H b = some o → H' b = some o
  fh : Same F' H'
  own : ∀ b o, tupB (some o) = false → H b = some o → F b = none → F' b = none
  th : ∀ b o, H b = some o → ∃ o', H' b = some o' ∧ tupB (some o') = tupB (some o)
abbrev Nx0 (F H F' H' : Hp) : Prop := Nx (fun _ => False) F H F' H'
theorem Nx.same {F H F' H' : Hp} (n : Nx0 F H F' H') : Same H H' := fun b o h => n.hh b o (fun z => z) h
theorem Nx.mk' {F H H' : Hp} (hF : Same F H) (e : Same H H') : Nx0 F H (mix F H H') H' :=
  ⟨same_mix hF, fun b o _ h => e b o h, mix_same hF e, fun b o z h n => by rw [mix_old h z]; exact n, fun b o h => ⟨o, e b o h, rfl⟩⟩
theorem Nx.rf {F H : Hp} (hF : Same F H) : Nx0 F H F H := ⟨Same.refl _, fun _ _ _ h => h, hF, fun _ _ _ _ n => n, fun b o h => ⟨o, h, rfl⟩⟩
/-- the element base of a list of ours: everything frozen, or what is new of it -/
def Bs (H0 F : Hp) : Bool → Hp
  | true => dif H0 F
  | false => F
theorem bs_ff {H0 F F' : Hp} (e : Same F F') : ∀ {b : Bool}, Same (Bs H0 F b) (Bs H0 F' b)
  | true => dif_mono e
  | false => e
theorem bs_le {H0 F : Hp} : ∀ {b : Bool}, Same (Bs H0 F b) F
  | true => dif_le
  | false => Same.refl _
theorem bs_mix {H0 F H H' : Hp} (e0 : Same H0 H) (hF : Same F H) (e : Same H H') : ∀ {b : Bool}, Same (mix (Bs H0 F b) H H') (Bs H0 (mix F H H') b)
  | true => mix_dif e0 hF e
  | false => Same.refl _
theorem del_same {H : Hp} {p : Addr} {o : HO} : Same (delH H p) (upd H p o) := fun b u h => by
  unfold delH at h
  split at h
  · cases h
  · rename_i c
    rw [upd_ne c]
    exact h
/-- a thing of one object that changes, its parts frozen -/
class Cel (τ : Type) [Rp τ] where
  cel : PySem.W.Frag → Hp → HO → τ → Prop
  nt : ∀ {K : PySem.W.Frag} {B : Hp} {o : HO} {x : τ}, cel K B o x → tupB (some o) = false
  mono : ∀ {K : PySem.W.Frag} {B B' : Hp} {o : HO} {x : τ}, Same B B' → cel K B o x → cel K B' o x
  rep : ∀ {K : PySem.W.Frag} {H : Hp} {p : Addr} {o : HO} {x : τ}, H p = some o → cel K H o x → Rp.rep K H (.ref p) x
instance {α : Type} [Rp α] : Cel (List α) := ⟨fun K B o xs => ∃ vs, o = .lst vs ∧ All2 (Rp.rep K B) vs xs, fun ⟨_, h, _⟩ => by rw [h]; rfl, fun e ⟨vs, h, r⟩ => ⟨vs, h, r.mono fun _ _ x => Rp.mono e x⟩, fun {K H p o x} h ⟨vs, h1, r⟩ => ⟨p, vs, rfl, by rw [h, h1], r⟩⟩
/-- a list of ours at p: not frozen, not of the entry -/
structure Own {τ : Type} [Rp τ] [Cel τ] (K : PySem.W.Frag) (H0 : Hp) (b : Bool) (F H : Hp) (p : Addr) (x : τ) : Prop where
  h0 : H0 p = none
  f : F p = none
  at_ : ∃ o, H p = some o ∧ Cel.cel K (Bs H0 F b) o x
section
variable {K : PySem.W.Frag} {E : XK} {σ : L2.St} {H0 F H F' H' : Hp} {ta tb te tl to ti : TE} {t u : TT} {tu tw tz : TS} {α β γ δ ρ S : Type} [Rp α] [Rp β] [Rp γ] [Rp δ] [Rp ρ] {D : Ends} {b : Bool} {P : Addr → Prop}
variable {τ : Type} [Rp τ] [Cel τ]
theorem Own.nx {p : Addr} {x : τ} (o : Own K H0 b F H p x) (n : Nx P F H F' H') (hp : ¬ P p) : Own K H0 b F' H' p x := by
  obtain ⟨h0, f, u, h, r⟩ := o
  exact ⟨h0, n.own p _ (Cel.nt r) h f, u, n.hh p _ hp h, Cel.mono (bs_ff n.ff) r⟩
theorem Own.nx0 {p : Addr} {x : τ} (o : Own K H0 b F H p x) (n : Nx0 F H F' H') : Own K H0 b F' H' p x := o.nx n fun z => z
theorem Own.there {p : Addr} {x : τ} (o : Own K H0 b F H p x) : ∃ u, H p = some u := let ⟨_, h, _⟩ := o.at_; ⟨_, h⟩
/-- it may be read -/
theorem Own.rep {p : Addr} {x : τ} (o : Own K H0 b F H p x) (hF : Same F H) : Rp.rep K H (.ref p) x := by
  obtain ⟨h0, f, u, h, r⟩ := o
  exact Cel.rep h (Cel.mono (bs_le.trans hF) r)
/-- it is told: all of it new -/
theorem Own.rep0 {p : Addr} {x : τ} (o : Own K H0 true F H p x) (hF : Same F H) : Rp.rep K (dif H0 H) (.ref p) x := by
  obtain ⟨h0, f, u, h, r⟩ := o
  exact Cel.rep (dif_of h0 h) (Cel.mono (dif_mono hF) r)
theorem Own.lst {p : Addr} {xs : List α} (o : Own K H0 b F H p xs) : H0 p = none ∧ F p = none ∧ ∃ vs, H p = some (.lst vs) ∧ All2 (Rp.rep K (Bs H0 F b)) vs xs := by
  obtain ⟨h0, f, u, h, vs, rfl, r⟩ := o
  exact ⟨h0, f, vs, h, r⟩
theorem Own.of {p : Addr} {xs : List α} {vs : List V} (h0 : H0 p = none) (f : F p = none) (h : H p = some (.lst vs)) (r : All2 (Rp.rep K (Bs H0 F b)) vs xs) : Own K H0 b F H p xs := ⟨h0, f, _, h, vs, rfl, r⟩
theorem Own.repS [Sc α] {p : Addr} {xs : List α} (o : Own K H0 b F H p xs) : Rp.rep K (dif H0 H) (.ref p) xs := by
  obtain ⟨h0, f, vs, h, r⟩ := o.lst
  exact ⟨p, vs, rfl, dif_of h0 h, r.mono fun _ _ x => Sc.is.mpr (Sc.is.mp x)⟩
/-- it is frozen -/
theorem Own.frz {p : Addr} {x : τ} (o : Own K H0 b F H p x) (hF : Same F H) : ∃ F', Same F F' ∧ Same F' H ∧ (∀ q, q ≠ p → F' q = F q) ∧ Rp.rep K F' (.ref p) x ∧ (b = true → Rp.rep K (dif H0 F') (.ref p) x) := by
  obtain ⟨h0, f, u, h, r⟩ := o
  refine ⟨upd F p u, same_upd f, fun x o q => ?_, fun q hq => upd_ne hq, Cel.rep upd_same (Cel.mono (bs_le.trans (same_upd f)) r), fun hb => ?_⟩
  · unfold upd at q
    split at q
    · rename_i c
      rw [c, h]
      exact q
    · exact hF x o q
  · subst hb
    exact Cel.rep (dif_of h0 upd_same) (Cel.mono (dif_mono (same_upd f)) r)
theorem Own.frzS [Sc α] {p : Addr} {xs : List α} (o : Own K H0 b F H p xs) (hF : Same F H) : ∃ F', Same F F' ∧ Same F' H ∧ (∀ q, q ≠ p → F' q = F q) ∧ Rp.rep K (dif H0 F') (.ref p) xs := by
  obtain ⟨F', h1, h2, h3, h4, h5⟩ := o.frz hF
  obtain ⟨q, vs, e, h, r⟩ := h4
  cases e
  exact ⟨F', h1, h2, h3, p, vs, rfl, dif_of o.h0 h, r.mono fun _ _ x => Sc.is.mpr (Sc.is.mp x)⟩
theorem Own.fz {p q : Addr} {x : τ} (o : Own K H0 b F H q x) (hf : Same F F') (h : ∀ q, q ≠ p → F' q = F q) (ne : q ≠ p) : Own K H0 b F' H q x := by
  obtain ⟨h0, f, u, hh, r⟩ := o
  exact ⟨h0, by rw [h q ne]; exact f, u, hh, Cel.mono (bs_ff hf) r⟩
/-! ### assignments -/
theorem s_asg {i : Nat} {m : R α} {k : α → R β} {kk : β → Prop} (he : Gr K E te σ F H m) (hF : Same F H) (e0 : Same H0 H) (hQ : Wp (R.bd m k) kk (EE K E H0))
    (c : ∀ a v F' H', Nx0 F H F' H' → Same H0 H' → Rp.rep K F' v a → Wp (k a) kk (EE K E H0) → D.nx (σ.set i (some v)) H') : tAsg te (gName i) D σ H := by
  refine he H (Same.refl _) _ ?_
  rw [wp_bd] at hQ
  exact wp_mono hQ (fun a _ q v H2 e2 r => c a v _ H2 (Nx.mk' hF e2) (e0.trans e2) r q) fun c _ z => z.mono e0
/-- what is told is new -/
theorem s_asgN {i : Nat} {m : R α} {k : α → R β} {kk : β → Prop} (he : Gr K E te σ (dif H0 F) H m) (hF : Same F H) (e0 : Same H0 H) (hQ : Wp (R.bd m k) kk (EE K E H0))
    (c : ∀ a v F' H', Nx0 F H F' H' → Same H0 H' → Rp.rep K (dif H0 F') v a → Wp (k a) kk (EE K E H0) → D.nx (σ.set i (some v)) H') : tAsg te (gName i) D σ H := by
  refine he H (Same.refl _) _ ?_
  rw [wp_bd] at hQ
  exact wp_mono hQ (fun a _ q v H2 e2 r => c a v _ H2 (Nx.mk' hF e2) (e0.trans e2) (Rp.mono (mix_dif e0 hF e2) r) q) fun c _ z => z.mono e0
abbrev nil0 : Hp := fun _ => none
/-- a new list of ints (bools, texts) that becomes ours -/
theorem s_asgO [Sc α] {i : Nat} {m : R (List α)} {k : List α → R β} {kk : β → Prop} (he : Gr K E te σ nil0 H m) (hF : Same F H) (e0 : Same H0 H) (hQ : Wp (R.bd m k) kk (EE K E H0))
    (c : ∀ a p F' H', Nx0 F H F' H' → Same H0 H' → Own K H0 b F' H' p a → (∀ q, (∃ u, H q = some u) → q ≠ p) → Wp (k a) kk (EE K E H0) → D.nx (σ.set i (some (.ref p))) H') : tAsg te (gName i) D σ H := by
  refine he H (Same.refl _) _ ?_
  rw [wp_bd] at hQ
  refine wp_mono hQ (fun a _ q v H2 e2 r => ?_) fun c _ z => z.mono e0
  obtain ⟨p, vs, rfl, hp, hv⟩ := r
  have hn : H p = none := by
    cases z : H p with
    | none => rfl
    | some u =>
      rcases mix_cases hp with ⟨h, _⟩ | ⟨h, t⟩ | ⟨_, _, _, h⟩
      · rw [z] at h; cases h
      · cases t
      · cases h
  have hp2 : H2 p = some (.lst vs) := by
    rw [mix_new hn] at hp
    exact hp
  refine c a p (delH (mix F H H2) p) H2 ⟨fun x o h => ?_, fun x o _ h => e2 x o h, fun x o h => ?_, fun x o z h n => ?_, fun x o h => ⟨o, e2 x o h, rfl⟩⟩ (e0.trans e2) (Own.of (Same.free e0 hn) delH_same hp2 (hv.mono fun _ _ x => Sc.is.mpr (Sc.is.mp x))) (fun z ⟨u, hu⟩ e => by rw [e, hn] at hu; cases hu) q
  · have : x ≠ p := fun z => by
      rw [z] at h
      have := hF p o h
      rw [hn] at this
      cases this
    rw [delH_ne this]
    exact same_mix hF x o h
  · unfold delH at h
    split at h
    · cases h
    · exact mix_same hF e2 x o h
  · unfold delH
    split
    · rfl
    · rw [mix_old h z]
      exact n
/-- a written list of ours: [e, ..] -/
theorem s_asgL {i : Nat} {tr : TA} {m : R (List α)} {k : List α → R β} {kk : β → Prop} (he : GrA K E tr σ (Bs H0 F b) H m) (hF : Same F H) (e0 : Same H0 H) (hQ : Wp (R.bd (R.bd m fun as => gd (as.length ≤ lim) (.ok as)) k) kk (EE K E H0))
    (c : ∀ a p F' H', Nx0 F H F' H' → Same H0 H' → Own K H0 b F' H' p a → (∀ q, (∃ u, H q = some u) → q ≠ p) → Wp (k a) kk (EE K E H0) → D.nx (σ.set i (some (.ref p))) H') : tAsg (tLst tr) (gName i) D σ H := by
  refine he H (Same.refl _) _ ?_
  rw [bd_assoc, wp_bd] at hQ
  refine wp_mono hQ (fun as _ q vs H2 e2 r => ?_) fun c _ z => z.mono e0
  unfold gd at q
  split at q
  · rename_i cl
    refine ⟨lim_line (by rw [r.length]; exact cl), fun p hp => ?_⟩
    have hn : H p = none := Same.free e2 hp
    refine c as p (mix F H H2) (upd H2 p (.lst vs)) ⟨same_mix hF, fun x o _ h => same_upd hp x o (e2 x o h), (mix_same hF e2).trans (same_upd hp), fun x o z h n => by rw [mix_old h z]; exact n, fun x o h => ⟨o, same_upd hp x o (e2 x o h), rfl⟩⟩
      (e0.trans (e2.trans (same_upd hp))) (Own.of (Same.free e0 hn) (by rw [mix_new hn]; exact hp) upd_same (r.mono fun _ _ x => Rp.mono (bs_mix e0 hF e2) x)) (fun z ⟨u, hu⟩ e => by rw [e, hn] at hu; cases hu) q
  · exact q.elim
/-! ### changes of a list of ours -/
/-- the expression tells the list at p, changing nothing -/
def At (te : TE) (σ : L2.St) (H : Hp) (p : Addr) : Prop := ∀ H1, Same H H1 → ∀ Q : VK, Q (.ref p) H1 → te σ H1 Q
theorem at_var {i : Nat} {p : Addr} (h : σ[i]? = some (some (.ref p))) : At (tVar i) σ H p := fun H1 _ Q q => ⟨_, h, q⟩
noncomputable def appR {α : Type} (xs : List α) (a : α) : R (List α) := gd (xs.length < lim) (.ok (xs ++ [a]))
theorem nx_upd {H2 : Hp} {p : Addr} {o o' : HO} (hF : Same F H) (e2 : Same H H2) (hp : H p = some o) (hf : F p = none) (ho : tupB (some o) = false := by rfl) (ho' : tupB (some o') = false := by rfl) : Nx (fun q => q = p) F H (mix F H H2) (upd H2 p o') :=
  ⟨same_mix hF, fun x o n h => by rw [upd_ne n]; exact e2 x o h, fun x o h => by
    have : x ≠ p := fun z => by
      rw [z, mix_old hp ho, hf] at h
      cases h
    rw [upd_ne this]
    exact mix_same hF e2 x o h, fun x o z h n => by rw [mix_old h z]; exact n, fun x u h => by
    by_cases c : x = p
    · rw [c] at h ⊢; rw [hp] at h; cases h; exact ⟨_, upd_same, by rw [ho, ho']⟩
    · rw [upd_ne c]; exact ⟨_, e2 x u h, rfl⟩⟩
theorem e0_upd {H2 : Hp} {p : Addr} {o' : HO} (e0 : Same H0 H) (e2 : Same H H2) (h0 : H0 p = none) : Same H0 (upd H2 p o') := fun x o h => by
  have : x ≠ p := fun z => by rw [z, h0] at h; cases h
  rw [upd_ne this]
  exact e2 x o (e0 x o h)
theorem s_app {p : Addr} {xs : List α} {m : R α} {k : List α → R β} {kk : β → Prop} (ha : At to σ H p) (o : Own K H0 b F H p xs) (he : Gr K E te σ (Bs H0 F b) H m) (hF : Same F H) (e0 : Same H0 H) (hQ : Wp (R.bd (R.bd m fun a => appR xs a) k) kk (EE K E H0))
    (c : ∀ xs' F' H', Nx (fun q => q = p) F H F' H' → Same H0 H' → Own K H0 b F' H' p xs' → Wp (k xs') kk (EE K E H0) → D.nx σ H') : tDrop (tBM K "list" rAppend to (tCons te tNil)) D σ H := by
  obtain ⟨h0, f, vs, hp, r⟩ := o.lst
  refine ha H (Same.refl _) _ ⟨.inl ⟨rfl, _, SqL.of hp⟩, ?_⟩
  refine he H (Same.refl _) _ ?_
  rw [bd_assoc, wp_bd] at hQ
  refine wp_mono hQ (fun a _ q v H2 e2 rv => ?_) fun c _ z => z.mono e0
  unfold appR gd at q
  split at q
  · rename_i cl
    refine ⟨p, vs, v, rfl, rfl, e2 p _ hp, lim_line' (by rw [r.length]; exact cl), ?_⟩
    exact c _ (mix F H H2) _ (nx_upd hF e2 hp f) (e0_upd e0 e2 h0) (Own.of h0 (by rw [mix_old hp]; exact f) upd_same ((r.mono fun _ _ x => Rp.mono (bs_ff (same_mix hF)) x).append (.cons (Rp.mono (bs_mix e0 hF e2) rv) .nil))) q
  · exact q.elim
def setR {α : Type} (xs : List α) (i : Int) (a : α) : R (List α) := match ixN xs.length i with
  | some j => .ok (xs.set j a)
  | none => .bad
theorem s_set {p : Addr} {xs : List α} {m : R α} {mi : R Int} {k : List α → R β} {kk : β → Prop} (ha : At to σ H p) (o : Own K H0 b F H p xs) (he : Gr K E te σ (Bs H0 F b) H m) (hi : Gr K E ti σ H H mi) (hF : Same F H) (e0 : Same H0 H)
    (hQ : Wp (R.bd (R.bd m fun a => R.bd mi fun i => setR xs i a) k) kk (EE K E H0))
    (c : ∀ xs' F' H', Nx (fun q => q = p) F H F' H' → Same H0 H' → Own K H0 b F' H' p xs' → Wp (k xs') kk (EE K E H0) → D.nx σ H') : tAsg te (gSub to ti rSetL) D σ H := by
  obtain ⟨h0, f, vs, hp, r⟩ := o.lst
  refine he H (Same.refl _) _ ?_
  rw [bd_assoc, wp_bd] at hQ
  refine wp_mono hQ (fun a _ q v H2 e2 rv => ?_) fun c _ z => z.mono e0
  refine ha H2 e2 _ ?_
  refine hi H2 e2 _ ?_
  rw [bd_assoc, wp_bd] at q
  refine wp_mono q (fun i _ q w H3 e3 ri => ?_) fun c _ z => z.mono (e0.trans e2)
  have ri' : w = .int i := ri
  subst ri'
  unfold setR at q
  rw [← r.length] at q
  cases j : ixN vs.length i with
  | none => rw [j] at q; exact q.elim
  | some j' =>
    rw [j] at q
    have e3' := e2.trans e3
    refine ⟨p, vs, i, j', rfl, rfl, e3 p _ (e2 p _ hp), j, ?_⟩
    exact c _ (mix F H H3) _ (nx_upd hF e3' hp f) (e0_upd e0 e3' h0) (Own.of h0 (by rw [mix_old hp]; exact f) upd_same ((r.mono fun _ _ x => Rp.mono (bs_ff (same_mix hF)) x).set (Rp.mono ((mix_mono e3).trans (bs_mix e0 hF e3')) rv) _)) q
/-- xs[i] op= e, ints -/
theorem s_augS {p : Addr} {xs : List Int} {m mi : R Int} {f : Int → Int → Int} {k : List Int → R β} {kk : β → Prop} (ha : At to σ H p) (o : Own K H0 b F H p xs) (hi : Gr K E ti σ H H mi) (he : Gr K E te σ H H m) (hF : Same F H) (e0 : Same H0 H)
    (hQ : Wp (R.bd (R.bd mi fun i => R.bd (idx xs i) fun x => R.bd m fun a => setR xs i (f x a)) k) kk (EE K E H0))
    (c : ∀ xs' F' H', Nx (fun q => q = p) F H F' H' → Same H0 H' → Own K H0 b F' H' p xs' → Wp (k xs') kk (EE K E H0) → D.nx σ H') : tAugS to ti te (rIxL K) (ipI f) rSetL D σ H := by
  obtain ⟨h0, fr, vs, hp, r⟩ := o.lst
  refine ha H (Same.refl _) _ ?_
  refine hi H (Same.refl _) _ ?_
  rw [bd_assoc, wp_bd] at hQ
  refine wp_mono hQ (fun i _ q w H2 e2 ri => ?_) fun c _ z => z.mono e0
  have ri' : w = .int i := ri
  subst ri'
  rw [bd_assoc] at q
  have ei := rep_ints r
  subst ei
  unfold idx at q
  cases jx : atI xs i with
  | none => rw [jx] at q; exact q.elim
  | some x =>
    rw [jx] at q
    refine ⟨p, _, i, _, rfl, rfl, SqL.of (e2 p _ hp), atI_map jx, ?_⟩
    refine he H2 e2 _ ?_
    rw [bd_ok, bd_assoc, wp_bd] at q
    refine wp_mono q (fun a _ q w2 H3 e3 ra => ?_) fun c _ z => z.mono (e0.trans e2)
    have ra' : w2 = .int a := ra
    subst ra'
    refine ⟨x, a, rfl, rfl, ?_⟩
    unfold setR at q
    cases j : ixN xs.length i with
    | none => rw [j] at q; exact q.elim
    | some j' =>
      rw [j] at q
      have e3' := e2.trans e3
      refine ⟨p, _, i, j', rfl, rfl, e3 p _ (e2 p _ hp), by rw [List.length_map]; exact j, ?_⟩
      rw [← List.map_set]
      exact c _ (mix F H H3) _ (nx_upd hF e3' hp fr) (e0_upd e0 e3' h0) (Own.of h0 (by rw [mix_old hp]; exact fr) upd_same (ints_rep _)) q
/-- x op= e, ints -/
theorem s_aug {i : Nat} {x : Int} {m : R Int} {f : Int → Int → Int} {k : Int → R β} {kk : β → Prop} (hx : σ[i]? = some (some (.int x))) (he : Gr K E te σ H H m) (hF : Same F H) (e0 : Same H0 H) (hQ : Wp (R.bd (R.bd m fun a => .ok (f x a)) k) kk (EE K E H0))
    (c : ∀ a F' H', Nx0 F H F' H' → Same H0 H' → Wp (k a) kk (EE K E H0) → D.nx (σ.set i (some (.int a))) H') : tAug i te (ipI f) D σ H := by
  refine ⟨_, hx, he H (Same.refl _) _ ?_⟩
  rw [bd_assoc, wp_bd] at hQ
  refine wp_mono hQ (fun a _ q v H2 e2 r => ?_) fun c _ z => z.mono e0
  have r' : v = .int a := r
  subst r'
  exact ⟨x, a, rfl, rfl, c _ _ H2 (Nx.mk' hF e2) (e0.trans e2) q⟩
def popR {α : Type} (xs : List α) : R (List α) := match xs with
  | [] => .bad
  | _ => .ok xs.dropLast
/-- xs.pop(), what is told is dropped -/
theorem s_pop {p : Addr} {xs : List α} {k : List α → R β} {kk : β → Prop} (ha : At to σ H p) (o : Own K H0 b F H p xs) (hF : Same F H) (e0 : Same H0 H) (hQ : Wp (R.bd (popR xs) k) kk (EE K E H0))
    (c : ∀ xs' F' H', Nx (fun q => q = p) F H F' H' → Same H0 H' → Own K H0 b F' H' p xs' → Wp (k xs') kk (EE K E H0) → D.nx σ H') : tDrop (tBM0 K "list" rPop to) D σ H := by
  obtain ⟨h0, f, vs, hp, r⟩ := o.lst
  refine ha H (Same.refl _) _ ⟨.inl ⟨rfl, _, SqL.of hp⟩, ?_⟩
  cases xs with
  | nil => exact hQ.elim
  | cons x l =>
    have hl := r.length
    have : ∃ y, vs[vs.length - 1]? = some y := ⟨vs[vs.length - 1]'(by rw [hl]; simp), List.getElem?_eq_getElem _⟩
    obtain ⟨y, hy⟩ := this
    refine ⟨p, vs, y, rfl, rfl, hp, hy, ?_⟩
    have n := nx_upd (o' := .lst vs.dropLast) hF (Same.refl H) hp f
    exact c _ _ _ n (e0_upd e0 (Same.refl _) h0) (Own.of h0 (by rw [mix_old hp]; exact f) upd_same (r.mono fun _ _ x => Rp.mono (bs_ff n.ff) x).dropLast) hQ
/-- an expression whose value is dropped -/
theorem s_drop {m : R α} {k : α → R β} {kk : β → Prop} (he : Gr K E te σ F H m) (hF : Same F H) (e0 : Same H0 H) (hQ : Wp (R.bd m k) kk (EE K E H0))
    (c : ∀ a F' H', Nx0 F H F' H' → Same H0 H' → Wp (k a) kk (EE K E H0) → D.nx σ H') : tDrop te D σ H := by
  refine he H (Same.refl _) _ ?_
  rw [wp_bd] at hQ
  exact wp_mono hQ (fun a _ q v H2 e2 r => c a _ H2 (Nx.mk' hF e2) (e0.trans e2) q) fun c _ z => z.mono e0
/-! ### unpacking -/
theorem s_unp {i j : Nat} {m : R (α × β)} {k : α × β → R γ} {kk : γ → Prop} (he : Gr K E te σ F H m) (hF : Same F H) (e0 : Same H0 H) (hQ : Wp (R.bd m k) kk (EE K E H0))
    (c : ∀ a b v w F' H', Nx0 F H F' H' → Same H0 H' → Rp.rep K F' v a → Rp.rep K F' w b → Wp (k (a, b)) kk (EE K E H0) → D.nx ((σ.set i (some v)).set j (some w)) H') : tAsg te (gTup K 2 (gCons (gName i) (gCons (gName j) gNil))) D σ H := by
  refine he H (Same.refl _) _ ?_
  rw [wp_bd] at hQ
  refine wp_mono hQ (fun a _ q v H2 e2 r => ?_) fun c _ z => z.mono e0
  obtain ⟨p, x, y, rfl, hp, r1, r2⟩ := r
  exact ⟨p, _, rfl, SqT.of (mix_same hF e2 p _ hp), rfl, x, _, rfl, y, _, rfl, rfl, c a.1 a.2 x y _ H2 (Nx.mk' hF e2) (e0.trans e2) r1 r2 q⟩
theorem s_unpN {i j : Nat} {m : R (α × β)} {k : α × β → R γ} {kk : γ → Prop} (he : Gr K E te σ (dif H0 F) H m) (hF : Same F H) (e0 : Same H0 H) (hQ : Wp (R.bd m k) kk (EE K E H0))
    (c : ∀ a b v w F' H', Nx0 F H F' H' → Same H0 H' → Rp.rep K (dif H0 F') v a → Rp.rep K (dif H0 F') w b → Wp (k (a, b)) kk (EE K E H0) → D.nx ((σ.set i (some v)).set j (some w)) H') : tAsg te (gTup K 2 (gCons (gName i) (gCons (gName j) gNil))) D σ H := by
  refine he H (Same.refl _) _ ?_
  rw [wp_bd] at hQ
  refine wp_mono hQ (fun a _ q v H2 e2 r => ?_) fun c _ z => z.mono e0
  have r' := Rp.mono (mix_dif e0 hF e2) r
  obtain ⟨p, x, y, rfl, hp, r1, r2⟩ := r'
  exact ⟨p, _, rfl, SqT.of (mix_same hF e2 p _ (dif_le p _ hp)), rfl, x, _, rfl, y, _, rfl, rfl, c a.1 a.2 x y _ H2 (Nx.mk' hF e2) (e0.trans e2) r1 r2 q⟩
/-- a, b = x, y -/
theorem s_par {i j : Nat} {ma : R α} {mb : R β} {k : α → β → R γ} {kk : γ → Prop} (ha : Gr K E ta σ F H ma) (hb : Gr K E tb σ F H mb) (hF : Same F H) (e0 : Same H0 H) (hQ : Wp (R.bd ma fun a => R.bd mb fun b => k a b) kk (EE K E H0))
    (c : ∀ a b v w F' H', Nx0 F H F' H' → Same H0 H' → Rp.rep K F' v a → Rp.rep K F' w b → Wp (k a b) kk (EE K E H0) → D.nx ((σ.set i (some v)).set j (some w)) H') : tPar i j (tCons ta (tCons tb tNil)) D σ H := by
  refine ha H (Same.refl _) _ ?_
  rw [wp_bd] at hQ
  refine wp_mono hQ (fun a _ q v H2 e2 r => ?_) fun c _ z => z.mono e0
  refine hb H2 e2 _ ?_
  rw [wp_bd] at q
  exact wp_mono q (fun b _ q w H3 e3 r3 => ⟨v, w, rfl, c a b v w _ H3 (Nx.mk' hF (e2.trans e3)) (e0.trans (e2.trans e3)) (Rp.mono (mix_mono e3) r) r3 q⟩) fun c _ z => z.mono (e0.trans e2)
/-! ### if, return -/
theorem s_if {m : R Bool} {k : Bool → R β} {kk : β → Prop} (hc : GrT K E t σ H m) (hF : Same F H) (e0 : Same H0 H) (hQ : Wp (R.bd m k) kk (EE K E H0))
    (h1 : ∀ F' H', Nx0 F H F' H' → Same H0 H' → Wp (k true) kk (EE K E H0) → tu D σ H') (h2 : ∀ F' H', Nx0 F H F' H' → Same H0 H' → Wp (k false) kk (EE K E H0) → tw D σ H') : tIfS t tu tw D σ H := by
  refine hc H (Same.refl _) _ ?_
  rw [wp_bd] at hQ
  refine wp_mono hQ (fun b _ q H2 e2 => ?_) fun c _ z => z.mono e0
  cases b with
  | true => exact h1 _ H2 (Nx.mk' hF e2) (e0.trans e2) q
  | false => exact h2 _ H2 (Nx.mk' hF e2) (e0.trans e2) q
theorem mix_new0 {H H' : Hp} (e0 : Same H0 H) (e : Same H H') : Same (mix (dif H0 H) H H') (dif H0 H') := mix_dif e0 (Same.refl _) e |>.trans (dif_mono (mix_same (Same.refl _) e))
theorem s_ret {m : R α} {k : α → R β} {kk : β → Prop} (he : Gr K E te σ (dif H0 H) H m) (e0 : Same H0 H) (hQ : Wp (R.bd m k) kk (EE K E H0)) (hk : ∀ a, Wp (k a) kk (EE K E H0) → KN K H0 D.rt a) : tRet te D σ H := by
  refine he H (Same.refl _) _ ?_
  rw [wp_bd] at hQ
  exact wp_mono hQ (fun a _ q v H2 e2 r => hk a q v H2 (e0.trans e2) (Rp.mono (mix_new0 e0 e2) r)) fun c _ z => z.mono e0
/-! ### a word between -/
theorem s_cut {M : L2.St → Hp → Prop} (h : tu { D with nx := M } σ H) (k : ∀ σ' H', M σ' H' → tz D σ' H') : Evl.tCut tu tz D σ H := ⟨M, h, k⟩
/-! ### loops -/
inductive Fl (S ρ : Type) where
  | go (s : S)
  | brk (s : S)
  | ret (r : ρ)
def forR {α S ρ : Type} (body : α → S → R (Fl S ρ)) : List α → S → R (Fl S ρ)
  | [], s => .ok (.go s)
  | x :: l, s => R.bd (body x s) fun f => match f with
    | .go s' => forR body l s'
    | .brk s' => .ok (.go s')
    | .ret r => .ok (.ret r)
/-- no break, no return -/
def forS {α S : Type} (body : α → S → R S) : List α → S → R S
  | [], s => .ok s
  | x :: l, s => R.bd (body x s) fun s' => forS body l s'
def whileR {S ρ : Type} (c : S → R Bool) (body : S → R (Fl S ρ)) : Nat → S → R (Fl S ρ)
  | 0, _ => .bad
  | n + 1, s => R.bd (c s) fun b => if b = true then R.bd (body s) fun f => match f with
      | .go s' => whileR c body n s'
      | .brk s' => .ok (.go s')
      | .ret r => .ok (.ret r)
    else .ok (.go s)
def whileS {S : Type} (c : S → R Bool) (body : S → R S) : Nat → S → R S
  | 0, _ => .bad
  | n + 1, s => R.bd (c s) fun b => if b = true then R.bd (body s) fun s' => whileS c body n s' else .ok s
/-- the iterator J tells xs, wherever the heap G stands -/
structure ItOk (J : It) (K : PySem.W.Frag) (G : Hp) (xs : List α) : Prop where
  go : ∀ i H', Same G H' → i < xs.length → J.go i H'
  stop : ∀ i H', Same G H' → i = xs.length → J.stop i H'
  yld : ∀ i H' x H'', Same G H' → i < xs.length → J.yld i H' x H'' → Same H' H'' ∧ ∃ a, xs[i]? = some a ∧ Rp.rep K (mix G H' H'') x a
def GrI (K : PySem.W.Frag) (E : XK) (wi : TI) (σ : L2.St) (F H : Hp) (m : R (List α)) : Prop :=
  ∀ H1, Same H H1 → ∀ RR : It → Hp → Prop, Wp m (fun xs => ∀ J H2, Same H1 H2 → ItOk J K (mix F H H2) xs → RR J H2) (EE K E H1) → wi σ H1 RR
theorem s_for {wi : TI} {g : TG} {m : R (List α)} {k : List α → R β} {kk : β → Prop} (hi : GrI K E wi σ F H m) (hF : Same F H) (e0 : Same H0 H) (hQ : Wp (R.bd m k) kk (EE K E H0))
    (c : ∀ xs J F' H', Nx0 F H F' H' → Same H0 H' → ItOk J K F' xs → Wp (k xs) kk (EE K E H0) → ∃ W : Nat → Nat → L2.St → Hp → Prop, (∃ m, W 0 m σ H') ∧ ∀ i m σ H, W i m σ H →
      (J.stop i H ∧ D.nx σ H) ∨ (J.go i H ∧ ∃ N : L2.St → Hp → Prop, (∀ σ' H', N σ' H' → ∃ m', m' < m ∧ W (i + 1) m' σ' H') ∧ ∀ x H', J.yld i H x H' → g x σ H' fun σ2 H2 => tu { D with nx := N, ct := N, bk := D.nx } σ2 H2)) : tFor wi g tu D σ H := by
  refine hi H (Same.refl _) _ ?_
  rw [wp_bd] at hQ
  exact wp_mono hQ (fun xs _ q J H2 e2 ok => c xs J _ H2 (Nx.mk' hF e2) (e0.trans e2) ok q) fun c _ z => z.mono e0
def kF {S ρ β : Type} (kk : Fl S ρ → Prop) (w : S → Prop) : Fl S ρ → Prop
  | .go s' => w s'
  | .brk s' => kk (.go s')
  | .ret r => kk (.ret r)
theorem drop_get {α : Type} {l : List α} {i : Nat} {a : α} (h : l[i]? = some a) : l.drop i = a :: l.drop (i + 1) := by
  obtain ⟨h1, h2⟩ := List.getElem?_eq_some_iff.mp h
  rw [List.drop_eq_getElem_cons h1, h2]
theorem for_R {ρ : Type} {J : It} {G : Hp} {xs : List α} {g : TG} {body : α → S → R (Fl S ρ)} {s0 : S} {kk : Fl S ρ → Prop} {ee : Er → Prop} (ok : ItOk J K G xs) (I : S → L2.St → Hp → Prop) (hk : ∀ s σ' H', I s σ' H' → Same G H') (h0 : I s0 σ H)
    (hQ : Wp (forR body xs s0) kk ee) (turn : ∀ x l s v σ' H' H'', I s σ' H' → Same H' H'' → Rp.rep K (mix G H' H'') v x → Wp (body x s) (kF (β := Unit) kk fun s' => Wp (forR body l s') kk ee) ee →
      g v σ' H'' fun σ2 H2 => tu { D with nx := fun σ3 H3 => ∃ s', I s' σ3 H3 ∧ Wp (forR body l s') kk ee, ct := fun σ3 H3 => ∃ s', I s' σ3 H3 ∧ Wp (forR body l s') kk ee, bk := D.nx } σ2 H2)
    (done : ∀ s σ' H', I s σ' H' → kk (.go s) → D.nx σ' H') : ∃ W : Nat → Nat → L2.St → Hp → Prop, (∃ m, W 0 m σ H) ∧ ∀ i m σ H, W i m σ H →
      (J.stop i H ∧ D.nx σ H) ∨ (J.go i H ∧ ∃ N : L2.St → Hp → Prop, (∀ σ' H', N σ' H' → ∃ m', m' < m ∧ W (i + 1) m' σ' H') ∧ ∀ x H', J.yld i H x H' → g x σ H' fun σ2 H2 => tu { D with nx := N, ct := N, bk := D.nx } σ2 H2) := by
  refine ⟨fun i m σ' H' => m = xs.length - i ∧ i ≤ xs.length ∧ ∃ s, I s σ' H' ∧ Wp (forR body (xs.drop i) s) kk ee, ⟨_, rfl, Nat.zero_le _, s0, h0, hQ⟩, ?_⟩
  rintro i m σ' H' ⟨rfl, hi, s, hI, hq⟩
  have kp := hk s σ' H' hI
  by_cases c : i < xs.length
  · refine .inr ⟨ok.go i H' kp c, fun σ3 H3 => ∃ s', I s' σ3 H3 ∧ Wp (forR body (xs.drop (i + 1)) s') kk ee, fun σ3 H3 h3 => ⟨_, by omega, rfl, c, h3⟩, fun x H'' y => ?_⟩
    obtain ⟨e1, a, ha, r⟩ := ok.yld i H' x H'' kp c y
    rw [drop_get ha] at hq
    refine turn a (xs.drop (i + 1)) s x σ' H' H'' hI e1 r ?_
    have hq2 : Wp (R.bd (body a s) fun f => match f with
      | .go s' => forR body (xs.drop (i + 1)) s'
      | .brk s' => .ok (.go s')
      | .ret r => .ok (.ret r)) kk ee := hq
    rw [wp_bd] at hq2
    refine wp_mono hq2 (fun f _ q => ?_) fun _ _ z => z
    cases f with
    | go s' => exact q
    | brk s' => exact q
    | ret r => exact q
  · have e : i = xs.length := by omega
    refine .inl ⟨ok.stop i H' kp e, done s σ' H' hI ?_⟩
    rw [e, List.drop_length] at hq
    exact hq
theorem for_S {J : It} {G : Hp} {xs : List α} {g : TG} {body : α → S → R S} {s0 : S} {kk : S → Prop} {ee : Er → Prop} (ok : ItOk J K G xs) (I : S → L2.St → Hp → Prop) (hk : ∀ s σ' H', I s σ' H' → Same G H') (h0 : I s0 σ H)
    (hQ : Wp (forS body xs s0) kk ee) (turn : ∀ x l s v σ' H' H'', I s σ' H' → Same H' H'' → Rp.rep K (mix G H' H'') v x → Wp (body x s) (fun s' => Wp (forS body l s') kk ee) ee →
      g v σ' H'' fun σ2 H2 => tu { D with nx := fun σ3 H3 => ∃ s', I s' σ3 H3 ∧ Wp (forS body l s') kk ee, ct := fun σ3 H3 => ∃ s', I s' σ3 H3 ∧ Wp (forS body l s') kk ee, bk := D.nx } σ2 H2)
    (done : ∀ s σ' H', I s σ' H' → kk s → D.nx σ' H') : ∃ W : Nat → Nat → L2.St → Hp → Prop, (∃ m, W 0 m σ H) ∧ ∀ i m σ H, W i m σ H →
      (J.stop i H ∧ D.nx σ H) ∨ (J.go i H ∧ ∃ N : L2.St → Hp → Prop, (∀ σ' H', N σ' H' → ∃ m', m' < m ∧ W (i + 1) m' σ' H') ∧ ∀ x H', J.yld i H x H' → g x σ H' fun σ2 H2 => tu { D with nx := N, ct := N, bk := D.nx } σ2 H2) := by
  refine ⟨fun i m σ' H' => m = xs.length - i ∧ i ≤ xs.length ∧ ∃ s, I s σ' H' ∧ Wp (forS body (xs.drop i) s) kk ee, ⟨_, rfl, Nat.zero_le _, s0, h0, hQ⟩, ?_⟩
  rintro i m σ' H' ⟨rfl, hi, s, hI, hq⟩
  have kp := hk s σ' H' hI
  by_cases c : i < xs.length
  · refine .inr ⟨ok.go i H' kp c, fun σ3 H3 => ∃ s', I s' σ3 H3 ∧ Wp (forS body (xs.drop (i + 1)) s') kk ee, fun σ3 H3 h3 => ⟨_, by omega, rfl, c, h3⟩, fun x H'' y => ?_⟩
    obtain ⟨e1, a, ha, r⟩ := ok.yld i H' x H'' kp c y
    rw [drop_get ha] at hq
    refine turn a (xs.drop (i + 1)) s x σ' H' H'' hI e1 r ?_
    have hq2 : Wp (R.bd (body a s) fun s' => forS body (xs.drop (i + 1)) s') kk ee := hq
    rw [wp_bd] at hq2
    exact hq2
  · have e : i = xs.length := by omega
    refine .inl ⟨ok.stop i H' kp e, done s σ' H' hI ?_⟩
    rw [e, List.drop_length] at hq
    exact hq
/-- while -/
theorem while_R {ρ : Type} {c : S → R Bool} {body : S → R (Fl S ρ)} {n : Nat} {s0 : S} {kk : Fl S ρ → Prop} (I : S → L2.St → Hp → Prop) (h0 : I s0 σ H) (hQ : Wp (whileR c body n s0) kk (EE K E H0))
    (hc : ∀ s σ' H', I s σ' H' → Same H0 H' ∧ GrT K E t σ' H' (c s))
    (hb : ∀ n s σ' H' H1, I s σ' H' → Same H' H1 → Wp (body s) (kF (β := Unit) kk fun s' => Wp (whileR c body n s') kk (EE K E H0)) (EE K E H0) →
      tu { D with nx := fun σ3 H3 => ∃ s', I s' σ3 H3 ∧ Wp (whileR c body n s') kk (EE K E H0), ct := fun σ3 H3 => ∃ s', I s' σ3 H3 ∧ Wp (whileR c body n s') kk (EE K E H0), bk := D.nx } σ' H1)
    (hd : ∀ s σ' H' H1, I s σ' H' → Same H' H1 → kk (.go s) → D.nx σ' H1) : tWhile t tu D σ H := by
  refine ⟨fun n σ' H' => ∃ s, I s σ' H' ∧ Wp (whileR c body n s) kk (EE K E H0), ⟨n, s0, h0, hQ⟩, ?_⟩
  rintro n σ' H' ⟨s, hI, hq⟩
  cases n with
  | zero => exact hq.elim
  | succ n =>
    obtain ⟨e0, gc⟩ := hc s σ' H' hI
    have hq2 : Wp (R.bd (c s) fun b => if b = true then R.bd (body s) fun f => match f with
      | .go s' => whileR c body n s'
      | .brk s' => .ok (.go s')
      | .ret r => .ok (.ret r)
    else .ok (.go s)) kk (EE K E H0) := hq
    refine gc H' (Same.refl _) _ ?_
    rw [wp_bd] at hq2
    refine wp_mono hq2 (fun b _ q H1 e1 => ?_) fun _ _ z => z.mono e0
    cases b with
    | true =>
      refine ⟨_, fun σ3 H3 h3 => ⟨n, Nat.lt_succ_self n, h3⟩, hb n s σ' H' H1 hI e1 ?_⟩
      have q2 : Wp (R.bd (body s) fun f => match f with
        | .go s' => whileR c body n s'
        | .brk s' => .ok (.go s')
        | .ret r => .ok (.ret r)) kk (EE K E H0) := q
      rw [wp_bd] at q2
      refine wp_mono q2 (fun f _ q => ?_) fun _ _ z => z
      cases f with
      | go s' => exact q
      | brk s' => exact q
      | ret r => exact q
    | false => exact hd s σ' H' H1 hI e1 q
theorem while_S {c : S → R Bool} {body : S → R S} {n : Nat} {s0 : S} {kk : S → Prop} (I : S → L2.St → Hp → Prop) (h0 : I s0 σ H) (hQ : Wp (whileS c body n s0) kk (EE K E H0))
    (hc : ∀ s σ' H', I s σ' H' → Same H0 H' ∧ GrT K E t σ' H' (c s))
    (hb : ∀ n s σ' H' H1, I s σ' H' → Same H' H1 → Wp (body s) (fun s' => Wp (whileS c body n s') kk (EE K E H0)) (EE K E H0) →
      tu { D with nx := fun σ3 H3 => ∃ s', I s' σ3 H3 ∧ Wp (whileS c body n s') kk (EE K E H0), ct := fun σ3 H3 => ∃ s', I s' σ3 H3 ∧ Wp (whileS c body n s') kk (EE K E H0), bk := D.nx } σ' H1)
    (hd : ∀ s σ' H' H1, I s σ' H' → Same H' H1 → kk s → D.nx σ' H1) : tWhile t tu D σ H := by
  refine ⟨fun n σ' H' => ∃ s, I s σ' H' ∧ Wp (whileS c body n s) kk (EE K E H0), ⟨n, s0, h0, hQ⟩, ?_⟩
  rintro n σ' H' ⟨s, hI, hq⟩
  cases n with
  | zero => exact hq.elim
  | succ n =>
    obtain ⟨e0, gc⟩ := hc s σ' H' hI
    have hq2 : Wp (R.bd (c s) fun b => if b = true then R.bd (body s) fun s' => whileS c body n s' else .ok s) kk (EE K E H0) := hq
    refine gc H' (Same.refl _) _ ?_
    rw [wp_bd] at hq2
    refine wp_mono hq2 (fun b _ q H1 e1 => ?_) fun _ _ z => z.mono e0
    cases b with
    | true =>
      refine ⟨_, fun σ3 H3 h3 => ⟨n, Nat.lt_succ_self n, h3⟩, hb n s σ' H' H1 hI e1 ?_⟩
      have q2 : Wp (R.bd (body s) fun s' => whileS c body n s') kk (EE K E H0) := q
      rw [wp_bd] at q2
      exact q2
    | false => exact hd s σ' H' H1 hI e1 q
/-! ### what a for walks -/
theorem same_mix0 {G H : Hp} (e : Same G H) : Same G (mix G H H) := same_mix e
theorem i_list {m : R (List α)} (h : Gr K E tl σ F H m) (hF : Same F H) : GrI K E (iList K tl) σ F H m := fun H1 e RR hq =>
  h H1 e _ (wp_mono hq (fun xs _ k v H2 e2 r => by
    obtain ⟨p, vs, rfl, hp, hv⟩ := r
    refine ⟨p, rfl, ⟨vs, SqL.of (mix_same hF (e.trans e2) p _ hp)⟩, k _ H2 e2 ⟨fun i H' s hi => ⟨vs, vs[i]'(by rw [hv.length]; exact hi), SqL.of (s p _ hp), List.getElem?_eq_getElem _⟩, fun i H' s hi => ⟨vs, SqL.of (s p _ hp), by rw [hv.length, hi]; exact Nat.le_refl _⟩, fun i H' x H'' s hi y => ?_⟩⟩
    obtain ⟨e1, y⟩ := y
    subst e1
    obtain ⟨a, ha, ra⟩ := hv.getL (y vs (SqL.of (s p _ hp)))
    exact ⟨Same.refl _, a, ha, Rp.mono (same_mix s) ra⟩) fun _ _ z => z)
theorem i_listS {m : R Scr} (h : Gr K E tl σ F H m) (hF : Same F H) : GrI K E (iList K tl) σ F H (R.bd m fun s => .ok s.l) := fun H1 e RR hq =>
  h H1 e _ (by
    rw [wp_bd] at hq
    refine wp_mono hq (fun xs _ k v H2 e2 r => ?_) fun _ _ z => z
    obtain ⟨p, rfl, hp⟩ := r
    have hl : ∀ {H' : Hp}, Same (mix F H H2) H' → SqL K H' p (xs.l.map V.int) := fun s => s.seq hp
    refine ⟨p, rfl, ⟨_, hl (mix_same hF (e.trans e2))⟩, k _ H2 e2 ⟨fun i H' s hi => ⟨_, .int (xs.l[i]), hl s, by rw [List.getElem?_map, List.getElem?_eq_getElem hi]; rfl⟩, fun i H' s hi => ⟨_, hl s, by rw [List.length_map, hi]; exact Nat.le_refl _⟩, fun i H' x H'' s hi y => ?_⟩⟩
    obtain ⟨e1, y⟩ := y
    subst e1
    have z := y _ (hl s)
    rw [List.getElem?_map] at z
    cases q : xs.l[i]? with
    | none => rw [q] at z; cases z
    | some n =>
      rw [q] at z
      exact ⟨Same.refl _, n, rfl, (Option.some.inj z).symm⟩)
theorem i_tup {m : R (Tu α)} (h : Gr K E tl σ F H m) (hF : Same F H) : GrI K E (iTup K tl) σ F H (R.bd m fun s => .ok s.l) := fun H1 e RR hq =>
  h H1 e _ (by
    rw [wp_bd] at hq
    refine wp_mono hq (fun xs _ k v H2 e2 r => ?_) fun _ _ z => z
    obtain ⟨p, vs, rfl, hp, hv⟩ := r
    refine ⟨p, rfl, ⟨vs, SqT.of (mix_same hF (e.trans e2) p _ hp)⟩, k _ H2 e2 ⟨fun i H' s hi => ⟨vs, vs[i]'(by rw [hv.length]; exact hi), SqT.of (s p _ hp), List.getElem?_eq_getElem _⟩, fun i H' s hi => ⟨vs, SqT.of (s p _ hp), by rw [hv.length, hi]; exact Nat.le_refl _⟩, fun i H' x H'' s hi y => ?_⟩⟩
    obtain ⟨e1, y⟩ := y
    subst e1
    obtain ⟨a, ha, ra⟩ := hv.getL (y vs (SqT.of (s p _ hp)))
    exact ⟨Same.refl _, a, ha, Rp.mono (same_mix s) ra⟩)
/-- lo, lo + 1, .. below hi -/
def rngL (lo hi : Int) : List Int := (List.range (hi - lo).toNat).map fun i : Nat => lo + (i : Int)
theorem rngL_len (lo hi : Int) : (rngL lo hi).length = (hi - lo).toNat := by unfold rngL; simp
theorem rngL_get {lo hi : Int} {i : Nat} (h : i < (hi - lo).toNat) : (rngL lo hi)[i]? = some (lo + (i : Int)) := by
  unfold rngL
  rw [List.getElem?_map, List.getElem?_range h]
  rfl
def rngOk (n : Int) : Prop := -(2 ^ 62) ≤ n ∧ n < 2 ^ 62
instance {n : Int} : Decidable (rngOk n) := by unfold rngOk; exact inferInstance
noncomputable def rng1 (n : Int) : R (List Int) := gd (rngOk n) (.ok (rngL 0 n))
noncomputable def rng2 (a b : Int) : R (List Int) := gd (rngOk a ∧ rngOk b) (.ok (rngL a b))
theorem itr_ok {lo hi : Int} {G : Hp} : ItOk (Itr lo (hi - lo).toNat) K G (rngL lo hi) := by
  refine ⟨fun i H' s hi => ?_, fun i H' s hi => ?_, fun i H' x H'' s hi y => ?_⟩
  · rw [rngL_len] at hi
    exact hi
  · rw [rngL_len] at hi
    exact Nat.le_of_eq hi.symm
  · obtain ⟨e1, y⟩ := y
    subst e1 y
    rw [rngL_len] at hi
    exact ⟨Same.refl _, _, rngL_get hi, rfl⟩
theorem i_rng1 {m : R Int} (h : Gr K E ta σ F H m) : GrI K E (iRng1 (tCons ta tNil)) σ F H (R.bd m rng1) := fun H1 e RR hq =>
  h H1 e _ (by
    rw [wp_bd] at hq
    refine wp_mono hq (fun n _ k v H2 e2 r => ?_) fun _ _ z => z
    have r' : v = .int n := r
    subst r'
    unfold rng1 gd at k
    split at k
    · rename_i c
      refine ⟨n, rfl, c.1, by have := c.2; omega, ?_⟩
      have z := k (Itr 0 (n - 0).toNat) H2 e2 itr_ok
      rw [show (n - 0).toNat = n.toNat by rw [Int.sub_zero]] at z
      exact z
    · exact k.elim)
theorem i_rng2 {ma mb : R Int} (ha : Gr K E ta σ F H ma) (hb : Gr K E tb σ F H mb) : GrI K E (iRng2 (tCons ta (tCons tb tNil))) σ F H (R.bd ma fun a => R.bd mb fun b => rng2 a b) := fun H1 e RR hq =>
  ha H1 e _ (by
    rw [wp_bd] at hq
    refine wp_mono hq (fun n _ k v H2 e2 r => ?_) fun _ _ z => z
    have r' : v = .int n := r
    subst r'
    refine hb H2 (e.trans e2) _ ?_
    rw [wp_bd] at k
    refine wp_mono k (fun n2 _ k v2 H3 e3 r3 => ?_) fun _ _ z => z.mono e2
    have r3' : v2 = .int n2 := r3
    subst r3'
    unfold rng2 gd at k
    split at k
    · rename_i c
      obtain ⟨⟨c1, c2⟩, c3, c4⟩ := c
      exact ⟨n, n2, rfl, ⟨by omega, by omega, by omega, by omega⟩, k _ H3 (e2.trans e3) itr_ok⟩
    · exact k.elim)
/-- hi, hi - 1, .. above lo -/
def rngD (hi lo : Int) : List Int := (List.range (hi - lo).toNat).map fun i : Nat => hi - (i : Int)
noncomputable def rng3D (a b : Int) : R (List Int) := gd (rngOk a ∧ rngOk b) (.ok (rngD a b))
theorem i_rng3D {ma mb : R Int} {tc : TE} (ha : Gr K E ta σ F H ma) (hb : Gr K E tb σ F H mb) (hc : Gr K E tc σ F H (.ok (-1 : Int))) : GrI K E (iRng3 (tCons ta (tCons tb (tCons tc tNil)))) σ F H (R.bd ma fun a => R.bd mb fun b => rng3D a b) := fun H1 e RR hq =>
  ha H1 e _ (by
    rw [wp_bd] at hq
    refine wp_mono hq (fun n _ k v H2 e2 r => ?_) fun _ _ z => z
    have r' : v = .int n := r
    subst r'
    refine hb H2 (e.trans e2) _ ?_
    rw [wp_bd] at k
    refine wp_mono k (fun n2 _ k v2 H3 e3 r3 => ?_) fun _ _ z => z.mono e2
    have r3' : v2 = .int n2 := r3
    subst r3'
    refine hc H3 (e.trans (e2.trans e3)) _ (fun v3 H4 e4 r4 => ?_)
    have r4' : v3 = .int (-1) := r4
    subst r4'
    unfold rng3D gd at k
    split at k
    · rename_i c
      obtain ⟨⟨c1, c2⟩, c3, c4⟩ := c
      refine ⟨n, n2, -1, (n - n2).toNat, rfl, RgC.neg (by omega) (by omega) (by omega) (by omega), k _ H4 (e2.trans (e3.trans e4)) ⟨fun i H' s hi => ?_, fun i H' s hi => ?_, fun i H' x H'' s hi y => ?_⟩⟩
      · unfold rngD at hi
        simp at hi
        show i < (n - n2).toNat
        omega
      · unfold rngD at hi
        simp at hi
        show (n - n2).toNat ≤ i
        omega
      · obtain ⟨e1, y⟩ := y
        subst e1 y
        unfold rngD at hi ⊢
        simp at hi
        refine ⟨Same.refl _, _, by rw [List.getElem?_map, List.getElem?_range (by omega)]; rfl, ?_⟩
        show V.int (n + ((i : Nat) : Int) * (-1)) = V.int (n - ((i : Nat) : Int))
        congr 1
        omega
    · exact k.elim)
/-- enumerate(xs) -/
def enumL {α : Type} (xs : List α) : List (Int × α) := xs.zipIdx.map fun p => ((p.2 : Int), p.1)
theorem enumL_len (xs : List α) : (enumL xs).length = xs.length := by unfold enumL; simp
theorem enumL_get {xs : List α} {i : Nat} {a : α} (h : xs[i]? = some a) : (enumL xs)[i]? = some ((i : Int), a) := by
  unfold enumL
  rw [List.getElem?_map, List.getElem?_zipIdx, h]
  simp
theorem i_enum {m : R (List α)} (h : Gr K E ta σ F H m) (hF : Same F H) : GrI K E (iEnum K (tCons ta tNil)) σ F H (R.bd m fun xs => .ok (enumL xs)) := fun H1 e RR hq =>
  h H1 e _ (by
    rw [wp_bd] at hq
    refine wp_mono hq (fun xs _ k v H2 e2 r => ?_) fun _ _ z => z
    obtain ⟨p, vs, rfl, hp, hv⟩ := r
    refine ⟨p, vs, rfl, SqL.of (mix_same hF (e.trans e2) p _ hp), k _ H2 e2 ⟨fun i H' s hi => ?_, fun i H' s hi => ?_, fun i H' x H'' s hi y => ?_⟩⟩
    · rw [enumL_len] at hi
      exact ⟨vs, vs[i]'(by rw [hv.length]; exact hi), SqL.of (s p _ hp), List.getElem?_eq_getElem _⟩
    · rw [enumL_len] at hi
      exact ⟨vs, SqL.of (s p _ hp), by rw [hv.length, hi]; exact Nat.le_refl _⟩
    · obtain ⟨T, x, rfl, hT, rfl, y⟩ := y
      obtain ⟨a, ha, ra⟩ := hv.getL (y vs (SqL.of (s p _ hp)))
      refine ⟨same_upd hT, _, enumL_get ha, T, _, x, rfl, by rw [mix_new hT]; exact upd_same, rfl, Rp.mono (same_mix s) ra⟩)
/-! ### a list comprehension -/
def compGo {α β : Type} (c : α → R Bool) (f : α → R β) : List α → R (List β)
  | [] => .ok []
  | x :: l => R.bd (c x).nx fun b => if b = true then R.bd (f x).nx fun y => R.bd (compGo c f l) fun ys => .ok (y :: ys) else compGo c f l
noncomputable def compR {α β : Type} (xs : List α) (c : α → R Bool) (f : α → R β) : R (List β) := gd (xs.length ≤ lim) (compGo c f xs)
theorem wp_nx {m : R α} {k : α → Prop} {ee ee' : Er → Prop} (h : Wp m.nx k ee) : Wp m k ee' := by
  cases m with
  | ok a => exact h
  | er c => exact h.elim
  | bad => exact h.elim
abbrev EF : XK := fun _ _ _ => False
theorem t_yes : GrT K E tYes σ H (.ok true) := fun H1 e Q hq => hq H1 (Same.refl _)
theorem cmp_f {H2 Hc : Hp} {Dl : Addr} (hF : Same F H) (hn : H Dl = none) (e : Same H Hc) : Same F (delH (mix F H Hc) Dl) := fun x o h => by
  have : x ≠ Dl := fun z => by rw [z] at h; have := hF _ _ h; rw [hn] at this; cases this
  rw [delH_ne this]
  exact same_mix hF x o h
theorem del_le {H : Hp} {p : Addr} : Same (delH H p) H := fun x o h => by
  unfold delH at h
  split at h
  · cases h
  · exact h
theorem cmp_el {Hc H4 : Hp} {Dl : Addr} {o : HO} (hn : H Dl = none) (hD : ∃ u, Hc Dl = some (.lst u)) (e : Same H Hc) (e4 : Same Hc H4) : Same (mix (delH (mix F H Hc) Dl) Hc H4) (delH (mix F H (upd H4 Dl o)) Dl) := fun x u h => by
  have ne : x ≠ Dl := fun z => by
    obtain ⟨w, hw⟩ := hD
    rw [z, mix_old hw, delH_same] at h
    cases h
  have new : H x = none → Hc x = some u ∨ H4 x = some u → mix F H (upd H4 Dl o) x = some u := fun z q => by
    rw [mix_new z, upd_ne ne]
    exact q.elim (fun q => e4 x u q) fun q => q
  rw [delH_ne ne]
  rcases mix_cases h with ⟨q, h⟩ | ⟨q, t⟩ | ⟨w, q, t, h⟩
  · exact new (Same.free e q) (.inr h)
  · cases z : H x with
    | none => exact new z (.inl q)
    | some y =>
      have := e x y z
      rw [q] at this
      cases this
      exact mix_tup z t
  · rw [delH_ne ne] at h
    rcases mix_cases h with ⟨z, h⟩ | ⟨z, t2⟩ | ⟨y, z, t2, h⟩
    · exact new z (.inl h)
    · exact mix_tup z t2
    · rw [mix_old z t2]
      exact h
theorem cmp_it {H2 H' H'' : Hp} {Dl : Addr} (hn : H Dl = none) (h2 : H2 Dl = none) (hD : ∃ u, H' Dl = some (.lst u)) (e : Same H H2) (e2 : Same H2 H') (e3 : Same H' H'') : Same (mix (mix F H H2) H' H'') (delH (mix F H H'') Dl) := fun x u h => by
  have ne : x ≠ Dl := fun z => by
    obtain ⟨w, hw⟩ := hD
    rw [z, mix_old hw, mix_new hn, h2] at h
    cases h
  have new : H x = none → H'' x = some u → mix F H H'' x = some u := fun z q => by
    rw [mix_new z]
    exact q
  rw [delH_ne ne]
  rcases mix_cases h with ⟨q, h⟩ | ⟨q, t⟩ | ⟨w, q, t, h⟩
  · exact new (Same.free (e.trans e2) q) h
  · cases z : H x with
    | none => exact new z (e3 x u q)
    | some y =>
      have := (e.trans e2) x y z
      rw [q] at this
      cases this
      exact mix_tup z t
  · rcases mix_cases h with ⟨z, h⟩ | ⟨z, t2⟩ | ⟨y, z, t2, h⟩
    · exact new z (e3 x u (e2 x u h))
    · exact mix_tup z t2
    · rw [mix_old z t2]
      exact h
/-- the frozen part, without the list that is made, grows along -/
theorem cmp_go {Hc H4 : Hp} {Dl : Addr} (e4 : Same Hc H4) : Same (delH (mix F H Hc) Dl) (delH (mix F H H4) Dl) := fun x u h => by
  have ne : x ≠ Dl := fun w => by rw [w, delH_same] at h; cases h
  rw [delH_ne ne] at h ⊢
  exact mix_mono e4 x u h
theorem cmp_up {Hc : Hp} {Dl : Addr} {o : HO} (hn : H Dl = none) : Same (delH (mix F H Hc) Dl) (delH (mix F H (upd Hc Dl o)) Dl) := fun x u h => by
  have ne : x ≠ Dl := fun w => by rw [w, delH_same] at h; cases h
  rw [delH_ne ne] at h ⊢
  rcases mix_cases h with ⟨z, h⟩ | ⟨z, t2⟩ | ⟨y, z, t2, h⟩
  · rw [mix_new z, upd_ne ne]; exact h
  · exact mix_tup z t2
  · rw [mix_old z t2]; exact h
theorem g_compG {Fr : Hp} {wi : TI} {g : TG} {tt : TT} {te : TE} {vs : List Nat} {m : R (List α)} {cf : α → R Bool} {f : α → R β} (hres : ∀ H3 Dl acc ys, All2 (Rp.rep K (delH (mix F H H3) Dl)) acc (ys : List β) → All2 (Rp.rep K (mix Fr H H3)) acc ys) (hi : GrI K E wi σ F H m) (hF : Same F H)
    (hel : ∀ x v F2 H2, Same F F2 → Same F2 H2 → Same H H2 → Rp.rep K F2 v x → ∃ σ2, (∀ Q : L2.St → Hp → Prop, Q σ2 H2 → g v (wipe σ vs) H2 Q) ∧ wipe σ2 vs = wipe σ vs ∧ GrT K EF tt σ2 H2 (cf x) ∧ Gr K EF te σ2 F2 H2 (f x)) :
    Gr K E (tLc wi g tt te vs) σ Fr H (R.bd m fun xs => compR xs cf f) := fun H1 e Q hq =>
  hi H1 e _ (by
    rw [wp_bd] at hq
    refine wp_mono hq (fun xs _ k J H2 e2 ok => ?_) fun _ _ z => z
    unfold compR gd at k
    split at k
    · rename_i cl
      intro Dl hD
      have hnD : H Dl = none := Same.free (e.trans e2) hD
      refine ⟨fun i m H' => m = xs.length - i ∧ i ≤ xs.length ∧ Same H2 H' ∧ ∃ acc ys, H' Dl = some (.lst acc) ∧ acc.length ≤ i ∧ All2 (Rp.rep K (delH (mix F H H') Dl)) acc ys ∧
        Wp (compGo cf f (xs.drop i)) (fun zs => ∀ H3, Same H1 H3 → H3 Dl = H3 Dl → ∀ v, Rp.rep K (mix Fr H H3) v (ys ++ zs) → Q v H3) (fun _ => False), ⟨_, rfl, Nat.zero_le _, same_upd hD, [], [], upd_same, Nat.le_refl _, .nil, ?_⟩, ?_⟩
      · rw [List.drop_zero]
        refine wp_mono k (fun zs _ q H3 e3 _ v r => q v H3 e3 r) fun c hc _ => ?_
        exfalso
        have : ∀ l : List α, ∀ c, compGo cf f l ≠ .er c := by
          intro l
          induction l with
          | nil => intro c z; cases z
          | cons x l ih =>
            intro c z
            unfold compGo at z
            cases h1 : cf x with
            | ok b =>
              rw [h1] at z
              have z2 : (if b = true then R.bd (f x).nx fun y => R.bd (compGo cf f l) fun ys => .ok (y :: ys) else compGo cf f l) = .er c := z
              cases b with
              | true =>
                rw [if_pos rfl] at z2
                cases h2 : f x with
                | ok y =>
                  rw [h2] at z2
                  have z3 : (R.bd (compGo cf f l) fun ys => .ok (y :: ys)) = .er c := z2
                  cases h3 : compGo cf f l with
                  | ok ys => rw [h3] at z3; cases z3
                  | er c' => exact ih c' h3
                  | bad => rw [h3] at z3; cases z3
                | er c' => rw [h2] at z2; cases z2
                | bad => rw [h2] at z2; cases z2
              | false =>
                rw [if_neg Bool.false_ne_true] at z2
                exact ih c z2
            | er c' => rw [h1] at z; cases z
            | bad => rw [h1] at z; cases z
        exact this xs c hc
      · rintro i m H' ⟨rfl, hi', sH, acc, ys, hacc, hal, hall, hw⟩
        have hG : Same (mix F H H2) H' := (mix_same hF (e.trans e2)).trans sH
        by_cases ci : i < xs.length
        · refine .inr ⟨ok.go i H' hG ci, _, fun H3 h3 => ⟨xs.length - (i + 1), by omega, h3⟩, fun v H'' y => ?_⟩
          obtain ⟨e1, a, ha, r⟩ := ok.yld i H' v H'' hG ci y
          have hacc2 := e1 _ _ hacc
          have eH : Same H H'' := (e.trans e2).trans (sH.trans e1)
          obtain ⟨σ2, hg, hwp, gt, ge⟩ := hel a v (delH (mix F H H'') Dl) H'' (cmp_f (H2 := H2) hF hnD eH) (del_le.trans (mix_same hF eH)) eH (Rp.mono (cmp_it hnD hD ⟨_, hacc⟩ (e.trans e2) sH e1) r)
          refine hg _ ⟨hwp, gt H'' (Same.refl _) _ ?_⟩
          rw [drop_get ha] at hw
          unfold compGo at hw
          rw [wp_bd] at hw
          refine wp_nx (wp_mono hw (fun b _ q H3 e3 => ?_) fun _ _ z => z)
          have al' : All2 (Rp.rep K (delH (mix F H H3) Dl)) acc ys := hall.mono fun _ _ x => Rp.mono (cmp_go (e1.trans e3)) x
          cases b with
          | true =>
            show te σ2 H3 _
            refine ge H3 e3 _ ?_
            have q2 : Wp (R.bd (f a).nx fun y => R.bd (compGo cf f (xs.drop (i + 1))) fun ys => .ok (y :: ys)) _ _ := q
            rw [wp_bd] at q2
            refine wp_nx (wp_mono q2 (fun y _ q3 w H4 e4 rw4 => ?_) fun _ _ z => z)
            have hacc4 := e4 _ _ (e3 _ _ hacc2)
            refine ⟨acc, hacc4, lim_line' (by omega), rfl, ci, ?_, acc ++ [w], ys ++ [y], upd_same, by rw [List.length_append]; simp; omega, ?_, ?_⟩
            · exact fun x o h => by
                have ne : x ≠ Dl := fun z => by rw [z, hD] at h; cases h
                rw [upd_ne ne]
                exact e4 _ _ (e3 _ _ (e1 _ _ (sH _ _ h)))
            · refine All2.append (al'.mono fun _ _ x => Rp.mono ((cmp_go e4).trans (cmp_up hnD)) x) (.cons (Rp.mono (cmp_el hnD ⟨_, hacc2⟩ eH (e3.trans e4)) rw4) .nil)
            · rw [wp_bd] at q3
              refine wp_mono q3 (fun zs _ q4 H5 e5 _ v5 r5 => ?_) fun _ _ z => z
              refine q4 H5 e5 rfl v5 ?_
              rw [List.append_assoc] at r5
              exact r5
          | false =>
            exact ⟨rfl, ci, fun x o h => e3 _ _ (e1 _ _ (sH _ _ h)), acc, ys, e3 _ _ hacc2, by omega, al', q⟩
        · have ei : i = xs.length := by omega
          refine .inl ⟨ok.stop i H' hG ei, ?_⟩
          rw [ei, List.drop_length] at hw
          have hw2 : ∀ H3, Same H1 H3 → H3 Dl = H3 Dl → ∀ v, Rp.rep K (mix Fr H H3) v (ys ++ []) → Q v H3 := hw
          refine hw2 H' (e2.trans sH) rfl _ ?_
          rw [List.append_nil]
          exact ⟨Dl, acc, rfl, by rw [mix_new hnD]; exact hacc, hres _ _ _ _ hall⟩
    · exact k.elim)
theorem g_comp {wi : TI} {g : TG} {tt : TT} {te : TE} {vs : List Nat} {m : R (List α)} {cf : α → R Bool} {f : α → R β} (hi : GrI K E wi σ F H m) (hF : Same F H)
    (hel : ∀ x v F2 H2, Same F F2 → Same F2 H2 → Same H H2 → Rp.rep K F2 v x → ∃ σ2, (∀ Q : L2.St → Hp → Prop, Q σ2 H2 → g v (wipe σ vs) H2 Q) ∧ wipe σ2 vs = wipe σ vs ∧ GrT K EF tt σ2 H2 (cf x) ∧ Gr K EF te σ2 F2 H2 (f x)) :
    Gr K E (tLc wi g tt te vs) σ F H (R.bd m fun xs => compR xs cf f) := g_compG (fun _ _ _ _ h => h.mono fun _ _ x => Rp.mono del_le x) hi hF hel
/-- .. that tells ints (bools, texts), over anything -/
theorem g_compS [Sc β] {wi : TI} {g : TG} {tt : TT} {te : TE} {vs : List Nat} {m : R (List α)} {cf : α → R Bool} {f : α → R β} (hi : GrI K E wi σ H H m)
    (hel : ∀ x v F2 H2, Same H F2 → Same F2 H2 → Same H H2 → Rp.rep K F2 v x → ∃ σ2, (∀ Q : L2.St → Hp → Prop, Q σ2 H2 → g v (wipe σ vs) H2 Q) ∧ wipe σ2 vs = wipe σ vs ∧ GrT K EF tt σ2 H2 (cf x) ∧ Gr K EF te σ2 F2 H2 (f x)) :
    Gr K E (tLc wi g tt te vs) σ F H (R.bd m fun xs => compR xs cf f) := g_compG (fun _ _ _ _ h => h.mono fun _ _ x => Sc.is.mpr (Sc.is.mp x)) hi (Same.refl _) hel
end
end G

set_option Elab.async false
set_option linter.all false
set_option maxRecDepth 100000
set_option maxHeartbeats 4000000
/-! G: errors that are caught and kept by a name. -/
namespace G
open PySem PySem.Spec PyProof.Rows L2
/-- an error of the class at C that was caught, at a; its own dict d -/
def ExH (C : Addr) (d : Option Addr) (a : Addr) : HO := .ext fun h => ∃ (oe : Obj) (vs : Array Value), h.get? a = some oe ∧ Zc (.ref C) d oe ∧ oe.data = .fields vs
theorem exH_ok {P : Program} {w : World} {H : Hp} {h : Heap} {a C : Addr} {d : Option Addr} {oe : Obj} {vs : Array Value} (e : h.get? a = some oe) (z : Zc (.ref C) d oe) (dt : oe.data = .fields vs) : ObjOk P w H h a (ExH C d a) :=
  ⟨⟨oe, vs, e, z, dt⟩, ⟨oe, e⟩, fun _ _ ⟨o, v, q, r⟩ k => ⟨o, v, k o q, r⟩⟩
section
variable {X : Cx} {pins : List (Addr × Obj)} {σ : L2.St} {H : Hp} {s : Shared}
/-- an object of ours that stood untracked is tracked -/
theorem inv_track {a : Addr} {o : HO} (I : Inv X pins σ H s) (h0 : X.s_0.heap.get? a = none) (na : H a = none) (nL : a ≠ X.env.locals) (nC : ∀ x c, X.env.cells.lookup x = some c → c ≠ a) (nP : ∀ p ∈ X.pn ++ pins, p.1 ≠ a)
    (new : ObjOk X.prog X.w (upd H a o) s.heap a o) : Inv X pins σ (upd H a o) s := by
  have ne0 : ∀ b u, X.s_0.heap.get? b = some u → b ≠ a := fun b u e z => by rw [z, h0] at e; cases e
  refine ⟨I.ok, I.os, I.bare, ⟨I.base.keep, I.base.slot, fun b u e n hx => ?_, I.base.there, fun b xs e => ?_, fun b ob u e => ?_, fun b ps e => ?_⟩, I.loc, I.cell, ?_, fun x c e => ?_, fun p hp => ?_, I.hok.laidN (fun _ _ q => q) na new, I.len⟩
  · rw [upd_ne (ne0 b u e)]
    exact I.base.free b u e n hx
  · have q := I.base.tups b xs e
    rw [upd_ne (ne_of_none q na)]
    exact q
  · have q := I.base.frzs b ob u e
    rw [upd_ne (ne_of_none q na)]
    exact q
  · obtain ⟨m, q⟩ := I.base.tbls b ps e
    exact ⟨m, by rw [upd_ne (ne_of_none q na)]; exact q⟩
  · rw [upd_ne (Ne.symm nL)]
    exact I.free
  · rw [upd_ne (nC x c e)]
    exact I.freeC x c e
  · obtain ⟨e, n, r⟩ := I.pin p hp
    exact ⟨e, by rw [upd_ne (nP p hp)]; exact n, r⟩
theorem inv_suite0 (I : Inv X pins σ H s) (a : Addr) : Inv (X.suite a (X.pn ++ pins)) [] σ H s :=
  ⟨I.ok.suite _ _, I.os, I.bare, I.base, I.loc, I.cell, I.free, I.freeC, fun p hp => I.pin p (by rw [List.append_nil] at hp; exact hp), I.hok, I.len⟩
theorem inv_unsuite0 {a : Addr} {pn' : List (Addr × Obj)} (I : Inv (X.suite a (X.pn ++ pins)) pn' σ H s) (ok : X.Ok) : Inv X pins σ H s :=
  ⟨ok, I.os, I.bare, I.base, I.loc, I.cell, I.free, I.freeC, fun p hp => I.pin p (List.mem_append_left _ hp), I.hok, I.len⟩
end
/-- what the clause 'except x as n' wishes, the error kept in view -/
def wHold (K : PySem.W.Frag) (c : Value) (i : Nat) (ts : TS) (D : Ends) : WX := fun cls d σ H =>
  ∃ C, cls = .ref C ∧ PySem.W.exmOne K cls c = some true ∧ ∀ a, H a = none → ts { nx := fun σ' H' => D.nx (σ'.set i none) H', rt := D.rt, bk := fun σ' H' => D.bk (σ'.set i none) H', ct := fun σ' H' => D.ct (σ'.set i none) H' } (σ.set i (some (.ref a))) (upd H a (ExH C d a))
def tTry (K : PySem.W.Frag) (c : Value) (i : Nat) (tb : WX → TS) (ts : TS) : TS := fun D σ H => tb (wHold K c i ts D) D σ H
section
variable {X : Cx} {x n : Str} {c : Value} {i : Nat} {body suite : List Stmt} {b₀ : Stmt} {np pos pos' : Pos} {tb : WX → TS} {ts : TS}
theorem ps_try_hold (hs : X.stack = X.env :: X.outer) (hf : X.env.frame = some X.env.locals) (hex : X.ex = []) (hN : X.N.Nodup) (hi : X.N[i]? = some n) (hln : X.env.kindOf n = some .local) (hc : Names X x c)
    (hb : ∀ (W : WX) (pn : List (Addr × Obj)) (xe : Value → Shared → Prop), Takes (X.tr pn xe) W → PassesOwn (model X.prog X.w) X.A X.env xe → PSs (X.tr pn xe) body (tb W))
    (hsu : ∀ (a : Addr) (pn : List (Addr × Obj)), PSs (X.suite a pn) (b₀ :: suite) ts) :
    PS X (.Try body [.ExceptHandler (some (.Name x np)) (some n) (b₀ :: suite) pos'] [] [] pos) (tTry X.K c i tb ts) := by
  refine ⟨fun pins s σ H D I h => ?_⟩
  have ok := I.ok
  have hfr : X.A.frames = some (X.env :: X.outer) := by rw [ok.frames, hs]
  have hloc : Loc X.env.scope n := .inl hln
  refine wpAny_Try_except ?_
  refine wpAny_mono ((hb (wHold X.K c i ts D) (X.pn ++ pins) (fun e s₁ => wpAny (model X.prog X.w) X.A (noteFrame e X.env) (fun _ s₂ => wpAny (model X.prog X.w) X.A (setFlight e none) (fun _ s₃ =>
    wpAny (model X.prog X.w) X.A (handleBy e X.env [.ExceptHandler (some (.Name x np)) (some n) (b₀ :: suite) pos']) (SP X pins D) X.xe s₃) X.xe s₂) X.xe s₁) (fun u s' xx => ?_) PassesOwn.looking).run [] s σ H D (I.toTry _) h) (fun f s1 hsp => ?_) (fun e s1 he => he)
  · obtain ⟨a, B, sI, pins', σ', H', cls, d, rfl, J', nb, up, sky, na, os, ag, C, hC, hb1, hyes⟩ := xx
    subst hC
    have J : Inv X pins σ' H' sI := J'.ofTry ok
    have sky' : Sky B (X.env :: X.outer) a (Zc (.ref C) d) X.env.locals s'.heap := by rw [← hs]; exact sky
    show wpAny (model X.prog X.w) X.A (noteFrame (.ref a) X.env) _ _ _
    refine Sky.land Zc.steady hfr hf sky' fun h3 fl3 up3 => ?_
    have J3 : Inv X pins σ' H' { s' with heap := h3 } := J.landed nb fl3.1 (up.trans up3) os ag
    obtain ⟨oe3, vs3, he3, hz3, hd3⟩ := fl3.there
    have notFr : ∀ {h : Heap} {o : Obj} {vs : Array Value}, h.FunFrames B (X.env :: X.outer) → h.get? a = some o → o.data = .fields vs → a ∉ frs (X.env :: X.outer) := fun {h o vs} ff e dd hm => by
      obtain ⟨_, o', e', hnf⟩ := ff.mem hm
      rw [e] at e'; cases e'
      exact hnf _ dd
    have nfr := notFr fl3.2.2.1 he3 hd3
    have nL : a ≠ X.env.locals := fun z => nfr (List.mem_filterMap.mpr ⟨X.env, List.mem_cons_self, by rw [hf, z]⟩)
    have nF : a ∉ X.fs := fun hm => by
      obtain ⟨e, he, q⟩ := List.mem_filterMap.mp hm
      exact nfr (List.mem_filterMap.mpr ⟨e, List.mem_cons_of_mem _ he, q⟩)
    have hBa : B.get? a = none := fl3.2.1
    have nS : a ∉ frs X.stack := by rw [hs]; exact nfr
    have hsI : sI.heap.get? a = none := by
      cases e : sI.heap.get? a with
      | none => rfl
      | some o => have := nb a o e nS; rw [hBa] at this; cases this
    have hs0 : X.s_0.heap.get? a = none := by
      cases e : X.s_0.heap.get? a with
      | none => rfl
      | some o =>
        obtain ⟨o', q⟩ := J.base.there a o e (by rw [hex]; simp)
        rw [hsI] at q; cases q
    have S3 := J3.suite he3 hd3 na nL nF
    refine wpAny_handleBy_cons (codeAny_handlers_test ?_) (by intro q; cases q)
    have LT : PySem.W.Looks (model X.prog X.w) h3 (typeOf (.ref a)) (.ref C) := fun A Q E s k q => wpAny_typeOf_ref (k _ _ he3) (by rw [hz3.1]; exact q)
    have LM := PySem.W.exm_one (M := model X.prog X.w) (J3.kIn) LT hb1
    have test : ∀ {Q : Value → Shared → Prop} {E : Value → Shared → Prop}, Q c { s' with heap := h3 } → wpAny (model X.prog X.w) (X.A.mark (some (.ref a))) (eval (.Name x np) X.env) Q E { s' with heap := h3 } := fun {Q E} q => by
      obtain ⟨hg, hdbg, hm | ⟨hm, hv, hnn⟩⟩ := hc
      · exact ld_glob (X := X.suite a ((a, oe3) :: (X.pn ++ pins))) S3 hg hm q hdbg
      · exact ld_blt (X := X.suite a ((a, oe3) :: (X.pn ++ pins))) S3 hg hm hv q hnn hdbg
    refine test (LM.here ?_)
    refine codeAny_handlers_suite_as ?_
    refine HandSPX.lands_againZ fl3 fun h4 fl4 up4 => ?_
    have J4 : Inv X pins σ' H' { s' with heap := h4 } := J.landed nb fl4.1 ((up.trans up3).trans up4) os ag
    obtain ⟨oe4, vs4, he4, hz4, hd4⟩ := fl4.there
    have T4 : Inv X pins σ' (upd H' a (ExH C d a)) { s' with heap := h4 } := inv_track J4 hs0 na nL (fun y k e z => by
      obtain ⟨v, o, ho, hd⟩ := J4.cell y k e
      rw [z] at ho
      have ho' : h4.get? a = some o := ho
      rw [he4] at ho'
      cases ho'
      rw [hd4] at hd
      cases hd) (fun p hp z => by
      obtain ⟨e, _⟩ := J.pin p hp
      rw [z, hsI] at e
      cases e) (exH_ok he4 hz4 hd4)
    have S4 := inv_suite0 T4 a
    refine store_ok (X := X.suite a (X.pn ++ pins)) (v := .ref a) S4 hN hi hloc rfl (fun s5 S5 => ?_) (.inr hln)
    refine wpAny_mono ((hsu a (X.pn ++ pins)).run [] s5 _ _ _ S5 (hyes a na)) (fun f s6 hsp => ?_) (fun _ _ z => False.elim z)
    have end_ : ∀ {σ6 : L2.St} {H6 : Hp} {Q : Shared → Prop}, Inv (X.suite a (X.pn ++ pins)) [] σ6 H6 s6 → (∀ s7, Inv X pins (σ6.set i none) H6 s7 → Q s7) →
        wpAny (model X.prog X.w) X.A (do bindName X.env n .none; unbindBehindTheSuite X.env n pos') (fun _ s7 => Q s7) X.xe s6 := fun {σ6 H6 Q} S6 hq => gone_ok (inv_unsuite0 S6 ok) hN hi hln hq
    cases f with
    | next =>
      obtain ⟨σ6, H6, S6, q6⟩ := hsp
      exact end_ S6 fun s7 J7 => ⟨_, _, J7, q6⟩
    | brk =>
      obtain ⟨σ6, H6, S6, q6⟩ := hsp
      exact end_ S6 fun s7 J7 => ⟨_, _, J7, q6⟩
    | cont =>
      obtain ⟨σ6, H6, S6, q6⟩ := hsp
      exact end_ S6 fun s7 J7 => ⟨_, _, J7, q6⟩
    | ret u =>
      obtain ⟨v6, σ6, H6, S6, r6, q6⟩ := hsp
      exact end_ S6 fun s7 J7 => ⟨_, _, _, J7, r6, q6⟩
  · cases f with
    | next =>
      obtain ⟨σ', H', J', q⟩ := hsp
      exact wpAny_execs_nil ⟨σ', H', J'.ofTry ok, q⟩
    | brk =>
      obtain ⟨σ', H', J', q⟩ := hsp
      exact ⟨σ', H', J'.ofTry ok, q⟩
    | cont =>
      obtain ⟨σ', H', J', q⟩ := hsp
      exact ⟨σ', H', J'.ofTry ok, q⟩
    | ret u =>
      obtain ⟨v, σ', H', J', r, q⟩ := hsp
      exact ⟨v, σ', H', J'.ofTry ok, r, q⟩
end
/-! ### the classes' facts, by one look at the written part -/
def Er.cn : Er → Cn
  | .own c => c
  | .plan _ => .BadPlan
def allCn : List Cn := [.SowError, .BadBoard, .BadPit, .BadPits, .BadCount, .NoSeeds, .BadPlan, .Unlike, .TooLong, .TooMany, .BadLine, .BadRow, .BadYard, .NoDeed, .BadText]
theorem mem_allCn (c : Cn) : c ∈ allCn := by cases c <;> decide
/-- the module's name of the class is a class -/
def knB (K : PySem.W.Frag) (c : Cn) : Bool := He.eqO (PySem.W.nsIn K mainGlobals c.nm) (some (some (.ref (He.ga K c.nm))))
def isC (c d : Cn) : Bool := decide (d = c) || decide (d = .SowError)
def cfB (K : PySem.W.Frag) (c : Cn) : Bool := knB K c && (
  He.eqO (PySem.W.findIn K (.ref (He.ga K c.nm)) "__getattribute__") (some (some (.builtin "BaseException.__getattribute__"))) && (He.eqO (PySem.W.findIn K (.ref (He.ga K c.nm)) "__getattr__") (some none) &&
  (decide (PySem.W.subIn K (.ref (He.ga K c.nm)) (.type "BaseException") = some true) && (PySem.W.hasDictIn K (He.ga K c.nm) && (He.eqO (PySem.W.findIn K (.ref (He.ga K c.nm)) "__class__") (some (some (.builtin "object.__class__"))) &&
  (He.eqO (PySem.W.specialIn K (.builtin "object.__class__") "__get__") (some (some (.builtin "getset_descriptor.__get__"))) && (decide (PySem.W.takesIn K (.builtin "object.__class__") = some true) && (decide (PySem.W.mroIn K (He.ga K c.nm) (.type "object") = some true) &&
  (decide (PySem.W.kitOne K (.ref (He.ga K c.nm)) (.type "ValueError") = some true) && (allCn.all fun d => !knB K d || (decide (PySem.W.kitOne K (.ref (He.ga K c.nm)) (.ref (He.ga K d.nm)) = some (isC c d)) && decide (PySem.W.kitOne K (.type "NoneType") (.ref (He.ga K d.nm)) = some false))))))))))))
structure Cf (K : PySem.W.Frag) (c : Cn) : Prop where
  kb : knB K c = true
  ex : ExcC K (He.ga K c.nm)
  ve : PySem.W.kitOne K (.ref (He.ga K c.nm)) (.type "ValueError") = some true
  kt : ∀ d, knB K d = true → PySem.W.kitOne K (.ref (He.ga K c.nm)) (.ref (He.ga K d.nm)) = some (isC c d)
  kn : ∀ d, knB K d = true → PySem.W.kitOne K (.type "NoneType") (.ref (He.ga K d.nm)) = some false
theorem cf_of {K : PySem.W.Frag} {c : Cn} (h : cfB K c = true) : Cf K c := by
  unfold cfB at h
  simp only [Bool.and_eq_true] at h
  obtain ⟨h0, h1, h2, h3, h4, h5, h6, h7, h8, h9, h10⟩ := h
  have h11 : ∀ d, knB K d = true → PySem.W.kitOne K (.ref (He.ga K c.nm)) (.ref (He.ga K d.nm)) = some (isC c d) ∧ PySem.W.kitOne K (.type "NoneType") (.ref (He.ga K d.nm)) = some false := fun d hd => by
    have q := List.all_eq_true.mp h10 d (mem_allCn d)
    rw [hd] at q
    have q2 : (decide (PySem.W.kitOne K (.ref (He.ga K c.nm)) (.ref (He.ga K d.nm)) = some (isC c d)) && decide (PySem.W.kitOne K (.type "NoneType") (.ref (He.ga K d.nm)) = some false)) = true := q
    obtain ⟨a, b⟩ := Bool.and_eq_true_iff.mp q2
    exact ⟨of_decide_eq_true a, of_decide_eq_true b⟩
  exact ⟨h0, ⟨He.eqO_ok h1, He.eqO_ok h2, of_decide_eq_true h3, h4, He.eqO_ok h5, He.eqO_ok h6, of_decide_eq_true h7, of_decide_eq_true h8⟩, of_decide_eq_true h9, fun d hd => (h11 d hd).1, fun d hd => (h11 d hd).2⟩
theorem cls_of {K : PySem.W.Frag} {c : Cn} (h : Cf K c) : (PySem.W.clsIn K (He.ga K c.nm)).isSome = true := by
  obtain ⟨cd, hc, _⟩ := PySem.W.any_some h.ex.hd
  rw [hc]
  rfl
/-- a caught error, as a value -/
instance : Rp Er where
  rep K H v e := ∃ a, v = .ref a ∧ Cf K e.cn ∧ match e with
    | .own c => H a = some (ExH (He.ga K c.nm) none a)
    | .plan n => ∃ dd m, H a = some (ExH (He.ga K "BadPlan") (some dd) a) ∧ H dd = some (.xd [("at", .int n), ("words", .str m)])
  mono {K H H' v e} s h := by
    obtain ⟨a, h1, h2, h3⟩ := h
    refine ⟨a, h1, h2, ?_⟩
    cases e with
    | own c => exact s a _ h3
    | plan n =>
      obtain ⟨dd, m, h4, h5⟩ := h3
      exact ⟨dd, m, s a _ h4, s dd _ h5⟩
instance : NN Er := ⟨fun ⟨_, h, _⟩ => by rw [h]; intro q; cases q⟩
/-! ### isinstance of what was caught, or None -/
inductive TyE (K : PySem.W.Frag) (H : Hp) : V → Value → Prop where
  | own {a C : Addr} (h : H a = some (ExH C none a)) (c : ExcC K C) : TyE K H (.ref a) (.ref C)
  | plan {a C dd : Addr} {fs : List (Str × V)} (h : H a = some (ExH C (some dd) a)) (hd : H dd = some (.xd fs)) (hC : (PySem.W.clsIn K C).isSome = true) (c : ExcC K C) : TyE K H (.ref a) (.ref C)
  | non : TyE K H .non (.type "NoneType")
def rIsX (K : PySem.W.Frag) : List V → Hp → VK → Prop := fun xs H Q => ∃ (x c : V) (t u : Value) (b : Bool), xs = [x, c] ∧ ClsV c u ∧ TyE K H x t ∧ PySem.W.kitOne K t u = some b ∧ Q (.bl b) H
def rIsXT (K : PySem.W.Frag) : List V → Hp → VK → Prop := fun xs H Q => ∃ (x : V) (tp : Addr) (cs : List V) (t : Value) (us : List Value) (b : Bool), xs = [x, .ref tp] ∧ H tp = some (.tup cs) ∧ Paired ClsV cs us ∧ TyE K H x t ∧ PySem.W.kitAny K t us = some b ∧ Q (.bl b) H
section
variable {X : Cx} {pins : List (Addr × Obj)} {σ : L2.St} {H : Hp} {s : Shared}
theorem inst_of {a C : Addr} (I : Inv X pins σ H s) (h : H a = some (ExH C none a)) : ∃ oe, PySem.W.InstAt s.heap a oe C none := by
  obtain ⟨⟨oe, vs, e, z, d⟩, _⟩ := (show ObjOk X.prog X.w H s.heap a (ExH C none a) from I.hok a _ h)
  refine ⟨oe, ?_⟩
  obtain ⟨oc, od, oda, osl⟩ := oe
  obtain ⟨h1, h2⟩ := z
  dsimp only at h1 h2 d
  subst h1 h2 d
  exact ⟨e, rfl, rfl, trivial⟩
theorem inst_ofD {a C dd : Addr} {fs : List (Str × V)} (I : Inv X pins σ H s) (h : H a = some (ExH C (some dd) a)) (hd : H dd = some (.xd fs)) :
    ∃ (oe od : Obj) (mA : Str → Option Value), PySem.W.InstAt s.heap a oe C (some od) ∧ (∀ n, PySem.W.lookIn n od = some (mA n)) ∧ ∀ f, RelO (fs.lookup f) (mA f) := by
  obtain ⟨⟨oe, vs, e, z, d⟩, _⟩ := (show ObjOk X.prog X.w H s.heap a (ExH C (some dd) a) from I.hok a _ h)
  obtain ⟨mA, hns, hr⟩ := (show ObjOk X.prog X.w H s.heap dd (.xd fs) from I.hok dd _ hd)
  obtain ⟨od, ho, hl⟩ := lookIn_ns hns
  refine ⟨oe, od, mA, ?_, hl, hr⟩
  obtain ⟨oc, odd, oda, osl⟩ := oe
  obtain ⟨h1, h2⟩ := z
  dsimp only at h1 h2 d
  subst h1 h2 d
  exact ⟨e, rfl, rfl, ho⟩
theorem kit_ofE {x : V} {u t : Value} (I : Inv X pins σ H s) (rx : RelV x u) (ty : TyE X.K H x t) : ∃ P : Heap → Prop, PySem.W.KitX X.K u t P ∧ P s.heap ∧ u ≠ .builtin "__main__.__loader__#opaque" := by
  cases ty with
  | own h c =>
    rename_i a C
    cases rx
    obtain ⟨oe, J⟩ := inst_of I h
    exact ⟨fun h => PySem.W.InstAt h a oe C none, PySem.W.handS_kitx_exc c.hg c.hk c.hs c.hd c.ha c.hn c.ht c.hm, J, fun z => nomatch z⟩
  | plan h hd hC c =>
    rename_i a C dd fs
    cases rx
    obtain ⟨oe, od, mA, J, _, _⟩ := inst_ofD I h hd
    exact ⟨fun h => PySem.W.InstAt h a oe C (some od), PySem.W.kitx_exc hC c.hg c.hk c.hs c.ha c.hn c.ht c.hm, J, fun z => nomatch z⟩
  | non => cases (show u = Value.none from rx); exact ⟨_, PySem.W.kitx_none, True.intro, fun z => nomatch z⟩
theorem call_isX : CallR X (.builtin "isinstance") (rIsX X.K) := by
  intro pins s σ H xs us Q I r h
  obtain ⟨x, c, t, u, b, rfl, k, ty, e, q⟩ := h
  obtain ⟨u1, u2, rfl, r1, r2⟩ := vals2 r
  have e2 := k.eq r2
  subst e2
  obtain ⟨P, Z, p, hx⟩ := kit_ofE I r1 ty
  exact PySem.W.kia_one Z I.kIn p e hx fun tk => ⟨.bl b, H, I.tok tk, rfl, q⟩
theorem call_isXT : CallR X (.builtin "isinstance") (rIsXT X.K) := by
  intro pins s σ H xs us Q I r h
  obtain ⟨x, tp, cs, t, ws, b, rfl, hT, k, ty, e, q⟩ := h
  obtain ⟨u1, u2, rfl, r1, r2⟩ := vals2 r
  cases (show u2 = Value.ref tp from r2)
  obtain ⟨P, Z, p, hx⟩ := kit_ofE I r1 ty
  obtain ⟨_, its, rv, o, h1, h2, n, h3⟩ := (show ObjOk X.prog X.w H s.heap tp (.tup cs) from I.hok tp _ hT)
  have e3 := ClsV.all k rv
  subst e3
  obtain ⟨oc, od, dt, sl⟩ := o
  simp only at h2 h3
  subst h2 h3
  exact PySem.W.kia_tup Z I.kIn p h1 e hx fun tk => ⟨.bl b, H, I.tok tk, rfl, q⟩
/-! ### caught.called() -/
def tMethX (K : PySem.W.Frag) (m : Str) (C : Cn → Prop) (sp : Cn → Sp) (E : L2.St → XK) (ta : TE) : TE := fun σ H Q => ta σ H fun x H1 =>
  ∃ a c, x = .ref a ∧ (H1 a = some (ExH (He.ga K c.nm) none a) ∨ ∃ dd fs, H1 a = some (ExH (He.ga K c.nm) (some dd) a) ∧ H1 dd = some (.xd fs) ∧ fs.lookup m = none) ∧ C c ∧ sp c [.ref a] H1 Q (E σ)
/-- each class of the kind has the method m -/
structure MthX (P : Program) (w : World) (K : PySem.W.Frag) (mg : Str → Option Value) (base : Heap) (CX : CXT) (k : Nat) (m : Str) (C : Cn → Prop) (sp : Cn → Sp) : Prop where
  hg : ∀ c, C c → PySem.W.findIn K (.ref (He.ga K c.nm)) "__getattribute__" = some (some (.builtin "BaseException.__getattribute__")) ∧ PySem.W.findIn K (.ref (He.ga K c.nm)) "__getattr__" = some none
  fn : ∀ c, C c → ∃ f fd ps, PySem.W.findIn K (.ref (He.ga K c.nm)) m = some (some (.ref f)) ∧ PySem.W.isFn K (.ref f) = true ∧ PySem.W.keepIn K (.ref f) = true ∧ Binds K fd ps [] ∧ FnOk P w K mg base CX k f fd ps (sp c)
theorem pe_methX {CX : CXT} {k : Nat} {C : Cn → Prop} {sp : Cn → Sp} {E : L2.St → XK} {m : Str} {o : Expr} {apos pos : Pos} {ta : TE} {pl : Sem Bool} (he : PE X o ta) (M : MthX X.prog X.w X.K X.mg X.base CX k m C sp) (hr : Room k X.A) (hx : ∀ σ, PassesAt CX X σ (E σ))
    (ht : eval (.Call (.Attribute o m apos) [] [] pos) X.env = (do
      let ov ← eval o X.env
      standAt apos.atName
      let (f, first) ← holding [ov] (getMethod ov m pl)
      callWith pos f first (backTo pos (starEach [] X.env)) (backToKw pos (keywordEach [] X.env))) := by rfl) :
    PE X (.Call (.Attribute o m apos) [] [] pos) (tMethX X.K m C sp E ta) := by
  refine ⟨fun pins s σ H Q I h => ?_⟩
  refine PySem.W.methodCall_KW (pl := pl) (thn (he.run pins s σ H _ I h) fun u s1 ⟨x, H1, I1, rx, a, c, ex, ea, hC, q⟩ => ?_) ht
  subst ex
  obtain rfl : u = Value.ref a := rx
  obtain ⟨h1, h2⟩ := M.hg c hC
  obtain ⟨f, fd, ps, h3, h4, h5, h6, F⟩ := M.fn c hC
  obtain ⟨m', fr⟩ := I1.fr
  have key : ∃ oe od, PySem.W.InstAt s1.heap a oe (He.ga X.K c.nm) od ∧ PySem.W.shadowIn od m = some false := by
    rcases ea with ea | ⟨dd, fs, ea, ed, el⟩
    · obtain ⟨oe, J⟩ := inst_of I1 ea
      exact ⟨oe, none, J, rfl⟩
    · obtain ⟨oe, od, mA, J, hl, hr⟩ := inst_ofD I1 ea ed
      refine ⟨oe, some od, J, ?_⟩
      show (PySem.W.lookIn m od).map _ = _
      rw [hl m]
      have r := hr m
      rw [el] at r
      cases e : mA m with
      | none => rfl
      | some u => rw [e] at r; exact r.elim
  obtain ⟨oe, od, J, hsh⟩ := key
  refine PySem.W.method_exc fr I1.ok.mod.kin J h1 h2 h3 h4 hsh ?_
  exact PySem.W.callWith_K0 (first := [.ref a]) I1.kIn h5 (run_fnS (us := [.ref a]) (vs := [.ref a]) F hr h6 (hx σ) I1 (.cons rfl .nil) q)
theorem pget_list : PGet X (rIxL X.K) := by
  intro pins s σ H x y v u Q I rx ry h
  obtain ⟨p, xs, i, z, rfl, rfl, hq, he, q⟩ := h
  cases rx
  obtain ⟨t, rfl⟩ := ry
  obtain ⟨its, r, pl, hz⟩ := I.list hq
  obtain ⟨j, h1, h2, h3, h4, h5⟩ := atI_get he
  obtain ⟨w, ew, rw'⟩ := r.get h2
  have hl := r.length
  have hn := line63
  have fin : EP X pins σ Q w s := ⟨z, H, I, rw', q⟩
  by_cases h0 : 0 ≤ i
  · have hj : i.toNat = j := by
      rw [seqIndex_of h0 h5] at h1
      exact Option.some.inj h1
    exact wpAny_getItem_list pl.isList h0 (by omega) (by rw [hj]; simpa using ew) fin
  · have hj : (i + (its.toArray.size : Int)).toNat = j := by
      rw [seqIndex_neg (by omega) h4] at h1
      rw [List.size_toArray, ← hl]
      exact Option.some.inj h1
    exact wpAny_getItem_list_neg pl.isList (by omega) (by rw [List.size_toArray] <;> omega) (by omega) (by rw [hj]; simpa using ew) fin
/-- in a comprehension's block nothing is raised -/
theorem passF (σ : L2.St) : PassesAt (L2.CX X.prog X.w) X σ (fun _ _ _ => False) := fun _ _ _ _ _ _ h => by
  obtain ⟨_, _, _, _, _, _, _, _, _, _, _, _, z⟩ := h
  exact z.elim
end
/-! ### the same over what is known -/
section
variable {K : PySem.W.Frag} {E : XK} {σ : L2.St} {H0 F H F' H' : Hp} {ta tb te tl to ti : TE} {t u : TT} {tu tw tz : TS} {α β γ δ ρ S : Type} [Rp α] [Rp β] [Rp γ] [Rp δ] [Rp ρ] {D : Ends} {Ex : L2.St → XK}
def isXR (c : Cn) : Option Er → R Bool
  | none => .ok false
  | some (.own d) => .ok (isC d c)
  | some (.plan _) => .ok (isC .BadPlan c)
theorem g_isX {m : R (Option Er)} {c : Cn} (h : Gr K E ta σ F H m) (hF : Same F H) (hk : knB K c = true) (h0 : Cf K c) : Gr K E (tCB (rIsX K) (tCons ta (tCons (tC (.ref (He.ga K c.nm))) tNil))) σ F H (R.bd m (isXR c)) := fun H1 e Q hq =>
  gr_seq h e hq fun o v H2 e2 r hq2 => by
    cases o with
    | none =>
      have r' : v = .non := r
      subst r'
      exact ⟨_, _, _, _, false, rfl, .own _, .non, h0.kn c hk, hq2 _ H2 (Same.refl _) rfl⟩
    | some er =>
      cases er with
      | plan n =>
        obtain ⟨_, a, rfl, cf, dd, m, ha, hd⟩ := r
        exact ⟨_, _, _, _, _, rfl, .own _, .plan (mix_same hF (e.trans e2) a _ ha) (mix_same hF (e.trans e2) dd _ hd) (cls_of cf) cf.ex, cf.kt c hk, hq2 _ H2 (Same.refl _) rfl⟩
      | own d =>
        obtain ⟨_, a, rfl, cf, ha⟩ := r
        exact ⟨_, _, _, _, _, rfl, .own _, .own (mix_same hF (e.trans e2) a _ ha) cf.ex, cf.kt c hk, hq2 _ H2 (Same.refl _) rfl⟩
def isVR : Option Er → R Bool
  | none => .ok false
  | some (.own d) => .ok true
  | some (.plan _) => .ok true
theorem g_isV {m : R (Option Er)} (h : Gr K E ta σ F H m) (hF : Same F H) : Gr K E (tCB (rIsX K) (tCons ta (tCons (tC (.ty "ValueError")) tNil))) σ F H (R.bd m isVR) := fun H1 e Q hq =>
  gr_seq h e hq fun o v H2 e2 r hq2 => by
    cases o with
    | none =>
      have r' : v = .non := r
      subst r'
      exact ⟨_, _, _, _, false, rfl, .ty _, .non, kit_ty (by decide +kernel), hq2 _ H2 (Same.refl _) rfl⟩
    | some er =>
      cases er with
      | plan n =>
        obtain ⟨_, a, rfl, cf, dd, m, ha, hd⟩ := r
        exact ⟨_, _, _, _, _, rfl, .ty _, .plan (mix_same hF (e.trans e2) a _ ha) (mix_same hF (e.trans e2) dd _ hd) (cls_of cf) cf.ex, cf.ve, hq2 _ H2 (Same.refl _) rfl⟩
      | own d =>
        obtain ⟨_, a, rfl, cf, ha⟩ := r
        exact ⟨_, _, _, _, _, rfl, .ty _, .own (mix_same hF (e.trans e2) a _ ha) cf.ex, cf.ve, hq2 _ H2 (Same.refl _) rfl⟩
def tClsL (K : PySem.W.Frag) : List Cn → TA
  | [] => tNil
  | c :: r => tCons (tC (.ref (He.ga K c.nm))) (tClsL K r)
theorem tClsL_ok {cs : List Cn} {Q : List V → Hp → Prop} (h : Q (cs.map fun c => V.ref (He.ga K c.nm)) H) : tClsL K cs σ H Q := by
  induction cs generalizing Q with
  | nil => exact h
  | cons c r ih => exact ih (Q := fun xs H' => Q (V.ref (He.ga K c.nm) :: xs) H') h
def isXTR (cs : List Cn) : Option Er → R Bool
  | none => .ok false
  | some (.own d) => .ok (cs.any fun c => isC d c)
  | some (.plan _) => .ok (cs.any fun c => isC .BadPlan c)
theorem kitAny_none {cs : List Cn} (hk : ∀ c ∈ cs, knB K c = true) (h0 : ∀ c ∈ cs, Cf K c) : PySem.W.kitAny K (.type "NoneType") (cs.map fun c => Value.ref (He.ga K c.nm)) = some false := by
  induction cs with
  | nil => rfl
  | cons c r ih => exact kitAny_cons ((h0 c List.mem_cons_self).kn c (hk c List.mem_cons_self)) (fun _ => ih (fun d hd => hk d (List.mem_cons_of_mem _ hd)) fun d hd => h0 d (List.mem_cons_of_mem _ hd)) (fun z => z)
theorem kitAny_own {cs : List Cn} {d : Cn} (hk : ∀ c ∈ cs, knB K c = true) (hd : Cf K d) : PySem.W.kitAny K (.ref (He.ga K d.nm)) (cs.map fun c => Value.ref (He.ga K c.nm)) = some (cs.any fun c => isC d c) := by
  induction cs with
  | nil => rfl
  | cons c r ih =>
    refine kitAny_cons (hd.kt c (hk c List.mem_cons_self)) (fun z => ?_) (fun z => ?_)
    · rw [List.any_cons, z, Bool.false_or]
      exact ih fun d hd => hk d (List.mem_cons_of_mem _ hd)
    · rw [List.any_cons, z, Bool.true_or]
theorem clsV_all (cs : List Cn) : Paired ClsV (cs.map fun c => V.ref (He.ga K c.nm)) (cs.map fun c => Value.ref (He.ga K c.nm)) := by
  induction cs with
  | nil => exact .nil
  | cons c r ih => exact .cons (.own _) ih
theorem g_isXT {m : R (Option Er)} (cs : List Cn) (h : Gr K E ta σ F H m) (hF : Same F H) (hk : ∀ c ∈ cs, knB K c = true) (h0 : ∀ c ∈ cs, Cf K c) (hl : cs.length ≤ 100) : Gr K E (tCB (rIsXT K) (tCons ta (tCons (tTup (tClsL K cs)) tNil))) σ F H (R.bd m (isXTR cs)) := fun H1 e Q hq =>
  gr_seq h e hq fun o v H2 e2 r hq2 => by
    refine tClsL_ok ⟨by rw [List.length_map]; exact Nat.le_trans hl (by decide), fun p hp => ?_⟩
    cases o with
    | none =>
      have r' : v = .non := r
      subst r'
      exact ⟨_, p, _, _, _, false, rfl, upd_same, clsV_all cs, .non, kitAny_none hk h0, hq2 _ _ (same_upd hp) rfl⟩
    | some er =>
      cases er with
      | plan n =>
        obtain ⟨_, a, rfl, cf, dd, m, ha, hd⟩ := r
        exact ⟨_, p, _, _, _, _, rfl, upd_same, clsV_all cs, .plan (same_upd hp _ _ (mix_same hF (e.trans e2) a _ ha)) (same_upd hp _ _ (mix_same hF (e.trans e2) dd _ hd)) (cls_of cf) cf.ex, kitAny_own hk cf, hq2 _ _ (same_upd hp) rfl⟩
      | own d =>
        obtain ⟨_, a, rfl, cf, ha⟩ := r
        exact ⟨_, p, _, _, _, _, rfl, upd_same, clsV_all cs, .own (same_upd hp _ _ (mix_same hF (e.trans e2) a _ ha)) cf.ex, kitAny_own hk cf, hq2 _ _ (same_upd hp) rfl⟩
/-- the name that called() tells -/
def spCalled (c : Cn) : Sp := fun vs H Q _ => (∃ v, vs = [v]) ∧ Q (.str c.nm) H
def calledR : Option Er → R Str
  | some (.own d) => .ok d.nm
  | some (.plan _) => .ok Cn.BadPlan.nm
  | none => .bad
theorem g_called {m : R (Option Er)} {C : Cn → Prop} (h : Gr K E ta σ F H m) (hF : Same F H) (hC : ∀ c, Cf K c → C c) (hE : Ex σ = E := by rfl) : Gr K E (tMethX K "called" C spCalled Ex ta) σ F H (R.bd m calledR) := by
  subst hE
  exact fun H1 e Q hq =>
  gr_seq h e hq fun o v H2 e2 r hq2 => by
    cases o with
    | none => exact hq2.elim
    | some er =>
      cases er with
      | plan n =>
        obtain ⟨_, a, rfl, cf, dd, m, ha, hd⟩ := r
        exact ⟨a, .BadPlan, rfl, .inr ⟨dd, _, mix_same hF (e.trans e2) a _ ha, mix_same hF (e.trans e2) dd _ hd, rfl⟩, hC .BadPlan cf, ⟨_, rfl⟩, hq2 _ H2 (Same.refl _) rfl⟩
      | own d =>
        obtain ⟨_, a, rfl, cf, ha⟩ := r
        exact ⟨a, d, rfl, .inl <| mix_same hF (e.trans e2) a _ ha, hC d cf, ⟨_, rfl⟩, hq2 _ H2 (Same.refl _) rfl⟩
/-! ### try: .. except SowError as e: .. -/
def catchR {S : Type} (cs : List Cn) (m : R S) (hand : Er → R S) : R S := match m with
  | .ok s => .ok s
  | .er e => if e.cn ∈ cs then hand e else .bad
  | .bad => .bad
theorem s_try {cs : List Cn} {cv : Value} {i : Nat} {ts : TS} {tb : WX → TS} {m : R S} {hand : Er → R S} {k : S → R β} {kk : β → Prop} (hF : Same F H) (e0 : Same H0 H) (hQ : Wp (R.bd (catchR cs m hand) k) kk (EE K E H0))
    (hx : ∀ c ∈ cs, PySem.W.exmOne K (.ref (He.ga K c.nm)) cv = some true) (hcf : ∀ c ∈ cs, Cf K c)
    (hh : ∀ er a F' H', Nx0 F H F' H' → Same H0 H' → Rp.rep K F' (.ref a) (er : Er) → Wp (R.bd (hand er) k) kk (EE K E H0) →
      ts { nx := fun σ' H' => D.nx (σ'.set i none) H', rt := D.rt, bk := fun σ' H' => D.bk (σ'.set i none) H', ct := fun σ' H' => D.ct (σ'.set i none) H' } (σ.set i (some (.ref a))) H')
    (hb : Wp m (fun s => Wp (k s) kk (EE K E H0)) (EE K (WE (wHold K cv i ts D) σ) H) → tb (wHold K cv i ts D) D σ H) : tb (wHold K cv i ts D) D σ H := by
  refine hb ?_
  rw [wp_bd] at hQ
  cases m with
  | ok s => exact hQ
  | bad => exact hQ.elim
  | er er =>
    have hQ2 : Wp (if er.cn ∈ cs then hand er else .bad) (fun a => Wp (k a) kk (EE K E H0)) (EE K E H0) := hQ
    split at hQ2
    · rename_i hc
      have hq3 : Wp (R.bd (hand er) k) kk (EE K E H0) := by rw [wp_bd]; exact hQ2
      cases er with
      | own c =>
        intro H' s
        refine ⟨_, rfl, hx _ hc, fun a ha => ?_⟩
        have hn : H a = none := Same.free s ha
        exact hh (.own c) a _ _ (Nx.mk' hF (s.trans (same_upd ha))) (e0.trans (s.trans (same_upd ha))) ⟨a, rfl, hcf _ hc, by show mix F H _ a = _; rw [mix_new hn]; exact upd_same⟩ hq3
      | plan n =>
        intro d H' s hd ⟨m, hm⟩
        refine ⟨_, rfl, hx _ hc, fun a ha => ?_⟩
        have hn : H a = none := Same.free s ha
        exact hh (.plan n) a _ _ (Nx.mk' hF (s.trans (same_upd ha))) (e0.trans (s.trans (same_upd ha))) ⟨a, rfl, hcf _ hc, d, m, by show mix F H _ a = _; rw [mix_new hn]; exact upd_same, by rw [mix_new hd]; exact same_upd ha _ _ hm⟩ hq3
    · exact hQ2.elim
/-! ### lists of ints (bools, texts): told anew, wherever they stand -/
theorem g_anew [Sc α] {f : List α → List α} (hf : ∀ (p : Addr) (xs : List α) H' (G : Hp), G p = H' p → Rp.rep K H' (.ref p) xs → Rp.rep K G (.ref p) xs) : True := trivial
theorem reps_at [Sc α] {G H' : Hp} {p : Addr} {vs : List V} {xs : List α} (h : G p = some (.lst vs)) (hv : All2 (Rp.rep K H') vs xs) : Rp.rep K G (.ref p) xs := ⟨p, vs, rfl, h, hv.mono fun _ _ x => Sc.is.mpr (Sc.is.mp x)⟩
theorem g_listS [Sc α] {m : R (List α)} (h : Gr K E ta σ H H m) : Gr K E (tCB (rListOf K) (tCons ta tNil)) σ F H m := fun H1 e Q hq =>
  h H1 e _ (wp_mono hq (fun xs _ k v H2 e2 r => by
    obtain ⟨p, vs, rfl, hp, hv⟩ := r
    exact ⟨p, vs, rfl, .inl (SqL.of (mix_same (Same.refl _) (e.trans e2) p _ hp)), fun l hl => k _ _ (e2.trans (same_upd hl)) (reps_at (by rw [mix_new (Same.free (e.trans e2) hl)]; exact upd_same) hv)⟩) fun _ _ z => z)
theorem g_listTS [Sc α] {m : R (Tu α)} (h : Gr K E ta σ H H m) : Gr K E (tCB (rListOf K) (tCons ta tNil)) σ F H (R.bd m fun t => .ok t.l) := fun H1 e Q hq =>
  h H1 e _ (by
    rw [wp_bd] at hq
    refine wp_mono hq (fun xs _ k v H2 e2 r => ?_) fun _ _ z => z
    obtain ⟨p, vs, rfl, hp, hv⟩ := r
    exact ⟨p, vs, rfl, .inr (SqT.of (mix_same (Same.refl _) (e.trans e2) p _ hp)), fun l hl => k _ _ (e2.trans (same_upd hl)) (reps_at (by rw [mix_new (Same.free (e.trans e2) hl)]; exact upd_same) hv)⟩)
theorem g_listSS {m : R Scr} (h : Gr K E ta σ H H m) : Gr K E (tCB (rListOf K) (tCons ta tNil)) σ F H (R.bd m fun t => .ok t.l) := fun H1 e Q hq =>
  h H1 e _ (by
    rw [wp_bd] at hq
    refine wp_mono hq (fun xs _ k v H2 e2 r => ?_) fun _ _ z => z
    obtain ⟨p, rfl, hp⟩ := r
    exact ⟨p, _, rfl, .inl ((mix_same (Same.refl _) (e.trans e2)).seq hp), fun l hl => k _ _ (e2.trans (same_upd hl)) (reps_at (K := K) (H' := H) (by rw [mix_new (Same.free (e.trans e2) hl)]; exact upd_same) (ints_rep _))⟩)
theorem g_tupleS [Sc α] {m : R (List α)} (h : Gr K E ta σ H H m) : Gr K E (tCB (rTupOf K) (tCons ta tNil)) σ F H (R.bd m fun l => .ok (Tu.mk l)) := fun H1 e Q hq =>
  h H1 e _ (by
    rw [wp_bd] at hq
    refine wp_mono hq (fun xs _ k v H2 e2 r => ?_) fun _ _ z => z
    obtain ⟨p, vs, rfl, hp, hv⟩ := r
    exact ⟨p, vs, rfl, .inl ⟨SqL.of (mix_same (Same.refl _) (e.trans e2) p _ hp), fun l hl => k _ _ (e2.trans (same_upd hl)) ⟨l, vs, rfl, by rw [mix_new (Same.free (e.trans e2) hl)]; exact upd_same, hv.mono fun _ _ x => Sc.is.mpr (Sc.is.mp x)⟩⟩⟩)
theorem gro_arg {mo : R (Option Int)} {to : TO} {f : Option Int → R ρ} {Q : VK} {H1 : Hp} (ha : GrO K E to σ H mo) (e : Same H H1) (hq : Wp (R.bd mo f) (fun b => ∀ v H2, Same H1 H2 → Rp.rep K (mix F H H2) v b → Q v H2) (EE K E H1))
    {Q' : Option Int → Hp → Prop} (h : ∀ a H2, Same H1 H2 → Wp (f a) (fun b => ∀ v H3, Same H2 H3 → Rp.rep K (mix F H H3) v b → Q v H3) (EE K E H2) → Q' a H2) : to σ H1 Q' := gro_seq ha e hq h
theorem g_cutS [Sc α] {tlo thi : TO} {m : R (List α)} {mlo mhi : R (Option Int)} (h : Gr K E ta σ H H m) (hlo : GrO K E tlo σ H mlo) (hhi : GrO K E thi σ H mhi) :
    Gr K E (tSl (rSlL K) ta tlo thi) σ F H (R.bd m fun xs => R.bd mlo fun lo => R.bd mhi fun hi => .ok (cut xs lo hi)) := fun H1 e Q hq =>
  gr_arg h e hq fun xs v H2 e2 r hq2 => gro_seq hlo (e.trans e2) hq2 fun lo H3 e3 hq3 => gro_seq hhi (e.trans (e2.trans e3)) hq3 fun hi H4 e4 hq4 => by
    obtain ⟨p, vs, rfl, hp, hv⟩ := r
    exact ⟨p, vs, rfl, SqL.of (e4 p _ (e3 p _ hp)), fun l hl => hq4 _ _ (same_upd hl) (reps_at (by rw [mix_new (Same.free (e.trans (e2.trans (e3.trans e4))) hl)]; exact upd_same) (all2_cut hv))⟩
theorem atI_cutmap {ns : List Int} {lo hi : Option Int} : cutV (ns.map V.int) lo hi = (cut ns lo hi).map V.int := by
  unfold cutV cut
  rw [List.length_map, List.map_take, List.map_drop]
theorem g_cutSS {tlo thi : TO} {m : R Scr} {mlo mhi : R (Option Int)} (h : Gr K E ta σ H H m) (hlo : GrO K E tlo σ H mlo) (hhi : GrO K E thi σ H mhi) :
    Gr K E (tSl (rSlL K) ta tlo thi) σ F H (R.bd m fun xs => R.bd mlo fun lo => R.bd mhi fun hi => .ok (cut xs.l lo hi)) := fun H1 e Q hq =>
  gr_arg h e hq fun xs v H2 e2 r hq2 => gro_seq hlo (e.trans e2) hq2 fun lo H3 e3 hq3 => gro_seq hhi (e.trans (e2.trans e3)) hq3 fun hi H4 e4 hq4 => by
    obtain ⟨p, rfl, hp⟩ := r
    refine ⟨p, _, rfl, (e3.trans e4).seq hp, fun l hl => hq4 _ _ (same_upd hl) ?_⟩
    rw [atI_cutmap]
    exact reps_at (K := K) (H' := H) (by rw [mix_new (Same.free (e.trans (e2.trans (e3.trans e4))) hl)]; exact upd_same) (ints_rep _)
theorem g_catS [Sc α] {ma mb : R (List α)} (ha : Gr K E ta σ H H ma) (hb : Gr K E tb σ H H mb) : Gr K E (tOp rCat ta tb) σ F H (R.bd ma fun a => R.bd mb fun b => gd (a.length + b.length ≤ lim) (.ok (a ++ b))) := fun H1 e Q hq =>
  gr_arg ha e hq fun a v H2 e2 r hq2 => gr_arg hb (e.trans e2) hq2 fun b w H3 e3 r3 hq3 => by
    obtain ⟨p, vs, rfl, hp, hv⟩ := r
    obtain ⟨q, ws, rfl, hq', hw⟩ := r3
    unfold gd at hq3
    split at hq3
    · rename_i c
      refine ⟨p, q, vs, ws, rfl, rfl, e3 p _ hp, hq', lim_line (by rw [hv.length, hw.length]; exact c), fun l hl => hq3 _ _ (same_upd hl) (reps_at (K := K) (H' := H3) (by rw [mix_new (Same.free (e.trans (e2.trans e3)) hl)]; exact upd_same) ((hv.mono fun _ _ x => Rp.mono e3 x).append hw))⟩
    · exact hq3.elim
theorem g_repS [Sc α] {ma : R (List α)} {mb : R Int} (ha : Gr K E ta σ H H ma) (hb : Gr K E tb σ H H mb) : Gr K E (tOp rRep ta tb) σ F H (R.bd ma fun a => R.bd mb fun b => repR a b) := fun H1 e Q hq =>
  gr_arg ha e hq fun a v H2 e2 r hq2 => gr_arg hb (e.trans e2) hq2 fun b w H3 e3 r3 hq3 => by
    obtain ⟨p, vs, rfl, hp, hv⟩ := r
    have r3' : w = .int b := r3
    subst r3'
    unfold repR gd at hq3
    split at hq3
    · rename_i c
      refine ⟨p, b, vs, rfl, rfl, e3 p _ hp, by omega, by omega, lim_line (by rw [hv.length]; exact c.2.2), fun l hl => hq3 _ _ (same_upd hl) (reps_at (K := K) (H' := H2) (by rw [mix_new (Same.free (e.trans (e2.trans e3)) hl)]; exact upd_same) (all2_rep hv _))⟩
    · exact hq3.elim
end
end G

set_option Elab.async false
set_option linter.all false
set_option maxRecDepth 100000
set_option maxHeartbeats 4000000
/-! G: small words for the walks; the head. -/
namespace G
open PySem PySem.Spec PyProof.Rows L2
theorem wp_bdi {α β : Type} {m : R α} {f : α → R β} {k : β → Prop} {e : Er → Prop} (h : Wp (R.bd m f) k e) : Wp m (fun a => Wp (f a) k e) e := by rw [wp_bd] at h; exact h
def flk {S ρ β : Type} (go : S → R β) (ret : ρ → R β) : Fl S ρ → R β
  | .go s => go s
  | .brk s => go s
  | .ret r => ret r
instance (priority := low) {S ρ : Type} : Rp (Fl S ρ) := ⟨fun _ _ _ _ => False, fun _ h => h⟩
theorem flk_go {S ρ β : Type} {go : S → R β} {ret : ρ → R β} {s : S} {k : β → Prop} {e : Er → Prop} (h : Wp (flk go ret (.go s)) k e) : Wp (go s) k e := h
theorem nil_same {H : Hp} : Same nil0 H := fun _ _ h => by cases h
theorem mix_ff {F F' H H' : Hp} (e : Same F F') : Same (mix F H H') (mix F' H H') := fun b o h => by
  cases q : H b with
  | some u =>
    cases z : tupB (some u) with
    | true => rw [mix_tup q z] at h ⊢; exact h
    | false => rw [mix_old q z] at h ⊢; exact e b o h
  | none => rw [mix_new q] at h ⊢; exact h
section
variable {K : PySem.W.Frag} {E : XK} {σ : L2.St} {H0 F H F' H' F1 H1 F2 H2 : Hp} {D : Ends} {tb : TS} {P P2 : Addr → Prop}
theorem Nx.refl' (hF : Same F H) : Nx P F H F H := ⟨Same.refl _, fun _ _ _ h => h, hF, fun _ _ _ _ n => n, fun b o h => ⟨o, h, rfl⟩⟩
theorem Nx.step (a : Nx P F H F1 H1) (b : Nx P2 F1 H1 F2 H2) (h : ∀ q, P2 q → P q ∨ H q = none) : Nx P F H F2 H2 :=
  ⟨a.ff.trans b.ff, fun x o n q => b.hh x o (fun z => by
    rcases h x z with y | y
    · exact n y
    · rw [y] at q; cases q) (a.hh x o n q), b.fh, fun x o z q n => by
    obtain ⟨o', q', t⟩ := a.th x o q
    exact b.own x o' (t.trans z) q' (a.own x o z q n), fun x o q => by
    obtain ⟨o', q', t⟩ := a.th x o q
    obtain ⟨o2, q2, t2⟩ := b.th x o' q'
    exact ⟨o2, q2, t2.trans t⟩⟩
theorem Nx.step0 (a : Nx P F H F1 H1) (b : Nx0 F1 H1 F2 H2) : Nx P F H F2 H2 := a.step b fun _ z => z.elim
/-- the frozen heap grows by a list of ours at p -/
theorem Nx.stepF {p : Addr} (a : Nx P F H F1 H1) (hf : Same F1 F2) (h2 : Same F2 H1) (hn : ∀ q, q ≠ p → F2 q = F1 q) (hp : H p = none) : Nx P F H F2 H1 :=
  ⟨a.ff.trans hf, a.hh, h2, fun x o z q n => by
    have : x ≠ p := fun z => by rw [z, hp] at q; cases q
    rw [hn x this]
    exact a.own x o z q n, a.th⟩
theorem none_of_new {p : Addr} (a : Nx P F H F1 H1) (nw : ∀ q, (∃ u, H1 q = some u) → q ≠ p) : H p = none := by
  cases q : H p with
  | none => rfl
  | some u =>
    obtain ⟨o, h, _⟩ := a.th p u q
    exact absurd rfl (nw p ⟨o, h⟩)
theorem gn {i : Nat} {v : V} (h : tb D (σ.set i (some v)) H) : gName i v σ H (fun σ2 H2 => tb D σ2 H2) := h
theorem gp {α β : Type} [Rp α] [Rp β] {i j : Nat} {v : V} {a : α × β} {G : Hp} (r : Rp.rep K G v a) (hG : Same G H) (h : ∀ x y, Rp.rep K G x a.1 → Rp.rep K G y a.2 → tb D ((σ.set i (some x)).set j (some y)) H) :
    gTup K 2 (gCons (gName i) (gCons (gName j) gNil)) v σ H (fun σ2 H2 => tb D σ2 H2) := by
  obtain ⟨p, x, y, rfl, hp, r1, r2⟩ := r
  exact ⟨p, _, rfl, SqT.of (hG p _ hp), rfl, x, _, rfl, y, _, rfl, rfl, h x y r1 r2⟩
/-- the pair's, for a comprehension's target -/
theorem gpc {α β : Type} [Rp α] [Rp β] {i j : Nat} {v : V} {a : α × β} {G : Hp} {τ : L2.St} (r : Rp.rep K G v a) (hG : Same G H) : ∃ x y, Rp.rep K G x a.1 ∧ Rp.rep K G y a.2 ∧ ∀ Q : L2.St → Hp → Prop, Q ((τ.set i (some x)).set j (some y)) H → gTup K 2 (gCons (gName i) (gCons (gName j) gNil)) v τ H Q := by
  obtain ⟨p, x, y, rfl, hp, r1, r2⟩ := r
  exact ⟨x, y, r1, r2, fun Q q => ⟨p, _, rfl, SqT.of (hG p _ hp), rfl, x, _, rfl, y, _, rfl, rfl, q⟩⟩
end
/-! ### the head: facts by names and one more look -/
def obsG (fa : List He.Fa) (fn : List He.DefD) (bx : PySem.W.Frag → Bool) (K : PySem.W.Frag) : He.AlD := (((fa.all fun f => f.ok K) && fn.all fun d => d.ok K) && bx K, fn.map fun d => He.fnW K d.at_)
def SaysG (fa : List He.Fa) (fn : List He.DefD) (bx : PySem.W.Frag → Bool) (K : PySem.W.Frag) : Prop := obsG fa fn bx K = He.valD fn
def obsGG (n : Nat) (fa : List He.Fa) (fn : List He.DefD) (bx : PySem.W.Frag → Bool) (g : Addr → Option Obj) : He.AlD := obsG fa fn bx (He.frG g (He.asD g n))
def hookG (n : Nat) (fa : List He.Fa) (fn : List He.DefD) (bx : PySem.W.Frag → Bool) : PySem.W.Hook where
  α := He.AlD
  obs := fun s => obsGG n fa fn bx s.heap.get?
  val := fun _ => He.valD fn
  says := fun _ h => ∃ K : PySem.W.Frag, K.In h ∧ SaysG fa fn bx K
  of := fun _ _ e => ⟨_, He.frG_in, e⟩
  keeps := fun _ _ _ ⟨K, hK, c⟩ k => ⟨K, PySem.W.Frag.In.keeps hK k, c⟩
theorem obsGG_eq {n : Nat} {fa : List He.Fa} {fn : List He.DefD} {bx : PySem.W.Frag → Bool} {g : Addr → Option Obj} {s : Shared} (h : ∀ a, g a = s.heap.get? a) : obsGG n fa fn bx g = (hookG n fa fn bx).obs s := by
  have e : g = s.heap.get? := funext h
  rw [e] <;> rfl
section
variable {fa : List He.Fa} {fn : List He.DefD} {bx : PySem.W.Frag → Bool} {K : PySem.W.Frag}
theorem SaysG.d (c : SaysG fa fn bx K) : He.SaysD fa fn K := by
  have h1 : (((fa.all fun f => f.ok K) && fn.all fun d => d.ok K) && bx K) = true := congrArg (fun z : He.AlD => z.1) c
  have h2 : fn.map (fun d => He.fnW K d.at_) = fn.map He.DefD.val := congrArg (fun z : He.AlD => z.2) c
  have h3 := (He.ba h1).1
  show (((fa.all fun f => f.ok K) && fn.all fun d => d.ok K), fn.map fun d => He.fnW K d.at_) = (true, fn.map He.DefD.val)
  rw [h3, h2]
theorem SaysG.b (c : SaysG fa fn bx K) : bx K = true := by
  have h1 : (((fa.all fun f => f.ok K) && fn.all fun d => d.ok K) && bx K) = true := congrArg (fun z : He.AlD => z.1) c
  exact (He.ba h1).2
theorem exc_ok {x : Str} (c : (He.Fa.exc x).ok K = true) : PySem.W.excIn K (He.ga K x) He.veBase "ValueError.__new__" = true ∧ PySem.W.keepIn K (.ref (He.ga K x)) = true ∧ PySem.W.subIn K (.ref (He.ga K x)) (.type "BaseException") = some true ∧ PySem.W.typeIn K (.ref (He.ga K x)) = some (.type "type") := by
  have c2 : (PySem.W.excIn K (He.ga K x) He.veBase "ValueError.__new__" && (PySem.W.keepIn K (.ref (He.ga K x)) && (decide (PySem.W.subIn K (.ref (He.ga K x)) (.type "BaseException") = some true) && decide (PySem.W.typeIn K (.ref (He.ga K x)) = some (.type "type"))))) = true := c
  obtain ⟨h1, h2⟩ := He.ba c2
  obtain ⟨h3, h4⟩ := He.ba h2
  obtain ⟨h5, h6⟩ := He.ba h4
  exact ⟨h1, h3, of_decide_eq_true h5, of_decide_eq_true h6⟩
theorem kn_ok {c : Cn} (h : (He.Fa.glo c.nm).ok K = true) : knB K c = true := h
theorem exm_ok {x y : Str} {b : Bool} (c : (He.Fa.exm x y b).ok K = true) : PySem.W.exmOne K (.ref (He.ga K x)) (.ref (He.ga K y)) = some b := of_decide_eq_true c
theorem meth_ok {x m : Str} (c : (He.Fa.meth x m).ok K = true) : PySem.W.findIn K (.ref (He.ga K x)) m = some (some (.ref (He.ma K (He.ga K x) m))) ∧ PySem.W.isFn K (.ref (He.ma K (He.ga K x) m)) = true ∧ PySem.W.keepIn K (.ref (He.ma K (He.ga K x) m)) = true := by
  have c2 : (He.eqO (PySem.W.findIn K (.ref (He.ga K x)) m) (some (some (.ref (He.ma K (He.ga K x) m)))) && (PySem.W.isFn K (.ref (He.ma K (He.ga K x) m)) && PySem.W.keepIn K (.ref (He.ma K (He.ga K x) m)))) = true := c
  obtain ⟨h1, h2⟩ := He.ba c2
  obtain ⟨h3, h4⟩ := He.ba h2
  exact ⟨He.eqO_ok h1, h3, h4⟩
end
theorem walk_ofW {l : PySem.W.OpenLaw} {n k : Nat} {q : Program} {loose : List Str} {XP : (Str → Option Value) → Heap → Prop} {YP : World → Heap → Prop} {d : DefRec} {CX : World → CXT} {x : Str}
    (hn : l.most = some n) (hn2 : n ≤ sizeLine) (hdf : d.params.defaults = []) (hr : Room k callerA)
    (F : ∀ (w : World) (mg : Str → Option Value) (fa : Addr) (h : Heap), YP w h → h.Ns mainGlobals mg → mg d.name = some (.ref fa) →
      ∃ (K : PySem.W.Frag) (fd : FuncData) (sp : Sp), K.In h ∧ (∀ (s : Shared) (u : Value), BindsTo s fd ⟨[u], []⟩ [(x, u)]) ∧
        (∀ (H : Hp) (a : Addr) (ns : List Int), ns.length ≤ n → (∀ k ∈ ns, Builtin.Int.intBits k ≤ 1048576) → SqL K H a (ns.map V.int) → sp [.ref a] H (fun v _ => v = .bl true) fun _ _ _ => False) ∧
        ∀ base : Heap, K.In base → base.Ns mainGlobals mg → FnOk l.prog w K mg base (CX w) k fa fd [x] sp)
    (hCX : ∀ (w : World) (H : Hp) (s : Shared) (e : Value) (s' : Shared), CX w [] H s (fun _ _ _ => False) e s' → False) :
    PySem.W.WalkO q loose XP YP l.row.toRowW d [] (fun f vs => PySem.call f vs) := by
  refine Att.attach_callB hn hdf fun w s₀ s₁ mg mb fa o pm cd doc a vs ns G Y ho hd hcd hmg hobj hints hlen hbits hg => ?_
  obtain ⟨K, fd, sp, KX, hb, hsp, hF⟩ := F w mg fa _ Y G.T.g hmg
  exact law_call KX G.T.g G.T.b G.T.builtins G.T.nolimit hg hobj hints (Nat.le_trans hlen hn2) hr hF hb (fun H _ hS => hsp H a ns hlen hbits hS) fun H e s' => hCX w H s₁ e s'
section
variable {X : Cx} {K : PySem.W.Frag}
theorem ix_listK (h : X.K = K) : IxR X (rIxL K) := by subst h; exact ix_list
theorem ix_tupK (h : X.K = K) : IxR X (rIxT K) := by subst h; exact ix_tup
theorem sl_listK (h : X.K = K) : SlR X (rSlL K) := by subst h; exact sl_list
theorem op_in_seqK (h : X.K = K) : OpR X (compareOp .In) (rIn K false) := by subst h; exact op_in_seq
theorem op_notIn_seqK (h : X.K = K) : OpR X (compareOp .NotIn) (rIn K true) := by subst h; exact op_notIn_seq
theorem call_len_seqK (h : X.K = K) : CallR X (.builtin "len") (rLen K) := by subst h; exact call_len_seq
theorem call_list_ofK (h : X.K = K) : CallR X (.type "list") (rListOf K) := by subst h; exact call_list_of
theorem call_tuple_ofK (h : X.K = K) : CallR X (.type "tuple") (rTupOf K) := by subst h; exact call_tuple_of
theorem cr_sumK' (h : X.K = K) (hc : X.calm = true) : CallR X (.builtin "sum") (rSum K) := by subst h; exact cr_sum hc
theorem cr_minK' (h : X.K = K) (hc : X.calm = true) : CallR X (.builtin "min") (rMin K) := by subst h; exact cr_min hc
theorem cr_maxK' (h : X.K = K) (hc : X.calm = true) : CallR X (.builtin "max") (rMax K) := by subst h; exact cr_max hc
theorem cr_allK' (h : X.K = K) (hc : X.calm = true) : CallR X (.builtin "all") (rAll K) := by subst h; exact cr_all hc
theorem cr_anyK' (h : X.K = K) (hc : X.calm = true) : CallR X (.builtin "any") (rAny K) := by subst h; exact cr_any hc
theorem call_isiK (h : X.K = K) : CallR X (.builtin "isinstance") (rIsi K) := by subst h; exact call_isi
theorem op_eqPK (h : X.K = K) (hu : X.A.units + 64 < cLine) : OpR X (compareOp .Eq) (rEqP K) := by subst h; exact op_eqP hu
theorem op_nePK (h : X.K = K) (hu : X.A.units + 64 < cLine) : OpR X (compareOp .NotEq) (rNeP K) := by subst h; exact op_neP hu
theorem op_inPK (h : X.K = K) (hu : X.A.units + 64 < cLine) : OpR X (compareOp .In) (rInP K false) := by subst h; exact op_inP hu
theorem op_notInPK (h : X.K = K) (hu : X.A.units + 64 < cLine) : OpR X (compareOp .NotIn) (rInP K true) := by subst h; exact op_notInP hu
end
theorem raise_of {K : PySem.W.Frag} {E : XK} {H0 H : Hp} {α : Type} {k : α → Prop} {c : Cn} (hQ : Wp (.er (.own c)) k (EE K E H0)) (e0 : Same H0 H) : E (.ref (He.ga K c.nm)) none H := hQ H e0
end G
namespace G
open PySem PySem.Spec PyProof.Rows L2
theorem st_seq {t1 t2 : TS} {D : Ends} {σ : L2.St} {H : Hp} (h : t1 { D with nx := t2 D } σ H) : tSeq t1 t2 D σ H := h
theorem st_n {t : TS} {D : Ends} {σ : L2.St} {H : Hp} (h : t D σ H) : ({ D with nx := t D } : Ends).nx σ H := h
theorem st_next {D : Ends} {σ : L2.St} {H : Hp} (h : D.nx σ H) : tNext D σ H := h
theorem if_t {α : Type} {X Y : R α} {k : α → Prop} {e : Er → Prop} (h : Wp (if true = true then X else Y) k e) : Wp X k e := h
theorem if_f {α : Type} {X Y : R α} {k : α → Prop} {e : Er → Prop} (h : Wp (if false = true then X else Y) k e) : Wp Y k e := h
/-- no loop of the program turns as often -/
theorem fuel_ex : Nonempty {n : Nat // n = 10000000} := ⟨⟨_, rfl⟩⟩
noncomputable def fuel : Nat := (Classical.choice fuel_ex).1
theorem fuel_eq : fuel = 10000000 := (Classical.choice fuel_ex).2
section
variable {K : PySem.W.Frag} {E : XK} {σ : L2.St} {H0 F H : Hp} {D : Ends} {tu tz : TS} {t : TT} {α β S ρ : Type} [Rp α] {ta tb' tc : TE}
theorem s_cutW {m : R S} {kq : S → Prop} {ee : Er → Prop} (I : S → L2.St → Hp → Prop) (hQ : Wp m kq ee) (h1 : Wp m kq ee → tu { D with nx := fun σ' H' => ∃ s, I s σ' H' ∧ kq s } σ H) (h2 : ∀ s σ' H', I s σ' H' → kq s → tz D σ' H') : Evl.tCut tu tz D σ H :=
  ⟨_, h1 hQ, fun σ' H' ⟨s, a, b⟩ => h2 s σ' H' a b⟩
theorem for_Rd {J : It} {G : Hp} {xs : List α} {g : TG} {body : α → S → R (Fl S ρ)} {s0 : S} {kk : Fl S ρ → Prop} {ee : Er → Prop} (ok : ItOk J K G xs) (I : S → L2.St → Hp → Prop) (hk : ∀ s σ' H', I s σ' H' → Same G H') (h0 : I s0 σ H)
    (hQ : Wp (forR body xs s0) kk ee) (done : ∀ s σ' H', I s σ' H' → kk (.go s) → D.nx σ' H')
    (turn : ∀ x l s v σ' H' H'', I s σ' H' → Same H' H'' → Rp.rep K (mix G H' H'') v x → (∀ s σ' H', I s σ' H' → kk (.go s) → D.nx σ' H') → Wp (body x s) (kF (β := Unit) kk fun s' => Wp (forR body l s') kk ee) ee →
      g v σ' H'' fun σ2 H2 => tu { D with nx := fun σ3 H3 => ∃ s', I s' σ3 H3 ∧ Wp (forR body l s') kk ee, ct := fun σ3 H3 => ∃ s', I s' σ3 H3 ∧ Wp (forR body l s') kk ee, bk := D.nx } σ2 H2) : ∃ W : Nat → Nat → L2.St → Hp → Prop, (∃ m, W 0 m σ H) ∧ ∀ i m σ H, W i m σ H →
      (J.stop i H ∧ D.nx σ H) ∨ (J.go i H ∧ ∃ N : L2.St → Hp → Prop, (∀ σ' H', N σ' H' → ∃ m', m' < m ∧ W (i + 1) m' σ' H') ∧ ∀ x H', J.yld i H x H' → g x σ H' fun σ2 H2 => tu { D with nx := N, ct := N, bk := D.nx } σ2 H2) :=
  for_R ok I hk h0 hQ (fun x l s v σ' H' H'' a b c d => turn x l s v σ' H' H'' a b c done d) done
theorem while_Rd {c : S → R Bool} {body : S → R (Fl S ρ)} {n : Nat} {s0 : S} {kk : Fl S ρ → Prop} (I : S → L2.St → Hp → Prop) (h0 : I s0 σ H) (hQ : Wp (whileR c body n s0) kk (EE K E H0))
    (hc : ∀ s σ' H', I s σ' H' → Same H0 H' ∧ GrT K E t σ' H' (c s))
    (hd : ∀ s σ' H' H1, I s σ' H' → Same H' H1 → kk (.go s) → D.nx σ' H1)
    (hb : ∀ n s σ' H' H1, I s σ' H' → Same H' H1 → (∀ s σ' H' H1, I s σ' H' → Same H' H1 → kk (.go s) → D.nx σ' H1) → Wp (body s) (kF (β := Unit) kk fun s' => Wp (whileR c body n s') kk (EE K E H0)) (EE K E H0) →
      tu { D with nx := fun σ3 H3 => ∃ s', I s' σ3 H3 ∧ Wp (whileR c body n s') kk (EE K E H0), ct := fun σ3 H3 => ∃ s', I s' σ3 H3 ∧ Wp (whileR c body n s') kk (EE K E H0), bk := D.nx } σ' H1) : tWhile t tu D σ H :=
  while_R I h0 hQ hc (fun n s σ' H' H1 a b d => hb n s σ' H' H1 a b hd d) hd
theorem s_tryW {cs : List Cn} {cv : Value} {i : Nat} {ts : TS} {tb : WX → TS} {m : R S} {hand : Er → R S} {kq : S → Prop} (hF : Same F H) (e0 : Same H0 H) (hQ : Wp (catchR cs m hand) kq (EE K E H0))
    (hx : ∀ c ∈ cs, PySem.W.exmOne K (.ref (He.ga K c.nm)) cv = some true) (hcf : ∀ c ∈ cs, Cf K c)
    (hh : ∀ er a F' H', Nx0 F H F' H' → Same H0 H' → Rp.rep K F' (.ref a) (er : Er) → Wp (hand er) kq (EE K E H0) →
      ts { nx := fun σ' H' => D.nx (σ'.set i none) H', rt := D.rt, bk := fun σ' H' => D.bk (σ'.set i none) H', ct := fun σ' H' => D.ct (σ'.set i none) H' } (σ.set i (some (.ref a))) H')
    (hb : Wp m kq (EE K (WE (wHold K cv i ts D) σ) H) → tb (wHold K cv i ts D) D σ H) : tTry K cv i tb ts D σ H := by
  show tb (wHold K cv i ts D) D σ H
  refine hb ?_
  cases m with
  | ok s => exact hQ
  | bad => exact hQ.elim
  | er er =>
    have hQ2 : Wp (if er.cn ∈ cs then hand er else .bad) kq (EE K E H0) := hQ
    split at hQ2
    · rename_i hc
      cases er with
      | own c =>
        intro H' s
        refine ⟨_, rfl, hx _ hc, fun a ha => ?_⟩
        have hn : H a = none := Same.free s ha
        exact hh (.own c) a _ _ (Nx.mk' hF (s.trans (same_upd ha))) (e0.trans (s.trans (same_upd ha))) ⟨a, rfl, hcf _ hc, by show mix F H _ a = _; rw [mix_new hn]; exact upd_same⟩ hQ2
      | plan n =>
        intro d H' s hd ⟨m, hm⟩
        refine ⟨_, rfl, hx _ hc, fun a ha => ?_⟩
        have hn : H a = none := Same.free s ha
        exact hh (.plan n) a _ _ (Nx.mk' hF (s.trans (same_upd ha))) (e0.trans (s.trans (same_upd ha))) ⟨a, rfl, hcf _ hc, d, m, by show mix F H _ a = _; rw [mix_new hn]; exact upd_same, by rw [mix_new hd]; exact same_upd ha _ _ hm⟩ hQ2
    · exact hQ2.elim
/-- a < b <= c -/
theorem g_chain {f g : Int → Int → Bool} {a b c : Int} (ha : Gr K E ta σ F H (.ok a)) (hb : Gr K E tb' σ F H (.ok b)) (hc : Gr K E tc σ F H (.ok c)) :
    Gr K E (tChain (rI0 fun i j => .bl (f i j)) (rI0 fun i j => .bl (g i j)) ta tb' tc) σ F H (.ok (f a b && g b c)) := fun H1 e Q hq =>
  ha H1 e _ fun v H2 e2 r2 => hb H2 (e.trans e2) _ fun w H3 e3 r3 => ⟨a, b, r2, r3, f a b, rfl, by
    have hq' : ∀ v H2, Same H1 H2 → Rp.rep K (mix F H H2) v (f a b && g b c) → Q v H2 := hq
    cases h : f a b with
    | true =>
      rw [h] at hq'
      exact hc H3 (e.trans (e2.trans e3)) _ fun z H4 e4 r4 => ⟨b, c, r3, r4, hq' _ H4 (e2.trans (e3.trans e4)) rfl⟩
    | false =>
      rw [h] at hq'
      exact hq' _ H3 (e2.trans e3) rfl⟩
end
end G
namespace G
open PySem PySem.Spec PyProof.Rows L2
section
variable {K : PySem.W.Frag} {E : XK} {σ : L2.St} {H0 F H : Hp} {D : Ends} {te : TE} {α β γ : Type} [Rp α] [Rp β] [Rp γ]
/-- a pair that is new, its first part a list that becomes ours -/
theorem s_asgP0 [Sc α] [Sc β] {i : Nat} {m : R (List α × β)} {k : List α × β → R γ} {kk : γ → Prop} (he : Gr K E te σ nil0 H m) (hF : Same F H) (e0 : Same H0 H) (hQ : Wp (R.bd m k) kk (EE K E H0))
    (c : ∀ a b q p F' H', Nx0 F H F' H' → Same H0 H' → Own K H0 false F' H' p a → (∀ z, (∃ u, H z = some u) → z ≠ p) → F' q = some (.tup [.ref p, Sc.enc b]) → Wp (k (a, b)) kk (EE K E H0) → D.nx (σ.set i (some (.ref q))) H') : tAsg te (gName i) D σ H := by
  refine he H (Same.refl _) _ ?_
  rw [wp_bd] at hQ
  refine wp_mono hQ (fun a _ z v H2 e2 r => ?_) fun c _ z => z.mono e0
  obtain ⟨q, x, y, rfl, hq, ⟨p, vs, rfl, hp, hv⟩, r2⟩ := r
  have h2 := Sc.is.mp r2
  subst h2
  have pn : H p = none ∧ H2 p = some (.lst vs) := by
    rcases mix_cases hp with z | ⟨_, z⟩ | ⟨_, _, _, z⟩
    · exact z
    · cases z
    · cases z
  obtain ⟨hpn, hp2⟩ := pn
  have hq2 := mix_same nil_same e2 _ _ hq
  have qp : q ≠ p := fun z => by rw [z, hp2] at hq2; cases hq2
  refine c a.1 a.2 q p (delH (mix F H H2) p) H2 ⟨fun x o h => ?_, fun x o _ h => e2 x o h, fun x o h => ?_, fun x o t h n => ?_, fun x o h => ⟨o, e2 x o h, rfl⟩⟩ (e0.trans e2) (Own.of (Same.free e0 hpn) delH_same hp2 (hv.mono fun _ _ x => Sc.is.mpr (Sc.is.mp x))) (fun z ⟨u, hu⟩ e => by rw [e, hpn] at hu; cases hu) (by rw [delH_ne qp]; exact mix_ff nil_same _ _ hq) z
  · have : x ≠ p := fun z => by
      rw [z] at h
      have := hF p o h
      rw [hpn] at this
      cases this
    rw [delH_ne this]
    exact same_mix hF x o h
  · unfold delH at h
    split at h
    · cases h
    · exact mix_same hF e2 x o h
  · unfold delH
    split
    · rfl
    · rw [mix_old h t]
      exact n
theorem at_fst {i : Nat} {p q : Addr} {y : V} (h : σ[i]? = some (some (.ref q))) (ht : H q = some (.tup [.ref p, y])) : At (tOp (rIxT K) (tVar i) (tC (.int 0))) σ H p := fun H1 e Q z => ⟨_, h, q, _, 0, _, rfl, rfl, SqT.of (e _ _ ht), rfl, z⟩
theorem own_pair [Sc β] {q p : Addr} {a : List α} {b : β} {fl : Bool} (ht : F q = some (.tup [.ref p, Sc.enc b])) (o : Own K H0 fl F H p a) (hF : Same F H) : Rp.rep K H (.ref q) (a, b) :=
  ⟨q, _, _, rfl, hF _ _ ht, o.rep hF, Sc.is.mpr rfl⟩
end
end G

set_option Elab.async false
set_option linter.all false
set_option maxRecDepth 100000
set_option maxHeartbeats 4000000
/-! G: more forms. -/
namespace G
open PySem PySem.Spec PyProof.Rows L2
section
variable {X : Cx} {K : PySem.W.Frag} {E : XK} {σ : L2.St} {H0 F H : Hp} {ta tb : TE}
theorem cr_range1 : CallR X (.type "range") (fun vs H Q => ∃ j, vs = [V.int j] ∧ ∀ p, H p = none → Q (.ref p) (upd H p (.rng 0 j))) := by
  intro pins s σ H vs us Q I r h
  obtain ⟨j, rfl, q⟩ := h
  obtain ⟨u, rfl, rj⟩ := vals1 r
  obtain ⟨t, rfl⟩ := rj
  refine call_range_1 ⟨.ref s.heap.objs.size, upd H s.heap.objs.size (.rng 0 j), I.laid (t' := _) (fun b o e => Heap.get?_push_of_some _ e) (Nat.le_refl _) ?_, rfl, q _ (I.hok.fresh (Nat.le_refl _))⟩
  exact ⟨_, _, _, Heap.get?_push_size _ rfl⟩
abbrev rRg1 : List V → Hp → VK → Prop := fun vs H Q => ∃ j, vs = [V.int j] ∧ ∀ p, H p = none → Q (.ref p) (upd H p (.rng 0 j))
abbrev rInRg : R2 := fun x y H Q => ∃ i a lo hi, x = V.int i ∧ y = V.ref a ∧ H a = some (.rng lo hi) ∧ Q (.bl (decide (lo ≤ i ∧ i < hi))) H
abbrev rNotInRg : R2 := fun x y H Q => ∃ i a lo hi, x = V.int i ∧ y = V.ref a ∧ H a = some (.rng lo hi) ∧ Q (.bl (!decide (lo ≤ i ∧ i < hi))) H
theorem op_notIn_rng : OpR X (compareOp .NotIn) rNotInRg := by
  intro pins s σ H x y v u Q I rx ry h
  obtain ⟨i, a, lo, hi, rfl, rfl, ha, q⟩ := h
  obtain ⟨k, rfl⟩ := rx
  obtain rfl : u = Value.ref a := ry
  obtain ⟨t1, t2, t3, ho⟩ := I.hok a _ ha
  show wpAny _ _ (do return Value.bool (!(← contains (Value.ref a) (Value.int i k)))) _ _ s
  refine wpAny_bind (wpAny_contains_slot (T := "range") ⟨_, ho, rfl⟩ F.slot_range_contains (call_meets F.slot_range_contains ⟨_, ho, rfl⟩ F.entry_range_contains (F.args_range_contains_2 _ _) (q_contains a lo hi i t1 t2 t3 k)
    ⟨ho, wpAny_truthy_bool (wpAny_pure ⟨.bl _, H, I, rfl, ?_⟩)⟩))
  rw [place1]
  exact q
/-- x in range(n) -/
theorem g_inRg {ma mb : R Int} (ha : Gr K E ta σ H H ma) (hb : Gr K E tb σ H H mb) : Gr K E (tOp rInRg ta (tCB rRg1 (tCons tb tNil))) σ F H (R.bd ma fun i => R.bd mb fun j => .ok (decide (0 ≤ i ∧ i < j))) := fun H1 e Q hq =>
  gr_seq (g_sc (F' := H) ha) e hq fun i v H2 e2 r hq2 => gr_seq (g_sc (F' := H) hb) (e.trans e2) hq2 fun j w H3 e3 r3 hq3 => by
    have r' : v = .int i := r
    have r3' : w = .int j := r3
    subst r'; subst r3'
    exact ⟨j, rfl, fun p hp => ⟨i, p, 0, j, rfl, rfl, upd_same, hq3 _ _ (same_upd hp) rfl⟩⟩
theorem g_notInRg {ma mb : R Int} (ha : Gr K E ta σ H H ma) (hb : Gr K E tb σ H H mb) : Gr K E (tOp rNotInRg ta (tCB rRg1 (tCons tb tNil))) σ F H (R.bd ma fun i => R.bd mb fun j => .ok (!decide (0 ≤ i ∧ i < j))) := fun H1 e Q hq =>
  gr_seq (g_sc (F' := H) ha) e hq fun i v H2 e2 r hq2 => gr_seq (g_sc (F' := H) hb) (e.trans e2) hq2 fun j w H3 e3 r3 hq3 => by
    have r' : v = .int i := r
    have r3' : w = .int j := r3
    subst r'; subst r3'
    exact ⟨j, rfl, fun p hp => ⟨i, p, 0, j, rfl, rfl, upd_same, hq3 _ _ (same_upd hp) rfl⟩⟩
/-! ### functions that may tell what they were handed -/
variable {α β γ δ ρ : Type} [Rp α] [Rp β] [Rp γ] [Rp δ] [Rp ρ] {D : Ends} {te tc td : TE} {Gz : Hp} {Ex : L2.St → XK}
abbrev KS (K : PySem.W.Frag) (Gz H : Hp) (Q : VK) : ρ → Prop := fun r => ∀ v' H', Same H H' → Rp.rep K (mix Gz H H') v' r → Q v' H'
theorem mix_back {F1 H1 H2 : Hp} (hF : Same F1 H1) (e0 : Same H0 H1) (e2 : Same H1 H2) (n : Nx (fun _ => False) Gz H0 F1 H1) : Same (mix F1 H1 H2) (mix Gz H0 H2) := fun b o h => by
  rcases mix_cases h with ⟨z, h⟩ | ⟨z, t⟩ | ⟨u, z, t, h⟩
  · rw [mix_new (Same.free e0 z)]
    exact h
  · cases z0 : H0 b with
    | none => rw [mix_new z0]; exact e2 b o z
    | some u0 =>
      have := e0 b u0 z0
      rw [z] at this
      cases this
      exact mix_tup z0 t
  · cases z0 : H0 b with
    | none => rw [mix_new z0]; exact e2 b o (hF b o h)
    | some u0 =>
      have := e0 b u0 z0
      rw [z] at this
      cases this
      rw [mix_old z0 t]
      cases g : Gz b with
      | none =>
        have := n.own b u t z0 g
        rw [this] at h
        cases h
      | some o1 =>
        have := n.ff b o1 g
        rw [this] at h
        exact h
theorem s_retS {m : R α} {k : α → R β} {kk : β → Prop} (he : Gr K E te σ F H m) (hF : Same F H) (e0 : Same H0 H) (n : Nx (fun _ => False) Gz H0 F H) (hQ : Wp (R.bd m k) kk (EE K E H0)) (hk : ∀ a, Wp (k a) kk (EE K E H0) → KS K Gz H0 D.rt a) : tRet te D σ H := by
  refine he H (Same.refl _) _ ?_
  rw [wp_bd] at hQ
  exact wp_mono hQ (fun a _ q v H2 e2 r => hk a q v H2 (e0.trans e2) (Rp.mono (mix_back hF e0 e2 n) r)) fun c _ z => z.mono e0
theorem mix_mix {F H H2 H3 : Hp} (e : Same H H2) (e3 : Same H2 H3) : Same (mix (mix F H H2) H2 H3) (mix F H H3) := fun b o h => by
  rcases mix_cases h with ⟨z, h⟩ | ⟨z, t⟩ | ⟨u, z, t, h⟩
  · rw [mix_new (Same.free e z)]
    exact h
  · cases z0 : H b with
    | none => rw [mix_new z0]; exact e3 b o z
    | some u0 =>
      have := e b u0 z0
      rw [z] at this
      cases this
      exact mix_tup z0 t
  · exact mix_mono e3 b o h
def spS1 (K : PySem.W.Frag) (f : α → R ρ) : Sp := fun vs H Q E => ∃ v a Gz, vs = [v] ∧ Same Gz H ∧ Rp.rep K Gz v a ∧ Wp (f a) (KS K Gz H Q) (EE K E H)
def spS2 (K : PySem.W.Frag) (f : α → β → R ρ) : Sp := fun vs H Q E => ∃ v w a b Gz, vs = [v, w] ∧ Same Gz H ∧ Rp.rep K Gz v a ∧ Rp.rep K Gz w b ∧ Wp (f a b) (KS K Gz H Q) (EE K E H)
def spS3 (K : PySem.W.Frag) (f : α → β → γ → R ρ) : Sp := fun vs H Q E => ∃ v w x a b c Gz, vs = [v, w, x] ∧ Same Gz H ∧ Rp.rep K Gz v a ∧ Rp.rep K Gz w b ∧ Rp.rep K Gz x c ∧ Wp (f a b c) (KS K Gz H Q) (EE K E H)
theorem g_callS1 {f : α → R ρ} {ma : R α} (ha : Gr K E ta σ F H ma) (hF : Same F H) (hE : Ex σ = E := by rfl) : Gr K E (tCallS (spS1 K f) Ex (tCons ta tNil)) σ F H (R.bd ma f) := by
  subst hE
  exact fun H1 e Q hq =>
  gr_seq ha e hq fun a v H2 e2 r hq2 => ⟨v, a, mix F H H2, rfl, mix_same hF (e.trans e2), r, wp_mono hq2 (fun b _ k v' H3 e3 r3 => k v' H3 e3 (Rp.mono (mix_mix (e.trans e2) e3) r3)) fun c _ z => z⟩
theorem g_callS2 {f : α → β → R ρ} {ma : R α} {mb : R β} (ha : Gr K E ta σ F H ma) (hb : Gr K E tb σ F H mb) (hF : Same F H) (hE : Ex σ = E := by rfl) : Gr K E (tCallS (spS2 K f) Ex (tCons ta (tCons tb tNil))) σ F H (R.bd ma fun a => R.bd mb fun b => f a b) := by
  subst hE
  exact fun H1 e Q hq =>
  gr_seq ha e hq fun a v H2 e2 r hq2 => gr_seq hb (e.trans e2) hq2 fun b w H3 e3 r3 hq3 => ⟨v, w, a, b, mix F H H3, rfl, mix_same hF (e.trans (e2.trans e3)), Rp.mono (mix_mono e3) r, r3, wp_mono hq3 (fun b _ k v' H4 e4 r4 => k v' H4 e4 (Rp.mono (mix_mix (e.trans (e2.trans e3)) e4) r4)) fun c _ z => z⟩
theorem g_callS3 {f : α → β → γ → R ρ} {ma : R α} {mb : R β} {mc : R γ} (ha : Gr K E ta σ F H ma) (hb : Gr K E tb σ F H mb) (hc : Gr K E tc σ F H mc) (hF : Same F H) (hE : Ex σ = E := by rfl) :
    Gr K E (tCallS (spS3 K f) Ex (tCons ta (tCons tb (tCons tc tNil)))) σ F H (R.bd ma fun a => R.bd mb fun b => R.bd mc fun c => f a b c) := by
  subst hE
  exact fun H1 e Q hq =>
  gr_seq ha e hq fun a v H2 e2 r hq2 => gr_seq hb (e.trans e2) hq2 fun b w H3 e3 r3 hq3 => gr_seq hc (e.trans (e2.trans e3)) hq3 fun c x H4 e4 r4 hq4 =>
    ⟨v, w, x, a, b, c, mix F H H4, rfl, mix_same hF (e.trans (e2.trans (e3.trans e4))), Rp.mono ((mix_mono e3).trans (mix_mono e4)) r, Rp.mono (mix_mono e4) r3, r4, wp_mono hq4 (fun b _ k v' H5 e5 r5 => k v' H5 e5 (Rp.mono (mix_mix (e.trans (e2.trans (e3.trans e4))) e5) r5)) fun c _ z => z⟩
/-! ### a list and the script -/
abbrev rCatL (K : PySem.W.Frag) : R2 := fun x y H Q => ∃ l b xs zs, x = .ref l ∧ y = .ref b ∧ SqL K H l xs ∧ SqL K H b zs ∧ xs.length + zs.length ≤ sizeLine ∧ ∀ p, H p = none → Q (.ref p) (upd H p (.lst (xs ++ zs)))
theorem op_catL : OpR X (binaryOp .Add) (rCatL X.K) := by
  intro pins s σ H x y v u Q I rx ry h
  obtain ⟨l, b, xs, zs, rfl, rfl, hH, hB, hz, q⟩ := h
  cases rx
  cases ry
  obtain ⟨its, r, ⟨⟨cls, dd, data, sl⟩, n, ho, hc, hdd, hd⟩, _⟩ := I.list hH
  obtain ⟨its2, r2, ⟨⟨cls2, dd2, data2, sl2⟩, n2, ho2, hc2, hdd2, hd2⟩, _⟩ := I.list hB
  simp only at hc hd hc2 hd2 hdd hdd2
  subst hc hd hc2 hd2 hdd hdd2
  have e : its.toArray ++ its2.toArray = (its ++ its2).toArray := by simp
  have hsz : its.toArray.size + its2.toArray.size ≤ sizeLine := by
    rw [List.size_toArray, List.size_toArray, ← r.length, ← r2.length]
    exact hz
  refine concat_meets ⟨_, ho, rfl⟩ ⟨_, ho2, rfl⟩ noFill_list_add seq_list_add PySem.F.slot_list_add PySem.F.entry_list_add (PySem.F.args_list_add_2 _ _) (list_addW l b its.toArray its2.toArray n n2 none none sl sl2 hsz) ⟨ho, ho2, ?_⟩
  rw [e]
  exact ⟨.ref _, _, I.lnew (t' := s.toks) (r.append r2) (by rw [List.length_append]; omega), rfl, q _ I.fresh⟩
theorem g_catScr {ma : R (List Int)} {mb : R Scr} (ha : Gr K E ta σ H H ma) (hb : Gr K E tb σ H H mb) : Gr K E (tOp (rCatL K) ta tb) σ F H (R.bd ma fun a => R.bd mb fun b => gd (a.length + b.l.length ≤ lim) (.ok (a ++ b.l))) := fun H1 e Q hq =>
  gr_arg ha e hq fun a v H2 e2 r hq2 => gr_arg hb (e.trans e2) hq2 fun b w H3 e3 r3 hq3 => by
    obtain ⟨p, vs, rfl, hp, hv⟩ := r
    obtain ⟨p2, rfl, hp2⟩ := r3
    have hv' := rep_ints hv
    subst hv'
    unfold gd at hq3
    split at hq3
    · rename_i c
      refine ⟨p, p2, _, _, rfl, rfl, SqL.of (e3 p _ hp), hp2, lim_line (by rw [List.length_map, List.length_map]; exact c), fun l hl => ?_⟩
      refine hq3 _ _ (same_upd hl) ⟨l, (a ++ b.l).map V.int, rfl, ?_, ints_rep _⟩
      rw [mix_new (Same.free (e.trans (e2.trans e3)) hl), List.map_append]
      exact upd_same
    · exact hq3.elim
/-! ### xs.count(y), xs.index(y) -/
theorem cnt_eqU {x : V} : ∀ {xs : List V} {us : List Value}, Vals xs us → xs.all flatV = true → us.countP (eqU x) = xs.countP fun y => eqV y x
  | _, _, .nil, _ => rfl
  | y :: xs, u :: us, .cons r t, f => by
    rw [List.all_cons, Bool.and_eq_true] at f
    rw [List.countP_cons, List.countP_cons, eqU_of r f.1, cnt_eqU t f.2]
def rCntV (K : PySem.W.Frag) : V → List V → Hp → VK → Prop := fun x xs H Q => ∃ p ys y, x = .ref p ∧ xs = [y] ∧ SqL K H p ys ∧ flatV y = true ∧ ys.all flatV = true ∧ Q (.int ((ys.countP fun z => eqV z y : Nat) : Int)) H
theorem mt_countV : MtR X "list.count" (rCntV X.K) := by
  intro pins s σ H x xs v us Q I rx rxs h
  obtain ⟨p, ys, y, rfl, rfl, hs, fy, fys, q⟩ := h
  cases rx
  obtain ⟨u, rfl, ru⟩ := rxs.one
  obtain ⟨its, rv, ⟨⟨cls, dd, data, sl⟩, n, ho, hc, hdn, hd⟩, hlen⟩ := I.list hs
  simp only at hc hd
  subst hc hd
  refine call_meets PySem.F.slot_list_count ⟨_, ho, rfl⟩ PySem.F.entry_list_count (PySem.F.args_list_count_2 _ _)
    (SeqAt.list_countAt p its.toArray n dd sl u (eqU y)) ⟨ho, fun w hw => mem_eqAt ru fy rv fys w (by simpa using hw), ?_⟩
  have ec : its.toArray.toList.countP (eqU y) = ys.countP fun z => eqV z y := by simpa using cnt_eqU rv fys
  refine ⟨.int ((ys.countP fun z => eqV z y : Nat) : Int), H, I.tok _, ⟨s.toks, ?_⟩, q⟩
  show Value.int ((its.toArray.toList.countP (eqU y) : Nat) : Int) s.toks = Value.int _ s.toks
  rw [ec]
theorem eqV_bl (a b : Bool) : eqV (Sc.enc a) (Sc.enc b) = decide (a = b) := by
  show eqV (V.bl a) (V.bl b) = decide (a = b)
  simp only [eqV]
  exact Bool.beq_eq_decide_eq a b
theorem g_count [Sc α] [DecidableEq α] {ma : R (List α)} {mb : R α} (ha : Gr K E ta σ H H ma) (hb : Gr K E tb σ H H mb) (hv : ∀ (a b : α), eqV (Sc.enc a) (Sc.enc b) = decide (a = b)) :
    Gr K E (tBM K "list" (rCntV K) ta (tCons tb tNil)) σ F H (R.bd ma fun xs => R.bd mb fun y => .ok ((xs.count y : Nat) : Int)) := fun H1 e Q hq =>
  gr_arg ha e hq fun xs v H2 e2 r hq2 => by
    obtain ⟨p, vs, rfl, hp, hw⟩ := r
    have h2 : vs = xs.map Sc.enc := hw.map Sc.enc fun _ _ => Sc.is
    subst h2
    refine ⟨.inl ⟨rfl, _, SqL.of hp⟩, ?_⟩
    refine gr_arg hb (e.trans e2) hq2 fun y w H3 e3 r3 hq3 => ?_
    have h3 := Sc.is.mp r3
    subst h3
    refine ⟨p, _, _, rfl, rfl, SqL.of (e3 p _ hp), Sc.flat y, ?_, ?_⟩
    · rw [List.all_map]
      exact List.all_eq_true.mpr fun x _ => Sc.flat x
    · have : ((xs.map Sc.enc).countP fun z => eqV z (Sc.enc y)) = xs.count y := by
        rw [List.countP_map]
        unfold List.count
        congr 1
        funext z
        show eqV (Sc.enc z) (Sc.enc y) = (z == y)
        rw [hv]
        rfl
      rw [this]
      exact hq3 _ H3 (Same.refl _) rfl
def indexR {α : Type} [DecidableEq α] (xs : List α) (y : α) : R Int := match xs.findIdx? (fun z => decide (z = y)) with
  | some j => .ok (j : Int)
  | none => .bad
theorem g_index [Sc α] [DecidableEq α] {ma : R (List α)} {mb : R α} (ha : Gr K E ta σ H H ma) (hb : Gr K E tb σ H H mb) (hv : ∀ (a b : α), eqV (Sc.enc a) (Sc.enc b) = decide (a = b)) :
    Gr K E (tBM K "list" (rIndex K) ta (tCons tb tNil)) σ F H (R.bd ma fun xs => R.bd mb fun y => indexR xs y) := fun H1 e Q hq =>
  gr_arg ha e hq fun xs v H2 e2 r hq2 => by
    obtain ⟨p, vs, rfl, hp, hw⟩ := r
    have h2 : vs = xs.map Sc.enc := hw.map Sc.enc fun _ _ => Sc.is
    subst h2
    refine ⟨.inl ⟨rfl, _, SqL.of hp⟩, ?_⟩
    refine gr_arg hb (e.trans e2) hq2 fun y w H3 e3 r3 hq3 => ?_
    have h3 := Sc.is.mp r3
    subst h3
    unfold indexR at hq3
    cases hj : xs.findIdx? (fun z => decide (z = y)) with
    | none => rw [hj] at hq3; exact hq3.elim
    | some j =>
      rw [hj] at hq3
      obtain ⟨hl, h1, h2⟩ := List.findIdx?_eq_some_iff_getElem.mp hj
      refine ⟨p, _, _, j, Sc.enc xs[j], rfl, rfl, SqL.of (e3 p _ hp), Sc.flat y, ?_, ?_, ?_, fun m z hm hz => ?_, hq3 _ H3 (Same.refl _) rfl⟩
      · rw [List.all_map]
        exact List.all_eq_true.mpr fun x _ => Sc.flat x
      · rw [List.getElem?_map, List.getElem?_eq_getElem hl]
        rfl
      · rw [hv]
        exact h1
      · rw [List.getElem?_map, List.getElem?_eq_getElem (by omega)] at hz
        cases hz
        rw [hv]
        have := h2 m hm
        simpa using this
theorem g_sumS {m : R Scr} (h : Gr K E ta σ F H m) (hF : Same F H) : Gr K E (tCB (rSum K) (tCons ta tNil)) σ F H (R.bd m fun xs => .ok xs.l.sum) := fun H1 e Q hq =>
  gr_seq h e hq fun xs v H2 e2 r hq2 => by
    obtain ⟨p, rfl, hp⟩ := r
    exact ⟨p, xs.l, rfl, (mix_same hF (e.trans e2)).seq hp, hq2 _ H2 (Same.refl _) rfl⟩
/-! ### a list unpacked to two or three names -/
def lst2 {α : Type} : List α → R (α × α)
  | [a, b] => .ok (a, b)
  | _ => .bad
def lst3 {α : Type} : List α → R (T3 α α α)
  | [a, b, c] => .ok ⟨a, b, c⟩
  | _ => .bad
theorem s_unpL2 [Sc α] {i j : Nat} {m : R (List α)} {k : α × α → R γ} {kk : γ → Prop} (he : Gr K E te σ F H m) (hF : Same F H) (e0 : Same H0 H) (hQ : Wp (R.bd (R.bd m lst2) k) kk (EE K E H0))
    (c : ∀ a b F' H', Nx0 F H F' H' → Same H0 H' → Wp (k (a, b)) kk (EE K E H0) → D.nx ((σ.set i (some (Sc.enc a))).set j (some (Sc.enc b))) H') : tAsg te (gLst K 2 (gCons (gName i) (gCons (gName j) gNil))) D σ H := by
  refine he H (Same.refl _) _ ?_
  rw [bd_assoc, wp_bd] at hQ
  refine wp_mono hQ (fun l _ q v H2 e2 r => ?_) fun c _ z => z.mono e0
  obtain ⟨p, vs, rfl, hp, hw⟩ := r
  have h2 : vs = l.map Sc.enc := hw.map Sc.enc fun _ _ => Sc.is
  subst h2
  match l, q, hp with
  | [a, b], q, hp => exact ⟨p, _, rfl, SqL.of (mix_same hF e2 p _ hp), rfl, _, _, rfl, _, _, rfl, rfl, c a b _ H2 (Nx.mk' hF e2) (e0.trans e2) q⟩
  | [], q, _ => exact q.elim
  | [_], q, _ => exact q.elim
  | _ :: _ :: _ :: _, q, _ => exact q.elim
theorem s_unpL3 [Sc α] {i j l : Nat} {m : R (List α)} {k : T3 α α α → R γ} {kk : γ → Prop} (he : Gr K E te σ F H m) (hF : Same F H) (e0 : Same H0 H) (hQ : Wp (R.bd (R.bd m lst3) k) kk (EE K E H0))
    (c : ∀ a b d F' H', Nx0 F H F' H' → Same H0 H' → Wp (k ⟨a, b, d⟩) kk (EE K E H0) → D.nx (((σ.set i (some (Sc.enc a))).set j (some (Sc.enc b))).set l (some (Sc.enc d))) H') : tAsg te (gLst K 3 (gCons (gName i) (gCons (gName j) (gCons (gName l) gNil)))) D σ H := by
  refine he H (Same.refl _) _ ?_
  rw [bd_assoc, wp_bd] at hQ
  refine wp_mono hQ (fun xs _ q v H2 e2 r => ?_) fun c _ z => z.mono e0
  obtain ⟨p, vs, rfl, hp, hw⟩ := r
  have h2 : vs = xs.map Sc.enc := hw.map Sc.enc fun _ _ => Sc.is
  subst h2
  match xs, q, hp with
  | [a, b, d], q, hp => exact ⟨p, _, rfl, SqL.of (mix_same hF e2 p _ hp), rfl, _, _, rfl, _, _, rfl, _, _, rfl, rfl, c a b d _ H2 (Nx.mk' hF e2) (e0.trans e2) q⟩
  | [], q, _ => exact q.elim
  | [_], q, _ => exact q.elim
  | [_, _], q, _ => exact q.elim
  | _ :: _ :: _ :: _ :: _, q, _ => exact q.elim
end
end G

set_option Elab.async false
set_option linter.all false
set_option maxRecDepth 100000
set_option maxHeartbeats 4000000
/-! G: values of several kinds. -/
namespace G
open PySem PySem.Spec PyProof.Rows L2
/-- data of any kind -/
inductive Dy where
  | non
  | bl (b : Bool)
  | int (n : Int)
  | str (s : Str)
  | lst (l : List Dy)
  | tup (l : List Dy)
mutual
def dyR (H : Hp) : Dy → V → Prop
  | .non, v => v = .non
  | .bl b, v => v = .bl b
  | .int n, v => v = .int n
  | .str s, v => v = .str s
  | .lst l, v => ∃ p vs, v = .ref p ∧ H p = some (.lst vs) ∧ dyRs H l vs
  | .tup l, v => ∃ p vs, v = .ref p ∧ H p = some (.tup vs) ∧ dyRs H l vs
def dyRs (H : Hp) : List Dy → List V → Prop
  | [], vs => vs = []
  | d :: l, vs => ∃ v r, vs = v :: r ∧ dyR H d v ∧ dyRs H l r
end
mutual
theorem dyR_mono {H H' : Hp} (e : Same H H') : ∀ {d : Dy} {v : V}, dyR H d v → dyR H' d v
  | .non, _, h => h
  | .bl _, _, h => h
  | .int _, _, h => h
  | .str _, _, h => h
  | .lst _, _, ⟨p, vs, h1, h2, h3⟩ => ⟨p, vs, h1, e _ _ h2, dyRs_mono e h3⟩
  | .tup _, _, ⟨p, vs, h1, h2, h3⟩ => ⟨p, vs, h1, e _ _ h2, dyRs_mono e h3⟩
theorem dyRs_mono {H H' : Hp} (e : Same H H') : ∀ {l : List Dy} {vs : List V}, dyRs H l vs → dyRs H' l vs
  | [], _, h => h
  | _ :: _, _, ⟨v, r, h1, h2, h3⟩ => ⟨v, r, h1, dyR_mono e h2, dyRs_mono e h3⟩
end
instance : Rp Dy where
  rep _ H v d := dyR H d v
  mono e h := dyR_mono e h
theorem dyRs_all {K : PySem.W.Frag} {H : Hp} : ∀ {l : List Dy} {vs : List V}, dyRs H l vs → All2 (Rp.rep K H) vs l
  | [], _, h => by
    have h' : _ = [] := h
    subst h'
    exact .nil
  | _ :: _, _, ⟨v, r, h1, h2, h3⟩ => by
    subst h1
    exact .cons h2 (dyRs_all h3)
theorem all_dyRs {K : PySem.W.Frag} {H : Hp} : ∀ {l : List Dy} {vs : List V}, All2 (Rp.rep K H) vs l → dyRs H l vs
  | [], _, .nil => rfl
  | _ :: _, _, .cons r t => ⟨_, _, rfl, r, all_dyRs t⟩
/-! True is 1, False is 0 -/
mutual
def Dy.nm : Dy → Dy
  | .non => .non
  | .bl b => .int (if b = true then 1 else 0)
  | .int n => .int n
  | .str s => .str s
  | .lst l => .lst (nms l)
  | .tup l => .tup (nms l)
def nms : List Dy → List Dy
  | [] => []
  | d :: l => d.nm :: nms l
end
mutual
def Dy.dp : Dy → Nat
  | .lst l => dps l + 1
  | .tup l => dps l + 1
  | _ => 0
def dps : List Dy → Nat
  | [] => 0
  | d :: l => max d.dp (dps l)
end
mutual
def Dy.pd : Dy → PyData
  | .non => .none
  | .bl b => .bool b
  | .int n => .int n
  | .str s => .str s
  | .lst l => .list (pds l)
  | .tup l => .tuple (pds l)
def pds : List Dy → List PyData
  | [] => []
  | d :: l => d.pd :: pds l
end
mutual
theorem dy_dp {K : PySem.W.Frag} {H : Hp} : ∀ {d : Dy} {v : V}, dyR H d v → Dp K H v d.pd
  | .non, _, h => by rw [show _ = V.non from h]; exact .non
  | .bl b, _, h => by rw [show _ = V.bl b from h]; exact .bl b
  | .int n, _, h => by rw [show _ = V.int n from h]; exact .int n
  | .str s, _, h => by rw [show _ = V.str s from h]; exact .str s
  | .lst _, _, ⟨p, vs, h1, h2, h3⟩ => by rw [h1]; exact .lst (SqL.of h2) (dys_dp h3)
  | .tup _, _, ⟨p, vs, h1, h2, h3⟩ => by rw [h1]; exact .tup (SqT.of h2) (dys_dp h3)
theorem dys_dp {K : PySem.W.Frag} {H : Hp} : ∀ {l : List Dy} {vs : List V}, dyRs H l vs → DpAll K H vs (pds l)
  | [], _, h => by rw [show _ = [] from h]; exact .nil
  | _ :: _, _, ⟨v, r, h1, h2, h3⟩ => by rw [h1]; exact .cons (dy_dp h2) (dys_dp h3)
end
mutual
theorem dy_lay : ∀ d : Dy, d.pd.plain = true
  | .non => rfl
  | .bl _ => rfl
  | .int _ => rfl
  | .str _ => rfl
  | .lst l => dys_lay l
  | .tup l => dys_lay l
theorem dys_lay : ∀ l : List Dy, PyData.plainAll (pds l) = true
  | [] => rfl
  | d :: l => by
    show (PyData.plain d.pd && PyData.plainAll (pds l)) = true
    rw [dy_lay d, dys_lay l]
    rfl
end
mutual
theorem dy_deep : ∀ d : Dy, d.pd.depth = d.dp
  | .non => by simp [Dy.pd, PyData.depth, Dy.dp]
  | .bl _ => by simp [Dy.pd, PyData.depth, Dy.dp]
  | .int _ => by simp [Dy.pd, PyData.depth, Dy.dp]
  | .str _ => by simp [Dy.pd, PyData.depth, Dy.dp]
  | .lst l => by
    have := dys_deep l
    simp only [Dy.pd, PyData.depth, Dy.dp]
    omega
  | .tup l => by
    have := dys_deep l
    simp only [Dy.pd, PyData.depth, Dy.dp]
    omega
theorem dys_deep : ∀ l : List Dy, PyData.depthAll (pds l) = dps l
  | [] => by simp [pds, PyData.depthAll, dps]
  | d :: l => by
    have h1 := dy_deep d
    have h2 := dys_deep l
    simp only [pds, PyData.depthAll, dps]
    omega
end
mutual
theorem dy_eqv : ∀ a b : Dy, PyData.eqv a.pd b.pd = true ↔ a.nm = b.nm
  | .non, b => by cases b <;> simp [Dy.pd, Dy.nm, PyData.eqv]
  | .bl x, b => by
    cases b with
    | bl y => cases x <;> cases y <;> simp [Dy.pd, Dy.nm, PyData.eqv]
    | _ => simp [Dy.pd, Dy.nm, PyData.eqv]
  | .int x, b => by cases b <;> simp [Dy.pd, Dy.nm, PyData.eqv]
  | .str x, b => by cases b <;> simp [Dy.pd, Dy.nm, PyData.eqv]
  | .lst x, b => by
    cases b with
    | lst y => simp only [Dy.pd, Dy.nm, PyData.eqv, dys_eqv x y, Dy.lst.injEq]
    | _ => simp [Dy.pd, Dy.nm, PyData.eqv]
  | .tup x, b => by
    cases b with
    | tup y => simp only [Dy.pd, Dy.nm, PyData.eqv, dys_eqv x y, Dy.tup.injEq]
    | _ => simp [Dy.pd, Dy.nm, PyData.eqv]
theorem dys_eqv : ∀ a b : List Dy, PyData.eqvAll (pds a) (pds b) = true ↔ nms a = nms b
  | [], [] => by simp [pds, nms, PyData.eqvAll]
  | [], _ :: _ => by simp [pds, nms, PyData.eqvAll]
  | _ :: _, [] => by simp [pds, nms, PyData.eqvAll]
  | x :: r, y :: s => by simp only [pds, nms, PyData.eqvAll, Bool.and_eq_true, dy_eqv x y, dys_eqv r s, List.cons.injEq]
end
open Classical in
noncomputable def eqDy (a b : Dy) : R Bool := gd (min a.dp b.dp ≤ 60) (.ok (decide (a.nm = b.nm)))
/-! ### what is data -/
class DyN (α : Type) [Rp α] where
  dy : α → Dy
  to : ∀ {K : PySem.W.Frag} {H : Hp} {v : V} {a : α}, Rp.rep K H v a → dyR H (dy a) v
  un : Dy → Option α
  of : ∀ {K : PySem.W.Frag} {H : Hp} {v : V} {d : Dy} {a : α}, dyR H d v → un d = some a → Rp.rep K H v a
class DyC (α : Type) [Rp α] [DyN α] where
  un_dy : ∀ a : α, DyN.un (DyN.dy a) = some a
  dep : Nat
  deep : ∀ a : α, (DyN.dy a).dp ≤ dep
  inj : ∀ {a b : α}, (DyN.dy a).nm = (DyN.dy b).nm → a = b
instance : DyN Int := ⟨.int, fun h => h, fun d => match d with | .int n => some n | _ => none, fun {K H v d a} h e => by
  cases d <;> simp at e
  subst e
  exact h⟩
instance : DyC Int := ⟨fun _ => rfl, 0, fun _ => Nat.le_of_eq (by simp [DyN.dy, Dy.dp]), fun h => by simpa [DyN.dy, Dy.nm] using h⟩
instance : DyN Bool := ⟨.bl, fun h => h, fun d => match d with | .bl n => some n | _ => none, fun {K H v d a} h e => by
  cases d <;> simp at e
  subst e
  exact h⟩
instance : DyC Bool := ⟨fun _ => rfl, 0, fun _ => Nat.le_of_eq (by simp [DyN.dy, Dy.dp]), fun {a b} h => by cases a <;> cases b <;> simp [DyN.dy, Dy.nm] at h ⊢⟩
instance : DyN Str := ⟨.str, fun h => h, fun d => match d with | .str n => some n | _ => none, fun {K H v d a} h e => by
  cases d <;> simp at e
  subst e
  exact h⟩
instance : DyC Str := ⟨fun _ => rfl, 0, fun _ => Nat.le_of_eq (by simp [DyN.dy, Dy.dp]), fun h => by simpa [DyN.dy, Dy.nm] using h⟩
instance : DyN Unit := ⟨fun _ => .non, fun h => h, fun d => match d with | .non => some () | _ => none, fun {K H v d a} h e => by
  cases d <;> simp at e
  exact h⟩
instance : DyN Dy := ⟨fun d => d, fun h => h, some, fun {K H v d a} h e => by
  cases e
  exact h⟩
section
variable {α β γ : Type} [Rp α] [Rp β] [Rp γ] [DyN α] [DyN β] [DyN γ]
def unAll (un : Dy → Option α) : List Dy → Option (List α)
  | [] => some []
  | d :: l => match un d, unAll un l with
    | some a, some r => some (a :: r)
    | _, _ => none
theorem to_all {K : PySem.W.Frag} {H : Hp} : ∀ {vs : List V} {xs : List α}, All2 (Rp.rep K H) vs xs → dyRs H (xs.map DyN.dy) vs
  | _, _, .nil => rfl
  | _, _, .cons r t => ⟨_, _, rfl, DyN.to r, to_all t⟩
theorem of_all {K : PySem.W.Frag} {H : Hp} : ∀ {l : List Dy} {vs : List V} {xs : List α}, dyRs H l vs → unAll DyN.un l = some xs → All2 (Rp.rep K H) vs xs
  | [], vs, xs, h, e => by
    rw [show vs = [] from h, show xs = [] by simpa [unAll] using e.symm]
    exact .nil
  | d :: l, vs, xs, ⟨v, r, h1, h2, h3⟩, e => by
    subst h1
    unfold unAll at e
    cases q : (DyN.un d : Option α) with
    | none => rw [q] at e; simp at e
    | some a =>
      cases q2 : unAll (α := α) DyN.un l with
      | none => rw [q, q2] at e; simp at e
      | some t =>
        rw [q, q2] at e
        simp at e
        subst e
        exact .cons (DyN.of h2 q) (of_all h3 q2)
instance : DyN (List α) := ⟨fun xs => .lst (xs.map DyN.dy), fun {K H v a} ⟨p, vs, h1, h2, h3⟩ => ⟨p, vs, h1, h2, to_all h3⟩, fun d => match d with | .lst l => unAll DyN.un l | _ => none, fun {K H v d a} h e => by
  cases d with
  | lst l =>
    obtain ⟨p, vs, h1, h2, h3⟩ := h
    exact ⟨p, vs, h1, h2, of_all h3 e⟩
  | _ => simp at e⟩
instance : DyN (Tu α) := ⟨fun xs => .tup (xs.l.map DyN.dy), fun {K H v a} ⟨p, vs, h1, h2, h3⟩ => ⟨p, vs, h1, h2, to_all h3⟩, fun d => match d with | .tup l => (unAll DyN.un l).map Tu.mk | _ => none, fun {K H v d a} h e => by
  cases d with
  | tup l =>
    obtain ⟨p, vs, h1, h2, h3⟩ := h
    simp only [Option.map_eq_some_iff] at e
    obtain ⟨xs, q, rfl⟩ := e
    exact ⟨p, vs, h1, h2, of_all h3 q⟩
  | _ => simp at e⟩
instance : DyN (α × β) := ⟨fun t => .tup [DyN.dy t.1, DyN.dy t.2], fun {K H v a} ⟨p, x, y, h1, h2, h3, h4⟩ => ⟨p, _, h1, h2, x, _, rfl, DyN.to h3, y, _, rfl, DyN.to h4, rfl⟩, fun d => match d with
  | .tup [a, b] => match DyN.un a, DyN.un b with
    | some x, some y => some (x, y)
    | _, _ => none
  | _ => none, fun {K H v d t} h e => by
  rcases d with _ | _ | _ | _ | _ | l <;> try simp at e
  rcases l with _ | ⟨a, _ | ⟨b, _ | ⟨c, l⟩⟩⟩ <;> try simp at e
  obtain ⟨p, vs, h1, h2, x, r, rfl, h3, y, r2, rfl, h4, h5⟩ := h
  rw [show r2 = [] from h5] at h2
  cases q : (DyN.un a : Option α) with
  | none => rw [q] at e; simp at e
  | some a' =>
    cases q2 : (DyN.un b : Option β) with
    | none => rw [q, q2] at e; simp at e
    | some b' =>
      rw [q, q2] at e
      simp at e
      subst e
      exact ⟨p, x, y, h1, h2, DyN.of h3 q, DyN.of h4 q2⟩⟩
instance : DyN (T3 α β γ) := ⟨fun t => .tup [DyN.dy t.a, DyN.dy t.b, DyN.dy t.c], fun {K H v a} ⟨p, x, y, z, h1, h2, h3, h4, h5⟩ => ⟨p, _, h1, h2, x, _, rfl, DyN.to h3, y, _, rfl, DyN.to h4, z, _, rfl, DyN.to h5, rfl⟩, fun d => match d with
  | .tup [a, b, c] => match DyN.un a, DyN.un b, DyN.un c with
    | some x, some y, some z => some (T3.mk x y z)
    | _, _, _ => none
  | _ => none, fun {K H v d t} h e => by
  rcases d with _ | _ | _ | _ | _ | l <;> try simp at e
  rcases l with _ | ⟨a, _ | ⟨b, _ | ⟨c, _ | ⟨c2, l⟩⟩⟩⟩ <;> try simp at e
  obtain ⟨p, vs, h1, h2, x, r, rfl, h3, y, r2, rfl, h4, z, r3, rfl, h5, h6⟩ := h
  rw [show r3 = [] from h6] at h2
  cases q : (DyN.un a : Option α) with
  | none => rw [q] at e; simp at e
  | some a' =>
    cases q2 : (DyN.un b : Option β) with
    | none => rw [q, q2] at e; simp at e
    | some b' =>
      cases q3 : (DyN.un c : Option γ) with
      | none => rw [q, q2, q3] at e; simp at e
      | some c' =>
        rw [q, q2, q3] at e
        simp at e
        subst e
        exact ⟨p, x, y, z, h1, h2, DyN.of h3 q, DyN.of h4 q2, DyN.of h5 q3⟩⟩
variable [DyC α] [DyC β] [DyC γ]
theorem un_all : ∀ xs : List α, unAll DyN.un (xs.map DyN.dy) = some xs
  | [] => rfl
  | x :: l => by
    simp only [List.map_cons, unAll]
    rw [DyC.un_dy, un_all l]
theorem dps_all : ∀ xs : List α, dps (xs.map DyN.dy) ≤ DyC.dep α
  | [] => by simp [dps]
  | x :: l => by
    have h1 := DyC.deep x
    have h2 := dps_all l
    simp only [List.map_cons, dps]
    omega
theorem inj_all : ∀ {xs ys : List α}, nms (xs.map DyN.dy) = nms (ys.map DyN.dy) → xs = ys
  | [], [], _ => rfl
  | [], _ :: _, h => by simp [nms] at h
  | _ :: _, [], h => by simp [nms] at h
  | x :: l, y :: r, h => by
    simp only [List.map_cons, nms, List.cons.injEq] at h
    rw [DyC.inj h.1, inj_all h.2]
instance : DyC (List α) := ⟨fun a => un_all a, DyC.dep α + 1, fun a => by
  have := dps_all a
  simp only [DyN.dy, Dy.dp]
  omega, fun {a b} h => by
  simp only [DyN.dy, Dy.nm, Dy.lst.injEq] at h
  exact inj_all h⟩
instance : DyC (Tu α) := ⟨fun a => by simp only [DyN.un, DyN.dy, un_all]; rfl, DyC.dep α + 1, fun a => by
  have := dps_all a.l
  simp only [DyN.dy, Dy.dp]
  omega, fun {a b} h => by
  simp only [DyN.dy, Dy.nm, Dy.tup.injEq] at h
  cases a
  cases b
  simp at h ⊢
  exact inj_all h⟩
instance : DyC (α × β) := ⟨fun t => by simp only [DyN.un, DyN.dy, DyC.un_dy], max (DyC.dep α) (DyC.dep β) + 1, fun t => by
  have h1 := DyC.deep t.1
  have h2 := DyC.deep t.2
  simp only [DyN.dy, Dy.dp, dps]
  omega, fun {a b} h => by
  simp only [DyN.dy, Dy.nm, nms, Dy.tup.injEq, List.cons.injEq, and_true] at h
  exact Prod.ext (DyC.inj h.1) (DyC.inj h.2)⟩
instance : DyC (T3 α β γ) := ⟨fun t => by simp only [DyN.un, DyN.dy, DyC.un_dy], max (DyC.dep α) (max (DyC.dep β) (DyC.dep γ)) + 1, fun t => by
  have h1 := DyC.deep t.a
  have h2 := DyC.deep t.b
  have h3 := DyC.deep t.c
  simp only [DyN.dy, Dy.dp, dps]
  omega, fun {a b} h => by
  simp only [DyN.dy, Dy.nm, nms, Dy.tup.injEq, List.cons.injEq, and_true] at h
  cases a
  cases b
  simp at h ⊢
  exact ⟨DyC.inj h.1, DyC.inj h.2.1, DyC.inj h.2.2⟩⟩
end
/-- what may be None -/
instance {α : Type} [Rp α] [NN α] [DyN α] : DyN (Option α) := ⟨fun o => match o with | none => .non | some a => DyN.dy a, fun {K H v a} h => by
  cases a with
  | none => exact h
  | some a => exact DyN.to h.2, fun d => match d with
  | .non => some none
  | d => (DyN.un d).map some, fun {K H v d a} h e => by
  have key : ∀ d : Dy, dyR H d v → (DyN.un d : Option α).map some = some a → Rp.rep K H v a := fun d h e => by
    cases q : (DyN.un d : Option α) with
    | none => rw [q] at e; simp at e
    | some x =>
      rw [q] at e
      simp at e
      subst e
      have r := DyN.of (K := K) h q
      exact ⟨NN.nn r, r⟩
  cases d with
  | non =>
    simp at e
    subst e
    exact h
  | _ => exact key _ h e⟩
open Classical in
theorem eqDy_same {α : Type} [Rp α] [DyN α] [DyC α] [DecidableEq α] (h : DyC.dep α ≤ 60) (a b : α) : eqDy (DyN.dy a) (DyN.dy b) = .ok (decide (a = b)) := by
  unfold eqDy
  rw [gd_pos (by have := DyC.deep a; omega)]
  congr 1
  exact decide_eq_decide.mpr ⟨fun q => DyC.inj q, fun q => by rw [q]⟩
open Classical in
theorem eqDy_ne {a b : Dy} (h : min a.dp b.dp ≤ 60) (hn : a.nm ≠ b.nm) : eqDy a b = .ok false := by
  unfold eqDy
  rw [gd_pos h, decide_eq_false hn]
open Classical in
theorem eqDy_eq {a b : Dy} (h : min a.dp b.dp ≤ 60) (hn : a.nm = b.nm) : eqDy a b = .ok true := by
  unfold eqDy
  rw [gd_pos h, decide_eq_true hn]
def unD {α : Type} [Rp α] [DyN α] (d : Dy) : R α := match DyN.un d with
  | some a => .ok a
  | none => .bad
theorem unD_dy {α : Type} [Rp α] [DyN α] [DyC α] (a : α) : unD (DyN.dy a) = .ok a := by
  unfold unD
  rw [DyC.un_dy]
def dyIs (k : Nat) : Dy → Bool
  | .non => false
  | .bl _ => k == 0 || k == 1
  | .int _ => k == 0
  | .str _ => k == 2
  | .lst _ => k == 3
  | .tup _ => k == 4
def dyTy : Dy → String
  | .non => "NoneType"
  | .bl _ => "bool"
  | .int _ => "int"
  | .str _ => "str"
  | .lst _ => "list"
  | .tup _ => "tuple"
def Dy.isNon : Dy → Bool
  | .non => true
  | _ => false
def dySeq : Dy → R (List Dy)
  | .lst l => .ok l
  | .tup l => .ok l
  | _ => .bad
def dyL : Dy → R (List Dy)
  | .lst l => .ok l
  | _ => .bad
def dyT : Dy → R (List Dy)
  | .tup l => .ok l
  | _ => .bad
def dyLen (d : Dy) : R Int := R.bd (dySeq d) fun l => .ok (l.length : Int)
def dyIdx (d : Dy) (i : Int) : R Dy := R.bd (dySeq d) fun l => idx l i
def rIxA (K : PySem.W.Frag) : R2 := fun x y H Q => rIxL K x y H Q ∨ rIxT K x y H Q
theorem ix_any {X : Cx} : IxR X (rIxA X.K) := fun value slice pins s σ H x y v u Q I rx ry h hs => h.elim (fun h => ix_list value slice pins s σ H x y v u Q I rx ry h hs) (fun h => ix_tup value slice pins s σ H x y v u Q I rx ry h hs)
theorem ix_anyK {X : Cx} {K : PySem.W.Frag} (h : X.K = K) : IxR X (rIxA K) := by subst h; exact ix_any
section
variable {K : PySem.W.Frag} {E : XK} {σ : L2.St} {F H : Hp} {ta tb te tl : TE} {t u : TT} {α β γ δ ρ : Type} [Rp α] [Rp β] [Rp γ] [Rp δ] [Rp ρ]
theorem g_dy [DyN α] {m : R α} (h : Gr K E te σ F H m) : Gr K E te σ F H (R.bd m fun a => .ok (DyN.dy a)) := fun H1 e Q hq =>
  h H1 e Q (by rw [wp_bd] at hq; exact wp_mono hq (fun a _ k v H2 e2 r => k v H2 e2 (DyN.to r)) fun _ _ z => z)
theorem g_unD [DyN α] {m : R Dy} (h : Gr K E te σ F H m) : Gr K E te σ F H (R.bd m fun d => (unD d : R α)) := fun H1 e Q hq =>
  h H1 e Q (by
    rw [wp_bd] at hq
    refine wp_mono hq (fun a _ k v H2 e2 r => ?_) fun _ _ z => z
    unfold unD at k
    cases q : (DyN.un a : Option α) with
    | none => rw [q] at k; exact k.elim
    | some b => rw [q] at k; exact k v H2 e2 (DyN.of r q))
theorem g_nonDy : Gr K E (tC .non) σ F H (.ok Dy.non) := g_c fun _ => rfl
theorem g_isNDy {ma : R Dy} (ha : Gr K E ta σ F H ma) : Gr K E (tIsN ta) σ F H (R.bd ma fun a => .ok a.isNon) := fun H1 e Q hq =>
  gr_seq ha e hq fun a v H2 e2 r hq2 => by
    show Q (.bl (decide (v = .non))) H2
    have : decide (v = .non) = a.isNon := by
      cases a with
      | non => exact decide_eq_true r
      | bl b => exact decide_eq_false fun z => by rw [show v = V.bl b from r] at z; cases z
      | int b => exact decide_eq_false fun z => by rw [show v = V.int b from r] at z; cases z
      | str b => exact decide_eq_false fun z => by rw [show v = V.str b from r] at z; cases z
      | lst l => exact decide_eq_false fun z => by obtain ⟨p, vs, h1, _⟩ := r; rw [h1] at z; cases z
      | tup l => exact decide_eq_false fun z => by obtain ⟨p, vs, h1, _⟩ := r; rw [h1] at z; cases z
    rw [this]
    exact hq2 _ H2 (Same.refl _) rfl
theorem g_notNDy {ma : R Dy} (ha : Gr K E ta σ F H ma) : Gr K E (tNotN ta) σ F H (R.bd ma fun a => .ok (!a.isNon)) := fun H1 e Q hq =>
  gr_seq ha e hq fun a v H2 e2 r hq2 => by
    show Q (.bl (!decide (v = .non))) H2
    have : decide (v = .non) = a.isNon := by
      cases a with
      | non => exact decide_eq_true r
      | bl b => exact decide_eq_false fun z => by rw [show v = V.bl b from r] at z; cases z
      | int b => exact decide_eq_false fun z => by rw [show v = V.int b from r] at z; cases z
      | str b => exact decide_eq_false fun z => by rw [show v = V.str b from r] at z; cases z
      | lst l => exact decide_eq_false fun z => by obtain ⟨p, vs, h1, _⟩ := r; rw [h1] at z; cases z
      | tup l => exact decide_eq_false fun z => by obtain ⟨p, vs, h1, _⟩ := r; rw [h1] at z; cases z
    rw [this]
    exact hq2 _ H2 (Same.refl _) rfl
open Classical in
theorem dy_dec (a b : Dy) : PyData.eqv a.pd b.pd = decide (a.nm = b.nm) := by
  by_cases c : a.nm = b.nm
  · rw [decide_eq_true c]
    exact (dy_eqv a b).mpr c
  · rw [decide_eq_false c]
    exact Bool.eq_false_iff.mpr fun q => c ((dy_eqv a b).mp q)
theorem g_eqDy {ma mb : R Dy} (ha : Gr K E ta σ F H ma) (hb : Gr K E tb σ F H mb) (hF : Same F H) : Gr K E (tOp (rEqP K) ta tb) σ F H (R.bd ma fun a => R.bd mb fun b => eqDy a b) := fun H1 e Q hq =>
  gr_seq ha e hq fun a v H2 e2 r hq2 => gr_seq hb (e.trans e2) hq2 fun b w H3 e3 r3 hq3 => by
    unfold eqDy gd at hq3
    split at hq3
    · rename_i c
      refine ⟨_, _, dy_dp (dyR_mono ((mix_same hF (e.trans e2)).trans e3) r), dy_dp (dyR_mono (mix_same hF (e.trans (e2.trans e3))) r3), dy_lay a, dy_lay b, by rw [dy_deep, dy_deep]; omega, ?_⟩
      rw [dy_dec]
      exact hq3 _ H3 (Same.refl _) rfl
    · exact hq3.elim
theorem g_neDy {ma mb : R Dy} (ha : Gr K E ta σ F H ma) (hb : Gr K E tb σ F H mb) (hF : Same F H) : Gr K E (tOp (rNeP K) ta tb) σ F H (R.bd ma fun a => R.bd mb fun b => R.bd (eqDy a b) fun c => .ok (!c)) := fun H1 e Q hq =>
  gr_seq ha e hq fun a v H2 e2 r hq2 => gr_seq hb (e.trans e2) hq2 fun b w H3 e3 r3 hq3 => by
    unfold eqDy gd at hq3
    split at hq3
    · rename_i c
      refine ⟨_, _, dy_dp (dyR_mono ((mix_same hF (e.trans e2)).trans e3) r), dy_dp (dyR_mono (mix_same hF (e.trans (e2.trans e3))) r3), dy_lay a, dy_lay b, by rw [dy_deep, dy_deep]; omega, ?_⟩
      rw [dy_dec]
      exact hq3 _ H3 (Same.refl _) rfl
    · exact hq3.elim
theorem dy_tyX {d : Dy} {v : V} (h : dyR H d v) : TyX K H v (.type (dyTy d)) := by
  cases d with
  | non => rw [show v = V.non from h]; exact .base .non
  | bl b => rw [show v = V.bl b from h]; exact .base (.bl b)
  | int b => rw [show v = V.int b from h]; exact .base (.int b)
  | str b => rw [show v = V.str b from h]; exact .base (.str b)
  | lst l => obtain ⟨p, vs, h1, h2, _⟩ := h; rw [h1]; exact .base (.lst h2)
  | tup l => obtain ⟨p, vs, h1, h2, _⟩ := h; rw [h1]; exact .base (.tup h2)
def kdN : Nat → String
  | 0 => "int"
  | 1 => "bool"
  | 2 => "str"
  | 3 => "list"
  | _ => "tuple"
theorem kit_dy (d : Dy) (k : Nat) (hk : k < 5) : kitB (dyTy d) (kdN k) = some (dyIs k d) := by
  match k, hk with
  | 0, _ => cases d <;> simp only [dyTy, kdN, dyIs] <;> decide +kernel
  | 1, _ => cases d <;> simp only [dyTy, kdN, dyIs] <;> decide +kernel
  | 2, _ => cases d <;> simp only [dyTy, kdN, dyIs] <;> decide +kernel
  | 3, _ => cases d <;> simp only [dyTy, kdN, dyIs] <;> decide +kernel
  | 4, _ => cases d <;> simp only [dyTy, kdN, dyIs] <;> decide +kernel
theorem g_isiDy {m : R Dy} {k : Nat} {n : String} (h : Gr K E ta σ F H m) (hF : Same F H) (hk : k < 5 := by decide) (hn : kdN k = n := by rfl) : Gr K E (tCB (rIsi K) (tCons ta (tCons (tC (.ty n)) tNil))) σ F H (R.bd m fun d => .ok (dyIs k d)) := by
  subst hn
  exact fun H1 e Q hq => gr_seq h e hq fun a v H2 e2 r hq2 => ⟨v, _, _, _, _, rfl, .ty _, dy_tyX (dyR_mono (mix_same hF (e.trans e2)) r), kit_ty (kit_dy a k hk), hq2 _ H2 (Same.refl _) rfl⟩
theorem g_lenDy {m : R Dy} (h : Gr K E ta σ F H m) (hF : Same F H) : Gr K E (tCB (rLen K) (tCons ta tNil)) σ F H (R.bd m dyLen) := fun H1 e Q hq =>
  gr_seq h e hq fun d v H2 e2 r hq2 => by
    have key : ∀ (l : List Dy) (vs : List V), dyRs (mix F H H2) l vs → vs.length = l.length := fun l vs z => (dyRs_all (K := K) z).length
    cases d with
    | lst l =>
      obtain ⟨p, vs, rfl, hp, hv⟩ := r
      refine ⟨p, vs, rfl, .inl (SqL.of (mix_same hF (e.trans e2) p _ hp)), ?_⟩
      rw [key _ _ hv]
      exact hq2 _ H2 (Same.refl _) rfl
    | tup l =>
      obtain ⟨p, vs, rfl, hp, hv⟩ := r
      refine ⟨p, vs, rfl, .inr (SqT.of (mix_same hF (e.trans e2) p _ hp)), ?_⟩
      rw [key _ _ hv]
      exact hq2 _ H2 (Same.refl _) rfl
    | _ => exact hq2.elim
theorem g_idxDy {ma : R Dy} {mi : R Int} (ha : Gr K E ta σ F H ma) (hi : Gr K E tb σ F H mi) (hF : Same F H) : Gr K E (tOp (rIxA K) ta tb) σ F H (R.bd ma fun a => R.bd mi fun i => dyIdx a i) := fun H1 e Q hq =>
  gr_seq ha e hq fun d v H2 e2 r hq2 => gr_seq hi (e.trans e2) hq2 fun i w H3 e3 r3 hq3 => by
    have r3' : w = .int i := r3
    subst r3'
    have key : ∀ (l : List Dy) (vs : List V), dyRs (mix F H H2) l vs → Wp (idx l i) (fun b => ∀ v H4, Same H3 H4 → Rp.rep K (mix F H H4) v b → Q v H4) (EE K E H3) → ∃ z, atI vs i = some z ∧ Q z H3 := fun l vs hv hw => by
      unfold idx at hw
      cases q : atI l i with
      | none => rw [q] at hw; exact hw.elim
      | some a =>
        rw [q] at hw
        obtain ⟨x, hx, rx⟩ := all2_atI (dyRs_all (K := K) hv) q
        exact ⟨x, hx, hw x H3 (Same.refl _) (Rp.mono (mix_mono e3) rx)⟩
    cases d with
    | lst l =>
      obtain ⟨p, vs, rfl, hp, hv⟩ := r
      obtain ⟨z, h1, h2⟩ := key _ _ hv hq3
      exact .inl ⟨p, vs, i, z, rfl, rfl, SqL.of (e3 p _ (mix_same hF (e.trans e2) p _ hp)), h1, h2⟩
    | tup l =>
      obtain ⟨p, vs, rfl, hp, hv⟩ := r
      obtain ⟨z, h1, h2⟩ := key _ _ hv hq3
      exact .inr ⟨p, vs, i, z, rfl, rfl, SqT.of (e3 p _ (mix_same hF (e.trans e2) p _ hp)), h1, h2⟩
    | _ => exact hq3.elim
/-- as a list, as a tuple (told anew by nobody: the same value) -/
theorem g_dyL {m : R Dy} (h : Gr K E ta σ F H m) : Gr K E ta σ F H (R.bd m dyL) := fun H1 e Q hq =>
  h H1 e Q (by
    rw [wp_bd] at hq
    refine wp_mono hq (fun d _ k v H2 e2 r => ?_) fun _ _ z => z
    cases d with
    | lst l =>
      obtain ⟨p, vs, rfl, hp, hv⟩ := r
      exact k _ H2 e2 ⟨p, vs, rfl, hp, dyRs_all hv⟩
    | _ => exact k.elim)
theorem g_dyT {m : R Dy} (h : Gr K E ta σ F H m) : Gr K E ta σ F H (R.bd m fun d => R.bd (dyT d) fun l => .ok (Tu.mk l)) := fun H1 e Q hq =>
  h H1 e Q (by
    rw [wp_bd] at hq
    refine wp_mono hq (fun d _ k v H2 e2 r => ?_) fun _ _ z => z
    cases d with
    | tup l =>
      obtain ⟨p, vs, rfl, hp, hv⟩ := r
      exact k _ H2 e2 ⟨p, vs, rfl, hp, dyRs_all hv⟩
    | _ => exact k.elim)
/-- a part of a tuple that isn't all of it -/
noncomputable def cutT {α : Type} (xs : List α) (lo hi : Option Int) : R (List α) := gd (¬ (HT.sIx xs.length 0 lo = 0 ∧ HT.sIx xs.length xs.length hi = xs.length)) (.ok (cut xs lo hi))
theorem g_cutT {tlo thi : TO} {m : R (Tu α)} {mlo mhi : R (Option Int)} (h : Gr K E ta σ F H m) (hlo : GrO K E tlo σ H mlo) (hhi : GrO K E thi σ H mhi) (hF : Same F H) :
    Gr K E (tSl (rSlT K) ta tlo thi) σ F H (R.bd m fun xs => R.bd mlo fun lo => R.bd mhi fun hi => R.bd (cutT xs.l lo hi) fun l => .ok (Tu.mk l)) := fun H1 e Q hq =>
  gr_seq h e hq fun xs v H2 e2 r hq2 => gro_seq hlo (e.trans e2) hq2 fun lo H3 e3 hq3 => gro_seq hhi (e.trans (e2.trans e3)) hq3 fun hi H4 e4 hq4 => by
    obtain ⟨p, vs, rfl, hp, hv⟩ := r
    unfold cutT gd at hq4
    split at hq4
    · rename_i c
      refine ⟨p, vs, rfl, SqT.of (e4 p _ (e3 p _ (mix_same hF (e.trans e2) p _ hp))), by rw [hv.length]; exact c, fun l hl => hq4 _ _ (same_upd hl) ?_⟩
      have hn : H l = none := Same.free (e.trans (e2.trans (e3.trans e4))) hl
      exact ⟨l, _, rfl, by rw [mix_new hn]; exact upd_same, all2_cut (hv.mono fun _ _ x => Rp.mono (mix_mono (e3.trans (e4.trans (same_upd hl)))) x)⟩
    · exact hq4.elim
/-- a tuple display of one kind -/
theorem g_tuD {t : TA} {m : R (List α)} (h : GrA K E t σ F H m) : Gr K E (tTup t) σ F H (R.bd m fun as => gd (as.length ≤ lim) (.ok (Tu.mk as))) := fun H1 e Q hq =>
  h H1 e _ (by
    rw [wp_bd] at hq
    refine wp_mono hq (fun as _ k vs H2 e2 r => ?_) fun _ _ z => z
    unfold gd at k
    split at k
    · rename_i c
      refine ⟨lim_line (by rw [r.length]; exact c), fun p hp => k _ _ (e2.trans (same_upd hp)) ?_⟩
      have hn : H p = none := Same.free (e.trans e2) hp
      exact ⟨p, vs, rfl, by rw [mix_new hn]; exact upd_same, r.mono fun _ _ x => Rp.mono (mix_mono (same_upd hp)) x⟩
    · exact k.elim)
theorem g_tuK {t : TA} {as : List α} (h : GrA K E t σ F H (.ok as)) (hl : as.length ≤ lim := by decide) : Gr K E (tTup t) σ F H (.ok (Tu.mk as)) := fun H1 e Q hq =>
  g_tuD h H1 e Q (by rw [wp_bd]; show Wp (gd _ _) _ _; rw [gd_pos hl]; exact hq)
theorem eqV_str (a b : Str) : eqV (Sc.enc a) (Sc.enc b) = decide (a = b) := by
  show eqV (V.str a) (V.str b) = decide (a = b)
  simp only [eqV]
  exact Bool.beq_eq_decide_eq a b
end
theorem sl_tupK {X : Cx} {K : PySem.W.Frag} (h : X.K = K) : SlR X (rSlT K) := by subst h; exact sl_tup
end G

set_option Elab.async false
set_option linter.all false
set_option maxRecDepth 100000
set_option maxHeartbeats 4000000
/-! G: order: <, min, max, sorted; longer calls. -/
namespace G
open PySem PySem.Spec PyProof.Rows L2
/-- data in order -/
class Od (α : Type) [Rp α] [De α] where
  lt : α → α → Bool
  alike : ∀ a b : α, W.alike (De.toD a) (De.toD b) = true
  nn : ∀ a : α, De.toD a ≠ .none
  lt_eq : ∀ a b : α, W.dataLt (De.toD a) (De.toD b) = lt a b
  nt : ∀ a : α, (∀ xs, De.toD a ≠ .tuple xs) ∨ ∃ xs, De.toD a = .tuple xs
instance : Od Int := ⟨fun a b => decide (a < b), fun _ _ => rfl, (fun _ z => by cases z), fun a b => W.dataLt_int a b, (fun _ => .inl fun _ z => by cases z)⟩
/-- the first place that differs -/
def ltL {α : Type} [DecidableEq α] (lt : α → α → Bool) : List α → List α → Bool
  | [], [] => false
  | [], _ :: _ => true
  | _ :: _, [] => false
  | x :: xs, y :: ys => if x = y then ltL lt xs ys else lt x y
section
variable {α β γ : Type} [Rp α] [Rp β] [Rp γ] [De α] [De β] [De γ] [Od α] [Od β] [Od γ] [DecidableEq α] [DecidableEq β] [DecidableEq γ]
theorem alike_all : ∀ xs ys : List α, W.alikeAll (xs.map De.toD) (ys.map De.toD) = true
  | [], _ => by simp [W.alikeAll]
  | _ :: _, [] => by simp [W.alikeAll]
  | x :: xs, y :: ys => by
    simp only [List.map_cons, W.alikeAll, Bool.and_eq_true]
    exact ⟨Od.alike x y, alike_all xs ys⟩
theorem toks_nil : W.keyToksAll [] = [.inl 0] := by simp [W.keyToksAll]
theorem rows_lt : ∀ xs ys : List α, PyProof.Rows.lexLt itemOrd (W.keyToksAll (xs.map De.toD)) (W.keyToksAll (ys.map De.toD)) = ltL Od.lt xs ys
  | [], [] => by
    simp only [List.map_nil, W.keyToksAll, ltL]
    decide
  | [], y :: ys => by
    simp only [List.map_nil, List.map_cons, W.keyToksAll, ltL]
    exact (W.lex_atom (by decide) _ _).trans ((W.lex_one _ _).trans (by decide))
  | x :: xs, [] => by
    simp only [List.map_nil, List.map_cons, W.keyToksAll, ltL]
    exact (W.lex_atom (by decide) _ _).trans ((W.lex_one _ _).trans (by decide))
  | x :: xs, y :: ys => by
    simp only [List.map_cons]
    rw [W.dataLt_cons (Od.alike x y), rows_lt xs ys, eqv_dec, Od.lt_eq]
    show _ = if x = y then ltL Od.lt xs ys else Od.lt x y
    by_cases c : x = y
    · rw [if_pos (decide_eq_true c), if_pos c]
    · rw [if_neg (by rw [decide_eq_false c]; decide), if_neg c]
instance : Od (List α) := ⟨ltL Od.lt, fun a b => by
    show W.alike (.list _) (.list _) = true
    simp only [W.alike]
    exact alike_all a b, (fun _ z => by cases z), fun a b => by
    show W.dataLt (.list _) (.list _) = _
    rw [W.dataLt_list]
    exact rows_lt a b, (fun _ => .inl fun _ z => by cases z)⟩
instance : Od (Tu α) := ⟨fun a b => ltL Od.lt a.l b.l, fun a b => by
    show W.alike (.tuple _) (.tuple _) = true
    simp only [W.alike]
    exact alike_all a.l b.l, (fun _ z => by cases z), fun a b => by
    show W.dataLt (.tuple _) (.tuple _) = _
    rw [W.dataLt_tuple]
    exact rows_lt a.l b.l, fun a => .inr ⟨_, rfl⟩⟩
def ltP (a b : α × β) : Bool := if a.1 = b.1 then (if a.2 = b.2 then false else Od.lt a.2 b.2) else Od.lt a.1 b.1
instance : Od (α × β) := ⟨ltP, fun a b => by
    show W.alike (.tuple _) (.tuple _) = true
    simp only [W.alike, W.alikeAll, Bool.and_eq_true, and_true]
    exact ⟨Od.alike _ _, Od.alike _ _⟩, (fun _ z => by cases z), fun a b => by
    show W.dataLt (.tuple [_, _]) (.tuple [_, _]) = _
    rw [W.dataLt_pair (Od.alike _ _) (Od.alike _ _), eqv_dec, eqv_dec, Od.lt_eq, Od.lt_eq]
    unfold ltP
    by_cases c : a.1 = b.1 <;> by_cases c2 : a.2 = b.2 <;> simp [c, c2], fun a => .inr ⟨_, rfl⟩⟩
end
theorem none_back {P : Addr → Prop} {F H F1 H1 : Hp} {p : Addr} (a : Nx P F H F1 H1) (h : H1 p = none) : H p = none := by
  cases q : H p with
  | none => rfl
  | some u =>
    obtain ⟨o, ho, _⟩ := a.th p u q
    rw [h] at ho
    cases ho
theorem via_of {P : Addr → Prop} {F H F1 H1 : Hp} {p : Addr} {C : Prop} (a : Nx P F H F1 H1) (ho : C ∨ H1 p = none) (h0 : ∀ q, q = p → C → P q ∨ H q = none) : ∀ q, q = p → P q ∨ H q = none := fun q z => ho.elim (h0 q z) fun h => .inr (by rw [z]; exact none_back a h)
/-! ### <, >, ≤, ≥ -/
def rLtP (K : PySem.W.Frag) : R2 := fun x y H Q => ∃ d e, Dp K H x d ∧ Dp K H y e ∧ W.alike d e = true ∧ d ≠ .none ∧ min d.depth e.depth ≤ 64 ∧ Q (.bl (W.dataLt d e)) H
def rGtP (K : PySem.W.Frag) : R2 := fun x y H Q => ∃ d e, Dp K H x d ∧ Dp K H y e ∧ W.alike d e = true ∧ d ≠ .none ∧ min d.depth e.depth ≤ 64 ∧ Q (.bl (W.dataLt e d)) H
def rLeP (K : PySem.W.Frag) : R2 := fun x y H Q => ∃ d e, Dp K H x d ∧ Dp K H y e ∧ W.alike d e = true ∧ d ≠ .none ∧ min d.depth e.depth ≤ 64 ∧ Q (.bl (!W.dataLt e d)) H
def rGeP (K : PySem.W.Frag) : R2 := fun x y H Q => ∃ d e, Dp K H x d ∧ Dp K H y e ∧ W.alike d e = true ∧ d ≠ .none ∧ min d.depth e.depth ≤ 64 ∧ Q (.bl (!W.dataLt d e)) H
section
variable {X : Cx}
theorem op_ltP (hu : X.A.units + 64 < cLine) : OpR X (compareOp .Lt) (rLtP X.K) := by
  intro pins s σ H x y v u Q I rx ry h
  obtain ⟨d, e, hd, he, sd, se, hm, q⟩ := h
  obtain ⟨as, r1⟩ := Dp.reads I d x v hd rx
  obtain ⟨bs, r2⟩ := Dp.reads I e y u he ry
  exact W.lt_data r1 r2 sd se (by omega) ⟨.bl _, H, I, rfl, q⟩
theorem op_gtP (hu : X.A.units + 64 < cLine) : OpR X (compareOp .Gt) (rGtP X.K) := by
  intro pins s σ H x y v u Q I rx ry h
  obtain ⟨d, e, hd, he, sd, se, hm, q⟩ := h
  obtain ⟨as, r1⟩ := Dp.reads I d x v hd rx
  obtain ⟨bs, r2⟩ := Dp.reads I e y u he ry
  exact W.gt_data r1 r2 sd se (by omega) ⟨.bl _, H, I, rfl, q⟩
theorem op_leP (hu : X.A.units + 64 < cLine) : OpR X (compareOp .LtE) (rLeP X.K) := by
  intro pins s σ H x y v u Q I rx ry h
  obtain ⟨d, e, hd, he, sd, se, hm, q⟩ := h
  obtain ⟨as, r1⟩ := Dp.reads I d x v hd rx
  obtain ⟨bs, r2⟩ := Dp.reads I e y u he ry
  exact W.le_data r1 r2 sd se (by omega) ⟨.bl _, H, I, rfl, q⟩
theorem op_geP (hu : X.A.units + 64 < cLine) : OpR X (compareOp .GtE) (rGeP X.K) := by
  intro pins s σ H x y v u Q I rx ry h
  obtain ⟨d, e, hd, he, sd, se, hm, q⟩ := h
  obtain ⟨as, r1⟩ := Dp.reads I d x v hd rx
  obtain ⟨bs, r2⟩ := Dp.reads I e y u he ry
  exact W.ge_data r1 r2 sd se (by omega) ⟨.bl _, H, I, rfl, q⟩
/-! ### min, max -/
def bestD (lt : PyData → PyData → Bool) (x : PyData) (xs : List PyData) : PyData := xs.foldl (fun a y => if lt y a then y else a) x
def rMinP (K : PySem.W.Frag) : List V → Hp → VK → Prop := fun vs H Q => ∃ (a : Addr) (ys : List V) (d : PyData) (ds : List PyData), vs = [V.ref a] ∧ SqL K H a ys ∧ DpAll K H ys (d :: ds) ∧ W.AlikeAll (d :: ds) ∧ PyData.plainAll (d :: ds) = true ∧ PyData.depthAll (d :: ds) ≤ 60 ∧
  ∀ (i : Nat) (v : V), ys[i]? = some v → (d :: ds)[i]? = some (W.minD d ds) → Q v H
def rMaxP (K : PySem.W.Frag) : List V → Hp → VK → Prop := fun vs H Q => ∃ (a : Addr) (ys : List V) (d : PyData) (ds : List PyData), vs = [V.ref a] ∧ SqL K H a ys ∧ DpAll K H ys (d :: ds) ∧ W.AlikeAll (d :: ds) ∧ PyData.plainAll (d :: ds) = true ∧ PyData.depthAll (d :: ds) ≤ 60 ∧
  ∀ (i : Nat) (v : V), ys[i]? = some v → (d :: ds)[i]? = some (W.maxD d ds) → Q v H
theorem plain_at : ∀ {ds : List PyData} {i : Nat} {d : PyData}, PyData.plainAll ds = true → ds[i]? = some d → d.plain = true
  | [], _, _, _, e => by simp at e
  | x :: l, 0, d, h, e => by
    simp at e
    subst e
    simp only [PyData.plainAll, Bool.and_eq_true] at h
    exact h.1
  | x :: l, i + 1, d, h, e => by
    simp only [PyData.plainAll, Bool.and_eq_true] at h
    exact plain_at (i := i) h.2 (by simpa using e)
theorem readsAll_get {h : Heap} {vs : Array Value} {xs : List PyData} {as : List Addr} (hr : ReadsAll h vs.toList xs as) {i : Nat} {v : Value} (hv : vs[i]? = some v) : ∃ bs d, Reads h v d bs ∧ xs[i]? = some d := by
  obtain ⟨bs, r, hl, _, _⟩ := W.readsAll_atA hr i v hv
  have e := List.getElem?_eq_getElem hl
  rw [List.getD_eq_getElem?_getD, e] at r
  exact ⟨bs, _, r, e⟩
theorem cr_minP (hc : X.calm = true) (hu : X.A.units + 64 < cLine) : CallR X (.builtin "min") (rMinP X.K) := by
  intro pins s σ H vs us Q I r h
  obtain ⟨a, ys, d, ds, rfl, hs, hd, hal, hpl, hdp, q⟩ := h
  obtain ⟨its, rv, hl, hz⟩ := I.list hs
  rw [Vals.ref1 r]
  obtain ⟨as, hr⟩ := Dp.readsAll I _ _ _ hd rv
  refine W.min_list_data (I.ok.hd hc) hl.isList (vs := its.toArray) (by simpa using hr) hal (by omega) fun i v h' tk bs hv hR hk => ?_
  have hv' : its[i]? = some v := by simpa using hv
  obtain ⟨bs2, e, r2, he⟩ := readsAll_get (vs := its.toArray) (by simpa using hr) hv
  have hlen := rv.length
  have hi : i < ys.length := by
    have := (List.getElem?_eq_some_iff.mp hv').1
    omega
  obtain ⟨u, hu1, hu2⟩ := Vals.get (i := i) (x := ys[i]) rv (List.getElem?_eq_getElem hi)
  rw [hv'] at hu1
  cases hu1
  have : e = W.minD d ds := SeqAt.plain_unique e _ v bs2 bs (plain_at hpl he) (W.reads_keeps hk r2) hR
  rw [this] at he
  exact ⟨_, H, I.kept hk, hu2, q i _ (List.getElem?_eq_getElem hi) he⟩
theorem cr_maxP (hc : X.calm = true) (hu : X.A.units + 64 < cLine) : CallR X (.builtin "max") (rMaxP X.K) := by
  intro pins s σ H vs us Q I r h
  obtain ⟨a, ys, d, ds, rfl, hs, hd, hal, hpl, hdp, q⟩ := h
  obtain ⟨its, rv, hl, hz⟩ := I.list hs
  rw [Vals.ref1 r]
  obtain ⟨as, hr⟩ := Dp.readsAll I _ _ _ hd rv
  refine W.max_list_data (I.ok.hd hc) hl.isList (vs := its.toArray) (by simpa using hr) hal (by omega) fun i v h' tk bs hv hR hk => ?_
  have hv' : its[i]? = some v := by simpa using hv
  obtain ⟨bs2, e, r2, he⟩ := readsAll_get (vs := its.toArray) (by simpa using hr) hv
  have hlen := rv.length
  have hi : i < ys.length := by
    have := (List.getElem?_eq_some_iff.mp hv').1
    omega
  obtain ⟨u, hu1, hu2⟩ := Vals.get (i := i) (x := ys[i]) rv (List.getElem?_eq_getElem hi)
  rw [hv'] at hu1
  cases hu1
  have : e = W.maxD d ds := SeqAt.plain_unique e _ v bs2 bs (plain_at hpl he) (W.reads_keeps hk r2) hR
  rw [this] at he
  exact ⟨_, H, I.kept hk, hu2, q i _ (List.getElem?_eq_getElem hi) he⟩
/-! ### sorted -/
def rSortA (α : Type) [Rp α] [De α] [Od α] (K : PySem.W.Frag) : List V → Hp → VK → Prop := fun vs H Q => ∃ (a : Addr) (ps : List (V × α)), vs = [V.ref a] ∧ SqL K H a (ps.map Prod.fst) ∧ (∀ p ∈ ps, Dp K H p.1 (De.toD p.2)) ∧ W.Sortable (ps.map fun p => De.toD p.2) ∧ ps.length ≤ lim ∧ De.dep α ≤ 60 ∧
  ∀ l, H l = none → Q (.ref l) (upd H l (.lst ((ps.mergeSort fun a b => !Od.lt b.2 a.2).map Prod.fst)))
theorem each_of {α : Type} [Rp α] [De α] {pins : List (Addr × Obj)} {σ : L2.St} {H : Hp} {s : Shared} (I : Inv X pins σ H s) : ∀ {ps : List (V × α)} {us : List Value}, Vals (ps.map Prod.fst) us → (∀ p ∈ ps, Dp X.K H p.1 (De.toD p.2)) → W.EachIs (fun (v : Value) (p : V × α) => RelV p.1 v) us ps ∧ W.EachIs (fun (v : Value) (p : V × α) => ∃ as, Reads s.heap v (De.toD p.2) as) us ps
  | [], _, .nil, _ => ⟨.nil, .nil⟩
  | p :: ps, _, .cons r t, h => by
    obtain ⟨a, b⟩ := each_of I t fun q hq => h q (List.mem_cons_of_mem _ hq)
    exact ⟨.cons r a, .cons (Dp.reads I _ _ _ (h p List.mem_cons_self) r) b⟩
theorem vals_each {α : Type} : ∀ {us : List Value} {ps : List (V × α)}, W.EachIs (fun (v : Value) (p : V × α) => RelV p.1 v) us ps → Vals (ps.map Prod.fst) us
  | _, _, .nil => .nil
  | _, _, .cons r t => .cons r (vals_each t)
theorem cr_sortA {α : Type} [Rp α] [De α] [Od α] (hu : X.A.units + 64 < cLine) : CallR X (.builtin "sorted") (rSortA α X.K) := by
  intro pins s σ H vs us Q I r h
  obtain ⟨a, ps, rfl, hs, hd, hk, hL, hdep, q⟩ := h
  obtain ⟨its, rv, hl, hz⟩ := I.list hs
  rw [Vals.ref1 r]
  obtain ⟨e1, e2⟩ := each_of I rv hd
  refine W.sorted_data (enc := fun p : V × α => De.toD p.2) hl.isList e1 e2 (W.AllAlike.of fun b b' => Od.alike _ _) hk (lim_line hL) (fun b _ => by have := De.deep b.2; omega) fun out hlen hE => ?_
  obtain ⟨ep, he'⟩ := PyProof.Rows.sortedAll_at s.heap its out.toArray
  have hsz : ((ps.mergeSort fun a b => !Od.lt b.2 a.2).map Prod.fst).length ≤ sizeLine := by rw [List.length_map, List.length_mergeSort]; exact lim_line hL
  have hcmp : (W.dataLe false fun p : V × α => De.toD p.2) = fun a b => !Od.lt b.2 a.2 := by
    rw [W.dataLe_eq]
    funext a b
    show (!W.dataLt _ _) = _
    rw [Od.lt_eq]
  rw [hcmp] at hE
  exact ⟨.ref _, upd H (s.heap.objs.size + 1) (.lst ((ps.mergeSort fun a b => !Od.lt b.2 a.2).map Prod.fst)), I.laid (t' := s.toks) (fun _ _ => PyProof.Rows.sortedAll_old) (Nat.le_succ _) ⟨hsz, out, ep, vals_each hE, he'⟩, rfl, q _ (I.hok.fresh (Nat.le_succ _))⟩
end
section
variable {K : PySem.W.Frag} {E : XK} {σ : L2.St} {F H : Hp} {ta tb te tl : TE} {t u : TT} {α β γ δ ρ : Type} [Rp α] [Rp β] [Rp γ] [Rp δ] [Rp ρ]
theorem g_ltP [De α] [Od α] {ma mb : R α} (ha : Gr K E ta σ F H ma) (hb : Gr K E tb σ F H mb) (hF : Same F H) (hd : De.dep α ≤ 60 := by decide) : Gr K E (tOp (rLtP K) ta tb) σ F H (R.bd ma fun a => R.bd mb fun b => .ok (Od.lt a b)) := fun H1 e Q hq =>
  gr_seq ha e hq fun a v H2 e2 r hq2 => gr_seq hb (e.trans e2) hq2 fun b w H3 e3 r3 hq3 => by
    refine ⟨_, _, De.dp (Rp.mono ((mix_same hF (e.trans e2)).trans e3) r), De.dp (Rp.mono (mix_same hF (e.trans (e2.trans e3))) r3), Od.alike a b, Od.nn a, by have := De.deep a; omega, ?_⟩
    rw [Od.lt_eq]
    exact hq3 _ H3 (Same.refl _) rfl
theorem g_gtP [De α] [Od α] {ma mb : R α} (ha : Gr K E ta σ F H ma) (hb : Gr K E tb σ F H mb) (hF : Same F H) (hd : De.dep α ≤ 60 := by decide) : Gr K E (tOp (rGtP K) ta tb) σ F H (R.bd ma fun a => R.bd mb fun b => .ok (Od.lt b a)) := fun H1 e Q hq =>
  gr_seq ha e hq fun a v H2 e2 r hq2 => gr_seq hb (e.trans e2) hq2 fun b w H3 e3 r3 hq3 => by
    refine ⟨_, _, De.dp (Rp.mono ((mix_same hF (e.trans e2)).trans e3) r), De.dp (Rp.mono (mix_same hF (e.trans (e2.trans e3))) r3), Od.alike a b, Od.nn a, by have := De.deep a; omega, ?_⟩
    rw [Od.lt_eq]
    exact hq3 _ H3 (Same.refl _) rfl
theorem g_leP [De α] [Od α] {ma mb : R α} (ha : Gr K E ta σ F H ma) (hb : Gr K E tb σ F H mb) (hF : Same F H) (hd : De.dep α ≤ 60 := by decide) : Gr K E (tOp (rLeP K) ta tb) σ F H (R.bd ma fun a => R.bd mb fun b => .ok (!Od.lt b a)) := fun H1 e Q hq =>
  gr_seq ha e hq fun a v H2 e2 r hq2 => gr_seq hb (e.trans e2) hq2 fun b w H3 e3 r3 hq3 => by
    refine ⟨_, _, De.dp (Rp.mono ((mix_same hF (e.trans e2)).trans e3) r), De.dp (Rp.mono (mix_same hF (e.trans (e2.trans e3))) r3), Od.alike a b, Od.nn a, by have := De.deep a; omega, ?_⟩
    rw [Od.lt_eq]
    exact hq3 _ H3 (Same.refl _) rfl
theorem g_geP [De α] [Od α] {ma mb : R α} (ha : Gr K E ta σ F H ma) (hb : Gr K E tb σ F H mb) (hF : Same F H) (hd : De.dep α ≤ 60 := by decide) : Gr K E (tOp (rGeP K) ta tb) σ F H (R.bd ma fun a => R.bd mb fun b => .ok (!Od.lt a b)) := fun H1 e Q hq =>
  gr_seq ha e hq fun a v H2 e2 r hq2 => gr_seq hb (e.trans e2) hq2 fun b w H3 e3 r3 hq3 => by
    refine ⟨_, _, De.dp (Rp.mono ((mix_same hF (e.trans e2)).trans e3) r), De.dp (Rp.mono (mix_same hF (e.trans (e2.trans e3))) r3), Od.alike a b, Od.nn a, by have := De.deep a; omega, ?_⟩
    rw [Od.lt_eq]
    exact hq3 _ H3 (Same.refl _) rfl
def minLR {α : Type} (lt : α → α → Bool) : List α → R α
  | [] => .bad
  | x :: l => .ok (l.foldl (fun a y => if lt y a = true then y else a) x)
def maxLR {α : Type} (lt : α → α → Bool) : List α → R α
  | [] => .bad
  | x :: l => .ok (l.foldl (fun a y => if lt a y = true then y else a) x)
theorem minD_map [De α] [Od α] : ∀ (l : List α) (x : α), W.minD (De.toD x) (l.map De.toD) = De.toD (l.foldl (fun a y => if Od.lt y a = true then y else a) x)
  | [], _ => rfl
  | y :: l, x => by
    unfold W.minD
    rw [List.map_cons, List.foldl_cons, List.foldl_cons, Od.lt_eq]
    by_cases c : Od.lt y x = true
    · rw [if_pos c, if_pos c]; exact minD_map l y
    · rw [if_neg c, if_neg c]; exact minD_map l x
theorem maxD_map [De α] [Od α] : ∀ (l : List α) (x : α), W.maxD (De.toD x) (l.map De.toD) = De.toD (l.foldl (fun a y => if Od.lt a y = true then y else a) x)
  | [], _ => rfl
  | y :: l, x => by
    unfold W.maxD
    rw [List.map_cons, List.foldl_cons, List.foldl_cons, Od.lt_eq]
    by_cases c : Od.lt x y = true
    · rw [if_pos c, if_pos c]; exact maxD_map l y
    · rw [if_neg c, if_neg c]; exact maxD_map l x
theorem toD_inj [De α] {a b : α} (h : De.toD a = De.toD b) : a = b := (De.eqv a b).mp (by rw [h]; exact SeqAt.eqv_refl_plain _ (De.lay b))
theorem alikeAll_map [De α] [Od α] (xs : List α) : W.AlikeAll (xs.map De.toD) := ⟨fun a ha b hb => by
    obtain ⟨x, _, rfl⟩ := List.mem_map.mp ha
    obtain ⟨y, _, rfl⟩ := List.mem_map.mp hb
    exact Od.alike x y, fun a ha => by
    obtain ⟨x, _, rfl⟩ := List.mem_map.mp ha
    exact Od.nn x⟩
theorem g_minP [De α] [Od α] {m : R (List α)} (h : Gr K E ta σ F H m) (hF : Same F H) (hd : De.dep α ≤ 60 := by decide) : Gr K E (tCB (rMinP K) (tCons ta tNil)) σ F H (R.bd m (minLR Od.lt)) := fun H1 e Q hq =>
  gr_seq h e hq fun xs v H2 e2 r hq2 => by
    obtain ⟨p, vs, rfl, hp, hv⟩ := r
    cases xs with
    | nil => exact hq2.elim
    | cons x l =>
      have hv2 := hv.mono fun _ _ z => Rp.mono (mix_same hF (e.trans e2)) z
      refine ⟨p, vs, De.toD x, l.map De.toD, rfl, SqL.of (mix_same hF (e.trans e2) p _ hp), dpAll_of (xs := x :: l) hv2, alikeAll_map (x :: l), plainAll_map (x :: l), by have := deepAll (x :: l); simp only [List.map_cons] at this; omega, fun i w hw hm => ?_⟩
      obtain ⟨a, ha, ra⟩ := hv.getL hw
      have : (De.toD a : PyData) = W.minD (De.toD x) (l.map De.toD) := by
        have z : ((x :: l).map De.toD)[i]? = some (De.toD a) := by rw [List.getElem?_map, ha]; rfl
        rw [List.map_cons, hm] at z
        exact (Option.some.inj z).symm
      rw [minD_map] at this
      have := toD_inj this
      exact hq2 w H2 (Same.refl _) (by rw [← this]; exact ra)
theorem g_maxP [De α] [Od α] {m : R (List α)} (h : Gr K E ta σ F H m) (hF : Same F H) (hd : De.dep α ≤ 60 := by decide) : Gr K E (tCB (rMaxP K) (tCons ta tNil)) σ F H (R.bd m (maxLR Od.lt)) := fun H1 e Q hq =>
  gr_seq h e hq fun xs v H2 e2 r hq2 => by
    obtain ⟨p, vs, rfl, hp, hv⟩ := r
    cases xs with
    | nil => exact hq2.elim
    | cons x l =>
      have hv2 := hv.mono fun _ _ z => Rp.mono (mix_same hF (e.trans e2)) z
      refine ⟨p, vs, De.toD x, l.map De.toD, rfl, SqL.of (mix_same hF (e.trans e2) p _ hp), dpAll_of (xs := x :: l) hv2, alikeAll_map (x :: l), plainAll_map (x :: l), by have := deepAll (x :: l); simp only [List.map_cons] at this; omega, fun i w hw hm => ?_⟩
      obtain ⟨a, ha, ra⟩ := hv.getL hw
      have : (De.toD a : PyData) = W.maxD (De.toD x) (l.map De.toD) := by
        have z : ((x :: l).map De.toD)[i]? = some (De.toD a) := by rw [List.getElem?_map, ha]; rfl
        rw [List.map_cons, hm] at z
        exact (Option.some.inj z).symm
      rw [maxD_map] at this
      have := toD_inj this
      exact hq2 w H2 (Same.refl _) (by rw [← this]; exact ra)
/-! sorted -/
theorem zip_fst : ∀ {vs : List V} {xs : List α}, vs.length = xs.length → (vs.zip xs).map Prod.fst = vs
  | [], [], _ => rfl
  | [], _ :: _, h => by simp at h
  | _ :: _, [], h => by simp at h
  | v :: vs, x :: xs, h => by
    rw [List.zip_cons_cons, List.map_cons, zip_fst (by simpa using h)]
theorem zip_snd : ∀ {vs : List V} {xs : List α}, vs.length = xs.length → (vs.zip xs).map Prod.snd = xs
  | [], [], _ => rfl
  | [], _ :: _, h => by simp at h
  | _ :: _, [], h => by simp at h
  | v :: vs, x :: xs, h => by
    rw [List.zip_cons_cons, List.map_cons, zip_snd (by simpa using h)]
theorem all2_zip {P : V → α → Prop} : ∀ {vs : List V} {xs : List α}, All2 P vs xs → ∀ p ∈ vs.zip xs, P p.1 p.2
  | _, _, .nil, p, h => by simp at h
  | _, _, .cons r t, p, h => by
    rcases List.mem_cons.mp (by simpa using h) with c | c
    · rw [c]; exact r
    · exact all2_zip t p c
theorem zip_all2 {P : V → α → Prop} : ∀ {ps : List (V × α)}, (∀ p ∈ ps, P p.1 p.2) → All2 P (ps.map Prod.fst) (ps.map Prod.snd)
  | [], _ => .nil
  | p :: ps, h => .cons (h p List.mem_cons_self) (zip_all2 fun q hq => h q (List.mem_cons_of_mem _ hq))
/-- may be sorted -/
def okSort [De α] (xs : List α) : Prop := W.Sortable (xs.map De.toD)
noncomputable def sortR [De α] [Od α] (xs : List α) : R (List α) := gd (xs.length ≤ lim ∧ okSort xs) (.ok (xs.mergeSort fun a b => !Od.lt b a))
theorem g_sort [De α] [Od α] {m : R (List α)} (h : Gr K E ta σ F H m) (hF : Same F H) (hd : De.dep α ≤ 60 := by decide) : Gr K E (tCB (rSortA α K) (tCons ta tNil)) σ F H (R.bd m sortR) := fun H1 e Q hq =>
  gr_seq h e hq fun xs v H2 e2 r hq2 => by
    obtain ⟨p, vs, rfl, hp, hv⟩ := r
    unfold sortR gd at hq2
    split at hq2
    · rename_i c
      have hl := hv.length
      have hfst : (vs.zip xs).map Prod.fst = vs := zip_fst hl
      have hsnd : (vs.zip xs).map Prod.snd = xs := zip_snd hl
      have hz := all2_zip hv
      refine ⟨p, vs.zip xs, rfl, by rw [hfst]; exact SqL.of (mix_same hF (e.trans e2) p _ hp), fun q hq => De.dp (Rp.mono (mix_same hF (e.trans e2)) (hz q hq)), ?_, by rw [List.length_zip]; omega, hd, fun l hl => ?_⟩
      · have : (vs.zip xs).map (fun p => (De.toD p.2 : PyData)) = xs.map De.toD := by
          conv => rhs; rw [← hsnd, List.map_map]
          rfl
        rw [this]
        exact c.2
      · refine hq2 _ _ (same_upd hl) ?_
        have hn : H l = none := Same.free (e.trans e2) hl
        refine ⟨l, _, rfl, by rw [mix_new hn]; exact upd_same, ?_⟩
        have e3 : xs.mergeSort (fun a b => !Od.lt b a) = ((vs.zip xs).mergeSort fun a b => !Od.lt b.2 a.2).map Prod.snd := by
          conv => lhs; rw [← hsnd]
          exact (List.map_mergeSort (r := fun a b : V × α => !Od.lt b.2 a.2) (s := fun a b : α => !Od.lt b a) (f := Prod.snd) (fun a _ b _ => rfl)).symm
        rw [e3]
        refine zip_all2 fun q hq => Rp.mono (mix_mono (same_upd hl)) (hz q ?_)
        exact (List.mergeSort_perm _ _).subset hq
    · exact hq2.elim
theorem g_chainM {f g : Int → Int → Bool} {tc : TE} {ma mb mc : R Int} (ha : Gr K E ta σ F H ma) (hb : Gr K E tb σ F H mb) (hc : Gr K E tc σ F H mc) :
    Gr K E (tChain (rI0 fun i j => .bl (f i j)) (rI0 fun i j => .bl (g i j)) ta tb tc) σ F H (R.bd ma fun a => R.bd mb fun b => if f a b = true then R.bd mc fun c => .ok (g b c) else .ok false) := fun H1 e Q hq =>
  gr_seq ha e hq fun a v H2 e2 r hq2 => gr_seq hb (e.trans e2) hq2 fun b w H3 e3 r3 hq3 => by
    refine ⟨a, b, r, r3, f a b, rfl, ?_⟩
    cases q : f a b with
    | true =>
      rw [q] at hq3
      rw [if_pos rfl] at hq3 ⊢
      exact gr_seq hc (e.trans (e2.trans e3)) hq3 fun c z H4 e4 r4 hq4 => ⟨b, c, r3, r4, hq4 _ H4 (Same.refl _) rfl⟩
    | false =>
      rw [q] at hq3
      rw [if_neg (by decide)] at hq3 ⊢
      exact hq3 _ H3 (Same.refl _) rfl
theorem u65 {k : Nat} {A : Around} (r : Room k A) : A.units + 65 < cLine := by have := r.un; omega
/-! ### xs.index(x), nested -/
class DeS (α : Type) [Rp α] [De α] where
  lay0 : ∀ a : α, (De.toD a).canLay0 = true
instance : DeS Int := ⟨fun _ => rfl⟩
instance : DeS Bool := ⟨fun _ => rfl⟩
theorem lay0All [De α] [DeS α] : ∀ xs : List α, PyData.canLayAll0 (xs.map De.toD) = true
  | [] => rfl
  | x :: r => by
    show (PyData.canLay0 (De.toD x) && PyData.canLayAll0 (r.map De.toD)) = true
    rw [DeS.lay0, lay0All r]
    rfl
instance [De α] [DeS α] : DeS (List α) := ⟨fun xs => lay0All xs⟩
instance [De α] [DeS α] : DeS (Tu α) := ⟨fun xs => lay0All xs.l⟩
instance [De α] [De β] [DeS α] [DeS β] : DeS (α × β) := ⟨fun t => by
  show (PyData.canLay0 (De.toD t.1) && (PyData.canLay0 (De.toD t.2) && true)) = true
  rw [DeS.lay0, DeS.lay0]
  rfl⟩
theorem shaped_of [De α] [DeS α] (h : De.dep α ≤ 64) (a : α) : SeqAt.shaped (De.toD a) = true := by
  unfold SeqAt.shaped
  rw [DeS.lay0 a, decide_eq_true (Nat.le_trans (De.deep a) h)]
  rfl
theorem g_indexD [De α] [DeS α] [DecidableEq α] {ma : R (List α)} {mb : R α} (ha : Gr K E ta σ F H ma) (hb : Gr K E tb σ F H mb) (hF : Same F H) (hd : De.dep α ≤ 60 := by decide) : Gr K E (tBM K "list" (rIndexD K) ta (tCons tb tNil)) σ F H (R.bd ma fun a => R.bd mb fun b => indexR a b) := fun H1 e Q hq =>
  ha H1 e _ (by
    rw [wp_bd] at hq
    refine wp_mono hq (fun xs _ k v H2 e2 r => ?_) fun _ _ z => z
    obtain ⟨p, vs, rfl, hp, hv⟩ := r
    refine ⟨.inl ⟨rfl, _, SqL.of (mix_same hF (e.trans e2) p _ hp)⟩, ?_⟩
    refine hb H2 (e.trans e2) _ ?_
    rw [wp_bd] at k
    refine wp_mono k (fun b _ k2 w H3 e3 r3 => ?_) fun _ _ z => z.mono e2
    unfold indexR at k2
    cases q : xs.findIdx? (fun z => decide (z = b)) with
    | none => rw [q] at k2; exact k2.elim
    | some j =>
      rw [q] at k2
      obtain ⟨hj, h1, h2⟩ := List.findIdx?_eq_some_iff_getElem.mp q
      have hL : Rp.rep K H3 (.ref p) xs := Rp.mono e3 (Rp.mono (mix_same hF (e.trans e2)) (⟨p, vs, rfl, hp, hv⟩ : Rp.rep K (mix F H H2) (.ref p) xs))
      refine ⟨p, w, De.toD b, xs.map De.toD, j, De.toD xs[j], rfl, rfl, De.dp hL, De.dp (Rp.mono (mix_same hF (e.trans (e2.trans e3))) r3), shaped_of (α := List α) (by show De.dep α + 1 ≤ 64; omega) xs, shaped_of (by omega) b, by rw [List.getElem?_map, List.getElem?_eq_getElem hj]; rfl, by rw [eqv_dec]; exact h1, fun m z' hm hz => ?_, k2 _ H3 (e2.trans e3) rfl⟩
      rw [List.getElem?_map, List.getElem?_eq_getElem (by omega)] at hz
      cases hz
      rw [eqv_dec]
      have := h2 m hm
      simpa using this)
theorem mt_indexDK {X : Cx} {K : PySem.W.Frag} (h : X.K = K) (hu : X.A.units + 65 < cLine) : MtR X "list.index" (rIndexD K) := by subst h; exact mt_indexD hu
/-! ### what may be None, of ints (bools, texts): over any heap -/
theorem rep_os [Sc α] {F' : Hp} {v : V} {a : Option α} (h : Rp.rep K F v a) : Rp.rep K F' v a := by
  cases a with
  | none => exact h
  | some a => exact ⟨h.1, Sc.is.mpr (Sc.is.mp h.2)⟩
theorem g_os [Sc α] {F' : Hp} {m : R (Option α)} (h : Gr K E te σ F' H m) : Gr K E te σ F H m := fun H1 e Q hq =>
  h H1 e Q (wp_mono hq (fun a _ k v H2 e2 r => k v H2 e2 (rep_os r)) fun _ _ z => z)
/-! ### calls with five -/
variable {Ex : L2.St → XK} {ε : Type} [Rp ε]
def sp5 (K : PySem.W.Frag) (f : α → β → γ → δ → ε → R ρ) : Sp := fun vs H Q E => ∃ v w x y z a b c d g, vs = [v, w, x, y, z] ∧ Rp.rep K H v a ∧ Rp.rep K H w b ∧ Rp.rep K H x c ∧ Rp.rep K H y d ∧ Rp.rep K H z g ∧ Wp (f a b c d g) (KN K H Q) (EE K E H)
theorem g_call5 {tc td te : TE} {f : α → β → γ → δ → ε → R ρ} {ma : R α} {mb : R β} {mc : R γ} {md : R δ} {me : R ε} (ha : Gr K E ta σ H H ma) (hb : Gr K E tb σ H H mb) (hc : Gr K E tc σ H H mc) (hd : Gr K E td σ H H md) (he : Gr K E te σ H H me) (hE : Ex σ = E := by rfl) :
    Gr K E (tCallS (sp5 K f) Ex (tCons ta (tCons tb (tCons tc (tCons td (tCons te tNil)))))) σ F H (R.bd ma fun a => R.bd mb fun b => R.bd mc fun c => R.bd md fun d => R.bd me fun g => f a b c d g) := by
  subst hE
  exact fun H1 e Q hq =>
  gr_arg ha e hq fun a v H2 e2 r hq2 => gr_arg hb (e.trans e2) hq2 fun b w H3 e3 r3 hq3 => gr_arg hc (e.trans (e2.trans e3)) hq3 fun c x H4 e4 r4 hq4 => gr_arg hd (e.trans (e2.trans (e3.trans e4))) hq4 fun d y H5 e5 r5 hq5 => gr_arg he (e.trans (e2.trans (e3.trans (e4.trans e5)))) hq5 fun g z H6 e6 r6 hq6 =>
    ⟨v, w, x, y, z, a, b, c, d, g, rfl, Rp.mono (e3.trans (e4.trans (e5.trans e6))) r, Rp.mono (e4.trans (e5.trans e6)) r3, Rp.mono (e5.trans e6) r4, Rp.mono e6 r5, r6, wp_mono hq6 (fun b _ k v' H7 e7 r7 => k v' H7 e7 (Rp.mono (dif_mix (e.trans (e2.trans (e3.trans (e4.trans (e5.trans e6))))) e7) r7)) fun c _ z => z⟩
def spS4 (K : PySem.W.Frag) (f : α → β → γ → δ → R ρ) : Sp := fun vs H Q E => ∃ v w x y a b c d Gz, vs = [v, w, x, y] ∧ Same Gz H ∧ Rp.rep K Gz v a ∧ Rp.rep K Gz w b ∧ Rp.rep K Gz x c ∧ Rp.rep K Gz y d ∧ Wp (f a b c d) (KS K Gz H Q) (EE K E H)
theorem g_callS4 {tc td : TE} {f : α → β → γ → δ → R ρ} {ma : R α} {mb : R β} {mc : R γ} {md : R δ} (ha : Gr K E ta σ F H ma) (hb : Gr K E tb σ F H mb) (hc : Gr K E tc σ F H mc) (hd : Gr K E td σ F H md) (hF : Same F H) (hE : Ex σ = E := by rfl) :
    Gr K E (tCallS (spS4 K f) Ex (tCons ta (tCons tb (tCons tc (tCons td tNil))))) σ F H (R.bd ma fun a => R.bd mb fun b => R.bd mc fun c => R.bd md fun d => f a b c d) := by
  subst hE
  exact fun H1 e Q hq =>
  gr_seq ha e hq fun a v H2 e2 r hq2 => gr_seq hb (e.trans e2) hq2 fun b w H3 e3 r3 hq3 => gr_seq hc (e.trans (e2.trans e3)) hq3 fun c x H4 e4 r4 hq4 => gr_seq hd (e.trans (e2.trans (e3.trans e4))) hq4 fun d y H5 e5 r5 hq5 =>
    ⟨v, w, x, y, a, b, c, d, mix F H H5, rfl, mix_same hF (e.trans (e2.trans (e3.trans (e4.trans e5)))), Rp.mono ((mix_mono e3).trans ((mix_mono e4).trans (mix_mono e5))) r, Rp.mono ((mix_mono e4).trans (mix_mono e5)) r3, Rp.mono (mix_mono e5) r4, r5, wp_mono hq5 (fun b _ k v' H6 e6 r6 => k v' H6 e6 (Rp.mono (mix_mix (e.trans (e2.trans (e3.trans (e4.trans e5)))) e6) r6)) fun c _ z => z⟩
end
section
variable {X : Cx} {K : PySem.W.Frag}
theorem op_ltPK (h : X.K = K) (hu : X.A.units + 64 < cLine) : OpR X (compareOp .Lt) (rLtP K) := by subst h; exact op_ltP hu
theorem op_gtPK (h : X.K = K) (hu : X.A.units + 64 < cLine) : OpR X (compareOp .Gt) (rGtP K) := by subst h; exact op_gtP hu
theorem op_lePK (h : X.K = K) (hu : X.A.units + 64 < cLine) : OpR X (compareOp .LtE) (rLeP K) := by subst h; exact op_leP hu
theorem op_gePK (h : X.K = K) (hu : X.A.units + 64 < cLine) : OpR X (compareOp .GtE) (rGeP K) := by subst h; exact op_geP hu
theorem cr_minPK (h : X.K = K) (hc : X.calm = true) (hu : X.A.units + 64 < cLine) : CallR X (.builtin "min") (rMinP K) := by subst h; exact cr_minP hc hu
theorem cr_maxPK (h : X.K = K) (hc : X.calm = true) (hu : X.A.units + 64 < cLine) : CallR X (.builtin "max") (rMaxP K) := by subst h; exact cr_maxP hc hu
theorem cr_sortAK {α : Type} [Rp α] [De α] [Od α] (h : X.K = K) (hu : X.A.units + 64 < cLine) : CallR X (.builtin "sorted") (rSortA α K) := by subst h; exact cr_sortA hu
end
/-! ### try: .. except X: .. without a name -/
def tTryO (K : PySem.W.Frag) (c : Value) (tb : WX → TS) (ts : TS) : TS := fun D σ H => tb (wOnly K c (fun _ _ _ => ts) (fun _ _ _ _ => False) D) D σ H
section
variable {X : Cx} {x : Str} {c : Value} {body suite : List Stmt} {b₀ : Stmt} {np pos pos' : Pos} {tb : WX → TS} {ts : TS}
theorem ps_tryO (hs : X.stack = X.env :: X.outer) (hf : X.env.frame = some X.env.locals) (hc : Names X x c)
    (hb : ∀ (W : WX) (pn : List (Addr × Obj)) (xe : Value → Shared → Prop), Takes (X.tr pn xe) W → PassesOwn (model X.prog X.w) X.A X.env xe → PSs (X.tr pn xe) body (tb W))
    (hsu : ∀ (a : Addr) (pn : List (Addr × Obj)), PSs (X.suite a pn) (b₀ :: suite) ts) :
    PS X (.Try body [.ExceptHandler (some (.Name x np)) none (b₀ :: suite) pos'] [] [] pos) (tTryO X.K c tb ts) :=
  ps_try_only (Wout := fun _ _ _ _ => False) (ts := fun _ _ _ => ts) hs hf hc (fun _ _ ⟨_, _, _, _, _, _, _, _, _, _, _, _, _, _, _, _, w⟩ => w.elim) hb fun a oe _ _ pn _ _ => hsu a ((a, oe) :: pn)
end
section
variable {K : PySem.W.Frag} {E : XK} {σ : L2.St} {H0 F H : Hp} {D : Ends} {S : Type}
theorem s_tryO {cs : List Cn} {cv : Value} {ts : TS} {tb : WX → TS} {m : R S} {hand : Er → R S} {kq : S → Prop} (hF : Same F H) (e0 : Same H0 H) (hQ : Wp (catchR cs m hand) kq (EE K E H0))
    (hx : ∀ c ∈ cs, PySem.W.exmOne K (.ref (He.ga K c.nm)) cv = some true)
    (hh : ∀ er F' H', Nx0 F H F' H' → Same H0 H' → Wp (hand er) kq (EE K E H0) → ts D σ H')
    (hb : Wp m kq (EE K (WE (wOnly K cv (fun _ _ _ => ts) (fun _ _ _ _ => False) D) σ) H) → tb (wOnly K cv (fun _ _ _ => ts) (fun _ _ _ _ => False) D) D σ H) : tTryO K cv tb ts D σ H := by
  show tb _ D σ H
  refine hb ?_
  cases m with
  | ok s => exact hQ
  | bad => exact hQ.elim
  | er er =>
    have hQ2 : Wp (if er.cn ∈ cs then hand er else .bad) kq (EE K E H0) := hQ
    split at hQ2
    · rename_i hc
      cases er with
      | own c =>
        intro H' s
        exact ⟨true, hx _ hc, fun _ a ha => hh (.own c) _ _ (Nx.mk' hF s) (e0.trans s) hQ2, fun z => by cases z⟩
      | plan n =>
        intro d H' s hd _
        exact ⟨true, hx _ hc, fun _ a ha => hh (.plan n) _ _ (Nx.mk' hF s) (e0.trans s) hQ2, fun z => by cases z⟩
    · exact hQ2.elim
end
end G

set_option Elab.async false
set_option linter.all false
set_option maxRecDepth 100000
set_option maxHeartbeats 4000000
/-! G: list(reversed(xs)). -/
namespace G
open PySem PySem.Spec PyProof.Rows L2
section
variable {prog : Program} {w : World} {A : Around} {E : Value → Shared → Prop} {s : Shared} {it l S : Addr} {items : Array Value}
abbrev bk (items : Array Value) : Nat → Value → Prop := fun i v => items[items.size - 1 - i]? = some v
/-- an empty list takes what the iterator tells -/
theorem ext_rev {Z : Result → Shared → Prop} (hh : A.handled = none) (h1 : s.heap.IsRevIter it l ((items.size : Int) - 1)) (h2 : s.heap.IsList l items) (ne : l ≠ it) (hn : items.size ≤ sizeLine) (si : S ≠ it) (sl : S ≠ l) (res : Value) (c : Nat)
    (hS : s.heap.get? S = some { cls := .type "list", data := .seq #[] c })
    (k : ∀ h' tk a' c', (∀ b o, b ≠ S → b ≠ it → s.heap.get? b = some o → h'.get? b = some o) → h'.get? S = some { cls := .type "list", dict := none, data := .seq a' c', slots := #[] } → ItemsOf (bk items) a' items.size → Z (.ok (.ret res)) { s with heap := h', toks := tk }) :
    wpAny (model prog w) A.in1 (Builtin.List.listExtendWith (.ref S) (.ref it) res) (fun fin s' => match fin with | .done f => Z (.ok f) s' | .again c' => c'.quiet = true ∧ codeAny (model prog w) A c' Z s') (fun e s' => Z (.error e) s') s := by
  have W := (Walks.listRev (prog := prog) (w := w) (A := A.in1) hh it l ne items).toS
  have out : S ∉ [it, l] := by simp only [List.mem_cons, List.not_mem_nil, or_false, not_or]; exact ⟨si, sl⟩
  have ty : s.TypeIs (.ref it) "list_reverseiterator" := h1.typeIs
  have e1 : Builtin.List.listSameRef (.ref S) (.ref it) = false := by simp [Builtin.List.listSameRef, si]
  unfold Builtin.List.listExtendWith
  refine wpAny_bind (wpAny_typeOf ty ?_)
  rw [if_neg (by rw [e1]; decide)]
  refine wpAny_bind (wpAny_pyIter_revIter h1 ?_)
  refine wpAny_bind (wpAny_holding ?_)
  unfold Builtin.List.listLengthHint
  refine wpAny_bind (wpAny_specialOf ty RT.nolen_lri ?_)
  show wpAny _ A.in1 (specialOf (Value.ref it) (Str.ofString "__length_hint__") >>= _) _ _ _
  refine wpAny_bind (wpAny_specialOf ty RT.hint_lri ?_)
  generalize hid : ("list_reverseiterator.__length_hint__" : String) = id0
  wp_delta
  rw [show splitId id0 = some ("list_reverseiterator", "__length_hint__") from by subst hid; decide +kernel]
  subst hid
  refine wpAny_bind (wpAny_isInstance (b := true) ty (by rw [isSubtype_type]; kernel_rfl) ?_)
  refine wpAny_pure ?_
  rw [if_neg (by decide)]
  have e0 : ((items.size : Nat) : Int) - 1 - ((0 : Nat) : Int) = (items.size : Int) - 1 := by omega
  refine wpAny_pure ⟨plainId_quiet F.plain_extend_loop _, codeAny_extend_loopS W hn S out _ items.size 0 _ _ _ rfl (Nat.zero_le _) ⟨Nat.zero_le _, by rw [e0]; exact h1, h2⟩ hS (ItemsOf.nil _) fun s' a' c' hm hS' ha => ?_⟩
  rw [Moved.eq_with hm]
  exact k s'.heap s'.toks a' c' (fun b o b1 b2 e => hm.heap b o (fun m => by
    rcases List.mem_cons.mp m with z | z
    · exact b1 z
    · exact b2 (List.mem_singleton.mp z)) e) hS' ha
theorem list_rev {Q : Value → Shared → Prop} (hh : A.handled = none) (h1 : s.heap.IsRevIter it l ((items.size : Int) - 1)) (h2 : s.heap.IsList l items) (ne : l ≠ it) (hn : items.size ≤ sizeLine)
    (k : ∀ h' tk a' c', (∀ b o, b ≠ it → s.heap.get? b = some o → h'.get? b = some o) → h'.get? s.heap.objs.size = some { cls := .type "list", dict := none, data := .seq a' c', slots := #[] } → ItemsOf (bk items) a' items.size → Q (.ref s.heap.objs.size) { s with heap := h', toks := tk }) :
    wpAny (model prog w) A (call (.type "list") [.ref it]) Q E s := by
  refine callType_codes (Q₁ := fun obj s1 => obj = .ref s.heap.objs.size ∧ s1 = { s with heap := s.heap.push { cls := .type "list", data := .seq #[] } }) PySem.F.called_list (PySem.F.typeCall_list_1 _) PySem.F.entry_list_init (code_list_new _ ⟨rfl, rfl⟩) ?_
  rintro obj s1 ⟨rfl, rfl⟩
  obtain ⟨oi, hoi, _⟩ := id h1
  obtain ⟨ol, hol, _⟩ := id h2
  have si : s.heap.objs.size ≠ it := Nat.ne_of_gt (Heap.lt_size hoi)
  have sl : s.heap.objs.size ≠ l := Nat.ne_of_gt (Heap.lt_size hol)
  have hS : (s.heap.push { cls := .type "list", data := .seq #[] }).get? s.heap.objs.size = some { cls := .type "list", data := .seq #[] } := Heap.get?_push_size _ rfl
  refine ⟨⟨_, hS, rfl⟩, PySem.F.args_list_init_2 _ _, ?_⟩
  generalize hP : s.heap.push { cls := .type "list", data := .seq #[] } = hp at hS
  have h1' : hp.IsRevIter it l ((items.size : Int) - 1) := by rw [← hP]; exact h1.at fun o e => Heap.get?_push_of_some _ e
  have h2' : hp.IsList l items := by rw [← hP]; exact h2.push _
  show wpAny _ _ (do let old ← Builtin.List.listItems (.ref s.heap.objs.size); Builtin.List.listUpdate (.ref s.heap.objs.size) (fun _ => #[]); letGo old.toList.reverse; Builtin.List.listExtendWith (.ref s.heap.objs.size) (.ref it) .none) _ _ _
  refine wpAny_bind ?_
  unfold Builtin.List.listItems
  refine wpAny_bind (wpAny_seqItems hS rfl (wpAny_pure ?_))
  show wpAny _ _ (updateSeq s.heap.objs.size (fun _ => #[]) >>= fun _ => letGo (#[] : Array Value).toList.reverse >>= fun _ => Builtin.List.listExtendWith (.ref s.heap.objs.size) (.ref it) .none) _ _ _
  refine wpAny_bind (wpAny_updateSeq hS rfl ?_)
  have hS2 := Heap.get?_update_self (Obj.mapSeq (fun _ => (#[] : Array Value))) hS rfl
  have oth : ∀ b o, b ≠ s.heap.objs.size → hp.get? b = some o → (hp.update s.heap.objs.size (Obj.mapSeq (fun _ => (#[] : Array Value)))).get? b = some o := fun b o hb e => (Heap.get?_update_other _ _ (Ne.symm hb)).trans e
  refine wpAny_bind (wpAny_letGo ?_)
  obtain ⟨oi2, hoi2, g3, g4⟩ := h1'
  obtain ⟨ol2, hol2, g5, g6⟩ := h2'
  refine ext_rev (A := A.in1) hh ⟨oi2, oth _ _ (Ne.symm si) hoi2, g3, g4⟩ ⟨ol2, oth _ _ (Ne.symm sl) hol2, g5, g6⟩ ne hn si sl .none _ hS2 fun h' tk a' c' hk hS' ha => ?_
  refine ⟨rfl, k h' tk a' c' (fun b o b2 e => ?_) hS' ha⟩
  have bS : b ≠ s.heap.objs.size := Nat.ne_of_lt (Heap.lt_size e)
  refine hk b o bS b2 (oth b o bS ?_)
  rw [← hP]
  exact Heap.get?_push_of_some _ e
end
def tListRev (K : PySem.W.Frag) (te : TE) : TE := fun σ H Q => te σ H fun v H1 => ∃ (a : Addr) (xs : List V), v = .ref a ∧ SqL K H1 a xs ∧ ∀ q, H1 q = none → Q (.ref q) (upd H1 q (.lst xs.reverse))
section
variable {X : Cx}
theorem pe_listRev {e : Expr} {te : TE} {p p2 pos pos2 : Pos} (hc : X.calm = true) (hg : Gl X "list") (hm : X.mg "list" = none) (hg2 : Gl X "reversed") (hm2 : X.mg "reversed" = none) (he : PE X e te)
    (hs : starEach [e] X.env = (false, eval e X.env) :: starEach [] X.env := by rfl) (hs2 : starEach [.Call (.Name "reversed" p2) [e] [] pos2] X.env = (false, eval (.Call (.Name "reversed" p2) [e] [] pos2) X.env) :: starEach [] X.env := by rfl) :
    PE X (.Call (.Name "list" p) [.Call (.Name "reversed" p2) [e] [] pos2] [] pos) (tListRev X.K te) := by
  refine ⟨fun pins s σ H Q I h => ?_⟩
  refine Call_ (ld_blt I hg hm PyProof.Rows.boot_list (PyProof.Rows.callWith_type1 (args_cons (Call_ (ld_blt I hg2 hm2 PyProof.Rows.boot_reversed (PyProof.Rows.callWith_type1 (args_cons (thn (he.run pins s σ H _ I h) fun u s1 ⟨v, H1, I1, r1, q1⟩ => args_nil ?_) hs) hs rfl))) hs2) hs2 rfl))
  obtain ⟨a, xs, ev, hq, q⟩ := q1
  subst ev
  obtain rfl : u = Value.ref a := r1
  obtain ⟨its, rv, p', hz⟩ := I1.list hq
  refine call_reversed_list p'.isList (args_nil ?_)
  have hl := p'.isList
  obtain ⟨ol, hol, _⟩ := id hl
  have ne : a ≠ s1.heap.objs.size := Nat.ne_of_lt (Heap.lt_size hol)
  have hn : its.toArray.size ≤ sizeLine := by rw [List.size_toArray, ← rv.length]; exact hz
  refine list_rev (s := { s1 with heap := s1.heap.push (revObj a ((its.toArray.size : Int) - 1)) }) (I1.ok.hd hc) ⟨_, Heap.get?_push_size _ rfl, rfl, rfl⟩ (hl.push _) ne hn fun h' tk acc c hk hS hi => ?_
  have le : s1.heap.objs.size ≤ (s1.heap.push (revObj a ((its.toArray.size : Int) - 1))).objs.size := by rw [Heap.size_push]; omega
  have kp : ∀ b o, s1.heap.get? b = some o → h'.get? b = some o := fun b o e => hk b o (Nat.ne_of_lt (Heap.lt_size e)) (Heap.get?_push_of_some _ e)
  refine ⟨V.ref _, upd H1 _ (.lst xs.reverse), I1.laid (t' := tk) kp le ⟨by rw [List.length_reverse]; exact hz, acc.toList, c, RT.vals_rev rv hi, ?_⟩, rfl, q _ (I1.hok.fresh le)⟩
  rw [Array.toArray_toList]
  exact hS
end
section
variable {K : PySem.W.Frag} {E : XK} {σ : L2.St} {F H : Hp} {te : TE} {α : Type} [Rp α]
theorem g_listRev {m : R (List α)} (h : Gr K E te σ F H m) (hF : Same F H) : Gr K E (tListRev K te) σ F H (R.bd m fun xs => .ok xs.reverse) := fun H1 e Q hq =>
  gr_seq h e hq fun xs v H2 e2 r hq2 => by
    obtain ⟨p, vs, rfl, hp, hv⟩ := r
    refine ⟨p, vs, rfl, SqL.of (mix_same hF (e.trans e2) p _ hp), fun l hl => hq2 _ _ (same_upd hl) ?_⟩
    have hn : H l = none := Same.free (e.trans e2) hl
    exact ⟨l, _, rfl, by rw [mix_new hn]; exact upd_same, (hv.mono fun _ _ x => Rp.mono (mix_mono (same_upd hl)) x).reverse⟩
theorem g_listRevS [Sc α] {m : R (List α)} (h : Gr K E te σ H H m) : Gr K E (tListRev K te) σ F H (R.bd m fun xs => .ok xs.reverse) := fun H1 e Q hq =>
  h H1 e _ (by
    rw [wp_bd] at hq
    refine wp_mono hq (fun xs _ k v H2 e2 r => ?_) fun _ _ z => z
    obtain ⟨p, vs, rfl, hp, hv⟩ := r
    exact ⟨p, vs, rfl, SqL.of (mix_same (Same.refl _) (e.trans e2) p _ hp), fun l hl => k _ _ (e2.trans (same_upd hl)) (reps_at (by rw [mix_new (Same.free (e.trans e2) hl)]; exact upd_same) hv.reverse)⟩)
end
end G

set_option Elab.async false
set_option linter.all false
set_option maxRecDepth 100000
set_option maxHeartbeats 4000000
/-! G: what rests on tuples alone; dicts whose keys are tuples of ints. -/
namespace G
open PySem PySem.Spec PyProof.Rows L2
/-- what rests on tuples alone tells the same wherever they are seen -/
class Im (α : Type) [Rp α] : Prop where
  mv : ∀ {K : PySem.W.Frag} {F F' : Hp} {v : V} {a : α}, (∀ p xs, F p = some (.tup xs) → F' p = some (.tup xs)) → Rp.rep K F v a → Rp.rep K F' v a
theorem im_all {α : Type} [Rp α] [Im α] {K : PySem.W.Frag} {F F' : Hp} (e : ∀ p xs, F p = some (.tup xs) → F' p = some (.tup xs)) {vs : List V} {xs : List α} (h : All2 (Rp.rep K F) vs xs) : All2 (Rp.rep K F') vs xs := h.mono fun _ _ r => Im.mv e r
instance : Im Int := ⟨fun _ h => h⟩
instance : Im Bool := ⟨fun _ h => h⟩
instance : Im Str := ⟨fun _ h => h⟩
instance : Im Unit := ⟨fun _ h => h⟩
instance {α : Type} [Rp α] [Im α] : Im (Option α) := ⟨fun {K F F' v a} e h => by
  cases a with
  | none => exact h
  | some a => exact ⟨h.1, Im.mv e h.2⟩⟩
instance {α β : Type} [Rp α] [Rp β] [Im α] [Im β] : Im (α × β) := ⟨fun e ⟨p, x, y, h1, h2, h3, h4⟩ => ⟨p, x, y, h1, e _ _ h2, Im.mv e h3, Im.mv e h4⟩⟩
instance {α β γ : Type} [Rp α] [Rp β] [Rp γ] [Im α] [Im β] [Im γ] : Im (T3 α β γ) := ⟨fun e ⟨p, x, y, z, h1, h2, h3, h4, h5⟩ => ⟨p, x, y, z, h1, e _ _ h2, Im.mv e h3, Im.mv e h4, Im.mv e h5⟩⟩
instance {α : Type} [Rp α] [Im α] : Im (Tu α) := ⟨fun e ⟨p, vs, h1, h2, h3⟩ => ⟨p, vs, h1, e _ _ h2, im_all e h3⟩⟩
theorem tup_mix {F H H2 H3 : Hp} (e : Same H H2) (e3 : Same H2 H3) {p : Addr} {xs : List V} (h : H2 p = some (.tup xs)) : mix F H H3 p = some (.tup xs) := by
  cases z : H p with
  | none => rw [mix_new z]; exact e3 _ _ h
  | some u =>
    have := e p u z
    rw [h] at this
    cases this
    exact mix_tup z rfl
theorem tup_le {F H : Hp} (e : Same F H) : ∀ p xs, F p = some (.tup xs) → H p = some (.tup xs) := fun p xs h => e p _ h
section
variable {K : PySem.W.Frag} {E : XK} {σ : L2.St} {H0 F H F' H' : Hp} {ta tb te tl to ti tk tv td : TE} {t u : TT} {α β γ δ ρ : Type} [Rp α] [Rp β] [Rp γ] [Rp δ] [Rp ρ] {D : Ends} {b : Bool}
theorem g_im [Im α] {G : Hp} (hG : Same G H) {m : R α} (h : Gr K E te σ G H m) : Gr K E te σ F H m := fun H1 e Q hq =>
  h H1 e Q (wp_mono hq (fun a _ k v H2 e2 r => k v H2 e2 (Im.mv (fun p xs q => tup_mix (e.trans e2) (Same.refl _) (mix_same hG (e.trans e2) _ _ q)) r)) fun _ _ z => z)
/-- a list of such, made anew -/
theorem reps_atI [Im α] {G H2 H3 : Hp} {p : Addr} {vs : List V} {xs : List α} (hG : Same G H2) (e : Same H H2) (e3 : Same H2 H3) (h : mix F H H3 p = some (.lst vs)) (hv : All2 (Rp.rep K G) vs xs) : Rp.rep K (mix F H H3) (.ref p) xs :=
  ⟨p, vs, rfl, h, im_all (fun q ys z => tup_mix e e3 (hG _ _ z)) hv⟩
theorem g_listI [Im α] {m : R (List α)} (h : Gr K E ta σ H H m) : Gr K E (tCB (rListOf K) (tCons ta tNil)) σ F H m := fun H1 e Q hq =>
  h H1 e _ (wp_mono hq (fun xs _ k v H2 e2 r => by
    obtain ⟨p, vs, rfl, hp, hv⟩ := r
    have s2 := mix_same (Same.refl _) (e.trans e2)
    exact ⟨p, vs, rfl, .inl (SqL.of (s2 p _ hp)), fun l hl => k _ _ (e2.trans (same_upd hl)) (reps_atI s2 (e.trans e2) (same_upd hl) (by rw [mix_new (Same.free (e.trans e2) hl)]; exact upd_same) hv)⟩) fun _ _ z => z)
theorem g_listTI [Im α] {m : R (Tu α)} (h : Gr K E ta σ H H m) : Gr K E (tCB (rListOf K) (tCons ta tNil)) σ F H (R.bd m fun t => .ok t.l) := fun H1 e Q hq =>
  h H1 e _ (by
    rw [wp_bd] at hq
    refine wp_mono hq (fun xs _ k v H2 e2 r => ?_) fun _ _ z => z
    obtain ⟨p, vs, rfl, hp, hv⟩ := r
    have s2 := mix_same (Same.refl _) (e.trans e2)
    exact ⟨p, vs, rfl, .inr (SqT.of (s2 p _ hp)), fun l hl => k _ _ (e2.trans (same_upd hl)) (reps_atI s2 (e.trans e2) (same_upd hl) (by rw [mix_new (Same.free (e.trans e2) hl)]; exact upd_same) hv)⟩)
theorem g_tupleI [Im α] {m : R (List α)} (h : Gr K E ta σ H H m) : Gr K E (tCB (rTupOf K) (tCons ta tNil)) σ F H (R.bd m fun l => .ok (Tu.mk l)) := fun H1 e Q hq =>
  h H1 e _ (by
    rw [wp_bd] at hq
    refine wp_mono hq (fun xs _ k v H2 e2 r => ?_) fun _ _ z => z
    obtain ⟨p, vs, rfl, hp, hv⟩ := r
    have s2 := mix_same (Same.refl _) (e.trans e2)
    exact ⟨p, vs, rfl, .inl ⟨SqL.of (s2 p _ hp), fun l hl => k _ _ (e2.trans (same_upd hl)) ⟨l, vs, rfl, by rw [mix_new (Same.free (e.trans e2) hl)]; exact upd_same, im_all (fun q ys z => tup_mix (e.trans e2) (same_upd hl) (s2 _ _ z)) hv⟩⟩⟩)
theorem g_tupleTI {m : R (Tu α)} (h : Gr K E ta σ F H m) (hF : Same F H) : Gr K E (tCB (rTupOf K) (tCons ta tNil)) σ F H m := fun H1 e Q hq =>
  h H1 e _ (wp_mono hq (fun xs _ k v H2 e2 r => by
    obtain ⟨p, vs, rfl, hp, hv⟩ := r
    exact ⟨p, vs, rfl, .inr ⟨SqT.of (mix_same hF (e.trans e2) p _ hp), k _ H2 e2 ⟨p, vs, rfl, hp, hv⟩⟩⟩) fun _ _ z => z)
theorem g_cutI [Im α] {tlo thi : TO} {m : R (List α)} {mlo mhi : R (Option Int)} (h : Gr K E ta σ H H m) (hlo : GrO K E tlo σ H mlo) (hhi : GrO K E thi σ H mhi) :
    Gr K E (tSl (rSlL K) ta tlo thi) σ F H (R.bd m fun xs => R.bd mlo fun lo => R.bd mhi fun hi => .ok (cut xs lo hi)) := fun H1 e Q hq =>
  gr_arg h e hq fun xs v H2 e2 r hq2 => gro_seq hlo (e.trans e2) hq2 fun lo H3 e3 hq3 => gro_seq hhi (e.trans (e2.trans e3)) hq3 fun hi H4 e4 hq4 => by
    obtain ⟨p, vs, rfl, hp, hv⟩ := r
    exact ⟨p, vs, rfl, SqL.of (e4 p _ (e3 p _ hp)), fun l hl => hq4 _ _ (same_upd hl) (reps_atI (Same.refl _) (e.trans e2) ((e3.trans e4).trans (same_upd hl)) (by rw [mix_new (Same.free (e.trans (e2.trans (e3.trans e4))) hl)]; exact upd_same) (all2_cut hv))⟩
theorem g_catI [Im α] {ma mb : R (List α)} (ha : Gr K E ta σ H H ma) (hb : Gr K E tb σ H H mb) : Gr K E (tOp rCat ta tb) σ F H (R.bd ma fun a => R.bd mb fun b => gd (a.length + b.length ≤ lim) (.ok (a ++ b))) := fun H1 e Q hq =>
  gr_arg ha e hq fun a v H2 e2 r hq2 => gr_arg hb (e.trans e2) hq2 fun b w H3 e3 r3 hq3 => by
    obtain ⟨p, vs, rfl, hp, hv⟩ := r
    obtain ⟨q, ws, rfl, hq', hw⟩ := r3
    unfold gd at hq3
    split at hq3
    · rename_i c
      refine ⟨p, q, vs, ws, rfl, rfl, e3 p _ hp, hq', lim_line (by rw [hv.length, hw.length]; exact c), fun l hl => hq3 _ _ (same_upd hl) (reps_atI (G := H3) (Same.refl _) (e.trans (e2.trans e3)) (same_upd hl) (by rw [mix_new (Same.free (e.trans (e2.trans e3)) hl)]; exact upd_same) ((hv.mono fun _ _ x => Rp.mono e3 x).append hw))⟩
    · exact hq3.elim
theorem g_repI [Im α] {ma : R (List α)} {mb : R Int} (ha : Gr K E ta σ H H ma) (hb : Gr K E tb σ H H mb) : Gr K E (tOp rRep ta tb) σ F H (R.bd ma fun a => R.bd mb fun b => repR a b) := fun H1 e Q hq =>
  gr_arg ha e hq fun a v H2 e2 r hq2 => gr_arg hb (e.trans e2) hq2 fun b w H3 e3 r3 hq3 => by
    obtain ⟨p, vs, rfl, hp, hv⟩ := r
    have r3' : w = .int b := r3
    subst r3'
    unfold repR gd at hq3
    split at hq3
    · rename_i c
      refine ⟨p, b, vs, rfl, rfl, e3 p _ hp, by omega, by omega, lim_line (by rw [hv.length]; exact c.2.2), fun l hl => hq3 _ _ (same_upd hl) (reps_atI (G := H2) (Same.refl _) (e.trans e2) (e3.trans (same_upd hl)) (by rw [mix_new (Same.free (e.trans (e2.trans e3)) hl)]; exact upd_same) (all2_rep hv _))⟩
    · exact hq3.elim
theorem g_listRevI [Im α] {m : R (List α)} (h : Gr K E te σ H H m) : Gr K E (tListRev K te) σ F H (R.bd m fun xs => .ok xs.reverse) := fun H1 e Q hq =>
  h H1 e _ (by
    rw [wp_bd] at hq
    refine wp_mono hq (fun xs _ k v H2 e2 r => ?_) fun _ _ z => z
    obtain ⟨p, vs, rfl, hp, hv⟩ := r
    have s2 := mix_same (Same.refl _) (e.trans e2)
    exact ⟨p, vs, rfl, SqL.of (s2 p _ hp), fun l hl => k _ _ (e2.trans (same_upd hl)) (reps_atI s2 (e.trans e2) (same_upd hl) (by rw [mix_new (Same.free (e.trans e2) hl)]; exact upd_same) hv.reverse)⟩)
/-- a comprehension that tells such, over anything -/
theorem g_compI [Im β] {wi : TI} {g : TG} {tt : TT} {te : TE} {vs : List Nat} {m : R (List α)} {cf : α → R Bool} {f : α → R β} (hi : GrI K E wi σ H H m)
    (hel : ∀ x v F2 H2, Same H F2 → Same F2 H2 → Same H H2 → Rp.rep K F2 v x → ∃ σ2, (∀ Q : L2.St → Hp → Prop, Q σ2 H2 → g v (wipe σ vs) H2 Q) ∧ wipe σ2 vs = wipe σ vs ∧ GrT K EF tt σ2 H2 (cf x) ∧ Gr K EF te σ2 F2 H2 (f x)) :
    Gr K E (tLc wi g tt te vs) σ F H (R.bd m fun xs => compR xs cf f) := g_compG (fun H3 Dl acc ys h => im_all (fun p xs q => by
      rcases mix_cases (del_le _ _ q) with ⟨z, h⟩ | ⟨z, t⟩ | ⟨y, z, t, h⟩
      · rw [mix_new z]; exact h
      · exact mix_tup z t
      · rw [z] at h
        cases h
        cases t) h) hi (Same.refl _) hel
/-! ### lists of such that become ours -/
theorem Own.repI [Im α] {p : Addr} {xs : List α} (o : Own K H0 b F H p xs) (hF : Same F H) : Rp.rep K (dif H0 H) (.ref p) xs := by
  obtain ⟨h0, f, vs, h, r⟩ := o.lst
  exact ⟨p, vs, rfl, dif_of h0 h, im_all (fun q ys z => dif_tup rfl ((bs_le.trans hF) _ _ z)) r⟩
theorem Own.frzI [Im α] {p : Addr} {xs : List α} (o : Own K H0 b F H p xs) (hF : Same F H) : ∃ F', Same F F' ∧ Same F' H ∧ (∀ q, q ≠ p → F' q = F q) ∧ Rp.rep K (dif H0 F') (.ref p) xs := by
  obtain ⟨F', h1, h2, h3, h4, h5⟩ := o.frz hF
  obtain ⟨q, vs, e, h, r⟩ := h4
  cases e
  exact ⟨F', h1, h2, h3, p, vs, rfl, dif_of o.h0 h, im_all (fun q ys z => dif_tup rfl z) r⟩
/-- what is told is new, its one object becomes ours -/
theorem s_asgC {τ : Type} [Rp τ] [Cel τ] {i : Nat} {m : R τ} {k : τ → R β} {kk : β → Prop} (he : Gr K E te σ nil0 H m) (hF : Same F H) (e0 : Same H0 H)
    (hc : ∀ {H2 : Hp} {v : V} {a : τ}, Same H H2 → Rp.rep K (mix nil0 H H2) v a → ∃ p o, v = .ref p ∧ H p = none ∧ H2 p = some o ∧ tupB (some o) = false ∧ Cel.cel K (Bs H0 (delH (mix F H H2) p) b) o a)
    (hQ : Wp (R.bd m k) kk (EE K E H0))
    (c : ∀ a p F' H', Nx0 F H F' H' → Same H0 H' → Own K H0 b F' H' p a → (∀ q, (∃ u, H q = some u) → q ≠ p) → Wp (k a) kk (EE K E H0) → D.nx (σ.set i (some (.ref p))) H') : tAsg te (gName i) D σ H := by
  refine he H (Same.refl _) _ ?_
  rw [wp_bd] at hQ
  refine wp_mono hQ (fun a _ q v H2 e2 r => ?_) fun c _ z => z.mono e0
  obtain ⟨p, o, rfl, hn, hp2, ho, hcel⟩ := hc e2 r
  refine c a p (delH (mix F H H2) p) H2 ⟨fun x o h => ?_, fun x o _ h => e2 x o h, fun x o h => ?_, fun x o z h n => ?_, fun x o h => ⟨o, e2 x o h, rfl⟩⟩ (e0.trans e2) ⟨Same.free e0 hn, delH_same, o, hp2, hcel⟩ (fun z ⟨u, hu⟩ e => by rw [e, hn] at hu; cases hu) q
  · have : x ≠ p := fun z => by
      rw [z] at h
      have := hF p o h
      rw [hn] at this
      cases this
    rw [delH_ne this]
    exact same_mix hF x o h
  · unfold delH at h
    split at h
    · cases h
    · exact mix_same hF e2 x o h
  · unfold delH
    split
    · rfl
    · rw [mix_old h z]
      exact n
theorem tup_bs {H2 : Hp} {p : Addr} (e0 : Same H0 H) (e2 : Same H H2) (hp : ∀ xs, H2 p ≠ some (.tup xs)) : ∀ q ys, mix nil0 H H2 q = some (.tup ys) → Bs H0 (delH (mix F H H2) p) b q = some (.tup ys) := fun q ys z => by
  have h2 := mix_same nil_same e2 _ _ z
  have h3 : delH (mix F H H2) p q = some (.tup ys) := by
    rw [delH_ne (fun w => hp ys (by rw [← w]; exact h2))]
    exact mix_ff nil_same _ _ z
  cases b with
  | true => exact dif_tup rfl h3
  | false => exact h3
theorem lst_new {H2 : Hp} {v : V} {a : List α} [Im α] (e0 : Same H0 H) (e2 : Same H H2) (r : Rp.rep K (mix nil0 H H2) v a) : ∃ p o, v = .ref p ∧ H p = none ∧ H2 p = some o ∧ tupB (some o) = false ∧ Cel.cel K (Bs H0 (delH (mix F H H2) p) b) o a := by
  obtain ⟨p, vs, rfl, hp, hv⟩ := r
  have pn : H p = none ∧ H2 p = some (.lst vs) := by
    rcases mix_cases hp with z | ⟨_, z⟩ | ⟨_, _, _, z⟩
    · exact z
    · cases z
    · cases z
  obtain ⟨hn, hp2⟩ := pn
  exact ⟨p, _, rfl, hn, hp2, rfl, vs, rfl, im_all (tup_bs e0 e2 fun xs z => by rw [hp2] at z; cases z) hv⟩
theorem s_asgI [Im α] {i : Nat} {m : R (List α)} {k : List α → R β} {kk : β → Prop} (he : Gr K E te σ nil0 H m) (hF : Same F H) (e0 : Same H0 H) (hQ : Wp (R.bd m k) kk (EE K E H0))
    (c : ∀ a p F' H', Nx0 F H F' H' → Same H0 H' → Own K H0 b F' H' p a → (∀ q, (∃ u, H q = some u) → q ≠ p) → Wp (k a) kk (EE K E H0) → D.nx (σ.set i (some (.ref p))) H') : tAsg te (gName i) D σ H :=
  s_asgC he hF e0 (fun e2 r => lst_new e0 e2 r) hQ c
end
end G

set_option Elab.async false
set_option linter.all false
set_option maxRecDepth 100000
set_option maxHeartbeats 4000000
/-! G: enumerate of tuples; lists and tuples alike. -/
namespace G
open PySem PySem.Spec PyProof.Rows L2
open Sem (wp)
theorem meets_enum_new {v : Value} {o : Obj} {Hq : Heap → Prop} (B : Begins v o Hq) :
    Meets (Builtin.«enumerate.__new__» ⟨[.type "enumerate", v], []⟩) (fun _ Z s => Hq s.heap ∧ Z (.ok (.ret (.ref (s.heap.push o).objs.size))) { s with heap := (s.heap.push o).push { cls := .type "enumerate", data := .fields #[.none, .bool false, .ref s.heap.objs.size, rawInt 0, .none, .none] } }) :=
  .of_wp fun prog w A Z s hz => by
    obtain ⟨hp, g, d, tk, os⟩ := s; obtain ⟨h1, hz⟩ := hz
    have hsub := sub_enumerate
    have it : ∀ {A' : Around} {E' : Value → Shared → Prop} {Q : Value → Shared → Prop}, Q (.ref hp.objs.size) ⟨hp.push o, g, d, tk, os⟩ → wpAny (model prog w) A' (pyIter v) Q E' ⟨hp, g, d, tk, os⟩ := fun q => B.iter prog w _ _ ⟨hp, g, d, tk, os⟩ _ h1 q
    wp_walk using it
    refine wpAny_stack_any fun st => wpAny_pure ?_
    split
    · rename_i c _ _ _ _ _
      cases (c == Value.type "enumerate")
      all_goals (wp_walk using it; exact ⟨_, rfl, hz⟩)
    · wp_walk using it
      exact ⟨_, rfl, hz⟩
section
variable {prog : Program} {w : World} {A : Around} {E : Value → Shared → Prop} {s : Shared}
theorem call_enum_tup {l : Addr} {items : Array Value} {Q : Value → Shared → Prop} (hL : s.heap.IsTuple l items)
    (k : ∀ h', IsEnum h' (s.heap.objs.size + 1) s.heap.objs.size 0 .none → h'.IsTupleIter s.heap.objs.size l 0 → (∀ b o, s.heap.get? b = some o → h'.get? b = some o) → Q (.ref (s.heap.objs.size + 1)) { s with heap := h' }) :
    wpAny (model prog w) A (call (.type "enumerate") [.ref l]) Q E s := by
  refine callType_new F.called_enumerate (by decide) (F.typeCall_enumerate_1 _) (F.newCall_enumerate_1 _) (fun obj => F.args_object_init_2 obj _) F.entry_enumerate_new (meets_enum_new (begins_tuple l items)) ⟨hL, ?_⟩
  have hz : (s.heap.push { cls := .type "tuple_iterator", data := .fields #[.ref l, .int 0 0] }).objs.size = s.heap.objs.size + 1 := Heap.size_push ..
  show _ ∧ _
  rw [hz]
  have he : IsEnum ((s.heap.push { cls := .type "tuple_iterator", data := .fields #[.ref l, .int 0 0] }).push { cls := .type "enumerate", data := .fields #[.none, .bool false, .ref s.heap.objs.size, rawInt 0, .none, .none] }) (s.heap.objs.size + 1) s.heap.objs.size 0 .none := by
    have q := Heap.get?_push_size (s.heap.push { cls := .type "tuple_iterator", data := .fields #[.ref l, .int 0 0] }) (o := { cls := .type "enumerate", data := .fields #[.none, .bool false, .ref s.heap.objs.size, rawInt 0, .none, .none] }) rfl
    rw [hz] at q
    exact q
  exact ⟨⟨_, he, rfl⟩, k _ he ⟨_, Heap.get?_push_of_some _ (Heap.get?_push_size _ rfl), rfl, rfl⟩ fun b o x => Heap.get?_push_of_some _ (Heap.get?_push_of_some _ x)⟩
end
/-- the turns of enumerate(a tuple) -/
def IteT (K : PySem.W.Frag) (a : Addr) : It :=
  ⟨fun i H => ∃ (xs : List V) (x : V), SqT K H a xs ∧ xs[i]? = some x, fun i H v H' => ∃ T x, v = .ref T ∧ H T = none ∧ H' = upd H T (.tup [.int (i : Nat), x]) ∧ ∀ xs, SqT K H a xs → xs[i]? = some x, fun i H => ∃ xs : List V, SqT K H a xs ∧ xs.length ≤ i⟩
theorem turn_enumT {P : Program} {w : World} {K : PySem.W.Frag} {elts : List Expr} {kk : Nat} {tpos : Pos} (a e it : Addr) :
    Turn P w K (.Tuple elts kk tpos) (IteT K a) [e, it] e (fun i h => (∃ old, IsEnum h e it ((i : Nat) : Int) old) ∧ h.IsTupleIter it a i ∧ e ≠ it ∧ a ≠ e ∧ a ≠ it) where
  mem := by simp
  obj := fun i h st b hb => by
    obtain ⟨⟨old, he⟩, ⟨o, ho, hc, hd⟩, _⟩ := st
    have e' : b = e ∨ b = it := by simpa using hb
    rcases e' with z | z
    · rw [z]; exact ⟨_, he, fun v q => nomatch q⟩
    · rw [z]; exact ⟨o, ho, fun v q => by rw [hd] at q; cases q⟩
  keep := fun i h h' st k => let ⟨⟨old, he⟩, hi, n1, n2, n3⟩ := st; ⟨⟨old, k e (by simp) _ he⟩, hi.at fun o q => k it (by simp) o q, n1, n2, n3⟩
  item := by
    intro X hP hw hK hc i pins s σ H E I hf st hg
    subst hP hw hK
    obtain ⟨⟨old, he⟩, hit, hne, ae, ai⟩ := st
    obtain ⟨xs, x, hq, hx⟩ := hg
    obtain ⟨its, rv, p, hz⟩ := I.tuple hq
    obtain ⟨u, hu, ru⟩ := rv.get hx
    have hel : e < s.heap.objs.size := Heap.lt_size he
    have hil : it < s.heap.objs.size := by obtain ⟨_, q, _⟩ := hit; exact Heap.lt_size q
    have hi : i < its.toArray.size := by rw [List.size_toArray]; exact (List.getElem?_eq_some_iff.mp hu).1
    have hef : e ∉ [it, a] := by simp only [List.mem_cons, List.not_mem_nil, or_false, not_or]; exact ⟨hne, fun z => ae z.symm⟩
    refine wpAny_pyNext_enum_itemD (Draws.tuple (A := X.A.in1) (I.ok.hd hc) it a ai its.toArray) he ⟨hit, p⟩ hi hne hef fun y h' tk hy ho st' hT hsz hk => ?_
    have ey : y = u := by
      have hy' : its[i]? = some y := by simpa using hy
      rw [hu] at hy'
      exact (Option.some.inj hy').symm
    subst ey
    refine ⟨_, rfl, wpAny_letOwnedTupleGo_enum (s := { s with heap := h', toks := tk + 1 }) ho fun h'' he' sb => ?_⟩
    have hT2 : h''.get? s.heap.objs.size = some { cls := .type "tuple", data := .seq #[.int i tk, y] } := (sb.2 _ (Nat.ne_of_gt hel)).trans hT
    have new : ObjOk X.prog X.w (upd H s.heap.objs.size (.tup [.int (i : Nat), x])) h'' s.heap.objs.size (.tup [.int (i : Nat), x]) := ⟨by show 2 ≤ sizeLine; decide, [.int i tk, y], .cons ⟨_, rfl⟩ (.cons ru .nil), ⟨_, hT2, rfl, _, rfl⟩⟩
    have I1 : Inv X pins σ (upd H s.heap.objs.size (.tup [.int (i : Nat), x])) { s with heap := h'', toks := tk + 1 } :=
      I.turnedNew (ch := [e, it]) (fun b ob hb q => (sb.2 b (fun z => hb (by simp [z]))).trans (hk b ob (fun z => hb (by simp [z])) (fun z => hb (by simp [z])) q)) hf (Nat.le_refl _) new
    refine ⟨.ref s.heap.objs.size, _, I1, rfl, ⟨_, x, rfl, I.hok.fresh (Nat.le_refl _), rfl, fun ys hy => by rw [I.tuple_inj hy hq]; exact hx⟩, ⟨⟨y, ?_⟩, st'.1.at fun o q => (sb.2 it (Ne.symm hne)).trans q, hne, ae, ai⟩, fun b hb => ?_⟩
    · rw [show ((i + 1 : Nat) : Int) = (i : Int) + 1 by omega]; exact he'
    · have hb' : b < s.heap.objs.size := by
        have e' : b = e ∨ b = it := by simpa using hb
        rcases e' with z | z
        · rw [z]; exact hel
        · rw [z]; exact hil
      rw [upd_ne (Nat.ne_of_lt hb')]
      exact (hf b hb).1
  done := by
    intro X hP hw hK hc i pins s σ H E I hf st hg
    subst hP hw hK
    obtain ⟨⟨old, he⟩, hit, hne, ae, ai⟩ := st
    obtain ⟨xs, hq, hx⟩ := hg
    obtain ⟨its, rv, p, hz⟩ := I.tuple hq
    obtain ⟨f0, f1, f2, f3, f4, f5⟩ := hf it (by simp)
    have hl := rv.length
    have D := Draws.tuple (prog := X.prog) (w := X.w) (A := X.A.in1) (I.ok.hd hc) it a ai its.toArray
    unfold pyNext
    have hT : s.TypeIs (.ref e) "enumerate" := ⟨_, he, rfl⟩
    refine wpAny_bind (wpAny_attempt (wpAny_callSpecial?_slot (name := Str.ofString "__next__") hT F.slot_enumerate_next (wpAny_call_entry F.slot_enumerate_next hT F.entry_enumerate_next ?_ (F.args_enumerate_next_1 _))))
    show wpAny _ _ (field (.ref e) 2 >>= _) _ _ _
    refine wpAny_bind (wpAny_field he rfl (x := .ref it) rfl ?_)
    refine wpAny_bind (wpAny_nextOf_tuple_end (A := X.A.in1) (I.ok.hd hc) hit (show s.heap.IsTuple a its.toArray from p) (by simp; omega) fun h' x eb hx' => ?_)
    obtain ⟨o, ho, hc⟩ := hx'
    refine wpAny_bind (wpAny_isInstance (T := "StopIteration") (b := true) ⟨o, ho, hc⟩ isSubtype_stop ?_)
    exact wpAny_pure ⟨rfl, I.turned (t' := s.toks) (fun b o hb q => eb b o hb q) f0 f1 f3 f4 f5⟩
  self := fun A i s Q E st h => let ⟨⟨_, he⟩, _⟩ := st; wpAny_pyIter_enum he h
def iEnumA (K : PySem.W.Frag) (ta : TA) : TI := fun σ H R => ta σ H fun vs H1 => ∃ a xs, vs = [.ref a] ∧ ((SqL K H1 a xs ∧ R (Ite K a) H1) ∨ (SqT K H1 a xs ∧ R (IteT K a) H1))
theorem pi_enumA {X : Cx} {e : Expr} {ta : TA} {p pos tpos : Pos} {elts : List Expr} {kk : Nat} (hg : Gl X "enumerate") (hm : X.mg "enumerate" = none) (ha : PA X [e] ta) (hs : starEach [e] X.env = [(false, eval e X.env)] := by rfl) :
    PI X (.Tuple elts kk tpos) (.Call (.Name "enumerate" p) [e] [] pos) (iEnumA X.K ta) := by
  refine ⟨fun pins s σ H R I h => ?_⟩
  refine Call_ (ld_blt I hg hm boot_enumerate (PyProof.Rows.callWith_type1 (thn (ha.run pos pins s σ H _ I h) fun us s1 ⟨vs, H1, I1, r1, q1⟩ => ?_) hs rfl))
  obtain ⟨a, xs, ex, q⟩ := q1
  subst ex
  cases r1 with
  | cons r rr =>
    cases rr
    cases r
    have fp : ∀ b, b = s1.heap.objs.size + 1 ∨ b = s1.heap.objs.size → FpOk X pins H1 b := fun b e' => by
      have hle : s1.heap.objs.size ≤ b := by rcases e' with z | z <;> rw [z] <;> omega
      exact I1.fpOk hle (I1.hok.fresh hle)
    rcases q with ⟨hq, q⟩ | ⟨hq, q⟩
    · obtain ⟨its, rv, p', hz⟩ := I1.list hq
      refine call_enumerate_list p'.isList fun h' he hit hsz hk => wpAny_pyIter_enum he ?_
      have I2 : Inv X pins σ H1 { s1 with heap := h' } := I1.kept (t' := s1.toks) hk
      exact ⟨s1.heap.objs.size + 1, [s1.heap.objs.size + 1, s1.heap.objs.size], _, _, H1, rfl, I2, turn_enum a (s1.heap.objs.size + 1) s1.heap.objs.size, ⟨⟨.none, he⟩, hit, Nat.succ_ne_self _⟩, fun b hb => fp b (by simpa using hb), q⟩
    · obtain ⟨its, rv, p', hz⟩ := I1.tuple hq
      have hlt : a < s1.heap.objs.size := by obtain ⟨o, ho, _⟩ := (show s1.heap.IsTuple a its.toArray from p'); exact Heap.lt_size ho
      refine call_enum_tup p' fun h' he hit hk => wpAny_pyIter_enum he ?_
      have I2 : Inv X pins σ H1 { s1 with heap := h' } := I1.kept (t' := s1.toks) hk
      exact ⟨s1.heap.objs.size + 1, [s1.heap.objs.size + 1, s1.heap.objs.size], _, _, H1, rfl, I2, turn_enumT a (s1.heap.objs.size + 1) s1.heap.objs.size, ⟨⟨.none, he⟩, hit, Nat.succ_ne_self _, Nat.ne_of_lt (Nat.lt_succ_of_lt hlt), Nat.ne_of_lt hlt⟩, fun b hb => fp b (by simpa using hb), q⟩
/-- a list or a tuple -/
structure Sq (α : Type) where
  t : Bool
  l : List α
  deriving DecidableEq
instance {α : Type} [Rp α] : Rp (Sq α) where
  rep K H v s := ∃ p vs, v = .ref p ∧ H p = some (if s.t = true then HO.tup vs else HO.lst vs) ∧ All2 (Rp.rep K H) vs s.l
  mono {K H H' v a} e h := by
    obtain ⟨p, vs, e1, e2, e3⟩ := h
    exact ⟨p, vs, e1, e p _ e2, e3.mono fun _ _ r => Rp.mono e r⟩
theorem sq_cases {α : Type} [Rp α] {K : PySem.W.Frag} {H : Hp} {v : V} {s : Sq α} (h : Rp.rep K H v s) : ∃ p vs, v = .ref p ∧ (H p = some (.lst vs) ∨ H p = some (.tup vs)) ∧ All2 (Rp.rep K H) vs s.l := by
  obtain ⟨p, vs, h1, h2, h3⟩ := h
  refine ⟨p, vs, h1, ?_, h3⟩
  split at h2
  · exact .inr h2
  · exact .inl h2
section
variable {K : PySem.W.Frag} {E : XK} {σ : L2.St} {H0 F H F' H' : Hp} {ta tb te tl : TE} {α β γ : Type} [Rp α] [Rp β] [Rp γ]
theorem g_sqL {m : R (List α)} (h : Gr K E te σ F H m) : Gr K E te σ F H (R.bd m fun l => .ok (Sq.mk false l)) := fun H1 e Q hq =>
  h H1 e Q (by rw [wp_bd] at hq; exact wp_mono hq (fun a _ k v H2 e2 ⟨p, vs, h1, h2, h3⟩ => k v H2 e2 ⟨p, vs, h1, h2, h3⟩) fun _ _ z => z)
theorem g_sqT {m : R (Tu α)} (h : Gr K E te σ F H m) : Gr K E te σ F H (R.bd m fun l => .ok (Sq.mk true l.l)) := fun H1 e Q hq =>
  h H1 e Q (by rw [wp_bd] at hq; exact wp_mono hq (fun a _ k v H2 e2 ⟨p, vs, h1, h2, h3⟩ => k v H2 e2 ⟨p, vs, h1, h2, h3⟩) fun _ _ z => z)
theorem g_lenSq {m : R (Sq α)} (h : Gr K E ta σ F H m) (hF : Same F H) : Gr K E (tCB (rLen K) (tCons ta tNil)) σ F H (R.bd m fun xs => .ok (xs.l.length : Int)) := fun H1 e Q hq =>
  gr_seq h e hq fun xs v H2 e2 r hq2 => by
    obtain ⟨p, vs, rfl, hp, hv⟩ := sq_cases r
    refine ⟨p, vs, rfl, ?_, ?_⟩
    · rcases hp with hp | hp
      · exact .inl (SqL.of (mix_same hF (e.trans e2) p _ hp))
      · exact .inr (SqT.of (mix_same hF (e.trans e2) p _ hp))
    · rw [hv.length]
      exact hq2 _ H2 (Same.refl _) rfl
theorem g_idxSq {ma : R (Sq α)} {mi : R Int} (ha : Gr K E ta σ F H ma) (hi : Gr K E tb σ F H mi) (hF : Same F H) : Gr K E (tOp (rIxA K) ta tb) σ F H (R.bd ma fun a => R.bd mi fun i => idx a.l i) := fun H1 e Q hq =>
  gr_seq ha e hq fun xs v H2 e2 r hq2 => gr_seq hi (e.trans e2) hq2 fun i w H3 e3 r3 hq3 => by
    obtain ⟨p, vs, rfl, hp, hv⟩ := sq_cases r
    have r3' : w = .int i := r3
    subst r3'
    unfold idx at hq3
    cases q : atI xs.l i with
    | none => rw [q] at hq3; exact hq3.elim
    | some a =>
      rw [q] at hq3
      obtain ⟨x, hx, rx⟩ := all2_atI hv q
      have fin := hq3 x H3 (Same.refl _) (Rp.mono (mix_mono e3) rx)
      rcases hp with hp | hp
      · exact .inl ⟨p, vs, i, x, rfl, rfl, SqL.of (e3 p _ (mix_same hF (e.trans e2) p _ hp)), hx, fin⟩
      · exact .inr ⟨p, vs, i, x, rfl, rfl, SqT.of (e3 p _ (mix_same hF (e.trans e2) p _ hp)), hx, fin⟩
theorem g_listSqI [Im α] {m : R (Sq α)} (h : Gr K E ta σ H H m) : Gr K E (tCB (rListOf K) (tCons ta tNil)) σ F H (R.bd m fun t => .ok t.l) := fun H1 e Q hq =>
  h H1 e _ (by
    rw [wp_bd] at hq
    refine wp_mono hq (fun xs _ k v H2 e2 r => ?_) fun _ _ z => z
    obtain ⟨p, vs, rfl, hp, hv⟩ := sq_cases r
    have s2 := mix_same (Same.refl _) (e.trans e2)
    exact ⟨p, vs, rfl, hp.elim (fun hp => .inl (SqL.of (s2 p _ hp))) fun hp => .inr (SqT.of (s2 p _ hp)), fun l hl => k _ _ (e2.trans (same_upd hl)) (reps_atI s2 (e.trans e2) (same_upd hl) (by rw [mix_new (Same.free (e.trans e2) hl)]; exact upd_same) hv)⟩)
theorem g_tupleSqI [Im α] {m : R (Sq α)} (h : Gr K E ta σ H H m) : Gr K E (tCB (rTupOf K) (tCons ta tNil)) σ F H (R.bd m fun t => .ok (Tu.mk t.l)) := fun H1 e Q hq =>
  h H1 e _ (by
    rw [wp_bd] at hq
    refine wp_mono hq (fun xs _ k v H2 e2 r => ?_) fun _ _ z => z
    obtain ⟨p, vs, rfl, hp, hv⟩ := sq_cases r
    have s2 := mix_same (Same.refl _) (e.trans e2)
    have tr : ∀ q ys, mix H H H2 q = some (.tup ys) → ∀ {H3 : Hp}, Same H2 H3 → mix F H H3 q = some (.tup ys) := fun q ys z H3 e3 => tup_mix (e.trans e2) e3 (s2 _ _ z)
    rcases hp with hp | hp
    · exact ⟨p, vs, rfl, .inl ⟨SqL.of (s2 p _ hp), fun l hl => k _ _ (e2.trans (same_upd hl)) ⟨l, vs, rfl, by rw [mix_new (Same.free (e.trans e2) hl)]; exact upd_same, im_all (fun q ys z => tr q ys z (same_upd hl)) hv⟩⟩⟩
    · exact ⟨p, vs, rfl, .inr ⟨SqT.of (s2 p _ hp), k _ H2 e2 ⟨p, vs, rfl, tr _ _ hp (Same.refl _), im_all (fun q ys z => tr q ys z (Same.refl _)) hv⟩⟩⟩)
theorem i_sq {m : R (Sq α)} (h : Gr K E ta σ F H m) (hF : Same F H) : GrI K E (iEnumA K (tCons ta tNil)) σ F H (R.bd m fun xs => .ok (enumL xs.l)) := fun H1 e RR hq =>
  h H1 e _ (by
    rw [wp_bd] at hq
    refine wp_mono hq (fun xs _ k v H2 e2 r => ?_) fun _ _ z => z
    obtain ⟨p, vs, rfl, hp, hv⟩ := sq_cases r
    have end_ : ∀ {i : Nat} {H' H'' : Hp} {x : V}, Same (mix F H H2) H' → i < (enumL xs.l).length → (∃ T y, x = .ref T ∧ H' T = none ∧ H'' = upd H' T (.tup [.int (i : Nat), y]) ∧ vs[i]? = some y) → Same H' H'' ∧ ∃ a, (enumL xs.l)[i]? = some a ∧ Rp.rep K (mix (mix F H H2) H' H'') x a := fun {i H' H'' x} s hi ⟨T, y, ex, hT, eH, hy⟩ => by
      subst ex; subst eH
      obtain ⟨a, ha, ra⟩ := hv.getL hy
      exact ⟨same_upd hT, _, enumL_get ha, T, _, y, rfl, by rw [mix_new hT]; exact upd_same, rfl, Rp.mono (same_mix s) ra⟩
    rcases hp with hp | hp
    · refine ⟨p, vs, rfl, .inl ⟨SqL.of (mix_same hF (e.trans e2) p _ hp), k _ H2 e2 ⟨fun i H' s hi => ?_, fun i H' s hi => ?_, fun i H' x H'' s hi y => ?_⟩⟩⟩
      · rw [enumL_len] at hi
        exact ⟨vs, vs[i]'(by rw [hv.length]; exact hi), SqL.of (s p _ hp), List.getElem?_eq_getElem _⟩
      · rw [enumL_len] at hi
        exact ⟨vs, SqL.of (s p _ hp), by rw [hv.length, hi]; exact Nat.le_refl _⟩
      · obtain ⟨T, z, ex, hT, eH, y⟩ := y
        exact end_ s hi ⟨T, z, ex, hT, eH, y vs (SqL.of (s p _ hp))⟩
    · refine ⟨p, vs, rfl, .inr ⟨SqT.of (mix_same hF (e.trans e2) p _ hp), k _ H2 e2 ⟨fun i H' s hi => ?_, fun i H' s hi => ?_, fun i H' x H'' s hi y => ?_⟩⟩⟩
      · rw [enumL_len] at hi
        exact ⟨vs, vs[i]'(by rw [hv.length]; exact hi), SqT.of (s p _ hp), List.getElem?_eq_getElem _⟩
      · rw [enumL_len] at hi
        exact ⟨vs, SqT.of (s p _ hp), by rw [hv.length, hi]; exact Nat.le_refl _⟩
      · obtain ⟨T, z, ex, hT, eH, y⟩ := y
        exact end_ s hi ⟨T, z, ex, hT, eH, y vs (SqT.of (s p _ hp))⟩)
theorem i_enumTu {m : R (Tu α)} (h : Gr K E ta σ F H m) (hF : Same F H) : GrI K E (iEnumA K (tCons ta tNil)) σ F H (R.bd m fun xs => .ok (enumL xs.l)) := fun H1 e RR hq =>
  i_sq (g_sqT h) hF H1 e RR (by
    rw [wp_bd] at hq
    rw [wp_bd, wp_bd]
    exact wp_mono hq (fun _ _ k => k) fun _ _ z => z)
end
end G

set_option Elab.async false
set_option linter.all false
set_option maxRecDepth 100000
set_option maxHeartbeats 4000000
/-! G: dicts whose keys are tuples of ints. -/
namespace G
open PySem PySem.Spec PyProof.Rows L2
/-- keys and values in the order in which they came -/
structure Dct (β : Type) where
  l : List (List Int × β)
def keyOf (ns : List Int) : List Key := ns.map Sum.inl
theorem keyOf_kV (ns : List Int) : (keyOf ns).map kV = ns.map V.int := by unfold keyOf; rw [List.map_map]; rfl
theorem keyOf_inj {a b : List Int} (h : keyOf a = keyOf b) : a = b := by
  have := congrArg (fun l => l.map fun k : Key => match k with | .inl i => i | .inr _ => 0) h
  simpa [keyOf, List.map_map, Function.comp_def] using this
def getL {β : Type} (l : List (List Int × β)) (k : List Int) : Option β := (l.find? fun e => decide (e.1 = k)).map (·.2)
def putL {β : Type} (l : List (List Int × β)) (k : List Int) (v : β) : List (List Int × β) := if (getL l k).isSome = true then l.map (fun e => if e.1 = k then (e.1, v) else e) else l ++ [(k, v)]
def Dct.get {β : Type} (d : Dct β) (k : Tu Int) : Option β := getL d.l k.l
def Dct.put {β : Type} (d : Dct β) (k : Tu Int) (v : β) : Dct β := ⟨putL d.l k.l v⟩
def Dct.keys {β : Type} (d : Dct β) : List (Tu Int) := d.l.map fun e => Tu.mk e.1
abbrev EntR {β : Type} [Rp β] (K : PySem.W.Frag) (H : Hp) : List Key × V → List Int × β → Prop := fun x e => x.1 = keyOf e.1 ∧ Rp.rep K H x.2 e.2
instance {β : Type} [Rp β] : Rp (Dct β) where
  rep K H v d := ∃ p kvs, v = .ref p ∧ H p = some (.dT kvs) ∧ All2 (EntR K H) kvs d.l
  mono {K H H' v a} e h := by
    obtain ⟨p, kvs, h1, h2, h3⟩ := h
    exact ⟨p, kvs, h1, e p _ h2, h3.mono fun _ _ r => ⟨r.1, Rp.mono e r.2⟩⟩
instance {β : Type} [Rp β] : NN (Dct β) := ⟨fun ⟨_, _, h, _⟩ => by rw [h]; intro q; cases q⟩
instance {β : Type} [Rp β] : Cel (Dct β) := ⟨fun K B o d => ∃ kvs, o = .dT kvs ∧ All2 (EntR K B) kvs d.l, fun ⟨_, h, _⟩ => by rw [h]; rfl, fun e ⟨vs, h, r⟩ => ⟨vs, h, r.mono fun _ _ x => ⟨x.1, Rp.mono e x.2⟩⟩, fun {K H p o x} h ⟨vs, h1, r⟩ => ⟨p, vs, rfl, by rw [h, h1], r⟩⟩
section
variable {K : PySem.W.Frag} {H : Hp} {β : Type} [Rp β]
theorem ent_get (k : List Int) : ∀ {kvs : List (List Key × V)} {l : List (List Int × β)}, All2 (EntR K H) kvs l → (valV kvs (keyOf k)).isSome = (getL l k).isSome ∧ ∀ b, getL l k = some b → ∃ v, valV kvs (keyOf k) = some v ∧ Rp.rep K H v b
  | _, _, .nil => ⟨rfl, fun b h => by cases h⟩
  | x :: kvs, e :: l, .cons r t => by
    obtain ⟨ih1, ih2⟩ := ent_get k t
    by_cases c : e.1 = k
    · have c2 : x.1 = keyOf k := by rw [r.1, c]
      have g : getL (e :: l) k = some e.2 := by unfold getL; rw [List.find?_cons_of_pos (by simpa using c)]; rfl
      rw [valV_pos c2, g]
      exact ⟨rfl, fun b h => ⟨_, rfl, by cases h; exact r.2⟩⟩
    · have c2 : ¬ x.1 = keyOf k := fun z => c (keyOf_inj (by rw [← r.1, z]))
      have g : getL (e :: l) k = getL l k := by unfold getL; rw [List.find?_cons_of_neg (by simpa using c)]
      rw [valV_neg c2, g]
      exact ⟨ih1, ih2⟩
theorem ent_rep {k : List Int} {v : V} {b : β} (rv : Rp.rep K H v b) : ∀ {kvs : List (List Key × V)} {l : List (List Int × β)}, All2 (EntR K H) kvs l → All2 (EntR K H) (kvs.map fun kv => if kv.1 = keyOf k then (kv.1, v) else kv) (l.map fun e => if e.1 = k then (e.1, b) else e)
  | _, _, .nil => .nil
  | x :: kvs, e :: l, .cons r t => by
    rw [List.map_cons, List.map_cons]
    refine .cons ?_ (ent_rep rv t)
    by_cases c : e.1 = k
    · have c2 : x.1 = keyOf k := by rw [r.1, c]
      rw [if_pos c, if_pos c2]
      exact ⟨r.1, rv⟩
    · have c2 : ¬ x.1 = keyOf k := fun z => c (keyOf_inj (by rw [← r.1, z]))
      rw [if_neg c, if_neg c2]
      exact r
theorem ent_put {k : List Int} {v : V} {b : β} (rv : Rp.rep K H v b) {kvs : List (List Key × V)} {l : List (List Int × β)} (h : All2 (EntR K H) kvs l) : All2 (EntR K H) (putK kvs (keyOf k) v) (putL l k b) := by
  unfold putK putL
  rw [valV_any, (ent_get k h).1]
  split
  · exact ent_rep rv h
  · exact h.append (.cons ⟨rfl, rv⟩ .nil)
theorem ent_mono {H' : Hp} (e : Same H H') {kvs : List (List Key × V)} {l : List (List Int × β)} (h : All2 (EntR K H) kvs l) : All2 (EntR K H') kvs l := h.mono fun _ _ r => ⟨r.1, Rp.mono e r.2⟩
theorem ent_keys {H2 : Hp} : ∀ {kvs : List (List Key × V)} {l : List (List Int × β)} {bs : List Addr}, All2 (EntR K H) kvs l → IsKeys H2 kvs bs → All2 (fun b (ns : List Int) => H2 b = some (.tup (ns.map V.int))) bs (l.map Prod.fst)
  | _, _, _, .nil, h => by cases h; exact .nil
  | _, _, _, .cons r t, h => by
    cases h with
    | cons h1 h2 =>
      refine .cons ?_ (ent_keys t h2)
      rw [h1, r.1, keyOf_kV]
end
def getR {β : Type} (d : Dct β) (k : Tu Int) : R β := match d.get k with
  | some b => .ok b
  | none => .bad
noncomputable def putR {β : Type} (d : Dct β) (k : Tu Int) (v : β) : R (Dct β) := gd (d.l.length < lim) (.ok (d.put k v))
/-- {k: v}, the key a tuple -/
def tDisp1 (tk tv : TE) : TE := fun σ H Q => ∀ p, H p = none → tk σ (upd H p (.dT [])) fun x H1 => tv σ H1 fun y H2 => H2 p = some (.dT []) ∧ ∃ b ks, x = .ref b ∧ H2 b = some (.tup (ks.map kV)) ∧ Q (.ref p) (upd H2 p (.dT [(ks, y)]))
theorem pe_disp1 {X : Cx} {pos : Pos} {k v : Expr} {tk tv : TE} (hu : X.A.units + 1 < cLine) (hk : PE X k tk) (hv : PE X v tv) : PE X (.Dict [some k] [v] pos) (tDisp1 tk tv) := by
  refine ⟨fun pins s σ H Q I q => ?_⟩
  have hn := I.hok.fresh (Nat.le_refl s.heap.objs.size)
  have I1 := I.laid (a := s.heap.objs.size) (o := .dT []) (h' := s.heap.push { cls := .type "dict", data := .dict #[] }) (t' := s.toks) (fun _ _ q => Heap.get?_push_of_some _ q) (Nat.le_refl _) (dt_empty s.heap I.big)
  rw [arm_eval_Dict, zip_pairTrees [some k] [v] X.env pos rfl rfl, dictDisplay_pairs (pairTrees [some k] [v] X.env pos) (by simp [pairTrees]) (by simp [pairTrees])]
  refine wpAny_bind (wpAny_standAt (wpAny_bind (wpAny_subDictH (knd := tupleKind (mixKind X.prog X.w)) (Q := fun d s' => wpAny (model X.prog X.w) X.A (pure (Value.ref d)) (EP X pins σ Q) X.xe s') (show X.A.units < cLine by omega) (by simp [pairTrees]) ?_)))
  refine pairTrees_cons_walk (thn (hk.run pins _ σ _ _ I1 (q _ hn)) fun u s1 ⟨x, H1, I2, rx, q1⟩ => thn (hv.run pins s1 σ H1 _ I2 q1) fun w2 s2 ⟨y, H2, I3, ry, e, b, ks, ex, hb, q2⟩ => ?_)
  subst ex
  obtain rfl : u = Value.ref b := rx
  refine pairTrees_nil_walk ?_
  obtain ⟨z, hd, xs, rel, dd⟩ := dt_of I3.hok e
  cases rel
  refine ⟨[(ks, b, w2)], ⟨rfl, rfl, key_of I3.hok hb, trivial⟩, dd, fun h' tk dd' hs => wpAny_pure ⟨.ref s.heap.objs.size, _, ?_, rfl, q2⟩⟩
  obtain ⟨q, es, ep, hq, h2, h3, h4, _, h5⟩ := dd'
  refine d_write (t' := tk) I3 (by rw [e]; exact True.intro) hs ⟨q, hq⟩ ⟨by show 1 ≤ sizeLine; decide, hd, _, Paired.cons ⟨rfl, ?_, ry⟩ .nil, q, es, ep, hq, h2, h3, h4, h5⟩
  rw [upd_ne (ne_of hb e (fun z => nomatch z))]
  exact hb
section
variable {K : PySem.W.Frag} {E : XK} {σ : L2.St} {H0 F H F' H' : Hp} {ta tb te tl to ti tk tv td : TE} {t u : TT} {α β γ δ ρ : Type} [Rp α] [Rp β] [Rp γ] [Rp δ] [Rp ρ] {D : Ends} {b : Bool}
theorem g_dnew : Gr K E tDNewT σ F H (.ok (Dct.mk ([] : List (List Int × β)))) := fun H1 e Q hq p hp => hq _ _ (same_upd hp) ⟨p, [], rfl, by rw [mix_new (Same.free e hp)]; exact upd_same, .nil⟩
theorem g_disp1 [Im β] {mk : R (Tu Int)} {mv : R β} (hk : Gr K E tk σ H H mk) (hv : Gr K E tv σ H H mv) : Gr K E (tDisp1 tk tv) σ F H (R.bd mk fun k => R.bd mv fun v => .ok (Dct.mk [(k.l, v)])) := fun H1 e Q hq p hp => by
  have e1 : Same H (upd H1 p (.dT [])) := e.trans (same_upd hp)
  refine hk _ e1 _ ?_
  rw [wp_bd] at hq
  refine wp_mono hq (fun k _ kk x H2 e2 rk => ?_) fun c _ z => z.mono (same_upd hp)
  obtain ⟨b, vs, rfl, hb, hw⟩ := rk
  have h2 := rep_ints hw
  subst h2
  have hb2 := mix_same (Same.refl _) (e1.trans e2) _ _ hb
  refine hv H2 (e1.trans e2) _ ?_
  rw [wp_bd] at kk
  refine wp_mono kk (fun v _ kv y H3 e3 rv => ?_) fun c _ z => z.mono ((same_upd hp).trans e2)
  have hp3 : H3 p = some (.dT []) := e3 _ _ (e2 _ _ upd_same)
  refine ⟨hp3, b, keyOf k.l, rfl, by rw [keyOf_kV]; exact e3 _ _ hb2, ?_⟩
  have hn : H p = none := Same.free e hp
  have s3 : Same H1 (upd H3 p (.dT [(keyOf k.l, y)])) := fun a o h => by
    have ne : a ≠ p := fun z => by rw [z, hp] at h; cases h
    rw [upd_ne ne]
    exact e3 _ _ (e2 _ _ (same_upd hp _ _ h))
  refine kv _ _ s3 ⟨p, _, rfl, by rw [mix_new hn]; exact upd_same, .cons ⟨rfl, Im.mv (fun q ys z => ?_) rv⟩ .nil⟩
  have z3 := mix_same (Same.refl _) ((e1.trans e2).trans e3) _ _ z
  have s4 : Same H (upd H3 p (.dT [(keyOf k.l, y)])) := e.trans s3
  cases w : H q with
  | none =>
    rw [mix_new w]
    rw [upd_ne (fun c => by rw [c, hp3] at z3; cases z3)]
    exact z3
  | some u =>
    have := ((e1.trans e2).trans e3) q u w
    rw [z3] at this
    cases this
    exact mix_tup w rfl
theorem g_din {ma : R (Tu Int)} {mb : R (Dct β)} (ha : Gr K E ta σ H H ma) (hb : Gr K E tb σ H H mb) : Gr K E (tDIn ta tb) σ F H (R.bd ma fun k => R.bd mb fun d => .ok (d.get k).isSome) := fun H1 e Q hq =>
  gr_arg ha e hq fun k v H2 e2 r hq2 => gr_arg hb (e.trans e2) hq2 fun d w H3 e3 r3 hq3 => by
    obtain ⟨a, vs, rfl, hp, hw⟩ := r
    have h2 := rep_ints hw
    subst h2
    obtain ⟨p, kvs, rfl, hd, hv⟩ := r3
    refine ⟨p, _, rfl, DGet.t (k := keyOf k.l) hd (by rw [keyOf_kV]; exact e3 _ _ hp), ?_⟩
    rw [(ent_get k.l hv).1]
    exact hq3 _ H3 (Same.refl _) rfl
theorem g_dnotin {ma : R (Tu Int)} {mb : R (Dct β)} (ha : Gr K E ta σ H H ma) (hb : Gr K E tb σ H H mb) : Gr K E (tDNotIn ta tb) σ F H (R.bd ma fun k => R.bd mb fun d => .ok (!(d.get k).isSome)) := fun H1 e Q hq =>
  gr_arg ha e hq fun k v H2 e2 r hq2 => gr_arg hb (e.trans e2) hq2 fun d w H3 e3 r3 hq3 => by
    obtain ⟨a, vs, rfl, hp, hw⟩ := r
    have h2 := rep_ints hw
    subst h2
    obtain ⟨p, kvs, rfl, hd, hv⟩ := r3
    refine ⟨p, _, rfl, DGet.t (k := keyOf k.l) hd (by rw [keyOf_kV]; exact e3 _ _ hp), ?_⟩
    rw [(ent_get k.l hv).1]
    exact hq3 _ H3 (Same.refl _) rfl
theorem g_dget {ma : R (Tu Int)} {mb : R (Dct β)} (hb : Gr K E tb σ F H mb) (ha : Gr K E ta σ H H ma) (hF : Same F H) : Gr K E (tDGet tb ta) σ F H (R.bd mb fun d => R.bd ma fun k => getR d k) := fun H1 e Q hq =>
  gr_seq hb e hq fun d w H2 e2 r hq2 => gr_arg ha (e.trans e2) hq2 fun k v H3 e3 r3 hq3 => by
    obtain ⟨a, vs, rfl, hp, hw⟩ := r3
    have h2 := rep_ints hw
    subst h2
    obtain ⟨p, kvs, rfl, hd, hv⟩ := r
    unfold getR Dct.get at hq3
    cases q : getL d.l k.l with
    | none => rw [q] at hq3; exact hq3.elim
    | some x =>
      rw [q] at hq3
      obtain ⟨z, h1, h2⟩ := (ent_get k.l hv).2 x q
      refine ⟨p, z, rfl, ?_, hq3 z H3 (Same.refl _) (Rp.mono (mix_mono e3) h2)⟩
      rw [← h1]
      exact DGet.t (e3 _ _ (mix_same hF (e.trans e2) _ _ hd)) (by rw [keyOf_kV]; exact hp)
theorem g_dlen {m : R (Dct β)} (h : Gr K E ta σ F H m) (hF : Same F H) : Gr K E (tCB rLenT (tCons ta tNil)) σ F H (R.bd m fun d => .ok (d.l.length : Int)) := fun H1 e Q hq =>
  gr_seq h e hq fun d v H2 e2 r hq2 => by
    obtain ⟨p, kvs, rfl, hd, hv⟩ := r
    refine ⟨p, kvs, rfl, mix_same hF (e.trans e2) _ _ hd, ?_⟩
    rw [hv.length]
    exact hq2 _ H2 (Same.refl _) rfl
/-- d[k] = v, d ours -/
theorem s_dput {p : Addr} {d : Dct α} {m : R α} {mk : R (Tu Int)} {k : Dct α → R β} {kk : β → Prop} (ha : At to σ H p) (o : Own K H0 b F H p d) (he : Gr K E te σ (Bs H0 F b) H m) (hi : Gr K E ti σ H H mk) (hF : Same F H) (e0 : Same H0 H)
    (hQ : Wp (R.bd (R.bd m fun a => R.bd mk fun i => putR d i a) k) kk (EE K E H0))
    (c : ∀ d' F' H', Nx (fun q => q = p) F H F' H' → Same H0 H' → Own K H0 b F' H' p d' → Wp (k d') kk (EE K E H0) → D.nx σ H') : sDPut to ti te D σ H := by
  obtain ⟨h0, f, _, hp, kvs, rfl, r⟩ := o
  refine he H (Same.refl _) _ ?_
  rw [bd_assoc, wp_bd] at hQ
  refine wp_mono hQ (fun a _ q v H2 e2 rv => ?_) fun c _ z => z.mono e0
  refine ha H2 e2 _ ?_
  refine hi H2 e2 _ ?_
  rw [bd_assoc, wp_bd] at q
  refine wp_mono q (fun i _ q w H3 e3 ri => ?_) fun c _ z => z.mono (e0.trans e2)
  obtain ⟨bb, vs, rfl, hb, hw⟩ := ri
  have h2 := rep_ints hw
  subst h2
  have e3' := e2.trans e3
  have hb3 := mix_same (Same.refl _) e3' _ _ hb
  unfold putR gd at q
  split at q
  · rename_i cl
    refine ⟨p, _, rfl, DPut.t (k := keyOf i.l) (e3 p _ (e2 p _ hp)) (by rw [keyOf_kV]; exact hb3) (lim_line' (by rw [r.length]; exact cl)), ?_⟩
    exact c _ (mix F H H3) _ (nx_upd hF e3' hp f) (e0_upd e0 e3' h0) ⟨h0, by rw [mix_old hp]; exact f, _, upd_same, _, rfl, ent_put (Rp.mono ((mix_mono e3).trans (bs_mix e0 hF e3')) rv) (ent_mono (bs_ff (same_mix hF)) r)⟩ q
  · exact q.elim
/-! the keys, sorted -/
theorem reads_ints {h : Heap} : ∀ {ns : List Int} {us : List Value} {as : List Addr}, ReadsAll h us (ns.map PyData.int) as → as = []
  | [], _, _, r => by
    have r' : ReadsAll h _ [] _ := r
    cases r'
    rfl
  | n :: ns, _, _, r => by
    have r' : ReadsAll h _ (PyData.int n :: ns.map PyData.int) _ := r
    cases r' with
    | cons h1 h2 =>
      cases h1
      rw [reads_ints h2]
      rfl
theorem ints_reads {h : Heap} : ∀ {ns : List Int} {us : List Value}, Vals (ns.map V.int) us → ReadsAll h us (ns.map PyData.int) []
  | [], _, r => by
    rw [List.map_nil] at r
    cases r
    exact .nil
  | n :: ns, _, r => by
    rw [List.map_cons] at r
    cases r with
    | cons h1 h2 =>
      obtain ⟨t, rfl⟩ := h1
      exact .cons (.int n t) (ints_reads h2)
abbrev encT (q : Addr × List Int) : PyData := .tuple (q.2.map PyData.int)
def rSortD (K : PySem.W.Frag) : List V → Hp → VK → Prop := fun vs H Q => ∃ (d : Addr) (kvs : List (List Key × V)) (ks : List (List Int)), vs = [V.ref d] ∧ H d = some (.dT kvs) ∧ kvs.map Prod.fst = ks.map keyOf ∧ (∀ k ∈ ks, k ≠ []) ∧
  ∀ l (ps : List (Addr × List Int)), H l = none → ps.map Prod.snd = ks → (∀ q ∈ ps, H q.1 = some (.tup (q.2.map V.int))) → Q (.ref l) (upd H l (.lst ((ps.mergeSort (W.dataLe false encT)).map fun q => V.ref q.1)))
theorem keys_pairs {H : Hp} : ∀ {kvs : List (List Key × V)} {xs : List (List Key × Addr × Value)} {ks : List (List Int)}, KT H kvs xs → kvs.map Prod.fst = ks.map keyOf → ∃ ps : List (Addr × List Int), ps.map Prod.snd = ks ∧ ps.map Prod.fst = xs.map (fun x => x.2.1) ∧ ∀ q ∈ ps, H q.1 = some (.tup (q.2.map V.int))
  | _, _, [], r, e => by
    cases r with
    | nil => exact ⟨[], rfl, rfl, fun q hq => by cases hq⟩
    | cons h t => simp at e
  | _, _, k :: ks, r, e => by
    cases r with
    | nil => simp at e
    | @cons p q ps qs h t =>
      rw [List.map_cons, List.map_cons, List.cons.injEq] at e
      obtain ⟨zs, h1, h2, h3⟩ := keys_pairs t e.2
      refine ⟨(q.2.1, k) :: zs, by simp [h1], by simp [h2], fun z hz => ?_⟩
      rcases List.mem_cons.mp hz with c | c
      · subst c
        have := h.2.1
        rw [e.1, keyOf_kV] at this
        exact this
      · exact h3 z c
theorem each_pairs {pins : List (Addr × Obj)} {X : Cx} {σ : L2.St} {H : Hp} {s : Shared} (I : Inv X pins σ H s) : ∀ (ps : List (Addr × List Int)), (∀ q ∈ ps, H q.1 = some (.tup (q.2.map V.int))) → W.EachIs (fun (v : Value) (q : Addr × List Int) => v = .ref q.1) (ps.map fun q => Value.ref q.1) ps ∧ W.EachIs (fun (v : Value) (q : Addr × List Int) => Reads s.heap v (encT q) []) (ps.map fun q => Value.ref q.1) ps
  | [], _ => ⟨.nil, .nil⟩
  | q :: ps, h => by
    obtain ⟨a, b⟩ := each_pairs I ps fun z hz => h z (List.mem_cons_of_mem _ hz)
    refine ⟨.cons rfl a, .cons ?_ b⟩
    obtain ⟨_, its, r, o, h1, h2, n, h3⟩ := (show ObjOk X.prog X.w H s.heap q.1 (.tup (q.2.map V.int)) from I.hok q.1 _ (h q List.mem_cons_self))
    exact .tuple h1 h2 h3 (by simpa using ints_reads r)
theorem each_refs {ps : List (Addr × List Int)} : ∀ {vs : List Value}, W.EachIs (fun (v : Value) (q : Addr × List Int) => v = .ref q.1) vs ps → vs = ps.map fun q => Value.ref q.1 := by
  induction ps with
  | nil => intro vs h; cases h; rfl
  | cons q ps ih => intro vs h; cases h with
    | cons h1 h2 => rw [h1, ih h2]; rfl
theorem vals_refs2 : ∀ ps : List (Addr × List Int), Vals (ps.map fun q => V.ref q.1) (ps.map fun q => Value.ref q.1)
  | [] => .nil
  | _ :: r => .cons rfl (vals_refs2 r)
theorem cr_sortD {X : Cx} (hc : X.calm = true) (hu : X.A.units + 64 < cLine) : CallR X (.builtin "sorted") (rSortD X.K) := by
  intro pins s σ H vs us Q I r h
  obtain ⟨d, kvs, ks, rfl, hd, hk, hne, q⟩ := h
  rw [Vals.ref1 r]
  obtain ⟨z, hs, ys, pr, o, es, ep, ho, hx, hdt, he, hn⟩ := (show ObjOk X.prog X.w H s.heap d (.dT kvs) from I.hok d _ hd)
  have l1 : es.size = ys.length := size_of_entries he
  have l2 : kvs.length = ys.length := Paired.length pr
  obtain ⟨ps, e1, e2, hps⟩ := keys_pairs pr hk
  have lp : ps.length = ys.length := by rw [← List.length_map (f := Prod.fst), e2, List.length_map]
  refine Calls.call_function_entry kind_sorted plain_sorted entry_sorted (args_sorted1 _) ?_
  unfold Builtin.«sorted»
  refine wpAny_bind (m := checkCount "sorted" 1 1 _) (wpAny_pure ?_)
  refine wpAny_bind (W.kdu_collect (A := X.A.in1) (kdl_raw hs hx hdt) (I.ok.hd hc) ho (by omega) fun h' tk acc kp it => ?_)
  have ea : acc.toList = ps.map fun q => Value.ref q.1 := by
    have hl : acc.toList.length = ys.length := by rw [Array.length_toList, it.1]; exact l1
    apply List.ext_getElem?
    intro j
    rw [List.getElem?_map]
    cases hj : acc.toList[j]? with
    | none => rw [List.getElem?_eq_none (by have := List.getElem?_eq_none_iff.mp hj; omega)]; rfl
    | some v =>
      obtain ⟨en, hen, hv⟩ := it.2 j v (by rw [← Array.getElem?_toList]; exact hj)
      have qe := entry_at he j
      rw [hen] at qe
      have hpj := congrArg (fun l => l[j]?) e2
      simp only [List.getElem?_map] at hpj
      cases hb : ys[j]? with
      | none => rw [hb] at qe; cases qe
      | some b =>
        rw [hb] at qe hpj
        have e3 : en = entryOfKey (tupleKind (mixKind X.prog X.w)) b := Option.some.inj qe
        cases hp : ps[j]? with
        | none => rw [hp] at hpj; cases hpj
        | some p =>
          rw [hp] at hpj
          have e4 : p.1 = b.2.1 := by simpa using hpj
          rw [hv, e3]
          show some (Value.ref b.2.1) = some (Value.ref p.1)
          rw [e4]
  have hz : acc.toList.length ≤ sizeLine := by rw [ea, List.length_map]; omega
  refine wpAny_bind (wpAny_newList ?_ hz)
  have I1 : Inv X pins σ H { s with heap := h', toks := tk } := I.kept (t' := tk) kp
  have hat : (h'.push { cls := .type "list", data := .seq acc.toList.toArray }).get? h'.objs.size = some (seqObj "list" acc.toList.toArray 0) := Heap.get?_push_size _ rfl
  have old : ∀ b o, h'.get? b = some o → (h'.push { cls := .type "list", data := .seq acc.toList.toArray }).get? b = some o := fun b o e => Heap.get?_push_of_some _ e
  have I2 : Inv X pins σ H { s with heap := h'.push { cls := .type "list", data := .seq acc.toList.toArray }, toks := tk } := I1.kept (t' := tk) old
  obtain ⟨ec1, ec2⟩ := each_pairs I2 ps hps
  rw [← ea] at ec1 ec2
  refine wpAny_bind (wpAny_holding (wpAny_mono (W.list_sort_data (A := X.A.in1) (s := { s with heap := h'.push { cls := .type "list", data := .seq acc.toList.toArray }, toks := tk }) (Q := fun _ s' => EP X pins σ Q (.ref h'.objs.size) s') (enc := encT) (bs := ps) hat ec1 (ec2.mono fun _ _ w => ⟨[], w, by simp⟩) (W.AllAlike.of fun b b' => by
    show W.alike (.tuple _) (.tuple _) = true
    simp only [W.alike]
    exact W.alike_ints _ _) (.inl fun dd hdd => ?_) (by omega) (fun b hb => ?_) fun out hlen hE => ?_) (fun v s' w => ?_) fun _ _ e => e))
  · obtain ⟨b, hb, rfl⟩ := List.mem_map.mp hdd
    have : b.2 ≠ [] := hne _ (by rw [← e1]; exact List.mem_map.mpr ⟨b, hb, rfl⟩)
    cases w : b.2 with
    | nil => exact absurd w this
    | cons x l => exact ⟨.int x, l.map PyData.int, by show PyData.tuple (b.2.map PyData.int) = _; rw [w]; rfl⟩
  · show X.A.units + 1 + 1 + (PyData.tuple (b.2.map PyData.int)).depth < cLine
    have := W.depth_ints b.2
    simp only [PyData.depth, this]
    omega
  · have eo := each_refs hE
    obtain ⟨c, hc2⟩ := sortedHeap_at (out := List.toArray out) hat
    have kp2 : ∀ b o, h'.get? b = some o → (sortedHeap (h'.push { cls := .type "list", data := .seq acc.toList.toArray }) h'.objs.size acc.toList (List.toArray out)).get? b = some o := fun b o e => by
      have e3 := old b o e
      have lt : b < h'.objs.size := Heap.lt_size e
      rw [sortedHeap_old (Nat.ne_of_lt lt) (Heap.lt_size e3)]
      exact e3
    refine ⟨.ref h'.objs.size, _, I1.laid (t' := tk) (o := .lst ((ps.mergeSort (W.dataLe false encT)).map fun q => V.ref q.1)) kp2 (Nat.le_refl _) ⟨by rw [List.length_map, List.length_mergeSort]; omega, out, c, ?_, hc2⟩, rfl, q _ ps (I1.hok.fresh (Nat.le_refl _)) e1 hps⟩
    rw [eo]
    exact vals_refs2 _
  · exact wpAny_pure ⟨_, rfl, w⟩
end
section
variable {K : PySem.W.Frag} {E : XK} {σ : L2.St} {H0 F H F' H' : Hp} {ta tb te tl to ti tk tv td : TE} {α β γ δ ρ : Type} [Rp α] [Rp β] [Rp γ] [Rp δ] [Rp ρ] {b : Bool}
/-- the keys in the order of tuples -/
noncomputable def keysR {β : Type} (d : Dct β) : R (List (Tu Int)) := gd (d.l.length ≤ lim ∧ ∀ e ∈ d.l, e.1 ≠ []) (.ok (d.keys.mergeSort fun a b => !Od.lt b a))
theorem dataLe_keys : (W.dataLe false encT) = fun (p q : Addr × List Int) => !Od.lt (Tu.mk q.2) (Tu.mk p.2) := by
  rw [W.dataLe_eq]
  funext p q
  show (!W.dataLt _ _) = _
  rw [← Od.lt_eq (Tu.mk q.2) (Tu.mk p.2)]
  rfl
theorem ent_fst {H : Hp} : ∀ {kvs : List (List Key × V)} {l : List (List Int × β)}, All2 (EntR K H) kvs l → kvs.map Prod.fst = (l.map Prod.fst).map keyOf
  | _, _, .nil => rfl
  | _, _, .cons r t => by rw [List.map_cons, List.map_cons, List.map_cons, r.1, ent_fst t]
theorem g_dsort {m : R (Dct β)} (h : Gr K E te σ H H m) : Gr K E (tCB (rSortD K) (tCons te tNil)) σ F H (R.bd m keysR) := fun H1 e Q hq =>
  gr_arg h e hq fun d v H2 e2 r hq2 => by
    obtain ⟨p, kvs, rfl, hp, hv⟩ := r
    unfold keysR gd at hq2
    split at hq2
    · rename_i c
      refine ⟨p, kvs, d.l.map Prod.fst, rfl, hp, ent_fst hv, fun k hk => ?_, fun l ps hl e1 hps => hq2 _ _ (same_upd hl) ?_⟩
      · obtain ⟨x, hx, rfl⟩ := List.mem_map.mp hk
        exact c.2 x hx
      · have hn : H l = none := Same.free (e.trans e2) hl
        refine ⟨l, _, rfl, by rw [mix_new hn]; exact upd_same, ?_⟩
        have ek : d.keys.mergeSort (fun a b => !Od.lt b a) = (ps.mergeSort (W.dataLe false encT)).map fun q => Tu.mk q.2 := by
          rw [dataLe_keys, List.map_mergeSort (r := fun p q : Addr × List Int => !Od.lt (Tu.mk q.2) (Tu.mk p.2)) (s := fun a b : Tu Int => !Od.lt b a) (f := fun q => Tu.mk q.2) (fun a _ b _ => rfl)]
          congr 1
          show d.l.map (fun e => Tu.mk e.1) = _
          have := congrArg (fun z => z.map (Tu.mk (α := Int))) e1
          simp only [List.map_map] at this
          exact this.symm
        rw [ek]
        have key : ∀ zs : List (Addr × List Int), (∀ q ∈ zs, H2 q.1 = some (.tup (q.2.map V.int))) → All2 (Rp.rep K (mix F H (upd H2 l (.lst ((ps.mergeSort (W.dataLe false encT)).map fun q => V.ref q.1))))) (zs.map fun q => V.ref q.1) (zs.map fun q => Tu.mk q.2) := by
          intro zs
          induction zs with
          | nil => exact fun _ => .nil
          | cons z zs ih =>
            intro hz
            exact .cons ⟨z.1, _, rfl, tup_mix (e.trans e2) (same_upd hl) (hz z List.mem_cons_self), ints_rep _⟩ (ih fun q hq => hz q (List.mem_cons_of_mem _ hq))
        exact key _ fun q hq => hps q ((List.mergeSort_perm _ _).subset hq)
    · exact hq2.elim
/-- list(d) -/
theorem g_dkeys {m : R (Dct β)} (h : Gr K E te σ H H m) : Gr K E (tCB (fun xs H Q => ∃ d kvs, xs = [V.ref d] ∧ Rd H d (.dT kvs) ∧ ∀ p bs, H p = none → IsKeys H kvs bs → Q (.ref p) (upd H p (.lst (bs.map V.ref)))) (tCons te tNil)) σ F H (R.bd m fun d => .ok d.keys) := fun H1 e Q hq =>
  gr_arg h e hq fun d v H2 e2 r hq2 => by
    obtain ⟨p, kvs, rfl, hp, hv⟩ := r
    refine ⟨p, kvs, rfl, .inl hp, fun l bs hl hk => hq2 _ _ (same_upd hl) ?_⟩
    have hn : H l = none := Same.free (e.trans e2) hl
    refine ⟨l, _, rfl, by rw [mix_new hn]; exact upd_same, ?_⟩
    have a := ent_keys hv hk
    show All2 _ (bs.map V.ref) (d.l.map fun e => Tu.mk e.1)
    rw [show d.l.map (fun e => Tu.mk e.1) = (d.l.map Prod.fst).map Tu.mk by rw [List.map_map]; rfl]
    have key : ∀ {bs : List Addr} {ls : List (List Int)}, All2 (fun b ns => H2 b = some (.tup (ns.map V.int))) bs ls → All2 (Rp.rep K (mix F H (upd H2 l (.lst (bs.map V.ref))))) (bs.map V.ref) (ls.map Tu.mk) := by
      intro bs ls h
      have gen : ∀ {o : HO} {bs : List Addr} {ls : List (List Int)}, All2 (fun b ns => H2 b = some (.tup (ns.map V.int))) bs ls → All2 (Rp.rep K (mix F H (upd H2 l o))) (bs.map V.ref) (ls.map Tu.mk) := by
        intro o bs ls h
        induction h with
        | nil => exact .nil
        | cons r t ih => exact .cons ⟨_, _, rfl, tup_mix (e.trans e2) (same_upd hl) r, ints_rep _⟩ ih
      exact gen h
    exact key a
end
theorem cr_sortDK {X : Cx} {K : PySem.W.Frag} (h : X.K = K) (hc : X.calm = true) (hu : X.A.units + 64 < cLine) : CallR X (.builtin "sorted") (rSortD K) := by subst h; exact cr_sortD hc hu
/-- a new dict that becomes ours -/
theorem dct_new {K : PySem.W.Frag} {H0 F H H2 : Hp} {β : Type} [Rp β] [Im β] {b : Bool} {v : V} {a : Dct β} (e0 : Same H0 H) (e2 : Same H H2) (r : Rp.rep K (mix nil0 H H2) v a) : ∃ p o, v = .ref p ∧ H p = none ∧ H2 p = some o ∧ tupB (some o) = false ∧ Cel.cel K (Bs H0 (delH (mix F H H2) p) b) o a := by
  obtain ⟨p, kvs, rfl, hp, hv⟩ := r
  have pn : H p = none ∧ H2 p = some (.dT kvs) := by
    rcases mix_cases hp with z | ⟨_, z⟩ | ⟨_, _, _, z⟩
    · exact z
    · cases z
    · cases z
  obtain ⟨hn, hp2⟩ := pn
  exact ⟨p, _, rfl, hn, hp2, rfl, kvs, rfl, hv.mono fun _ _ z => ⟨z.1, Im.mv (tup_bs e0 e2 fun xs w => by rw [hp2] at w; cases w) z.2⟩⟩
theorem s_asgD {K : PySem.W.Frag} {E : XK} {σ : L2.St} {H0 F H : Hp} {te : TE} {α β : Type} [Rp α] [Rp β] [Im α] {D : Ends} {b : Bool} {i : Nat} {m : R (Dct α)} {k : Dct α → R β} {kk : β → Prop} (he : Gr K E te σ nil0 H m) (hF : Same F H) (e0 : Same H0 H) (hQ : Wp (R.bd m k) kk (EE K E H0))
    (c : ∀ a p F' H', Nx0 F H F' H' → Same H0 H' → Own K H0 b F' H' p a → (∀ q, (∃ u, H q = some u) → q ≠ p) → Wp (k a) kk (EE K E H0) → D.nx (σ.set i (some (.ref p))) H') : tAsg te (gName i) D σ H :=
  s_asgC he hF e0 (fun e2 r => dct_new e0 e2 r) hQ c
end G

set_option Elab.async false
set_option linter.all false
set_option maxRecDepth 100000
set_option maxHeartbeats 4000000
/-! G: what a call has told alone is lent to us: its cells G are nobody else's, and it may be changed once. -/
namespace G
open PySem PySem.Spec PyProof.Rows L2
structure Lent {α : Type} [Rp α] (K : PySem.W.Frag) (H0 F H G : Hp) (v : V) (a : α) : Prop where
  rep : Rp.rep K G v a
  gh : Same G H
  gf : ∀ q o, tupB (some o) = false → G q = some o → F q = none ∧ H0 q = none
section
variable {K : PySem.W.Frag} {E : XK} {σ : L2.St} {H0 F H F' H' G G2 : Hp} {ta tb te tl to ti : TE} {α β γ δ ρ S : Type} [Rp α] [Rp β] [Rp γ] [Rp δ] [Rp ρ] {D : Ends} {b : Bool} {P : Addr → Prop} {v : V} {a : α}
theorem Lent.see (l : Lent K H0 F H G v a) : Rp.rep K H v a := Rp.mono l.gh l.rep
theorem Lent.nx (l : Lent K H0 F H G v a) (n : Nx P F H F' H') (hp : ∀ q, P q → G q = none) : Lent K H0 F' H' G v a :=
  ⟨l.rep, fun q o h => n.hh q o (fun z => by rw [hp q z] at h; cases h) (l.gh q o h), fun q o z h => ⟨n.own q o z (l.gh q o h) (l.gf q o z h).1, (l.gf q o z h).2⟩⟩
theorem Lent.nx0 (l : Lent K H0 F H G v a) (n : Nx0 F H F' H') : Lent K H0 F' H' G v a := l.nx n fun _ z => z.elim
theorem Lent.fz {F1 : Hp} {p : Addr} (l : Lent K H0 F H G v a) (f : ∀ q, q ≠ p → F1 q = F q) (hp : G p = none) : Lent K H0 F1 H G v a :=
  ⟨l.rep, l.gh, fun q o z h => ⟨by rw [f q (fun w => by rw [w, hp] at h; cases h)]; exact (l.gf q o z h).1, (l.gf q o z h).2⟩⟩
theorem Lent.new {p : Addr} (l : Lent K H0 F H G v a) (nw : ∀ q, (∃ u, H q = some u) → q ≠ p) : G p = none := by
  cases q : G p with
  | none => rfl
  | some u => exact absurd rfl (nw p ⟨u, l.gh p u q⟩)
theorem Lent.none {p : Addr} (l : Lent K H0 F H G v a) (h : H p = none) : G p = none := by
  cases q : G p with
  | none => rfl
  | some u => rw [l.gh p u q] at h; cases h
theorem own_nl {τ : Type} [Rp τ] [Cel τ] {p : Addr} {x : τ} (o : Own K H0 b F H p x) (h : ∀ q u, H q = some u → tupB (some u) = false → G q = none) : G p = none := by
  obtain ⟨_, _, u, h1, r⟩ := o
  exact h p u h1 (Cel.nt r)
/-- what is told is lent -/
theorem s_asgT {i : Nat} {m : R α} {k : α → R β} {kk : β → Prop} (he : Gr K E te σ nil0 H m) (hF : Same F H) (e0 : Same H0 H) (hQ : Wp (R.bd m k) kk (EE K E H0))
    (c : ∀ a v F' H' G, Nx0 F H F' H' → Same H0 H' → Lent K H0 F' H' G v a → (∀ q u, H q = some u → tupB (some u) = false → G q = none) → Wp (k a) kk (EE K E H0) → D.nx (σ.set i (some v)) H') : tAsg te (gName i) D σ H := by
  refine he H (Same.refl _) _ ?_
  rw [wp_bd] at hQ
  refine wp_mono hQ (fun a _ q v H2 e2 r => ?_) fun c _ z => z.mono e0
  have key : ∀ x o, H x = some o → tupB (some o) = false → mix nil0 H H2 x = none := fun x o h z => by rw [mix_old h z]
  refine c a v F H2 (mix nil0 H H2) ⟨Same.refl _, fun x o _ h => e2 x o h, hF.trans e2, fun _ _ _ _ n => n, fun x o h => ⟨o, e2 x o h, rfl⟩⟩ (e0.trans e2) ⟨r, mix_same nil_same e2, fun x o z h => ?_⟩ key q
  have hn : H x = none := by
    rcases mix_cases h with ⟨z, _⟩ | ⟨_, w⟩ | ⟨_, _, _, w⟩
    · exact z
    · rw [z] at w; cases w
    · cases w
  exact ⟨Same.free hF hn, Same.free e0 hn⟩
theorem nx_del {H2 : Hp} {p : Addr} {vs ws : List V} (hF : Same F H) (e2 : Same H H2) (hp : H2 p = some (.lst vs)) (hf : F p = none) : Nx (fun q => q = p) F H (delH (mix F H H2) p) (upd H2 p (.lst ws)) :=
  ⟨fun x o h => by
    have : x ≠ p := fun z => by rw [z, hf] at h; cases h
    rw [delH_ne this]
    exact same_mix hF x o h, fun x o n h => by rw [upd_ne n]; exact e2 x o h, fun x o h => by
    unfold delH at h
    split at h
    · cases h
    · rename_i c
      rw [upd_ne (by simpa using c)]
      exact mix_same hF e2 x o h, fun x o z h n => by
    unfold delH
    split
    · rfl
    · rw [mix_old h z]; exact n, fun x u h => by
    by_cases c : x = p
    · have h2 := e2 x u h
      rw [c, hp] at h2
      cases h2
      exact ⟨.lst ws, by rw [c]; exact upd_same, rfl⟩
    · rw [upd_ne c]; exact ⟨_, e2 x u h, rfl⟩⟩
/-- x.append(e), x lent or a part of it: afterwards it is gone -/
theorem s_appDie {γ : Type} [Rp γ] {ε : Type} [Rp ε] {m : R (List γ)} {me : R δ} {k : Unit → R β} {kk : β → Prop} {a0 : ε} (l : Lent K H0 F H G v a0) (ht : Gr K E to σ G H m) (he : Gr K E te σ H H me) (hF : Same F H) (e0 : Same H0 H)
    (hQ : Wp (R.bd (R.bd m fun xs => R.bd me fun _ => gd (xs.length < lim) (.ok ())) k) kk (EE K E H0))
    (c : ∀ p F' H', Nx (fun q => q = p) F H F' H' → Same H0 H' → (∀ q, G q = none → (∃ u, H q = some u) → q ≠ p) → Wp (k ()) kk (EE K E H0) → D.nx σ H') : tDrop (tBM K "list" rAppend to (tCons te tNil)) D σ H := by
  refine ht H (Same.refl _) _ ?_
  rw [bd_assoc, wp_bd] at hQ
  refine wp_mono hQ (fun xs _ q v1 H2 e2 r => ?_) fun c _ z => z.mono e0
  obtain ⟨p, vs, rfl, hp, hv⟩ := r
  have hg : (H p = none ∧ G p = none) ∨ G p = some (.lst vs) := by
    rcases mix_cases hp with ⟨z, _⟩ | ⟨_, w⟩ | ⟨_, _, _, w⟩
    · exact .inl ⟨z, l.none z⟩
    · cases w
    · exact .inr w
  have hp2 := mix_same l.gh e2 _ _ hp
  have hf : F p = none := hg.elim (fun z => Same.free hF z.1) fun z => (l.gf p _ rfl z).1
  have h0 : H0 p = none := hg.elim (fun z => Same.free e0 z.1) fun z => (l.gf p _ rfl z).2
  refine ⟨.inl ⟨rfl, _, SqL.of hp2⟩, ?_⟩
  refine he H2 e2 _ ?_
  rw [bd_assoc, wp_bd] at q
  refine wp_mono q (fun a _ q w H3 e3 rv => ?_) fun c _ z => z.mono (e0.trans e2)
  unfold gd at q
  split at q
  · rename_i cl
    refine ⟨p, vs, w, rfl, rfl, e3 p _ hp2, lim_line' (by rw [hv.length]; exact cl), ?_⟩
    exact c p _ _ (nx_del hF (e2.trans e3) (e3 p _ hp2) hf) (e0_upd e0 (e2.trans e3) h0) (fun x z ⟨u, hu⟩ w => by
      rw [w] at z hu
      rcases hg with y | y
      · rw [y.1] at hu; cases hu
      · rw [y] at z; cases z) q
  · exact q.elim
end
section
variable {K : PySem.W.Frag} {H0 F H : Hp} {b : Bool} {β : Type} [Rp β]
theorem rep_some {γ : Type} [Rp γ] [NN γ] {v : V} {a : γ} (r : Rp.rep K F v a) : Rp.rep K F v (some a) := ⟨NN.nn r, r⟩
theorem u1 {k : Nat} {A : Around} (r : Room k A) : A.units + 1 < cLine := by have := r.un; omega
theorem Own.repD [Im β] {p : Addr} {d : Dct β} (o : Own K H0 b F H p d) (hF : Same F H) : Rp.rep K (dif H0 H) (.ref p) d := by
  obtain ⟨h0, f, u, h, kvs, hu, r⟩ := o
  subst hu
  exact ⟨p, kvs, rfl, dif_of h0 h, r.mono fun _ _ z => ⟨z.1, Im.mv (fun q ys z => dif_tup rfl ((bs_le.trans hF) _ _ z)) z.2⟩⟩
theorem Own.frzD [Im β] {p : Addr} {d : Dct β} (o : Own K H0 b F H p d) (hF : Same F H) : ∃ F', Same F F' ∧ Same F' H ∧ (∀ q, q ≠ p → F' q = F q) ∧ Rp.rep K (dif H0 F') (.ref p) d := by
  obtain ⟨F', h1, h2, h3, h4, h5⟩ := o.frz hF
  obtain ⟨q, kvs, e, h, r⟩ := h4
  cases e
  exact ⟨F', h1, h2, h3, p, kvs, rfl, dif_of o.h0 h, r.mono fun _ _ z => ⟨z.1, Im.mv (fun q ys z => dif_tup rfl z) z.2⟩⟩
end
end G

set_option Elab.async false
set_option linter.all false
set_option maxRecDepth 100000
set_option maxHeartbeats 4000000
/-! G: max with a default; pop at a place; pop within an expression. -/
namespace G
open PySem PySem.Spec PyProof.Rows L2
/-! ### max(.., default=) -/
def maxDf (xs : List Int) (d : Int) : Int := match xs with
  | [] => d
  | x :: l => l.foldl (fun a y => if a < y then y else a) x
def rMaxDf (K : PySem.W.Frag) : List V → List V → Hp → VK → Prop := fun vs zs H Q => ∃ (a : Addr) (ns : List Int) (d : Int), vs = [V.ref a] ∧ zs = [V.int d] ∧ SqL K H a (ns.map V.int) ∧ Q (.int (maxDf ns d)) H
theorem cr_maxDf {X : Cx} (hc : X.calm = true) (hu : X.A.units + 64 < cLine) : CallRK X (.builtin "max") [Str.ofString "default"] (rMaxDf X.K) := by
  intro pins s σ H vs zs us ws Q I r r2 h
  obtain ⟨a, ns, d, rfl, rfl, hs, q⟩ := h
  obtain ⟨its, rv, hl, hz⟩ := I.list hs
  rw [Vals.ref1 r]
  cases r2 with
  | cons r3 r4 =>
    cases r4
    obtain ⟨t, rfl⟩ := r3
    show wpAny _ _ (call (.builtin "max") [.ref a] [(Str.ofString "default", .int d t)]) _ _ _
    refine W.max_list_datum_default (α := Int) (xs := ns) (I.ok.hd hc) hl.isList (vs := its.toArray) ⟨[], by
      show ReadsAll s.heap its.toArray.toList (ns.map PyData.int) []
      rw [List.toList_toArray]
      exact ints_reads rv⟩ (by show X.A.units + 1 + 0 < cLine; omega) (fun e h' tk hk => ?_) fun y ys i v h' tk e hi hv hk => ?_
    · subst e
      exact ⟨.int d, H, I.kept hk, ⟨t, rfl⟩, q⟩
    · subst e
      obtain ⟨bs, hR⟩ := hv
      have hR' : Reads h' v (.int (W.maxOf y ys)) bs := hR
      cases hR'
      rename_i t2
      refine ⟨.int (maxDf (y :: ys) d), H, I.kept hk, ⟨t2, ?_⟩, q⟩
      have : W.maxOf y ys = maxDf (y :: ys) d := by
        unfold W.maxOf maxDf
        congr 1
        funext a b
        show (if decide (a < b) = true then b else a) = _
        by_cases c : a < b
        · rw [if_pos (decide_eq_true c), if_pos c]
        · rw [if_neg (by simpa using c), if_neg c]
      rw [this]
section
variable {K : PySem.W.Frag} {E : XK} {σ : L2.St} {H0 F H F' H' : Hp} {ta tb te tl to ti td : TE} {tr : TA} {α β γ δ : Type} [Rp α] [Rp β] [Rp γ] [Rp δ] {D : Ends} {b b' : Bool}
theorem g_maxDf {m : R (List Int)} {md : R Int} (h : Gr K E ta σ H H m) (hd : Gr K E td σ H H md) : Gr K E (tCKw (rMaxDf K) (tCons ta tNil) (tCons td tNil)) σ F H (R.bd m fun xs => R.bd md fun d => .ok (maxDf xs d)) := fun H1 e Q hq =>
  gr_arg h e hq fun xs v H2 e2 r hq2 => gr_arg hd (e.trans e2) hq2 fun d w H3 e3 r3 hq3 => by
    obtain ⟨p, vs, rfl, hp, hv⟩ := r
    have r3' : w = .int d := r3
    subst r3'
    have := rep_ints hv
    subst this
    exact ⟨p, xs, d, rfl, rfl, SqL.of (e3 p _ hp), hq3 _ H3 (Same.refl _) rfl⟩
/-- a value at hand -/
theorem g_con {v : V} {a : α} (r : Rp.rep K F v a) (hF : Same F H) : Gr K E (tC v) σ F H (.ok a) := fun H1 e Q hq => hq _ H1 (Same.refl _) (Rp.mono (same_mix hF) r)
/-! ### pop at a place -/
noncomputable def popAtR {α : Type} (xs : List α) (i : Int) : R (List α) := match seqIndex? i xs.length with
  | some k => gd (-(2 ^ 63) ≤ i ∧ i < 2 ^ 63 ∧ k < xs.length) (.ok (xs.eraseIdx k))
  | none => .bad
theorem all2_erase {A B : Type} {P : A → B → Prop} : ∀ {xs : List A} {ys : List B} (k : Nat), All2 P xs ys → All2 P (xs.eraseIdx k) (ys.eraseIdx k)
  | _, _, _, .nil => by simp; exact .nil
  | _, _, 0, .cons _ t => t
  | _, _, k + 1, .cons r t => .cons r (all2_erase k t)
theorem s_popAt {p : Addr} {xs : List α} {m : R Int} {k : List α → R β} {kk : β → Prop} (ha : At to σ H p) (o : Own K H0 b F H p xs) (he : Gr K E te σ H H m) (hF : Same F H) (e0 : Same H0 H)
    (hQ : Wp (R.bd (R.bd m fun i => popAtR xs i) k) kk (EE K E H0))
    (c : ∀ xs' F' H', Nx (fun q => q = p) F H F' H' → Same H0 H' → Own K H0 b F' H' p xs' → Wp (k xs') kk (EE K E H0) → D.nx σ H') : tDrop (tBM K "list" rPopAt to (tCons te tNil)) D σ H := by
  obtain ⟨h0, f, vs, hp, r⟩ := o.lst
  refine ha H (Same.refl _) _ ⟨.inl ⟨rfl, _, SqL.of hp⟩, ?_⟩
  refine he H (Same.refl _) _ ?_
  rw [bd_assoc, wp_bd] at hQ
  refine wp_mono hQ (fun i _ q v H2 e2 rv => ?_) fun c _ z => z.mono e0
  have rv' : v = .int i := rv
  subst rv'
  have hl := r.length
  cases z : seqIndex? i xs.length with
  | none =>
    have q : Wp (R.bd (popAtR xs i) k) kk (EE K E H0) := q
    unfold popAtR at q
    rw [z] at q
    exact q.elim
  | some j =>
    have q : Wp (R.bd (popAtR xs i) k) kk (EE K E H0) := q
    unfold popAtR at q
    rw [z] at q
    simp only [] at q
    unfold gd at q
    split at q
    · rename_i cl
      obtain ⟨c1, c2, c3⟩ := cl
      refine ⟨p, vs, i, j, vs[j]'(by omega), rfl, rfl, e2 p _ hp, c1, c2, by rw [hl]; exact z, List.getElem?_eq_getElem _, ?_⟩
      exact c _ (mix F H H2) _ (nx_upd hF e2 hp f) (e0_upd e0 e2 h0) (Own.of h0 (by rw [mix_old hp]; exact f) upd_same (all2_erase j (r.mono fun _ _ x => Rp.mono (bs_ff (same_mix hF)) x))) q
    · exact q.elim
/-! ### pop within an expression -/
/-- the last one and the rest -/
def lastR {α : Type} (xs : List α) : R (α × List α) := match xs.getLast? with
  | some a => .ok (a, xs.dropLast)
  | none => .bad
theorem all2_last {A B : Type} {P : A → B → Prop} {xs : List A} {ys : List B} {a : B} (h : All2 P xs ys) (e : ys.getLast? = some a) : ∃ x, xs[xs.length - 1]? = some x ∧ P x a := by
  rw [List.getLast?_eq_getElem?] at e
  have lt := (List.getElem?_eq_some_iff.mp e).1
  have hl := h.length
  have hx := List.getElem?_eq_getElem (l := xs) (i := xs.length - 1) (by omega)
  obtain ⟨y, hy, px⟩ := h.getL hx
  rw [hl, e] at hy
  cases hy
  exact ⟨_, hx, px⟩
/-- what is walked begins with a pop -/
theorem s_popIter {p : Addr} {xs : List α} {sp : Sp} {Ex : L2.St → XK} {g : TG} {tu : TS} {k : α × List α → R β} {kk : β → Prop} (ha : At tl σ H p) (o : Own K H0 b F H p xs) (hF : Same F H) (e0 : Same H0 H) (hQ : Wp (R.bd (lastR xs) k) kk (EE K E H0))
    (c : ∀ a xs' v F' H', Nx (fun q => q = p) F H F' H' → Same H0 H' → Own K H0 b F' H' p xs' → Rp.rep K (Bs H0 F' b) v a → Wp (k (a, xs')) kk (EE K E H0) → tFor (iList K (tCallS sp Ex (tCons (tC v) tr))) g tu D σ H') :
    tFor (iList K (tCallS sp Ex (tCons (tBM0 K "list" rPop tl) tr))) g tu D σ H := by
  obtain ⟨h0, f, vs, hp, r⟩ := o.lst
  show tl σ H _
  refine ha H (Same.refl _) _ ⟨.inl ⟨rfl, _, SqL.of hp⟩, ?_⟩
  unfold lastR at hQ
  cases z : xs.getLast? with
  | none => rw [z] at hQ; exact hQ.elim
  | some a =>
    rw [z] at hQ
    obtain ⟨y, hy, ry⟩ := all2_last r z
    refine ⟨p, vs, y, rfl, rfl, hp, hy, ?_⟩
    have n := nx_upd (o' := .lst vs.dropLast) hF (Same.refl H) hp f
    exact c a _ y _ _ n (e0_upd e0 (Same.refl _) h0) (Own.of h0 (by rw [mix_old hp]; exact f) upd_same (r.mono fun _ _ x => Rp.mono (bs_ff n.ff) x).dropLast) (Rp.mono (bs_ff n.ff) ry) hQ
/-- d[xs.pop()] = v -/
theorem s_dputPop {p q : Addr} {d : Dct α} {xs : List (Tu Int)} {m : R α} {k : List (Tu Int) × Dct α → R β} {kk : β → Prop} (ha : At to σ H p) (hb : At tl σ H q) (o : Own K H0 b F H p d) (ol : Own K H0 b' F H q xs) (ne : p ≠ q) (he : Gr K E te σ (Bs H0 F b) H m) (hF : Same F H) (e0 : Same H0 H)
    (hQ : Wp (R.bd (R.bd m fun a => R.bd (lastR xs) fun z => R.bd (putR d z.1 a) fun d' => .ok (z.2, d')) k) kk (EE K E H0))
    (c : ∀ xs' d' F1 H1 F2 H2, Nx (fun z => z = q) F H F1 H1 → Same H0 H1 → Nx (fun z => z = p) F1 H1 F2 H2 → Same H0 H2 → Own K H0 b' F1 H1 q xs' → Own K H0 b F2 H2 p d' → Wp (k (xs', d')) kk (EE K E H0) → D.nx σ H2) : sDPut to (tBM0 K "list" rPop tl) te D σ H := by
  obtain ⟨h0, f, _, hp, kvs, rfl, r⟩ := o
  obtain ⟨g0, fl, vs, hq, rl⟩ := ol.lst
  refine he H (Same.refl _) _ ?_
  rw [bd_assoc, wp_bd] at hQ
  refine wp_mono hQ (fun a _ w v H2 e2 rv => ?_) fun c _ z => z.mono e0
  refine ha H2 e2 _ ?_
  refine hb H2 e2 _ ⟨.inl ⟨rfl, _, SqL.of (e2 q _ hq)⟩, ?_⟩
  unfold lastR at w
  cases z : xs.getLast? with
  | none => rw [z] at w; exact w.elim
  | some t =>
    rw [z] at w
    obtain ⟨y, hy, ry⟩ := all2_last rl z
    obtain ⟨bb, us, rfl, hbb, hw⟩ := ry
    have h2 := rep_ints hw
    subst h2
    refine ⟨q, vs, _, rfl, rfl, e2 q _ hq, hy, ?_⟩
    have n1 := nx_upd (o' := .lst vs.dropLast) hF e2 hq fl
    have hbH : H bb = some (.tup (t.l.map V.int)) := (bs_le.trans hF) _ _ hbb
    have b1 : (upd H2 q (.lst vs.dropLast)) bb = some (.tup (t.l.map V.int)) := by
      rw [upd_ne (fun z => by rw [z, hq] at hbH; cases hbH)]
      exact e2 _ _ hbH
    have p1 : (upd H2 q (.lst vs.dropLast)) p = some (.dT kvs) := by rw [upd_ne ne]; exact e2 p _ hp
    have w : Wp (R.bd (R.bd (putR d t a) fun d' => .ok (xs.dropLast, d')) k) kk (EE K E H0) := w
    unfold putR gd at w
    split at w
    · rename_i cl
      have e01 := e0_upd (o' := .lst vs.dropLast) e0 e2 g0
      have fp : mix F H H2 p = none := by rw [mix_old hp]; exact f
      have n2 := nx_upd (o' := .dT (putK kvs (keyOf t.l) v)) n1.fh (Same.refl _) p1 fp
      refine ⟨p, _, rfl, DPut.t (k := keyOf t.l) p1 (by rw [keyOf_kV]; exact b1) (lim_line' (by rw [r.length]; exact cl)), ?_⟩
      refine c xs.dropLast _ _ _ _ _ n1 e01 n2 (e0_upd e01 (Same.refl _) h0) (Own.of g0 (by rw [mix_old hq]; exact fl) upd_same (rl.mono fun _ _ x => Rp.mono (bs_ff n1.ff) x).dropLast) ⟨h0, by rw [mix_old p1]; exact fp, _, upd_same, _, rfl, ent_put (Rp.mono ((bs_mix e0 hF e2).trans (bs_ff n2.ff)) rv) (ent_mono ((bs_ff n1.ff).trans (bs_ff n2.ff)) r)⟩ w
    · exact w.elim
end
end G

set_option Elab.async false
set_option linter.all false
set_option maxRecDepth 100000
set_option maxHeartbeats 4000000
/-! G: list(range(n)). -/
namespace G
open PySem PySem.Spec PyProof.Rows L2
section
variable {K : PySem.W.Frag} {E : XK} {σ : L2.St} {F H : Hp} {te : TE}
noncomputable def rngLst (n : Int) : R (List Int) := gd (0 ≤ n ∧ n ≤ 16777216) (.ok (rngL 0 n))
theorem g_listRg {m : R Int} (h : Gr K E te σ H H m) : Gr K E (tLstRg (tRg1 te)) σ F H (R.bd m rngLst) := fun H1 e Q hq =>
  gr_arg h e hq fun n v H2 e2 r hq2 => by
    have r' : v = .int n := r
    subst r'
    unfold rngLst gd at hq2
    split at hq2
    · rename_i c
      refine ⟨n, rfl, RgOk.of_le (by omega) (by omega) (by omega) (by omega), fun l hl => hq2 _ _ (same_upd hl) ?_⟩
      have hn : H l = none := Same.free (e.trans e2) hl
      have : rgV 0 n = (rngL 0 n).map V.int := by unfold rgV rngL; rw [List.map_map]; rfl
      exact ⟨l, _, rfl, by rw [mix_new hn]; exact upd_same, by rw [this]; exact ints_rep _⟩
    · exact hq2.elim
end
section
variable {K : PySem.W.Frag} {E : XK} {σ : L2.St} {H0 F H F' H' : Hp} {α β γ : Type} [Rp α] [Rp β] [Rp γ] {D : Ends}
theorem g_compGG {RR : Hp → V → List β → Prop} {wi : TI} {g : TG} {tt : TT} {te : TE} {vs : List Nat} {m : R (List α)} {cf : α → R Bool} {f : α → R β} (hres : ∀ H3 Dl acc ys, H Dl = none → H3 Dl = some (.lst acc) → All2 (Rp.rep K (delH (mix F H H3) Dl)) acc (ys : List β) → RR H3 (.ref Dl) ys) (hi : GrI K E wi σ F H m) (hF : Same F H)
    (hel : ∀ x v F2 H2, Same F F2 → Same F2 H2 → Same H H2 → Rp.rep K F2 v x → ∃ σ2, (∀ Q : L2.St → Hp → Prop, Q σ2 H2 → g v (wipe σ vs) H2 Q) ∧ wipe σ2 vs = wipe σ vs ∧ GrT K EF tt σ2 H2 (cf x) ∧ Gr K EF te σ2 F2 H2 (f x)) :
    ∀ H1, Same H H1 → ∀ Q : VK, Wp (R.bd m fun xs => compR xs cf f) (fun b => ∀ v H2, Same H1 H2 → RR H2 v b → Q v H2) (EE K E H1) → tLc wi g tt te vs σ H1 Q := fun H1 e Q hq =>
  hi H1 e _ (by
    rw [wp_bd] at hq
    refine wp_mono hq (fun xs _ k J H2 e2 ok => ?_) fun _ _ z => z
    unfold compR gd at k
    split at k
    · rename_i cl
      intro Dl hD
      have hnD : H Dl = none := Same.free (e.trans e2) hD
      refine ⟨fun i m H' => m = xs.length - i ∧ i ≤ xs.length ∧ Same H2 H' ∧ ∃ acc ys, H' Dl = some (.lst acc) ∧ acc.length ≤ i ∧ All2 (Rp.rep K (delH (mix F H H') Dl)) acc ys ∧
        Wp (compGo cf f (xs.drop i)) (fun zs => ∀ H3, Same H1 H3 → H3 Dl = H3 Dl → ∀ v, RR H3 v (ys ++ zs) → Q v H3) (fun _ => False), ⟨_, rfl, Nat.zero_le _, same_upd hD, [], [], upd_same, Nat.le_refl _, .nil, ?_⟩, ?_⟩
      · rw [List.drop_zero]
        refine wp_mono k (fun zs _ q H3 e3 _ v r => q v H3 e3 r) fun c hc _ => ?_
        exfalso
        have : ∀ l : List α, ∀ c, compGo cf f l ≠ .er c := by
          intro l
          induction l with
          | nil => intro c z; cases z
          | cons x l ih =>
            intro c z
            unfold compGo at z
            cases h1 : cf x with
            | ok b =>
              rw [h1] at z
              have z2 : (if b = true then R.bd (f x).nx fun y => R.bd (compGo cf f l) fun ys => .ok (y :: ys) else compGo cf f l) = .er c := z
              cases b with
              | true =>
                rw [if_pos rfl] at z2
                cases h2 : f x with
                | ok y =>
                  rw [h2] at z2
                  have z3 : (R.bd (compGo cf f l) fun ys => .ok (y :: ys)) = .er c := z2
                  cases h3 : compGo cf f l with
                  | ok ys => rw [h3] at z3; cases z3
                  | er c' => exact ih c' h3
                  | bad => rw [h3] at z3; cases z3
                | er c' => rw [h2] at z2; cases z2
                | bad => rw [h2] at z2; cases z2
              | false =>
                rw [if_neg Bool.false_ne_true] at z2
                exact ih c z2
            | er c' => rw [h1] at z; cases z
            | bad => rw [h1] at z; cases z
        exact this xs c hc
      · rintro i m H' ⟨rfl, hi', sH, acc, ys, hacc, hal, hall, hw⟩
        have hG : Same (mix F H H2) H' := (mix_same hF (e.trans e2)).trans sH
        by_cases ci : i < xs.length
        · refine .inr ⟨ok.go i H' hG ci, _, fun H3 h3 => ⟨xs.length - (i + 1), by omega, h3⟩, fun v H'' y => ?_⟩
          obtain ⟨e1, a, ha, r⟩ := ok.yld i H' v H'' hG ci y
          have hacc2 := e1 _ _ hacc
          have eH : Same H H'' := (e.trans e2).trans (sH.trans e1)
          obtain ⟨σ2, hg, hwp, gt, ge⟩ := hel a v (delH (mix F H H'') Dl) H'' (cmp_f (H2 := H2) hF hnD eH) (del_le.trans (mix_same hF eH)) eH (Rp.mono (cmp_it hnD hD ⟨_, hacc⟩ (e.trans e2) sH e1) r)
          refine hg _ ⟨hwp, gt H'' (Same.refl _) _ ?_⟩
          rw [drop_get ha] at hw
          unfold compGo at hw
          rw [wp_bd] at hw
          refine wp_nx (wp_mono hw (fun b _ q H3 e3 => ?_) fun _ _ z => z)
          have al' : All2 (Rp.rep K (delH (mix F H H3) Dl)) acc ys := hall.mono fun _ _ x => Rp.mono (cmp_go (e1.trans e3)) x
          cases b with
          | true =>
            show te σ2 H3 _
            refine ge H3 e3 _ ?_
            have q2 : Wp (R.bd (f a).nx fun y => R.bd (compGo cf f (xs.drop (i + 1))) fun ys => .ok (y :: ys)) _ _ := q
            rw [wp_bd] at q2
            refine wp_nx (wp_mono q2 (fun y _ q3 w H4 e4 rw4 => ?_) fun _ _ z => z)
            have hacc4 := e4 _ _ (e3 _ _ hacc2)
            refine ⟨acc, hacc4, lim_line' (by omega), rfl, ci, ?_, acc ++ [w], ys ++ [y], upd_same, by rw [List.length_append]; simp; omega, ?_, ?_⟩
            · exact fun x o h => by
                have ne : x ≠ Dl := fun z => by rw [z, hD] at h; cases h
                rw [upd_ne ne]
                exact e4 _ _ (e3 _ _ (e1 _ _ (sH _ _ h)))
            · refine All2.append (al'.mono fun _ _ x => Rp.mono ((cmp_go e4).trans (cmp_up hnD)) x) (.cons (Rp.mono (cmp_el hnD ⟨_, hacc2⟩ eH (e3.trans e4)) rw4) .nil)
            · rw [wp_bd] at q3
              refine wp_mono q3 (fun zs _ q4 H5 e5 _ v5 r5 => ?_) fun _ _ z => z
              refine q4 H5 e5 rfl v5 ?_
              rw [List.append_assoc] at r5
              exact r5
          | false =>
            exact ⟨rfl, ci, fun x o h => e3 _ _ (e1 _ _ (sH _ _ h)), acc, ys, e3 _ _ hacc2, by omega, al', q⟩
        · have ei : i = xs.length := by omega
          refine .inl ⟨ok.stop i H' hG ei, ?_⟩
          rw [ei, List.drop_length] at hw
          have hw2 : ∀ H3, Same H1 H3 → H3 Dl = H3 Dl → ∀ v, RR H3 v (ys ++ []) → Q v H3 := hw
          refine hw2 H' (e2.trans sH) rfl _ ?_
          rw [List.append_nil]
          exact hres _ _ _ _ hnD hacc hall
    · exact k.elim)
/-- a comprehension that becomes ours -/
theorem s_asgLc {i : Nat} {wi : TI} {g : TG} {tt : TT} {te : TE} {vs : List Nat} {m : R (List α)} {cf : α → R Bool} {f : α → R β} {k : List β → R γ} {kk : γ → Prop} (hi : GrI K E wi σ F H m) (hF : Same F H)
    (hel : ∀ x v F2 H2, Same F F2 → Same F2 H2 → Same H H2 → Rp.rep K F2 v x → ∃ σ2, (∀ Q : L2.St → Hp → Prop, Q σ2 H2 → g v (wipe σ vs) H2 Q) ∧ wipe σ2 vs = wipe σ vs ∧ GrT K EF tt σ2 H2 (cf x) ∧ Gr K EF te σ2 F2 H2 (f x))
    (e0 : Same H0 H) (hQ : Wp (R.bd (R.bd m fun xs => compR xs cf f) k) kk (EE K E H0))
    (c : ∀ a p F' H', Nx0 F H F' H' → Same H0 H' → Own K H0 false F' H' p a → (∀ q, (∃ u, H q = some u) → q ≠ p) → Wp (k a) kk (EE K E H0) → D.nx (σ.set i (some (.ref p))) H') : tAsg (tLc wi g tt te vs) (gName i) D σ H := by
  have main := g_compGG (RR := fun H3 v ys => ∃ Dl acc, v = .ref Dl ∧ H Dl = none ∧ H3 Dl = some (.lst acc) ∧ All2 (Rp.rep K (delH (mix F H H3) Dl)) acc ys) (fun H3 Dl acc ys a b r => ⟨Dl, acc, rfl, a, b, r⟩) hi hF hel
  refine main H (Same.refl _) _ ?_
  rw [wp_bd] at hQ
  refine wp_mono hQ (fun a _ q v H2 e2 r => ?_) fun c _ z => z.mono e0
  obtain ⟨p, acc, rfl, hn, hp, r⟩ := r
  refine c a p (delH (mix F H H2) p) H2 ⟨fun x o h => ?_, fun x o _ h => e2 x o h, fun x o h => ?_, fun x o z h n => ?_, fun x o h => ⟨o, e2 x o h, rfl⟩⟩ (e0.trans e2) (Own.of (Same.free e0 hn) delH_same hp r) (fun x ⟨u, hu⟩ z => by rw [z, hn] at hu; cases hu) q
  · have : x ≠ p := fun z => by
      rw [z] at h
      have := hF p o h
      rw [hn] at this
      cases this
    rw [delH_ne this]
    exact same_mix hF x o h
  · unfold delH at h
    split at h
    · cases h
    · exact mix_same hF e2 x o h
  · unfold delH
    split
    · rfl
    · rw [mix_old h z]
      exact n
end
end G

set_option Elab.async false
set_option linter.all false
set_option maxRecDepth 100000
set_option maxHeartbeats 4000000
/-! G: xs.extend(ys). -/
namespace G
open PySem PySem.Spec PyProof.Rows L2
section
variable {K : PySem.W.Frag} {E : XK} {σ : L2.St} {D : Ends} {H0 F H : Hp} {b : Bool} {to : TE} {te : TE} {α β : Type} [Rp α] [Rp β]
noncomputable def extR {α : Type} (xs ys : List α) : R (List α) := gd (xs.length + ys.length ≤ lim) (.ok (xs ++ ys))
theorem s_ext {p : Addr} {xs : List α} {m : R (List α)} {k : List α → R β} {kk : β → Prop} (ha : At to σ H p) (o : Own K H0 b F H p xs) (he : Gr K E te σ (Bs H0 F b) H m) (hF : Same F H) (e0 : Same H0 H) (hQ : Wp (R.bd (R.bd m fun a => extR xs a) k) kk (EE K E H0))
    (c : ∀ xs' F' H', Nx (fun q => q = p) F H F' H' → Same H0 H' → Own K H0 b F' H' p xs' → Wp (k xs') kk (EE K E H0) → D.nx σ H') : tDrop (tBM K "list" rExtend to (tCons te tNil)) D σ H := by
  obtain ⟨h0, f, vs, hp, r⟩ := o.lst
  refine ha H (Same.refl _) _ ⟨.inl ⟨rfl, _, SqL.of hp⟩, ?_⟩
  refine he H (Same.refl _) _ ?_
  rw [bd_assoc, wp_bd] at hQ
  refine wp_mono hQ (fun a _ q v H2 e2 rv => ?_) fun c _ z => z.mono e0
  obtain ⟨l, ws, rfl, hl, ra⟩ := rv
  unfold extR gd at q
  split at q
  · rename_i cl
    refine ⟨p, l, vs, ws, rfl, rfl, e2 p _ hp, mix_same (bs_le.trans hF) e2 _ _ hl, lim_line (by rw [r.length, ra.length]; exact cl), ?_⟩
    exact c _ (mix F H H2) _ (nx_upd hF e2 hp f) (e0_upd e0 e2 h0) (Own.of h0 (by rw [mix_old hp]; exact f) upd_same ((r.mono fun _ _ x => Rp.mono (bs_ff (same_mix hF)) x).append (ra.mono fun _ _ x => Rp.mono (bs_mix e0 hF e2) x))) q
  · exact q.elim
end
/-- the names of a comprehension's block, seen from its function -/
def relS (scope sc : Scope) : Scope := { scope with names := scope.names.map fun (n, k) => if (k == .free && sc.kind == .function && sc.names.lookup n == some .cell) then (n, .cell) else (n, k) }
/-- a comprehension in a comprehension -/
theorem blkOk_in {X : Cx} {N : List Str} {sc sc0 scope : Scope} {own : List (Str × Nat)} {s : Shared} {H : Hp} {cl : List (Str × Addr)} {C : Addr} {fp : List Addr} (hN : X.N = N) (hs : X.env.scope = sc) (h : blkC N (relS sc0 sc) scope own = true) : BlkOk (X.blk s H sc0 (compEnvC sc0 cl C X.env) fp).N (X.blk s H sc0 (compEnvC sc0 cl C X.env) fp).env.scope scope own := by
  subst hN
  subst hs
  exact blkOk_by (N := X.N) (sc := relS sc0 X.env.scope) h
end G

set_option Elab.async false
set_option linter.all false
set_option maxRecDepth 100000
set_option maxHeartbeats 4000000
/-! G: BadPlan, an error with a field. -/
namespace G
open PySem PySem.Spec PyProof.Rows L2
def planC (K : PySem.W.Frag) : Addr := He.ga K "BadPlan"
def planI (K : PySem.W.Frag) : Addr := He.ma K (He.ga K "BadPlan") "__init__"
/-- one look at the class BadPlan as it is written -/
def oexB (K : PySem.W.Frag) (C : Addr) : Bool := match K.lookup C with
  | some ⟨.type z, _, .cls cd, sl⟩ => decide (z = "type") && (match cd.mro with
    | .ref C' :: bm => (match sl.toList with
      | [_, _, _, _, some (.builtin n), _] => decide (C' = C) && (decide (n = "ValueError.__new__") && (cd.hasDict && (!cd.hasDel && PySem.HandSPX.refsVE bm)))
      | _ => false)
    | _ => false)
  | _ => false
def planB (K : PySem.W.Frag) : Bool := oexB K (planC K) && (He.eqO (PySem.W.findIn K (.ref (planC K)) "__setattr__") (some (some (.builtin "object.__setattr__"))) &&
  (He.eqO (PySem.W.findIn K (.ref (planC K)) "__init__") (some (some (.ref (planI K)))) && (decide (PySem.W.typeIn K (.ref (planI K)) = some (.type "function")) &&
  (He.eqO (PySem.W.findIn K (.ref (planC K)) "words") (some none) && (He.eqO (PySem.W.findIn K (.ref (planC K)) "at") (some none) &&
  (decide (PySem.W.subIn K (.ref (planC K)) (.type "BaseException") = some true) && (decide (PySem.W.typeIn K (.ref (planC K)) = some (.type "type")) && PySem.W.keepIn K (.ref (planC K)))))))))
structure Pl (K : PySem.W.Frag) : Prop where
  T : OexC K (planC K)
  ini : PySem.W.findIn K (.ref (planC K)) "__init__" = some (some (.ref (planI K)))
  tI : PySem.W.typeIn K (.ref (planI K)) = some (.type "function")
  noW : PySem.W.findIn K (.ref (planC K)) "words" = some none
  noA : PySem.W.findIn K (.ref (planC K)) "at" = some none
theorem oexB_ok {K : PySem.W.Frag} {C : Addr} (q : oexB K C = true) : ∃ nm qn N bs bm sn sub ab col dd k0 k1 k2 k3 k5, K.lookup C = some (excClassObj nm qn C N bs bm true sn sub ab col dd k0 k1 k2 k3 k5 "ValueError.__new__") ∧ PySem.HandSPX.refsVE bm = true := by
  unfold oexB at q
  split at q
  · rename_i z dd cd sl ho
    obtain ⟨q0, q⟩ := Bool.and_eq_true_iff.mp q
    have q0 := of_decide_eq_true q0
    subst q0
    split at q
    · rename_i C' bm hm
      split at q
      · rename_i k0 k1 k2 k3 n k5 hs
        obtain ⟨q1, q⟩ := Bool.and_eq_true_iff.mp q
        obtain ⟨q2, q⟩ := Bool.and_eq_true_iff.mp q
        obtain ⟨q3, q⟩ := Bool.and_eq_true_iff.mp q
        obtain ⟨q4, q5⟩ := Bool.and_eq_true_iff.mp q
        have q2 := of_decide_eq_true q2
        have q3 := of_decide_eq_true q3
        obtain ⟨q5, q6⟩ := Bool.and_eq_true_iff.mp q5
        have hdl : cd.hasDel = false := by simpa using q5
        subst q2 q3
        obtain ⟨nm, bs, mro, ns, qn, hd, sn, sub, ab, col, del⟩ := cd
        dsimp only at hm q4 hdl
        subst hm q4 hdl
        have hsl : sl = #[k0, k1, k2, k3, some (.builtin "ValueError.__new__"), k5] := by
          obtain ⟨l⟩ := sl
          simp only at hs
          rw [hs]
        subst hsl
        exact ⟨nm, qn, ns, bs, bm, sn, sub, ab, col, dd, k0, k1, k2, k3, k5, ho, q6⟩
      · cases q
    · cases q
  · cases q
theorem plan_ok {K : PySem.W.Frag} (h : planB K = true) : Pl K := by
  unfold planB at h
  simp only [Bool.and_eq_true] at h
  obtain ⟨h1, h2, h3, h4, h5, h6, h7, h8, h9⟩ := h
  exact ⟨⟨oexB_ok h1, He.eqO_ok h2, of_decide_eq_true h7, of_decide_eq_true h8, h9⟩, He.eqO_ok h3, of_decide_eq_true h4, He.eqO_ok h5, He.eqO_ok h6⟩
/-- BadPlan.__init__ keeps both -/
def spPlan (K : PySem.W.Frag) : Sp := fun vs H Q _ => ∃ a m n, vs = [.ref a, .str m, .int n] ∧ H a = some (exo a (planC K) none) ∧ ∀ dx, H dx = none → dx ≠ a →
  Q .non (upd (upd (upd H dx (exd dx [("words", .str m)])) a (exo a (planC K) (some dx))) dx (exd dx [("at", .int n), ("words", .str m)]))
/-- raise BadPlan(m, e) -/
def tRaiseP (K : PySem.W.Frag) (m : Str) (te : TE) : L2.St → Hp → XK → Prop := tMkO (planC K) (spPlan K) [] (tCons (tC (.str m)) (tCons te tNil))
section
variable {K : PySem.W.Frag} {E : XK} {σ : L2.St} {H0 F H : Hp} {te : TE} {α β : Type}
theorem raise_plan {m : Str} {me : R Int} {k : α → Prop} {E : XK} (he : Gr K E te σ H H me) (e0 : Same H0 H) (hQ : Wp (R.bd me fun n => (.er (.plan n) : R α)) k (EE K E H0)) : tRaiseP K m te σ H E := by
  show te σ H _
  refine he H (Same.refl _) _ ?_
  rw [wp_bd] at hQ
  refine wp_mono hQ (fun n _ q v H2 e2 r => ?_) fun c _ z => z.mono e0
  have r' : v = .int n := r
  subst r'
  refine ⟨by show 2 ≤ 1000; decide, fun a ha => ⟨a, m, n, rfl, upd_same, fun dx hd ne => ⟨rfl, dx, _, ?_, upd_same, ?_, ?_⟩⟩⟩
  · rw [upd_ne ne.symm, upd_same]
  · rw [upd_ne ne] at hd
    exact hd
  · rw [upd_ne ne] at hd
    refine q dx _ (fun b o h => ?_) (Same.free (e0.trans e2) hd) ⟨m, upd_same⟩
    have h2 := (e0.trans e2) b o h
    have n1 : b ≠ dx := ne_of_none h2 hd
    have n2 : b ≠ a := ne_of_none h2 ha
    rw [upd_ne n1, del_ne n2, upd_ne n1, upd_ne n2, upd_ne n1, upd_ne n2]
    exact h2
/-- e.at of what was caught -/
def tAt (K : PySem.W.Frag) (te : TE) : TE := fun σ H Q => te σ H fun x H1 => ∃ a dd fs v, x = .ref a ∧ H1 a = some (ExH (planC K) (some dd) a) ∧ H1 dd = some (.xd fs) ∧ fs.lookup ("at" : Str) = some v ∧ Q v H1
def atR : Option Er → R Int
  | some (.plan n) => .ok n
  | _ => .bad
theorem g_at {m : R (Option Er)} (h : Gr K E te σ F H m) (hF : Same F H) : Gr K E (tAt K te) σ F H (R.bd m atR) := fun H1 e Q hq =>
  gr_seq h e hq fun o v H2 e2 r hq2 => by
    cases o with
    | none => exact hq2.elim
    | some er =>
      cases er with
      | own d => exact hq2.elim
      | plan n =>
        obtain ⟨_, a, rfl, cf, dd, m, ha, hd⟩ := r
        exact ⟨a, dd, _, _, rfl, mix_same hF (e.trans e2) a _ ha, mix_same hF (e.trans e2) dd _ hd, rfl, hq2 _ H2 (Same.refl _) rfl⟩
end
section
variable {X : Cx} {e : Expr} {te : TE} {pos : Pos}
theorem pe_at (p : Pl X.K) (cf : Cf X.K .BadPlan) (he : PE X e te) (hb : attributeBase e "at" X.env (eval e X.env) = eval e X.env := by rfl) : PE X (.Attribute e "at" pos) (tAt X.K te) := by
  refine ⟨fun pins s σ H Q I h => ?_⟩
  refine attr_of hb (thn (he.run pins s σ H _ I h) fun u s1 ⟨x, H1, I1, rx, a, dd, fs, v, ex, ea, ed, l, q⟩ => ?_)
  subst ex
  obtain rfl : u = Value.ref a := rx
  obtain ⟨oe, od, mA, J, hl, hr⟩ := inst_ofD I1 ea ed
  have r := hr "at"
  rw [l] at r
  obtain ⟨u, hu, ru⟩ := RelO.some_of r
  exact HandSPX.exc_get I1.kIn J cf.ex.hg cf.ex.hk cf.ex.hs (PySem.W.findObj_own cf.ex.hd p.noA rfl (by rw [hl, hu])) (handed_of ru) ⟨v, H1, I1.tok _, ru, q⟩
end
end G

set_option Elab.async false
set_option linter.all false
set_option maxRecDepth 100000
set_option maxHeartbeats 4000000
/-! G: a, b, c = e. -/
namespace G
open PySem PySem.Spec PyProof.Rows L2
section
variable {K : PySem.W.Frag} {E : XK} {σ : L2.St} {H0 F H : Hp} {te : TE} {α β γ δ : Type} [Rp α] [Rp β] [Rp γ] {D : Ends}
theorem s_unp3 {i j l : Nat} {m : R (T3 α β γ)} {k : T3 α β γ → R δ} {kk : δ → Prop} (he : Gr K E te σ F H m) (hF : Same F H) (e0 : Same H0 H) (hQ : Wp (R.bd m k) kk (EE K E H0))
    (c : ∀ a b g v w x F' H', Nx0 F H F' H' → Same H0 H' → Rp.rep K F' v a → Rp.rep K F' w b → Rp.rep K F' x g → Wp (k ⟨a, b, g⟩) kk (EE K E H0) → D.nx (((σ.set i (some v)).set j (some w)).set l (some x)) H') :
    tAsg te (gTup K 3 (gCons (gName i) (gCons (gName j) (gCons (gName l) gNil)))) D σ H := by
  refine he H (Same.refl _) _ ?_
  rw [wp_bd] at hQ
  refine wp_mono hQ (fun a _ q v H2 e2 r => ?_) fun c _ z => z.mono e0
  obtain ⟨p, x, y, z, rfl, hp, r1, r2, r3⟩ := r
  exact ⟨p, _, rfl, SqT.of (mix_same hF e2 p _ hp), rfl, x, _, rfl, y, _, rfl, z, _, rfl, rfl, c a.a a.b a.c x y z _ H2 (Nx.mk' hF e2) (e0.trans e2) r1 r2 r3 q⟩
theorem s_unp3N {i j l : Nat} {m : R (T3 α β γ)} {k : T3 α β γ → R δ} {kk : δ → Prop} (he : Gr K E te σ (dif H0 F) H m) (hF : Same F H) (e0 : Same H0 H) (hQ : Wp (R.bd m k) kk (EE K E H0))
    (c : ∀ a b g v w x F' H', Nx0 F H F' H' → Same H0 H' → Rp.rep K (dif H0 F') v a → Rp.rep K (dif H0 F') w b → Rp.rep K (dif H0 F') x g → Wp (k ⟨a, b, g⟩) kk (EE K E H0) → D.nx (((σ.set i (some v)).set j (some w)).set l (some x)) H') :
    tAsg te (gTup K 3 (gCons (gName i) (gCons (gName j) (gCons (gName l) gNil)))) D σ H := by
  refine he H (Same.refl _) _ ?_
  rw [wp_bd] at hQ
  refine wp_mono hQ (fun a _ q v H2 e2 r => ?_) fun c _ z => z.mono e0
  have r' := Rp.mono (mix_dif e0 hF e2) r
  obtain ⟨p, x, y, z, rfl, hp, r1, r2, r3⟩ := r'
  exact ⟨p, _, rfl, SqT.of (mix_same hF e2 p _ (dif_le p _ hp)), rfl, x, _, rfl, y, _, rfl, z, _, rfl, rfl, c a.a a.b a.c x y z _ H2 (Nx.mk' hF e2) (e0.trans e2) r1 r2 r3 q⟩
end
end G

set_option Elab.async false
set_option linter.all false
set_option maxRecDepth 100000
set_option maxHeartbeats 4000000
/-! G: defs that change what they are handed (in and out). -/
namespace G
open PySem PySem.Spec PyProof.Rows L2
/-- a thing at p that a def is handed to change: not frozen, its parts are -/
structure OwM {τ : Type} [Rp τ] [Cel τ] (K : PySem.W.Frag) (Gz H : Hp) (p : Addr) (x : τ) : Prop where
  f : Gz p = none
  at_ : ∃ o, H p = some o ∧ Cel.cel K Gz o x
section
variable {K : PySem.W.Frag} {E : XK} {σ : L2.St} {H0 F H F' H' Gz Hz : Hp} {te ta to : TE} {t : TT} {tu tw : TS} {α β γ δ ρ S : Type} [Rp α] [Rp β] [Rp γ] [Rp δ] [Rp ρ] {D : Ends} {b : Bool} {P P2 : Addr → Prop} {τ : Type} [Rp τ] [Cel τ] {p : Addr} {x : τ}
theorem Own.owm (o : Own K H0 false F H p x) : OwM K F H p x := ⟨o.f, let ⟨u, h, r⟩ := o.at_; ⟨u, h, r⟩⟩
theorem OwM.own (w : OwM K Gz H p x) (h0 : H0 p = none) : Own K H0 false Gz H p x := ⟨h0, w.f, let ⟨u, h, r⟩ := w.at_; ⟨u, h, r⟩⟩
theorem OwM.del {q : Addr} (w : OwM K Gz H p x) : True := trivial
/-- what stands behind a change -/
theorem Nx.e0 (n : Nx P F H F' H') (e0 : Same H0 H) (hp : ∀ q, P q → H0 q = none) : Same H0 H' := fun q o h => n.hh q o (fun z => by rw [hp q z] at h; cases h) (e0 q o h)
theorem Nx.wk (n : Nx P F H F' H') (h : ∀ q, P q → P2 q) : Nx P2 F H F' H' := ⟨n.ff, fun q o z => n.hh q o fun y => z (h q y), n.fh, n.own, n.th⟩
theorem Nx.tr {F1 H1 : Hp} (a : Nx0 F H F1 H1) (n : Nx P F1 H1 F' H') : Nx P F H F' H' := (a.wk fun _ z => z.elim).step n fun q z => .inl z
theorem Own.nxM (o : Own K H0 false F H p x) (n : Nx P F H F' H') {y : τ} (h : ∃ u, H' p = some u ∧ Cel.cel K F' u y) : Own K H0 false F' H' p y := by
  obtain ⟨h0, f, u, hu, r⟩ := o
  exact ⟨h0, n.own p _ (Cel.nt r) hu f, h⟩
theorem Own.atM (o : Own K H0 false F H p x) : ∃ u, H p = some u ∧ Cel.cel K F u x := o.at_
/-- an expression that changes what J tells, and nothing but P -/
def GrM {α S : Type} [Rp α] (K : PySem.W.Frag) (E : XK) (te : TE) (σ : L2.St) (H0 F H : Hp) (P : Addr → Prop) (J : Hp → Hp → S → Prop) (m : R (α × S)) : Prop :=
  ∀ Q : VK, Wp m (fun z => ∀ v F' H', Nx P F H F' H' → Same H0 H' → J F' H' z.2 → Rp.rep K F' v z.1 → Q v H') (EE K E H0) → te σ H Q
theorem gm_arg {H1 : Hp} {ma : R α} {f : α → R S} {k : S → Prop} (ha : Gr K E ta σ F H ma) (e : Same H H1) (e0 : Same H0 H) (hq : Wp (R.bd ma f) k (EE K E H0)) {Q' : VK}
    (h : ∀ a v H2, Same H1 H2 → Rp.rep K (mix F H H2) v a → Wp (f a) k (EE K E H0) → Q' v H2) : ta σ H1 Q' :=
  ha H1 e Q' (by rw [wp_bd] at hq; exact wp_mono hq (fun a _ ka v H2 e2 r => h a v H2 e2 r ka) fun c _ z => z.mono (e0.trans e))
variable {J : Hp → Hp → S → Prop}
theorem s_asgM {i : Nat} {m : R (α × S)} {k : α × S → R β} {kk : β → Prop} (he : GrM K E te σ H0 F H P J m) (hQ : Wp (R.bd m k) kk (EE K E H0))
    (c : ∀ a s v F' H', Nx P F H F' H' → Same H0 H' → J F' H' s → Rp.rep K F' v a → Wp (k (a, s)) kk (EE K E H0) → D.nx (σ.set i (some v)) H') : tAsg te (gName i) D σ H :=
  he _ (by rw [wp_bd] at hQ; exact wp_mono hQ (fun z _ q v F' H' n e j r => c z.1 z.2 v F' H' n e j r q) fun c _ z => z)
theorem s_dropM {m : R (α × S)} {k : α × S → R β} {kk : β → Prop} (he : GrM K E te σ H0 F H P J m) (hQ : Wp (R.bd m k) kk (EE K E H0))
    (c : ∀ a s F' H', Nx P F H F' H' → Same H0 H' → J F' H' s → Wp (k (a, s)) kk (EE K E H0) → D.nx σ H') : tDrop te D σ H :=
  he _ (by rw [wp_bd] at hQ; exact wp_mono hQ (fun z _ q v F' H' n e j r => c z.1 z.2 F' H' n e j q) fun c _ z => z)
/-- if f(..): -/
theorem s_ifM {m : R (Bool × S)} {k : Bool × S → R β} {kk : β → Prop} (he : GrM K E te σ H0 F H P J m) (hQ : Wp (R.bd m k) kk (EE K E H0))
    (h1 : ∀ s F' H', Nx P F H F' H' → Same H0 H' → J F' H' s → Wp (k (true, s)) kk (EE K E H0) → tu D σ H') (h2 : ∀ s F' H', Nx P F H F' H' → Same H0 H' → J F' H' s → Wp (k (false, s)) kk (EE K E H0) → tw D σ H') : tIfS (tB te) tu tw D σ H :=
  he _ (by
    rw [wp_bd] at hQ
    refine wp_mono hQ (fun z _ q v F' H' n e j r => ⟨z.1, r, ?_⟩) fun c _ z => z
    obtain ⟨b, s⟩ := z
    cases b with
    | true => exact h1 s F' H' n e j q
    | false => exact h2 s F' H' n e j q)
/-- if not f(..): -/
theorem s_ifMn {m : R (Bool × S)} {k : Bool × S → R β} {kk : β → Prop} (he : GrM K E te σ H0 F H P J m) (hQ : Wp (R.bd m k) kk (EE K E H0))
    (h1 : ∀ s F' H', Nx P F H F' H' → Same H0 H' → J F' H' s → Wp (k (false, s)) kk (EE K E H0) → tu D σ H') (h2 : ∀ s F' H', Nx P F H F' H' → Same H0 H' → J F' H' s → Wp (k (true, s)) kk (EE K E H0) → tw D σ H') : tIfS (tNot (tB te)) tu tw D σ H :=
  he _ (by
    rw [wp_bd] at hQ
    refine wp_mono hQ (fun z _ q v F' H' n e j r => ⟨z.1, r, ?_⟩) fun c _ z => z
    obtain ⟨b, s⟩ := z
    cases b with
    | true => exact h2 s F' H' n e j q
    | false => exact h1 s F' H' n e j q)
/-- xs.append(f(..)), xs ours -/
theorem s_appM {p : Addr} {xs : List α} {m : R (α × S)} {k : List α × S → R β} {kk : β → Prop} (ha : At to σ H p) (o : Own K H0 false F H p xs) (he : GrM K E te σ H0 F H P J m) (hp : ¬ P p)
    (hQ : Wp (R.bd (R.bd m fun z => R.bd (appR xs z.1) fun l => .ok (l, z.2)) k) kk (EE K E H0))
    (c : ∀ xs' s F' H' F1 H1, Nx P F H F1 H1 → Same H0 H1 → J F1 H1 s → Nx (fun q => q = p) F1 H1 F' H' → Same H0 H' → Own K H0 false F' H' p xs' → Wp (k (xs', s)) kk (EE K E H0) → D.nx σ H') : tDrop (tBM K "list" rAppend to (tCons te tNil)) D σ H := by
  obtain ⟨h0, f, vs, hp', r⟩ := o.lst
  refine ha H (Same.refl _) _ ⟨.inl ⟨rfl, _, SqL.of hp'⟩, ?_⟩
  refine he _ ?_
  rw [bd_assoc, wp_bd] at hQ
  refine wp_mono hQ (fun z _ q v F1 H1 n e1 j rv => ?_) fun c _ z => z
  rw [bd_assoc, wp_bd] at q
  unfold appR gd at q
  split at q
  · rename_i cl
    have o1 := o.nx n hp
    obtain ⟨_, f1, us, hu, ru⟩ := o1.lst
    have hh := n.hh p _ hp hp'
    rw [hu] at hh
    cases hh
    refine ⟨p, vs, v, rfl, rfl, hu, lim_line' (by rw [ru.length]; exact cl), ?_⟩
    have nn := nx_upd (o' := .lst (vs ++ [v])) n.fh (Same.refl H1) hu f1
    exact c _ z.2 (mix F1 H1 H1) _ F1 H1 n e1 j nn (e0_upd e1 (Same.refl _) h0) (Own.of h0 (by rw [mix_old hu]; exact f1) upd_same ((ru.mono fun _ _ x => Rp.mono (bs_ff nn.ff) x).append (.cons (Rp.mono nn.ff rv) .nil))) q
  · exact q.elim
/-- return e, in a def that changes what it is handed -/
theorem s_retM {m : R α} {k : α → R β} {kk : β → Prop} (he : Gr K E te σ F H m) (hF : Same F H) (e0 : Same H0 H) (n : Nx P Gz Hz F H) (hQ : Wp (R.bd m k) kk (EE K E H0))
    (hk : ∀ a, Wp (k a) kk (EE K E H0) → ∀ v F' H', Nx P Gz Hz F' H' → Nx0 F H F' H' → Rp.rep K F' v a → D.rt v H') : tRet te D σ H := by
  refine he H (Same.refl _) _ ?_
  rw [wp_bd] at hQ
  exact wp_mono hQ (fun a _ q v H2 e2 r => hk a q v _ H2 (n.step0 (Nx.mk' hF e2)) (Nx.mk' hF e2) r) fun c _ z => z.mono e0
theorem delH_none {p q : Addr} (h : H p = none) : delH H q p = none := by
  unfold delH
  split
  · rfl
  · exact h
end
section
variable {K : PySem.W.Frag} {E : XK} {σ : L2.St} {H0 F H : Hp} {ta tb to ti : TE} {α : Type} [Rp α] {b : Bool} {p : Addr}
/-- an item of a list of ours is frozen -/
theorem g_idxO {xs : List α} {mi : R Int} (ha : At to σ H p) (o : Own K H0 b F H p xs) (hi : Gr K E ti σ H H mi) (hF : Same F H) : Gr K E (tOp (rIxL K) to ti) σ F H (R.bd mi fun i => idx xs i) := fun H1 e Q hq => by
  obtain ⟨h0, f, vs, hp, r⟩ := o.lst
  refine ha H1 e _ ?_
  refine gr_seq (F := F) (β := α) (ma := mi) (f := fun i => idx xs i) ?_ e hq fun i w H2 e2 ri hq2 => ?_
  · intro H3 e3 Q3 h3
    refine hi H3 e3 Q3 (wp_mono h3 (fun i _ k v H4 e4 r4 => k v H4 e4 (by
      have r4' : v = .int i := r4
      exact r4')) fun _ _ z => z)
  · have ri' : w = .int i := ri
    subst ri'
    unfold idx at hq2
    cases q : atI xs i with
    | none => rw [q] at hq2; exact hq2.elim
    | some a =>
      rw [q] at hq2
      obtain ⟨x, hx, rx⟩ := all2_atI r q
      exact ⟨p, vs, i, x, rfl, rfl, SqL.of (e2 _ _ (e _ _ hp)), hx, hq2 x H2 (Same.refl _) (Rp.mono (bs_le.trans (same_mix hF)) rx)⟩
theorem g_sortI [De α] [Od α] [Im α] {m : R (List α)} (h : Gr K E ta σ H H m) (hd : De.dep α ≤ 60 := by decide) : Gr K E (tCB (rSortA α K) (tCons ta tNil)) σ F H (R.bd m sortR) := fun H1 e Q hq =>
  gr_arg h e hq fun xs v H2 e2 r hq2 => by
    obtain ⟨p, vs, rfl, hp, hv⟩ := r
    unfold sortR gd at hq2
    split at hq2
    · rename_i c
      have hl := hv.length
      have h1 : (vs.zip xs).map Prod.fst = vs := zip_fst hl
      have h2 : (vs.zip xs).map Prod.snd = xs := zip_snd hl
      have hz := all2_zip hv
      refine ⟨p, vs.zip xs, rfl, by rw [h1]; exact SqL.of hp, fun q hq => De.dp (hz q hq), ?_, by rw [List.length_zip]; omega, hd, fun l hl => ?_⟩
      · have : (vs.zip xs).map (fun p => (De.toD p.2 : PyData)) = xs.map De.toD := by
          conv => rhs; rw [← h2, List.map_map]
          rfl
        rw [this]
        exact c.2
      · refine hq2 _ _ (same_upd hl) ?_
        refine reps_atI (G := H2) (vs := ((vs.zip xs).mergeSort fun a b => !Od.lt b.2 a.2).map Prod.fst) (Same.refl _) (e.trans e2) (same_upd hl) (by rw [mix_new (Same.free (e.trans e2) hl)]; exact upd_same) ?_
        have e3 : xs.mergeSort (fun a b => !Od.lt b a) = ((vs.zip xs).mergeSort fun a b => !Od.lt b.2 a.2).map Prod.snd := by
          conv => lhs; rw [← h2]
          exact (List.map_mergeSort (r := fun a b : V × α => !Od.lt b.2 a.2) (s := fun a b : α => !Od.lt b a) (f := Prod.snd) (fun a _ b _ => rfl)).symm
        rw [e3]
        refine zip_all2 fun q hq => hz q ?_
        exact (List.mergeSort_perm _ _).subset hq
    · exact hq2.elim
end
section
variable {X : Cx} {K : PySem.W.Frag}
theorem pi_listK {tg l : Expr} {tl : TE} (h : X.K = K) (hl : PE X l tl) : PI X tg l (iList K tl) := by subst h; exact pi_list hl
theorem pi_tupK {tg l : Expr} {tl : TE} (h : X.K = K) (hl : PE X l tl) : PI X tg l (iTup K tl) := by subst h; exact pi_tup hl
theorem pi_enumAK {e : Expr} {ta : TA} {p pos tpos : Pos} {elts : List Expr} {kk : Nat} (h : X.K = K) (hg : Gl X "enumerate") (hm : X.mg "enumerate" = none) (ha : PA X [e] ta) (hs : starEach [e] X.env = [(false, eval e X.env)] := by rfl) :
    PI X (.Tuple elts kk tpos) (.Call (.Name "enumerate" p) [e] [] pos) (iEnumA K ta) := by subst h; exact pi_enumA hg hm ha hs
end
section
variable {K : PySem.W.Frag} {E : XK} {σ : L2.St} {F H : Hp} {α β : Type} [Rp α] [Rp β]
/-- a comprehension over anything whose items are made anew -/
theorem g_compH {wi : TI} {g : TG} {tt : TT} {te : TE} {vs : List Nat} {m : R (List α)} {cf : α → R Bool} {f : α → R β} (hi : GrI K E wi σ H H m) (hF : Same F H)
    (hel : ∀ x v F2 H2, Same F F2 → Same F2 H2 → Same H H2 → Rp.rep K H2 v x → ∃ σ2, (∀ Q : L2.St → Hp → Prop, Q σ2 H2 → g v (wipe σ vs) H2 Q) ∧ wipe σ2 vs = wipe σ vs ∧ GrT K EF tt σ2 H2 (cf x) ∧ Gr K EF te σ2 F2 H2 (f x)) :
    Gr K E (tLc wi g tt te vs) σ F H (R.bd m fun xs => compR xs cf f) := fun H1 e Q hq =>
  hi H1 e _ (by
    rw [wp_bd] at hq
    refine wp_mono hq (fun xs _ k J H2 e2 ok => ?_) fun _ _ z => z
    unfold compR gd at k
    split at k
    · rename_i cl
      intro Dl hD
      have hnD : H Dl = none := Same.free (e.trans e2) hD
      refine ⟨fun i m H' => m = xs.length - i ∧ i ≤ xs.length ∧ Same H2 H' ∧ ∃ acc ys, H' Dl = some (.lst acc) ∧ acc.length ≤ i ∧ All2 (Rp.rep K (delH (mix F H H') Dl)) acc ys ∧
        Wp (compGo cf f (xs.drop i)) (fun zs => ∀ H3, Same H1 H3 → H3 Dl = H3 Dl → ∀ v, Rp.rep K (mix F H H3) v (ys ++ zs) → Q v H3) (fun _ => False), ⟨_, rfl, Nat.zero_le _, same_upd hD, [], [], upd_same, Nat.le_refl _, .nil, ?_⟩, ?_⟩
      · rw [List.drop_zero]
        refine wp_mono k (fun zs _ q H3 e3 _ v r => q v H3 e3 r) fun c hc _ => ?_
        exfalso
        have : ∀ l : List α, ∀ c, compGo cf f l ≠ .er c := by
          intro l
          induction l with
          | nil => intro c z; cases z
          | cons x l ih =>
            intro c z
            unfold compGo at z
            cases h1 : cf x with
            | ok b =>
              rw [h1] at z
              have z2 : (if b = true then R.bd (f x).nx fun y => R.bd (compGo cf f l) fun ys => .ok (y :: ys) else compGo cf f l) = .er c := z
              cases b with
              | true =>
                rw [if_pos rfl] at z2
                cases h2 : f x with
                | ok y =>
                  rw [h2] at z2
                  have z3 : (R.bd (compGo cf f l) fun ys => .ok (y :: ys)) = .er c := z2
                  cases h3 : compGo cf f l with
                  | ok ys => rw [h3] at z3; cases z3
                  | er c' => exact ih c' h3
                  | bad => rw [h3] at z3; cases z3
                | er c' => rw [h2] at z2; cases z2
                | bad => rw [h2] at z2; cases z2
              | false =>
                rw [if_neg Bool.false_ne_true] at z2
                exact ih c z2
            | er c' => rw [h1] at z; cases z
            | bad => rw [h1] at z; cases z
        exact this xs c hc
      · rintro i m H' ⟨rfl, hi', sH, acc, ys, hacc, hal, hall, hw⟩
        have hG : Same (mix H H H2) H' := (mix_same (Same.refl _) (e.trans e2)).trans sH
        by_cases ci : i < xs.length
        · refine .inr ⟨ok.go i H' hG ci, _, fun H3 h3 => ⟨xs.length - (i + 1), by omega, h3⟩, fun v H'' y => ?_⟩
          obtain ⟨e1, a, ha, r⟩ := ok.yld i H' v H'' hG ci y
          have hacc2 := e1 _ _ hacc
          have eH : Same H H'' := (e.trans e2).trans (sH.trans e1)
          obtain ⟨σ2, hg, hwp, gt, ge⟩ := hel a v (delH (mix F H H'') Dl) H'' (cmp_f (H2 := H2) hF hnD eH) (del_le.trans (mix_same hF eH)) eH (Rp.mono (mix_same hG e1) r)
          refine hg _ ⟨hwp, gt H'' (Same.refl _) _ ?_⟩
          rw [drop_get ha] at hw
          unfold compGo at hw
          rw [wp_bd] at hw
          refine wp_nx (wp_mono hw (fun b _ q H3 e3 => ?_) fun _ _ z => z)
          have al' : All2 (Rp.rep K (delH (mix F H H3) Dl)) acc ys := hall.mono fun _ _ x => Rp.mono (cmp_go (e1.trans e3)) x
          cases b with
          | true =>
            show te σ2 H3 _
            refine ge H3 e3 _ ?_
            have q2 : Wp (R.bd (f a).nx fun y => R.bd (compGo cf f (xs.drop (i + 1))) fun ys => .ok (y :: ys)) _ _ := q
            rw [wp_bd] at q2
            refine wp_nx (wp_mono q2 (fun y _ q3 w H4 e4 rw4 => ?_) fun _ _ z => z)
            have hacc4 := e4 _ _ (e3 _ _ hacc2)
            refine ⟨acc, hacc4, lim_line' (by omega), rfl, ci, ?_, acc ++ [w], ys ++ [y], upd_same, by rw [List.length_append]; simp; omega, ?_, ?_⟩
            · exact fun x o h => by
                have ne : x ≠ Dl := fun z => by rw [z, hD] at h; cases h
                rw [upd_ne ne]
                exact e4 _ _ (e3 _ _ (e1 _ _ (sH _ _ h)))
            · refine All2.append (al'.mono fun _ _ x => Rp.mono ((cmp_go e4).trans (cmp_up hnD)) x) (.cons (Rp.mono (cmp_el hnD ⟨_, hacc2⟩ eH (e3.trans e4)) rw4) .nil)
            · rw [wp_bd] at q3
              refine wp_mono q3 (fun zs _ q4 H5 e5 _ v5 r5 => ?_) fun _ _ z => z
              refine q4 H5 e5 rfl v5 ?_
              rw [List.append_assoc] at r5
              exact r5
          | false =>
            exact ⟨rfl, ci, fun x o h => e3 _ _ (e1 _ _ (sH _ _ h)), acc, ys, e3 _ _ hacc2, by omega, al', q⟩
        · have ei : i = xs.length := by omega
          refine .inl ⟨ok.stop i H' hG ei, ?_⟩
          rw [ei, List.drop_length] at hw
          have hw2 : ∀ H3, Same H1 H3 → H3 Dl = H3 Dl → ∀ v, Rp.rep K (mix F H H3) v (ys ++ []) → Q v H3 := hw
          refine hw2 H' (e2.trans sH) rfl _ ?_
          rw [List.append_nil]
          exact ⟨Dl, acc, rfl, by rw [mix_new hnD]; exact hacc, hall.mono fun _ _ x => Rp.mono del_le x⟩
    · exact k.elim)
end
end G

set_option Elab.async false
set_option linter.all false
set_option maxRecDepth 100000
set_option maxHeartbeats 4000000
/-! G: ranges with a step. -/
namespace G
open PySem PySem.Spec PyProof.Rows L2
/-- lo, lo + c, .. below hi -/
def rngSn (a b c : Int) : Nat := (Builtin.Range.rangeSize a b c).toNat
def rngS (a b c : Int) : List Int := (List.range (rngSn a b c)).map fun i : Nat => a + (i : Int) * c
def rngSok (a b c : Int) : Prop := 0 ≤ a ∧ a ≤ 1000000 ∧ 0 ≤ b ∧ b ≤ 1000000 ∧ 0 < c ∧ c ≤ 1000
noncomputable def rng3S (a b c : Int) : R (List Int) := gd (rngSok a b c) (.ok (rngS a b c))
theorem rgc_up {a b c : Int} (h : rngSok a b c) : RgC a b c (rngSn a b c) := by
  obtain ⟨h1, h2, h3, h4, h5, h6⟩ := h
  have e : Builtin.Range.rangeSize a b c = ((rngSn a b c : Nat) : Int) := rangeSize_toNat a b c
  have le : rngSn a b c ≤ (b - a).toNat + (a - b).toNat := rangeSize_toNat_le a b c
  have m : ((rngSn a b c : Nat) : Int) * c ≤ 2000000 * 1000 := Int.mul_le_mul (by omega) (by omega) (by omega) (by omega)
  have m0 : 0 ≤ ((rngSn a b c : Nat) : Int) * c := Int.mul_nonneg (by omega) (by omega)
  refine ⟨by omega, by omega, ?_, e⟩
  unfold Builtin.Range.small
  rw [e]
  simp only [Builtin.Range.rangeFitsLong, Bool.and_eq_true, Bool.or_eq_true, decide_eq_true_eq, beq_iff_eq, show c > 0 from h5, if_true]
  omega
section
variable {K : PySem.W.Frag} {E : XK} {σ : L2.St} {F H : Hp} {ta tb tc : TE}
theorem i_rng3S {ma mb : R Int} {c : Int} (ha : Gr K E ta σ F H ma) (hb : Gr K E tb σ F H mb) (hc : Gr K E tc σ F H (.ok c)) : GrI K E (iRng3 (tCons ta (tCons tb (tCons tc tNil)))) σ F H (R.bd ma fun a => R.bd mb fun b => rng3S a b c) := fun H1 e RR hq =>
  ha H1 e _ (by
    rw [wp_bd] at hq
    refine wp_mono hq (fun n _ k v H2 e2 r => ?_) fun _ _ z => z
    have r' : v = .int n := r
    subst r'
    refine hb H2 (e.trans e2) _ ?_
    rw [wp_bd] at k
    refine wp_mono k (fun n2 _ k v2 H3 e3 r3 => ?_) fun _ _ z => z.mono e2
    have r3' : v2 = .int n2 := r3
    subst r3'
    refine hc H3 (e.trans (e2.trans e3)) _ (fun v3 H4 e4 r4 => ?_)
    have r4' : v3 = .int c := r4
    subst r4'
    unfold rng3S gd at k
    split at k
    · rename_i ck
      refine ⟨n, n2, c, rngSn n n2 c, rfl, rgc_up ck, k _ H4 (e2.trans (e3.trans e4)) ⟨fun i H' s hi => ?_, fun i H' s hi => ?_, fun i H' x H'' s hi y => ?_⟩⟩
      · unfold rngS at hi
        simp at hi
        exact hi
      · unfold rngS at hi
        simp at hi
        show rngSn n n2 c ≤ i
        omega
      · obtain ⟨e1, y⟩ := y
        subst e1 y
        unfold rngS at hi ⊢
        simp at hi
        exact ⟨Same.refl _, _, by rw [List.getElem?_map, List.getElem?_range hi]; rfl, rfl⟩
    · exact k.elim)
end
/-! ### list(range(a, b, -1)) -/
def dnV (a : Int) (n : Nat) : List V := (List.range n).map fun i => V.int (a - (i : Nat))
def tRg3D (ta : TA) : L2.St → Hp → (Int → Int → Hp → Prop) → Prop := fun σ H Q => ta σ H fun vs H1 => ∃ i j, vs = [.int i, .int j, .int (-1)] ∧ Q i j H1
def tLstRgD (te : L2.St → Hp → (Int → Int → Hp → Prop) → Prop) : TE := fun σ H Q => te σ H fun a b H1 => RgOk b a ∧ ∀ q, H1 q = none → Q (.ref q) (upd H1 q (.lst (dnV a (a - b).toNat)))
section
variable {X : Cx} {a b c e : Expr} {ta : TA} {te : L2.St → Hp → (Int → Int → Hp → Prop) → Prop}
def PRgD (X : Cx) (e : Expr) (t : L2.St → Hp → (Int → Int → Hp → Prop) → Prop) : Prop :=
  ∀ (pins : List (Addr × Obj)) (s : Shared) (σ : L2.St) (H : Hp) (Q : Int → Int → Hp → Prop), Inv X pins σ H s → t σ H Q →
    wpAny (model X.prog X.w) X.A (eval e X.env) (fun x s' => ∃ r i j t u v H', x = .ref r ∧ IsRange s'.heap r i j (-1) t u v ∧ Inv X pins σ H' s' ∧ Q i j H') X.xe s
theorem prg_3D {p pos : Pos} (hg : Gl X "range") (hm : X.mg "range" = none) (ha : PA X [a, b, c] ta) (hs : starEach [a, b, c] X.env = (false, eval a X.env) :: starEach [b, c] X.env := by rfl)
    (hpl : (backTo pos (starEach [b, c] X.env)).any (·.1) = false := by rfl) : PRgD X (.Call (.Name "range" p) [a, b, c] [] pos) (tRg3D ta) := by
  intro pins s σ H Q I h
  refine Call_ (ld_blt I hg hm boot_range (PyProof.Rows.callWith_type1 (thn (ha.run pos pins s σ H _ I h) fun us s1 ⟨vs, H1, I1, r1, i, j, ev, q⟩ => ?_) hs hpl))
  subst ev
  obtain ⟨u1, us, rfl, ra, r1⟩ : ∃ u us', us = u :: us' ∧ RelV (.int i) u ∧ Vals [.int j, .int (-1)] us' := by cases r1 with | cons r rr => exact ⟨_, _, rfl, r, rr⟩
  obtain ⟨u2, us, rfl, rb, r1⟩ : ∃ u us', us = u :: us' ∧ RelV (.int j) u ∧ Vals [.int (-1)] us' := by cases r1 with | cons r rr => exact ⟨_, _, rfl, r, rr⟩
  obtain ⟨u3, rfl, rc⟩ : ∃ u, us = [u] ∧ RelV (.int (-1)) u := by cases r1 with | cons r rr => cases rr; exact ⟨_, rfl, r⟩
  obtain ⟨t, rfl⟩ := ra
  obtain ⟨t', rfl⟩ := rb
  obtain ⟨t'', rfl⟩ := rc
  refine call_range_3 (by decide) ?_ (.inl (PyProof.noPylong_small (by decide)))
  exact ⟨_, i, j, _, _, _, H1, rfl, IsRange.new .., I1.kept fun b u e => Heap.get?_push_of_some _ e, q⟩
theorem vals_dn {a : Int} {n : Nat} {acc : Array Value} (h : ItemsOf (fun i v => ∃ t, v = .int (a + i * (-1)) t) acc n) : Vals (dnV a n) acc.toList := by
  have e : acc.toList.length = n := by rw [Array.length_toList]; exact h.1
  unfold dnV
  rw [← e]
  refine vals_of_get acc.toList _ fun j u hj => ?_
  obtain ⟨t, rfl⟩ := h.2 j u (by rw [← hj, Array.getElem?_toList])
  exact ⟨t, by congr 1; omega⟩
theorem pe_listRgD {p pos : Pos} (hc : X.calm = true) (hg : Gl X "list") (hm : X.mg "list" = none) (he : PRgD X e te) (na : starEach [e] X.env = (false, eval e X.env) :: starEach [] X.env := by rfl) : PE X (.Call (.Name "list" p) [e] [] pos) (tLstRgD te) := by
  refine ⟨fun pins s σ H Q I h => ?_⟩
  refine Call_ (ld_blt I hg hm boot_list (PyProof.Rows.callWith_type1 (args_cons (thn (he pins s σ H _ I h) fun x s1 ⟨r, i, j, t, u, v, H1, ex, hr, I1, ok, q⟩ => args_nil ?_) na) na))
  subst ex
  obtain ⟨b1, b2, b3, b4, b5⟩ := ok
  refine call_list_range (n := (i - j).toNat) (I1.ok.hd hc) hr (PySem.W.small_down b3 b4 b1 b2) (PySem.W.rangeSize_downNat i j) b5 fun h' tk acc c' hk e' hi => ?_
  refine ⟨.ref s1.heap.objs.size, upd H1 s1.heap.objs.size (.lst (dnV i (i - j).toNat)), I1.laid hk (Nat.le_refl _) (show ObjOk X.prog X.w _ _ _ (.lst (dnV i (i - j).toNat)) from ⟨?_, acc.toList, c', vals_dn hi, ?_⟩), rfl, q _ (I1.hok.fresh (Nat.le_refl _))⟩
  · unfold dnV; rw [List.length_map, List.length_range, sizeLine_eq]; omega
  · rw [Array.toArray_toList]; exact e'
end
section
variable {K : PySem.W.Frag} {E : XK} {σ : L2.St} {F H : Hp} {ta tb tc : TE}
noncomputable def rngLstD (a b : Int) : R (List Int) := gd (0 ≤ a ∧ a ≤ 1000000 ∧ 0 ≤ b ∧ b ≤ 1000000) (.ok (rngD a b))
theorem g_listRgD {ma mb : R Int} (ha : Gr K E ta σ H H ma) (hb : Gr K E tb σ H H mb) (hc : Gr K E tc σ H H (.ok (-1 : Int))) : Gr K E (tLstRgD (tRg3D (tCons ta (tCons tb (tCons tc tNil))))) σ F H (R.bd ma fun a => R.bd mb fun b => rngLstD a b) := fun H1 e Q hq =>
  gr_arg ha e hq fun i v H2 e2 r hq2 => gr_arg hb (e.trans e2) hq2 fun j w H3 e3 r3 hq3 => hc H3 (e.trans (e2.trans e3)) _ fun x H4 e4 r4 => by
    have r' : v = .int i := r
    have r3' : w = .int j := r3
    have r4' : x = .int (-1) := r4
    subst r' r3' r4'
    unfold rngLstD gd at hq3
    split at hq3
    · rename_i c
      refine ⟨i, j, rfl, RgOk.of_le (by omega) (by omega) (by omega) (by omega), fun l hl => hq3 _ _ (e4.trans (same_upd hl)) ?_⟩
      have hn : H l = none := Same.free (e.trans (e2.trans (e3.trans e4))) hl
      have : dnV i (i - j).toNat = (rngD i j).map V.int := by unfold dnV rngD; rw [List.map_map]; rfl
      exact ⟨l, _, rfl, by rw [mix_new hn]; exact upd_same, by rw [this]; exact ints_rep _⟩
    · exact hq3.elim
end
end G

set_option Elab.async false
set_option linter.all false
set_option maxRecDepth 100000
set_option maxHeartbeats 4000000
/-! G: things whose parts lie apart, so that a part can be changed alone. -/
namespace G
open PySem PySem.Spec PyProof.Rows L2
/-- a thing that can change is there -/
def muc (H : Hp) (b : Addr) : Prop := ∃ o, H b = some o ∧ tupB (some o) = false
theorem muc_mono {H H' : Hp} (e : Same H H') {b : Addr} (h : muc H b) : muc H' b := let ⟨o, h1, h2⟩ := h; ⟨o, e b o h1, h2⟩
theorem muc_some {H : Hp} {b : Addr} (h : muc H b) : H b ≠ none := by obtain ⟨o, h, _⟩ := h; rw [h]; intro z; cases z
/-- H' has what H has at S, and its tuples -/
def Agr (S : Addr → Prop) (H H' : Hp) : Prop := ∀ b o, H b = some o → (S b ∨ tupB (some o) = true) → H' b = some o
theorem Agr.same {S : Addr → Prop} {H H' : Hp} (e : Same H H') : Agr S H H' := fun b o h _ => e b o h
theorem Agr.sub {S S' : Addr → Prop} {H H' : Hp} (a : Agr S H H') (h : ∀ b, S' b → S b) : Agr S' H H' := fun b o q z => a b o q (z.imp (h b) id)
class Tr (α : Type) [Rp α] where
  tr : PySem.W.Frag → Hp → (Addr → Prop) → V → α → Prop
  rep : ∀ {K : PySem.W.Frag} {H : Hp} {S : Addr → Prop} {v : V} {a : α}, tr K H S v a → Rp.rep K H v a
  mono : ∀ {K : PySem.W.Frag} {H H' : Hp} {S : Addr → Prop} {v : V} {a : α}, Agr S H H' → tr K H S v a → tr K H' S v a
  cut : ∀ {K : PySem.W.Frag} {H : Hp} {S : Addr → Prop} {v : V} {a : α}, tr K H S v a → tr K H (fun b => S b ∧ muc H b) v a
/-- it has no part that can change -/
class Nc (α : Type) [Rp α] [Tr α] : Prop where
  of : ∀ {K : PySem.W.Frag} {H : Hp} {S : Addr → Prop} {v : V} {a : α}, Rp.rep K H v a → Tr.tr K H S v a
/-- it has one at most -/
class T1 (α : Type) [Rp α] [Tr α] : Prop where
  of : ∀ {K : PySem.W.Frag} {H : Hp} {v : V} {a : α}, Rp.rep K H v a → Tr.tr K H (muc H) v a
/-- what rests on tuples alone -/
def trI {α : Type} [Rp α] [Im α] : Tr α := ⟨fun K H _ v a => Rp.rep K H v a, fun h => h, fun a h => Im.mv (fun p xs q => a p _ q (.inr rfl)) h, fun h => h⟩
instance : Tr Int := trI
instance : Tr Bool := trI
instance : Tr Str := trI
instance : Tr Unit := trI
instance : Tr (Option Int) := trI
instance {α : Type} [Rp α] [Im α] : Tr (Tu α) := trI
instance : Nc Int := ⟨fun h => h⟩
instance : Nc Bool := ⟨fun h => h⟩
instance : Nc Str := ⟨fun h => h⟩
instance : Nc Unit := ⟨fun h => h⟩
instance : Nc (Option Int) := ⟨fun h => h⟩
instance {α : Type} [Rp α] [Im α] : Nc (Tu α) := ⟨fun h => h⟩
instance {α β : Type} [Rp α] [Rp β] [Tr α] [Tr β] : Tr (α × β) where
  tr K H S v t := ∃ p x y S1 S2, v = .ref p ∧ H p = some (.tup [x, y]) ∧ (∀ b, S1 b → S b ∧ ¬ S2 b) ∧ (∀ b, S2 b → S b) ∧ Tr.tr K H S1 x t.1 ∧ Tr.tr K H S2 y t.2
  rep := fun ⟨p, x, y, S1, S2, h1, h2, _, _, h3, h4⟩ => ⟨p, x, y, h1, h2, Tr.rep h3, Tr.rep h4⟩
  mono := fun a ⟨p, x, y, S1, S2, h1, h2, d1, d2, h3, h4⟩ => ⟨p, x, y, S1, S2, h1, a p _ h2 (.inr rfl), d1, d2, Tr.mono (a.sub fun b z => (d1 b z).1) h3, Tr.mono (a.sub d2) h4⟩
  cut := fun ⟨p, x, y, S1, S2, h1, h2, d1, d2, h3, h4⟩ => ⟨p, x, y, _, _, h1, h2, fun b ⟨z, m⟩ => ⟨⟨(d1 b z).1, m⟩, fun w => (d1 b z).2 w.1⟩, fun b ⟨z, m⟩ => ⟨d2 b z, m⟩, Tr.cut h3, Tr.cut h4⟩
instance {α β : Type} [Rp α] [Rp β] [Tr α] [Tr β] [Nc α] [Nc β] : Nc (α × β) := ⟨fun ⟨p, x, y, h1, h2, h3, h4⟩ => ⟨p, x, y, fun _ => False, fun _ => False, h1, h2, fun _ z => z.elim, fun _ z => z.elim, Nc.of h3, Nc.of h4⟩⟩
inductive TrL {α : Type} (T : (Addr → Prop) → V → α → Prop) : (Addr → Prop) → List V → List α → Prop
  | nil {S : Addr → Prop} : TrL T S [] []
  | cons {S S1 S2 : Addr → Prop} {v : V} {a : α} {vs : List V} {as : List α} (h1 : ∀ b, S1 b → S b ∧ ¬ S2 b) (h2 : ∀ b, S2 b → S b) (r : T S1 v a) (t : TrL T S2 vs as) : TrL T S (v :: vs) (a :: as)
section
variable {α : Type} {T T' : (Addr → Prop) → V → α → Prop}
theorem TrL.wk : ∀ {S S' : Addr → Prop} {vs : List V} {as : List α}, (∀ b, S b → S' b) → TrL T S vs as → TrL T S' vs as
  | _, _, _, _, _, .nil => .nil
  | _, _, _, _, h, .cons h1 h2 r t => .cons (fun b z => ⟨h b (h1 b z).1, (h1 b z).2⟩) (fun b z => h b (h2 b z)) r t
theorem TrL.all {F : V → α → Prop} (h : ∀ S v a, T S v a → F v a) : ∀ {S : Addr → Prop} {vs : List V} {as : List α}, TrL T S vs as → All2 F vs as
  | _, _, _, .nil => .nil
  | _, _, _, .cons _ _ r t => .cons (h _ _ _ r) (TrL.all h t)
theorem TrL.mp : ∀ {S : Addr → Prop} {vs : List V} {as : List α}, (∀ S1 v a, (∀ b, S1 b → S b) → T S1 v a → T' S1 v a) → TrL T S vs as → TrL T' S vs as
  | _, _, _, _, .nil => .nil
  | _, _, _, h, .cons h1 h2 r t => .cons h1 h2 (h _ _ _ (fun b z => (h1 b z).1) r) (TrL.mp (fun S1 v a q => h S1 v a fun b z => h2 b (q b z)) t)
theorem TrL.ct {M : Addr → Prop} (h : ∀ S v a, T S v a → T (fun b => S b ∧ M b) v a) : ∀ {S : Addr → Prop} {vs : List V} {as : List α}, TrL T S vs as → TrL T (fun b => S b ∧ M b) vs as
  | _, _, _, .nil => .nil
  | _, _, _, .cons h1 h2 r t => .cons (fun b ⟨z, m⟩ => ⟨⟨(h1 b z).1, m⟩, fun w => (h1 b z).2 w.1⟩) (fun b ⟨z, m⟩ => ⟨h2 b z, m⟩) (h _ _ _ r) (TrL.ct h t)
/-- one more, apart from all -/
theorem TrL.snoc {S2 : Addr → Prop} {v : V} {a : α} : ∀ {S S1 : Addr → Prop} {vs : List V} {as : List α}, TrL T S1 vs as → T S2 v a → (∀ b, S1 b → S b ∧ ¬ S2 b) → (∀ b, S2 b → S b) → TrL T S (vs ++ [v]) (as ++ [a])
  | _, _, _, _, .nil, r, h1, h2 => .cons (S1 := S2) (S2 := fun _ => False) (fun b z => ⟨h2 b z, fun w => w⟩) (fun _ z => z.elim) r .nil
  | S, S1, _, _, .cons (S1 := A1) (S2 := A2) k1 k2 r0 t, r, h1, h2 => .cons (S1 := A1) (S2 := fun b => A2 b ∨ S2 b) (fun b z => ⟨(h1 b (k1 b z).1).1, fun w => w.elim (k1 b z).2 (h1 b (k1 b z).1).2⟩) (fun b z => z.elim (fun w => (h1 b (k2 b w)).1) (h2 b)) r0
      (TrL.snoc t r (fun b z => ⟨.inl z, (h1 b (k2 b z)).2⟩) fun b z => .inr z)
/-- the one at a place, and another put there -/
theorem TrL.at : ∀ {S : Addr → Prop} {vs : List V} {as : List α} {j : Nat} {a : α}, TrL T S vs as → as[j]? = some a → ∃ v S1, vs[j]? = some v ∧ T S1 v a ∧ (∀ b, S1 b → S b) ∧
    ∀ (T' : (Addr → Prop) → V → α → Prop) (a' : α), T' S1 v a' → (∀ S' v a, (∀ b, S' b → S b ∧ ¬ S1 b) → T S' v a → T' S' v a) → TrL T' S vs (as.set j a')
  | _, _, _, _, _, .nil, e => by simp at e
  | S, _, _, 0, a, .cons (S1 := A1) (S2 := A2) h1 h2 r t, e => by
    simp at e
    subst e
    refine ⟨_, A1, rfl, r, fun b z => (h1 b z).1, fun T' a' r' k => ?_⟩
    exact .cons h1 h2 r' (TrL.mp (fun S1 v a q w => k S1 v a (fun b z => ⟨h2 b (q b z), fun y => (h1 b y).2 (q b z)⟩) w) t)
  | S, _, _, j + 1, a, .cons (S1 := A1) (S2 := A2) h1 h2 r t, e => by
    obtain ⟨v, S1, e1, r1, s1, k1⟩ := TrL.at (j := j) t (by simpa using e)
    refine ⟨v, S1, by simpa using e1, r1, fun b z => h2 b (s1 b z), fun T' a' r' k => ?_⟩
    exact .cons h1 h2 (k A1 _ _ (fun b z => ⟨(h1 b z).1, fun y => (h1 b z).2 (s1 b y)⟩) r) (k1 T' a' r' fun S' v a q w => k S' v a (fun b z => ⟨h2 b (q b z).1, (q b z).2⟩) w)
end
instance {α : Type} [Rp α] [Tr α] : Tr (List α) where
  tr K H S v xs := ∃ p vs S1, v = .ref p ∧ H p = some (.lst vs) ∧ S p ∧ (∀ b, S1 b → S b ∧ b ≠ p) ∧ TrL (fun S v a => Tr.tr K H S v a) S1 vs xs
  rep := fun ⟨p, vs, S1, h1, h2, _, _, t⟩ => ⟨p, vs, h1, h2, t.all fun _ _ _ r => Tr.rep r⟩
  mono := fun a ⟨p, vs, S1, h1, h2, h3, h4, t⟩ => ⟨p, vs, S1, h1, a p _ h2 (.inl h3), h3, h4, t.mp fun S2 v x q r => Tr.mono (a.sub fun b z => (h4 b (q b z)).1) r⟩
  cut := fun ⟨p, vs, S1, h1, h2, h3, h4, t⟩ => ⟨p, vs, _, h1, h2, ⟨h3, _, h2, rfl⟩, fun b ⟨z, m⟩ => ⟨⟨(h4 b z).1, m⟩, (h4 b z).2⟩, t.ct fun _ _ _ r => Tr.cut r⟩
theorem trl_nc {α : Type} [Rp α] [Tr α] [Nc α] {K : PySem.W.Frag} {H : Hp} {S : Addr → Prop} : ∀ {vs : List V} {xs : List α}, All2 (Rp.rep K H) vs xs → TrL (fun S v a => Tr.tr K H S v a) S vs xs
  | _, _, .nil => .nil
  | _, _, .cons r t => .cons (S1 := fun _ => False) (S2 := fun _ => False) (fun _ z => z.elim) (fun _ z => z.elim) (Nc.of r) (trl_nc t)
/-- a list of such has one cell -/
theorem tr_leaf {α : Type} [Rp α] [Tr α] [Nc α] {K : PySem.W.Frag} {H : Hp} {S : Addr → Prop} {p : Addr} {vs : List V} {xs : List α} (hp : H p = some (.lst vs)) (h : All2 (Rp.rep K H) vs xs) (hS : S p) : Tr.tr K H S (.ref p) xs :=
  ⟨p, vs, fun _ => False, rfl, hp, hS, fun _ z => z.elim, trl_nc h⟩
instance {α : Type} [Rp α] [Tr α] [Nc α] : T1 (List α) := ⟨fun ⟨p, vs, h1, h2, h3⟩ => by rw [h1]; exact tr_leaf h2 h3 ⟨_, h2, rfl⟩⟩
instance {α β : Type} [Rp α] [Rp β] [Tr α] [Tr β] [T1 α] [Nc β] : T1 (α × β) := ⟨fun {K H v a} ⟨p, x, y, h1, h2, h3, h4⟩ => ⟨p, x, y, muc H, fun _ => False, h1, h2, fun b z => ⟨z, fun w => w⟩, fun _ z => z.elim, T1.of h3, Nc.of h4⟩⟩
instance {α β : Type} [Rp α] [Rp β] [Tr α] [Tr β] [Nc α] [T1 β] : T1 (α × β) := ⟨fun {K H v a} ⟨p, x, y, h1, h2, h3, h4⟩ => ⟨p, x, y, fun _ => False, muc H, h1, h2, fun _ z => z.elim, fun b z => z, Nc.of h3, T1.of h4⟩⟩
/-- told with its parts apart -/
structure Apt (α : Type) where
  l : α
  deriving DecidableEq
instance {α : Type} [Rp α] [Tr α] : Rp (Apt α) where
  rep K H v x := ∃ S, Tr.tr K H S v x.l
  mono e h := let ⟨S, r⟩ := h; ⟨S, Tr.mono (Agr.same e) r⟩
section
variable {K : PySem.W.Frag} {E : XK} {σ : L2.St} {H0 F H F' H' : Hp} {te ta tb to ti : TE} {α β γ δ : Type} [Rp α] [Rp β] [Rp γ] [Rp δ] [Tr α] [Tr β] [Tr γ] {D : Ends} {P : Addr → Prop}
theorem g_apl {m : R (Apt α)} (h : Gr K E te σ F H m) : Gr K E te σ F H (R.bd m fun a => .ok a.l) := fun H1 e Q hq =>
  h H1 e Q (by
    rw [wp_bd] at hq
    exact wp_mono hq (fun a _ k v H2 e2 ⟨S, r⟩ => k v H2 e2 (Tr.rep r)) fun _ _ z => z)
/-! ### what an expression makes anew -/
def NewS (H H2 : Hp) (S : Addr → Prop) : Prop := ∀ b, S b → H b = none ∧ muc H2 b
def GrX (K : PySem.W.Frag) (E : XK) (te : TE) (σ : L2.St) (H : Hp) (m : R α) : Prop :=
  ∀ H1, Same H H1 → ∀ Q : VK, Wp m (fun a => ∀ v H2, Same H1 H2 → (∃ S, Tr.tr K H2 S v a ∧ NewS H H2 S) → Q v H2) (EE K E H1) → te σ H1 Q
theorem newS_mix {H2 : Hp} {S : Addr → Prop} {v : V} {a : α} (e : Same H H2) (r : Tr.tr K H2 S v a) (n : NewS H H2 S) : Tr.tr K (mix F H H2) S v a :=
  Tr.mono (fun b o h z => by
    rcases z with z | z
    · rw [mix_new (n b z).1]; exact h
    · cases q : H b with
      | none => rw [mix_new q]; exact h
      | some u =>
        have := e b u q
        rw [h] at this
        cases this
        exact mix_tup q z) r
theorem gx_apt {m : R α} (h : GrX K E te σ H m) : Gr K E te σ F H (R.bd m fun a => .ok (Apt.mk a)) := fun H1 e Q hq =>
  h H1 e Q (by
    rw [wp_bd] at hq
    exact wp_mono hq (fun a _ k v H2 e2 ⟨S, r, n⟩ => k v H2 e2 ⟨S, newS_mix (e.trans e2) r n⟩) fun _ _ z => z)
theorem gx_nc [Nc α] {m : R α} (h : Gr K E te σ H H m) : GrX K E te σ H m := fun H1 e Q hq =>
  h H1 e Q (wp_mono hq (fun a _ k v H2 e2 r => k v H2 e2 ⟨fun _ => False, Nc.of (Rp.mono (mix_same (Same.refl _) (e.trans e2)) r), fun _ z => z.elim⟩) fun _ _ z => z)
theorem gx_t1 [T1 α] {m : R α} (h : Gr K E te σ nil0 H m) : GrX K E te σ H m := fun H1 e Q hq =>
  h H1 e Q (wp_mono hq (fun a _ k v H2 e2 r => k v H2 e2 (by
    have c := Tr.cut (T1.of r)
    refine ⟨_, Tr.mono (Agr.same (mix_same nil_same (e.trans e2))) c, fun b ⟨⟨o, h, t⟩, _⟩ => ?_⟩
    rcases mix_cases h with ⟨z, w⟩ | ⟨_, w⟩ | ⟨_, _, _, w⟩
    · exact ⟨z, o, w, t⟩
    · rw [t] at w; cases w
    · cases w)) fun _ _ z => z)
theorem gx_pairL [Nc β] {ma : R α} {mb : R β} (ha : GrX K E ta σ H ma) (hb : Gr K E tb σ H H mb) : GrX K E (tTup (tCons ta (tCons tb tNil))) σ H (R.bd ma fun a => R.bd mb fun b => .ok (a, b)) := fun H1 e Q hq =>
  ha H1 e _ (by
    rw [wp_bd] at hq
    refine wp_mono hq (fun a _ k v H2 e2 ⟨S, r, n⟩ => ?_) fun _ _ z => z
    refine hb H2 (e.trans e2) _ ?_
    rw [wp_bd] at k
    refine wp_mono k (fun b _ k w H3 e3 r3 => ?_) fun _ _ z => z.mono e2
    refine ⟨by show 2 ≤ sizeLine; decide, fun p hp => k _ _ (e2.trans (e3.trans (same_upd hp))) ⟨S, ⟨p, v, w, S, fun _ => False, rfl, upd_same, fun b z => ⟨z, fun y => y⟩, fun _ z => z.elim, Tr.mono (Agr.same (e3.trans (same_upd hp))) r, Nc.of (Rp.mono ((mix_same (Same.refl _) (e.trans (e2.trans e3))).trans (same_upd hp)) r3)⟩, fun b z => ⟨(n b z).1, muc_mono (e3.trans (same_upd hp)) (n b z).2⟩⟩⟩)
theorem gx_pairR [Nc α] {ma : R α} {mb : R β} (ha : Gr K E ta σ H H ma) (hb : GrX K E tb σ H mb) : GrX K E (tTup (tCons ta (tCons tb tNil))) σ H (R.bd ma fun a => R.bd mb fun b => .ok (a, b)) := fun H1 e Q hq =>
  ha H1 e _ (by
    rw [wp_bd] at hq
    refine wp_mono hq (fun a _ k v H2 e2 r => ?_) fun _ _ z => z
    refine hb H2 (e.trans e2) _ ?_
    rw [wp_bd] at k
    refine wp_mono k (fun b _ k w H3 e3 ⟨S, r3, n⟩ => ?_) fun _ _ z => z.mono e2
    refine ⟨by show 2 ≤ sizeLine; decide, fun p hp => k _ _ (e2.trans (e3.trans (same_upd hp))) ⟨S, ⟨p, v, w, fun _ => False, S, rfl, upd_same, fun _ z => z.elim, fun b z => z, Nc.of (Rp.mono ((mix_same (Same.refl _) (e.trans e2)).trans (e3.trans (same_upd hp))) r), Tr.mono (Agr.same (same_upd hp)) r3⟩, fun b z => ⟨(n b z).1, muc_mono (same_upd hp) (n b z).2⟩⟩⟩)
theorem gx_pair {ma : R α} {mb : R β} (ha : GrX K E ta σ H ma) (hb : ∀ H2, Same H H2 → GrX K E tb σ H2 mb) : GrX K E (tTup (tCons ta (tCons tb tNil))) σ H (R.bd ma fun a => R.bd mb fun b => .ok (a, b)) := fun H1 e Q hq =>
  ha H1 e _ (by
    rw [wp_bd] at hq
    refine wp_mono hq (fun a _ k v H2 e2 ⟨S, r, n⟩ => ?_) fun _ _ z => z
    refine hb H2 (e.trans e2) H2 (Same.refl _) _ ?_
    rw [wp_bd] at k
    refine wp_mono k (fun b _ k w H3 e3 ⟨S2, r3, n3⟩ => ?_) fun _ _ z => z.mono e2
    refine ⟨by show 2 ≤ sizeLine; decide, fun p hp => k _ _ (e2.trans (e3.trans (same_upd hp))) ⟨fun b => S b ∨ S2 b, ⟨p, v, w, S, S2, rfl, upd_same, fun b z => ⟨.inl z, fun y => muc_some (n b z).2 (n3 b y).1⟩, fun b z => .inr z, Tr.mono (Agr.same (e3.trans (same_upd hp))) r, Tr.mono (Agr.same (same_upd hp)) r3⟩, fun b z => ?_⟩⟩
    rcases z with z | z
    · exact ⟨(n b z).1, muc_mono (e3.trans (same_upd hp)) (n b z).2⟩
    · exact ⟨Same.free (e.trans e2) (n3 b z).1, muc_mono (same_upd hp) (n3 b z).2⟩)
/-- [e] -/
theorem gx_lst1 {m : R α} (h : GrX K E te σ H m) : GrX K E (tLst (tCons te tNil)) σ H (R.bd m fun a => .ok [a]) := fun H1 e Q hq =>
  h H1 e _ (by
    rw [wp_bd] at hq
    refine wp_mono hq (fun a _ k v H2 e2 ⟨S, r, n⟩ => ?_) fun _ _ z => z
    refine ⟨by show 1 ≤ sizeLine; decide, fun p hp => k _ _ (e2.trans (same_upd hp)) ⟨fun b => S b ∨ b = p, ⟨p, [v], S, rfl, upd_same, .inr rfl, fun b z => ⟨.inl z, fun y => by rw [y] at z; exact muc_some (n p z).2 hp⟩, .cons (S1 := S) (S2 := fun _ => False) (fun b z => ⟨z, fun w => w⟩) (fun _ z => z.elim) (Tr.mono (Agr.same (same_upd hp)) r) .nil⟩, fun b z => ?_⟩⟩
    rcases z with z | z
    · exact ⟨(n b z).1, muc_mono (same_upd hp) (n b z).2⟩
    · rw [z]; exact ⟨Same.free (e.trans e2) hp, _, upd_same, rfl⟩)
end
end G

set_option Elab.async false
set_option linter.all false
set_option maxRecDepth 100000
set_option maxHeartbeats 4000000
/-! G: comprehensions that tell parts apart. -/
namespace G
open PySem PySem.Spec PyProof.Rows L2
theorem compGo_ner {α β : Type} {cf : α → R Bool} {f : α → R β} : ∀ (l : List α) (c : Er), compGo cf f l ≠ .er c
  | [], c, z => by cases z
  | x :: l, c, z => by
    unfold compGo at z
    cases h1 : cf x with
    | ok b =>
      rw [h1] at z
      have z2 : (if b = true then R.bd (f x).nx fun y => R.bd (compGo cf f l) fun ys => .ok (y :: ys) else compGo cf f l) = .er c := z
      cases b with
      | true =>
        rw [if_pos rfl] at z2
        cases h2 : f x with
        | ok y =>
          rw [h2] at z2
          have z3 : (R.bd (compGo cf f l) fun ys => .ok (y :: ys)) = .er c := z2
          cases h3 : compGo cf f l with
          | ok ys => rw [h3] at z3; cases z3
          | er c' => exact compGo_ner l c' h3
          | bad => rw [h3] at z3; cases z3
        | er c' => rw [h2] at z2; cases z2
        | bad => rw [h2] at z2; cases z2
      | false =>
        rw [if_neg Bool.false_ne_true] at z2
        exact compGo_ner l c z2
    | er c' => rw [h1] at z; cases z
    | bad => rw [h1] at z; cases z
section
variable {K : PySem.W.Frag} {E : XK} {σ : L2.St} {H : Hp} {α β : Type} [Rp α] [Rp β] [Tr β]
theorem trl_agr {S : Addr → Prop} {H H' : Hp} {vs : List V} {xs : List β} (a : Agr S H H') (t : TrL (fun S v x => Tr.tr K H S v x) S vs xs) : TrL (fun S v x => Tr.tr K H' S v x) S vs xs :=
  t.mp fun S1 v x q r => Tr.mono (a.sub q) r
theorem agr_upd {S : Addr → Prop} {H H' : Hp} {p : Addr} {vs ws : List V} (e : Same H H') (hp : H' p = some (.lst vs)) (n : ∀ b, S b → b ≠ p) : Agr S H (upd H' p (.lst ws)) := fun b o h z => by
  have : b ≠ p := fun w => by
    rcases z with z | z
    · exact n b z w
    · have q := e b o h
      rw [w, hp] at q
      cases q
      cases z
  rw [upd_ne this]
  exact e b o h
/-- a comprehension of new things -/
theorem gx_comp {wi : TI} {g : TG} {tt : TT} {te : TE} {vs : List Nat} {m : R (List α)} {cf : α → R Bool} {f : α → R β} (hi : GrI K E wi σ H H m)
    (hel : ∀ x v H2, Same H H2 → Rp.rep K H2 v x → ∃ σ2, (∀ Q : L2.St → Hp → Prop, Q σ2 H2 → g v (wipe σ vs) H2 Q) ∧ wipe σ2 vs = wipe σ vs ∧ GrT K EF tt σ2 H2 (cf x) ∧ GrX K EF te σ2 H2 (f x)) :
    GrX K E (tLc wi g tt te vs) σ H (R.bd m fun xs => compR xs cf f) := fun H1 e Q hq =>
  hi H1 e _ (by
    rw [wp_bd] at hq
    refine wp_mono hq (fun xs _ k J H2 e2 ok => ?_) fun _ _ z => z
    unfold compR gd at k
    split at k
    · rename_i cl
      intro Dl hD
      have hnD : H Dl = none := Same.free (e.trans e2) hD
      refine ⟨fun i m H' => m = xs.length - i ∧ i ≤ xs.length ∧ Same H2 H' ∧ ∃ acc ys S1, H' Dl = some (.lst acc) ∧ acc.length ≤ i ∧ TrL (fun S v x => Tr.tr K H' S v x) S1 acc (ys : List β) ∧ (∀ b, S1 b → H b = none ∧ b ≠ Dl ∧ muc H' b) ∧
        Wp (compGo cf f (xs.drop i)) (fun zs => ∀ H3, Same H1 H3 → ∀ v, (∃ S, Tr.tr K H3 S v (ys ++ zs) ∧ NewS H H3 S) → Q v H3) (fun _ => False), ⟨_, rfl, Nat.zero_le _, same_upd hD, [], [], fun _ => False, upd_same, Nat.le_refl _, .nil, fun _ z => z.elim, ?_⟩, ?_⟩
      · rw [List.drop_zero]
        exact wp_mono k (fun zs _ q H3 e3 v r => q v H3 e3 r) fun c hc _ => compGo_ner _ _ hc
      · rintro i m H' ⟨rfl, hi', sH, acc, ys, S1, hacc, hal, hall, hS, hw⟩
        have hG : Same (mix H H H2) H' := (mix_same (Same.refl _) (e.trans e2)).trans sH
        by_cases ci : i < xs.length
        · refine .inr ⟨ok.go i H' hG ci, _, fun H3 h3 => ⟨xs.length - (i + 1), by omega, h3⟩, fun v H'' y => ?_⟩
          obtain ⟨e1, a, ha, r⟩ := ok.yld i H' v H'' hG ci y
          have hacc2 := e1 _ _ hacc
          obtain ⟨σ2, hg, hwp, gt, ge⟩ := hel a v H'' ((e.trans e2).trans (sH.trans e1)) (Rp.mono (mix_same hG e1) r)
          refine hg _ ⟨hwp, gt H'' (Same.refl _) _ ?_⟩
          rw [drop_get ha] at hw
          unfold compGo at hw
          rw [wp_bd] at hw
          refine wp_nx (wp_mono hw (fun b _ q H3 e3 => ?_) fun _ _ z => z)
          cases b with
          | true =>
            show te σ2 H3 _
            refine ge H3 e3 _ ?_
            have q2 : Wp (R.bd (f a).nx fun y => R.bd (compGo cf f (xs.drop (i + 1))) fun ys => .ok (y :: ys)) _ _ := q
            rw [wp_bd] at q2
            refine wp_nx (wp_mono q2 (fun y _ q3 w H4 e4 ⟨S2, r2, n2⟩ => ?_) fun _ _ z => z)
            have hacc4 := e4 _ _ (e3 _ _ hacc2)
            have apart : ∀ b, S1 b → ¬ S2 b := fun b z w => muc_some (hS b z).2.2 (Same.free e1 (n2 b w).1)
            have nD : ∀ b, S2 b → b ≠ Dl := fun b w z => by rw [z] at w; have := (n2 Dl w).1; rw [hacc2] at this; cases this
            refine ⟨acc, hacc4, lim_line' (by omega), rfl, ci, ?_, acc ++ [w], ys ++ [y], fun b => S1 b ∨ S2 b, upd_same, by rw [List.length_append]; simp; omega, ?_, ?_, ?_⟩
            · exact fun x o h => by
                have ne : x ≠ Dl := fun z => by rw [z, hD] at h; cases h
                rw [upd_ne ne]
                exact e4 _ _ (e3 _ _ (e1 _ _ (sH _ _ h)))
            · exact (trl_agr (agr_upd (e1.trans (e3.trans e4)) hacc4 fun b z => (hS b z).2.1) hall).snoc (Tr.mono (agr_upd (Same.refl _) hacc4 nD) r2) (fun b z => ⟨.inl z, apart b z⟩) fun b z => .inr z
            · intro b z
              rcases z with z | z
              · obtain ⟨h1, h2, o, h3, h4⟩ := hS b z
                exact ⟨h1, h2, o, by rw [upd_ne h2]; exact e4 _ _ (e3 _ _ (e1 _ _ h3)), h4⟩
              · obtain ⟨h1, o, h3, h4⟩ := n2 b z
                exact ⟨Same.free ((e.trans e2).trans (sH.trans e1)) h1, nD b z, o, by rw [upd_ne (nD b z)]; exact h3, h4⟩
            · rw [wp_bd] at q3
              refine wp_mono q3 (fun zs _ q4 H5 e5 v5 r5 => ?_) fun _ _ z => z
              refine q4 H5 e5 v5 ?_
              rw [List.append_assoc] at r5
              exact r5
          | false =>
            have ee := e1.trans e3
            exact ⟨rfl, ci, fun x o h => ee _ _ (sH _ _ h), acc, ys, S1, ee _ _ hacc, by omega, trl_agr (Agr.same ee) hall, fun b z => ⟨(hS b z).1, (hS b z).2.1, muc_mono ee (hS b z).2.2⟩, q⟩
        · have ei : i = xs.length := by omega
          refine .inl ⟨ok.stop i H' hG ei, ?_⟩
          rw [ei, List.drop_length] at hw
          have hw2 : ∀ H3, Same H1 H3 → ∀ v, (∃ S, Tr.tr K H3 S v (ys ++ []) ∧ NewS H H3 S) → Q v H3 := hw
          refine hw2 H' (e2.trans sH) _ ?_
          rw [List.append_nil]
          refine ⟨fun b => S1 b ∨ b = Dl, ⟨Dl, acc, S1, rfl, hacc, .inr rfl, fun b z => ⟨.inl z, (hS b z).2.1⟩, hall⟩, fun b z => ?_⟩
          rcases z with z | z
          · exact ⟨(hS b z).1, (hS b z).2.2⟩
          · rw [z]; exact ⟨hnD, _, hacc, rfl⟩
    · exact k.elim)
/-- the items of a list of parts apart that pass a test -/
theorem gx_filter [Tr α] {tl : TE} {g : TG} {tt : TT} {te : TE} {vs : List Nat} {m : R (Apt (List α))} {cf : α → R Bool} (hi : Gr K E tl σ nil0 H m)
    (hel : ∀ x v H2, Same H H2 → Rp.rep K H2 v x → ∃ σ2, (∀ Q : L2.St → Hp → Prop, Q σ2 H2 → g v (wipe σ vs) H2 Q) ∧ wipe σ2 vs = wipe σ vs ∧ GrT K EF tt σ2 H2 (cf x) ∧ ∀ H3 (Q : VK), Q v H3 → te σ2 H3 Q) :
    GrX K E (tLc (iList K tl) g tt te vs) σ H (R.bd m fun xs => compR xs.l cf fun x => .ok x) := fun H1 e Q hq =>
  hi H1 e _ (by
    rw [wp_bd] at hq
    refine wp_mono hq (fun ax _ k v0 H2 e2 r0 => ?_) fun _ _ z => z
    obtain ⟨xs⟩ := ax
    obtain ⟨S0, r0⟩ := r0
    obtain ⟨p, us, SA, rfl, hp, hSp, hSA, t0⟩ := Tr.cut r0
    have s2 : Same (mix nil0 H H2) H2 := mix_same nil_same (e.trans e2)
    have nw : ∀ b, muc (mix nil0 H H2) b → H b = none := fun b ⟨o, h, t⟩ => by
      rcases mix_cases h with ⟨z, _⟩ | ⟨_, w⟩ | ⟨_, _, _, w⟩
      · exact z
      · rw [t] at w; cases w
      · cases w
    have hp2 := s2 _ _ hp
    have len : us.length = xs.length := (t0.all (F := fun _ _ => True) fun _ _ _ _ => trivial).length
    refine ⟨p, rfl, ⟨us, SqL.of hp2⟩, ?_⟩
    have k : Wp (compR xs cf fun x => .ok x) _ _ := k
    unfold compR gd at k
    split at k
    · rename_i cl
      intro Dl hD
      have hnD : H Dl = none := Same.free (e.trans e2) hD
      have nD : ∀ b, muc (mix nil0 H H2) b → b ≠ Dl := fun b ⟨o, h, _⟩ z => by have := s2 _ _ h; rw [z, hD] at this; cases this
      refine ⟨fun i m H' => m = xs.length - i ∧ i ≤ xs.length ∧ Same H2 H' ∧ ∃ acc ys S1 S2, H' Dl = some (.lst acc) ∧ acc.length ≤ i ∧ TrL (fun S v x => Tr.tr K H' S v x) S1 acc (ys : List α) ∧ TrL (fun S v x => Tr.tr K H' S v x) S2 (us.drop i) (xs.drop i) ∧
        (∀ b, S1 b → muc (mix nil0 H H2) b ∧ ¬ S2 b) ∧ (∀ b, S2 b → muc (mix nil0 H H2) b) ∧
        Wp (compGo cf (fun x => .ok x) (xs.drop i)) (fun zs => ∀ H3, Same H1 H3 → ∀ v, (∃ S, Tr.tr K H3 S v (ys ++ zs) ∧ NewS H H3 S) → Q v H3) (fun _ => False), ⟨_, rfl, Nat.zero_le _, same_upd hD, [], [], fun _ => False, SA, upd_same, Nat.le_refl _, .nil, ?_, fun _ z => z.elim, fun b z => (hSA b z).1.2, ?_⟩, ?_⟩
      · rw [List.drop_zero, List.drop_zero]
        exact trl_agr (Agr.same (s2.trans (same_upd hD))) t0
      · rw [List.drop_zero]
        exact wp_mono k (fun zs _ q H3 e3 v r => q v H3 e3 r) fun c hc _ => compGo_ner _ _ hc
      · rintro i m H' ⟨rfl, hi', sH, acc, ys, S1, S2, hacc, hal, hall, hrest, h1, h2, hw⟩
        have hp' := sH _ _ hp2
        by_cases ci : i < xs.length
        · have cu : i < us.length := by omega
          refine .inr ⟨⟨us, us[i], SqL.of hp', List.getElem?_eq_getElem cu⟩, _, fun H3 h3 => ⟨xs.length - (i + 1), by omega, h3⟩, fun v H'' y => ?_⟩
          obtain ⟨rfl, y⟩ := y
          have hv := y us (SqL.of hp')
          obtain ⟨a, ha⟩ : ∃ a, xs[i]? = some a := ⟨_, List.getElem?_eq_getElem ci⟩
          rw [drop_get hv, drop_get ha] at hrest
          cases hrest with
          | @cons _ A1 A2 _ _ _ _ k1 k2 r t =>
            obtain ⟨σ2, hg, hwp, gt, ge⟩ := hel a v H'' ((e.trans e2).trans sH) (Tr.rep r)
            refine hg _ ⟨hwp, gt H'' (Same.refl _) _ ?_⟩
            rw [drop_get ha] at hw
            unfold compGo at hw
            rw [wp_bd] at hw
            refine wp_nx (wp_mono hw (fun b _ q H3 e3 => ?_) fun _ _ z => z)
            cases b with
            | true =>
              show te σ2 H3 _
              refine ge H3 _ ?_
              have q2 : Wp (R.bd (R.ok a).nx fun y => R.bd (compGo cf (fun x => .ok x) (xs.drop (i + 1))) fun ys => .ok (y :: ys)) _ _ := q
              have hacc3 := e3 _ _ hacc
              have ag : ∀ S : Addr → Prop, (∀ b, S b → muc (mix nil0 H H2) b) → Agr S H'' (upd H3 Dl (.lst (acc ++ [v]))) := fun S hS => agr_upd e3 hacc3 fun b z => nD b (hS b z)
              refine ⟨acc, hacc3, lim_line' (by omega), rfl, ci, ?_, acc ++ [v], ys ++ [a], fun b => S1 b ∨ A1 b, A2, upd_same, by rw [List.length_append]; simp; omega, ?_, ?_, ?_, ?_, ?_⟩
              · exact fun x o h => by
                  have ne : x ≠ Dl := fun z => by rw [z, hD] at h; cases h
                  rw [upd_ne ne]
                  exact e3 _ _ (sH _ _ h)
              · exact (trl_agr (ag S1 fun b z => (h1 b z).1) hall).snoc (Tr.mono (ag A1 fun b z => h2 b (k1 b z).1) r) (fun b z => ⟨.inl z, fun w => (h1 b z).2 (k1 b w).1⟩) fun b z => .inr z
              · exact trl_agr (ag A2 fun b z => h2 b (k2 b z)) t
              · intro b z
                rcases z with z | z
                · exact ⟨(h1 b z).1, fun w => (h1 b z).2 (k2 b w)⟩
                · exact ⟨h2 b (k1 b z).1, (k1 b z).2⟩
              · exact fun b z => h2 b (k2 b z)
              · have q3 : Wp (R.bd (compGo cf (fun x => .ok x) (xs.drop (i + 1))) fun ys => .ok (a :: ys)) _ _ := q2
                rw [wp_bd] at q3
                refine wp_mono q3 (fun zs _ q4 H5 e5 v5 r5 => ?_) fun _ _ z => z
                refine q4 H5 e5 v5 ?_
                rw [List.append_assoc] at r5
                exact r5
            | false =>
              exact ⟨rfl, ci, fun x o h => e3 _ _ (sH _ _ h), acc, ys, S1, A2, e3 _ _ hacc, by omega, trl_agr (Agr.same e3) hall, trl_agr (Agr.same e3) t, fun b z => ⟨(h1 b z).1, fun w => (h1 b z).2 (k2 b w)⟩, fun b z => h2 b (k2 b z), q⟩
        · have ei : i = xs.length := by omega
          refine .inl ⟨⟨us, SqL.of hp', by omega⟩, ?_⟩
          rw [ei, List.drop_length] at hw
          have hw2 : ∀ H3, Same H1 H3 → ∀ v, (∃ S, Tr.tr K H3 S v (ys ++ []) ∧ NewS H H3 S) → Q v H3 := hw
          refine hw2 H' (e2.trans sH) _ ?_
          rw [List.append_nil]
          refine ⟨fun b => S1 b ∨ b = Dl, ⟨Dl, acc, S1, rfl, hacc, .inr rfl, fun b z => ⟨.inl z, nD b (h1 b z).1⟩, hall⟩, fun b z => ?_⟩
          rcases z with z | z
          · exact ⟨nw b (h1 b z).1, muc_mono (s2.trans sH) (h1 b z).1⟩
          · rw [z]; exact ⟨hnD, _, hacc, rfl⟩
    · exact k.elim)
end
end G

set_option Elab.async false
set_option linter.all false
set_option maxRecDepth 100000
set_option maxHeartbeats 4000000
/-! G: what was told with its parts apart is ours to change, part by part. -/
namespace G
open PySem PySem.Spec PyProof.Rows L2
structure ApO {α : Type} [Rp α] [Tr α] (K : PySem.W.Frag) (H0 F H : Hp) (SS : Addr → Prop) (v : V) (a : α) : Prop where
  ex : ∃ S, Tr.tr K H S v a ∧ ∀ b, S b → SS b ∧ F b = none ∧ H0 b = none ∧ muc H b
/-- F and the tuples of H -/
def tupF (F H : Hp) : Hp := fun b => if tupB (H b) = true then H b else F b
section
variable {K : PySem.W.Frag} {E : XK} {σ : L2.St} {H0 F H F' H' : Hp} {te ta tb to ti : TE} {t : TT} {tu tw : TS} {α β γ δ ρ S : Type} [Rp α] [Rp β] [Rp γ] [Rp δ] [Tr α] [Tr β] [Tr γ] [Tr δ] [Rp ρ] {D : Ends} {P P2 : Addr → Prop} {SS : Addr → Prop} {v : V} {a : α}
theorem tupF_ff (e : Same F H) : Same F (tupF F H) := fun b o h => by
  unfold tupF
  split
  · exact e b o h
  · exact h
theorem tupF_le (e : Same F H) : Same (tupF F H) H := fun b o h => by
  unfold tupF at h
  split at h
  · exact h
  · exact e b o h
theorem tupF_tup {b : Addr} {xs : List V} (h : H b = some (.tup xs)) : tupF F H b = some (.tup xs) := by
  unfold tupF
  rw [h]
  rfl
theorem tupF_none {b : Addr} (h : tupB (H b) = false) (f : F b = none) : tupF F H b = none := by
  unfold tupF
  rw [h]
  exact f
theorem muc_tb {b : Addr} (h : muc H b) : tupB (H b) = false := by obtain ⟨o, h1, h2⟩ := h; rw [h1]; exact h2
theorem nx_tupF {H2 : Hp} (hF : Same F H) (e : Same H H2) : Nx0 F H (tupF F H2) H2 :=
  ⟨tupF_ff (hF.trans e), fun b o _ h => e b o h, tupF_le (hF.trans e), fun b o z h n => tupF_none (by rw [e b o h]; exact z) n, fun b o h => ⟨o, e b o h, rfl⟩⟩
theorem Own.nt {τ : Type} [Rp τ] [Cel τ] {b : Bool} {p : Addr} {x : τ} (o : Own K H0 b F H p x) : tupB (H p) = false := by
  obtain ⟨_, _, u, h, r⟩ := o
  rw [h]
  exact Cel.nt r
theorem ApO.see (o : ApO K H0 F H SS v a) : Rp.rep K H v a := let ⟨_, r, _⟩ := o.ex; Tr.rep r
theorem nx_agr {S : Addr → Prop} (n : Nx P F H F' H') (hp : ∀ q, P q → ¬ S q) (ht : ∀ q, P q → tupB (H q) = false) : Agr S H H' := fun b o h z => by
  refine n.hh b o (fun w => ?_) h
  rcases z with z | z
  · exact hp b w z
  · have := ht b w
    rw [h, z] at this
    cases this
theorem ApO.nx (o : ApO K H0 F H SS v a) (n : Nx P F H F' H') (hp : ∀ q, P q → ¬ SS q) (ht : ∀ q, P q → tupB (H q) = false) : ApO K H0 F' H' SS v a := by
  obtain ⟨S, r, h⟩ := o.ex
  refine ⟨S, Tr.mono (nx_agr n (fun q z w => hp q z (h q w).1) ht) r, fun b z => ?_⟩
  obtain ⟨h1, h2, h3, u, h4, h5⟩ := h b z
  have h6 := n.hh b u (fun w => hp b w h1) h4
  exact ⟨h1, n.own b u h5 h4 h2, h3, u, h6, h5⟩
theorem ApO.nx0 (o : ApO K H0 F H SS v a) (n : Nx0 F H F' H') : ApO K H0 F' H' SS v a := o.nx n (fun _ z => z.elim) fun _ z => z.elim
theorem ApO.fz {F1 : Hp} {p : Addr} (o : ApO K H0 F H SS v a) (f : ∀ q, q ≠ p → F1 q = F q) (ns : ¬ SS p) : ApO K H0 F1 H SS v a := by
  obtain ⟨S, r, h⟩ := o.ex
  refine ⟨S, r, fun b z => ?_⟩
  obtain ⟨h1, h2, h3, h4⟩ := h b z
  exact ⟨h1, by rw [f b (fun w => ns (w ▸ h1))]; exact h2, h3, h4⟩
/-- what is told is ours -/
theorem s_asgAp {i : Nat} {m : R (Apt α)} {k : α → R ρ} {kk : ρ → Prop} (he : Gr K E te σ nil0 H m) (hF : Same F H) (e0 : Same H0 H) (hQ : Wp (R.bd (R.bd m fun a => .ok a.l) k) kk (EE K E H0))
    (c : ∀ a v F' H' SS, Nx0 F H F' H' → Same H0 H' → ApO K H0 F' H' SS v a → (∀ b, SS b → H b = none) → (∀ b, SS b → H' b ≠ none) → Wp (k a) kk (EE K E H0) → D.nx (σ.set i (some v)) H') : tAsg te (gName i) D σ H := by
  refine he H (Same.refl _) _ ?_
  rw [bd_assoc, wp_bd] at hQ
  refine wp_mono hQ (fun a _ q v H2 e2 ⟨S, r⟩ => ?_) fun c _ z => z.mono e0
  have s2 : Same (mix nil0 H H2) H2 := mix_same nil_same e2
  have key : ∀ b, muc (mix nil0 H H2) b → H b = none ∧ muc H2 b := fun b ⟨o, h, t⟩ => by
    rcases mix_cases h with ⟨z, w⟩ | ⟨_, w⟩ | ⟨_, _, _, w⟩
    · exact ⟨z, o, w, t⟩
    · rw [t] at w; cases w
    · cases w
  have n := nx_tupF hF e2
  refine c a.l v _ H2 (fun b => H b = none ∧ muc H2 b) n (e0.trans e2) ⟨_, Tr.mono (Agr.same s2) (Tr.cut r), fun b z => ?_⟩ (fun b z => z.1) (fun b z => muc_some z.2) q
  obtain ⟨h1, h2⟩ := key b z.2
  exact ⟨⟨h1, h2⟩, tupF_none (muc_tb h2) (Same.free hF h1), Same.free e0 h1, h2⟩
/-- a triple, its last part ours -/
theorem s_asgAp3 [Im α] [Im β] {i : Nat} {m : R (T3 α β (Apt γ))} {k : T3 α β γ → R ρ} {kk : ρ → Prop} (he : Gr K E te σ nil0 H m) (hF : Same F H) (e0 : Same H0 H) (hQ : Wp (R.bd (R.bd m fun a => .ok (T3.mk a.a a.b a.c.l)) k) kk (EE K E H0))
    (c : ∀ a b g x y z p F' H' SS, Nx0 F H F' H' → Same H0 H' → F' p = some (.tup [x, y, z]) → Rp.rep K F' x a → Rp.rep K F' y b → ApO K H0 F' H' SS z g → (∀ b, SS b → H b = none) → (∀ b, SS b → H' b ≠ none) → Wp (k ⟨a, b, g⟩) kk (EE K E H0) → D.nx (σ.set i (some (.ref p))) H') : tAsg te (gName i) D σ H := by
  refine he H (Same.refl _) _ ?_
  rw [bd_assoc, wp_bd] at hQ
  refine wp_mono hQ (fun a _ q v H2 e2 r => ?_) fun c _ z => z.mono e0
  obtain ⟨p, x, y, z, rfl, hp, r1, r2, S, r⟩ := r
  have s2 : Same (mix nil0 H H2) H2 := mix_same nil_same e2
  have key : ∀ b, muc (mix nil0 H H2) b → H b = none ∧ muc H2 b := fun b ⟨o, h, t⟩ => by
    rcases mix_cases h with ⟨z, w⟩ | ⟨_, w⟩ | ⟨_, _, _, w⟩
    · exact ⟨z, o, w, t⟩
    · rw [t] at w; cases w
    · cases w
  have tp : ∀ p xs, mix nil0 H H2 p = some (.tup xs) → tupF F H2 p = some (.tup xs) := fun p xs h => tupF_tup (s2 _ _ h)
  refine c a.a a.b a.c.l x y z p _ H2 (fun b => H b = none ∧ muc H2 b) (nx_tupF hF e2) (e0.trans e2) (tp _ _ hp) (Im.mv tp r1) (Im.mv tp r2) ⟨_, Tr.mono (Agr.same s2) (Tr.cut r), fun b z => ?_⟩ (fun b z => z.1) (fun b z => muc_some z.2) q
  obtain ⟨h1, h2⟩ := key b z.2
  exact ⟨⟨h1, h2⟩, tupF_none (muc_tb h2) (Same.free hF h1), Same.free e0 h1, h2⟩
/-- a, b = x, x ours with its parts apart -/
theorem s_unpAp {i j n : Nat} {x : α × β} (o : ApO K H0 F H SS v x) (hv : σ[n]? = some (some v))
    (c : ∀ x1 y1 S1 S2, ApO K H0 F H S1 x1 x.1 → ApO K H0 F H S2 y1 x.2 → (∀ q, S1 q → ¬ S2 q) → (∀ q, S1 q → SS q ∧ H q ≠ none) → (∀ q, S2 q → SS q ∧ H q ≠ none) → D.nx ((σ.set i (some x1)).set j (some y1)) H) : tAsg (tVar n) (gTup K 2 (gCons (gName i) (gCons (gName j) gNil))) D σ H := by
  obtain ⟨S, r, h⟩ := o.ex
  obtain ⟨p, x1, y1, S1, S2, rfl, hp, d1, d2, r1, r2⟩ := r
  refine ⟨_, hv, p, _, rfl, SqT.of hp, rfl, x1, _, rfl, y1, _, rfl, rfl, c x1 y1 S1 S2 ⟨S1, r1, fun b z => ?_⟩ ⟨S2, r2, fun b z => ?_⟩ (fun q z => (d1 q z).2) (fun q z => ⟨(h q (d1 q z).1).1, muc_some (h q (d1 q z).1).2.2.2⟩) fun q z => ⟨(h q (d2 q z)).1, muc_some (h q (d2 q z)).2.2.2⟩⟩
  · obtain ⟨_, h2, h3, h4⟩ := h b (d1 b z).1
    exact ⟨z, h2, h3, h4⟩
  · obtain ⟨_, h2, h3, h4⟩ := h b (d2 b z)
    exact ⟨z, h2, h3, h4⟩
/-! ### a part of it -/
def AtV (te : TE) (σ : L2.St) (H : Hp) (v : V) : Prop := ∀ H1, Same H H1 → ∀ Q : VK, Q v H1 → te σ H1 Q
def AtI (te : TE) (σ : L2.St) (i : Int) : Prop := ∀ H1, ∀ Q : VK, Q (.int i) H1 → te σ H1 Q
theorem ati_c {i : Int} : AtI (tC (.int i)) σ i := fun _ _ q => q
theorem ati_v {n : Nat} {i : Int} (h : σ[n]? = some (some (.int i)) := by rfl) : AtI (tVar n) σ i := fun _ _ q => ⟨_, h, q⟩
theorem atv_v {n : Nat} (h : σ[n]? = some (some v)) : AtV (tVar n) σ H v := fun _ _ _ q => ⟨_, h, q⟩
theorem atv_t3c {n : Nat} {p : Addr} {x y z : V} (h : σ[n]? = some (some (.ref p))) (hF : Same F H) (hp : F p = some (.tup [x, y, z])) : AtV (tOp (rIxT K) (tVar n) (tC (.int 2))) σ H z := fun H1 e Q q => ⟨_, h, p, _, 2, z, rfl, rfl, SqT.of (e _ _ (hF _ _ hp)), rfl, q⟩
def Sub (K : PySem.W.Frag) (to : TE) (σ : L2.St) (H : Hp) (v : V) (a : α) (b : β) (put : β → α) : Prop :=
  ∀ S, Tr.tr K H S v a → ∃ w S1, AtV to σ H w ∧ Tr.tr K H S1 w b ∧ (∀ q, S1 q → S q) ∧ ∀ H' b', Agr (fun z => S z ∧ ¬ S1 z) H H' → Tr.tr K H' S1 w b' → Tr.tr K H' S v (put b')
theorem sub_v (h : AtV to σ H v) : Sub K to σ H v a a id := fun S r => ⟨v, S, h, r, fun _ z => z, fun _ _ _ r => r⟩
theorem sub_fst {b : β × γ} {put : β × γ → α} (s : Sub K to σ H v a b put) : Sub K (tOp (rIxT K) to (tC (.int 0))) σ H v a b.1 (fun x => put (x, b.2)) := fun S r => by
  obtain ⟨w, S1, h1, h2, h3, h4⟩ := s S r
  obtain ⟨p, x, y, A1, A2, rfl, hp, d1, d2, r1, r2⟩ := h2
  refine ⟨x, A1, fun H1 e Q q => h1 H1 e _ ⟨p, _, 0, x, rfl, rfl, SqT.of (e _ _ hp), rfl, q⟩, r1, fun q z => h3 q (d1 q z).1, fun H' b' ag rb => h4 H' _ (ag.sub fun z y => ⟨y.1, fun w => y.2 (d1 z w).1⟩) ⟨p, x, y, A1, A2, rfl, ag p _ hp (.inr rfl), d1, d2, rb, Tr.mono (ag.sub fun z y => ⟨h3 z (d2 z y), fun w => (d1 z w).2 y⟩) r2⟩⟩
theorem sub_snd {b : β × γ} {put : β × γ → α} (s : Sub K to σ H v a b put) : Sub K (tOp (rIxT K) to (tC (.int 1))) σ H v a b.2 (fun x => put (b.1, x)) := fun S r => by
  obtain ⟨w, S1, h1, h2, h3, h4⟩ := s S r
  obtain ⟨p, x, y, A1, A2, rfl, hp, d1, d2, r1, r2⟩ := h2
  refine ⟨y, A2, fun H1 e Q q => h1 H1 e _ ⟨p, _, 1, y, rfl, rfl, SqT.of (e _ _ hp), rfl, q⟩, r2, fun q z => h3 q (d2 q z), fun H' b' ag rb => h4 H' _ (ag.sub fun z y => ⟨y.1, fun w => y.2 (d2 z w)⟩) ⟨p, x, y, A1, A2, rfl, ag p _ hp (.inr rfl), d1, d2, Tr.mono (ag.sub fun z y => ⟨h3 z (d1 z y).1, fun w => (d1 z y).2 w⟩) r1, rb⟩⟩
theorem sub_ix {b : List β} {put : List β → α} {i : Int} {j : Nat} {x : β} (s : Sub K to σ H v a b put) (hi : AtI ti σ i) (hj : ixN b.length i = some j) (hx : b[j]? = some x) : Sub K (tOp (rIxL K) to ti) σ H v a x (fun y => put (b.set j y)) := fun S r => by
  obtain ⟨w, S1, h1, h2, h3, h4⟩ := s S r
  obtain ⟨p, vs, A, rfl, hp, hSp, hA, t⟩ := h2
  have len : vs.length = b.length := (t.all (F := fun _ _ => True) fun _ _ _ _ => trivial).length
  obtain ⟨u, B, e1, r1, s1, k1⟩ := t.at hx
  refine ⟨u, B, fun H1 e Q q => h1 H1 e _ (hi H1 _ ⟨p, vs, i, u, rfl, rfl, SqL.of (e _ _ hp), ?_, q⟩), r1, fun q z => h3 q (hA q (s1 q z)).1, fun H' b' ag rb => h4 H' _ (ag.sub fun z y => ⟨y.1, fun w => y.2 (hA z (s1 z w)).1⟩) ⟨p, vs, A, rfl, ag p _ hp (.inl ⟨h3 p hSp, fun w => (hA p (s1 p w)).2 rfl⟩), hSp, hA, ?_⟩⟩
  · unfold atI
    rw [len, hj]
    exact e1
  · exact k1 (fun S v a => Tr.tr K H' S v a) b' rb fun S' v a q r => Tr.mono (ag.sub fun z y => ⟨h3 z (hA z (q z y).1).1, (q z y).2⟩) r
/-- x.append(e), x a list of ours or a part of a thing of ours -/
theorem s_apF [Nc γ] {ys : List γ} {put : List γ → α} {me : R γ} {k : List γ → R ρ} {kk : ρ → Prop} (o : ApO K H0 F H SS v a) (s : Sub K to σ H v a ys put) (he : Gr K E te σ H H me) (hF : Same F H) (e0 : Same H0 H)
    (hQ : Wp (R.bd (R.bd me fun e => appR ys e) k) kk (EE K E H0))
    (c : ∀ y q F' H', Nx (fun z => z = q) F H F' H' → Same H0 H' → SS q → tupB (H q) = false → ApO K H0 F' H' SS v (put y) → Wp (k y) kk (EE K E H0) → D.nx σ H') : tDrop (tBM K "list" rAppend to (tCons te tNil)) D σ H := by
  obtain ⟨S, r, hS⟩ := o.ex
  obtain ⟨w, S1, h1, h2, h3, h4⟩ := s S r
  obtain ⟨p, vs, A, rfl, hp, hSp, hA, t⟩ := h2
  have sp := hS p (h3 p hSp)
  refine h1 H (Same.refl _) _ ⟨.inl ⟨rfl, _, SqL.of hp⟩, ?_⟩
  refine he H (Same.refl _) _ ?_
  rw [bd_assoc, wp_bd] at hQ
  refine wp_mono hQ (fun e _ q u H2 e2 re => ?_) fun c _ z => z.mono e0
  rw [wp_bd] at q
  have len : vs.length = ys.length := (t.all (F := fun _ _ => True) fun _ _ _ _ => trivial).length
  unfold appR gd at q
  split at q
  · rename_i cl
    have hp2 := e2 _ _ hp
    refine ⟨p, vs, u, rfl, rfl, hp2, lim_line' (by rw [len]; exact cl), ?_⟩
    have ag : Agr (fun z => S z ∧ z ≠ p) H (upd H2 p (.lst (vs ++ [u]))) := agr_upd e2 hp2 fun b z => z.2
    have n := nx_upd (o' := .lst (vs ++ [u])) hF e2 hp sp.2.1
    have re' : Rp.rep K (upd H2 p (.lst (vs ++ [u]))) u e := by
      have r2 : Tr.tr K H2 (fun _ => False) u e := Nc.of (Rp.mono (mix_same (Same.refl _) e2) re)
      exact Tr.rep (Tr.mono (agr_upd (Same.refl _) hp2 fun _ z => z.elim) r2)
    have all : All2 (Rp.rep K (upd H2 p (.lst (vs ++ [u])))) (vs ++ [u]) (ys ++ [e]) := by
      have t2 : TrL (fun (_ : Addr → Prop) v x => Rp.rep K (upd H2 p (.lst (vs ++ [u]))) v x) A vs ys := t.mp fun S1 v x q r => by
        have r2 : Tr.tr K H (fun _ => False) v x := Nc.of (Tr.rep r)
        exact Tr.rep (Tr.mono (agr_upd e2 hp2 fun _ z => z.elim) r2)
      exact All2.append (t2.all (F := Rp.rep K (upd H2 p (.lst (vs ++ [u])))) fun _ _ _ r => r) (.cons re' .nil)
    refine c (ys ++ [e]) p _ _ n (e0_upd e0 e2 sp.2.2.1) sp.1 (by rw [hp]; rfl) ⟨S, h4 _ _ (ag.sub fun z y => ⟨y.1, fun w => y.2 (w ▸ hSp)⟩) (tr_leaf upd_same all hSp), fun b z => ?_⟩ q
    obtain ⟨a1, a2, a3, x, a4, a5⟩ := hS b z
    refine ⟨a1, by rw [mix_old a4 a5]; exact a2, a3, ?_⟩
    by_cases cb : b = p
    · rw [cb]; exact ⟨_, upd_same, rfl⟩
    · exact ⟨x, by rw [upd_ne cb]; exact e2 _ _ a4, a5⟩
  · exact q.elim
/-- x.append(e), x ours: afterwards it is gone -/
theorem s_apDie {xs : List γ} {me : R δ} {k : Unit → R ρ} {kk : ρ → Prop} (o : ApO K H0 F H SS v xs) (hv : AtV to σ H v) (he : Gr K E te σ H H me) (hF : Same F H) (e0 : Same H0 H)
    (hQ : Wp (R.bd (R.bd me fun _ => gd (xs.length < lim) (.ok ())) k) kk (EE K E H0))
    (c : ∀ q F' H', Nx (fun z => z = q) F H F' H' → Same H0 H' → SS q → tupB (H q) = false → Wp (k ()) kk (EE K E H0) → D.nx σ H') : tDrop (tBM K "list" rAppend to (tCons te tNil)) D σ H := by
  obtain ⟨S, r, hS⟩ := o.ex
  obtain ⟨p, vs, A, rfl, hp, hSp, hA, t⟩ := r
  have sp := hS p hSp
  refine hv H (Same.refl _) _ ⟨.inl ⟨rfl, _, SqL.of hp⟩, ?_⟩
  refine he H (Same.refl _) _ ?_
  rw [bd_assoc, wp_bd] at hQ
  refine wp_mono hQ (fun e _ q u H2 e2 re => ?_) fun c _ z => z.mono e0
  have len : vs.length = xs.length := (t.all (F := fun _ _ => True) fun _ _ _ _ => trivial).length
  unfold gd at q
  split at q
  · rename_i cl
    have hp2 := e2 _ _ hp
    refine ⟨p, vs, u, rfl, rfl, hp2, lim_line' (by rw [len]; exact cl), ?_⟩
    exact c p _ _ (nx_upd (o' := .lst (vs ++ [u])) hF e2 hp sp.2.1) (e0_upd e0 e2 sp.2.2.1) sp.1 (by rw [hp]; rfl) q
  · exact q.elim
theorem idx_wp {xs : List γ} {i : Int} {f : γ → R ρ} {kk : ρ → Prop} {ee : Er → Prop} (h : Wp (R.bd (idx xs i) f) kk ee) : ∃ j x, ixN xs.length i = some j ∧ xs[j]? = some x ∧ Wp (f x) kk ee := by
  unfold idx atI at h
  cases q : ixN xs.length i with
  | none => rw [q] at h; exact h.elim
  | some j =>
    rw [q] at h
    cases z : xs[j]? with
    | none =>
      have : (match (some j).bind (fun k => xs[k]?) with | some a => R.ok a | none => R.bad) = (R.bad : R γ) := by show (match xs[j]? with | some a => R.ok a | none => R.bad) = _; rw [z]
      have h2 : Wp (R.bd (match xs[j]? with | some a => R.ok a | none => R.bad) f) kk ee := h
      rw [z] at h2
      exact h2.elim
    | some x =>
      have h2 : Wp (R.bd (match xs[j]? with | some a => R.ok a | none => R.bad) f) kk ee := h
      rw [z] at h2
      exact ⟨j, x, rfl, z, h2⟩
theorem set_wp {xs : List γ} {i : Int} {j : Nat} {y : γ} {f : List γ → R ρ} {kk : ρ → Prop} {ee : Er → Prop} (hj : ixN xs.length i = some j) (h : Wp (R.bd (setR xs i y) f) kk ee) : Wp (f (xs.set j y)) kk ee := by
  unfold setR at h
  rw [hj] at h
  exact h
/-- the region's word: what was changed was ours, or new -/
theorem ap_in {F1 H1 : Hp} {q : Addr} (n : Nx P F H F1 H1) (hq : SS q) (ht : tupB (H1 q) = false) : (SS q ∧ tupB (H q) = false) ∨ H q = none := by
  cases z : H q with
  | none => exact .inr rfl
  | some o =>
    obtain ⟨o', h1, h2⟩ := n.th q o z
    rw [h1] at ht
    exact .inl ⟨hq, by rw [← h2]; exact ht⟩
/-! ### tests that change, one behind another -/
theorem s_ifOrM {S : Type} {J : Hp → Hp → S → Prop} {u : TT} {m : R (Bool × S)} {k : Bool × S → R ρ} {kk : ρ → Prop} (he : GrM K E te σ H0 F H P J m) (hQ : Wp (R.bd m k) kk (EE K E H0))
    (h1 : ∀ s F' H', Nx P F H F' H' → Same H0 H' → J F' H' s → Wp (k (false, s)) kk (EE K E H0) → tu D σ H') (h2 : ∀ s F' H', Nx P F H F' H' → Same H0 H' → J F' H' s → Wp (k (true, s)) kk (EE K E H0) → tIfS u tu tw D σ H') : tIfS (tOr (tNot (tB te)) u) tu tw D σ H :=
  he _ (by
    rw [wp_bd] at hQ
    refine wp_mono hQ (fun z _ q v F' H' n e j r => ⟨z.1, r, ?_⟩) fun c _ z => z
    obtain ⟨b, s⟩ := z
    cases b with
    | true => exact h2 s F' H' n e j q
    | false => exact h1 s F' H' n e j q)
theorem s_ifOrP {u : TT} {m : R Bool} {k : Bool → R ρ} {kk : ρ → Prop} (hc : GrT K E t σ H m) (hF : Same F H) (e0 : Same H0 H) (hQ : Wp (R.bd m k) kk (EE K E H0))
    (h1 : ∀ F' H', Nx0 F H F' H' → Same H0 H' → Wp (k true) kk (EE K E H0) → tu D σ H') (h2 : ∀ F' H', Nx0 F H F' H' → Same H0 H' → Wp (k false) kk (EE K E H0) → tIfS u tu tw D σ H') : tIfS (tOr t u) tu tw D σ H := by
  refine hc H (Same.refl _) _ ?_
  rw [wp_bd] at hQ
  refine wp_mono hQ (fun b _ q H2 e2 => ?_) fun c _ z => z.mono e0
  cases b with
  | true => exact h1 _ H2 (Nx.mk' hF e2) (e0.trans e2) q
  | false => exact h2 _ H2 (Nx.mk' hF e2) (e0.trans e2) q
/-! ### handed to a def -/
open Classical in
noncomputable def delS (S : Addr → Prop) (H : Hp) : Hp := fun b => if S b then none else H b
theorem delS_le {S : Addr → Prop} : Same (delS S H) H := fun b o h => by
  unfold delS at h
  split at h
  · cases h
  · exact h
theorem delS_none {S : Addr → Prop} {b : Addr} (h : S b) : delS S H b = none := if_pos h
theorem same_delS {S : Addr → Prop} (e : Same H0 H) (h : ∀ b, S b → H0 b = none) : Same H0 (delS S H) := fun b o z => by
  unfold delS
  rw [if_neg (fun w => by rw [h b w] at z; cases z)]
  exact e b o z
theorem Nx.wkN (n : Nx P F H F' H') (h : ∀ q, P q → P2 q ∨ H q = none) : Nx P2 F H F' H' :=
  ⟨n.ff, fun q o z w => n.hh q o (fun y => (h q y).elim z fun x => by rw [x] at w; cases w) w, n.fh, n.own, n.th⟩
/-- the def's own view -/
theorem apo_in {S0 : Addr → Prop} (r : Tr.tr K H S0 v a) (h : ∀ b, S0 b → F b = none ∧ muc H b) : ApO K (delS S0 H) F H (fun b => S0 b ∨ H b = none) v a :=
  ⟨S0, r, fun b z => ⟨.inl z, (h b z).1, delS_none z, (h b z).2⟩⟩
/-- the caller's -/
theorem apo_out {H1 : Hp} (o : ApO K H0 F H SS v a) (e : Same H H1) (hF : Same F H) : ∃ S0, Tr.tr K H1 S0 v a ∧ (∀ b, S0 b → mix F H H1 b = none ∧ muc H1 b) ∧ (∀ b, S0 b → SS b ∧ tupB (H b) = false) ∧ ∀ b, S0 b → H0 b = none := by
  obtain ⟨S, r, h⟩ := o.ex
  refine ⟨S, Tr.mono (Agr.same e) r, fun b z => ?_, fun b z => ⟨(h b z).1, muc_tb (h b z).2.2.2⟩, fun b z => (h b z).2.2.1⟩
  obtain ⟨h1, h2, h3, u, h4, h5⟩ := h b z
  exact ⟨by rw [mix_old h4 h5]; exact h2, u, e _ _ h4, h5⟩
end
end G

set_option Elab.async false
set_option linter.all false
set_option maxRecDepth 100000
set_option maxHeartbeats 4000000
/-! G: parts apart, small words. -/
namespace G
open PySem PySem.Spec PyProof.Rows L2
section
variable {K : PySem.W.Frag} {E : XK} {σ : L2.St} {H0 F H F' H' : Hp} {te ta tb : TE} {α β γ δ : Type} [Rp α] [Rp β] [Rp γ] [Rp δ] [Tr α] [Tr γ] [Tr δ] {P : Addr → Prop} {SS S2 : Addr → Prop} {v : V} {a : α}
theorem g_apl3 {m : R (T3 β δ (Apt γ))} (h : Gr K E te σ F H m) : Gr K E te σ F H (R.bd m fun a => .ok (T3.mk a.a a.b a.c.l)) := fun H1 e Q hq =>
  h H1 e Q (by
    rw [wp_bd] at hq
    exact wp_mono hq (fun a _ k v H2 e2 ⟨p, x, y, z, h1, h2, h3, h4, S, r⟩ => k v H2 e2 ⟨p, x, y, z, h1, h2, h3, h4, Tr.rep r⟩) fun _ _ z => z)
theorem gx_lst0 : GrX K E (tLst tNil) σ H (.ok ([] : List α)) := fun H1 e Q hq => by
  refine ⟨by show 0 ≤ sizeLine; decide, fun p hp => hq _ _ (same_upd hp) ⟨fun b => b = p, ⟨p, [], fun _ => False, rfl, upd_same, rfl, fun _ z => z.elim, .nil⟩, fun b z => ?_⟩⟩
  rw [z]
  exact ⟨Same.free e hp, _, upd_same, rfl⟩
/-- (xs, e), xs a list of ours, e new: all new since the entry -/
theorem g_apPairO [Nc δ] {i : Nat} {p : Addr} {b : Bool} {xs : List δ} {mb : R γ} (o : Own K H0 b F H p xs) (hF : Same F H) (e0 : Same H0 H) (hb : GrX K E tb σ H mb) (hv : σ[i]? = some (some (.ref p)) := by rfl) :
    Gr K E (tTup (tCons (tVar i) (tCons tb tNil))) σ (dif H0 H) H (R.bd mb fun y => .ok (Apt.mk (xs, y))) := fun H1 e Q hq => by
  obtain ⟨h0, f, vs, hp, r⟩ := o.lst
  refine ⟨_, hv, hb H1 e _ ?_⟩
  rw [wp_bd] at hq
  refine wp_mono hq (fun y _ k w H2 e2 ⟨S, r2, n⟩ => ?_) fun _ _ z => z
  refine ⟨by show 2 ≤ sizeLine; decide, fun q hq => k _ _ (e2.trans (same_upd hq)) ?_⟩
  have tot := e.trans (e2.trans (same_upd (o := .tup [.ref p, w]) hq))
  have hn : H q = none := Same.free (e.trans e2) hq
  have n0 : ∀ b, S b → H b = none := fun b z => (n b z).1
  have np : ∀ b, S b → b ≠ p := fun b z w => by have := n0 b z; rw [w, hp] at this; cases this
  refine ⟨fun b => b = p ∨ S b, q, .ref p, w, fun b => b = p, S, rfl, by rw [mix_new hn]; exact upd_same, fun b z => ⟨.inl z, fun y => np b y z⟩, fun b z => .inr z, ?_, ?_⟩
  · have hd : mix (dif H0 H) H (upd H2 q (.tup [.ref p, w])) p = some (.lst vs) := by rw [mix_old hp]; exact dif_of h0 hp
    refine tr_leaf hd ?_ rfl
    refine r.mono fun v x rx => ?_
    have r1 : Tr.tr K H (fun _ => False) v x := Nc.of (Rp.mono (bs_le.trans hF) rx)
    exact Tr.rep (Tr.mono (fun b o h z => by
      rcases z with z | z
      · exact z.elim
      · exact mix_tup h z) r1)
  · refine Tr.mono (fun b o h z => ?_) r2
    rcases z with z | z
    · rw [mix_new (n0 b z)]
      exact same_upd hq _ _ h
    · cases c : H b with
      | none => rw [mix_new c]; exact same_upd hq _ _ h
      | some u =>
        have := (e.trans e2) b u c
        rw [h] at this
        cases this
        exact mix_tup c z
theorem ApO.sub (o : ApO K H0 F H SS v a) (h : ∀ b, SS b → S2 b) : ApO K H0 F H S2 v a := by
  obtain ⟨S, r, k⟩ := o.ex
  exact ⟨S, r, fun b z => ⟨h b (k b z).1, (k b z).2⟩⟩
/-- all of it is there -/
theorem al_nx (n : Nx P F H F' H') (l : ∀ b, SS b → H b ≠ none) : ∀ b, SS b → H' b ≠ none := fun b z w => by
  cases q : H b with
  | none => exact l b z q
  | some o =>
    obtain ⟨o', h, _⟩ := n.th b o q
    rw [h] at w
    cases w
theorem ap_no {p : Addr} (h : ∀ b, SS b → H b = none) (t : ∃ u, H p = some u) : ¬ SS p := fun z => by
  obtain ⟨u, hu⟩ := t
  have := h p z
  rw [hu] at this
  cases this
theorem ap_dj (l : ∀ b, S2 b → H b ≠ none) (h : ∀ b, SS b → H b = none) : ∀ b, S2 b → ¬ SS b := fun b z w => l b z (h b w)
theorem ap_nw {p : Addr} (l : ∀ b, SS b → H b ≠ none) (nw : ∀ q, (∃ u, H q = some u) → q ≠ p) : ¬ SS p := fun z => by
  cases q : H p with
  | none => exact l p z q
  | some u => exact nw p ⟨u, q⟩ rfl
end
end G

set_option Elab.async false
set_option linter.all false
set_option maxRecDepth 100000
set_option maxHeartbeats 4000000
/-! G: parts of a triple whose last part is ours. -/
namespace G
open PySem PySem.Spec PyProof.Rows L2
section
variable {K : PySem.W.Frag} {E : XK} {σ : L2.St} {F H : Hp} {α ρ : Type} [Rp α] {x y z : V} {p : Addr} {a : α}
theorem g_tpa {n : Nat} (h : σ[n]? = some (some (.ref p))) (hp : H p = some (.tup [x, y, z])) (r : Rp.rep K F x a) (hF : Same F H) : Gr K E (tOp (rIxT K) (tVar n) (tC (.int 0))) σ F H (.ok a) :=
  fun H1 e Q hq => ⟨_, h, p, _, 0, x, rfl, rfl, SqT.of (e _ _ hp), rfl, hq x H1 (Same.refl _) (Rp.mono (same_mix hF) r)⟩
theorem g_tpb {n : Nat} (h : σ[n]? = some (some (.ref p))) (hp : H p = some (.tup [x, y, z])) (r : Rp.rep K F y a) (hF : Same F H) : Gr K E (tOp (rIxT K) (tVar n) (tC (.int 1))) σ F H (.ok a) :=
  fun H1 e Q hq => ⟨_, h, p, _, 1, y, rfl, rfl, SqT.of (e _ _ hp), rfl, hq y H1 (Same.refl _) (Rp.mono (same_mix hF) r)⟩
theorem g_tpc {n : Nat} (h : σ[n]? = some (some (.ref p))) (hp : H p = some (.tup [x, y, z])) (r : Rp.rep K F z a) (hF : Same F H) : Gr K E (tOp (rIxT K) (tVar n) (tC (.int 2))) σ F H (.ok a) :=
  fun H1 e Q hq => ⟨_, h, p, _, 2, z, rfl, rfl, SqT.of (e _ _ hp), rfl, hq z H1 (Same.refl _) (Rp.mono (same_mix hF) r)⟩
theorem wp_okb {z : α} {k : α → R ρ} {kk : ρ → Prop} {ee : Er → Prop} (h : Wp (R.bd (.ok z) k) kk ee) : Wp (k z) kk ee := h
end
instance : De (Option Int) := ⟨fun o => match o with | none => .none | some i => .int i, fun {K H v a} h => by
    cases a with
    | none =>
      obtain rfl : v = V.non := h
      exact .non
    | some i =>
      obtain rfl : v = V.int i := h.2
      exact .int i, fun a => by cases a <;> rfl, 0, fun a => by cases a <;> simp [PyData.depth], fun a b => by cases a <;> cases b <;> simp [PyData.eqv]⟩
end G

set_option Elab.async false
set_option linter.all false
set_option maxRecDepth 100000
set_option maxHeartbeats 4000000
/-! G: a new thing is appended to a part. -/
namespace G
open PySem PySem.Spec PyProof.Rows L2
section
variable {α : Type} {T : (Addr → Prop) → V → α → Prop}
/-- the one at a place, and a greater one put there -/
theorem TrL.atX : ∀ {S : Addr → Prop} {vs : List V} {as : List α} {j : Nat} {a : α}, TrL T S vs as → as[j]? = some a → ∃ v S1, vs[j]? = some v ∧ T S1 v a ∧ (∀ b, S1 b → S b) ∧
    ∀ (T' : (Addr → Prop) → V → α → Prop) (a' : α) (X : Addr → Prop), (∀ b, X b → ¬ S b) → T' (fun b => S1 b ∨ X b) v a' → (∀ S' v a, (∀ b, S' b → S b ∧ ¬ S1 b) → T S' v a → T' S' v a) → TrL T' (fun b => S b ∨ X b) vs (as.set j a')
  | _, _, _, _, _, .nil, e => by simp at e
  | S, _, _, 0, a, .cons (S1 := A1) (S2 := A2) h1 h2 r t, e => by
    simp at e
    subst e
    refine ⟨_, A1, rfl, r, fun b z => (h1 b z).1, fun T' a' X hX r' k => ?_⟩
    exact .cons (S1 := fun b => A1 b ∨ X b) (S2 := A2) (fun b z => z.elim (fun z => ⟨.inl (h1 b z).1, (h1 b z).2⟩) fun z => ⟨.inr z, fun w => hX b z (h2 b w)⟩) (fun b z => .inl (h2 b z)) r' (TrL.mp (fun S1 v a q w => k S1 v a (fun b z => ⟨h2 b (q b z), fun y => (h1 b y).2 (q b z)⟩) w) t)
  | S, _, _, j + 1, a, .cons (S1 := A1) (S2 := A2) h1 h2 r t, e => by
    obtain ⟨v, S1, e1, r1, s1, k1⟩ := TrL.atX (j := j) t (by simpa using e)
    refine ⟨v, S1, by simpa using e1, r1, fun b z => h2 b (s1 b z), fun T' a' X hX r' k => ?_⟩
    exact .cons (S1 := A1) (S2 := fun b => A2 b ∨ X b) (fun b z => ⟨.inl (h1 b z).1, fun w => w.elim (h1 b z).2 fun w => hX b w (h1 b z).1⟩) (fun b z => z.elim (fun z => .inl (h2 b z)) .inr) (k A1 _ _ (fun b z => ⟨(h1 b z).1, fun y => (h1 b z).2 (s1 b y)⟩) r) (k1 T' a' X (fun b z w => hX b z (h2 b w)) r' fun S' v a q w => k S' v a (fun b z => ⟨h2 b (q b z).1, (q b z).2⟩) w)
end
section
variable {K : PySem.W.Frag} {E : XK} {σ : L2.St} {H0 F H F' H' : Hp} {te ta tb to ti : TE} {t : TT} {tu tw : TS} {α β γ δ ρ : Type} [Rp α] [Rp β] [Rp γ] [Rp δ] [Tr α] [Tr β] [Tr γ] [Tr δ] [Rp ρ] {D : Ends} {P P2 : Addr → Prop} {SS : Addr → Prop} {v : V} {a : α}
def SubX (K : PySem.W.Frag) (to : TE) (σ : L2.St) (H : Hp) (v : V) (a : α) (b : β) (put : β → α) : Prop :=
  ∀ S, Tr.tr K H S v a → ∃ w S1, AtV to σ H w ∧ Tr.tr K H S1 w b ∧ (∀ q, S1 q → S q) ∧ ∀ (H' : Hp) (b' : β) (X : Addr → Prop), (∀ q, X q → ¬ S q) → Agr (fun z => S z ∧ ¬ S1 z) H H' → Tr.tr K H' (fun q => S1 q ∨ X q) w b' → Tr.tr K H' (fun q => S q ∨ X q) v (put b')
theorem subx_v (h : AtV to σ H v) : SubX K to σ H v a a id := fun S r => ⟨v, S, h, r, fun _ z => z, fun _ _ _ _ _ r => r⟩
theorem subx_fst {b : β × γ} {put : β × γ → α} (s : SubX K to σ H v a b put) : SubX K (tOp (rIxT K) to (tC (.int 0))) σ H v a b.1 (fun x => put (x, b.2)) := fun S r => by
  obtain ⟨w, S1, h1, h2, h3, h4⟩ := s S r
  obtain ⟨p, x, y, A1, A2, rfl, hp, d1, d2, r1, r2⟩ := h2
  refine ⟨x, A1, fun H1 e Q q => h1 H1 e _ ⟨p, _, 0, x, rfl, rfl, SqT.of (e _ _ hp), rfl, q⟩, r1, fun q z => h3 q (d1 q z).1, fun H' b' X hX ag rb => h4 H' _ X hX (ag.sub fun z y => ⟨y.1, fun w => y.2 (d1 z w).1⟩) ⟨p, x, y, fun q => A1 q ∨ X q, A2, rfl, ag p _ hp (.inr rfl), fun q z => z.elim (fun z => ⟨.inl (d1 q z).1, (d1 q z).2⟩) (fun z => ⟨.inr z, fun w => hX q z (h3 q (d2 q w))⟩), fun q z => .inl (d2 q z), rb, Tr.mono (ag.sub fun z y => ⟨h3 z (d2 z y), fun w => (d1 z w).2 y⟩) r2⟩⟩
theorem subx_snd {b : β × γ} {put : β × γ → α} (s : SubX K to σ H v a b put) : SubX K (tOp (rIxT K) to (tC (.int 1))) σ H v a b.2 (fun x => put (b.1, x)) := fun S r => by
  obtain ⟨w, S1, h1, h2, h3, h4⟩ := s S r
  obtain ⟨p, x, y, A1, A2, rfl, hp, d1, d2, r1, r2⟩ := h2
  refine ⟨y, A2, fun H1 e Q q => h1 H1 e _ ⟨p, _, 1, y, rfl, rfl, SqT.of (e _ _ hp), rfl, q⟩, r2, fun q z => h3 q (d2 q z), fun H' b' X hX ag rb => h4 H' _ X hX (ag.sub fun z y => ⟨y.1, fun w => y.2 (d2 z w)⟩) ⟨p, x, y, A1, fun q => A2 q ∨ X q, rfl, ag p _ hp (.inr rfl), fun q z => ⟨.inl (d1 q z).1, fun w => w.elim (d1 q z).2 fun w => hX q w (h3 q (d1 q z).1)⟩, fun q z => z.elim (fun z => .inl (d2 q z)) .inr, Tr.mono (ag.sub fun z y => ⟨h3 z (d1 z y).1, fun w => (d1 z y).2 w⟩) r1, rb⟩⟩
theorem subx_ix {b : List β} {put : List β → α} {i : Int} {j : Nat} {x : β} (s : SubX K to σ H v a b put) (hi : AtI ti σ i) (hj : ixN b.length i = some j) (hx : b[j]? = some x) : SubX K (tOp (rIxL K) to ti) σ H v a x (fun y => put (b.set j y)) := fun S r => by
  obtain ⟨w, S1, h1, h2, h3, h4⟩ := s S r
  obtain ⟨p, vs, A, rfl, hp, hSp, hA, t⟩ := h2
  have len : vs.length = b.length := (t.all (F := fun _ _ => True) fun _ _ _ _ => trivial).length
  obtain ⟨u, B, e1, r1, s1, k1⟩ := t.atX hx
  refine ⟨u, B, fun H1 e Q q => h1 H1 e _ (hi H1 _ ⟨p, vs, i, u, rfl, rfl, SqL.of (e _ _ hp), ?_, q⟩), r1, fun q z => h3 q (hA q (s1 q z)).1, fun H' b' X hX ag rb => h4 H' _ X hX (ag.sub fun z y => ⟨y.1, fun w => y.2 (hA z (s1 z w)).1⟩) ⟨p, vs, fun q => A q ∨ X q, rfl, ag p _ hp (.inl ⟨h3 p hSp, fun w => (hA p (s1 p w)).2 rfl⟩), .inl hSp, fun q z => z.elim (fun z => ⟨.inl (hA q z).1, (hA q z).2⟩) (fun z => ⟨.inr z, fun w => hX q z (by rw [w]; exact h3 p hSp)⟩), ?_⟩⟩
  · unfold atI
    rw [len, hj]
    exact e1
  · exact k1 (fun S v a => Tr.tr K H' S v a) b' X (fun q z w => hX q z (h3 q (hA q w).1)) rb fun S' v a q r => Tr.mono (ag.sub fun z y => ⟨h3 z (hA z (q z y).1).1, (q z y).2⟩) r
/-- x.append(e), x a part of a thing of ours, e new -/
theorem s_apN {ys : List γ} {put : List γ → α} {me : R γ} {k : List γ → R ρ} {kk : ρ → Prop} (o : ApO K H0 F H SS v a) (s : SubX K to σ H v a ys put) (he : GrX K E te σ H me) (hN : ∀ b, H b = none → SS b) (hF : Same F H) (e0 : Same H0 H)
    (hQ : Wp (R.bd (R.bd me fun e => appR ys e) k) kk (EE K E H0))
    (c : ∀ y q F' H', Nx (fun z => z = q) F H F' H' → Same H0 H' → SS q → tupB (H q) = false → ApO K H0 F' H' SS v (put y) → Wp (k y) kk (EE K E H0) → D.nx σ H') : tDrop (tBM K "list" rAppend to (tCons te tNil)) D σ H := by
  obtain ⟨S, r, hS⟩ := o.ex
  obtain ⟨w, S1, h1, h2, h3, h4⟩ := s S r
  obtain ⟨p, vs, A, rfl, hp, hSp, hA, t⟩ := h2
  have sp := hS p (h3 p hSp)
  refine h1 H (Same.refl _) _ ⟨.inl ⟨rfl, _, SqL.of hp⟩, ?_⟩
  refine he H (Same.refl _) _ ?_
  rw [bd_assoc, wp_bd] at hQ
  refine wp_mono hQ (fun e _ q u H2 e2 ⟨S2, re, n2⟩ => ?_) fun c _ z => z.mono e0
  rw [wp_bd] at q
  have len : vs.length = ys.length := (t.all (F := fun _ _ => True) fun _ _ _ _ => trivial).length
  unfold appR gd at q
  split at q
  · rename_i cl
    have hp2 := e2 _ _ hp
    refine ⟨p, vs, u, rfl, rfl, hp2, lim_line' (by rw [len]; exact cl), ?_⟩
    have fS : ∀ b, S2 b → ¬ S b := fun b z w => muc_some (hS b w).2.2.2 (n2 b z).1
    have n2p : ∀ b, S2 b → b ≠ p := fun b z w => fS b z (by rw [w]; exact h3 p hSp)
    have ag : Agr (fun z => S z ∧ z ≠ p) H (upd H2 p (.lst (vs ++ [u]))) := agr_upd e2 hp2 fun b z => z.2
    have na := nx_tupF hF e2
    have fp : tupF F H2 p = none := tupF_none (by rw [hp2]; rfl) sp.2.1
    have nb := nx_upd (o' := .lst (vs ++ [u])) na.fh (Same.refl H2) hp2 fp
    have n := na.tr nb
    refine c (ys ++ [e]) p _ _ n (e0_upd e0 e2 sp.2.2.1) sp.1 (by rw [hp]; rfl) ⟨fun b => S b ∨ S2 b, h4 _ _ S2 fS (ag.sub fun z y => ⟨y.1, fun w => y.2 (w ▸ hSp)⟩) ?_, fun b z => ?_⟩ q
    · refine ⟨p, vs ++ [u], fun b => A b ∨ S2 b, rfl, upd_same, .inl hSp, fun b z => z.elim (fun z => ⟨.inl (hA b z).1, (hA b z).2⟩) fun z => ⟨.inr z, n2p b z⟩, ?_⟩
      exact TrL.snoc (trl_agr (agr_upd e2 hp2 fun b z => (hA b z).2) t) (Tr.mono (agr_upd (Same.refl _) hp2 n2p) re) (fun b z => ⟨.inl z, fun w => fS b w (h3 b (hA b z).1)⟩) fun b z => .inr z
    · rcases z with z | z
      · obtain ⟨a1, a2, a3, x, a4, a5⟩ := hS b z
        refine ⟨a1, n.own b x a5 a4 a2, a3, ?_⟩
        by_cases cb : b = p
        · rw [cb]; exact ⟨_, upd_same, rfl⟩
        · exact ⟨x, by rw [upd_ne cb]; exact e2 _ _ a4, a5⟩
      · obtain ⟨z1, o2, z2, z3⟩ := n2 b z
        refine ⟨hN b z1, ?_, Same.free e0 z1, o2, by rw [upd_ne (n2p b z)]; exact z2, z3⟩
        exact nb.own b o2 z3 z2 (tupF_none (by rw [z2]; exact z3) (Same.free hF z1))
  · exact q.elim
theorem ap_all {S0 : Addr → Prop} {F1 H1 : Hp} (hSS : ∀ b, SS b ↔ (S0 b ∨ H b = none)) (n : Nx P F H F1 H1) : ∀ b, H1 b = none → SS b := fun b z => (hSS b).mpr (.inr (none_back n z))
/-- a walk of what is not frozen -/
theorem s_forH {wi : TI} {g : TG} {m : R (List β)} {k : List β → R γ} {kk : γ → Prop} (hi : GrI K E wi σ H H m) (hF : Same F H) (e0 : Same H0 H) (hQ : Wp (R.bd m k) kk (EE K E H0))
    (c : ∀ xs J F' H', Nx0 F H F' H' → Same H0 H' → ItOk J K (mix H H H') xs → Same (mix H H H') H' → Wp (k xs) kk (EE K E H0) → ∃ W : Nat → Nat → L2.St → Hp → Prop, (∃ m, W 0 m σ H') ∧ ∀ i m σ H, W i m σ H →
      (J.stop i H ∧ D.nx σ H) ∨ (J.go i H ∧ ∃ N : L2.St → Hp → Prop, (∀ σ' H', N σ' H' → ∃ m', m' < m ∧ W (i + 1) m' σ' H') ∧ ∀ x H', J.yld i H x H' → g x σ H' fun σ2 H2 => tu { D with nx := N, ct := N, bk := D.nx } σ2 H2)) : tFor wi g tu D σ H := by
  refine hi H (Same.refl _) _ ?_
  rw [wp_bd] at hQ
  exact wp_mono hQ (fun xs _ q J H2 e2 ok => c xs J _ H2 (Nx.mk' hF e2) (e0.trans e2) ok (mix_same (Same.refl _) e2) q) fun c _ z => z.mono e0
end
end G

set_option Elab.async false
set_option linter.all false
set_option maxRecDepth 100000
set_option maxHeartbeats 4000000
/-! G: values of several kinds with their parts apart; lists of things apart, made item by item. -/
namespace G
open PySem PySem.Spec PyProof.Rows L2
mutual
def dyA (H : Hp) : Dy → (Addr → Prop) → V → Prop
  | .non, _, v => v = .non
  | .bl b, _, v => v = .bl b
  | .int n, _, v => v = .int n
  | .str s, _, v => v = .str s
  | .lst l, S, v => ∃ p vs S1, v = .ref p ∧ H p = some (.lst vs) ∧ S p ∧ (∀ b, S1 b → S b ∧ b ≠ p) ∧ dyAs H l S1 vs
  | .tup l, S, v => ∃ p vs, v = .ref p ∧ H p = some (.tup vs) ∧ dyAs H l S vs
def dyAs (H : Hp) : List Dy → (Addr → Prop) → List V → Prop
  | [], _, vs => vs = []
  | d :: l, S, vs => ∃ v r S1 S2, vs = v :: r ∧ (∀ b, S1 b → S b ∧ ¬ S2 b) ∧ (∀ b, S2 b → S b) ∧ dyA H d S1 v ∧ dyAs H l S2 r
end
mutual
theorem dyA_rep {H : Hp} : ∀ {d : Dy} {S : Addr → Prop} {v : V}, dyA H d S v → dyR H d v
  | .non, _, _, h => h
  | .bl _, _, _, h => h
  | .int _, _, _, h => h
  | .str _, _, _, h => h
  | .lst _, _, _, ⟨p, vs, S1, h1, h2, _, _, h3⟩ => ⟨p, vs, h1, h2, dyAs_rep h3⟩
  | .tup _, _, _, ⟨p, vs, h1, h2, h3⟩ => ⟨p, vs, h1, h2, dyAs_rep h3⟩
theorem dyAs_rep {H : Hp} : ∀ {l : List Dy} {S : Addr → Prop} {vs : List V}, dyAs H l S vs → dyRs H l vs
  | [], _, _, h => h
  | _ :: _, _, _, ⟨v, r, S1, S2, h1, _, _, h2, h3⟩ => ⟨v, r, h1, dyA_rep h2, dyAs_rep h3⟩
end
mutual
theorem dyA_mono {H H' : Hp} : ∀ {d : Dy} {S : Addr → Prop} {v : V}, Agr S H H' → dyA H d S v → dyA H' d S v
  | .non, _, _, _, h => h
  | .bl _, _, _, _, h => h
  | .int _, _, _, _, h => h
  | .str _, _, _, _, h => h
  | .lst _, _, _, a, ⟨p, vs, S1, h1, h2, h4, h5, h3⟩ => ⟨p, vs, S1, h1, a p _ h2 (.inl h4), h4, h5, dyAs_mono (a.sub fun b z => (h5 b z).1) h3⟩
  | .tup _, _, _, a, ⟨p, vs, h1, h2, h3⟩ => ⟨p, vs, h1, a p _ h2 (.inr rfl), dyAs_mono a h3⟩
theorem dyAs_mono {H H' : Hp} : ∀ {l : List Dy} {S : Addr → Prop} {vs : List V}, Agr S H H' → dyAs H l S vs → dyAs H' l S vs
  | [], _, _, _, h => h
  | _ :: _, _, _, a, ⟨v, r, S1, S2, h1, d1, d2, h2, h3⟩ => ⟨v, r, S1, S2, h1, d1, d2, dyA_mono (a.sub fun b z => (d1 b z).1) h2, dyAs_mono (a.sub d2) h3⟩
end
mutual
theorem dyA_cut {H : Hp} : ∀ {d : Dy} {S : Addr → Prop} {v : V}, dyA H d S v → dyA H d (fun b => S b ∧ muc H b) v
  | .non, _, _, h => h
  | .bl _, _, _, h => h
  | .int _, _, _, h => h
  | .str _, _, _, h => h
  | .lst _, _, _, ⟨p, vs, S1, h1, h2, h4, h5, h3⟩ => ⟨p, vs, _, h1, h2, ⟨h4, _, h2, rfl⟩, fun b ⟨z, m⟩ => ⟨⟨(h5 b z).1, m⟩, (h5 b z).2⟩, dyAs_cut h3⟩
  | .tup _, _, _, ⟨p, vs, h1, h2, h3⟩ => ⟨p, vs, h1, h2, dyAs_cut h3⟩
theorem dyAs_cut {H : Hp} : ∀ {l : List Dy} {S : Addr → Prop} {vs : List V}, dyAs H l S vs → dyAs H l (fun b => S b ∧ muc H b) vs
  | [], _, _, h => h
  | _ :: _, _, _, ⟨v, r, S1, S2, h1, d1, d2, h2, h3⟩ => ⟨v, r, _, _, h1, fun b ⟨z, m⟩ => ⟨⟨(d1 b z).1, m⟩, fun w => (d1 b z).2 w.1⟩, fun b ⟨z, m⟩ => ⟨d2 b z, m⟩, dyA_cut h2, dyAs_cut h3⟩
end
instance : Tr Dy := ⟨fun _ H S v d => dyA H d S v, fun h => dyA_rep h, fun a h => dyA_mono a h, fun h => dyA_cut h⟩
/-- as a value of any kind, and back -/
class TrD (α : Type) [Rp α] [Tr α] [DyN α] : Prop where
  to : ∀ {K : PySem.W.Frag} {H : Hp} {S : Addr → Prop} {v : V} {a : α}, Tr.tr K H S v a → dyA H (DyN.dy a) S v
  of : ∀ {K : PySem.W.Frag} {H : Hp} {S : Addr → Prop} {v : V} {d : Dy} {a : α}, dyA H d S v → DyN.un d = some a → Tr.tr K H S v a
instance : TrD Int := ⟨fun h => h, fun {K H S v d a} h e => DyN.of (K := K) (dyA_rep h) e⟩
instance : TrD Bool := ⟨fun h => h, fun {K H S v d a} h e => DyN.of (K := K) (dyA_rep h) e⟩
instance : TrD Str := ⟨fun h => h, fun {K H S v d a} h e => DyN.of (K := K) (dyA_rep h) e⟩
instance : TrD Unit := ⟨fun h => h, fun {K H S v d a} h e => DyN.of (K := K) (dyA_rep h) e⟩
instance : TrD Dy := ⟨fun h => h, fun {K H S v d a} h e => by cases e; exact h⟩
section
variable {α β : Type} [Rp α] [Rp β] [Tr α] [Tr β] [DyN α] [DyN β] [TrD α] [TrD β]
theorem trl_to {K : PySem.W.Frag} {H : Hp} : ∀ {S : Addr → Prop} {vs : List V} {xs : List α}, TrL (fun S v x => Tr.tr K H S v x) S vs xs → dyAs H (xs.map DyN.dy) S vs
  | _, _, _, .nil => rfl
  | _, _, _, .cons (S1 := S1) (S2 := S2) h1 h2 r t => ⟨_, _, S1, S2, rfl, h1, h2, TrD.to r, trl_to t⟩
theorem trl_of {K : PySem.W.Frag} {H : Hp} : ∀ {l : List Dy} {S : Addr → Prop} {vs : List V} {xs : List α}, dyAs H l S vs → unAll DyN.un l = some xs → TrL (fun S v x => Tr.tr K H S v x) S vs xs
  | [], S, vs, xs, h, e => by
    rw [show vs = [] from h, show xs = [] by simpa [unAll] using e.symm]
    exact .nil
  | d :: l, S, vs, xs, ⟨v, r, S1, S2, h1, d1, d2, h2, h3⟩, e => by
    subst h1
    unfold unAll at e
    cases q : (DyN.un d : Option α) with
    | none => rw [q] at e; simp at e
    | some a =>
      cases q2 : unAll (α := α) DyN.un l with
      | none => rw [q, q2] at e; simp at e
      | some t =>
        rw [q, q2] at e
        simp at e
        subst e
        exact .cons d1 d2 (TrD.of h2 q) (trl_of h3 q2)
instance : TrD (List α) := ⟨fun {K H S v a} ⟨p, vs, S1, h1, h2, h3, h4, h5⟩ => ⟨p, vs, S1, h1, h2, h3, h4, trl_to h5⟩, fun {K H S v d a} h e => by
  cases d with
  | lst l =>
    obtain ⟨p, vs, S1, h1, h2, h3, h4, h5⟩ := h
    exact ⟨p, vs, S1, h1, h2, h3, h4, trl_of h5 e⟩
  | _ => simp [DyN.un] at e⟩
instance : TrD (α × β) := ⟨fun {K H S v t} ⟨p, x, y, S1, S2, h1, h2, d1, d2, h3, h4⟩ => ⟨p, _, h1, h2, x, _, S1, S2, rfl, d1, d2, TrD.to h3, y, _, S2, fun _ => False, rfl, fun b z => ⟨z, fun w => w⟩, fun _ z => z.elim, TrD.to h4, rfl⟩, fun {K H S v d t} h e => by
  rcases d with _ | _ | _ | _ | _ | l <;> try simp [DyN.un] at e
  rcases l with _ | ⟨a, _ | ⟨b, _ | ⟨c, l⟩⟩⟩ <;> try simp at e
  obtain ⟨p, vs, h1, h2, x, r, S1, S2, rfl, d1, d2, h3, y, r2, S3, S4, rfl, d3, d4, h4, h5⟩ := h
  rw [show r2 = [] from h5] at h2
  cases q : (DyN.un a : Option α) with
  | none => rw [q] at e; simp at e
  | some a' =>
    cases q2 : (DyN.un b : Option β) with
    | none => rw [q, q2] at e; simp at e
    | some b' =>
      rw [q, q2] at e
      simp at e
      subst e
      exact ⟨p, x, y, S1, S3, h1, h2, fun b z => ⟨(d1 b z).1, fun w => (d1 b z).2 (d3 b w).1⟩, fun b z => d2 b (d3 b z).1, TrD.of h3 q, TrD.of h4 q2⟩⟩
end
section
variable {K : PySem.W.Frag} {E : XK} {σ : L2.St} {H0 F H F' H' : Hp} {te ta tb to ti : TE} {α β γ δ ρ : Type} [Rp α] [Rp β] [Rp γ] [Rp δ] [Rp ρ] [Tr α] [Tr β] [Tr γ] {D : Ends} {P : Addr → Prop} {v : V} {a : α} {Sa Sb Sc SS : Addr → Prop}
theorem g_aptDy [DyN α] [TrD α] {m : R (Apt α)} (h : Gr K E te σ F H m) : Gr K E te σ F H (R.bd m fun a => .ok (Apt.mk (DyN.dy a.l))) := fun H1 e Q hq =>
  h H1 e Q (by
    rw [wp_bd] at hq
    exact wp_mono hq (fun a _ k v H2 e2 ⟨S, r⟩ => k v H2 e2 ⟨S, TrD.to r⟩) fun _ _ z => z)
/-- told or not -/
def aptO {α : Type} [Rp α] [DyN α] : Option (Apt α) → Apt Dy
  | none => Apt.mk .non
  | some a => Apt.mk (DyN.dy a.l)
theorem g_aptDyO [DyN α] [TrD α] {m : R (Option (Apt α))} (h : Gr K E te σ F H m) : Gr K E te σ F H (R.bd m fun a => .ok (aptO a)) := fun H1 e Q hq =>
  h H1 e Q (by
    rw [wp_bd] at hq
    refine wp_mono hq (fun a _ k v H2 e2 r => k v H2 e2 ?_) fun _ _ z => z
    cases a with
    | none => exact ⟨fun _ => False, r⟩
    | some a =>
      obtain ⟨_, S, r⟩ := r
      exact ⟨S, TrD.to r⟩)
/-- the value of an option of things apart, for looks -/
theorem g_aplO {m : R (Option (Apt α))} (h : Gr K E te σ F H m) : Gr K E te σ F H (R.bd m fun a => .ok (a.map Apt.l)) := fun H1 e Q hq =>
  h H1 e Q (by
    rw [wp_bd] at hq
    refine wp_mono hq (fun a _ k v H2 e2 r => k v H2 e2 ?_) fun _ _ z => z
    cases a with
    | none => exact r
    | some a =>
      obtain ⟨n, S, r⟩ := r
      exact ⟨n, Tr.rep r⟩)
instance {α : Type} [Rp α] [Tr α] [NN α] : NN (Apt α) := ⟨fun ⟨_, h⟩ => NN.nn (Tr.rep h)⟩
theorem unD_wp [DyN γ] {d : Dy} {f : γ → R ρ} {kk : ρ → Prop} {ee : Er → Prop} (h : Wp (R.bd (unD d) f) kk ee) : ∃ x, DyN.un d = some x ∧ Wp (f x) kk ee := by
  unfold unD at h
  cases q : (DyN.un d : Option γ) with
  | none => rw [q] at h; exact h.elim
  | some x => rw [q] at h; exact ⟨x, rfl, h⟩
theorem ApO.un [DyN α] [TrD α] {d : Dy} {x : α} (o : ApO K H0 F H SS v d) (e : DyN.un d = some x) : ApO K H0 F H SS v x := by
  obtain ⟨S, r, h⟩ := o.ex
  exact ⟨S, TrD.of r e, h⟩
/-! ### frozen things whose parts are known -/
/-- new since the entry, and there -/
def Fp (H0 F : Hp) (S : Addr → Prop) : Prop := ∀ b, S b → H0 b = none ∧ muc F b
theorem fp_ff (w : Fp H0 F Sa) (e : Same F F') : Fp H0 F' Sa := fun b z => ⟨(w b z).1, muc_mono e (w b z).2⟩
theorem ft_N (w : Fp H0 F Sa) (r : Tr.tr K F Sa v a) : Rp.rep K (dif H0 F) v a := Tr.rep (Tr.mono (fun b o h z => by
  rcases z with z | z
  · exact dif_of (w b z).1 h
  · exact dif_tup z h) r)
theorem ft_dj (w : Fp H0 F Sb) (hF : Same F H) (n : ∀ b, Sa b → H b = none) : ∀ b, Sa b → ¬ Sb b := fun b z y => muc_some (muc_mono hF (w b y).2) (n b z)
/-- what is new becomes frozen, its parts known -/
theorem s_asgFT {i : Nat} {m : R α} {k : α → R ρ} {kk : ρ → Prop} (he : GrX K E te σ H m) (hF : Same F H) (e0 : Same H0 H) (hQ : Wp (R.bd m k) kk (EE K E H0))
    (c : ∀ a v F' H' S, Nx0 F H F' H' → Same H0 H' → Tr.tr K F' S v a → Fp H0 F' S → (∀ b, S b → H b = none) → Wp (k a) kk (EE K E H0) → D.nx (σ.set i (some v)) H') : tAsg te (gName i) D σ H := by
  refine he H (Same.refl _) _ ?_
  rw [wp_bd] at hQ
  refine wp_mono hQ (fun a _ q v H2 e2 ⟨S, r, n⟩ => ?_) fun c _ z => z.mono e0
  have sub : Agr S H2 (mix F H H2) := fun b o h z => by
    rcases z with z | z
    · rw [mix_new (n b z).1]; exact h
    · cases w : H b with
      | none => rw [mix_new w]; exact h
      | some u =>
        have := e2 b u w
        rw [h] at this
        cases this
        exact mix_tup w z
  refine c a v (mix F H H2) H2 S (Nx.mk' hF e2) (e0.trans e2) (Tr.mono sub r) (fun b z => ⟨Same.free e0 (n b z).1, ?_⟩) (fun b z => (n b z).1) q
  obtain ⟨h1, o, h2, h3⟩ := n b z
  exact ⟨o, by rw [mix_new h1]; exact h2, h3⟩
open Classical in
/-- what F has of S, and its tuples -/
noncomputable def onS (S : Addr → Prop) (F : Hp) : Hp := fun b => if S b ∨ tupB (F b) = true then F b else none
theorem onS_le {S : Addr → Prop} : Same (onS S F) F := fun b o h => by
  unfold onS at h
  split at h
  · exact h
  · cases h
theorem onS_of {S : Addr → Prop} {b : Addr} {o : HO} (h : F b = some o) (z : S b ∨ tupB (some o) = true) : onS S F b = some o := by
  unfold onS
  rw [if_pos (by rw [h]; exact z)]
  exact h
theorem rep_onS (r : Tr.tr K F Sa v a) : Rp.rep K (onS Sa F) v a := Tr.rep (Tr.mono (fun b o h z => onS_of h z) r)
theorem muc_onS {S : Addr → Prop} {b : Addr} (h : muc (onS S F) b) : S b ∧ muc F b := by
  obtain ⟨o, h1, h2⟩ := h
  unfold onS at h1
  split at h1
  · rename_i c
    rcases c with c | c
    · exact ⟨c, o, h1, h2⟩
    · rw [h1, h2] at c; cases c
  · cases h1
/-- told of parts of one thing, or new -/
theorem s_asgFS [T1 α] {i : Nat} {m : R α} {k : α → R ρ} {kk : ρ → Prop} (w : Fp H0 F Sb) (he : Gr K E te σ (onS Sb F) H m) (hF : Same F H) (e0 : Same H0 H) (hQ : Wp (R.bd m k) kk (EE K E H0))
    (c : ∀ a v F' H' S, Nx0 F H F' H' → Same H0 H' → Tr.tr K F' S v a → Fp H0 F' S → (∀ b, S b → Sb b ∨ H b = none) → Wp (k a) kk (EE K E H0) → D.nx (σ.set i (some v)) H') : tAsg te (gName i) D σ H := by
  refine he H (Same.refl _) _ ?_
  rw [wp_bd] at hQ
  refine wp_mono hQ (fun a _ q v H2 e2 r => ?_) fun c _ z => z.mono e0
  have r2 := Tr.cut (T1.of r)
  have sub : Same (mix (onS Sb F) H H2) (mix F H H2) := fun b o h => by
    rcases mix_cases h with ⟨z, y⟩ | ⟨z, y⟩ | ⟨u, z, y, x⟩
    · rw [mix_new z]; exact y
    · exact mix_tup z y
    · rw [mix_old z y]; exact onS_le _ _ x
  have key : ∀ b, muc (mix (onS Sb F) H H2) b → Sb b ∨ H b = none := fun b ⟨o, h, t⟩ => by
    rcases mix_cases h with ⟨z, _⟩ | ⟨_, y⟩ | ⟨u, z, y, x⟩
    · exact .inr z
    · rw [t] at y; cases y
    · exact .inl (muc_onS ⟨o, x, t⟩).1
  refine c a v (mix F H H2) H2 _ (Nx.mk' hF e2) (e0.trans e2) (Tr.mono (Agr.same sub) r2) (fun b z => ⟨?_, muc_mono sub z.1⟩) (fun b z => key b z.1) q
  rcases key b z.1 with y | y
  · exact (w b y).1
  · exact Same.free e0 y
/-! ### a list of things apart, of ours -/
structure OwT {α : Type} [Rp α] [Tr α] (K : PySem.W.Frag) (H0 F H : Hp) (p : Addr) (S : Addr → Prop) (xs : List α) : Prop where
  h0 : H0 p = none
  f : F p = none
  at_ : ∃ vs, H p = some (.lst vs) ∧ TrL (fun S v x => Tr.tr K F S v x) S vs xs
  w : Fp H0 F S
theorem OwT.nx {p : Addr} {xs : List α} (o : OwT K H0 F H p Sa xs) (n : Nx P F H F' H') (hp : ¬ P p) : OwT K H0 F' H' p Sa xs := by
  obtain ⟨h0, f, ⟨vs, h, r⟩, w⟩ := o
  exact ⟨h0, n.own p _ rfl h f, ⟨vs, n.hh p _ hp h, trl_agr (Agr.same n.ff) r⟩, fp_ff w n.ff⟩
theorem OwT.nx0 {p : Addr} {xs : List α} (o : OwT K H0 F H p Sa xs) (n : Nx0 F H F' H') : OwT K H0 F' H' p Sa xs := o.nx n fun z => z
theorem OwT.there {p : Addr} {xs : List α} (o : OwT K H0 F H p Sa xs) : ∃ u, H p = some u := let ⟨_, _, ⟨_, h, _⟩, _⟩ := o; ⟨_, h⟩
theorem OwT.nt {p : Addr} {xs : List α} (o : OwT K H0 F H p Sa xs) : tupB (H p) = false := by obtain ⟨_, _, ⟨_, h, _⟩, _⟩ := o; rw [h]; rfl
theorem OwT.own {p : Addr} {xs : List α} (o : OwT K H0 F H p Sa xs) : Own K H0 true F H p xs := by
  obtain ⟨h0, f, ⟨vs, h, r⟩, w⟩ := o
  refine Own.of h0 f h ?_
  have r2 : TrL (fun (_ : Addr → Prop) v x => Rp.rep K (dif H0 F) v x) Sa vs xs := r.mp fun S1 v x q t => ft_N (fun b z => w b (q b z)) t
  exact r2.all (F := Rp.rep K (dif H0 F)) fun _ _ _ z => z
theorem OwT.rep {p : Addr} {xs : List α} (o : OwT K H0 F H p Sa xs) (hF : Same F H) : Rp.rep K H (.ref p) xs := o.own.rep hF
theorem OwT.fz {p q : Addr} {xs : List α} (o : OwT K H0 F H q Sa xs) (hf : Same F F') (h : ∀ q, q ≠ p → F' q = F q) (ne : q ≠ p) : OwT K H0 F' H q Sa xs := by
  obtain ⟨h0, f, ⟨vs, h1, r⟩, w⟩ := o
  exact ⟨h0, by rw [h q ne]; exact f, ⟨vs, h1, trl_agr (Agr.same hf) r⟩, fp_ff w hf⟩
theorem g_owT {i : Nat} {p : Addr} {xs : List α} (o : OwT K H0 F H p Sa xs) (hF : Same F H) (h : σ[i]? = some (some (.ref p)) := by rfl) : Gr K E (tVar i) σ (dif H0 H) H (.ok (Apt.mk xs)) := by
  obtain ⟨h0, f, ⟨vs, h1, r⟩, w⟩ := o
  refine g_var (v := .ref p) (a := Apt.mk xs) ⟨fun b => b = p ∨ Sa b, p, vs, Sa, rfl, dif_of h0 h1, .inl rfl, fun b z => ⟨.inr z, fun y => ?_⟩, trl_agr (fun b o h z => ?_) r⟩ dif_le h
  · have := (w b z).2
    rw [y] at this
    exact muc_some this f
  · rcases z with z | z
    · exact dif_of (w b z).1 (hF _ _ h)
    · exact dif_tup z (hF _ _ h)
/-- xs = [] -/
theorem s_asgOT0 {i : Nat} {k : List α → R ρ} {kk : ρ → Prop} (hF : Same F H) (e0 : Same H0 H) (hQ : Wp (R.bd (gd (([] : List α).length ≤ lim) (.ok ([] : List α))) k) kk (EE K E H0))
    (c : ∀ xs p F' H' S, Nx0 F H F' H' → Same H0 H' → OwT K H0 F' H' p S xs → (∀ q, (∃ u, H q = some u) → q ≠ p) → (∀ b, ¬ S b) → Wp (k xs) kk (EE K E H0) → D.nx (σ.set i (some (.ref p))) H') : tAsg (tLst tNil) (gName i) D σ H := by
  rw [gd_pos (show ([] : List α).length ≤ lim from Nat.zero_le _), bd_ok] at hQ
  refine ⟨by show 0 ≤ sizeLine; decide, fun p hp => ?_⟩
  have e2 : Same H (upd H p (.lst [])) := same_upd hp
  have n := nx_tupF hF e2
  have m : delH (tupF F (upd H p (.lst []))) p = tupF F (upd H p (.lst [])) := by
    funext b
    by_cases z : b = p
    · rw [z, delH_same]
      exact (tupF_none (by rw [upd_same]; rfl) (Same.free hF hp)).symm
    · exact delH_ne z
  exact c [] p _ _ (fun _ => False) n (e0.trans e2) ⟨Same.free e0 hp, tupF_none (by rw [upd_same]; rfl) (Same.free hF hp), ⟨[], upd_same, .nil⟩, fun _ z => z.elim⟩ (fun q ⟨u, hu⟩ z => by rw [z, hp] at hu; cases hu) (fun _ z => z) hQ
/-- xs = [x] -/
theorem s_asgOT1 {i j : Nat} {x : α} {k : List α → R ρ} {kk : ρ → Prop} (t : Tr.tr K F Sa v x) (w : Fp H0 F Sa) (hv : σ[j]? = some (some v)) (hF : Same F H) (e0 : Same H0 H) (hQ : Wp (R.bd (gd ([x].length ≤ lim) (.ok [x])) k) kk (EE K E H0))
    (c : ∀ xs p F' H' S, Nx0 F H F' H' → Same H0 H' → OwT K H0 F' H' p S xs → (∀ q, (∃ u, H q = some u) → q ≠ p) → (∀ b, S b → Sa b) → Wp (k xs) kk (EE K E H0) → D.nx (σ.set i (some (.ref p))) H') : tAsg (tLst (tCons (tVar j) tNil)) (gName i) D σ H := by
  rw [gd_pos (show [x].length ≤ lim by show 1 ≤ lim; decide), bd_ok] at hQ
  refine ⟨v, hv, by show 1 ≤ sizeLine; decide, fun p hp => ?_⟩
  have e2 : Same H (upd H p (.lst [v])) := same_upd hp
  have n := nx_tupF hF e2
  exact c [x] p _ _ Sa n (e0.trans e2) ⟨Same.free e0 hp, tupF_none (by rw [upd_same]; rfl) (Same.free hF hp), ⟨[v], upd_same, .cons (S1 := Sa) (S2 := fun _ => False) (fun b z => ⟨z, fun y => y⟩) (fun _ z => z.elim) (Tr.mono (Agr.same n.ff) t) .nil⟩, fp_ff w n.ff⟩ (fun q ⟨u, hu⟩ z => by rw [z, hp] at hu; cases hu) (fun _ z => z) hQ
/-- xs.append(x) -/
theorem s_otPush {p : Addr} {j : Nat} {x : α} {xs : List α} {k : List α → R ρ} {kk : ρ → Prop} (ha : At to σ H p) (o : OwT K H0 F H p Sb xs) (t : Tr.tr K F Sa v x) (w : Fp H0 F Sa) (dj : ∀ b, Sa b → ¬ Sb b) (hv : σ[j]? = some (some v)) (hF : Same F H) (e0 : Same H0 H)
    (hQ : Wp (R.bd (R.bd (.ok x) fun a => appR xs a) k) kk (EE K E H0))
    (c : ∀ xs' F' H' S, Nx (fun q => q = p) F H F' H' → Same H0 H' → OwT K H0 F' H' p S xs' → (∀ b, S b → Sb b ∨ Sa b) → Wp (k xs') kk (EE K E H0) → D.nx σ H') : tDrop (tBM K "list" rAppend to (tCons (tVar j) tNil)) D σ H := by
  obtain ⟨h0, f, ⟨vs, hp, r⟩, w2⟩ := o
  refine ha H (Same.refl _) _ ⟨.inl ⟨rfl, _, SqL.of hp⟩, ?_⟩
  refine ⟨v, hv, ?_⟩
  rw [bd_ok] at hQ
  have len : vs.length = xs.length := (r.all (F := fun _ _ => True) fun _ _ _ _ => trivial).length
  unfold appR gd at hQ
  split at hQ
  · rename_i cl
    refine ⟨p, vs, v, rfl, rfl, hp, lim_line' (by rw [len]; exact cl), ?_⟩
    have n := nx_upd (o' := .lst (vs ++ [v])) hF (Same.refl _) hp f
    refine c (xs ++ [x]) _ _ (fun b => Sb b ∨ Sa b) n (e0_upd e0 (Same.refl _) h0) ⟨h0, n.own p _ rfl hp f, ⟨vs ++ [v], upd_same, ?_⟩, fun b z => z.elim (fun z => fp_ff w2 n.ff b z) fun z => fp_ff w n.ff b z⟩ (fun _ z => z) hQ
    exact TrL.snoc (trl_agr (Agr.same n.ff) r) (Tr.mono (Agr.same n.ff) t) (fun b z => ⟨.inl z, fun y => dj b y z⟩) fun b z => .inr z
  · exact hQ.elim
/-- xs.append(e), e new -/
theorem s_otPushE {p : Addr} {xs : List α} {m : R α} {k : List α → R ρ} {kk : ρ → Prop} (ha : At to σ H p) (o : OwT K H0 F H p Sb xs) (he : GrX K E te σ H m) (hF : Same F H) (e0 : Same H0 H)
    (hQ : Wp (R.bd (R.bd m fun a => appR xs a) k) kk (EE K E H0))
    (c : ∀ xs' F' H' S, Nx (fun q => q = p) F H F' H' → Same H0 H' → OwT K H0 F' H' p S xs' → (∀ b, S b → Sb b ∨ H b = none) → Wp (k xs') kk (EE K E H0) → D.nx σ H') : tDrop (tBM K "list" rAppend to (tCons te tNil)) D σ H := by
  obtain ⟨h0, f, ⟨vs, hp, r⟩, w2⟩ := o
  refine ha H (Same.refl _) _ ⟨.inl ⟨rfl, _, SqL.of hp⟩, ?_⟩
  refine he H (Same.refl _) _ ?_
  rw [bd_assoc, wp_bd] at hQ
  refine wp_mono hQ (fun x _ q u H2 e2 ⟨S, re, n2⟩ => ?_) fun c _ z => z.mono e0
  have len : vs.length = xs.length := (r.all (F := fun _ _ => True) fun _ _ _ _ => trivial).length
  unfold appR gd at q
  split at q
  · rename_i cl
    have hp2 := e2 _ _ hp
    refine ⟨p, vs, u, rfl, rfl, hp2, lim_line' (by rw [len]; exact cl), ?_⟩
    have n := nx_upd (o' := .lst (vs ++ [u])) hF e2 hp f
    have sub : Agr S H2 (mix F H H2) := fun b o h z => by
      rcases z with z | z
      · rw [mix_new (n2 b z).1]; exact h
      · cases w : H b with
        | none => rw [mix_new w]; exact h
        | some u =>
          have := e2 b u w
          rw [h] at this
          cases this
          exact mix_tup w z
    have w : Fp H0 (mix F H H2) S := fun b z => by
      obtain ⟨h1, o, h2, h3⟩ := n2 b z
      exact ⟨Same.free e0 h1, o, by rw [mix_new h1]; exact h2, h3⟩
    have dj : ∀ b, S b → ¬ Sb b := ft_dj w2 hF fun b z => (n2 b z).1
    refine c (xs ++ [x]) _ _ (fun b => Sb b ∨ S b) n (e0_upd e0 e2 h0) ⟨h0, n.own p _ rfl hp f, ⟨vs ++ [u], upd_same, ?_⟩, fun b z => z.elim (fun z => fp_ff w2 n.ff b z) fun z => w b z⟩ (fun b z => z.imp id fun z => (n2 b z).1) q
    exact TrL.snoc (trl_agr (Agr.same n.ff) r) (Tr.mono sub re) (fun b z => ⟨.inl z, fun y => dj b y z⟩) fun b z => .inr z
  · exact q.elim
end
end G

set_option Elab.async false
set_option linter.all false
set_option maxRecDepth 100000
set_option maxHeartbeats 2000000
/-! G: plain words for the plain laws. -/
namespace G
open PySem PySem.Spec PyProof.Rows L2
theorem gd_dec {α : Type} {c : Prop} [Decidable c] {m : R α} : gd c m = if c then m else .bad := by
  by_cases h : c
  · rw [gd_pos h, if_pos h]
  · rw [if_neg h]; unfold gd; exact if_neg h
theorem ixN_ok {n : Nat} {i : Int} (h0 : 0 ≤ i) (h1 : i < n) : ixN n i = some i.toNat := by
  unfold ixN
  rw [if_pos h0, if_pos h1]
theorem atI_ok {α : Type} {xs : List α} {i : Int} (h0 : 0 ≤ i) (h1 : i < xs.length) : atI xs i = xs[i.toNat]? := by
  unfold atI
  rw [ixN_ok h0 h1]
  rfl
theorem idx_ok {α : Type} {xs : List α} {i : Int} {a : α} (h0 : 0 ≤ i) (h : xs[i.toNat]? = some a) : idx xs i = .ok a := by
  obtain ⟨h1, h2⟩ := List.getElem?_eq_some_iff.mp h
  unfold idx
  rw [atI_ok h0 (by omega), h]
theorem idx_at {α : Type} {xs : List α} {i : Int} (h0 : 0 ≤ i) (h1 : i < xs.length) : idx xs i = .ok (xs[i.toNat]'(by omega)) := idx_ok h0 (List.getElem?_eq_getElem _)
theorem idx_nat {α : Type} {xs : List α} {i : Nat} {a : α} (h : xs[i]? = some a) : idx xs (i : Int) = .ok a := idx_ok (by omega) (by simpa using h)
theorem idx_last {α : Type} {xs : List α} {a : α} (h : xs.getLast? = some a) : idx xs (-1) = .ok a := by
  cases xs with
  | nil => cases h
  | cons x l =>
    unfold idx atI ixN
    rw [if_neg (by omega), if_pos (by simp; omega)]
    have e : ((-1 : Int) + ((x :: l).length : Int)).toNat = (x :: l).length - 1 := by simp only [List.length_cons]; omega
    rw [e]
    rw [List.getLast?_eq_getElem?] at h
    show (match (some ((x :: l).length - 1)).bind (fun j => (x :: l)[j]?) with | some a => R.ok a | none => .bad) = _
    rw [Option.bind_some, h]
theorem setR_ok {α : Type} {xs : List α} {i : Int} {a : α} (h0 : 0 ≤ i) (h1 : i < xs.length) : setR xs i a = .ok (xs.set i.toNat a) := by
  unfold setR
  rw [ixN_ok h0 h1]
theorem setR_nat {α : Type} {xs : List α} {i : Nat} {a : α} (h1 : i < xs.length) : setR xs (i : Int) a = .ok (xs.set i a) := by
  rw [setR_ok (by omega) (by omega)]
  simp
theorem modR_ok {a b : Int} (h : 0 < b) : modR a b = .ok (a % b) := gd_pos h
theorem divR_ok {a b : Int} {w : Nat} (h : 0 < b) (hb : b < 2 ^ w) (h0 : 0 < w) (h9 : w ≤ 9000) : divR a b = .ok (a / b) := gd_pos (wide_div h (b := w) (by
  have : (b.natAbs : Int) = b := Int.natAbs_of_nonneg (by omega)
  have h2 : ((2 ^ w : Nat) : Int) = (2 : Int) ^ w := by simp
  omega) h0 h9)
theorem natAbs_lt {a : Int} {w : Nat} (h0 : 0 ≤ a) (h : a < 2 ^ w) : a.natAbs < 2 ^ w := by
  have h2 : ((2 ^ w : Nat) : Int) = (2 : Int) ^ w := by simp
  omega
theorem mulR_ok {a b : Int} {w v : Nat} (h0 : 0 ≤ a) (h1 : a < 2 ^ w) (h2 : 0 ≤ b) (h3 : b < 2 ^ v) (h4 : 0 < w) (h5 : 0 < v) (h6 : w + v ≤ 134000000) : mulR a b = .ok (a * b) := gd_pos (wide_mulV (natAbs_lt h0 h1) (natAbs_lt h2 h3) h4 h5 h6)
theorem cut_take {α : Type} {l : List α} {n : Int} (h0 : 0 ≤ n) (h1 : n ≤ l.length) : cut l none (some n) = l.take n.toNat := by
  obtain ⟨k, rfl⟩ : ∃ k : Nat, n = (k : Int) := ⟨n.toNat, by omega⟩
  unfold cut
  rw [HT.sIx_nat, HT.sIx_none, Nat.min_eq_left (by omega)]
  simp
theorem cut_drop {α : Type} {l : List α} {n : Int} (h0 : 0 ≤ n) (h1 : n ≤ l.length) : cut l (some n) none = l.drop n.toNat := by
  obtain ⟨k, rfl⟩ : ∃ k : Nat, n = (k : Int) := ⟨n.toNat, by omega⟩
  unfold cut
  rw [HT.sIx_nat, HT.sIx_none, Nat.min_eq_left (by omega)]
  rw [Int.toNat_natCast, List.take_of_length_le (by simp)]
theorem popR_ok {α : Type} {l : List α} (h : 0 < l.length) : popR l = .ok l.dropLast := by
  cases l with
  | nil => simp at h
  | cons x l => rfl
theorem appR_ok {α : Type} {xs : List α} {a : α} (h : xs.length < lim) : appR xs a = .ok (xs ++ [a]) := gd_pos h
theorem rng1_ok {n : Int} (h0 : 0 ≤ n) (h : n ≤ 1000000000) : rng1 n = .ok (rngL 0 n) := gd_pos ⟨by omega, by omega⟩
theorem rng2_ok {a b : Int} (h0 : 0 ≤ a) (h : a ≤ 1000000000) (h2 : 0 ≤ b) (h3 : b ≤ 1000000000) : rng2 a b = .ok (rngL a b) := gd_pos ⟨⟨by omega, by omega⟩, by omega, by omega⟩
theorem rng3D_ok {a b : Int} (h0 : 0 ≤ a) (h : a ≤ 1000000000) (h2 : 0 ≤ b) (h3 : b ≤ 1000000000) : rng3D a b = .ok (rngD a b) := gd_pos ⟨⟨by omega, by omega⟩, by omega, by omega⟩
theorem rngL_at {lo hi : Int} {i : Nat} {x : Int} (h : (rngL lo hi)[i]? = some x) : x = lo + i ∧ x < hi := by
  have h1 : i < (hi - lo).toNat := by
    have := (List.getElem?_eq_some_iff.mp h).1
    rw [rngL_len] at this
    exact this
  rw [rngL_get h1] at h
  cases h
  exact ⟨rfl, by omega⟩
theorem rngL_nil {lo hi : Int} (h : hi ≤ lo) : rngL lo hi = [] := by
  apply List.eq_nil_of_length_eq_zero
  rw [rngL_len]
  omega
theorem repR_ok {α : Type} {a : α} {k : Int} (h0 : 0 ≤ k) (h : k ≤ 10000000) : repR [a] k = .ok (List.replicate k.toNat a) := by
  unfold repR
  rw [gd_pos ⟨by omega, by omega, by unfold lim; simp; omega⟩]
  congr 1
  generalize k.toNat = n
  induction n with
  | zero => rfl
  | succ n ih => rw [List.replicate_succ, List.flatten_cons, ih]; rfl
theorem repR_neg {α : Type} {xs : List α} {k : Int} (h0 : k ≤ 0) (h : -10000000 ≤ k) : repR xs k = .ok [] := by
  unfold repR
  have : k.toNat = 0 := by omega
  rw [this, gd_pos ⟨by omega, by omega, by simp⟩]
  rfl
theorem catG {α : Type} {xs ys : List α} (h : xs.length + ys.length ≤ lim) : gd (xs.length + ys.length ≤ lim) (.ok (xs ++ ys)) = .ok (xs ++ ys) := gd_pos h
theorem forS_ok {α S : Type} {body : α → S → R S} (I : Nat → S → Prop) : ∀ (xs : List α) (n : Nat) (s : S), I n s → (∀ i x s, xs[i]? = some x → I (n + i) s → ∃ s', body x s = .ok s' ∧ I (n + i + 1) s') → ∃ s', forS body xs s = .ok s' ∧ I (n + xs.length) s'
  | [], n, s, h, _ => ⟨s, rfl, h⟩
  | x :: l, n, s, h, st => by
    obtain ⟨s1, e1, h1⟩ := st 0 x s rfl h
    obtain ⟨s2, e2, h2⟩ := forS_ok I l (n + 1) s1 h1 fun i y s hy hs => by
      have := st (i + 1) y s (by simpa using hy) (by rw [show n + (i + 1) = n + 1 + i by omega]; exact hs)
      rw [show n + (i + 1) + 1 = n + 1 + i + 1 by omega] at this
      exact this
    refine ⟨s2, ?_, by rw [List.length_cons, show n + (l.length + 1) = n + 1 + l.length by omega]; exact h2⟩
    show R.bd (body x s) (fun s' => forS body l s') = _
    rw [e1]
    exact e2
theorem forS_inv {α S : Type} {body : α → S → R S} {xs : List α} {s : S} (I : Nat → S → Prop) (h : I 0 s) (st : ∀ i x s, xs[i]? = some x → I i s → ∃ s', body x s = .ok s' ∧ I (i + 1) s') : ∃ s', forS body xs s = .ok s' ∧ I xs.length s' := by
  obtain ⟨s', e, q⟩ := forS_ok I xs 0 s h fun i x s hx hs => by
    rw [Nat.zero_add] at hs ⊢
    exact st i x s hx hs
  exact ⟨s', e, by rw [Nat.zero_add] at q; exact q⟩
theorem forR_ok {α S ρ : Type} {body : α → S → R (Fl S ρ)} (I : Nat → S → Prop) : ∀ (xs : List α) (n : Nat) (s : S), I n s → (∀ i x s, xs[i]? = some x → I (n + i) s → ∃ s', body x s = .ok (.go s') ∧ I (n + i + 1) s') → ∃ s', forR body xs s = .ok (.go s') ∧ I (n + xs.length) s'
  | [], n, s, h, _ => ⟨s, rfl, h⟩
  | x :: l, n, s, h, st => by
    obtain ⟨s1, e1, h1⟩ := st 0 x s rfl h
    obtain ⟨s2, e2, h2⟩ := forR_ok I l (n + 1) s1 h1 fun i y s hy hs => by
      have := st (i + 1) y s (by simpa using hy) (by rw [show n + (i + 1) = n + 1 + i by omega]; exact hs)
      rw [show n + (i + 1) + 1 = n + 1 + i + 1 by omega] at this
      exact this
    refine ⟨s2, ?_, by rw [List.length_cons, show n + (l.length + 1) = n + 1 + l.length by omega]; exact h2⟩
    unfold forR
    rw [e1]
    exact e2
theorem forR_inv {α S ρ : Type} {body : α → S → R (Fl S ρ)} {xs : List α} {s : S} (I : Nat → S → Prop) (h : I 0 s) (st : ∀ i x s, xs[i]? = some x → I i s → ∃ s', body x s = .ok (.go s') ∧ I (i + 1) s') : ∃ s', forR body xs s = .ok (.go s') ∧ I xs.length s' := by
  obtain ⟨s', e, q⟩ := forR_ok I xs 0 s h fun i x s hx hs => by
    rw [Nat.zero_add] at hs ⊢
    exact st i x s hx hs
  exact ⟨s', e, by rw [Nat.zero_add] at q; exact q⟩
/-- every turn goes on, nothing is carried -/
theorem forR_all {α ρ : Type} {body : α → Unit → R (Fl Unit ρ)} {xs : List α} (st : ∀ x ∈ xs, body x () = .ok (.go ())) : forR body xs () = .ok (.go ()) := by
  obtain ⟨s', e, _⟩ := forR_inv (body := body) (xs := xs) (s := ()) (fun _ _ => True) trivial fun i x s hx _ => ⟨(), st x (List.mem_of_getElem? hx), trivial⟩
  cases s'
  exact e
theorem compGo_ok {α β : Type} {f : α → R β} {g : α → β} : ∀ {xs : List α}, (∀ x ∈ xs, f x = .ok (g x)) → compGo (fun _ => .ok true) f xs = .ok (xs.map g)
  | [], _ => rfl
  | x :: l, h => by
    unfold compGo
    rw [h x (by simp)]
    show R.bd (compGo _ f l) _ = _
    rw [compGo_ok fun y hy => h y (by simp [hy])]
    rfl
theorem compR_ok {α β : Type} {f : α → R β} {g : α → β} {xs : List α} (hl : xs.length ≤ lim) (h : ∀ x ∈ xs, f x = .ok (g x)) : compR xs (fun _ => .ok true) f = .ok (xs.map g) := by
  unfold compR
  rw [gd_pos hl, compGo_ok h]
theorem minR_nn {xs : List Int} (h : xs ≠ []) (hp : ∀ x ∈ xs, 0 ≤ x) : ∃ m, minR xs = .ok m ∧ 0 ≤ m := by
  unfold minR
  cases e : xs.min? with
  | none => exact absurd (List.min?_eq_none_iff.mp e) h
  | some m => exact ⟨m, rfl, hp m (List.min?_eq_some_iff.mp e).1⟩
theorem sum_le {xs : List Int} {b : Int} (h : ∀ x ∈ xs, x ≤ b) : xs.sum ≤ xs.length * b := by
  induction xs with
  | nil => simp
  | cons x l ih =>
    rw [List.sum_cons, List.length_cons]
    have h1 := h x (by simp)
    have h2 := ih fun y hy => h y (by simp [hy])
    have : ((l.length + 1 : Nat) : Int) * b = l.length * b + b := by rw [Int.natCast_add, Int.add_mul]; simp
    omega
theorem sum_nn {xs : List Int} (h : ∀ x ∈ xs, 0 ≤ x) : 0 ≤ xs.sum := by
  induction xs with
  | nil => simp
  | cons x l ih =>
    rw [List.sum_cons]
    have h1 := h x (by simp)
    have h2 := ih fun y hy => h y (by simp [hy])
    omega
theorem emod2 {x p : Int} (h0 : 0 ≤ x) (h1 : x < 2 * p) : x % p = if x < p then x else x - p := by
  by_cases c : x < p
  · rw [if_pos c, Int.emod_eq_of_lt h0 c]
  · rw [if_neg c]
    have : x = (x - p) + p := by omega
    rw [this, Int.add_emod_right, Int.emod_eq_of_lt (by omega) (by omega)]
    omega
theorem ediv_eq {a b q r : Int} (h : a = b * q + r) (h0 : 0 ≤ r) (h1 : r < b) : a / b = q := by
  rw [h, Int.mul_add_ediv_left _ _ (by omega), Int.ediv_eq_zero_of_lt h0 h1]
  omega
/-! ### it ends, and .. -/
def Ok {α : Type} (m : R α) (P : α → Prop) : Prop := ∃ a, m = .ok a ∧ P a
section
variable {α β γ S ρ : Type} {m : R α} {f : α → R β} {P P' : α → Prop} {Q : β → Prop} {a : α} {b : β}
theorem ok_ret (h : P a) : Ok (.ok a) P := ⟨a, rfl, h⟩
theorem ok_bd (h : Ok m P) (k : ∀ a, P a → Ok (f a) Q) : Ok (R.bd m f) Q := by
  obtain ⟨a, rfl, ha⟩ := h
  exact k a ha
theorem ok_eq (e : m = .ok a) (h : Ok (f a) Q) : Ok (R.bd m f) Q := by rw [e]; exact h
theorem ok_st (h : Ok (f a) Q) : Ok (R.bd (.ok a) f) Q := h
theorem ok_of (e : m = .ok a) (h : P a) : Ok m P := ⟨a, e, h⟩
theorem ok_mono (h : Ok m P) (k : ∀ a, P a → P' a) : Ok m P' := let ⟨a, e, q⟩ := h; ⟨a, e, k a q⟩
theorem ok_is (h : Ok m fun x => x = a) : m = .ok a := by
  obtain ⟨x, e, rfl⟩ := h
  exact e
theorem ok_it {c : Bool} {X Y : R α} (h1 : c = true → Ok X P) (h2 : c = false → Ok Y P) : Ok (if c = true then X else Y) P := by
  cases c with
  | true => exact h1 rfl
  | false => exact h2 rfl
theorem ok_if {c : Prop} [Decidable c] {X Y : R α} (h1 : c → Ok X P) (h2 : ¬ c → Ok Y P) : Ok (if decide c = true then X else Y) P := by
  by_cases h : c
  · rw [if_pos (decide_eq_true h)]; exact h1 h
  · rw [if_neg (by rw [decide_eq_false h]; decide)]; exact h2 h
theorem ok_idx {xs : List α} {i : Int} (h0 : 0 ≤ i) (h1 : i < xs.length) (h : ∀ x, xs[i.toNat]? = some x → x ∈ xs → P x) : Ok (idx xs i) P := by
  have e : xs[i.toNat]? = some (xs[i.toNat]'(by omega)) := List.getElem?_eq_getElem _
  exact ⟨_, idx_ok h0 e, h _ e (List.mem_of_getElem? e)⟩
theorem ok_forS {body : α → S → R S} {xs : List α} {s : S} (I : Nat → S → Prop) (h : I 0 s) (st : ∀ i x s, xs[i]? = some x → I i s → Ok (body x s) (I (i + 1))) : Ok (forS body xs s) (I xs.length) := forS_inv I h st
/-- a loop that may tell -/
def FlP (P : S → Prop) (J : S → Prop) (Rr : ρ → Prop) : Fl S ρ → Prop
  | .go s => P s
  | .brk s => J s
  | .ret r => Rr r
theorem ok_forRn {body : α → S → R (Fl S ρ)} (I : Nat → S → Prop) (J : S → Prop) (Rr : ρ → Prop) : ∀ (xs : List α) (n : Nat) (s : S), I n s → (∀ i x s, xs[i]? = some x → I (n + i) s → Ok (body x s) (FlP (I (n + i + 1)) J Rr)) → Ok (forR body xs s) (FlP (fun s => I (n + xs.length) s ∨ J s) (fun _ => False) Rr)
  | [], n, s, h, _ => ⟨_, rfl, .inl h⟩
  | x :: l, n, s, h, st => by
    obtain ⟨f, e1, h1⟩ := st 0 x s rfl h
    unfold forR
    rw [e1, bd_ok]
    cases f with
    | go s1 =>
      have := ok_forRn I J Rr l (n + 1) s1 h1 fun i y s hy hs => by
        have := st (i + 1) y s (by simpa using hy) (by rw [show n + (i + 1) = n + 1 + i by omega]; exact hs)
        rw [show n + (i + 1) + 1 = n + 1 + i + 1 by omega] at this
        exact this
      rw [List.length_cons, show n + (l.length + 1) = n + 1 + l.length by omega]
      exact this
    | brk s1 => exact ⟨_, rfl, .inr h1⟩
    | ret r => exact ⟨_, rfl, h1⟩
theorem ok_forR {body : α → S → R (Fl S ρ)} {xs : List α} {s : S} (I : Nat → S → Prop) (J : S → Prop) (Rr : ρ → Prop) (h : I 0 s) (st : ∀ i x s, xs[i]? = some x → I i s → Ok (body x s) (FlP (I (i + 1)) J Rr)) : Ok (forR body xs s) (FlP (fun s => I xs.length s ∨ J s) (fun _ => False) Rr) := by
  have := ok_forRn I J Rr xs 0 s h fun i x s hx hs => by rw [Nat.zero_add] at hs ⊢; exact st i x s hx hs
  rw [Nat.zero_add] at this
  exact this
/-- all turns go on, nothing is carried -/
theorem ok_forA {body : α → Unit → R (Fl Unit ρ)} {xs : List α} {k : Fl Unit ρ → R β} (st : ∀ x ∈ xs, Ok (body x ()) (fun f => f = .go ())) (h : Ok (k (.go ())) Q) : Ok (R.bd (forR body xs ()) k) Q := by
  rw [forR_all fun x hx => ok_is (st x hx)]
  exact h
theorem ok_whileS {c : S → R Bool} {body : S → R S} (I : S → Prop) (μ : S → Nat) (Dn : S → Prop) : ∀ (n : Nat) (s : S), I s → μ s < n → (∀ s, I s → Ok (c s) fun b => if b = true then Ok (body s) (fun s' => I s' ∧ μ s' < μ s) else Dn s) → Ok (whileS c body n s) Dn
  | 0, s, _, h, _ => by omega
  | n + 1, s, hI, h, st => by
    obtain ⟨b, e, q⟩ := st s hI
    unfold whileS
    rw [e, bd_ok]
    cases b with
    | true =>
      rw [if_pos rfl] at q ⊢
      obtain ⟨s', e2, h2, h3⟩ := q
      rw [e2, bd_ok]
      exact ok_whileS I μ Dn n s' h2 (by omega) st
    | false =>
      rw [if_neg (by decide)] at q ⊢
      exact ⟨s, rfl, q⟩
theorem ok_compR {f : α → R β} {xs : List α} (P : Nat → β → Prop) (hl : xs.length ≤ lim) (h : ∀ i x, xs[i]? = some x → Ok (f x) (P i)) : Ok (compR xs (fun _ => .ok true) f) fun ys => ys.length = xs.length ∧ ∀ i y, ys[i]? = some y → P i y := by
  have key : ∀ (xs : List α) (n : Nat), (∀ i x, xs[i]? = some x → Ok (f x) (P (n + i))) → Ok (compGo (fun _ => .ok true) f xs) fun ys => ys.length = xs.length ∧ ∀ i y, ys[i]? = some y → P (n + i) y := by
    intro xs
    induction xs with
    | nil => exact fun n _ => ⟨[], rfl, rfl, fun i y hy => by simp at hy⟩
    | cons x l ih =>
      intro n h
      obtain ⟨y, e, hy⟩ := h 0 x rfl
      obtain ⟨ys, e2, h2, h3⟩ := ih (n + 1) fun i z hz => by
        have := h (i + 1) z (by simpa using hz)
        rw [show n + (i + 1) = n + 1 + i by omega] at this
        exact this
      refine ⟨y :: ys, ?_, by simp [h2], fun i z hz => ?_⟩
      · unfold compGo
        rw [e]
        show R.bd (compGo _ f l) _ = _
        rw [e2]
        rfl
      · cases i with
        | zero => simp at hz; subst hz; exact hy
        | succ i =>
          have := h3 i z (by simpa using hz)
          rw [show n + 1 + i = n + (i + 1) by omega] at this
          exact this
  have := key xs 0 fun i x hx => by rw [Nat.zero_add]; exact h i x hx
  unfold compR
  rw [gd_pos hl]
  simpa using this
end
/-! ### steps by simp: conditions by omega -/
theorem dT {c : Prop} [Decidable c] (h : c) : decide c = true := decide_eq_true h
theorem dF {c : Prop} [Decidable c] (h : ¬ c) : decide c = false := decide_eq_false h
theorem ifT {α : Type} {a b : α} : (if true = true then a else b) = a := rfl
theorem ifF {α : Type} {a b : α} : (if false = true then a else b) = b := rfl
theorem rngL_mem {lo hi x : Int} : x ∈ rngL lo hi ↔ lo ≤ x ∧ x < hi := by
  constructor
  · intro h
    obtain ⟨i, hi⟩ := List.mem_iff_getElem?.mp h
    obtain ⟨rfl, h2⟩ := rngL_at hi
    omega
  · intro ⟨h1, h2⟩
    apply List.mem_iff_getElem?.mpr
    refine ⟨(x - lo).toNat, ?_⟩
    rw [rngL_get (by omega)]
    congr 1
    omega
theorem compR_true {α : Type} {f : α → R Bool} {xs : List α} (hl : xs.length ≤ lim) (h : ∀ x ∈ xs, f x = .ok true) : compR xs (fun _ => .ok true) f = .ok (xs.map fun _ => true) := compR_ok hl h
theorem all_true {α : Type} {xs : List α} : (xs.map fun _ => true).all id = true := by simp
theorem lim_eq : lim = 10000000 := rfl
theorem forS_er {α : Type} {body : α → Unit → R Unit} {e : Er} : ∀ {xs : List α}, (∀ x ∈ xs, body x () = .ok () ∨ body x () = .er e) → (∃ x ∈ xs, body x () = .er e) → forS body xs () = .er e
  | [], _, ⟨x, h, _⟩ => by cases h
  | y :: l, h, ⟨x, hx, hb⟩ => by
    unfold forS
    rcases h y (by simp) with h1 | h1
    · rw [h1, bd_ok]
      refine forS_er (fun z hz => h z (by simp [hz])) ⟨x, ?_, hb⟩
      rcases List.mem_cons.mp hx with c | c
      · rw [c, h1] at hb
        cases hb
      · exact c
    · rw [h1]
      rfl
theorem enumL_at {α : Type} [Rp α] {xs : List α} {i : Nat} {p : Int × α} (h : (enumL xs)[i]? = some p) : p.1 = i ∧ xs[i]? = some p.2 := by
  have hl : i < xs.length := by
    have := (List.getElem?_eq_some_iff.mp h).1
    rw [enumL_len] at this
    exact this
  rw [enumL_get (List.getElem?_eq_getElem hl)] at h
  cases h
  exact ⟨rfl, List.getElem?_eq_getElem hl⟩
theorem emod_le {x m : Int} (h0 : 0 ≤ x) (hm : 0 < m) : x % m ≤ x := by
  have q1 := Int.mul_ediv_add_emod x m
  have q2 : 0 ≤ m * (x / m) := Int.mul_nonneg (by omega) (Int.ediv_nonneg h0 (by omega))
  omega
theorem compGo_filter {α β : Type} {c : α → R Bool} {p : α → Bool} {f : α → R β} {g : α → β} : ∀ {xs : List α}, (∀ x ∈ xs, c x = .ok (p x)) → (∀ x ∈ xs, p x = true → f x = .ok (g x)) → compGo c f xs = .ok ((xs.filter p).map g)
  | [], _, _ => rfl
  | x :: l, h, h2 => by
    have ih := compGo_filter (xs := l) (fun y hy => h y (by simp [hy])) (fun y hy => h2 y (by simp [hy]))
    unfold compGo
    rw [h x (by simp)]
    show (if p x = true then R.bd (f x).nx fun y => R.bd (compGo c f l) fun ys => .ok (y :: ys) else compGo c f l) = _
    by_cases c : p x = true
    · rw [if_pos c, h2 x (by simp) c, ih, List.filter_cons_of_pos c]
      rfl
    · rw [if_neg c, ih, List.filter_cons_of_neg c]
theorem compR_filter {α β : Type} {c : α → R Bool} {p : α → Bool} {f : α → R β} {g : α → β} {xs : List α} (hl : xs.length ≤ lim) (h : ∀ x ∈ xs, c x = .ok (p x)) (h2 : ∀ x ∈ xs, p x = true → f x = .ok (g x)) : compR xs c f = .ok ((xs.filter p).map g) := by
  unfold compR
  rw [gd_pos hl, compGo_filter h h2]
theorem inL_iff {α : Type} [DecidableEq α] {a : α} {l : List α} : inL a l = true ↔ a ∈ l := by unfold inL; simp
theorem inL_no {α : Type} [DecidableEq α] {a : α} {l : List α} (h : a ∉ l) : inL a l = false := by unfold inL; simp [h]
theorem inL_yes {α : Type} [DecidableEq α] {a : α} {l : List α} (h : a ∈ l) : inL a l = true := by unfold inL; simp [h]
theorem indexR_ok {α : Type} [DecidableEq α] {l : List α} {a : α} {j : Nat} (h : l[j]? = some a) (hn : ∀ i, i < j → l[i]? ≠ some a) : indexR l a = .ok (j : Int) := by
  unfold indexR
  have hj := (List.getElem?_eq_some_iff.mp h).1
  have : l.findIdx? (fun z => decide (z = a)) = some j := by
    rw [List.findIdx?_eq_some_iff_getElem]
    refine ⟨hj, ?_, fun i hi => ?_⟩
    · have := (List.getElem?_eq_some_iff.mp h).2
      simpa using this
    · have e := List.getElem?_eq_getElem (l := l) (i := i) (by omega)
      have := hn i hi
      rw [e] at this
      simpa using this
  rw [this]
theorem ok_whileR {S ρ : Type} {c : S → R Bool} {body : S → R (Fl S ρ)} (I : S → Prop) (μ : S → Nat) (Dn : S → Prop) (Rr : ρ → Prop) : ∀ (n : Nat) (s : S), I s → μ s < n → (∀ s, I s → Ok (c s) fun b => if b = true then Ok (body s) (FlP (fun s' => I s' ∧ μ s' < μ s) Dn Rr) else Dn s) → Ok (whileR c body n s) (FlP Dn (fun _ => False) Rr)
  | 0, s, _, h, _ => by omega
  | n + 1, s, hI, h, st => by
    obtain ⟨b, e, q⟩ := st s hI
    unfold whileR
    rw [e, bd_ok]
    cases b with
    | true =>
      rw [if_pos rfl] at q ⊢
      obtain ⟨f, e2, h2⟩ := q
      rw [e2, bd_ok]
      cases f with
      | go s' =>
        obtain ⟨h3, h4⟩ := h2
        exact ok_whileR I μ Dn Rr n s' h3 (by omega) st
      | brk s' => exact ⟨_, rfl, h2⟩
      | ret r => exact ⟨_, rfl, h2⟩
    | false =>
      rw [if_neg (by decide)] at q ⊢
      exact ⟨_, rfl, q⟩
theorem cut_init {α : Type} (l : List α) : cut l none (some (-1)) = l.dropLast := by
  unfold cut
  have : HT.sIx l.length l.length (some (-1)) = l.length - 1 := by
    show (if (-1 : Int) < 0 then ((-1 : Int) + (l.length : Int)).toNat else min (-1 : Int).toNat l.length) = _
    rw [if_pos (by decide)]
    omega
  rw [this, HT.sIx_none, List.drop_zero, Nat.sub_zero, List.dropLast_eq_take]
theorem cut_tail {α : Type} (l : List α) : cut l (some 1) none = l.drop 1 := by
  unfold cut
  rw [show (1 : Int) = ((1 : Nat) : Int) from rfl, HT.sIx_nat, HT.sIx_none]
  by_cases c : 1 ≤ l.length
  · rw [Nat.min_eq_left c, List.take_of_length_le (by simp)]
  · have : l = [] := List.eq_nil_of_length_eq_zero (by omega)
    rw [this]
    rfl
theorem nodup_lt : ∀ (N : Nat) (ns : List Nat), ns.Nodup → (∀ x ∈ ns, x < N) → ns.length ≤ N
  | 0, ns, _, h => by
    cases ns with
    | nil => simp
    | cons x l => exact absurd (h x List.mem_cons_self) (by omega)
  | N + 1, ns, hn, h => by
    by_cases c : N ∈ ns
    · have := nodup_lt N (ns.erase N) (hn.erase N) fun x hx => by
        obtain ⟨h1, h2⟩ := (List.Nodup.mem_erase_iff hn).mp hx
        have := h x h2
        omega
      rw [List.length_erase_of_mem c] at this
      omega
    · have := nodup_lt N ns hn fun x hx => by
        have h1 := h x hx
        have h2 : x ≠ N := fun z => c (z ▸ hx)
        omega
      omega
end G

set_option Elab.async false
set_option linter.all false
set_option maxRecDepth 100000
set_option maxHeartbeats 4000000
namespace G
open PySem L2
noncomputable section
def m_ask_line (line : List Int) : R Unit :=
  R.bd (.ok ((decide ((100 : Int) < (line.length : Int))) || (decide ((100 : Int) < line.sum)))) fun (b19 : Bool) => if b19 = true then
    (.er (.own .BadLine))
  else
    (R.bd (if (decide ((0 : Int) < (line.length : Int))) = true then R.bd (R.bd (minR line) fun (t7 : Int) => .ok (decide (t7 < (0 : Int)))) fun (t11 : Bool) => if t11 = true then .ok true else R.bd (R.bd (idx line (0 : Int)) fun (t8 : Int) => .ok (decide (t8 = (0 : Int)))) fun (t10 : Bool) => if t10 = true then .ok true else R.bd (idx line (-(1 : Int))) fun (t9 : Int) => .ok (decide (t9 = (0 : Int))) else .ok false) fun (b18 : Bool) => if b18 = true then
    (.er (.own .BadLine))
  else
    (.ok ()))

def m_without_end (line : List Int) : R (List Int) :=
  R.bd (whileS (fun (line : (List Int)) => if (decide ((0 : Int) < (line.length : Int))) = true then R.bd (idx line (-(1 : Int))) fun (t10 : Int) => .ok (decide (t10 = (0 : Int))) else .ok false) (fun (line : (List Int)) =>
    R.bd (.ok (cut line none (some (-(1 : Int))))) fun (line : List Int) =>
  .ok line) fuel line) fun (line : (List Int)) =>
  R.bd (.ok line) fun (r : List Int) => .ok r

def m_ahead_of (line : List Int) : R (Apt (List (List Int))) :=
  R.bd (m_ask_line line) fun (_ : Unit) =>
  R.bd (.ok (decide ((line.length : Int) = (0 : Int)))) fun (b124 : Bool) => if b124 = true then
    (R.bd (.ok (Apt.mk [([] : List Int)])) fun (r : Apt (List (List Int))) => .ok r)
  else
    (R.bd (gd (([] : List (List Int)).length ≤ lim) (.ok ([] : List (List Int)))) fun (found : List (List Int)) =>
  R.bd (rng2 (1 : Int) ((line.length : Int) + (1 : Int))) fun (t122 : List Int) => R.bd (forR (ρ := (Apt (List (List Int)))) (fun (first : Int) (found : (List (List Int))) => 
    R.bd (R.bd (idx line (first - (1 : Int))) fun (t58 : Int) => .ok (decide (t58 = (0 : Int)))) fun (b121 : Bool) => if b121 = true then
    (.ok (.brk found))
  else
    (R.bd (R.bd (R.bd (compR (cut line none (some first)) (fun (seeds : Int) => .ok true) (fun (seeds : Int) => .ok (seeds - (1 : Int)))) fun (t86 : List Int) => gd ([first].length + t86.length ≤ lim) (.ok ([first] ++ t86))) fun (t87 : List Int) => gd (t87.length + (cut line (some first) none).length ≤ lim) (.ok (t87 ++ (cut line (some first) none)))) fun (other : List Int) =>
  R.bd (m_without_end other) fun (other : List Int) =>
  R.bd (.ok (decide ((other.length : Int) ≤ (100 : Int)))) fun (b120 : Bool) => if b120 = true then
    (R.bd (appR found other) fun (found : List (List Int)) =>
  .ok (.go found))
  else
    (.ok (.go found)))) t122 found) (flk (fun (found : (List (List Int))) =>
  R.bd (.ok (Apt.mk found)) fun (r : Apt (List (List Int))) => .ok r) fun r => .ok r))

def m__law_numbers (script : Scr) (many : Int) : R (List Int) :=
  R.bd (.ok ([] : List Int)) fun (found : List Int) =>
  R.bd (.ok (1 : Int)) fun (step : Int) =>
  R.bd (R.bd (.ok (decide ((0 : Int) < (script.l.length : Int)))) fun (b123 : Bool) => if b123 = true then
    (R.bd (R.bd (R.bd (idx script.l (0 : Int)) fun (t33 : Int) => .ok (t33 % (2147483646 : Int))) fun (t34 : Int) => .ok ((1 : Int) + t34)) fun (step : Int) =>
  .ok step)
  else
    (.ok step)) fun (step : Int) =>
  R.bd (rng1 many) fun (t121 : List Int) => R.bd (forS (fun (k : Int) ((step, found) : Int × (List Int)) => 
    R.bd (.ok ((step * (48271 : Int)) % (2147483647 : Int))) fun (step : Int) =>
  R.bd (appR found ((step / (16 : Int)) % (1000000 : Int))) fun (found : List Int) =>
  .ok (step, found)) t121 (step, found)) fun ((step, found) : Int × (List Int)) =>
  R.bd (rng1 (script.l.length : Int)) fun (t119 : List Int) => R.bd (forS (fun (k : Int) (found : (List Int)) => 
    R.bd (R.bd (R.bd (R.bd (R.bd (modR k many) fun (t108 : Int) => idx found t108) fun (t109 : Int) => R.bd (idx script.l k) fun (t110 : Int) => .ok (t109 + t110)) fun (t111 : Int) => .ok (t111 % (1000000 : Int))) fun (t112 : Int) => R.bd (modR k many) fun (t113 : Int) => setR found t113 t112) fun (found : List Int) =>
  .ok found) t119 found) fun (found : (List Int)) =>
  R.bd (.ok found) fun (r : List Int) => .ok r

def m__law_line (numbers : List Int) : R (List Int) :=
  R.bd (R.bd (idx numbers (1 : Int)) fun (t5 : Int) => .ok (t5 % (4 : Int))) fun (way : Int) =>
  R.bd (R.bd (idx numbers (0 : Int)) fun (t13 : Int) => .ok (t13 % (13 : Int))) fun (many : Int) =>
  R.bd (if (decide (way = (3 : Int))) = true then R.bd (R.bd (idx numbers (2 : Int)) fun (t17 : Int) => .ok (t17 % (4 : Int))) fun (t18 : Int) => .ok (decide (t18 = (1 : Int))) else .ok false) fun (b226 : Bool) => if b226 = true then
    (R.bd (R.bd (R.bd (R.bd (idx numbers (3 : Int)) fun (t25 : Int) => .ok (t25 % (13 : Int))) fun (t26 : Int) => .ok ((88 : Int) + t26)) fun (t27 : Int) => repR [(1 : Int)] t27) fun (r : List Int) => .ok r)
  else
    (R.bd (if (decide (way = (3 : Int))) = true then R.bd (R.bd (idx numbers (2 : Int)) fun (t28 : Int) => .ok (t28 % (4 : Int))) fun (t29 : Int) => .ok (decide (t29 = (2 : Int))) else .ok false) fun (b225 : Bool) => if b225 = true then
    (R.bd (R.bd (R.bd (R.bd (R.bd (idx numbers (3 : Int)) fun (t36 : Int) => .ok (t36 % (40 : Int))) fun (t37 : Int) => .ok ((100 : Int) - t37)) fun (t38 : Int) => .ok (t38 :: ([] : List Int))) fun (t39 : List Int) => gd (t39.length ≤ lim) (.ok t39)) fun (r : List Int) => .ok r)
  else
    (R.bd (if (decide (way = (3 : Int))) = true then R.bd (R.bd (idx numbers (2 : Int)) fun (t40 : Int) => .ok (t40 % (4 : Int))) fun (t41 : Int) => .ok (decide (t41 = (3 : Int))) else .ok false) fun (b224 : Bool) => if b224 = true then
    (R.bd (R.bd (R.bd (R.bd (idx numbers (3 : Int)) fun (t55 : Int) => .ok (t55 % (41 : Int))) fun (t56 : Int) => .ok ((60 : Int) + t56)) fun (t57 : Int) => repR [(0 : Int)] t57) fun (line : List Int) =>
  R.bd (R.bd (R.bd (R.bd (idx numbers (4 : Int)) fun (t59 : Int) => .ok (t59 % (3 : Int))) fun (t60 : Int) => .ok ((1 : Int) + t60)) fun (t61 : Int) => setR line (0 : Int) t61) fun (line : List Int) =>
  R.bd (R.bd (R.bd (R.bd (idx numbers (5 : Int)) fun (t67 : Int) => .ok (t67 % (3 : Int))) fun (t68 : Int) => .ok ((1 : Int) + t68)) fun (t69 : Int) => setR line (-(1 : Int)) t69) fun (line : List Int) =>
  R.bd (R.bd (R.bd (idx numbers (6 : Int)) fun (t79 : Int) => modR t79 (line.length : Int)) fun (t81 : Int) => R.bd (idx line t81) fun (t82 : Int) => R.bd (R.bd (idx numbers (7 : Int)) fun (t80 : Int) => .ok (t80 % (30 : Int))) fun (t83 : Int) => setR line t81 (t82 + t83)) fun (line : List Int) =>
  R.bd (.ok line) fun (r : List Int) => .ok r)
  else
    (R.bd (.ok (decide (way = (2 : Int)))) fun (b223 : Bool) => if b223 = true then
    (R.bd (R.bd (rng1 (many + (1 : Int))) fun (t105 : List Int) => compR t105 (fun (place : Int) => .ok true) (fun (place : Int) => R.bd (R.bd (idx numbers ((8 : Int) + place)) fun (t103 : Int) => .ok (t103 / (3 : Int))) fun (t104 : Int) => .ok (t104 % (2 : Int)))) fun (more : List Int) =>
  R.bd (R.bd (rng1 (many + (1 : Int))) fun (t125 : List Int) => compR t125 (fun (place : Int) => .ok true) (fun (place : Int) => R.bd (idx more place) fun (t124 : Int) => .ok ((many - place) + t124))) fun (line : List Int) =>
  R.bd (whileS (fun (line : (List Int)) => if (decide ((0 : Int) < (line.length : Int))) = true then R.bd (idx line (-(1 : Int))) fun (t135 : Int) => .ok (decide (t135 = (0 : Int))) else .ok false) (fun (line : (List Int)) =>
    R.bd (popR line) fun (line : List Int) =>
  .ok line) fuel line) fun (line : (List Int)) =>
  R.bd (.ok line) fun (r : List Int) => .ok r)
  else
    (R.bd (R.bd (rng1 many) fun (t166 : List Int) => compR t166 (fun (place : Int) => .ok true) (fun (place : Int) => R.bd (R.bd (idx numbers ((8 : Int) + place)) fun (t164 : Int) => .ok (t164 / (3 : Int))) fun (t165 : Int) => .ok (t165 % (5 : Int)))) fun (line : List Int) =>
  R.bd (R.bd (.ok (decide ((0 : Int) < many))) fun (b222 : Bool) => if b222 = true then
    (R.bd (R.bd (R.bd (idx line (0 : Int)) fun (t182 : Int) => .ok ((1 : Int) + t182)) fun (t183 : Int) => setR line (0 : Int) t183) fun (line : List Int) =>
  R.bd (R.bd (R.bd (R.bd (idx numbers (7 : Int)) fun (t189 : Int) => .ok (t189 % (4 : Int))) fun (t190 : Int) => .ok ((1 : Int) + t190)) fun (t191 : Int) => setR line (-(1 : Int)) t191) fun (line : List Int) =>
  .ok line)
  else
    (.ok line)) fun (line : (List Int)) =>
  R.bd (R.bd (.ok ((decide (way = (1 : Int))) && (decide ((0 : Int) < many)))) fun (b221 : Bool) => if b221 = true then
    (R.bd (R.bd (R.bd (idx numbers (2 : Int)) fun (t215 : Int) => modR t215 many) fun (t217 : Int) => R.bd (idx line t217) fun (t218 : Int) => R.bd (R.bd (idx numbers (3 : Int)) fun (t216 : Int) => .ok (t216 % (40 : Int))) fun (t219 : Int) => setR line t217 (t218 + t219)) fun (line : List Int) =>
  .ok line)
  else
    (.ok line)) fun (line : (List Int)) =>
  R.bd (.ok line) fun (r : List Int) => .ok r))))

def m__law_march (line : List Int) : R (List Int) :=
  R.bd (.ok (decide (line = ([] : List Int)))) fun (b74 : Bool) => if b74 = true then
    (R.bd (.ok ([] : List Int)) fun (r : List Int) => .ok r)
  else
    (R.bd (.ok (cut line (some (1 : Int)) none)) fun (rest : List Int) =>
  R.bd (R.bd (idx line (0 : Int)) fun (t15 : Int) => rng1 t15) fun (t72 : List Int) => R.bd (forS (fun (place : Int) (rest : (List Int)) => 
    R.bd (R.bd (.ok (decide (place = (rest.length : Int)))) fun (b71 : Bool) => if b71 = true then
    (R.bd (appR rest (0 : Int)) fun (rest : List Int) =>
  .ok rest)
  else
    (.ok rest)) fun (rest : (List Int)) =>
  R.bd (R.bd (R.bd (idx rest place) fun (t64 : Int) => .ok (t64 + (1 : Int))) fun (t65 : Int) => setR rest place t65) fun (rest : List Int) =>
  .ok rest) t72 rest) fun (rest : (List Int)) =>
  R.bd (.ok rest) fun (r : List Int) => .ok r)

def m__law_whole_number (found : Int) : R Bool :=
  R.bd (.ok (true && (!false))) fun (r : Bool) => .ok r

def m__law_is_line (found : List Int) : R Bool :=
  R.bd (.ok ((!true) || (decide ((100 : Int) < (found.length : Int))))) fun (b49 : Bool) => if b49 = true then
    (R.bd (.ok false) fun (r : Bool) => .ok r)
  else
    (R.bd (.ok found) fun (t47 : List Int) => R.bd (forR (ρ := Bool) (fun (seeds : Int) (_ : Unit) => 
    R.bd (R.bd (R.bd (m__law_whole_number seeds) fun (t35 : Bool) => .ok (!t35)) fun (t36 : Bool) => .ok (t36 || (decide (seeds < (0 : Int))))) fun (b43 : Bool) => if b43 = true then
    (R.bd (.ok false) fun (r : Bool) => .ok (.ret r))
  else
    (.ok (.go ()))) t47 ()) (flk (fun (_ : Unit) =>
  R.bd (if (decide (found = ([] : List Int))) = true then .ok true else R.bd (R.bd (idx found (0 : Int)) fun (t44 : Int) => .ok (decide ((0 : Int) < t44))) fun (t46 : Bool) => if t46 = true then R.bd (idx found (-(1 : Int))) fun (t45 : Int) => .ok (decide ((0 : Int) < t45)) else .ok false) fun (r : Bool) => .ok r) fun r => .ok r))

def m__law_count (line : List Int) : R Int :=
  R.bd (.ok (0 : Int)) fun (count : Int) =>
  R.bd (whileS (fun (count : Int) => if (decide (count < (line.length : Int))) = true then R.bd (idx line count) fun (t15 : Int) => .ok (decide ((0 : Int) < t15)) else .ok false) (fun (count : Int) =>
    R.bd (.ok (count + (1 : Int))) fun (count : Int) =>
  .ok count) fuel count) fun (count : Int) =>
  R.bd (.ok (decide ((line.length : Int) = (100 : Int)))) fun (b40 : Bool) => if b40 = true then
    (R.bd (R.bd (R.bd (R.bd (minR line) fun (t36 : Int) => .ok (decide ((0 : Int) < t36))) fun (t38 : Bool) => if t38 = true then R.bd (maxR line) fun (t37 : Int) => .ok (decide (t37 = (1 : Int))) else .ok false) fun (t39 : Bool) => .ok (if t39 = true then (1 : Int) else 0)) fun (r : Int) => .ok r)
  else
    (R.bd (.ok count) fun (r : Int) => .ok r)

def m__law_right (line : List Int) (found : List (List Int)) : R Bool :=
  R.bd (.ok (!true)) fun (b72 : Bool) => if b72 = true then
    (R.bd (.ok false) fun (r : Bool) => .ok r)
  else
    (R.bd (.ok (decide (line = ([] : List Int)))) fun (b71 : Bool) => if b71 = true then
    (R.bd (.ok (decide (found = [([] : List Int)]))) fun (r : Bool) => .ok r)
  else
    (R.bd (.ok (0 : Int)) fun (last : Int) =>
  R.bd (.ok found) fun (t69 : List (List Int)) => R.bd (forR (ρ := Bool) (fun (other : List Int) (last : Int) => 
    R.bd (R.bd (R.bd (m__law_is_line other) fun (t49 : Bool) => .ok (!t49)) fun (t53 : Bool) => if t53 = true then .ok true else if (decide (other = ([] : List Int))) = true then .ok true else R.bd (R.bd (idx other (0 : Int)) fun (t50 : Int) => .ok (decide (t50 ≤ last))) fun (t52 : Bool) => if t52 = true then .ok true else R.bd (m__law_march other) fun (t51 : List Int) => .ok (!decide (t51 = line))) fun (b67 : Bool) => if b67 = true then
    (R.bd (.ok false) fun (r : Bool) => .ok (.ret r))
  else
    (R.bd (idx other (0 : Int)) fun (last : Int) =>
  .ok (.go last))) t69 last) (flk (fun (last : Int) =>
  R.bd (R.bd (m__law_count line) fun (t68 : Int) => .ok (decide ((found.length : Int) = t68))) fun (r : Bool) => .ok r) fun r => .ok r)))

def m__law_apart (found : List (List Int)) (kept : List (List Int)) : R Bool :=
  R.bd (rng1 (kept.length : Int)) fun (t65 : List Int) => R.bd (forR (ρ := Bool) (fun (k : Int) (found : (List (List Int))) => 
    R.bd (R.bd (idx found k) fun (t30 : List Int) => R.bd (idx kept k) fun (t31 : List Int) => .ok (!decide (t30 = t31))) fun (b54 : Bool) => if b54 = true then
    (R.bd (.ok false) fun (r : Bool) => .ok (.ret r))
  else
    (R.bd (R.bd (idx found k) fun (x48 : List Int) => R.bd (R.bd (.ok (1 : Int)) fun (e : Int) => appR x48 e) fun (y46 : List Int) => R.bd (setR found k y46) fun (l51 : List (List Int)) => .ok l51) fun (foundN : List (List Int)) =>
  .ok (.go foundN))) t65 found) (flk (fun (found : (List (List Int))) =>
  R.bd (R.bd (.ok [(1 : Int)]) fun (_ : List Int) => gd (found.length < lim) (.ok ())) fun (_ : Unit) =>
  R.bd (.ok true) fun (r : Bool) => .ok r) fun r => .ok r)

def m_law (script : Scr) : R Bool :=
  R.bd (m__law_numbers script (63 : Int)) fun (numbers : List Int) =>
  R.bd (m__law_line numbers) fun (line : List Int) =>
  R.bd (m__law_march line) fun (behind_it : List Int) =>
  R.bd (R.bd (R.bd (R.bd (idx numbers (5 : Int)) fun (t22 : Int) => .ok (t22 % (2 : Int))) fun (t23 : Int) => .ok (decide (t23 = (1 : Int)))) fun (b167 : Bool) => if b167 = true then
    (R.bd (m__law_march behind_it) fun (line : List Int) =>
  R.bd (m__law_march line) fun (behind_it : List Int) =>
  .ok (line, behind_it))
  else
    (.ok (line, behind_it))) fun ((line, behind_it) : (List Int) × (List Int)) =>
  R.bd (.ok [line, behind_it]) fun (t165 : List (List Int)) => R.bd (forR (ρ := Bool) (fun (one : List Int) (_ : Unit) => 
    R.bd (.ok one) fun (handed : List Int) =>
  R.bd (R.bd (m_ahead_of handed) fun a164 => .ok a164.l) fun (found : List (List Int)) =>
  R.bd (if (!decide (handed = one)) = true then .ok true else R.bd (m__law_right one found) fun (t110 : Bool) => .ok (!t110)) fun (b163 : Bool) => if b163 = true then
    (R.bd (.ok false) fun (r : Bool) => .ok (.ret r))
  else
    (R.bd (compR found (fun (other : List Int) => .ok true) (fun (other : List Int) => .ok other)) fun (kept : List (List Int)) =>
  R.bd (.ok ((decide (one = behind_it)) && (!inL line kept))) fun (b162 : Bool) => if b162 = true then
    (R.bd (.ok false) fun (r : Bool) => .ok (.ret r))
  else
    (R.bd (R.bd (m__law_apart found kept) fun r => .ok (r, ())) fun ((b143, _) : Bool × Unit) => if b143 = true then
    (R.bd (R.bd (R.bd (m_ahead_of handed) fun a146 => .ok a146.l) fun (t147 : List (List Int)) => .ok (!decide (t147 = kept))) fun (b152 : Bool) => if b152 = true then
    (R.bd (.ok false) fun (r : Bool) => .ok (.ret r))
  else
    (R.bd (.ok (!decide (handed = one))) fun (b159 : Bool) => if b159 = true then
    (R.bd (.ok false) fun (r : Bool) => .ok (.ret r))
  else
    (.ok (.go ()))))
  else
    (R.bd (.ok false) fun (r : Bool) => .ok (.ret r))))) t165 ()) (flk (fun (_ : Unit) =>
  R.bd (.ok true) fun (r : Bool) => .ok r) fun r => .ok r)
end
end G

set_option Elab.async false
set_option linter.all false
set_option maxRecDepth 100000
set_option maxHeartbeats 4000000
namespace G
open PySem PySem.Spec PyProof.Rows L2
def top (i : Nat) : Stmt := PySem.Challenge.pw_sowring_k35_lines_ahead.main.body.getD i (.Pass ⟨0, 0, 0, 0⟩)
abbrev s_ask_line : Stmt := top 6
def d_ask_line : He.DefD := ⟨("ask_line", none), "ask_line", "ask_line", defArgs s_ask_line, defBody s_ask_line, defScope s_ask_line, [], []⟩
abbrev s_without_end : Stmt := top 7
def d_without_end : He.DefD := ⟨("without_end", none), "without_end", "without_end", defArgs s_without_end, defBody s_without_end, defScope s_without_end, [], []⟩
abbrev s_ahead_of : Stmt := top 8
def d_ahead_of : He.DefD := ⟨("ahead_of", none), "ahead_of", "ahead_of", defArgs s_ahead_of, defBody s_ahead_of, defScope s_ahead_of, [], []⟩
abbrev s__law_numbers : Stmt := top 10
def d__law_numbers : He.DefD := ⟨("_law_numbers", none), "_law_numbers", "_law_numbers", defArgs s__law_numbers, defBody s__law_numbers, defScope s__law_numbers, [], []⟩
abbrev s__law_line : Stmt := top 11
def d__law_line : He.DefD := ⟨("_law_line", none), "_law_line", "_law_line", defArgs s__law_line, defBody s__law_line, defScope s__law_line, [], []⟩
abbrev s__law_march : Stmt := top 12
def d__law_march : He.DefD := ⟨("_law_march", none), "_law_march", "_law_march", defArgs s__law_march, defBody s__law_march, defScope s__law_march, [], []⟩
abbrev s__law_whole_number : Stmt := top 13
def d__law_whole_number : He.DefD := ⟨("_law_whole_number", none), "_law_whole_number", "_law_whole_number", defArgs s__law_whole_number, defBody s__law_whole_number, defScope s__law_whole_number, [], []⟩
abbrev s__law_is_line : Stmt := top 14
def d__law_is_line : He.DefD := ⟨("_law_is_line", none), "_law_is_line", "_law_is_line", defArgs s__law_is_line, defBody s__law_is_line, defScope s__law_is_line, [], []⟩
abbrev s__law_count : Stmt := top 15
def d__law_count : He.DefD := ⟨("_law_count", none), "_law_count", "_law_count", defArgs s__law_count, defBody s__law_count, defScope s__law_count, [], []⟩
abbrev s__law_right : Stmt := top 16
def d__law_right : He.DefD := ⟨("_law_right", none), "_law_right", "_law_right", defArgs s__law_right, defBody s__law_right, defScope s__law_right, [], []⟩
abbrev s__law_apart : Stmt := top 17
def d__law_apart : He.DefD := ⟨("_law_apart", none), "_law_apart", "_law_apart", defArgs s__law_apart, defBody s__law_apart, defScope s__law_apart, [], []⟩
abbrev s_law : Stmt := top 18
def d_law : He.DefD := ⟨("law", none), "law", "law", defArgs s_law, defBody s_law, defScope s_law, [], []⟩
abbrev s_cSowError : Stmt := inClass (top 2) 0
def d_cSowError : He.DefD := ⟨("SowError", some "called"), "called", "SowError.called", defArgs s_cSowError, defBody s_cSowError, defScope s_cSowError, [], []⟩
abbrev s_cBadLine : Stmt := inClass (top 3) 0
def d_cBadLine : He.DefD := ⟨("BadLine", some "called"), "called", "BadLine.called", defArgs s_cBadLine, defBody s_cBadLine, defScope s_cBadLine, [], []⟩
def fn : List He.DefD := [d_ask_line, d_without_end, d_ahead_of, d__law_numbers, d__law_line, d__law_march, d__law_whole_number, d__law_is_line, d__law_count, d__law_right, d__law_apart, d_law]
def fa : List He.Fa := [.glo "ask_line", .glo "without_end", .glo "ahead_of", .glo "_law_numbers", .glo "_law_line", .glo "_law_march", .glo "_law_whole_number", .glo "_law_is_line", .glo "_law_count", .glo "_law_right", .glo "_law_apart", .glo "law", .free "bool", .free "int", .free "isinstance", .free "len", .free "list", .free "max", .free "min", .free "range", .free "sum", .int "MOST_OF_LINE" (100), .glo "SowError", .exc "SowError", .glo "BadLine", .exc "BadLine"]
def bx (K : PySem.W.Frag) : Bool := ([.SowError, .BadLine] : List Cn).all (fun c => cfB K c)
/-- what the top has written -/
structure Hd (K : PySem.W.Frag) (mg : Str → Option Value) : Prop where
  g_ask_line : mg "ask_line" = some (.ref (He.ga K "ask_line"))
  g_without_end : mg "without_end" = some (.ref (He.ga K "without_end"))
  g_ahead_of : mg "ahead_of" = some (.ref (He.ga K "ahead_of"))
  g__law_numbers : mg "_law_numbers" = some (.ref (He.ga K "_law_numbers"))
  g__law_line : mg "_law_line" = some (.ref (He.ga K "_law_line"))
  g__law_march : mg "_law_march" = some (.ref (He.ga K "_law_march"))
  g__law_whole_number : mg "_law_whole_number" = some (.ref (He.ga K "_law_whole_number"))
  g__law_is_line : mg "_law_is_line" = some (.ref (He.ga K "_law_is_line"))
  g__law_count : mg "_law_count" = some (.ref (He.ga K "_law_count"))
  g__law_right : mg "_law_right" = some (.ref (He.ga K "_law_right"))
  g__law_apart : mg "_law_apart" = some (.ref (He.ga K "_law_apart"))
  g_law : mg "law" = some (.ref (He.ga K "law"))
  d_ask_line : ∃ fd, FunD K "ask_line" "ask_line" (defArgs s_ask_line) (defBody s_ask_line) (defScope s_ask_line) [] [] (He.ga K "ask_line") fd
  d_without_end : ∃ fd, FunD K "without_end" "without_end" (defArgs s_without_end) (defBody s_without_end) (defScope s_without_end) [] [] (He.ga K "without_end") fd
  d_ahead_of : ∃ fd, FunD K "ahead_of" "ahead_of" (defArgs s_ahead_of) (defBody s_ahead_of) (defScope s_ahead_of) [] [] (He.ga K "ahead_of") fd
  d__law_numbers : ∃ fd, FunD K "_law_numbers" "_law_numbers" (defArgs s__law_numbers) (defBody s__law_numbers) (defScope s__law_numbers) [] [] (He.ga K "_law_numbers") fd
  d__law_line : ∃ fd, FunD K "_law_line" "_law_line" (defArgs s__law_line) (defBody s__law_line) (defScope s__law_line) [] [] (He.ga K "_law_line") fd
  d__law_march : ∃ fd, FunD K "_law_march" "_law_march" (defArgs s__law_march) (defBody s__law_march) (defScope s__law_march) [] [] (He.ga K "_law_march") fd
  d__law_whole_number : ∃ fd, FunD K "_law_whole_number" "_law_whole_number" (defArgs s__law_whole_number) (defBody s__law_whole_number) (defScope s__law_whole_number) [] [] (He.ga K "_law_whole_number") fd
  d__law_is_line : ∃ fd, FunD K "_law_is_line" "_law_is_line" (defArgs s__law_is_line) (defBody s__law_is_line) (defScope s__law_is_line) [] [] (He.ga K "_law_is_line") fd
  d__law_count : ∃ fd, FunD K "_law_count" "_law_count" (defArgs s__law_count) (defBody s__law_count) (defScope s__law_count) [] [] (He.ga K "_law_count") fd
  d__law_right : ∃ fd, FunD K "_law_right" "_law_right" (defArgs s__law_right) (defBody s__law_right) (defScope s__law_right) [] [] (He.ga K "_law_right") fd
  d__law_apart : ∃ fd, FunD K "_law_apart" "_law_apart" (defArgs s__law_apart) (defBody s__law_apart) (defScope s__law_apart) [] [] (He.ga K "_law_apart") fd
  d_law : ∃ fd, FunD K "law" "law" (defArgs s_law) (defBody s_law) (defScope s_law) [] [] (He.ga K "law") fd
  f_bool : mg "bool" = none
  f_int : mg "int" = none
  f_isinstance : mg "isinstance" = none
  f_len : mg "len" = none
  f_list : mg "list" = none
  f_max : mg "max" = none
  f_min : mg "min" = none
  f_range : mg "range" = none
  f_sum : mg "sum" = none
  c_MOST_OF_LINE : ∃ t, mg "MOST_OF_LINE" = some (.int (100) t)
  g_SowError : mg "SowError" = some (.ref (He.ga K "SowError"))
  k_SowError : knB K .SowError = true
  x_SowError : PySem.W.excIn K (He.ga K "SowError") He.veBase "ValueError.__new__" = true ∧ PySem.W.keepIn K (.ref (He.ga K "SowError")) = true ∧ PySem.W.subIn K (.ref (He.ga K "SowError")) (.type "BaseException") = some true ∧ PySem.W.typeIn K (.ref (He.ga K "SowError")) = some (.type "type")
  g_BadLine : mg "BadLine" = some (.ref (He.ga K "BadLine"))
  k_BadLine : knB K .BadLine = true
  x_BadLine : PySem.W.excIn K (He.ga K "BadLine") He.veBase "ValueError.__new__" = true ∧ PySem.W.keepIn K (.ref (He.ga K "BadLine")) = true ∧ PySem.W.subIn K (.ref (He.ga K "BadLine")) (.type "BaseException") = some true ∧ PySem.W.typeIn K (.ref (He.ga K "BadLine")) = some (.type "type")
  cfs : ∀ c ∈ ([.SowError, .BadLine] : List Cn), Cf K c
  cf_SowError : Cf K .SowError
  cf_BadLine : Cf K .BadLine
section
variable {P : Program} {w : World} {K : PySem.W.Frag} {mg : Str → Option Value} {base : Heap}
abbrev N_ask_line : List Str := ["line"]
theorem sc_ask_line : FnScope N_ask_line ["line"] (defScope s_ask_line) := ⟨rfl, rfl, rfl, by decide +kernel, rfl, by decide +kernel, by decide +kernel⟩
theorem ok_ask_line (T : Hd K mg) : ∃ fd, PySem.W.keepIn K (.ref (He.ga K "ask_line")) = true ∧ Binds K fd ["line"] [] ∧ FnOk P w K mg base (L2.CX P w) 1 (He.ga K "ask_line") fd ["line"] (sp1 K m_ask_line) := by
  obtain ⟨fd, F⟩ := T.d_ask_line
  obtain ⟨t_MOST_OF_LINE, c_MOST_OF_LINE⟩ := T.c_MOST_OF_LINE
  refine ⟨fd, F.kp, F.bindsN fun _ _ _ _ _ _ us hl => match us, hl with | [_], _ => rfl, ?_⟩
  refine F.ok sc_ask_line (fun vs H Q E h => ?_) (fun cdv A outer s H vs Q E hr h => ?_)
  · obtain ⟨v_line, line, rfl, r_line, hQ⟩ := h
    rfl
  · obtain ⟨v_line, line, rfl, r_line, hQ⟩ := h
    have tk : Takes (cxOf (L2.CX P w) P w K mg base N_ask_line "ask_line" (defScope s_ask_line) (He.ga K "ask_line") cdv A outer s H E) (fun cls d _ H => E cls d H) := takes_of rfl rfl rfl rfl
    refine ⟨_, (by exact (pss_cons (ps_if (PW.pt (pw_or (pt_cmpR op_gt (pe_callB call_len_seq rfl T.f_len PySem.boot_len (pa_cons (pv 0) pa_nil)) (pe_glob (v := .int (100)) rfl c_MOST_OF_LINE ⟨_, rfl⟩) (nomark _)) (pw_or1 (pt_cmpR op_gt (pe_callB (cr_sum rfl) rfl T.f_sum (by decide +kernel) (pa_cons (pv 0) pa_nil)) (pe_glob (v := .int (100)) rfl c_MOST_OF_LINE ⟨_, rfl⟩) (nomark _))))) (pss_one (ps_raise rfl tk (pmk_own PySem.F.excBase_ValueError T.x_BadLine.1 T.g_BadLine T.x_BadLine.2.1 (raises_own T.x_BadLine.2.2.1 T.x_BadLine.2.2.2) (by exact rfl)))) pss_nil)
          (pss_one (ps_if (PW.pt (pw_and (pt_cmpR op_gt (pe_callB call_len_seq rfl T.f_len PySem.boot_len (pa_cons (pv 0) pa_nil)) pe_int (nomark _)) (pw_and1 (PW.pt (pw_or (pt_cmpR op_lt (pe_callB (cr_min rfl) rfl T.f_min (by decide +kernel) (pa_cons (pv 0) pa_nil)) pe_int (nomark _)) (pw_or (pt_cmpR op_eq (pe_ix ix_list (pv 0) pe_int (fun _ _ => rfl)) pe_int (nomark _)) (pw_or1 (pt_cmpR op_eq (pe_ix ix_list (pv 0) (pe_un un_neg pe_int) (fun _ _ => rfl)) pe_int (nomark _))))))))) (pss_one (ps_raise rfl tk (pmk_own PySem.F.excBase_ValueError T.x_BadLine.1 T.g_BadLine T.x_BadLine.2.1 (raises_own T.x_BadLine.2.2.1 T.x_BadLine.2.2.2) (by exact rfl)))) pss_nil)))), ?_⟩
    unfold m_ask_line at hQ
    first | with_reducible refine st_n ?_ | skip
    refine st_seq ?_
    refine s_if ?_ (Same.refl _) (Same.refl _) hQ ?_ ?_
    · exact (t_orP (t_test (F := H) (g_b0 (g_len (g_var (a := line) (Rp.mono (Same.refl _) r_line) (Same.refl _)) (Same.refl _)) g_int)) (t_test (F := H) (g_b0 (g_sum (g_var (a := line) (Rp.mono (Same.refl _) r_line) (Same.refl _)) (Same.refl _)) g_int)))
    · intro F2 H3 nx1 e04 hQ
      replace hQ := if_t hQ
      replace r_line := Rp.mono nx1.ff r_line
      have hF5 := nx1.fh
      first | with_reducible refine st_n ?_ | skip
      exact raise_of (c := .BadLine) hQ e04
    intro F2 H3 nx1 e04 hQ
    replace hQ := if_f hQ
    refine st_next ?_
    replace r_line := Rp.mono nx1.ff r_line
    have hF6 := nx1.fh
    first | with_reducible refine st_n ?_ | skip
    refine s_if ?_ hF6 e04 hQ ?_ ?_
    · exact (t_and (t_test (F := H3) (g_b0 (g_len (g_var (a := line) (Rp.mono hF6 r_line) (Same.refl _)) (Same.refl _)) g_int)) (t_or (t_test (F := H3) (g_b0 (g_min (g_var (a := line) (Rp.mono hF6 r_line) (Same.refl _)) (Same.refl _)) g_int)) (t_or (t_test (F := H3) (g_eq (g_idx (g_var (a := line) (Rp.mono hF6 r_line) (Same.refl _)) g_int (Same.refl _)) g_int)) (t_test (F := H3) (g_eq (g_idx (g_var (a := line) (Rp.mono hF6 r_line) (Same.refl _)) (g_neg g_int) (Same.refl _)) g_int)))))
    · intro F13 H14 nx12 e015 hQ
      replace hQ := if_t hQ
      replace r_line := Rp.mono nx12.ff r_line
      have hF16 := nx12.fh
      first | with_reducible refine st_n ?_ | skip
      exact raise_of (c := .BadLine) hQ e015
    intro F13 H14 nx12 e015 hQ
    replace hQ := if_f hQ
    refine st_next ?_
    replace r_line := Rp.mono nx12.ff r_line
    have hF17 := nx12.fh
    exact hQ V.non H14 e015 rfl

abbrev N_without_end : List Str := ["line"]
theorem sc_without_end : FnScope N_without_end ["line"] (defScope s_without_end) := ⟨rfl, rfl, rfl, by decide +kernel, rfl, by decide +kernel, by decide +kernel⟩
theorem ok_without_end (T : Hd K mg) : ∃ fd, PySem.W.keepIn K (.ref (He.ga K "without_end")) = true ∧ Binds K fd ["line"] [] ∧ FnOk P w K mg base (L2.CX P w) 1 (He.ga K "without_end") fd ["line"] (spS1 K m_without_end) := by
  obtain ⟨fd, F⟩ := T.d_without_end
  refine ⟨fd, F.kp, F.bindsN fun _ _ _ _ _ _ us hl => match us, hl with | [_], _ => rfl, ?_⟩
  refine F.ok sc_without_end (fun vs H Q E h => ?_) (fun cdv A outer s H vs Q E hr h => ?_)
  · obtain ⟨v_line, line, Gz, rfl, hG, r_line, hQ⟩ := h
    rfl
  · obtain ⟨v_line, line, Gz, rfl, hG, r_line, hQ⟩ := h
    have tk : Takes (cxOf (L2.CX P w) P w K mg base N_without_end "without_end" (defScope s_without_end) (He.ga K "without_end") cdv A outer s H E) (fun cls d _ H => E cls d H) := takes_of rfl rfl rfl rfl
    refine ⟨_, (by exact (pss_cons (ps_while (passes_of rfl) (PW.pt (pw_and (pt_cmpR op_gt (pe_callB call_len_seq rfl T.f_len PySem.boot_len (pa_cons (pv 0) pa_nil)) pe_int (nomark _)) (pw_and1 (pt_cmpR op_eq (pe_ix ix_list (pv 0) (pe_un un_neg pe_int) (fun _ _ => rfl)) pe_int (nomark _))))) (pss_one (ps_set (i := 0) sc_without_end.nd rfl (Or.inl rfl) (pe_slice sl_list (pv 0) po_none (po_some (pe_un un_neg pe_int))))))
          (pss_one (ps_ret (pv 0))))), ?_⟩
    have nR : Nx (fun _ => False) Gz H Gz H := Nx.refl' hG
    unfold m_without_end at hQ
    first | with_reducible refine st_n ?_ | skip
    refine st_seq ?_
    replace hQ := wp_bdi hQ
    refine while_S (fun (line : (List Int)) σ5 H4 => ∃ (F1 : Hp) (v6 : V), σ5 = [some v6] ∧ Nx (fun _ => False) Gz H F1 H4 ∧ Same H H4 ∧ Rp.rep K F1 v6 line) ?h0u25 hQ ?hcu25 ?hbu25 ?hdu25
    case h0u25 =>
      exact ⟨_, _, rfl, (Nx.refl' hG), (Same.refl _), r_line⟩
    case hcu25 =>
      intro line σ9 H4 hI
      obtain ⟨F1, v6, rfl, nL2, e03, r7⟩ := hI
      have hF8 := nL2.fh
      have nR := nR.step0 nL2
      exact ⟨e03, (t_and (t_test (F := H4) (g_b0 (g_len (g_var (a := line) (Rp.mono hF8 r7) (Same.refl _)) (Same.refl _)) g_int)) (t_test (F := H4) (g_eq (g_idx (g_var (a := line) (Rp.mono hF8 r7) (Same.refl _)) (g_neg g_int) (Same.refl _)) g_int)))⟩
    case hbu25 =>
      intro n9 line σ9 H4 H11 hI e12 hQ
      obtain ⟨F1, v6, rfl, nL2, e03, r7⟩ := hI
      have hF8 := nL2.fh
      have nR := nR.step0 nL2
      have nA9 := nL2
      have nx13 : Nx0 F1 H4 (mix F1 H4 H11) H11 := Nx.mk' hF8 e12
      have e014 := e03.trans e12
      replace r7 := Rp.mono nx13.ff r7
      replace nR := nR.step0 nx13
      replace nA9 := nA9.step0 nx13
      have hF15 := nx13.fh
      first | with_reducible refine st_n ?_ | skip
      refine s_asg ?_ hF15 e014 hQ ?_
      · exact (g_cutI (g_var (a := line) (Rp.mono hF15 r7) (Same.refl _)) o_no (o_some (F := H11) (g_neg g_int)))
      intro line v21 F18 H19 nx17 e020 r22 hQ
      replace nR := nR.step0 nx17
      replace nA9 := nA9.step0 nx17
      have hF23 := nx17.fh
      exact ⟨line, ⟨_, _, rfl, nA9, e020, r22⟩, hQ⟩
    case hdu25 =>
      intro line σ9 H4 H11 hI e12 hQ
      obtain ⟨F1, v6, rfl, nL2, e03, r7⟩ := hI
      have hF8 := nL2.fh
      have nR := nR.step0 nL2
      have nx13 : Nx0 F1 H4 (mix F1 H4 H11) H11 := Nx.mk' hF8 e12
      have e014 := e03.trans e12
      replace r7 := Rp.mono nx13.ff r7
      replace nR := nR.step0 nx13
      have hF24 := nx13.fh
      first | with_reducible refine st_n ?_ | skip
      refine s_retS ?_ hF24 e014 nR hQ (fun a h => h)
      exact (g_var (a := line) r7 hF24)

abbrev N_ahead_of : List Str := ["line", "found", "first", "other", "seeds"]
theorem sc_ahead_of : FnScope N_ahead_of ["line"] (defScope s_ahead_of) := ⟨rfl, rfl, rfl, by decide +kernel, rfl, by decide +kernel, by decide +kernel⟩
theorem ok_ahead_of (T : Hd K mg) : ∃ fd, PySem.W.keepIn K (.ref (He.ga K "ahead_of")) = true ∧ Binds K fd ["line"] [] ∧ FnOk P w K mg base (L2.CX P w) 2 (He.ga K "ahead_of") fd ["line"] (sp1 K m_ahead_of) := by
  obtain ⟨fd, F⟩ := T.d_ahead_of
  obtain ⟨fd_ask_line, kp_ask_line, b_ask_line, G_ask_line⟩ := ok_ask_line (P := P) (w := w) (base := base) T
  obtain ⟨fd_without_end, kp_without_end, b_without_end, G_without_end⟩ := ok_without_end (P := P) (w := w) (base := base) T
  obtain ⟨t_MOST_OF_LINE, c_MOST_OF_LINE⟩ := T.c_MOST_OF_LINE
  refine ⟨fd, F.kp, F.bindsN fun _ _ _ _ _ _ us hl => match us, hl with | [_], _ => rfl, ?_⟩
  refine F.ok sc_ahead_of (fun vs H Q E h => ?_) (fun cdv A outer s H vs Q E hr h => ?_)
  · obtain ⟨v_line, line, rfl, r_line, hQ⟩ := h
    rfl
  · obtain ⟨v_line, line, rfl, r_line, hQ⟩ := h
    have tk : Takes (cxOf (L2.CX P w) P w K mg base N_ahead_of "ahead_of" (defScope s_ahead_of) (He.ga K "ahead_of") cdv A outer s H E) (fun cls d _ H => E cls d H) := takes_of rfl rfl rfl rfl
    refine ⟨_, (by exact (pss_cons (ps_expr (pe_callS G_ask_line (hr.mono (by decide)) rfl T.g_ask_line kp_ask_line b_ask_line (fun σ => passAt tk σ) (pa_cons (pv 0) pa_nil)))
          (pss_cons (ps_if (pt_cmpR op_eq (pe_callB call_len_seq rfl T.f_len PySem.boot_len (pa_cons (pv 0) pa_nil)) pe_int (nomark _)) (pss_one (ps_ret (pe_lst (pa_cons (pe_lst pa_nil) pa_nil)))) pss_nil)
          (pss_cons (ps_set (i := 1) sc_ahead_of.nd rfl (Or.inl rfl) (pe_lst pa_nil))
          (pss_cons (ps_for (passes_of rfl) rfl (pi_range2 rfl T.f_range (pa_cons pe_int (pa_cons (pe_op op_add (pe_callB call_len_seq rfl T.f_len PySem.boot_len (pa_cons (pv 0) pa_nil)) pe_int) pa_nil))) (pg_name (i := 2) sc_ahead_of.nd rfl (Or.inl rfl)) (pss_cons (ps_if (pt_cmpR op_eq (pe_ix ix_list (pv 0) (pe_op op_sub (pv 2) pe_int) (fun _ _ => rfl)) pe_int (nomark _)) (pss_one ps_break) pss_nil)
          (pss_cons (ps_set (i := 3) sc_ahead_of.nd rfl (Or.inl rfl) (pe_op op_cat (pe_op op_cat (pe_lst (pa_cons (pv 2) pa_nil)) (pe_lc (own := [("seeds", 4)]) (g := gName 4) (tt := tYes) rfl sc_ahead_of.nd (pi_list (pe_slice sl_list (pv 0) po_none (po_some (pv 2)))) (blkOk_by (N := N_ahead_of) (sc := defScope s_ahead_of) (by decide +kernel)) (fun _ _ _ _ _ => pg_name (i := 4) sc_ahead_of.nd rfl (Or.inl rfl)) (fun _ _ _ _ _ => pts_nil) (fun _ _ _ _ _ => (pe_op op_sub (pv 4) pe_int)))) (pe_callTy call_list_of rfl T.f_list (by decide +kernel) (pa_cons (pe_slice sl_list (pv 0) (po_some (pv 2)) po_none) pa_nil))))
          (pss_cons (ps_set (i := 3) sc_ahead_of.nd rfl (Or.inl rfl) (pe_callS G_without_end (hr.mono (by decide)) rfl T.g_without_end kp_without_end b_without_end (fun σ => passAt tk σ) (pa_cons (pv 3) pa_nil)))
          (pss_one (ps_if (pt_cmpR op_le (pe_callB call_len_seq rfl T.f_len PySem.boot_len (pa_cons (pv 3) pa_nil)) (pe_glob (v := .int (100)) rfl c_MOST_OF_LINE ⟨_, rfl⟩) (nomark _)) (pss_one (ps_expr (pe_bm PySem.F.plainAttrs_list PySem.F.slot_list_append PySem.F.type_list_append mt_append (pv 1) (pa_cons (pv 3) pa_nil)))) pss_nil))))))
          (pss_one (ps_ret (pv 1)))))))), ?_⟩
    unfold m_ahead_of at hQ
    first | with_reducible refine st_n ?_ | skip
    refine st_seq ?_
    refine s_drop ?_ (Same.refl _) (Same.refl _) hQ ?_
    · exact (g_im (Same.refl _) (g_call1 (ma := .ok line) (g_var (a := line) (Rp.mono (Same.refl _) r_line) (Same.refl _))))
    intro _ F2 H3 nx1 e04 hQ
    replace r_line := Rp.mono nx1.ff r_line
    have hF5 := nx1.fh
    first | with_reducible refine st_n ?_ | skip
    refine st_seq ?_
    refine s_if ?_ hF5 e04 hQ ?_ ?_
    · exact (t_test (F := H3) (g_eq (g_len (g_var (a := line) (Rp.mono hF5 r_line) (Same.refl _)) (Same.refl _)) g_int))
    · intro F7 H8 nx6 e09 hQ
      replace hQ := if_t hQ
      replace r_line := Rp.mono nx6.ff r_line
      have hF10 := nx6.fh
      first | with_reducible refine st_n ?_ | skip
      refine s_ret ?_ e09 hQ (fun a h => h)
      exact (gx_apt (m := .ok [([] : List Int)]) (gx_lst1 (gx_t1 (m := .ok ([] : List Int)) (g_lstK a_nil (Nat.le_of_ble_eq_true rfl)))))
    intro F7 H8 nx6 e09 hQ
    replace hQ := if_f hQ
    refine st_next ?_
    replace r_line := Rp.mono nx6.ff r_line
    have hF11 := nx6.fh
    first | with_reducible refine st_n ?_ | skip
    refine st_seq ?_
    refine s_asgOT0 (α := List Int) hF11 e09 hQ ?_
    intro found p23 F18 H19 S21 nx17 e020 o22 nw24 hS25 hQ
    replace r_line := Rp.mono nx17.ff r_line
    have hF26 := nx17.fh
    first | with_reducible refine st_n ?_ | skip
    refine st_seq ?_
    refine s_for ?_ hF26 e020 hQ ?_
    · exact (i_rng2 (g_sc (F' := H19) g_int) (g_sc (F' := H19) (g_i0 (g_len (g_var (a := line) (Rp.mono hF26 r_line) (Same.refl _)) (Same.refl _)) g_int)))
    intro xs31 J32 F28 H29 nx27 e030 ok33 hQ
    replace r_line := Rp.mono nx27.ff r_line
    replace o22 := o22.nx0 nx27
    have hF35 := nx27.fh
    replace hQ := wp_bdi hQ
    refine for_Rd ok33 (fun (found : (List (List Int))) σ40 H39 => ∃ (F36 : Hp) (S41 : Addr → Prop) (j43 : Option V) (j44 : Option V), σ40 = [some v_line, some (.ref p23), j44, j43, none] ∧ Nx (fun q => q = p23 ∨ False) F28 H29 F36 H39 ∧ Same H H39 ∧ OwT K H F36 H39 p23 S41 found) ?hku123 ?h0u123 hQ ?doneu123 ?turnu123
    case hku123 =>
      intro found σ9 H39 hI
      obtain ⟨F36, S41, j43, j44, rfl, nL37, e038, o42⟩ := hI
      exact nL37.ff.trans nL37.fh
    case h0u123 =>
      exact ⟨_, _, _, _, rfl, (Nx.refl' hF35), e030, o22⟩
    case turnu123 =>
      intro first l48 found v49 σ9 H39 H50 hI e51 rx52 hd57 hQ
      obtain ⟨F36, S41, j43, j44, rfl, nL37, e038, o42⟩ := hI
      have r_line := Rp.mono nL37.ff r_line
      have hF45 := nL37.fh
      have nA46 := nL37
      have nx53 : Nx0 F36 H39 (mix F36 H39 H50) H50 := Nx.mk' hF45 e51
      have e055 := e038.trans e51
      replace r_line := Rp.mono nx53.ff r_line
      replace o42 := o42.nx0 nx53
      replace nA46 := nA46.step0 nx53
      have hF56 := nx53.fh
      refine gn ?_
      obtain rfl : v49 = V.int first := rx52
      first | with_reducible refine st_n ?_ | skip
      refine st_seq ?_
      refine s_if ?_ hF56 e055 hQ ?_ ?_
      · exact (t_test (F := H50) (g_eq (g_idx (g_var (a := line) (Rp.mono hF56 r_line) (Same.refl _)) (g_i0 (g_var (a := first) rfl (Same.refl _)) g_int) (Same.refl _)) g_int))
      · intro F60 H61 nx59 e062 hQ
        replace hQ := if_t hQ
        replace r_line := Rp.mono nx59.ff r_line
        replace o42 := o42.nx0 nx59
        replace nA46 := nA46.step0 nx59
        have hF63 := nx59.fh
        exact hd57 _ _ _ ⟨_, _, _, _, rfl, nA46, e062, o42⟩ hQ
      intro F60 H61 nx59 e062 hQ
      replace hQ := if_f hQ
      refine st_next ?_
      replace r_line := Rp.mono nx59.ff r_line
      replace o42 := o42.nx0 nx59
      replace nA46 := nA46.step0 nx59
      have hF64 := nx59.fh
      first | with_reducible refine st_n ?_ | skip
      refine st_seq ?_
      refine s_asgFT ?_ hF64 e062 hQ ?_
      · exact (gx_t1 (m := R.bd (R.bd (compR (cut line none (some first)) (fun (seeds : Int) => .ok true) (fun (seeds : Int) => .ok (seeds - (1 : Int)))) fun (t86 : List Int) => gd ([first].length + t86.length ≤ lim) (.ok ([first] ++ t86))) fun (t87 : List Int) => gd (t87.length + (cut line (some first) none).length ≤ lim) (.ok (t87 ++ (cut line (some first) none)))) (g_catI (g_catI (g_lstK (a_cons (g_var (a := first) rfl (Same.refl _)) a_nil) (Nat.le_of_ble_eq_true rfl)) (g_compI (i_list (g_cutI (g_var (a := line) (Rp.mono hF64 r_line) (Same.refl _)) o_no (o_some (F := H61) (g_var (a := first) rfl (Same.refl _)))) (Same.refl _)) (fun seeds v79 F80 H81 f82 h83 hh84 rx85 => by
          obtain rfl : v79 = V.int seeds := rx85
          exact ⟨_, fun _ q => q, rfl, t_yes, (g_sc (F' := H81) (g_i0 (g_var (a := seeds) rfl (Same.refl _)) g_int))⟩))) (g_listI (g_cutI (g_var (a := line) (Rp.mono hF64 r_line) (Same.refl _)) (o_some (F := H61) (g_var (a := first) rfl (Same.refl _))) o_no))))
      intro other v73 F70 H71 S74 nx69 e072 T75 W76 n77 hQ
      have d88 : ∀ b, S74 b → ¬ S41 b := ft_dj o42.w hF64 n77
      replace r_line := Rp.mono nx69.ff r_line
      replace o42 := o42.nx0 nx69
      replace nA46 := nA46.step0 nx69
      have hF89 := nx69.fh
      first | with_reducible refine st_n ?_ | skip
      refine st_seq ?_
      refine s_asgFS W76 ?_ hF89 e072 hQ ?_
      · exact (g_callS1 (ma := .ok other) (g_var (a := other) (rep_onS T75) (onS_le.trans hF89)) (onS_le.trans hF89))
      intro other v98 F95 H96 S99 nx94 e097 T100 W101 n102 hQ
      have d103 : ∀ b, S99 b → ¬ S41 b := fun b z => (n102 b z).elim (d88 b) (ft_dj (Sa := fun b => H71 b = none) o42.w hF89 (fun _ z => z) b)
      replace r_line := Rp.mono nx94.ff r_line
      replace o42 := o42.nx0 nx94
      replace nA46 := nA46.step0 nx94
      have hF104 := nx94.fh
      first | with_reducible refine st_n ?_ | skip
      refine s_if ?_ hF104 e097 hQ ?_ ?_
      · exact (t_test (F := H96) (g_b0 (g_len (g_var (a := other) (Rp.mono hF104 (Tr.rep T100)) (Same.refl _)) (Same.refl _)) g_int))
      · intro F106 H107 nx105 e0108 hQ
        replace hQ := if_t hQ
        replace r_line := Rp.mono nx105.ff r_line
        replace o42 := o42.nx0 nx105
        replace T100 := Tr.mono (Agr.same nx105.ff) T100
        replace W101 := fp_ff W101 nx105.ff
        replace nA46 := nA46.step0 nx105
        have hF109 := nx105.fh
        first | with_reducible refine st_n ?_ | skip
        have r118 := ft_N W101 T100
        refine s_otPush (x := other) (at_var rfl) o42 T100 W101 d103 rfl hF109 e0108 hQ ?_
        intro found F112 H113 S115 nx111 e0114 o116 hS117 hQ
        replace r_line := Rp.mono nx111.ff r_line
        replace r118 := Rp.mono (dif_mono nx111.ff) r118
        replace nA46 := nA46.step nx111 (fun q z => .inl (.inl z))
        have hF119 := nx111.fh
        replace o42 := o116
        exact ⟨found, ⟨_, _, _, _, rfl, nA46, e0114, o42⟩, hQ⟩
      intro F106 H107 nx105 e0108 hQ
      replace hQ := if_f hQ
      refine st_next ?_
      replace r_line := Rp.mono nx105.ff r_line
      replace o42 := o42.nx0 nx105
      replace T100 := Tr.mono (Agr.same nx105.ff) T100
      replace W101 := fp_ff W101 nx105.ff
      replace nA46 := nA46.step0 nx105
      have hF110 := nx105.fh
      exact ⟨found, ⟨_, _, _, _, rfl, nA46, e0108, o42⟩, hQ⟩
    case doneu123 =>
      intro found σ9 H39 hI hQ
      replace hQ := flk_go hQ
      obtain ⟨F36, S41, j43, j44, rfl, nL37, e038, o42⟩ := hI
      have r_line := Rp.mono nL37.ff r_line
      have hF45 := nL37.fh
      first | with_reducible refine st_n ?_ | skip
      refine s_ret ?_ e038 hQ (fun a h => h)
      exact (g_owT o42 hF45)

abbrev N__law_numbers : List Str := ["script", "many", "found", "step", "k"]
theorem sc__law_numbers : FnScope N__law_numbers ["script", "many"] (defScope s__law_numbers) := ⟨rfl, rfl, rfl, by decide +kernel, rfl, by decide +kernel, by decide +kernel⟩
theorem ok__law_numbers (T : Hd K mg) : ∃ fd, PySem.W.keepIn K (.ref (He.ga K "_law_numbers")) = true ∧ Binds K fd ["script", "many"] [] ∧ FnOk P w K mg base (L2.CX P w) 1 (He.ga K "_law_numbers") fd ["script", "many"] (sp2 K m__law_numbers) := by
  obtain ⟨fd, F⟩ := T.d__law_numbers
  refine ⟨fd, F.kp, F.bindsN fun _ _ _ _ _ _ us hl => match us, hl with | [_, _], _ => rfl, ?_⟩
  refine F.ok sc__law_numbers (fun vs H Q E h => ?_) (fun cdv A outer s H vs Q E hr h => ?_)
  · obtain ⟨v_script, v_many, script, many, rfl, r_script, r_many, hQ⟩ := h
    rfl
  · obtain ⟨v_script, v_many, script, many, rfl, r_script, r_many, hQ⟩ := h
    obtain rfl : v_many = V.int many := r_many
    have tk : Takes (cxOf (L2.CX P w) P w K mg base N__law_numbers "_law_numbers" (defScope s__law_numbers) (He.ga K "_law_numbers") cdv A outer s H E) (fun cls d _ H => E cls d H) := takes_of rfl rfl rfl rfl
    refine ⟨_, (by exact (pss_cons (ps_set (i := 2) sc__law_numbers.nd rfl (Or.inl rfl) (pe_lst pa_nil))
          (pss_cons (ps_set (i := 3) sc__law_numbers.nd rfl (Or.inl rfl) pe_int)
          (Evl.pss_cut (ps_if (pt_cmpR op_gt (pe_callB call_len_seq rfl T.f_len PySem.boot_len (pa_cons (pv 0) pa_nil)) pe_int (nomark _)) (pss_one (ps_set (i := 3) sc__law_numbers.nd rfl (Or.inl rfl) (pe_op op_add pe_int (pe_op op_mod (pe_ix ix_list (pv 0) pe_int (fun _ _ => rfl)) pe_int)))) pss_nil)
          (pss_cons (ps_for (passes_of rfl) rfl (pi_range1 rfl T.f_range (pa_cons (pv 1) pa_nil)) (pg_name (i := 4) sc__law_numbers.nd rfl (Or.inl rfl)) (pss_cons (ps_set (i := 3) sc__law_numbers.nd rfl (Or.inl rfl) (pe_op op_mod (pe_op op_mul (pv 3) pe_int) pe_int))
          (pss_one (ps_expr (pe_bm PySem.F.plainAttrs_list PySem.F.slot_list_append PySem.F.type_list_append mt_append (pv 2) (pa_cons (pe_op op_mod (pe_op op_fdivW (pv 3) pe_int) pe_int) pa_nil))))))
          (pss_cons (ps_for (passes_of rfl) rfl (pi_range1 rfl T.f_range (pa_cons (pe_callB call_len_seq rfl T.f_len PySem.boot_len (pa_cons (pv 0) pa_nil)) pa_nil)) (pg_name (i := 4) sc__law_numbers.nd rfl (Or.inl rfl)) (pss_one (ps_asg (pe_op op_mod (pe_op op_add (pe_ix ix_list (pv 2) (pe_op op_mod (pv 4) (pv 1)) (fun _ _ => rfl)) (pe_ix ix_list (pv 0) (pv 4) (fun _ _ => rfl))) pe_int) (pg_sub (pv 2) (pe_op op_mod (pv 4) (pv 1)) set_list))))
          (pss_one (ps_ret (pv 2))))))))), ?_⟩
    unfold m__law_numbers at hQ
    first | with_reducible refine st_n ?_ | skip
    refine st_seq ?_
    refine s_asgI (b := false) ?_ (Same.refl _) (Same.refl _) hQ ?_
    · exact (g_lstK a_nil (Nat.le_of_ble_eq_true rfl))
    intro found p6 F2 H3 nx1 e04 o5 nw7 hQ
    replace r_script := Rp.mono nx1.ff r_script
    have hF8 := nx1.fh
    first | with_reducible refine st_n ?_ | skip
    refine st_seq ?_
    refine s_asg ?_ hF8 e04 hQ ?_
    · exact (g_sc (F' := H3) g_int)
    intro step v13 F10 H11 nx9 e012 r14 hQ
    replace r_script := Rp.mono nx9.ff r_script
    replace o5 := o5.nx0 nx9
    have hF15 := nx9.fh
    obtain rfl : v13 = V.int step := r14
    first | with_reducible refine st_n ?_ | skip
    replace hQ := wp_bdi hQ
    refine s_cutW (I := fun (step : Int) σ24 H23 => ∃ (F20 : Hp), σ24 = [some v_script, some (.int many), some (.ref p6), some (.int step), none] ∧ Nx (fun _ => False) F10 H11 F20 H23 ∧ Same H H23) (hQ := hQ) ?_ ?_
    · intro hQ
      have nA26 : Nx (fun _ => False) F10 H11 F10 H11 := Nx.refl' hF15
      refine s_if ?_ hF15 e012 hQ ?_ ?_
      · exact (t_test (F := H11) (g_b0 (g_lenS (g_var (a := script) (Rp.mono hF15 r_script) (Same.refl _)) (Same.refl _)) g_int))
      · intro F17 H18 nx16 e019 hQ
        replace hQ := if_t hQ
        replace r_script := Rp.mono nx16.ff r_script
        replace o5 := o5.nx0 nx16
        replace nA26 := nA26.step0 nx16
        have hF27 := nx16.fh
        first | with_reducible refine st_n ?_ | skip
        refine s_asg ?_ hF27 e019 hQ ?_
        · exact (g_sc (F' := H18) (g_i0 g_int (g_modL (by decide +kernel) (g_idxS (g_var (a := script) (Rp.mono hF27 r_script) (Same.refl _)) g_int (Same.refl _)) g_int)))
        intro step v35 F30 H31 nx29 e032 r36 hQ
        replace r_script := Rp.mono nx29.ff r_script
        replace o5 := o5.nx0 nx29
        replace nA26 := nA26.step0 nx29
        have hF37 := nx29.fh
        obtain rfl : v35 = V.int step := r36
        exact ⟨step, ⟨_, rfl, nA26, e032⟩, hQ⟩
      intro F17 H18 nx16 e019 hQ
      replace hQ := if_f hQ
      refine st_next ?_
      replace r_script := Rp.mono nx16.ff r_script
      replace o5 := o5.nx0 nx16
      replace nA26 := nA26.step0 nx16
      have hF28 := nx16.fh
      exact ⟨step, ⟨_, rfl, nA26, e019⟩, hQ⟩
    rintro step σ9 H23 hI hQ
    obtain ⟨F20, rfl, nL21, e022⟩ := hI
    have r_script := Rp.mono nL21.ff r_script
    have o5 := o5.nx nL21 (fun z => z)
    have hF25 := nL21.fh
    first | with_reducible refine st_n ?_ | skip
    refine st_seq ?_
    refine s_for ?_ hF25 e022 hQ ?_
    · exact (i_rng1 (g_sc (F' := H23) (g_var (a := many) rfl (Same.refl _))))
    intro xs42 J43 F39 H40 nx38 e041 ok44 hQ
    replace r_script := Rp.mono nx38.ff r_script
    replace o5 := o5.nx0 nx38
    have hF46 := nx38.fh
    replace hQ := wp_bdi hQ
    refine for_S ok44 (fun (st : Int × (List Int)) σ51 H50 => match st with | (step, found) => ∃ (F47 : Hp) (j53 : Option V), σ51 = [some v_script, some (.int many), some (.ref p6), some (.int step), j53] ∧ Nx (fun q => q = p6 ∨ False) F39 H40 F47 H50 ∧ Same H H50 ∧ Own K H false F47 H50 p6 found) ?hku122 ?h0u122 hQ ?turnu122 ?doneu122
    case hku122 =>
      intro st σ9 H50 hI
      obtain ⟨step, found⟩ := st
      obtain ⟨F47, j53, rfl, nL48, e049, o52⟩ := hI
      exact nL48.ff.trans nL48.fh
    case h0u122 =>
      exact ⟨_, _, rfl, (Nx.refl' hF46), e041, o5⟩
    case turnu122 =>
      intro k l57 st v58 σ9 H50 H59 hI e60 rx61 hQ
      obtain ⟨step, found⟩ := st
      obtain ⟨F47, j53, rfl, nL48, e049, o52⟩ := hI
      have r_script := Rp.mono nL48.ff r_script
      have hF54 := nL48.fh
      have nA55 := nL48
      have nx62 : Nx0 F47 H50 (mix F47 H50 H59) H59 := Nx.mk' hF54 e60
      have e064 := e049.trans e60
      replace r_script := Rp.mono nx62.ff r_script
      replace o52 := o52.nx0 nx62
      replace nA55 := nA55.step0 nx62
      have hF65 := nx62.fh
      refine gn ?_
      obtain rfl : v58 = V.int k := rx61
      first | with_reducible refine st_n ?_ | skip
      refine st_seq ?_
      refine s_asg ?_ hF65 e064 hQ ?_
      · exact (g_sc (F' := H59) (g_modL (by decide +kernel) (g_mulL (by decide) (g_var (a := step) rfl (Same.refl _)) g_int) g_int))
      intro step v71 F68 H69 nx67 e070 r72 hQ
      replace r_script := Rp.mono nx67.ff r_script
      replace o52 := o52.nx0 nx67
      replace nA55 := nA55.step0 nx67
      have hF73 := nx67.fh
      obtain rfl : v71 = V.int step := r72
      first | with_reducible refine st_n ?_ | skip
      refine s_app (m := .ok ((step / (16 : Int)) % (1000000 : Int))) ?ha o52 ?he hF73 e070 hQ ?_
      case ha => exact at_var rfl
      case he => exact (g_sc (F' := H69) (g_modL (by decide +kernel) (g_divL (by decide +kernel) (g_var (a := step) rfl (Same.refl _)) g_int) g_int))
      intro found F75 H76 nx74 e077 o2 hQ
      replace r_script := Rp.mono nx74.ff r_script
      replace nA55 := nA55.step nx74 (fun q z => .inl (.inl z))
      have hF78 := nx74.fh
      replace o52 := o2
      exact ⟨(step, found), ⟨_, _, rfl, nA55, e077, o52⟩, hQ⟩
    case doneu122 =>
      intro st σ9 H50 hI hQ
      obtain ⟨step, found⟩ := st
      obtain ⟨F47, j53, rfl, nL48, e049, o52⟩ := hI
      have r_script := Rp.mono nL48.ff r_script
      have hF54 := nL48.fh
      first | with_reducible refine st_n ?_ | skip
      refine st_seq ?_
      refine s_for ?_ hF54 e049 hQ ?_
      · exact (i_rng1 (g_sc (F' := H50) (g_lenS (g_var (a := script) (Rp.mono hF54 r_script) (Same.refl _)) (Same.refl _))))
      intro xs83 J84 F80 H81 nx79 e082 ok85 hQ
      replace r_script := Rp.mono nx79.ff r_script
      replace o52 := o52.nx0 nx79
      have hF87 := nx79.fh
      replace hQ := wp_bdi hQ
      refine for_S ok85 (fun (found : (List Int)) σ92 H91 => ∃ (F88 : Hp) (j94 : Option V), σ92 = [some v_script, some (.int many), some (.ref p6), some (.int step), j94] ∧ Nx (fun q => q = p6 ∨ False) F80 H81 F88 H91 ∧ Same H H91 ∧ Own K H false F88 H91 p6 found) ?hku120 ?h0u120 hQ ?turnu120 ?doneu120
      case hku120 =>
        intro found σ9 H91 hI
        obtain ⟨F88, j94, rfl, nL89, e090, o93⟩ := hI
        exact nL89.ff.trans nL89.fh
      case h0u120 =>
        exact ⟨_, _, rfl, (Nx.refl' hF87), e082, o52⟩
      case turnu120 =>
        intro k l98 found v99 σ9 H91 H100 hI e101 rx102 hQ
        obtain ⟨F88, j94, rfl, nL89, e090, o93⟩ := hI
        have r_script := Rp.mono nL89.ff r_script
        have hF95 := nL89.fh
        have nA96 := nL89
        have nx103 : Nx0 F88 H91 (mix F88 H91 H100) H100 := Nx.mk' hF95 e101
        have e0105 := e090.trans e101
        replace r_script := Rp.mono nx103.ff r_script
        replace o93 := o93.nx0 nx103
        replace nA96 := nA96.step0 nx103
        have hF106 := nx103.fh
        refine gn ?_
        obtain rfl : v99 = V.int k := rx102
        first | with_reducible refine st_n ?_ | skip
        refine s_set (m := R.bd (R.bd (R.bd (modR k many) fun (t108 : Int) => idx found t108) fun (t109 : Int) => R.bd (idx script.l k) fun (t110 : Int) => .ok (t109 + t110)) fun (t111 : Int) => .ok (t111 % (1000000 : Int))) (mi := modR k many) ?ha o93 ?he ?hi hF106 e0105 hQ ?_
        case ha => exact at_var rfl
        case he => exact (g_sc (F' := H100) (g_modL (by decide +kernel) (g_i0 (g_idx (g_var (a := found) (o93.rep hF106) (Same.refl _)) (g_mod (g_var (a := k) rfl (Same.refl _)) (g_var (a := many) rfl (Same.refl _))) (Same.refl _)) (g_idxS (g_var (a := script) (Rp.mono hF106 r_script) (Same.refl _)) (g_var (a := k) rfl (Same.refl _)) (Same.refl _))) g_int))
        case hi => exact (g_mod (g_var (a := k) rfl (Same.refl _)) (g_var (a := many) rfl (Same.refl _)))
        intro found F115 H116 nx114 e0117 o2 hQ
        replace r_script := Rp.mono nx114.ff r_script
        replace nA96 := nA96.step nx114 (fun q z => .inl (.inl z))
        have hF118 := nx114.fh
        replace o93 := o2
        exact ⟨found, ⟨_, _, rfl, nA96, e0117, o93⟩, hQ⟩
      case doneu120 =>
        intro found σ9 H91 hI hQ
        obtain ⟨F88, j94, rfl, nL89, e090, o93⟩ := hI
        have r_script := Rp.mono nL89.ff r_script
        have hF95 := nL89.fh
        first | with_reducible refine st_n ?_ | skip
        refine s_ret ?_ e090 hQ (fun a h => h)
        exact (g_var (a := found) (o93.repI hF95) dif_le)

abbrev N__law_line : List Str := ["numbers", "way", "many", "line", "more", "place"]
theorem sc__law_line : FnScope N__law_line ["numbers"] (defScope s__law_line) := ⟨rfl, rfl, rfl, by decide +kernel, rfl, by decide +kernel, by decide +kernel⟩
theorem ok__law_line (T : Hd K mg) : ∃ fd, PySem.W.keepIn K (.ref (He.ga K "_law_line")) = true ∧ Binds K fd ["numbers"] [] ∧ FnOk P w K mg base (L2.CX P w) 1 (He.ga K "_law_line") fd ["numbers"] (sp1 K m__law_line) := by
  obtain ⟨fd, F⟩ := T.d__law_line
  refine ⟨fd, F.kp, F.bindsN fun _ _ _ _ _ _ us hl => match us, hl with | [_], _ => rfl, ?_⟩
  refine F.ok sc__law_line (fun vs H Q E h => ?_) (fun cdv A outer s H vs Q E hr h => ?_)
  · obtain ⟨v_numbers, numbers, rfl, r_numbers, hQ⟩ := h
    rfl
  · obtain ⟨v_numbers, numbers, rfl, r_numbers, hQ⟩ := h
    have tk : Takes (cxOf (L2.CX P w) P w K mg base N__law_line "_law_line" (defScope s__law_line) (He.ga K "_law_line") cdv A outer s H E) (fun cls d _ H => E cls d H) := takes_of rfl rfl rfl rfl
    refine ⟨_, (by exact (pss_cons (ps_set (i := 1) sc__law_line.nd rfl (Or.inl rfl) (pe_op op_mod (pe_ix ix_list (pv 0) pe_int (fun _ _ => rfl)) pe_int))
          (pss_cons (ps_set (i := 2) sc__law_line.nd rfl (Or.inr rfl) (pe_op op_mod (pe_ix ix_list (pv 0) pe_int (fun _ _ => rfl)) pe_int))
          (pss_cons (ps_if (PW.pt (pw_and (pt_cmpR op_eq (pv 1) pe_int (nomark _)) (pw_and1 (pt_cmpR op_eq (pe_op op_mod (pe_ix ix_list (pv 0) pe_int (fun _ _ => rfl)) pe_int) pe_int (nomark _))))) (pss_one (ps_ret (pe_op op_rep (pe_lst (pa_cons pe_int pa_nil)) (pe_op op_add pe_int (pe_op op_mod (pe_ix ix_list (pv 0) pe_int (fun _ _ => rfl)) pe_int))))) pss_nil)
          (pss_cons (ps_if (PW.pt (pw_and (pt_cmpR op_eq (pv 1) pe_int (nomark _)) (pw_and1 (pt_cmpR op_eq (pe_op op_mod (pe_ix ix_list (pv 0) pe_int (fun _ _ => rfl)) pe_int) pe_int (nomark _))))) (pss_one (ps_ret (pe_lst (pa_cons (pe_op op_sub pe_int (pe_op op_mod (pe_ix ix_list (pv 0) pe_int (fun _ _ => rfl)) pe_int)) pa_nil)))) pss_nil)
          (pss_cons (ps_if (PW.pt (pw_and (pt_cmpR op_eq (pv 1) pe_int (nomark _)) (pw_and1 (pt_cmpR op_eq (pe_op op_mod (pe_ix ix_list (pv 0) pe_int (fun _ _ => rfl)) pe_int) pe_int (nomark _))))) (pss_cons (ps_set (i := 3) sc__law_line.nd rfl (Or.inl rfl) (pe_op op_rep (pe_lst (pa_cons pe_int pa_nil)) (pe_op op_add pe_int (pe_op op_mod (pe_ix ix_list (pv 0) pe_int (fun _ _ => rfl)) pe_int))))
          (pss_cons (ps_asg (pe_op op_add pe_int (pe_op op_mod (pe_ix ix_list (pv 0) pe_int (fun _ _ => rfl)) pe_int)) (pg_sub (pv 3) pe_int set_list))
          (pss_cons (ps_asg (pe_op op_add pe_int (pe_op op_mod (pe_ix ix_list (pv 0) pe_int (fun _ _ => rfl)) pe_int)) (pg_sub (pv 3) (pe_un un_neg pe_int) set_list))
          (pss_cons (ps_augS (pv 3) (pe_op op_mod (pe_ix ix_list (pv 0) pe_int (fun _ _ => rfl)) (pe_callB call_len_seq rfl T.f_len PySem.boot_len (pa_cons (pv 3) pa_nil))) pget_list (pe_op op_mod (pe_ix ix_list (pv 0) pe_int (fun _ _ => rfl)) pe_int) ip_add set_list)
          (pss_one (ps_ret (pv 3))))))) pss_nil)
          (pss_cons (ps_if (pt_cmpR op_eq (pv 1) pe_int (nomark _)) (pss_cons (ps_set (i := 4) sc__law_line.nd rfl (Or.inr rfl) (pe_lc (own := [("place", 5)]) (g := gName 5) (tt := tYes) rfl sc__law_line.nd (pi_range1 rfl T.f_range (pa_cons (pe_op op_add (pv 2) pe_int) pa_nil)) (blkOk_by (N := N__law_line) (sc := defScope s__law_line) (by decide +kernel)) (fun _ _ _ _ _ => pg_name (i := 5) sc__law_line.nd rfl (Or.inl rfl)) (fun _ _ _ _ _ => pts_nil) (fun _ _ _ _ _ => (pe_op op_mod (pe_op op_fdivW (pe_ix (ix_listK (K := K) rfl) (pv 0) (pe_op op_add pe_int (pv 5)) (fun _ _ => rfl)) pe_int) pe_int))))
          (pss_cons (ps_setLc (i := 3) (own := [("place", 5)]) (g := gName 5) (tt := tYes) rfl sc__law_line.nd rfl rfl (sw_true rfl rfl rfl (by decide +kernel)) (pi_range1 rfl T.f_range (pa_cons (pe_op op_add (pv 2) pe_int) pa_nil)) (blkOk_by (N := N__law_line) (sc := defScope s__law_line) (by decide +kernel)) (fun _ _ _ _ _ => pg_name (i := 5) sc__law_line.nd rfl (Or.inl rfl)) (fun _ _ _ _ _ => pts_nil) (fun _ _ _ _ _ => (pe_op op_add (pe_op op_sub (pv 2) (pv 5)) (pe_ix (ix_listK (K := K) rfl) (pv 4) (pv 5) (fun _ _ => rfl)))))
          (pss_cons (ps_while (passes_of rfl) (PW.pt (pw_and (pt_cmpR op_gt (pe_callB call_len_seq rfl T.f_len PySem.boot_len (pa_cons (pv 3) pa_nil)) pe_int (nomark _)) (pw_and1 (pt_cmpR op_eq (pe_ix ix_list (pv 3) (pe_un un_neg pe_int) (fun _ _ => rfl)) pe_int (nomark _))))) (pss_one (ps_expr (pe_bm0 PySem.F.plainAttrs_list PySem.F.slot_list_pop PySem.F.type_list_pop mt_pop (pv 3)))))
          (pss_one (ps_ret (pv 3)))))) pss_nil)
          (pss_cons (ps_setLc (i := 3) (own := [("place", 5)]) (g := gName 5) (tt := tYes) rfl sc__law_line.nd rfl rfl (sw_true rfl rfl rfl (by decide +kernel)) (pi_range1 rfl T.f_range (pa_cons (pv 2) pa_nil)) (blkOk_by (N := N__law_line) (sc := defScope s__law_line) (by decide +kernel)) (fun _ _ _ _ _ => pg_name (i := 5) sc__law_line.nd rfl (Or.inl rfl)) (fun _ _ _ _ _ => pts_nil) (fun _ _ _ _ _ => (pe_op op_mod (pe_op op_fdivW (pe_ix (ix_listK (K := K) rfl) (pv 0) (pe_op op_add pe_int (pv 5)) (fun _ _ => rfl)) pe_int) pe_int)))
          (Evl.pss_cut (ps_if (pt_cmpR op_gt (pv 2) pe_int (nomark _)) (pss_cons (ps_asg (pe_op op_add pe_int (pe_ix ix_list (pv 3) pe_int (fun _ _ => rfl))) (pg_sub (pv 3) pe_int set_list))
          (pss_one (ps_asg (pe_op op_add pe_int (pe_op op_mod (pe_ix ix_list (pv 0) pe_int (fun _ _ => rfl)) pe_int)) (pg_sub (pv 3) (pe_un un_neg pe_int) set_list)))) pss_nil)
          (Evl.pss_cut (ps_if (PW.pt (pw_and (pt_cmpR op_eq (pv 1) pe_int (nomark _)) (pw_and1 (pt_cmpR op_gt (pv 2) pe_int (nomark _))))) (pss_one (ps_augS (pv 3) (pe_op op_mod (pe_ix ix_list (pv 0) pe_int (fun _ _ => rfl)) (pv 2)) pget_list (pe_op op_mod (pe_ix ix_list (pv 0) pe_int (fun _ _ => rfl)) pe_int) ip_add set_list)) pss_nil)
          (pss_one (ps_ret (pv 3))))))))))))), ?_⟩
    unfold m__law_line at hQ
    first | with_reducible refine st_n ?_ | skip
    refine st_seq ?_
    refine s_asg ?_ (Same.refl _) (Same.refl _) hQ ?_
    · exact (g_sc (F' := H) (g_modL (by decide +kernel) (g_idx (g_var (a := numbers) (Rp.mono (Same.refl _) r_numbers) (Same.refl _)) g_int (Same.refl _)) g_int))
    intro way v6 F2 H3 nx1 e04 r7 hQ
    replace r_numbers := Rp.mono nx1.ff r_numbers
    have hF8 := nx1.fh
    obtain rfl : v6 = V.int way := r7
    first | with_reducible refine st_n ?_ | skip
    refine st_seq ?_
    refine s_asg ?_ hF8 e04 hQ ?_
    · exact (g_sc (F' := H3) (g_modL (by decide +kernel) (g_idx (g_var (a := numbers) (Rp.mono hF8 r_numbers) (Same.refl _)) g_int (Same.refl _)) g_int))
    intro many v14 F10 H11 nx9 e012 r15 hQ
    replace r_numbers := Rp.mono nx9.ff r_numbers
    have hF16 := nx9.fh
    obtain rfl : v14 = V.int many := r15
    first | with_reducible refine st_n ?_ | skip
    refine st_seq ?_
    refine s_if ?_ hF16 e012 hQ ?_ ?_
    · exact (t_and (t_test (F := H11) (g_eq (g_var (a := way) rfl (Same.refl _)) g_int)) (t_test (F := H11) (g_eq (g_modL (by decide +kernel) (g_idx (g_var (a := numbers) (Rp.mono hF16 r_numbers) (Same.refl _)) g_int (Same.refl _)) g_int) g_int)))
    · intro F20 H21 nx19 e022 hQ
      replace hQ := if_t hQ
      replace r_numbers := Rp.mono nx19.ff r_numbers
      have hF23 := nx19.fh
      first | with_reducible refine st_n ?_ | skip
      refine s_ret ?_ e022 hQ (fun a h => h)
      exact (g_repI (g_lstK (a_cons g_int a_nil) (Nat.le_of_ble_eq_true rfl)) (g_i0 g_int (g_modL (by decide +kernel) (g_idx (g_var (a := numbers) (Rp.mono hF23 r_numbers) (Same.refl _)) g_int (Same.refl _)) g_int)))
    intro F20 H21 nx19 e022 hQ
    replace hQ := if_f hQ
    refine st_next ?_
    replace r_numbers := Rp.mono nx19.ff r_numbers
    have hF24 := nx19.fh
    first | with_reducible refine st_n ?_ | skip
    refine st_seq ?_
    refine s_if ?_ hF24 e022 hQ ?_ ?_
    · exact (t_and (t_test (F := H21) (g_eq (g_var (a := way) rfl (Same.refl _)) g_int)) (t_test (F := H21) (g_eq (g_modL (by decide +kernel) (g_idx (g_var (a := numbers) (Rp.mono hF24 r_numbers) (Same.refl _)) g_int (Same.refl _)) g_int) g_int)))
    · intro F31 H32 nx30 e033 hQ
      replace hQ := if_t hQ
      replace r_numbers := Rp.mono nx30.ff r_numbers
      have hF34 := nx30.fh
      first | with_reducible refine st_n ?_ | skip
      refine s_ret ?_ e033 hQ (fun a h => h)
      exact (g_lst (a_cons (g_sc (F' := H32) (g_i0 g_int (g_modL (by decide +kernel) (g_idx (g_var (a := numbers) (Rp.mono hF34 r_numbers) (Same.refl _)) g_int (Same.refl _)) g_int))) a_nil))
    intro F31 H32 nx30 e033 hQ
    replace hQ := if_f hQ
    refine st_next ?_
    replace r_numbers := Rp.mono nx30.ff r_numbers
    have hF35 := nx30.fh
    first | with_reducible refine st_n ?_ | skip
    refine st_seq ?_
    refine s_if ?_ hF35 e033 hQ ?_ ?_
    · exact (t_and (t_test (F := H32) (g_eq (g_var (a := way) rfl (Same.refl _)) g_int)) (t_test (F := H32) (g_eq (g_modL (by decide +kernel) (g_idx (g_var (a := numbers) (Rp.mono hF35 r_numbers) (Same.refl _)) g_int (Same.refl _)) g_int) g_int)))
    · intro F43 H44 nx42 e045 hQ
      replace hQ := if_t hQ
      replace r_numbers := Rp.mono nx42.ff r_numbers
      have hF46 := nx42.fh
      first | with_reducible refine st_n ?_ | skip
      refine st_seq ?_
      refine s_asgI (b := false) ?_ hF46 e045 hQ ?_
      · exact (g_repI (g_lstK (a_cons g_int a_nil) (Nat.le_of_ble_eq_true rfl)) (g_i0 g_int (g_modL (by decide +kernel) (g_idx (g_var (a := numbers) (Rp.mono hF46 r_numbers) (Same.refl _)) g_int (Same.refl _)) g_int)))
      intro line p53 F49 H50 nx48 e051 o52 nw54 hQ
      replace r_numbers := Rp.mono nx48.ff r_numbers
      have hF58 := nx48.fh
      first | with_reducible refine st_n ?_ | skip
      refine st_seq ?_
      refine s_set (m := R.bd (R.bd (idx numbers (4 : Int)) fun (t59 : Int) => .ok (t59 % (3 : Int))) fun (t60 : Int) => .ok ((1 : Int) + t60)) (mi := .ok (0 : Int)) ?ha o52 ?he ?hi hF58 e051 hQ ?_
      case ha => exact at_var rfl
      case he => exact (g_sc (F' := H50) (g_i0 g_int (g_modL (by decide +kernel) (g_idx (g_var (a := numbers) (Rp.mono hF58 r_numbers) (Same.refl _)) g_int (Same.refl _)) g_int)))
      case hi => exact g_int
      intro line F63 H64 nx62 e065 o2 hQ
      replace r_numbers := Rp.mono nx62.ff r_numbers
      have hF66 := nx62.fh
      replace o52 := o2
      first | with_reducible refine st_n ?_ | skip
      refine st_seq ?_
      refine s_set (m := R.bd (R.bd (idx numbers (5 : Int)) fun (t67 : Int) => .ok (t67 % (3 : Int))) fun (t68 : Int) => .ok ((1 : Int) + t68)) (mi := .ok (-(1 : Int))) ?ha o52 ?he ?hi hF66 e065 hQ ?_
      case ha => exact at_var rfl
      case he => exact (g_sc (F' := H64) (g_i0 g_int (g_modL (by decide +kernel) (g_idx (g_var (a := numbers) (Rp.mono hF66 r_numbers) (Same.refl _)) g_int (Same.refl _)) g_int)))
      case hi => exact (g_neg g_int)
      intro line F71 H72 nx70 e073 o2 hQ
      replace r_numbers := Rp.mono nx70.ff r_numbers
      have hF74 := nx70.fh
      replace o52 := o2
      first | with_reducible refine st_n ?_ | skip
      refine st_seq ?_
      refine s_augS (mi := R.bd (idx numbers (6 : Int)) fun (t79 : Int) => modR t79 (line.length : Int)) (m := R.bd (idx numbers (7 : Int)) fun (t80 : Int) => .ok (t80 % (30 : Int))) ?ha o52 ?hi ?he hF74 e073 hQ ?_
      case ha => exact at_var rfl
      case hi => exact (g_mod (g_idx (g_var (a := numbers) (Rp.mono hF74 r_numbers) (Same.refl _)) g_int (Same.refl _)) (g_len (g_var (a := line) (o52.rep hF74) (Same.refl _)) (Same.refl _)))
      case he => exact (g_modL (by decide +kernel) (g_idx (g_var (a := numbers) (Rp.mono hF74 r_numbers) (Same.refl _)) g_int (Same.refl _)) g_int)
      intro line F76 H77 nx75 e078 o2 hQ
      replace r_numbers := Rp.mono nx75.ff r_numbers
      have hF84 := nx75.fh
      replace o52 := o2
      first | with_reducible refine st_n ?_ | skip
      refine s_ret ?_ e078 hQ (fun a h => h)
      exact (g_var (a := line) (o52.repI hF84) dif_le)
    intro F43 H44 nx42 e045 hQ
    replace hQ := if_f hQ
    refine st_next ?_
    replace r_numbers := Rp.mono nx42.ff r_numbers
    have hF47 := nx42.fh
    first | with_reducible refine st_n ?_ | skip
    refine st_seq ?_
    refine s_if ?_ hF47 e045 hQ ?_ ?_
    · exact (t_test (F := H44) (g_eq (g_var (a := way) rfl (Same.refl _)) g_int))
    · intro F86 H87 nx85 e088 hQ
      replace hQ := if_t hQ
      replace r_numbers := Rp.mono nx85.ff r_numbers
      have hF89 := nx85.fh
      first | with_reducible refine st_n ?_ | skip
      refine st_seq ?_
      refine s_asg ?_ hF89 e088 hQ ?_
      · exact (g_compI (i_rng1 (g_i0 (g_var (a := many) rfl (Same.refl _)) g_int)) (fun place v96 F97 H98 f99 h100 hh101 rx102 => by
          obtain rfl : v96 = V.int place := rx102
          exact ⟨_, fun _ q => q, rfl, t_yes, (g_sc (F' := H98) (g_modL (by decide +kernel) (g_divL (by decide +kernel) (g_idx (g_var (a := numbers) (Rp.mono hh101 (Rp.mono hF89 r_numbers)) (Same.refl _)) (g_i0 g_int (g_var (a := place) rfl (Same.refl _))) (Same.refl _)) g_int) g_int))⟩))
      intro more v106 F92 H93 nx91 e094 r107 hQ
      replace r_numbers := Rp.mono nx91.ff r_numbers
      have hF108 := nx91.fh
      first | with_reducible refine st_n ?_ | skip
      refine st_seq ?_
      refine s_asgI (b := false) ?_ hF108 e094 hQ ?_
      · exact (g_compI (i_rng1 (g_i0 (g_var (a := many) rfl (Same.refl _)) g_int)) (fun place v117 F118 H119 f120 h121 hh122 rx123 => by
          obtain rfl : v117 = V.int place := rx123
          exact ⟨_, fun _ q => q, rfl, t_yes, (g_sc (F' := H119) (g_i0 (g_i0 (g_var (a := many) rfl (Same.refl _)) (g_var (a := place) rfl (Same.refl _))) (g_idx (g_var (a := more) (Rp.mono hh122 (Rp.mono hF108 r107)) (Same.refl _)) (g_var (a := place) rfl (Same.refl _)) (Same.refl _))))⟩))
      intro line p114 F110 H111 nx109 e0112 o113 nw115 hQ
      replace r_numbers := Rp.mono nx109.ff r_numbers
      replace r107 := Rp.mono nx109.ff r107
      have hF126 := nx109.fh
      first | with_reducible refine st_n ?_ | skip
      refine st_seq ?_
      replace hQ := wp_bdi hQ
      refine while_S (fun (line : (List Int)) σ131 H130 => ∃ (F127 : Hp), σ131 = [some v_numbers, some (.int way), some (.int many), some (.ref p114), some v106, none] ∧ Nx (fun q => q = p114 ∨ False) F110 H111 F127 H130 ∧ Same H H130 ∧ Own K H false F127 H130 p114 line) ?h0u148 hQ ?hcu148 ?hbu148 ?hdu148
      case h0u148 =>
        exact ⟨_, rfl, (Nx.refl' hF126), e0112, o113⟩
      case hcu148 =>
        intro line σ9 H130 hI
        obtain ⟨F127, rfl, nL128, e0129, o132⟩ := hI
        have r_numbers := Rp.mono nL128.ff r_numbers
        have r107 := Rp.mono nL128.ff r107
        have hF133 := nL128.fh
        exact ⟨e0129, (t_and (t_test (F := H130) (g_b0 (g_len (g_var (a := line) (o132.rep hF133) (Same.refl _)) (Same.refl _)) g_int)) (t_test (F := H130) (g_eq (g_idx (g_var (a := line) (o132.rep hF133) (Same.refl _)) (g_neg g_int) (Same.refl _)) g_int)))⟩
      case hbu148 =>
        intro n9 line σ9 H130 H136 hI e137 hQ
        obtain ⟨F127, rfl, nL128, e0129, o132⟩ := hI
        have r_numbers := Rp.mono nL128.ff r_numbers
        have r107 := Rp.mono nL128.ff r107
        have hF133 := nL128.fh
        have nA134 := nL128
        have nx138 : Nx0 F127 H130 (mix F127 H130 H136) H136 := Nx.mk' hF133 e137
        have e0139 := e0129.trans e137
        replace r_numbers := Rp.mono nx138.ff r_numbers
        replace r107 := Rp.mono nx138.ff r107
        replace o132 := o132.nx0 nx138
        replace nA134 := nA134.step0 nx138
        have hF140 := nx138.fh
        first | with_reducible refine st_n ?_ | skip
        refine s_pop ?ha o132 hF140 e0139 hQ ?_
        case ha => exact at_var rfl
        intro line F143 H144 nx142 e0145 o2 hQ
        replace r_numbers := Rp.mono nx142.ff r_numbers
        replace r107 := Rp.mono nx142.ff r107
        replace nA134 := nA134.step nx142 (fun q z => .inl (.inl z))
        have hF146 := nx142.fh
        replace o132 := o2
        exact ⟨line, ⟨_, rfl, nA134, e0145, o132⟩, hQ⟩
      case hdu148 =>
        intro line σ9 H130 H136 hI e137 hQ
        obtain ⟨F127, rfl, nL128, e0129, o132⟩ := hI
        have r_numbers := Rp.mono nL128.ff r_numbers
        have r107 := Rp.mono nL128.ff r107
        have hF133 := nL128.fh
        have nx138 : Nx0 F127 H130 (mix F127 H130 H136) H136 := Nx.mk' hF133 e137
        have e0139 := e0129.trans e137
        replace r_numbers := Rp.mono nx138.ff r_numbers
        replace r107 := Rp.mono nx138.ff r107
        replace o132 := o132.nx0 nx138
        have hF147 := nx138.fh
        first | with_reducible refine st_n ?_ | skip
        refine s_ret ?_ e0139 hQ (fun a h => h)
        exact (g_var (a := line) (o132.repI hF147) dif_le)
    intro F86 H87 nx85 e088 hQ
    replace hQ := if_f hQ
    refine st_next ?_
    replace r_numbers := Rp.mono nx85.ff r_numbers
    have hF90 := nx85.fh
    first | with_reducible refine st_n ?_ | skip
    refine st_seq ?_
    refine s_asgI (b := false) ?_ hF90 e088 hQ ?_
    · exact (g_compI (i_rng1 (g_var (a := many) rfl (Same.refl _))) (fun place v157 F158 H159 f160 h161 hh162 rx163 => by
        obtain rfl : v157 = V.int place := rx163
        exact ⟨_, fun _ q => q, rfl, t_yes, (g_sc (F' := H159) (g_modL (by decide +kernel) (g_divL (by decide +kernel) (g_idx (g_var (a := numbers) (Rp.mono hh162 (Rp.mono hF90 r_numbers)) (Same.refl _)) (g_i0 g_int (g_var (a := place) rfl (Same.refl _))) (Same.refl _)) g_int) g_int))⟩))
    intro line p154 F150 H151 nx149 e0152 o153 nw155 hQ
    replace r_numbers := Rp.mono nx149.ff r_numbers
    have hF167 := nx149.fh
    first | with_reducible refine st_n ?_ | skip
    replace hQ := wp_bdi hQ
    refine s_cutW (I := fun (line : (List Int)) σ176 H175 => ∃ (F172 : Hp), σ176 = [some v_numbers, some (.int way), some (.int many), some (.ref p154), none, none] ∧ Nx (fun q => q = p154 ∨ False) F150 H151 F172 H175 ∧ Same H H175 ∧ Own K H false F172 H175 p154 line) (hQ := hQ) ?_ ?_
    · intro hQ
      have nA179 : Nx (fun q => q = p154 ∨ False) F150 H151 F150 H151 := Nx.refl' hF167
      refine s_if ?_ hF167 e0152 hQ ?_ ?_
      · exact (t_test (F := H151) (g_b0 (g_var (a := many) rfl (Same.refl _)) g_int))
      · intro F169 H170 nx168 e0171 hQ
        replace hQ := if_t hQ
        replace r_numbers := Rp.mono nx168.ff r_numbers
        replace o153 := o153.nx0 nx168
        replace nA179 := nA179.step0 nx168
        have hF180 := nx168.fh
        first | with_reducible refine st_n ?_ | skip
        refine st_seq ?_
        refine s_set (m := R.bd (idx line (0 : Int)) fun (t182 : Int) => .ok ((1 : Int) + t182)) (mi := .ok (0 : Int)) ?ha o153 ?he ?hi hF180 e0171 hQ ?_
        case ha => exact at_var rfl
        case he => exact (g_sc (F' := H170) (g_i0 g_int (g_idx (g_var (a := line) (o153.rep hF180) (Same.refl _)) g_int (Same.refl _))))
        case hi => exact g_int
        intro line F185 H186 nx184 e0187 o2 hQ
        replace r_numbers := Rp.mono nx184.ff r_numbers
        replace nA179 := nA179.step nx184 (fun q z => .inl (.inl z))
        have hF188 := nx184.fh
        replace o153 := o2
        first | with_reducible refine st_n ?_ | skip
        refine s_set (m := R.bd (R.bd (idx numbers (7 : Int)) fun (t189 : Int) => .ok (t189 % (4 : Int))) fun (t190 : Int) => .ok ((1 : Int) + t190)) (mi := .ok (-(1 : Int))) ?ha o153 ?he ?hi hF188 e0187 hQ ?_
        case ha => exact at_var rfl
        case he => exact (g_sc (F' := H186) (g_i0 g_int (g_modL (by decide +kernel) (g_idx (g_var (a := numbers) (Rp.mono hF188 r_numbers) (Same.refl _)) g_int (Same.refl _)) g_int)))
        case hi => exact (g_neg g_int)
        intro line F193 H194 nx192 e0195 o2 hQ
        replace r_numbers := Rp.mono nx192.ff r_numbers
        replace nA179 := nA179.step nx192 (fun q z => .inl (.inl z))
        have hF196 := nx192.fh
        replace o153 := o2
        exact ⟨line, ⟨_, rfl, nA179, e0195, o153⟩, hQ⟩
      intro F169 H170 nx168 e0171 hQ
      replace hQ := if_f hQ
      refine st_next ?_
      replace r_numbers := Rp.mono nx168.ff r_numbers
      replace o153 := o153.nx0 nx168
      replace nA179 := nA179.step0 nx168
      have hF181 := nx168.fh
      exact ⟨line, ⟨_, rfl, nA179, e0171, o153⟩, hQ⟩
    rintro line σ9 H175 hI hQ
    obtain ⟨F172, rfl, nL173, e0174, o177⟩ := hI
    have r_numbers := Rp.mono nL173.ff r_numbers
    have hF178 := nL173.fh
    first | with_reducible refine st_n ?_ | skip
    replace hQ := wp_bdi hQ
    refine s_cutW (I := fun (line : (List Int)) σ205 H204 => ∃ (F201 : Hp), σ205 = [some v_numbers, some (.int way), some (.int many), some (.ref p154), none, none] ∧ Nx (fun q => q = p154 ∨ False) F172 H175 F201 H204 ∧ Same H H204 ∧ Own K H false F201 H204 p154 line) (hQ := hQ) ?_ ?_
    · intro hQ
      have nA208 : Nx (fun q => q = p154 ∨ False) F172 H175 F172 H175 := Nx.refl' hF178
      refine s_if ?_ hF178 e0174 hQ ?_ ?_
      · exact (t_andP (t_test (F := H175) (g_eq (g_var (a := way) rfl (Same.refl _)) g_int)) (t_test (F := H175) (g_b0 (g_var (a := many) rfl (Same.refl _)) g_int)))
      · intro F198 H199 nx197 e0200 hQ
        replace hQ := if_t hQ
        replace r_numbers := Rp.mono nx197.ff r_numbers
        replace o177 := o177.nx0 nx197
        replace nA208 := nA208.step0 nx197
        have hF209 := nx197.fh
        first | with_reducible refine st_n ?_ | skip
        refine s_augS (mi := R.bd (idx numbers (2 : Int)) fun (t215 : Int) => modR t215 many) (m := R.bd (idx numbers (3 : Int)) fun (t216 : Int) => .ok (t216 % (40 : Int))) ?ha o177 ?hi ?he hF209 e0200 hQ ?_
        case ha => exact at_var rfl
        case hi => exact (g_mod (g_idx (g_var (a := numbers) (Rp.mono hF209 r_numbers) (Same.refl _)) g_int (Same.refl _)) (g_var (a := many) rfl (Same.refl _)))
        case he => exact (g_modL (by decide +kernel) (g_idx (g_var (a := numbers) (Rp.mono hF209 r_numbers) (Same.refl _)) g_int (Same.refl _)) g_int)
        intro line F212 H213 nx211 e0214 o2 hQ
        replace r_numbers := Rp.mono nx211.ff r_numbers
        replace nA208 := nA208.step nx211 (fun q z => .inl (.inl z))
        have hF220 := nx211.fh
        replace o177 := o2
        exact ⟨line, ⟨_, rfl, nA208, e0214, o177⟩, hQ⟩
      intro F198 H199 nx197 e0200 hQ
      replace hQ := if_f hQ
      refine st_next ?_
      replace r_numbers := Rp.mono nx197.ff r_numbers
      replace o177 := o177.nx0 nx197
      replace nA208 := nA208.step0 nx197
      have hF210 := nx197.fh
      exact ⟨line, ⟨_, rfl, nA208, e0200, o177⟩, hQ⟩
    rintro line σ9 H204 hI hQ
    obtain ⟨F201, rfl, nL202, e0203, o206⟩ := hI
    have r_numbers := Rp.mono nL202.ff r_numbers
    have hF207 := nL202.fh
    first | with_reducible refine st_n ?_ | skip
    refine s_ret ?_ e0203 hQ (fun a h => h)
    exact (g_var (a := line) (o206.repI hF207) dif_le)

abbrev N__law_march : List Str := ["line", "rest", "place"]
theorem sc__law_march : FnScope N__law_march ["line"] (defScope s__law_march) := ⟨rfl, rfl, rfl, by decide +kernel, rfl, by decide +kernel, by decide +kernel⟩
theorem ok__law_march (T : Hd K mg) : ∃ fd, PySem.W.keepIn K (.ref (He.ga K "_law_march")) = true ∧ Binds K fd ["line"] [] ∧ FnOk P w K mg base (L2.CX P w) 1 (He.ga K "_law_march") fd ["line"] (sp1 K m__law_march) := by
  obtain ⟨fd, F⟩ := T.d__law_march
  refine ⟨fd, F.kp, F.bindsN fun _ _ _ _ _ _ us hl => match us, hl with | [_], _ => rfl, ?_⟩
  refine F.ok sc__law_march (fun vs H Q E h => ?_) (fun cdv A outer s H vs Q E hr h => ?_)
  · obtain ⟨v_line, line, rfl, r_line, hQ⟩ := h
    rfl
  · obtain ⟨v_line, line, rfl, r_line, hQ⟩ := h
    have tk : Takes (cxOf (L2.CX P w) P w K mg base N__law_march "_law_march" (defScope s__law_march) (He.ga K "_law_march") cdv A outer s H E) (fun cls d _ H => E cls d H) := takes_of rfl rfl rfl rfl
    refine ⟨_, (by exact (pss_cons (ps_if (pt_cmpR (op_eqP hr.units) (pv 0) (pe_lst pa_nil) (nomark _)) (pss_one (ps_ret (pe_lst pa_nil))) pss_nil)
          (pss_cons (ps_set (i := 1) sc__law_march.nd rfl (Or.inl rfl) (pe_callTy call_list_of rfl T.f_list (by decide +kernel) (pa_cons (pe_slice sl_list (pv 0) (po_some pe_int) po_none) pa_nil)))
          (pss_cons (ps_for (passes_of rfl) rfl (pi_range1 rfl T.f_range (pa_cons (pe_ix ix_list (pv 0) pe_int (fun _ _ => rfl)) pa_nil)) (pg_name (i := 2) sc__law_march.nd rfl (Or.inl rfl)) (Evl.pss_cut (ps_if (pt_cmpR op_eq (pv 2) (pe_callB call_len_seq rfl T.f_len PySem.boot_len (pa_cons (pv 1) pa_nil)) (nomark _)) (pss_one (ps_expr (pe_bm PySem.F.plainAttrs_list PySem.F.slot_list_append PySem.F.type_list_append mt_append (pv 1) (pa_cons pe_int pa_nil)))) pss_nil)
          (pss_one (ps_asg (pe_op op_add (pe_ix ix_list (pv 1) (pv 2) (fun _ _ => rfl)) pe_int) (pg_sub (pv 1) (pv 2) set_list)))))
          (pss_one (ps_ret (pv 1))))))), ?_⟩
    unfold m__law_march at hQ
    first | with_reducible refine st_n ?_ | skip
    refine st_seq ?_
    refine s_if ?_ (Same.refl _) (Same.refl _) hQ ?_ ?_
    · exact (t_test (F := H) (g_eqD (g_var (a := line) (Rp.mono (Same.refl _) r_line) (Same.refl _)) (g_lstK a_nil (Nat.le_of_ble_eq_true rfl)) (Same.refl _)))
    · intro F2 H3 nx1 e04 hQ
      replace hQ := if_t hQ
      replace r_line := Rp.mono nx1.ff r_line
      have hF5 := nx1.fh
      first | with_reducible refine st_n ?_ | skip
      refine s_ret ?_ e04 hQ (fun a h => h)
      exact (g_lstK a_nil (Nat.le_of_ble_eq_true rfl))
    intro F2 H3 nx1 e04 hQ
    replace hQ := if_f hQ
    refine st_next ?_
    replace r_line := Rp.mono nx1.ff r_line
    have hF6 := nx1.fh
    first | with_reducible refine st_n ?_ | skip
    refine st_seq ?_
    refine s_asgI (b := false) ?_ hF6 e04 hQ ?_
    · exact (g_listI (g_cutI (g_var (a := line) (Rp.mono hF6 r_line) (Same.refl _)) (o_some (F := H3) g_int) o_no))
    intro rest p12 F8 H9 nx7 e010 o11 nw13 hQ
    replace r_line := Rp.mono nx7.ff r_line
    have hF14 := nx7.fh
    first | with_reducible refine st_n ?_ | skip
    refine st_seq ?_
    refine s_for ?_ hF14 e010 hQ ?_
    · exact (i_rng1 (g_sc (F' := H9) (g_idx (g_var (a := line) (Rp.mono hF14 r_line) (Same.refl _)) g_int (Same.refl _))))
    intro xs20 J21 F17 H18 nx16 e019 ok22 hQ
    replace r_line := Rp.mono nx16.ff r_line
    replace o11 := o11.nx0 nx16
    have hF24 := nx16.fh
    replace hQ := wp_bdi hQ
    refine for_S ok22 (fun (rest : (List Int)) σ29 H28 => ∃ (F25 : Hp) (j31 : Option V), σ29 = [some v_line, some (.ref p12), j31] ∧ Nx (fun q => q = p12 ∨ False) F17 H18 F25 H28 ∧ Same H H28 ∧ Own K H false F25 H28 p12 rest) ?hku73 ?h0u73 hQ ?turnu73 ?doneu73
    case hku73 =>
      intro rest σ9 H28 hI
      obtain ⟨F25, j31, rfl, nL26, e027, o30⟩ := hI
      exact nL26.ff.trans nL26.fh
    case h0u73 =>
      exact ⟨_, _, rfl, (Nx.refl' hF24), e019, o11⟩
    case turnu73 =>
      intro place l35 rest v36 σ9 H28 H37 hI e38 rx39 hQ
      obtain ⟨F25, j31, rfl, nL26, e027, o30⟩ := hI
      have r_line := Rp.mono nL26.ff r_line
      have hF32 := nL26.fh
      have nA33 := nL26
      have nx40 : Nx0 F25 H28 (mix F25 H28 H37) H37 := Nx.mk' hF32 e38
      have e042 := e027.trans e38
      replace r_line := Rp.mono nx40.ff r_line
      replace o30 := o30.nx0 nx40
      replace nA33 := nA33.step0 nx40
      have hF43 := nx40.fh
      refine gn ?_
      obtain rfl : v36 = V.int place := rx39
      first | with_reducible refine st_n ?_ | skip
      replace hQ := wp_bdi hQ
      refine s_cutW (I := fun (rest : (List Int)) σ53 H52 => ∃ (F49 : Hp), σ53 = [some v_line, some (.ref p12), some (.int place)] ∧ Nx (fun q => q = p12 ∨ False) (mix F25 H28 H37) H37 F49 H52 ∧ Same H H52 ∧ Own K H false F49 H52 p12 rest) (hQ := hQ) ?_ ?_
      · intro hQ
        have nA56 : Nx (fun q => q = p12 ∨ False) (mix F25 H28 H37) H37 (mix F25 H28 H37) H37 := Nx.refl' hF43
        refine s_if ?_ hF43 e042 hQ ?_ ?_
        · exact (t_test (F := H37) (g_eq (g_var (a := place) rfl (Same.refl _)) (g_len (g_var (a := rest) (o30.rep hF43) (Same.refl _)) (Same.refl _))))
        · intro F46 H47 nx45 e048 hQ
          replace hQ := if_t hQ
          replace r_line := Rp.mono nx45.ff r_line
          replace o30 := o30.nx0 nx45
          replace nA33 := nA33.step0 nx45
          replace nA56 := nA56.step0 nx45
          have hF57 := nx45.fh
          first | with_reducible refine st_n ?_ | skip
          refine s_app (m := .ok (0 : Int)) ?ha o30 ?he hF57 e048 hQ ?_
          case ha => exact at_var rfl
          case he => exact (g_sc (F' := H47) g_int)
          intro rest F60 H61 nx59 e062 o2 hQ
          replace r_line := Rp.mono nx59.ff r_line
          replace nA33 := nA33.step nx59 (fun q z => .inl (.inl z))
          replace nA56 := nA56.step nx59 (fun q z => .inl (.inl z))
          have hF63 := nx59.fh
          replace o30 := o2
          exact ⟨rest, ⟨_, rfl, nA56, e062, o30⟩, hQ⟩
        intro F46 H47 nx45 e048 hQ
        replace hQ := if_f hQ
        refine st_next ?_
        replace r_line := Rp.mono nx45.ff r_line
        replace o30 := o30.nx0 nx45
        replace nA33 := nA33.step0 nx45
        replace nA56 := nA56.step0 nx45
        have hF58 := nx45.fh
        exact ⟨rest, ⟨_, rfl, nA56, e048, o30⟩, hQ⟩
      rintro rest σ9 H52 hI hQ
      obtain ⟨F49, rfl, nL50, e051, o54⟩ := hI
      have r_line := Rp.mono nL50.ff r_line
      have hF55 := nL50.fh
      have nA33 := nA33.step nL50 (fun q => fun z => Or.elim z (fun z => (.inl (.inl z))) (fun z => z.elim))
      first | with_reducible refine st_n ?_ | skip
      refine s_set (m := R.bd (idx rest place) fun (t64 : Int) => .ok (t64 + (1 : Int))) (mi := .ok place) ?ha o54 ?he ?hi hF55 e051 hQ ?_
      case ha => exact at_var rfl
      case he => exact (g_sc (F' := H52) (g_i0 (g_idx (g_var (a := rest) (o54.rep hF55) (Same.refl _)) (g_var (a := place) rfl (Same.refl _)) (Same.refl _)) g_int))
      case hi => exact (g_var (a := place) rfl (Same.refl _))
      intro rest F67 H68 nx66 e069 o2 hQ
      replace r_line := Rp.mono nx66.ff r_line
      replace nA33 := nA33.step nx66 (fun q z => .inl (.inl z))
      have hF70 := nx66.fh
      replace o54 := o2
      exact ⟨rest, ⟨_, _, rfl, nA33, e069, o54⟩, hQ⟩
    case doneu73 =>
      intro rest σ9 H28 hI hQ
      obtain ⟨F25, j31, rfl, nL26, e027, o30⟩ := hI
      have r_line := Rp.mono nL26.ff r_line
      have hF32 := nL26.fh
      first | with_reducible refine st_n ?_ | skip
      refine s_ret ?_ e027 hQ (fun a h => h)
      exact (g_var (a := rest) (o30.repI hF32) dif_le)

abbrev N__law_whole_number : List Str := ["found"]
theorem sc__law_whole_number : FnScope N__law_whole_number ["found"] (defScope s__law_whole_number) := ⟨rfl, rfl, rfl, by decide +kernel, rfl, by decide +kernel, by decide +kernel⟩
theorem ok__law_whole_number (T : Hd K mg) : ∃ fd, PySem.W.keepIn K (.ref (He.ga K "_law_whole_number")) = true ∧ Binds K fd ["found"] [] ∧ FnOk P w K mg base (L2.CX P w) 1 (He.ga K "_law_whole_number") fd ["found"] (sp1 K m__law_whole_number) := by
  obtain ⟨fd, F⟩ := T.d__law_whole_number
  refine ⟨fd, F.kp, F.bindsN fun _ _ _ _ _ _ us hl => match us, hl with | [_], _ => rfl, ?_⟩
  refine F.ok sc__law_whole_number (fun vs H Q E h => ?_) (fun cdv A outer s H vs Q E hr h => ?_)
  · obtain ⟨v_found, found, rfl, r_found, hQ⟩ := h
    rfl
  · obtain ⟨v_found, found, rfl, r_found, hQ⟩ := h
    obtain rfl : v_found = V.int found := r_found
    have tk : Takes (cxOf (L2.CX P w) P w K mg base N__law_whole_number "_law_whole_number" (defScope s__law_whole_number) (He.ga K "_law_whole_number") cdv A outer s H E) (fun cls d _ H => E cls d H) := takes_of rfl rfl rfl rfl
    refine ⟨_, (by exact (pss_one (ps_ret (pe_and (pe_callB call_isi rfl T.f_isinstance (by decide +kernel) (pa_cons (pv 0) (pa_cons (pe_bltn (v := .ty "int") rfl T.f_int (by rfl) rfl) pa_nil))) (pe_one (pe_not (pe_callB call_isi rfl T.f_isinstance (by decide +kernel) (pa_cons (pv 0) (pa_cons (pe_bltn (v := .ty "bool") rfl T.f_bool (by rfl) rfl) pa_nil))))))))), ?_⟩
    unfold m__law_whole_number at hQ
    first | with_reducible refine st_n ?_ | skip
    refine s_ret ?_ (Same.refl _) hQ (fun a h => h)
    exact (g_sc (F' := H) (g_andVP (g_isi (b := true) (g_var (a := found) rfl (Same.refl _)) (Same.refl _)) (g_notV (g_isi (b := false) (g_var (a := found) rfl (Same.refl _)) (Same.refl _)))))

abbrev N__law_is_line : List Str := ["found", "seeds"]
theorem sc__law_is_line : FnScope N__law_is_line ["found"] (defScope s__law_is_line) := ⟨rfl, rfl, rfl, by decide +kernel, rfl, by decide +kernel, by decide +kernel⟩
theorem ok__law_is_line (T : Hd K mg) : ∃ fd, PySem.W.keepIn K (.ref (He.ga K "_law_is_line")) = true ∧ Binds K fd ["found"] [] ∧ FnOk P w K mg base (L2.CX P w) 2 (He.ga K "_law_is_line") fd ["found"] (sp1 K m__law_is_line) := by
  obtain ⟨fd, F⟩ := T.d__law_is_line
  obtain ⟨fd__law_whole_number, kp__law_whole_number, b__law_whole_number, G__law_whole_number⟩ := ok__law_whole_number (P := P) (w := w) (base := base) T
  refine ⟨fd, F.kp, F.bindsN fun _ _ _ _ _ _ us hl => match us, hl with | [_], _ => rfl, ?_⟩
  refine F.ok sc__law_is_line (fun vs H Q E h => ?_) (fun cdv A outer s H vs Q E hr h => ?_)
  · obtain ⟨v_found, found, rfl, r_found, hQ⟩ := h
    rfl
  · obtain ⟨v_found, found, rfl, r_found, hQ⟩ := h
    have tk : Takes (cxOf (L2.CX P w) P w K mg base N__law_is_line "_law_is_line" (defScope s__law_is_line) (He.ga K "_law_is_line") cdv A outer s H E) (fun cls d _ H => E cls d H) := takes_of rfl rfl rfl rfl
    refine ⟨_, (by exact (pss_cons (ps_if (PW.pt (pw_or (pt_not (pt_val (pe_callB call_isi rfl T.f_isinstance (by decide +kernel) (pa_cons (pv 0) (pa_cons (pe_bltn (v := .ty "list") rfl T.f_list (by rfl) rfl) pa_nil))))) (pw_or1 (pt_cmpR op_gt (pe_callB call_len_seq rfl T.f_len PySem.boot_len (pa_cons (pv 0) pa_nil)) pe_int (nomark _))))) (pss_one (ps_ret pe_bl)) pss_nil)
          (pss_cons (ps_for (passes_of rfl) rfl (pi_list (pv 0)) (pg_name (i := 1) sc__law_is_line.nd rfl (Or.inl rfl)) (pss_one (ps_if (PW.pt (pw_or (pt_not (pt_val (pe_callS G__law_whole_number (hr.mono (by decide)) rfl T.g__law_whole_number kp__law_whole_number b__law_whole_number (fun σ => passAt tk σ) (pa_cons (pv 1) pa_nil)))) (pw_or1 (pt_cmpR op_lt (pv 1) pe_int (nomark _))))) (pss_one (ps_ret pe_bl)) pss_nil)))
          (pss_one (ps_ret (pe_or (pe_cmpR (op_eqP hr.units) (pv 0) (pe_lst pa_nil) (nomark _)) (pe_one (pe_and (pe_cmpR op_gt (pe_ix ix_list (pv 0) pe_int (fun _ _ => rfl)) pe_int (nomark _)) (pe_one (pe_cmpR op_gt (pe_ix ix_list (pv 0) (pe_un un_neg pe_int) (fun _ _ => rfl)) pe_int (nomark _))))))))))), ?_⟩
    unfold m__law_is_line at hQ
    first | with_reducible refine st_n ?_ | skip
    refine st_seq ?_
    refine s_if ?_ (Same.refl _) (Same.refl _) hQ ?_ ?_
    · exact (t_orP (t_not (t_B (F := H) (g_isi (b := true) (g_var (a := found) (Rp.mono (Same.refl _) r_found) (Same.refl _)) (Same.refl _)))) (t_test (F := H) (g_b0 (g_len (g_var (a := found) (Rp.mono (Same.refl _) r_found) (Same.refl _)) (Same.refl _)) g_int)))
    · intro F2 H3 nx1 e04 hQ
      replace hQ := if_t hQ
      replace r_found := Rp.mono nx1.ff r_found
      have hF5 := nx1.fh
      first | with_reducible refine st_n ?_ | skip
      refine s_ret ?_ e04 hQ (fun a h => h)
      exact (g_sc (F' := H3) g_bl)
    intro F2 H3 nx1 e04 hQ
    replace hQ := if_f hQ
    refine st_next ?_
    replace r_found := Rp.mono nx1.ff r_found
    have hF6 := nx1.fh
    first | with_reducible refine st_n ?_ | skip
    refine st_seq ?_
    refine s_for ?_ hF6 e04 hQ ?_
    · exact (i_list (g_var (a := found) r_found hF6) hF6)
    intro xs11 J12 F8 H9 nx7 e010 ok13 hQ
    replace r_found := Rp.mono nx7.ff r_found
    have hF15 := nx7.fh
    replace hQ := wp_bdi hQ
    refine for_Rd ok13 (fun (_ : Unit) σ20 H19 => ∃ (F16 : Hp) (j21 : Option V), σ20 = [some v_found, j21] ∧ Nx (fun _ => False) F8 H9 F16 H19 ∧ Same H H19) ?hku48 ?h0u48 hQ ?doneu48 ?turnu48
    case hku48 =>
      intro st σ9 H19 hI
      obtain ⟨F16, j21, rfl, nL17, e018⟩ := hI
      exact nL17.ff.trans nL17.fh
    case h0u48 =>
      exact ⟨_, _, rfl, (Nx.refl' hF15), e010⟩
    case turnu48 =>
      intro seeds l25 st v26 σ9 H19 H27 hI e28 rx29 hd34 hQ
      obtain ⟨F16, j21, rfl, nL17, e018⟩ := hI
      have r_found := Rp.mono nL17.ff r_found
      have hF22 := nL17.fh
      have nA23 := nL17
      have nx30 : Nx0 F16 H19 (mix F16 H19 H27) H27 := Nx.mk' hF22 e28
      have e032 := e018.trans e28
      replace r_found := Rp.mono nx30.ff r_found
      replace nA23 := nA23.step0 nx30
      have hF33 := nx30.fh
      refine gn ?_
      obtain rfl : v26 = V.int seeds := rx29
      first | with_reducible refine st_n ?_ | skip
      refine s_if ?_ hF33 e032 hQ ?_ ?_
      · exact (t_orP (t_not (t_B (F := H27) (g_call1 (ma := .ok seeds) (g_var (a := seeds) rfl (Same.refl _))))) (t_test (F := H27) (g_b0 (g_var (a := seeds) rfl (Same.refl _)) g_int)))
      · intro F38 H39 nx37 e040 hQ
        replace hQ := if_t hQ
        replace r_found := Rp.mono nx37.ff r_found
        replace nA23 := nA23.step0 nx37
        have hF41 := nx37.fh
        first | with_reducible refine st_n ?_ | skip
        refine s_ret ?_ e040 hQ (fun a h => h)
        exact (g_sc (F' := H39) g_bl)
      intro F38 H39 nx37 e040 hQ
      replace hQ := if_f hQ
      refine st_next ?_
      replace r_found := Rp.mono nx37.ff r_found
      replace nA23 := nA23.step0 nx37
      have hF42 := nx37.fh
      exact ⟨(), ⟨_, _, rfl, nA23, e040⟩, hQ⟩
    case doneu48 =>
      intro st σ9 H19 hI hQ
      replace hQ := flk_go hQ
      obtain ⟨F16, j21, rfl, nL17, e018⟩ := hI
      have r_found := Rp.mono nL17.ff r_found
      have hF22 := nL17.fh
      first | with_reducible refine st_n ?_ | skip
      refine s_ret ?_ e018 hQ (fun a h => h)
      exact (g_sc (F' := H19) (g_orV (g_eqD (g_var (a := found) (Rp.mono hF22 r_found) (Same.refl _)) (g_lstK a_nil (Nat.le_of_ble_eq_true rfl)) (Same.refl _)) (g_andV (g_b0 (g_idx (g_var (a := found) (Rp.mono hF22 r_found) (Same.refl _)) g_int (Same.refl _)) g_int) (g_b0 (g_idx (g_var (a := found) (Rp.mono hF22 r_found) (Same.refl _)) (g_neg g_int) (Same.refl _)) g_int))))

abbrev N__law_count : List Str := ["line", "count"]
theorem sc__law_count : FnScope N__law_count ["line"] (defScope s__law_count) := ⟨rfl, rfl, rfl, by decide +kernel, rfl, by decide +kernel, by decide +kernel⟩
theorem ok__law_count (T : Hd K mg) : ∃ fd, PySem.W.keepIn K (.ref (He.ga K "_law_count")) = true ∧ Binds K fd ["line"] [] ∧ FnOk P w K mg base (L2.CX P w) 1 (He.ga K "_law_count") fd ["line"] (sp1 K m__law_count) := by
  obtain ⟨fd, F⟩ := T.d__law_count
  refine ⟨fd, F.kp, F.bindsN fun _ _ _ _ _ _ us hl => match us, hl with | [_], _ => rfl, ?_⟩
  refine F.ok sc__law_count (fun vs H Q E h => ?_) (fun cdv A outer s H vs Q E hr h => ?_)
  · obtain ⟨v_line, line, rfl, r_line, hQ⟩ := h
    rfl
  · obtain ⟨v_line, line, rfl, r_line, hQ⟩ := h
    have tk : Takes (cxOf (L2.CX P w) P w K mg base N__law_count "_law_count" (defScope s__law_count) (He.ga K "_law_count") cdv A outer s H E) (fun cls d _ H => E cls d H) := takes_of rfl rfl rfl rfl
    refine ⟨_, (by exact (pss_cons (ps_set (i := 1) sc__law_count.nd rfl (Or.inl rfl) pe_int)
          (pss_cons (ps_while (passes_of rfl) (PW.pt (pw_and (pt_cmpR op_lt (pv 1) (pe_callB call_len_seq rfl T.f_len PySem.boot_len (pa_cons (pv 0) pa_nil)) (nomark _)) (pw_and1 (pt_cmpR op_gt (pe_ix ix_list (pv 0) (pv 1) (fun _ _ => rfl)) pe_int (nomark _))))) (pss_one (ps_set (i := 1) sc__law_count.nd rfl (Or.inl rfl) (pe_op op_add (pv 1) pe_int))))
          (pss_cons (ps_if (pt_cmpR op_eq (pe_callB call_len_seq rfl T.f_len PySem.boot_len (pa_cons (pv 0) pa_nil)) pe_int (nomark _)) (pss_one (ps_ret (pe_callTy call_int1 rfl T.f_int (by decide +kernel) (pa_cons (pe_and (pe_cmpR op_gt (pe_callB (cr_min rfl) rfl T.f_min (by decide +kernel) (pa_cons (pv 0) pa_nil)) pe_int (nomark _)) (pe_one (pe_cmpR op_eq (pe_callB (cr_max rfl) rfl T.f_max (by decide +kernel) (pa_cons (pv 0) pa_nil)) pe_int (nomark _)))) pa_nil)))) pss_nil)
          (pss_one (ps_ret (pv 1))))))), ?_⟩
    unfold m__law_count at hQ
    first | with_reducible refine st_n ?_ | skip
    refine st_seq ?_
    refine s_asg ?_ (Same.refl _) (Same.refl _) hQ ?_
    · exact (g_sc (F' := H) g_int)
    intro count v5 F2 H3 nx1 e04 r6 hQ
    replace r_line := Rp.mono nx1.ff r_line
    have hF7 := nx1.fh
    obtain rfl : v5 = V.int count := r6
    first | with_reducible refine st_n ?_ | skip
    refine st_seq ?_
    replace hQ := wp_bdi hQ
    refine while_S (fun (count : Int) σ12 H11 => ∃ (F8 : Hp), σ12 = [some v_line, some (.int count)] ∧ Nx (fun _ => False) F2 H3 F8 H11 ∧ Same H H11) ?h0u41 hQ ?hcu41 ?hbu41 ?hdu41
    case h0u41 =>
      exact ⟨_, rfl, (Nx.refl' hF7), e04⟩
    case hcu41 =>
      intro count σ9 H11 hI
      obtain ⟨F8, rfl, nL9, e010⟩ := hI
      have r_line := Rp.mono nL9.ff r_line
      have hF13 := nL9.fh
      exact ⟨e010, (t_and (t_test (F := H11) (g_b0 (g_var (a := count) rfl (Same.refl _)) (g_len (g_var (a := line) (Rp.mono hF13 r_line) (Same.refl _)) (Same.refl _)))) (t_test (F := H11) (g_b0 (g_idx (g_var (a := line) (Rp.mono hF13 r_line) (Same.refl _)) (g_var (a := count) rfl (Same.refl _)) (Same.refl _)) g_int)))⟩
    case hbu41 =>
      intro n9 count σ9 H11 H16 hI e17 hQ
      obtain ⟨F8, rfl, nL9, e010⟩ := hI
      have r_line := Rp.mono nL9.ff r_line
      have hF13 := nL9.fh
      have nA14 := nL9
      have nx18 : Nx0 F8 H11 (mix F8 H11 H16) H16 := Nx.mk' hF13 e17
      have e019 := e010.trans e17
      replace r_line := Rp.mono nx18.ff r_line
      replace nA14 := nA14.step0 nx18
      have hF20 := nx18.fh
      first | with_reducible refine st_n ?_ | skip
      refine s_asg ?_ hF20 e019 hQ ?_
      · exact (g_sc (F' := H16) (g_i0 (g_var (a := count) rfl (Same.refl _)) g_int))
      intro count v26 F23 H24 nx22 e025 r27 hQ
      replace r_line := Rp.mono nx22.ff r_line
      replace nA14 := nA14.step0 nx22
      have hF28 := nx22.fh
      obtain rfl : v26 = V.int count := r27
      exact ⟨count, ⟨_, rfl, nA14, e025⟩, hQ⟩
    case hdu41 =>
      intro count σ9 H11 H16 hI e17 hQ
      obtain ⟨F8, rfl, nL9, e010⟩ := hI
      have r_line := Rp.mono nL9.ff r_line
      have hF13 := nL9.fh
      have nx18 : Nx0 F8 H11 (mix F8 H11 H16) H16 := Nx.mk' hF13 e17
      have e019 := e010.trans e17
      replace r_line := Rp.mono nx18.ff r_line
      have hF29 := nx18.fh
      first | with_reducible refine st_n ?_ | skip
      refine st_seq ?_
      refine s_if ?_ hF29 e019 hQ ?_ ?_
      · exact (t_test (F := H16) (g_eq (g_len (g_var (a := line) (Rp.mono hF29 r_line) (Same.refl _)) (Same.refl _)) g_int))
      · intro F31 H32 nx30 e033 hQ
        replace hQ := if_t hQ
        replace r_line := Rp.mono nx30.ff r_line
        have hF34 := nx30.fh
        first | with_reducible refine st_n ?_ | skip
        refine s_ret ?_ e033 hQ (fun a h => h)
        exact (g_sc (F' := H32) (g_intB (g_andV (g_b0 (g_min (g_var (a := line) (Rp.mono hF34 r_line) (Same.refl _)) (Same.refl _)) g_int) (g_eq (g_max (g_var (a := line) (Rp.mono hF34 r_line) (Same.refl _)) (Same.refl _)) g_int))))
      intro F31 H32 nx30 e033 hQ
      replace hQ := if_f hQ
      refine st_next ?_
      replace r_line := Rp.mono nx30.ff r_line
      have hF35 := nx30.fh
      first | with_reducible refine st_n ?_ | skip
      refine s_ret ?_ e033 hQ (fun a h => h)
      exact (g_var (a := count) rfl dif_le)

abbrev N__law_right : List Str := ["line", "found", "last", "other"]
theorem sc__law_right : FnScope N__law_right ["line", "found"] (defScope s__law_right) := ⟨rfl, rfl, rfl, by decide +kernel, rfl, by decide +kernel, by decide +kernel⟩
theorem ok__law_right (T : Hd K mg) : ∃ fd, PySem.W.keepIn K (.ref (He.ga K "_law_right")) = true ∧ Binds K fd ["line", "found"] [] ∧ FnOk P w K mg base (L2.CX P w) 3 (He.ga K "_law_right") fd ["line", "found"] (sp2 K m__law_right) := by
  obtain ⟨fd, F⟩ := T.d__law_right
  obtain ⟨fd__law_count, kp__law_count, b__law_count, G__law_count⟩ := ok__law_count (P := P) (w := w) (base := base) T
  obtain ⟨fd__law_is_line, kp__law_is_line, b__law_is_line, G__law_is_line⟩ := ok__law_is_line (P := P) (w := w) (base := base) T
  obtain ⟨fd__law_march, kp__law_march, b__law_march, G__law_march⟩ := ok__law_march (P := P) (w := w) (base := base) T
  refine ⟨fd, F.kp, F.bindsN fun _ _ _ _ _ _ us hl => match us, hl with | [_, _], _ => rfl, ?_⟩
  refine F.ok sc__law_right (fun vs H Q E h => ?_) (fun cdv A outer s H vs Q E hr h => ?_)
  · obtain ⟨v_line, v_found, line, found, rfl, r_line, r_found, hQ⟩ := h
    rfl
  · obtain ⟨v_line, v_found, line, found, rfl, r_line, r_found, hQ⟩ := h
    have tk : Takes (cxOf (L2.CX P w) P w K mg base N__law_right "_law_right" (defScope s__law_right) (He.ga K "_law_right") cdv A outer s H E) (fun cls d _ H => E cls d H) := takes_of rfl rfl rfl rfl
    refine ⟨_, (by exact (pss_cons (ps_if (pt_not (pt_val (pe_callB call_isi rfl T.f_isinstance (by decide +kernel) (pa_cons (pv 1) (pa_cons (pe_bltn (v := .ty "list") rfl T.f_list (by rfl) rfl) pa_nil))))) (pss_one (ps_ret pe_bl)) pss_nil)
          (pss_cons (ps_if (pt_cmpR (op_eqP hr.units) (pv 0) (pe_lst pa_nil) (nomark _)) (pss_one (ps_ret (pe_cmpR (op_eqP hr.units) (pv 1) (pe_lst (pa_cons (pe_lst pa_nil) pa_nil)) (nomark _)))) pss_nil)
          (pss_cons (ps_set (i := 2) sc__law_right.nd rfl (Or.inl rfl) pe_int)
          (pss_cons (ps_for (passes_of rfl) rfl (pi_list (pv 1)) (pg_name (i := 3) sc__law_right.nd rfl (Or.inl rfl)) (pss_cons (ps_if (PW.pt (pw_or (pt_not (pt_val (pe_callS G__law_is_line (hr.mono (by decide)) rfl T.g__law_is_line kp__law_is_line b__law_is_line (fun σ => passAt tk σ) (pa_cons (pv 3) pa_nil)))) (pw_or (pt_cmpR (op_eqP hr.units) (pv 3) (pe_lst pa_nil) (nomark _)) (pw_or (pt_cmpR op_le (pe_ix ix_list (pv 3) pe_int (fun _ _ => rfl)) (pv 2) (nomark _)) (pw_or1 (pt_cmpR (op_neP hr.units) (pe_callS G__law_march (hr.mono (by decide)) rfl T.g__law_march kp__law_march b__law_march (fun σ => passAt tk σ) (pa_cons (pv 3) pa_nil)) (pv 0) (nomark _))))))) (pss_one (ps_ret pe_bl)) pss_nil)
          (pss_one (ps_set (i := 2) sc__law_right.nd rfl (Or.inl rfl) (pe_ix ix_list (pv 3) pe_int (fun _ _ => rfl))))))
          (pss_one (ps_ret (pe_cmpR op_eq (pe_callB call_len_seq rfl T.f_len PySem.boot_len (pa_cons (pv 1) pa_nil)) (pe_callS G__law_count (hr.mono (by decide)) rfl T.g__law_count kp__law_count b__law_count (fun σ => passAt tk σ) (pa_cons (pv 0) pa_nil)) (nomark _))))))))), ?_⟩
    unfold m__law_right at hQ
    first | with_reducible refine st_n ?_ | skip
    refine st_seq ?_
    refine s_if ?_ (Same.refl _) (Same.refl _) hQ ?_ ?_
    · exact (t_not (t_B (F := H) (g_isi (b := true) (g_var (a := found) (Rp.mono (Same.refl _) r_found) (Same.refl _)) (Same.refl _))))
    · intro F2 H3 nx1 e04 hQ
      replace hQ := if_t hQ
      replace r_line := Rp.mono nx1.ff r_line
      replace r_found := Rp.mono nx1.ff r_found
      have hF5 := nx1.fh
      first | with_reducible refine st_n ?_ | skip
      refine s_ret ?_ e04 hQ (fun a h => h)
      exact (g_sc (F' := H3) g_bl)
    intro F2 H3 nx1 e04 hQ
    replace hQ := if_f hQ
    refine st_next ?_
    replace r_line := Rp.mono nx1.ff r_line
    replace r_found := Rp.mono nx1.ff r_found
    have hF6 := nx1.fh
    first | with_reducible refine st_n ?_ | skip
    refine st_seq ?_
    refine s_if ?_ hF6 e04 hQ ?_ ?_
    · exact (t_test (F := H3) (g_eqD (g_var (a := line) (Rp.mono hF6 r_line) (Same.refl _)) (g_lstK a_nil (Nat.le_of_ble_eq_true rfl)) (Same.refl _)))
    · intro F8 H9 nx7 e010 hQ
      replace hQ := if_t hQ
      replace r_line := Rp.mono nx7.ff r_line
      replace r_found := Rp.mono nx7.ff r_found
      have hF11 := nx7.fh
      first | with_reducible refine st_n ?_ | skip
      refine s_ret ?_ e010 hQ (fun a h => h)
      exact (g_sc (F' := H9) (g_eqD (g_var (a := found) (Rp.mono hF11 r_found) (Same.refl _)) (g_lstK (a_cons (g_lstK a_nil (Nat.le_of_ble_eq_true rfl)) a_nil) (Nat.le_of_ble_eq_true rfl)) (Same.refl _)))
    intro F8 H9 nx7 e010 hQ
    replace hQ := if_f hQ
    refine st_next ?_
    replace r_line := Rp.mono nx7.ff r_line
    replace r_found := Rp.mono nx7.ff r_found
    have hF12 := nx7.fh
    first | with_reducible refine st_n ?_ | skip
    refine st_seq ?_
    refine s_asg ?_ hF12 e010 hQ ?_
    · exact (g_sc (F' := H9) g_int)
    intro last v17 F14 H15 nx13 e016 r18 hQ
    replace r_line := Rp.mono nx13.ff r_line
    replace r_found := Rp.mono nx13.ff r_found
    have hF19 := nx13.fh
    obtain rfl : v17 = V.int last := r18
    first | with_reducible refine st_n ?_ | skip
    refine st_seq ?_
    refine s_for ?_ hF19 e016 hQ ?_
    · exact (i_list (g_var (a := found) r_found hF19) hF19)
    intro xs24 J25 F21 H22 nx20 e023 ok26 hQ
    replace r_line := Rp.mono nx20.ff r_line
    replace r_found := Rp.mono nx20.ff r_found
    have hF28 := nx20.fh
    replace hQ := wp_bdi hQ
    refine for_Rd ok26 (fun (last : Int) σ33 H32 => ∃ (F29 : Hp) (j34 : Option V), σ33 = [some v_line, some v_found, some (.int last), j34] ∧ Nx (fun _ => False) F21 H22 F29 H32 ∧ Same H H32) ?hku70 ?h0u70 hQ ?doneu70 ?turnu70
    case hku70 =>
      intro last σ9 H32 hI
      obtain ⟨F29, j34, rfl, nL30, e031⟩ := hI
      exact nL30.ff.trans nL30.fh
    case h0u70 =>
      exact ⟨_, _, rfl, (Nx.refl' hF28), e023⟩
    case turnu70 =>
      intro other l38 last v39 σ9 H32 H40 hI e41 rx42 hd48 hQ
      obtain ⟨F29, j34, rfl, nL30, e031⟩ := hI
      have r_line := Rp.mono nL30.ff r_line
      have r_found := Rp.mono nL30.ff r_found
      have hF35 := nL30.fh
      have nA36 := nL30
      have nx43 : Nx0 F29 H32 (mix F29 H32 H40) H40 := Nx.mk' hF35 e41
      have e045 := e031.trans e41
      replace r_line := Rp.mono nx43.ff r_line
      replace r_found := Rp.mono nx43.ff r_found
      replace nA36 := nA36.step0 nx43
      have hF46 := nx43.fh
      refine gn ?_
      have r47 := (Rp.mono (mix_ff nL30.ff) rx42)
      first | with_reducible refine st_n ?_ | skip
      refine st_seq ?_
      refine s_if ?_ hF46 e045 hQ ?_ ?_
      · exact (t_or (t_not (t_B (F := H40) (g_call1 (ma := .ok other) (g_var (a := other) (Rp.mono hF46 r47) (Same.refl _))))) (t_or (t_test (F := H40) (g_eqD (g_var (a := other) (Rp.mono hF46 r47) (Same.refl _)) (g_lstK a_nil (Nat.le_of_ble_eq_true rfl)) (Same.refl _))) (t_or (t_test (F := H40) (g_b0 (g_idx (g_var (a := other) (Rp.mono hF46 r47) (Same.refl _)) g_int (Same.refl _)) (g_var (a := last) rfl (Same.refl _)))) (t_test (F := H40) (g_neD (g_call1 (ma := .ok other) (g_var (a := other) (Rp.mono hF46 r47) (Same.refl _))) (g_var (a := line) (Rp.mono hF46 r_line) (Same.refl _)) (Same.refl _))))))
      · intro F55 H56 nx54 e057 hQ
        replace hQ := if_t hQ
        replace r_line := Rp.mono nx54.ff r_line
        replace r_found := Rp.mono nx54.ff r_found
        replace r47 := Rp.mono nx54.ff r47
        replace nA36 := nA36.step0 nx54
        have hF58 := nx54.fh
        first | with_reducible refine st_n ?_ | skip
        refine s_ret ?_ e057 hQ (fun a h => h)
        exact (g_sc (F' := H56) g_bl)
      intro F55 H56 nx54 e057 hQ
      replace hQ := if_f hQ
      refine st_next ?_
      replace r_line := Rp.mono nx54.ff r_line
      replace r_found := Rp.mono nx54.ff r_found
      replace r47 := Rp.mono nx54.ff r47
      replace nA36 := nA36.step0 nx54
      have hF59 := nx54.fh
      first | with_reducible refine st_n ?_ | skip
      refine s_asg ?_ hF59 e057 hQ ?_
      · exact (g_sc (F' := H56) (g_idx (g_var (a := other) (Rp.mono hF59 r47) (Same.refl _)) g_int (Same.refl _)))
      intro last v64 F61 H62 nx60 e063 r65 hQ
      replace r_line := Rp.mono nx60.ff r_line
      replace r_found := Rp.mono nx60.ff r_found
      replace r47 := Rp.mono nx60.ff r47
      replace nA36 := nA36.step0 nx60
      have hF66 := nx60.fh
      obtain rfl : v64 = V.int last := r65
      exact ⟨last, ⟨_, _, rfl, nA36, e063⟩, hQ⟩
    case doneu70 =>
      intro last σ9 H32 hI hQ
      replace hQ := flk_go hQ
      obtain ⟨F29, j34, rfl, nL30, e031⟩ := hI
      have r_line := Rp.mono nL30.ff r_line
      have r_found := Rp.mono nL30.ff r_found
      have hF35 := nL30.fh
      first | with_reducible refine st_n ?_ | skip
      refine s_ret ?_ e031 hQ (fun a h => h)
      exact (g_sc (F' := H32) (g_eq (g_len (g_var (a := found) (Rp.mono hF35 r_found) (Same.refl _)) (Same.refl _)) (g_call1 (ma := .ok line) (g_var (a := line) (Rp.mono hF35 r_line) (Same.refl _)))))

abbrev N__law_apart : List Str := ["found", "kept", "k"]
theorem sc__law_apart : FnScope N__law_apart ["found", "kept"] (defScope s__law_apart) := ⟨rfl, rfl, rfl, by decide +kernel, rfl, by decide +kernel, by decide +kernel⟩
def spX__law_apart (K : PySem.W.Frag) : Sp := fun vs H Q E => ∃ (v_found : V) (v_kept : V) (found : List (List Int)) (kept : List (List Int)) (S0 : Addr → Prop) (Gz : Hp), vs = [v_found, v_kept] ∧ Same Gz H ∧ Tr.tr K H S0 v_found found ∧ Rp.rep K Gz v_kept kept ∧ (∀ b, S0 b → Gz b = none ∧ muc H b) ∧ Wp (m__law_apart found kept) (fun r => ∀ v' F' H', Nx S0 Gz H F' H' → Rp.rep K F' v' r → Q v' H') (EE K E (delS S0 H))
theorem g_X__law_apart {E : XK} {σ : L2.St} {H0 F H : Hp} {Ex : L2.St → XK} {m0 : R (List (List Int))} {t0 : TE} {found : List (List Int)} {v_found : V} {SS : Addr → Prop} {tx : TE} (h0 : Gr K E t0 σ F H m0) (o : ApO K H0 F H SS v_found found) (hv : AtV tx σ H v_found) (hF : Same F H) (e0 : Same H0 H) (hE : Ex σ = E := by rfl) :
    GrM K E (tCallS (spX__law_apart K) Ex (tCons tx (tCons t0 tNil))) σ H0 F H (fun q => (SS q ∧ tupB (H q) = false) ∨ False) (fun _ _ (_ : Unit) => True) (R.bd m0 fun (kept : List (List Int)) => R.bd (m__law_apart found kept) fun r => .ok (r, ())) := by
  subst hE
  intro Q hq
  refine hv _ (Same.refl _) _ ?_
  refine gm_arg h0 (Same.refl _) e0 hq fun kept v_kept H1 e1 r_kept hq => ?_
  obtain ⟨S0, tr0, hS0, hSS, h0⟩ := apo_out o e1 hF
  have n0 := Nx.mk' hF e1
  have e9 := e0.trans e1
  replace hq := wp_bdi hq
  exact ⟨v_found, v_kept, found, kept, S0, mix F H H1, rfl, mix_same hF e1, tr0, r_kept, hS0, wp_mono hq (fun r _ k v' F' H' n r' => k v' F' H' ((n0.tr n).wk fun q z => .inl (hSS q z)) (n.e0 e9 h0) trivial r') fun c _ z => z.mono (same_delS e9 h0)⟩
theorem ok__law_apart (T : Hd K mg) : ∃ fd, PySem.W.keepIn K (.ref (He.ga K "_law_apart")) = true ∧ Binds K fd ["found", "kept"] [] ∧ FnOk P w K mg base (L2.CX P w) 1 (He.ga K "_law_apart") fd ["found", "kept"] (spX__law_apart K) := by
  obtain ⟨fd, F⟩ := T.d__law_apart
  refine ⟨fd, F.kp, F.bindsN fun _ _ _ _ _ _ us hl => match us, hl with | [_, _], _ => rfl, ?_⟩
  refine F.ok sc__law_apart (fun vs H Q E h => ?_) (fun cdv A outer s Hz vs Q E hr h => ?_)
  · obtain ⟨v_found, v_kept, found, kept, S0, Gz, rfl, hG, w_found, r_kept, hS0, hQ⟩ := h
    rfl
  · obtain ⟨v_found, v_kept, found, kept, S0, Gz, rfl, hG, w_found, r_kept, hS0, hQ⟩ := h
    obtain ⟨H, hH⟩ : ∃ H, H = delS S0 Hz := ⟨_, rfl⟩
    rw [← hH] at hQ
    have e0z : Same H Hz := by rw [hH]; exact delS_le
    obtain ⟨SS0, hSS⟩ : ∃ SS0 : Addr → Prop, ∀ b, SS0 b ↔ (S0 b ∨ Hz b = none) := ⟨_, fun _ => Iff.rfl⟩
    have A_found : ApO K H Gz Hz SS0 v_found found := by rw [hH]; exact (apo_in w_found hS0).sub fun b z => (hSS b).mpr z
    have nR : Nx (fun q => (SS0 q ∧ tupB (Hz q) = false) ∨ False) Gz Hz Gz Hz := Nx.refl' hG
    have tk : Takes (cxOf (L2.CX P w) P w K mg base N__law_apart "_law_apart" (defScope s__law_apart) (He.ga K "_law_apart") cdv A outer s Hz E) (fun cls d _ H => E cls d H) := takes_of rfl rfl rfl rfl
    refine ⟨_, (by exact (pss_cons (ps_for (passes_of rfl) rfl (pi_range1 rfl T.f_range (pa_cons (pe_callB call_len_seq rfl T.f_len PySem.boot_len (pa_cons (pv 1) pa_nil)) pa_nil)) (pg_name (i := 2) sc__law_apart.nd rfl (Or.inl rfl)) (pss_cons (ps_if (pt_cmpR (op_neP hr.units) (pe_ix ix_list (pv 0) (pv 2) (fun _ _ => rfl)) (pe_ix ix_list (pv 1) (pv 2) (fun _ _ => rfl)) (nomark _)) (pss_one (ps_ret pe_bl)) pss_nil)
          (pss_one (ps_expr (pe_bm PySem.F.plainAttrs_list PySem.F.slot_list_append PySem.F.type_list_append mt_append (pe_ix ix_list (pv 0) (pv 2) (fun _ _ => rfl)) (pa_cons pe_int pa_nil))))))
          (pss_cons (ps_expr (pe_bm PySem.F.plainAttrs_list PySem.F.slot_list_append PySem.F.type_list_append mt_append (pv 0) (pa_cons (pe_lst (pa_cons pe_int pa_nil)) pa_nil)))
          (pss_one (ps_ret pe_bl))))), ?_⟩
    unfold m__law_apart at hQ
    first | with_reducible refine st_n ?_ | skip
    refine st_seq ?_
    refine s_for ?_ hG e0z hQ ?_
    · exact (i_rng1 (g_sc (F' := Hz) (g_len (g_var (a := kept) (Rp.mono hG r_kept) (Same.refl _)) (Same.refl _))))
    intro xs5 J6 F2 H3 nx1 e04 ok7 hQ
    replace A_found := A_found.nx0 nx1
    replace r_kept := Rp.mono nx1.ff r_kept
    replace nR := nR.step0 nx1
    have hF9 := nx1.fh
    replace hQ := wp_bdi hQ
    refine for_Rd ok7 (fun (found : (List (List Int))) σ14 H13 => ∃ (F10 : Hp) (j16 : Option V), σ14 = [some v_found, some v_kept, j16] ∧ Nx (fun q => (SS0 q ∧ tupB (H3 q) = false) ∨ False) F2 H3 F10 H13 ∧ Same H H13 ∧ ApO K H F10 H13 SS0 v_found found) ?hku66 ?h0u66 hQ ?doneu66 ?turnu66
    case hku66 =>
      intro found σ9 H13 hI
      obtain ⟨F10, j16, rfl, nL11, e012, A15⟩ := hI
      exact nL11.ff.trans nL11.fh
    case h0u66 =>
      exact ⟨_, _, rfl, (Nx.refl' hF9), e04, A_found⟩
    case turnu66 =>
      intro k l20 found v21 σ9 H13 H22 hI e23 rx24 hd29 hQ
      obtain ⟨F10, j16, rfl, nL11, e012, A15⟩ := hI
      have r_kept := Rp.mono nL11.ff r_kept
      have hF17 := nL11.fh
      have nR := nR.step nL11 (fun q => fun z => Or.elim z (fun z => ((ap_in nR z.1 z.2).imp (fun w => .inl w) id)) (fun z => z.elim))
      have nA18 := nL11
      have nx25 : Nx0 F10 H13 (mix F10 H13 H22) H22 := Nx.mk' hF17 e23
      have e027 := e012.trans e23
      replace A15 := A15.nx0 nx25
      replace r_kept := Rp.mono nx25.ff r_kept
      replace nR := nR.step0 nx25
      replace nA18 := nA18.step0 nx25
      have hF28 := nx25.fh
      refine gn ?_
      obtain rfl : v21 = V.int k := rx24
      first | with_reducible refine st_n ?_ | skip
      refine st_seq ?_
      refine s_if ?_ hF28 e027 hQ ?_ ?_
      · exact (t_test (F := H22) (g_neD (g_idx (g_var (a := found) A15.see (Same.refl _)) (g_var (a := k) rfl (Same.refl _)) (Same.refl _)) (g_idx (g_var (a := kept) (Rp.mono hF28 r_kept) (Same.refl _)) (g_var (a := k) rfl (Same.refl _)) (Same.refl _)) (Same.refl _)))
      · intro F33 H34 nx32 e035 hQ
        replace hQ := if_t hQ
        replace A15 := A15.nx0 nx32
        replace r_kept := Rp.mono nx32.ff r_kept
        replace nR := nR.step0 nx32
        replace nA18 := nA18.step0 nx32
        have hF36 := nx32.fh
        first | with_reducible refine st_n ?_ | skip
        refine s_retM ?_ hF36 e035 nR hQ (fun a h v F' H' n n0 r => h v F' H' (n.wkN fun q z => z.elim (fun w => (hSS q).mp w.1) fun w => w.elim) r)
        exact (g_sc (F' := H34) g_bl)
      intro F33 H34 nx32 e035 hQ
      replace hQ := if_f hQ
      refine st_next ?_
      replace A15 := A15.nx0 nx32
      replace r_kept := Rp.mono nx32.ff r_kept
      replace nR := nR.step0 nx32
      replace nA18 := nA18.step0 nx32
      have hF37 := nx32.fh
      first | with_reducible refine st_n ?_ | skip
      replace hQ := wp_bdi hQ
      obtain ⟨j47, x48, hj49, hx50, hQ⟩ := idx_wp hQ
      refine s_apF (me := .ok (1 : Int)) A15 (sub_ix (sub_v (atv_v rfl)) (ati_v (i := k)) hj49 hx50) ?he hF37 e035 hQ ?_
      case he => exact g_int
      intro y46 q42 F39 H40 nx38 e041 hq43 ht44 A45 hQ
      replace hQ := set_wp hj49 hQ
      replace hQ := wp_okb hQ
      obtain ⟨foundN, hz52⟩ : ∃ z, z = (found.set j47 y46) := ⟨_, rfl⟩
      have A45 : ApO K H F39 H40 SS0 v_found foundN := by rw [hz52]; exact A45
      rw [← hz52] at hQ
      clear hz52
      replace r_kept := Rp.mono nx38.ff r_kept
      replace nR := nR.step nx38 (fun q z => by rw [z]; exact (ap_in nR hq43 ht44).imp (fun w => .inl w) id)
      replace nA18 := nA18.step nx38 (fun q z => by rw [z]; exact (ap_in nA18 hq43 ht44).imp (fun w => .inl w) id)
      have hF53 := nx38.fh
      exact ⟨foundN, ⟨_, _, rfl, nA18, e041, A45⟩, hQ⟩
    case doneu66 =>
      intro found σ9 H13 hI hQ
      replace hQ := flk_go hQ
      obtain ⟨F10, j16, rfl, nL11, e012, A15⟩ := hI
      have r_kept := Rp.mono nL11.ff r_kept
      have hF17 := nL11.fh
      have nR := nR.step nL11 (fun q => fun z => Or.elim z (fun z => ((ap_in nR z.1 z.2).imp (fun w => .inl w) id)) (fun z => z.elim))
      first | with_reducible refine st_n ?_ | skip
      refine st_seq ?_
      refine s_apDie (me := .ok [(1 : Int)]) A15 (atv_v rfl) ?he hF17 e012 hQ ?_
      case he => exact (g_lstK (a_cons g_int a_nil) (Nat.le_of_ble_eq_true rfl))
      intro q59 F56 H57 nx55 e058 hq60 ht61 hQ
      replace r_kept := Rp.mono nx55.ff r_kept
      replace nR := nR.step nx55 (fun q z => by rw [z]; exact (ap_in nR hq60 ht61).imp (fun w => .inl w) id)
      have hF64 := nx55.fh
      first | with_reducible refine st_n ?_ | skip
      refine s_retM ?_ hF64 e058 nR hQ (fun a h v F' H' n n0 r => h v F' H' (n.wkN fun q z => z.elim (fun w => (hSS q).mp w.1) fun w => w.elim) r)
      exact (g_sc (F' := H57) g_bl)

abbrev N_law : List Str := ["script", "numbers", "line", "behind_it", "one", "handed", "found", "kept", "other"]
theorem sc_law : FnScope N_law ["script"] (defScope s_law) := ⟨rfl, rfl, rfl, by decide +kernel, rfl, by decide +kernel, by decide +kernel⟩
theorem ok_law (T : Hd K mg) {fd : FuncData} (F : FunD K "law" "law" (defArgs s_law) (defBody s_law) (defScope s_law) [] [] (He.ga K "law") fd) : FnOk P w K mg base (L2.CX P w) 4 (He.ga K "law") fd ["script"] (sp1 K m_law) := by
  obtain ⟨fd__law_apart, kp__law_apart, b__law_apart, G__law_apart⟩ := ok__law_apart (P := P) (w := w) (base := base) T
  obtain ⟨fd__law_line, kp__law_line, b__law_line, G__law_line⟩ := ok__law_line (P := P) (w := w) (base := base) T
  obtain ⟨fd__law_march, kp__law_march, b__law_march, G__law_march⟩ := ok__law_march (P := P) (w := w) (base := base) T
  obtain ⟨fd__law_numbers, kp__law_numbers, b__law_numbers, G__law_numbers⟩ := ok__law_numbers (P := P) (w := w) (base := base) T
  obtain ⟨fd__law_right, kp__law_right, b__law_right, G__law_right⟩ := ok__law_right (P := P) (w := w) (base := base) T
  obtain ⟨fd_ahead_of, kp_ahead_of, b_ahead_of, G_ahead_of⟩ := ok_ahead_of (P := P) (w := w) (base := base) T
  refine F.ok sc_law (fun vs H Q E h => ?_) (fun cdv A outer s H vs Q E hr h => ?_)
  · obtain ⟨v_script, script, rfl, r_script, hQ⟩ := h
    rfl
  · obtain ⟨v_script, script, rfl, r_script, hQ⟩ := h
    have tk : Takes (cxOf (L2.CX P w) P w K mg base N_law "law" (defScope s_law) (He.ga K "law") cdv A outer s H E) (fun cls d _ H => E cls d H) := takes_of rfl rfl rfl rfl
    refine ⟨_, (by exact (pss_cons (ps_set (i := 1) sc_law.nd rfl (Or.inl rfl) (pe_callS G__law_numbers (hr.mono (by decide)) rfl T.g__law_numbers kp__law_numbers b__law_numbers (fun σ => passAt tk σ) (pa_cons (pv 0) (pa_cons pe_int pa_nil))))
          (pss_cons (ps_set (i := 2) sc_law.nd rfl (Or.inl rfl) (pe_callS G__law_line (hr.mono (by decide)) rfl T.g__law_line kp__law_line b__law_line (fun σ => passAt tk σ) (pa_cons (pv 1) pa_nil)))
          (pss_cons (ps_set (i := 3) sc_law.nd rfl (Or.inl rfl) (pe_callS G__law_march (hr.mono (by decide)) rfl T.g__law_march kp__law_march b__law_march (fun σ => passAt tk σ) (pa_cons (pv 2) pa_nil)))
          (Evl.pss_cut (ps_if (pt_cmpR op_eq (pe_op op_mod (pe_ix ix_list (pv 1) pe_int (fun _ _ => rfl)) pe_int) pe_int (nomark _)) (pss_cons (ps_set (i := 2) sc_law.nd rfl (Or.inl rfl) (pe_callS G__law_march (hr.mono (by decide)) rfl T.g__law_march kp__law_march b__law_march (fun σ => passAt tk σ) (pa_cons (pv 3) pa_nil)))
          (pss_one (ps_set (i := 3) sc_law.nd rfl (Or.inl rfl) (pe_callS G__law_march (hr.mono (by decide)) rfl T.g__law_march kp__law_march b__law_march (fun σ => passAt tk σ) (pa_cons (pv 2) pa_nil))))) pss_nil)
          (pss_cons (ps_for (passes_of rfl) rfl (pi_list (pe_lst (pa_cons (pv 2) (pa_cons (pv 3) pa_nil)))) (pg_name (i := 4) sc_law.nd rfl (Or.inl rfl)) (pss_cons (ps_set (i := 5) sc_law.nd rfl (Or.inl rfl) (pe_callTy call_list_of rfl T.f_list (by decide +kernel) (pa_cons (pv 4) pa_nil)))
          (pss_cons (ps_set (i := 6) sc_law.nd rfl (Or.inl rfl) (pe_callS G_ahead_of (hr.mono (by decide)) rfl T.g_ahead_of kp_ahead_of b_ahead_of (fun σ => passAt tk σ) (pa_cons (pv 5) pa_nil)))
          (pss_cons (ps_if (PW.pt (pw_or (pt_cmpR (op_neP hr.units) (pv 5) (pv 4) (nomark _)) (pw_or1 (pt_not (pt_val (pe_callS G__law_right (hr.mono (by decide)) rfl T.g__law_right kp__law_right b__law_right (fun σ => passAt tk σ) (pa_cons (pv 4) (pa_cons (pv 6) pa_nil)))))))) (pss_one (ps_ret pe_bl)) pss_nil)
          (pss_cons (ps_setLc (i := 7) (own := [("other", 8)]) (g := gName 8) (tt := tYes) rfl sc_law.nd rfl rfl (sw_true rfl rfl rfl (by decide +kernel)) (pi_list (pv 6)) (blkOk_by (N := N_law) (sc := defScope s_law) (by decide +kernel)) (fun _ _ _ _ _ => pg_name (i := 8) sc_law.nd rfl (Or.inl rfl)) (fun _ _ _ _ _ => pts_nil) (fun _ _ _ _ _ => (pe_callTy (call_list_ofK (K := K) rfl) rfl T.f_list (by decide +kernel) (pa_cons (pv 8) pa_nil))))
          (pss_cons (ps_if (PW.pt (pw_and (pt_cmpR (op_eqP hr.units) (pv 4) (pv 3) (nomark _)) (pw_and1 (pt_cmpR (op_notInP hr.units) (pv 2) (pv 7) (by rfl))))) (pss_one (ps_ret pe_bl)) pss_nil)
          (pss_one (ps_if (PW.pt (pw_or (pt_not (pt_val (pe_callS G__law_apart (hr.mono (by decide)) rfl T.g__law_apart kp__law_apart b__law_apart (fun σ => passAt tk σ) (pa_cons (pv 6) (pa_cons (pv 7) pa_nil))))) (pw_or (pt_cmpR (op_neP hr.units) (pe_callS G_ahead_of (hr.mono (by decide)) rfl T.g_ahead_of kp_ahead_of b_ahead_of (fun σ => passAt tk σ) (pa_cons (pv 5) pa_nil)) (pv 7) (nomark _)) (pw_or1 (pt_cmpR (op_neP hr.units) (pv 5) (pv 4) (nomark _)))))) (pss_one (ps_ret pe_bl)) pss_nil))))))))
          (pss_one (ps_ret pe_bl)))))))), ?_⟩
    unfold m_law at hQ
    first | with_reducible refine st_n ?_ | skip
    refine st_seq ?_
    refine s_asg ?_ (Same.refl _) (Same.refl _) hQ ?_
    · exact (g_call2 (ma := .ok script) (mb := .ok (63 : Int)) (g_var (a := script) (Rp.mono (Same.refl _) r_script) (Same.refl _)) g_int)
    intro numbers v5 F2 H3 nx1 e04 r6 hQ
    replace r_script := Rp.mono nx1.ff r_script
    have hF7 := nx1.fh
    first | with_reducible refine st_n ?_ | skip
    refine st_seq ?_
    refine s_asg ?_ hF7 e04 hQ ?_
    · exact (g_call1 (ma := .ok numbers) (g_var (a := numbers) (Rp.mono hF7 r6) (Same.refl _)))
    intro line v12 F9 H10 nx8 e011 r13 hQ
    replace r_script := Rp.mono nx8.ff r_script
    replace r6 := Rp.mono nx8.ff r6
    have hF14 := nx8.fh
    first | with_reducible refine st_n ?_ | skip
    refine st_seq ?_
    refine s_asg ?_ hF14 e011 hQ ?_
    · exact (g_call1 (ma := .ok line) (g_var (a := line) (Rp.mono hF14 r13) (Same.refl _)))
    intro behind_it v19 F16 H17 nx15 e018 r20 hQ
    replace r_script := Rp.mono nx15.ff r_script
    replace r6 := Rp.mono nx15.ff r6
    replace r13 := Rp.mono nx15.ff r13
    have hF21 := nx15.fh
    first | with_reducible refine st_n ?_ | skip
    replace hQ := wp_bdi hQ
    refine s_cutW (I := fun (st : (List Int) × (List Int)) σ32 H31 => match st with | (line, behind_it) => ∃ (F28 : Hp) (v33 : V) (v35 : V), σ32 = [some v_script, some v5, some v33, some v35, none, none, none, none, none] ∧ Nx (fun _ => False) F16 H17 F28 H31 ∧ Same H H31 ∧ Rp.rep K F28 v33 line ∧ Rp.rep K F28 v35 behind_it) (hQ := hQ) ?_ ?_
    · intro hQ
      have nA38 : Nx (fun _ => False) F16 H17 F16 H17 := Nx.refl' hF21
      refine s_if ?_ hF21 e018 hQ ?_ ?_
      · exact (t_test (F := H17) (g_eq (g_modL (by decide +kernel) (g_idx (g_var (a := numbers) (Rp.mono hF21 r6) (Same.refl _)) g_int (Same.refl _)) g_int) g_int))
      · intro F25 H26 nx24 e027 hQ
        replace hQ := if_t hQ
        replace r_script := Rp.mono nx24.ff r_script
        replace r6 := Rp.mono nx24.ff r6
        replace r13 := Rp.mono nx24.ff r13
        replace r20 := Rp.mono nx24.ff r20
        replace nA38 := nA38.step0 nx24
        have hF39 := nx24.fh
        first | with_reducible refine st_n ?_ | skip
        refine st_seq ?_
        refine s_asg ?_ hF39 e027 hQ ?_
        · exact (g_call1 (ma := .ok behind_it) (g_var (a := behind_it) (Rp.mono hF39 r20) (Same.refl _)))
        intro line v45 F42 H43 nx41 e044 r46 hQ
        replace r_script := Rp.mono nx41.ff r_script
        replace r6 := Rp.mono nx41.ff r6
        replace r20 := Rp.mono nx41.ff r20
        replace nA38 := nA38.step0 nx41
        have hF47 := nx41.fh
        first | with_reducible refine st_n ?_ | skip
        refine s_asg ?_ hF47 e044 hQ ?_
        · exact (g_call1 (ma := .ok line) (g_var (a := line) (Rp.mono hF47 r46) (Same.refl _)))
        intro behind_it v52 F49 H50 nx48 e051 r53 hQ
        replace r_script := Rp.mono nx48.ff r_script
        replace r6 := Rp.mono nx48.ff r6
        replace r46 := Rp.mono nx48.ff r46
        replace nA38 := nA38.step0 nx48
        have hF54 := nx48.fh
        exact ⟨(line, behind_it), ⟨_, _, _, rfl, nA38, e051, r46, r53⟩, hQ⟩
      intro F25 H26 nx24 e027 hQ
      replace hQ := if_f hQ
      refine st_next ?_
      replace r_script := Rp.mono nx24.ff r_script
      replace r6 := Rp.mono nx24.ff r6
      replace r13 := Rp.mono nx24.ff r13
      replace r20 := Rp.mono nx24.ff r20
      replace nA38 := nA38.step0 nx24
      have hF40 := nx24.fh
      exact ⟨(line, behind_it), ⟨_, _, _, rfl, nA38, e027, r13, r20⟩, hQ⟩
    rintro ⟨line, behind_it⟩ σ9 H31 hI hQ
    obtain ⟨F28, v33, v35, rfl, nL29, e030, r34, r36⟩ := hI
    have r_script := Rp.mono nL29.ff r_script
    have r6 := Rp.mono nL29.ff r6
    have hF37 := nL29.fh
    first | with_reducible refine st_n ?_ | skip
    refine st_seq ?_
    refine s_for ?_ hF37 e030 hQ ?_
    · exact (i_list (g_lstK (a_cons (g_var (a := line) r34 hF37) (a_cons (g_var (a := behind_it) r36 hF37) a_nil)) (Nat.le_of_ble_eq_true rfl)) hF37)
    intro xs59 J60 F56 H57 nx55 e058 ok61 hQ
    replace r_script := Rp.mono nx55.ff r_script
    replace r6 := Rp.mono nx55.ff r6
    replace r34 := Rp.mono nx55.ff r34
    replace r36 := Rp.mono nx55.ff r36
    have hF63 := nx55.fh
    replace hQ := wp_bdi hQ
    refine for_Rd ok61 (fun (_ : Unit) σ68 H67 => ∃ (F64 : Hp) (j69 : Option V) (j70 : Option V) (j71 : Option V) (j72 : Option V), σ68 = [some v_script, some v5, some v33, some v35, j72, j69, j70, j71, none] ∧ Nx (fun _ => False) F56 H57 F64 H67 ∧ Same H H67) ?hku166 ?h0u166 hQ ?doneu166 ?turnu166
    case hku166 =>
      intro st σ9 H67 hI
      obtain ⟨F64, j69, j70, j71, j72, rfl, nL65, e066⟩ := hI
      exact nL65.ff.trans nL65.fh
    case h0u166 =>
      exact ⟨_, _, _, _, _, rfl, (Nx.refl' hF63), e058⟩
    case turnu166 =>
      intro one l76 st v77 σ9 H67 H78 hI e79 rx80 hd86 hQ
      obtain ⟨F64, j69, j70, j71, j72, rfl, nL65, e066⟩ := hI
      have r_script := Rp.mono nL65.ff r_script
      have r6 := Rp.mono nL65.ff r6
      have r34 := Rp.mono nL65.ff r34
      have r36 := Rp.mono nL65.ff r36
      have hF73 := nL65.fh
      have nA74 := nL65
      have nx81 : Nx0 F64 H67 (mix F64 H67 H78) H78 := Nx.mk' hF73 e79
      have e083 := e066.trans e79
      replace r_script := Rp.mono nx81.ff r_script
      replace r6 := Rp.mono nx81.ff r6
      replace r34 := Rp.mono nx81.ff r34
      replace r36 := Rp.mono nx81.ff r36
      replace nA74 := nA74.step0 nx81
      have hF84 := nx81.fh
      refine gn ?_
      have r85 := (Rp.mono (mix_ff nL65.ff) rx80)
      first | with_reducible refine st_n ?_ | skip
      refine st_seq ?_
      refine s_asg ?_ hF84 e083 hQ ?_
      · exact (g_listI (g_var (a := one) (Rp.mono hF84 r85) (Same.refl _)))
      intro handed v91 F88 H89 nx87 e090 r92 hQ
      replace r_script := Rp.mono nx87.ff r_script
      replace r6 := Rp.mono nx87.ff r6
      replace r34 := Rp.mono nx87.ff r34
      replace r36 := Rp.mono nx87.ff r36
      replace r85 := Rp.mono nx87.ff r85
      replace nA74 := nA74.step0 nx87
      have hF93 := nx87.fh
      first | with_reducible refine st_n ?_ | skip
      refine st_seq ?_
      refine s_asgAp ?_ hF93 e090 hQ ?_
      · exact (g_call1 (ma := .ok handed) (g_var (a := handed) (Rp.mono hF93 r92) (Same.refl _)))
      intro found v102 F99 H100 SS103 nx98 e0101 A104 hn105 ha106 hQ
      have zS108 : ∀ b, SS103 b → _ := fun b z => none_back nA74 (hn105 b z)
      replace r_script := Rp.mono nx98.ff r_script
      replace r6 := Rp.mono nx98.ff r6
      replace r34 := Rp.mono nx98.ff r34
      replace r36 := Rp.mono nx98.ff r36
      replace r85 := Rp.mono nx98.ff r85
      replace r92 := Rp.mono nx98.ff r92
      replace nA74 := nA74.step0 nx98
      have hF109 := nx98.fh
      first | with_reducible refine st_n ?_ | skip
      refine st_seq ?_
      refine s_if ?_ hF109 e0101 hQ ?_ ?_
      · exact (t_or (t_test (F := H100) (g_neD (g_var (a := handed) (Rp.mono hF109 r92) (Same.refl _)) (g_var (a := one) (Rp.mono hF109 r85) (Same.refl _)) (Same.refl _))) (t_not (t_B (F := H100) (g_call2 (ma := .ok one) (mb := .ok found) (g_var (a := one) (Rp.mono hF109 r85) (Same.refl _)) (g_var (a := found) A104.see (Same.refl _))))))
      · intro F112 H113 nx111 e0114 hQ
        replace hQ := if_t hQ
        replace A104 := A104.nx0 nx111
        replace ha106 := al_nx nx111 ha106
        replace r_script := Rp.mono nx111.ff r_script
        replace r6 := Rp.mono nx111.ff r6
        replace r34 := Rp.mono nx111.ff r34
        replace r36 := Rp.mono nx111.ff r36
        replace r85 := Rp.mono nx111.ff r85
        replace r92 := Rp.mono nx111.ff r92
        replace nA74 := nA74.step0 nx111
        have hF115 := nx111.fh
        first | with_reducible refine st_n ?_ | skip
        refine s_ret ?_ e0114 hQ (fun a h => h)
        exact (g_sc (F' := H113) g_bl)
      intro F112 H113 nx111 e0114 hQ
      replace hQ := if_f hQ
      refine st_next ?_
      replace A104 := A104.nx0 nx111
      replace ha106 := al_nx nx111 ha106
      replace r_script := Rp.mono nx111.ff r_script
      replace r6 := Rp.mono nx111.ff r6
      replace r34 := Rp.mono nx111.ff r34
      replace r36 := Rp.mono nx111.ff r36
      replace r85 := Rp.mono nx111.ff r85
      replace r92 := Rp.mono nx111.ff r92
      replace nA74 := nA74.step0 nx111
      have hF116 := nx111.fh
      first | with_reducible refine st_n ?_ | skip
      refine st_seq ?_
      refine s_asg ?_ hF116 e0114 hQ ?_
      · exact (g_compH (i_list (g_var (a := found) A104.see (Same.refl _)) (Same.refl _)) hF116 (fun other v122 F123 H124 f125 h126 hh127 rx128 => ⟨(wipe _ _).set 8 (some v122), fun _ q => q, rfl, t_yes, (g_listI (g_var (a := other) rx128 (Same.refl _)))⟩))
      intro kept v129 F118 H119 nx117 e0120 r130 hQ
      replace A104 := A104.nx0 nx117
      replace ha106 := al_nx nx117 ha106
      replace r_script := Rp.mono nx117.ff r_script
      replace r6 := Rp.mono nx117.ff r6
      replace r34 := Rp.mono nx117.ff r34
      replace r36 := Rp.mono nx117.ff r36
      replace r85 := Rp.mono nx117.ff r85
      replace r92 := Rp.mono nx117.ff r92
      replace nA74 := nA74.step0 nx117
      have hF131 := nx117.fh
      first | with_reducible refine st_n ?_ | skip
      refine st_seq ?_
      refine s_if ?_ hF131 e0120 hQ ?_ ?_
      · exact (t_andP (t_test (F := H119) (g_eqD (g_var (a := one) (Rp.mono hF131 r85) (Same.refl _)) (g_var (a := behind_it) (Rp.mono hF131 r36) (Same.refl _)) (Same.refl _))) (t_test (F := H119) (g_inD (neg := true) (g_var (a := line) (Rp.mono hF131 r34) (Same.refl _)) (g_var (a := kept) (Rp.mono hF131 r130) (Same.refl _)) (Same.refl _))))
      · intro F133 H134 nx132 e0135 hQ
        replace hQ := if_t hQ
        replace A104 := A104.nx0 nx132
        replace ha106 := al_nx nx132 ha106
        replace r_script := Rp.mono nx132.ff r_script
        replace r6 := Rp.mono nx132.ff r6
        replace r34 := Rp.mono nx132.ff r34
        replace r36 := Rp.mono nx132.ff r36
        replace r85 := Rp.mono nx132.ff r85
        replace r92 := Rp.mono nx132.ff r92
        replace r130 := Rp.mono nx132.ff r130
        replace nA74 := nA74.step0 nx132
        have hF136 := nx132.fh
        first | with_reducible refine st_n ?_ | skip
        refine s_ret ?_ e0135 hQ (fun a h => h)
        exact (g_sc (F' := H134) g_bl)
      intro F133 H134 nx132 e0135 hQ
      replace hQ := if_f hQ
      refine st_next ?_
      replace A104 := A104.nx0 nx132
      replace ha106 := al_nx nx132 ha106
      replace r_script := Rp.mono nx132.ff r_script
      replace r6 := Rp.mono nx132.ff r6
      replace r34 := Rp.mono nx132.ff r34
      replace r36 := Rp.mono nx132.ff r36
      replace r85 := Rp.mono nx132.ff r85
      replace r92 := Rp.mono nx132.ff r92
      replace r130 := Rp.mono nx132.ff r130
      replace nA74 := nA74.step0 nx132
      have hF137 := nx132.fh
      first | with_reducible refine st_n ?_ | skip
      refine s_ifOrM (m := R.bd (m__law_apart found kept) fun r => .ok (r, ())) (g_X__law_apart (m0 := .ok kept) (g_var (a := kept) r130 hF137) A104 (atv_v rfl) hF137 e0135) hQ ?_ ?_
      · intro _ F138 H139 nx140 e0141 j142 hQ
        replace hQ := if_f hQ
        replace r_script := Rp.mono nx140.ff r_script
        replace r6 := Rp.mono nx140.ff r6
        replace r34 := Rp.mono nx140.ff r34
        replace r36 := Rp.mono nx140.ff r36
        replace r85 := Rp.mono nx140.ff r85
        replace r92 := Rp.mono nx140.ff r92
        replace r130 := Rp.mono nx140.ff r130
        replace nA74 := nA74.step nx140 (fun q => fun z => Or.elim z (fun z => (.inr (zS108 _ z.1))) (fun z => z.elim))
        have hF144 := nx140.fh
        first | with_reducible refine st_n ?_ | skip
        refine s_ret ?_ e0141 hQ (fun a h => h)
        exact (g_sc (F' := H139) g_bl)
      intro _ F138 H139 nx140 e0141 j142 hQ
      replace hQ := if_t hQ
      replace r_script := Rp.mono nx140.ff r_script
      replace r6 := Rp.mono nx140.ff r6
      replace r34 := Rp.mono nx140.ff r34
      replace r36 := Rp.mono nx140.ff r36
      replace r85 := Rp.mono nx140.ff r85
      replace r92 := Rp.mono nx140.ff r92
      replace r130 := Rp.mono nx140.ff r130
      replace nA74 := nA74.step nx140 (fun q => fun z => Or.elim z (fun z => (.inr (zS108 _ z.1))) (fun z => z.elim))
      have hF145 := nx140.fh
      refine s_ifOrP ?_ hF145 e0141 hQ ?_ ?_
      · exact (t_test (F := H139) (g_neD (g_apl (g_call1 (ma := .ok handed) (g_var (a := handed) (Rp.mono hF145 r92) (Same.refl _)))) (g_var (a := kept) (Rp.mono hF145 r130) (Same.refl _)) (Same.refl _)))
      · intro F149 H150 nx148 e0151 hQ
        replace hQ := if_t hQ
        replace r_script := Rp.mono nx148.ff r_script
        replace r6 := Rp.mono nx148.ff r6
        replace r34 := Rp.mono nx148.ff r34
        replace r36 := Rp.mono nx148.ff r36
        replace r85 := Rp.mono nx148.ff r85
        replace r92 := Rp.mono nx148.ff r92
        replace r130 := Rp.mono nx148.ff r130
        replace nA74 := nA74.step0 nx148
        have hF153 := nx148.fh
        first | with_reducible refine st_n ?_ | skip
        refine s_ret ?_ e0151 hQ (fun a h => h)
        exact (g_sc (F' := H150) g_bl)
      intro F149 H150 nx148 e0151 hQ
      replace hQ := if_f hQ
      replace r_script := Rp.mono nx148.ff r_script
      replace r6 := Rp.mono nx148.ff r6
      replace r34 := Rp.mono nx148.ff r34
      replace r36 := Rp.mono nx148.ff r36
      replace r85 := Rp.mono nx148.ff r85
      replace r92 := Rp.mono nx148.ff r92
      replace r130 := Rp.mono nx148.ff r130
      replace nA74 := nA74.step0 nx148
      have hF154 := nx148.fh
      refine s_if ?_ hF154 e0151 hQ ?_ ?_
      · exact (t_test (F := H150) (g_neD (g_var (a := handed) (Rp.mono hF154 r92) (Same.refl _)) (g_var (a := one) (Rp.mono hF154 r85) (Same.refl _)) (Same.refl _)))
      · intro F156 H157 nx155 e0158 hQ
        replace hQ := if_t hQ
        replace r_script := Rp.mono nx155.ff r_script
        replace r6 := Rp.mono nx155.ff r6
        replace r34 := Rp.mono nx155.ff r34
        replace r36 := Rp.mono nx155.ff r36
        replace r85 := Rp.mono nx155.ff r85
        replace r92 := Rp.mono nx155.ff r92
        replace r130 := Rp.mono nx155.ff r130
        replace nA74 := nA74.step0 nx155
        have hF160 := nx155.fh
        first | with_reducible refine st_n ?_ | skip
        refine s_ret ?_ e0158 hQ (fun a h => h)
        exact (g_sc (F' := H157) g_bl)
      intro F156 H157 nx155 e0158 hQ
      replace hQ := if_f hQ
      replace r_script := Rp.mono nx155.ff r_script
      replace r6 := Rp.mono nx155.ff r6
      replace r34 := Rp.mono nx155.ff r34
      replace r36 := Rp.mono nx155.ff r36
      replace r85 := Rp.mono nx155.ff r85
      replace r92 := Rp.mono nx155.ff r92
      replace r130 := Rp.mono nx155.ff r130
      replace nA74 := nA74.step0 nx155
      have hF161 := nx155.fh
      refine st_next ?_
      exact ⟨(), ⟨_, _, _, _, _, rfl, nA74, e0158⟩, hQ⟩
    case doneu166 =>
      intro st σ9 H67 hI hQ
      replace hQ := flk_go hQ
      obtain ⟨F64, j69, j70, j71, j72, rfl, nL65, e066⟩ := hI
      have r_script := Rp.mono nL65.ff r_script
      have r6 := Rp.mono nL65.ff r6
      have r34 := Rp.mono nL65.ff r34
      have r36 := Rp.mono nL65.ff r36
      have hF73 := nL65.fh
      first | with_reducible refine st_n ?_ | skip
      refine s_ret ?_ e066 hQ (fun a h => h)
      exact (g_sc (F' := H67) g_bl)

end
end G

set_option Elab.async false
set_option linter.all false
set_option maxRecDepth 100000
set_option maxHeartbeats 4000000
set_option exponentiation.threshold 10000
namespace G
open PySem L2
/-! ### the drawn numbers and lines -/
def NB (N : List Int) : Prop := N.length = 63 ∧ ∀ x ∈ N, 0 ≤ x ∧ x < 1000000
theorem numbers_ok (ns : List Int) (hl : ns.length ≤ 63) : Ok (m__law_numbers ⟨ns⟩ 63) NB := by
  unfold m__law_numbers
  refine ok_st (ok_st ?_)
  refine ok_bd (P := fun _ => True) ?_ fun step _ => ?_
  · refine ok_st (ok_if (fun c => ?_) fun _ => ok_ret trivial)
    refine ok_bd (P := fun _ => True) (ok_bd (P := fun _ => True) (ok_bd (P := fun _ => True) (ok_idx (by omega) c fun _ _ _ => trivial) fun _ _ => ok_ret trivial) fun _ _ => ok_ret trivial) fun _ _ => ok_ret trivial
  refine ok_eq (rng1_ok (by omega) (by omega)) ?_
  refine ok_bd (ok_forS (fun i (p : Int × List Int) => p.2.length = i ∧ ∀ x ∈ p.2, 0 ≤ x ∧ x < 1000000) ⟨rfl, fun x hx => by cases hx⟩ ?_) ?_
  · rintro i x ⟨st, fo⟩ hx ⟨hL, hM⟩
    obtain ⟨rfl, hx2⟩ := rngL_at hx
    refine ok_st ?_
    have hL' : fo.length = i := hL
    rw [appR_ok (by rw [hL']; unfold lim; omega)]
    refine ok_st (ok_ret ⟨by simp [hL'], fun y hy => ?_⟩)
    rcases List.mem_append.mp hy with q | q
    · exact hM y q
    · rw [List.mem_singleton.mp q]
      omega
  · rintro ⟨st, fo⟩ ⟨hL, hM⟩
    have hL' : fo.length = 63 := by rw [rngL_len] at hL; exact hL
    have hz : ((Scr.mk ns).l.length : Int) ≤ 63 := by show (ns.length : Int) ≤ 63; omega
    refine ok_eq (rng1_ok (by omega) (by omega)) ?_
    refine ok_bd (ok_forS (fun i M => NB M) ⟨hL', hM⟩ ?_) fun M hM => ok_st (ok_ret hM)
    intro i x M hx ⟨hL, hM⟩
    obtain ⟨rfl, hx2⟩ := rngL_at hx
    rw [Int.zero_add] at hx2 ⊢
    have m0 : 0 ≤ (i : Int) % 63 := Int.emod_nonneg _ (by decide)
    have m1 : (i : Int) % 63 < 63 := Int.emod_lt_of_pos _ (by decide)
    rw [modR_ok (by decide), bd_ok, idx_at m0 (by omega), bd_ok, idx_at (xs := ns) (by omega) hx2, bd_ok, bd_ok, bd_ok, bd_ok, setR_ok m0 (by omega), bd_ok]
    refine ok_ret ⟨by simp [hL], fun y hy => ?_⟩
    rcases List.mem_or_eq_of_mem_set hy with h | h
    · exact hM y h
    · rw [h]
      omega
theorem nb_at {N : List Int} (h : NB N) {i : Int} (h0 : 0 ≤ i) (h1 : i < 63) {P : Int → Prop} (k : ∀ x, 0 ≤ x → x < 1000000 → P x) : Ok (idx N i) P :=
  ok_idx h0 (by rw [h.1]; exact h1) fun x _ hx => k x (h.2 x hx).1 (h.2 x hx).2
/-- a number of the list, behind a function -/
theorem nb_fn {N : List Int} (h : NB N) {i : Int} {f : Int → Int} {P : Int → Prop} (h0 : 0 ≤ i) (h1 : i < 63) (k : ∀ x, 0 ≤ x → x < 1000000 → P (f x)) : Ok (R.bd (idx N i) fun t => .ok (f t)) P :=
  ok_bd (P := fun x => 0 ≤ x ∧ x < 1000000) (nb_at h h0 h1 fun x a b => ⟨a, b⟩) fun x hx => ok_ret (k x hx.1 hx.2)
end G

set_option Elab.async false
set_option linter.all false
set_option maxRecDepth 100000
set_option maxHeartbeats 4000000
set_option exponentiation.threshold 10000
namespace G
open PySem L2
/-! lines of seeds: numbers, lines, marches -/
theorem sum_set : ∀ (l : List Int) (i : Nat) (x a : Int), l[i]? = some x → (l.set i a).sum = l.sum - x + a
  | [], i, x, a, h => by simp at h
  | y :: l, 0, x, a, h => by
    simp at h
    subst h
    simp only [List.set_cons_zero, List.sum_cons]
    omega
  | y :: l, i + 1, x, a, h => by
    have := sum_set l i x a (by simpa using h)
    simp only [List.set_cons_succ, List.sum_cons, this]
    omega
theorem rep_any {a k : Int} (h0 : -10000000 ≤ k) (h : k ≤ 10000000) : repR [a] k = .ok (List.replicate k.toNat a) := by
  by_cases c : 0 ≤ k
  · exact repR_ok c h
  · rw [repR_neg (by omega) h0, show k.toNat = 0 by omega]
    rfl
def LN (l : List Int) : Prop := l.length ≤ 100 ∧ l.sum ≤ 100 ∧ (∀ x ∈ l, 0 ≤ x) ∧ (∀ x, l[0]? = some x → 0 < x) ∧ (∀ x, l[l.length - 1]? = some x → 0 < x)
theorem idx_end {l : List Int} {x : Int} (h : l[l.length - 1]? = some x) : idx l (-1) = .ok x := idx_last (by rw [List.getLast?_eq_getElem?]; exact h)
theorem ne_last {l : List Int} (h : 0 < l.length) : ∃ x, l[l.length - 1]? = some x := ⟨_, List.getElem?_eq_getElem (by omega)⟩
theorem ask_line_ok {l : List Int} (h : LN l) : m_ask_line l = .ok () := by
  obtain ⟨h1, h2, h3, h4, h5⟩ := h
  apply ok_is
  unfold m_ask_line
  refine ok_st ?_
  rw [decide_eq_false (show ¬ (100 : Int) < (l.length : Int) by omega), decide_eq_false (show ¬ (100 : Int) < l.sum by omega)]
  refine ok_it (fun z => absurd z (by decide)) fun _ => ?_
  refine ok_bd (P := fun b => b = false) ?_ fun b hb => ?_
  · refine ok_if (fun c => ?_) fun _ => ok_ret rfl
    obtain ⟨m, em, hm⟩ := minR_nn (xs := l) (by intro q; rw [q] at c; simp at c) h3
    obtain ⟨x, hx⟩ := ne_last (l := l) (by omega)
    obtain ⟨y, hy⟩ : ∃ y, l[0]? = some y := ⟨_, List.getElem?_eq_getElem (by omega)⟩
    refine ok_bd (P := fun b => b = false) (ok_eq em (ok_ret (decide_eq_false (by omega)))) ?_
    rintro b rfl
    refine ok_it (fun z => absurd z (by decide)) fun _ => ?_
    refine ok_bd (P := fun b => b = false) (ok_eq (idx_ok (a := y) (by omega) hy) (ok_ret (decide_eq_false (by have := h4 y hy; omega)))) ?_
    rintro b rfl
    refine ok_it (fun z => absurd z (by decide)) fun _ => ?_
    exact ok_eq (idx_end hx) (ok_ret (decide_eq_false (by have := h5 x hx; omega)))
  · subst hb
    exact ok_it (fun z => absurd z (by decide)) fun _ => ok_ret rfl
/-! ### a march -/
def mar : List Int → List Int
  | [] => []
  | a :: l => (List.range (max l.length a.toNat)).map fun j => l.getD j 0 + (if (j : Int) < a then 1 else 0)
theorem mar_get {a : Int} {l : List Int} {j : Nat} (h : j < max l.length a.toNat) : (mar (a :: l))[j]? = some (l.getD j 0 + (if (j : Int) < a then 1 else 0)) := by
  unfold mar
  rw [List.getElem?_map, List.getElem?_range h]
  rfl
theorem mar_len {a : Int} {l : List Int} : (mar (a :: l)).length = max l.length a.toNat := by unfold mar; simp
theorem sum_map_add (f g : Nat → Int) : ∀ l : List Nat, (l.map fun j => f j + g j).sum = (l.map f).sum + (l.map g).sum
  | [] => rfl
  | x :: l => by
    simp only [List.map_cons, List.sum_cons, sum_map_add f g l]
    omega
theorem sum_getD (l : List Int) : ∀ n, ((List.range n).map fun j => l.getD j 0).sum = (l.take n).sum
  | 0 => rfl
  | n + 1 => by
    rw [List.range_succ, List.map_append, List.sum_append, sum_getD l n]
    simp only [List.map_cons, List.map_nil, List.sum_cons, List.sum_nil]
    by_cases c : n < l.length
    · rw [List.take_succ, List.getElem?_eq_getElem c, List.sum_append]
      simp [List.getD_eq_getElem?_getD, List.getElem?_eq_getElem c]
    · rw [List.take_of_length_le (by omega), List.take_of_length_le (by omega)]
      simp [List.getD_eq_getElem?_getD, List.getElem?_eq_none (show l.length ≤ n by omega)]
theorem sum_ind (a : Int) (h : 0 ≤ a) : ∀ n : Nat, ((List.range n).map fun (j : Nat) => if (j : Int) < a then (1 : Int) else 0).sum = min (n : Int) a
  | 0 => by simp; omega
  | n + 1 => by
    rw [List.range_succ, List.map_append, List.sum_append, sum_ind a h n]
    simp only [List.map_cons, List.map_nil, List.sum_cons, List.sum_nil]
    split <;> omega
theorem mar_sum {a : Int} {l : List Int} (h : 0 ≤ a) : (mar (a :: l)).sum = a + l.sum := by
  unfold mar
  rw [sum_map_add (fun j => l.getD j 0) (fun j => if (j : Int) < a then 1 else 0), sum_getD, sum_ind a h, List.take_of_length_le (by omega)]
  omega
theorem mar_ln {l : List Int} (h : LN l) : LN (mar l) := by
  cases l with
  | nil => exact h
  | cons a l =>
    obtain ⟨h1, h2, h3, h4, h5⟩ := h
    have a0 := h4 a rfl
    have hl0 : 0 ≤ l.sum := sum_nn fun x hx => h3 x (by simp [hx])
    have hs : (a :: l).sum = a + l.sum := List.sum_cons
    have hlen : (a :: l).length = l.length + 1 := rfl
    have g0 : ∀ j, 0 ≤ l.getD j 0 := by
      intro j
      by_cases c : j < l.length
      · rw [List.getD_eq_getElem?_getD, List.getElem?_eq_getElem c]
        exact h3 _ (by simp)
      · rw [List.getD_eq_getElem?_getD, List.getElem?_eq_none (by omega)]
        simp
    refine ⟨by rw [mar_len]; omega, by rw [mar_sum (by omega)]; omega, fun x hx => ?_, fun x hx => ?_, fun x hx => ?_⟩
    · unfold mar at hx
      obtain ⟨j, _, rfl⟩ := List.mem_map.mp hx
      have := g0 j
      split <;> omega
    · rw [mar_get (by omega)] at hx
      cases hx
      have := g0 0
      rw [if_pos (by omega)]
      omega
    · rw [mar_len, mar_get (by omega)] at hx
      cases hx
      have := g0 (max l.length a.toNat - 1)
      by_cases c : l.length ≤ a.toNat
      · rw [if_pos (by omega)]
        omega
      · have e : max l.length a.toNat - 1 = l.length - 1 := by omega
        have q : (a :: l)[(a :: l).length - 1]? = some (l.getD (l.length - 1) 0) := by
          rw [hlen, show l.length + 1 - 1 = (l.length - 1) + 1 by omega, List.getElem?_cons_succ, List.getD_eq_getElem?_getD, List.getElem?_eq_getElem (by omega)]
          rfl
        have := h5 _ q
        rw [e] at *
        split <;> omega
theorem sum_rep (a : Int) : ∀ n : Nat, (List.replicate n a).sum = n * a
  | 0 => by simp
  | n + 1 => by
    rw [List.replicate_succ, List.sum_cons, sum_rep a n, Int.natCast_add, Int.add_mul]
    simp
    omega
theorem ln_rep1 {k : Int} (h0 : 1 ≤ k) (h1 : k ≤ 100) : LN (List.replicate k.toNat 1) := by
  refine ⟨by simp; omega, by rw [sum_rep]; omega, fun x hx => by rw [(List.mem_replicate.mp hx).2]; decide, fun x hx => ?_, fun x hx => ?_⟩
  · rw [(List.mem_replicate.mp (List.mem_of_getElem? hx)).2]; decide
  · rw [(List.mem_replicate.mp (List.mem_of_getElem? hx)).2]; decide
theorem setR_last {α : Type} {l : List α} {a : α} (h : 0 < l.length) : setR l (-1) a = .ok (l.set (l.length - 1) a) := by
  unfold setR ixN
  rw [if_neg (by omega), if_pos (by omega)]
  show R.ok _ = _
  congr 2
  omega
def NNL (l : List Int) (s : Int) : Prop := l.length ≤ 100 ∧ l.sum ≤ s ∧ ∀ x ∈ l, 0 ≤ x
theorem set_nnl {l : List Int} {s a : Int} {i : Nat} (h : NNL l s) (ha : 0 ≤ a) (hi : i < l.length) : NNL (l.set i a) (s + a) := by
  obtain ⟨h1, h2, h3⟩ := h
  have q : l[i]? = some (l[i]'hi) := List.getElem?_eq_getElem hi
  have := h3 _ (List.mem_of_getElem? q)
  refine ⟨by simp; exact h1, by rw [sum_set l i _ a q]; omega, fun x hx => ?_⟩
  rcases List.mem_or_eq_of_mem_set hx with h | h
  · exact h3 x h
  · rw [h]; exact ha
theorem ends_ln {l : List Int} {s a b : Int} (h : NNL l s) (hl : 0 < l.length) (ha : 0 < a) (hb : 0 < b) (hs : s + a + b ≤ 100) : LN ((l.set 0 a).set (l.length - 1) b) := by
  have h1 := set_nnl (i := 0) h (show 0 ≤ a by omega) hl
  obtain ⟨g1, g2, g3⟩ := set_nnl (i := l.length - 1) h1 (show 0 ≤ b by omega) (by rw [List.length_set]; omega)
  refine ⟨g1, by omega, g3, fun x hx => ?_, fun x hx => ?_⟩
  · rw [List.getElem?_set] at hx
    split at hx
    · split at hx
      · cases hx; exact hb
      · cases hx
    · rw [List.getElem?_set, if_pos rfl, if_pos hl] at hx
      cases hx; exact ha
  · rw [List.length_set, List.length_set, List.getElem?_set, if_pos rfl, if_pos (by rw [List.length_set]; omega)] at hx
    cases hx; exact hb
theorem aug_ln {l : List Int} {i : Nat} {x v : Int} (h : LN l) (hx : l[i]? = some x) (hv : 0 ≤ v) (hs : l.sum + v ≤ 100) : LN (l.set i (x + v)) := by
  obtain ⟨h1, h2, h3, h4, h5⟩ := h
  have hi := (List.getElem?_eq_some_iff.mp hx).1
  have x0 := h3 x (List.mem_of_getElem? hx)
  refine ⟨by simp; exact h1, by rw [sum_set l i x _ hx]; omega, fun y hy => ?_, fun y hy => ?_, fun y hy => ?_⟩
  · rcases List.mem_or_eq_of_mem_set hy with h | h
    · exact h3 y h
    · rw [h]; omega
  · rw [List.getElem?_set] at hy
    split at hy
    · rename_i c
      subst c
      cases hy
      have := h4 x hx
      omega
    · exact h4 y hy
  · rw [List.length_set, List.getElem?_set] at hy
    split at hy
    · rename_i c
      cases hy
      have := h5 x (by rw [← c]; exact hx)
      omega
    · exact h5 y hy
theorem nnl_pt {l : List Int} {k : Int} (hl : l.length ≤ 100) (h : ∀ (i : Nat) (y : Int), l[i]? = some y → 0 ≤ y ∧ y ≤ k) : NNL l (l.length * k) :=
  ⟨hl, sum_le fun x hx => by obtain ⟨i, hi⟩ := List.mem_iff_getElem?.mp hx; exact (h i x hi).2, fun x hx => by obtain ⟨i, hi⟩ := List.mem_iff_getElem?.mp hx; exact (h i x hi).1⟩
def tri : Nat → Int
  | 0 => 1
  | m + 1 => (m + 2 : Nat) + tri m
theorem tri_sum : ∀ (m : Nat) (l : List Int), l.length ≤ m + 1 → (∀ (j : Nat) (x : Int), l[j]? = some x → x ≤ (m : Int) - j + 1) → l.sum ≤ tri m
  | m, [], _, _ => by
    have : ∀ m, (0 : Int) ≤ tri m := fun m => by
      induction m with
      | zero => decide
      | succ m ih => unfold tri; omega
    exact this m
  | 0, [x], _, h => by
    have := h 0 x rfl
    simp [tri]
    simpa using this
  | 0, x :: y :: l, hl, _ => by simp at hl
  | m + 1, x :: l, hl, h => by
    have h1 := h 0 x rfl
    have h2 := tri_sum m l (by simpa using hl) fun j y hy => by
      have := h (j + 1) y (by simpa using hy)
      omega
    rw [List.sum_cons]
    unfold tri
    omega
theorem tri_le : ∀ m : Nat, m ≤ 12 → tri m ≤ 100 := by decide
theorem sum_take_le {l : List Int} (h : ∀ x ∈ l, 0 ≤ x) (n : Nat) : (l.take n).sum ≤ l.sum := by
  have e : l.sum = (l.take n).sum + (l.drop n).sum := by rw [← List.sum_append, List.take_append_drop]
  have := sum_nn (xs := l.drop n) fun x hx => h x (List.mem_of_mem_drop hx)
  omega
/-- noughts are taken off the end -/
theorem strip_ok {L : List Int} (hl : L.length ≤ 13) (h0 : ∀ x ∈ L, 0 ≤ x) (hs : L.sum ≤ 100) (hf : L.length ≤ 1 ∨ ∀ x, L[0]? = some x → 0 < x) :
    Ok (whileS (fun (line : (List Int)) => if (decide ((0 : Int) < (line.length : Int))) = true then R.bd (idx line (-(1 : Int))) fun (t135 : Int) => .ok (decide (t135 = (0 : Int))) else .ok false) (fun (line : (List Int)) =>
    R.bd (popR line) fun (line : List Int) =>
  .ok line) fuel L) LN := by
  refine ok_mono (ok_whileS (fun s => s.length ≤ L.length ∧ s = L.take s.length) (fun s => s.length) (fun s => s.length ≤ L.length ∧ s = L.take s.length ∧ ∀ x, s[s.length - 1]? = some x → x ≠ 0) fuel L ⟨by omega, by simp⟩ (by rw [fuel_eq]; omega) ?_) ?_
  · intro s ⟨g1, g2⟩
    by_cases c : 0 < s.length
    · obtain ⟨x, hx⟩ := ne_last c
      rw [if_pos (decide_eq_true (show (0 : Int) < (s.length : Int) by omega)), idx_end hx]
      refine ok_ret ?_
      by_cases c2 : x = 0
      · rw [if_pos (decide_eq_true c2), popR_ok c]
        refine ok_ret ⟨⟨by simp; omega, ?_⟩, by simp; omega⟩
        rw [List.length_dropLast, List.dropLast_eq_take]
        have : (L.take s.length).take (s.length - 1) = L.take (s.length - 1) := by rw [List.take_take, Nat.min_eq_left (by omega)]
        rw [← this, ← g2]
      · rw [if_neg (by rw [decide_eq_false c2]; decide)]
        exact ⟨g1, g2, fun y hy => by rw [hx] at hy; cases hy; exact c2⟩
    · rw [if_neg (by rw [decide_eq_false (by omega)]; decide)]
      refine ok_ret ?_
      rw [if_neg (by decide)]
      exact ⟨g1, g2, fun y hy => by rw [List.getElem?_eq_none (by omega)] at hy; cases hy⟩
  · intro s ⟨g1, g2, g3⟩
    have h0' : ∀ x ∈ s, 0 ≤ x := fun x hx => h0 x (by rw [g2] at hx; exact List.mem_of_mem_take hx)
    have hs' : s.sum ≤ L.sum := by rw [g2]; exact sum_take_le h0 _
    refine ⟨by omega, by omega, h0', fun x hx => ?_, fun x hx => ?_⟩
    · have hl0 := (List.getElem?_eq_some_iff.mp hx).1
      rcases hf with hf | hf
      · have e : s.length - 1 = 0 := by omega
        have := g3 x (by rw [e]; exact hx)
        have := h0' x (List.mem_of_getElem? hx)
        omega
      · refine hf x ?_
        rw [g2, List.getElem?_take, if_pos hl0] at hx
        exact hx
    · have := g3 x hx
      have := h0' x (List.mem_of_getElem? hx)
      omega
end G

set_option Elab.async false
set_option linter.all false
set_option maxRecDepth 100000
set_option maxHeartbeats 4000000
set_option exponentiation.threshold 10000
namespace G
open PySem L2
/-! lists by what stands at a place -/
def at0 (l : List Int) (j : Nat) : Int := (l[j]?).getD 0
def TrE (l : List Int) : Prop := ∀ x, l[l.length - 1]? = some x → x ≠ 0
theorem at0_some {l : List Int} {j : Nat} {x : Int} (h : l[j]? = some x) : at0 l j = x := by unfold at0; rw [h]; rfl
theorem at0_none {l : List Int} {j : Nat} (h : l.length ≤ j) : at0 l j = 0 := by unfold at0; rw [List.getElem?_eq_none h]; rfl
theorem at0_get {l : List Int} {j : Nat} (h : j < l.length) : l[j]? = some (at0 l j) := by
  rw [at0_some (List.getElem?_eq_getElem h)]
  exact List.getElem?_eq_getElem h
theorem tr_last {l : List Int} (h : TrE l) (h0 : 0 < l.length) : at0 l (l.length - 1) ≠ 0 := h _ (at0_get (by omega))
theorem tr_ext {l m : List Int} (h : TrE l) (g : TrE m) (e : ∀ j, at0 l j = at0 m j) : l = m := by
  have hl : l.length = m.length := by
    rcases Nat.lt_trichotomy l.length m.length with c | c | c
    · exact absurd (by rw [← e, at0_none (by omega)]) (tr_last g (by omega))
    · exact c
    · exact absurd (by rw [e, at0_none (by omega)]) (tr_last h (by omega))
  apply List.ext_getElem?
  intro j
  by_cases c : j < l.length
  · rw [at0_get c, at0_get (l := m) (by omega), e]
  · rw [List.getElem?_eq_none (by omega), List.getElem?_eq_none (by omega)]
/-! turned patterns -/
def rt (m : List Int) (k : Nat) : List Int := (List.range m.length).map fun q => at0 m ((q + k) % m.length)
theorem rt_len {m : List Int} {k : Nat} : (rt m k).length = m.length := by unfold rt; simp
theorem rt_at {m : List Int} {k q : Nat} (h : q < m.length) : at0 (rt m k) q = at0 m ((q + k) % m.length) := by
  apply at0_some
  unfold rt
  rw [List.getElem?_map, List.getElem?_range h]
  rfl
theorem eq_at {l m : List Int} (h : l.length = m.length) (e : ∀ j, j < l.length → at0 l j = at0 m j) : l = m := by
  apply List.ext_getElem?
  intro j
  by_cases c : j < l.length
  · rw [at0_get c, at0_get (l := m) (by omega), e j c]
  · rw [List.getElem?_eq_none (by omega), List.getElem?_eq_none (by omega)]
theorem rt_rt (m : List Int) (k s : Nat) : rt (rt m k) s = rt m (k + s) := by
  refine eq_at (by rw [rt_len, rt_len, rt_len]) fun j hj => ?_
  rw [rt_len, rt_len] at hj
  rw [rt_at (by rw [rt_len]; exact hj), rt_at hj, rt_len, rt_at (Nat.mod_lt _ (by omega)), Nat.mod_add_mod, show j + s + k = j + (k + s) by omega]
theorem rt_zero (m : List Int) : rt m 0 = m := by
  refine eq_at rt_len fun j hj => ?_
  rw [rt_len] at hj
  rw [rt_at hj, Nat.add_zero, Nat.mod_eq_of_lt hj]
theorem rt_full (m : List Int) : rt m m.length = m := by
  refine eq_at rt_len fun j hj => ?_
  rw [rt_len] at hj
  rw [rt_at hj, Nat.add_mod_right, Nat.mod_eq_of_lt hj]
theorem rt_mod (m : List Int) (k : Nat) : rt m (k % m.length) = rt m k := by
  unfold rt
  apply List.map_congr_left
  intro q _
  rw [Nat.add_mod_mod]
theorem rt_cut {m : List Int} {k : Nat} (h : k ≤ m.length) : m.drop k ++ m.take k = rt m k := by
  refine eq_at (by rw [rt_len]; simp; omega) fun j hj => ?_
  have hj : j < m.length := by simp at hj; omega
  rw [rt_at hj]
  unfold at0
  rw [List.getElem?_append, List.length_drop]
  by_cases c : j < m.length - k
  · rw [if_pos c, List.getElem?_drop, Nat.mod_eq_of_lt (by omega), Nat.add_comm]
  · rw [if_neg c, List.getElem?_take, if_pos (by omega)]
    have : (j + k) % m.length = j - (m.length - k) := by
      rw [Nat.mod_eq_sub_mod (by omega), Nat.mod_eq_of_lt (by omega)]
      omega
    rw [this]
theorem at0_mem {l : List Int} {j : Nat} (h : j < l.length) : at0 l j ∈ l := List.mem_of_getElem? (at0_get h)
theorem rt_mem {m : List Int} {k : Nat} {x : Int} (h : x ∈ rt m k) : x ∈ m := by
  obtain ⟨j, hj⟩ := List.mem_iff_getElem?.mp h
  have lj := (List.getElem?_eq_some_iff.mp hj).1
  rw [rt_len] at lj
  rw [← at0_some hj, rt_at lj]
  exact at0_mem (Nat.mod_lt _ (by omega))
/-- a pattern of 0 and 1, one 0 at least -/
structure Pt (m : List Int) : Prop where
  l0 : 1 ≤ m.length
  l1 : m.length ≤ 63
  b : ∀ x ∈ m, x = 0 ∨ x = 1
  z : (0 : Int) ∈ m
theorem Pt.at {m : List Int} (h : Pt m) {j : Nat} (hj : j < m.length) : at0 m j = 0 ∨ at0 m j = 1 := h.b _ (at0_mem hj)
theorem rt_pt {m : List Int} (h : Pt m) (k : Nat) : Pt (rt m k) := by
  refine ⟨by rw [rt_len]; exact h.l0, by rw [rt_len]; exact h.l1, fun x hx => h.b x (rt_mem hx), ?_⟩
  have l0 := h.l0
  have e : rt (rt m k) (m.length - k % m.length) = m := by
    have := Nat.mod_lt k (show 0 < m.length by omega)
    rw [rt_rt, ← rt_mod, Nat.add_mod]
    rw [← Nat.add_mod_mod, ← Nat.add_mod, Nat.add_mod_mod] 
    rw [← Nat.mod_add_mod, show k % m.length + (m.length - k % m.length) = m.length by omega, rt_mod]
    exact rt_full m
  have z := h.z
  rw [← e] at z
  exact rt_mem z
/-! the row of a pattern -/
def fu (m : List Int) (q : Nat) : Int := if q < m.length then (m.length : Int) - 1 - (q : Int) + at0 m q else 0
def ful (m : List Int) : List Int := (List.range m.length).map fun (q : Nat) => (m.length : Int) - 1 - (q : Int) + at0 m q
def ro (m : List Int) : List Int := (ful m).take (if at0 m (m.length - 1) = 0 then m.length - 1 else m.length)
theorem ful_at (m : List Int) (q : Nat) : at0 (ful m) q = fu m q := by
  unfold fu
  by_cases c : q < m.length
  · rw [if_pos c]
    apply at0_some
    unfold ful
    rw [List.getElem?_map, List.getElem?_range c]
    rfl
  · rw [if_neg c, at0_none (by unfold ful; simp; omega)]
theorem ro_len {m : List Int} : (ro m).length = if at0 m (m.length - 1) = 0 then m.length - 1 else m.length := by
  unfold ro
  rw [List.length_take]
  unfold ful
  simp
  split <;> omega
theorem ro_at {m : List Int} (h : 1 ≤ m.length) (q : Nat) : at0 (ro m) q = fu m q := by
  rw [← ful_at]
  unfold ro
  generalize hn : (if at0 m (m.length - 1) = 0 then m.length - 1 else m.length) = n
  by_cases c : q < n
  · unfold at0
    rw [List.getElem?_take, if_pos c]
  · rw [at0_none (by rw [List.length_take]; omega), ful_at]
    unfold fu
    by_cases z : at0 m (m.length - 1) = 0
    · rw [if_pos z] at hn
      by_cases c2 : q < m.length
      · have : q = m.length - 1 := by omega
        rw [if_pos c2, this, z]
        omega
      · rw [if_neg c2]
    · rw [if_neg z] at hn
      rw [if_neg (by omega)]
theorem ro_tr {m : List Int} (h : Pt m) : TrE (ro m) := by
  intro x hx
  have e := at0_some hx
  have lt := (List.getElem?_eq_some_iff.mp hx).1
  rw [ro_at h.l0] at e
  rw [ro_len] at e lt
  by_cases z : at0 m (m.length - 1) = 0
  · rw [if_pos z] at e lt
    unfold fu at e
    rw [if_pos (by omega)] at e
    have := h.at (j := m.length - 1 - 1) (by omega)
    omega
  · rw [if_neg z] at e lt
    unfold fu at e
    rw [if_pos (by omega)] at e
    omega
theorem ro_inj {m p : List Int} (h : Pt m) (g : Pt p) (l : m.length = p.length) (e : ro m = ro p) : m = p := by
  refine eq_at l fun j hj => ?_
  have e1 := ro_at h.l0 j
  have e2 := ro_at g.l0 j
  rw [e, e2] at e1
  unfold fu at e1
  rw [if_pos hj, if_pos (by omega), l] at e1
  omega
theorem ro_uni {m T : List Int} (h : Pt m) (t : TrE T) (e : ∀ q, at0 T q = fu m q) : T = ro m := tr_ext t (ro_tr h) fun j => by rw [e, ro_at h.l0]
/-! cutting the noughts at the end -/
theorem drop_at {L : List Int} (h : 0 < L.length) (z : at0 L (L.length - 1) = 0) (q : Nat) : at0 L.dropLast q = at0 L q := by
  by_cases c : q < L.length - 1
  · unfold at0
    rw [List.dropLast_eq_take, List.getElem?_take, if_pos c]
  · rw [at0_none (by rw [List.length_dropLast]; omega)]
    by_cases c2 : q < L.length
    · rw [show q = L.length - 1 by omega, z]
    · rw [at0_none (by omega)]
theorem end_idx {L : List Int} (h : 0 < L.length) : idx L (-1) = .ok (at0 L (L.length - 1)) := idx_last (by rw [List.getLast?_eq_getElem?]; exact at0_get (by omega))
theorem trim_loop {L : List Int} {body : List Int → R (List Int)} (hb : ∀ l : List Int, 0 < l.length → body l = .ok l.dropLast) (hl : L.length < fuel) :
    Ok (whileS (fun (l : (List Int)) => if (decide ((0 : Int) < (l.length : Int))) = true then R.bd (idx l (-(1 : Int))) fun (t34 : Int) => .ok (decide (t34 = (0 : Int))) else .ok false) body fuel L) fun T => TrE T ∧ ∀ q, at0 T q = at0 L q := by
  refine ok_whileS (fun (l : List Int) => ∀ q, at0 l q = at0 L q) (fun l => l.length) (fun T => TrE T ∧ ∀ q, at0 T q = at0 L q) fuel L (fun q => rfl) hl ?_
  intro l hI
  by_cases c : 0 < l.length
  · rw [dT (show (0 : Int) < (l.length : Int) by omega), ifT, end_idx c, bd_ok]
    refine ok_ret ?_
    by_cases z : at0 l (l.length - 1) = 0
    · rw [dT z, ifT, hb l c]
      exact ok_ret ⟨fun q => by rw [drop_at c z, hI], by rw [List.length_dropLast]; omega⟩
    · rw [dF z, ifF]
      exact ⟨fun x hx => by rw [← at0_some hx]; exact z, hI⟩
  · rw [dF (show ¬ (0 : Int) < (l.length : Int) by omega), ifF]
    refine ok_ret ?_
    rw [ifF]
    exact ⟨fun x hx => by have := (List.getElem?_eq_some_iff.mp hx).1; omega, hI⟩
theorem ful_comp {m : List Int} (h : Pt m) {f : Int → R Int} (hf : ∀ q : Nat, q < m.length → f (q : Int) = .ok ((m.length : Int) - 1 - (q : Int) + at0 m q)) : compR (rngL 0 (m.length : Int)) (fun _ => .ok true) f = .ok (ful m) := by
  have l1 := h.l1
  rw [compR_ok (g := fun p : Int => (m.length : Int) - 1 - p + at0 m p.toNat) (by rw [rngL_len]; unfold lim; omega) fun p hp => by
    obtain ⟨p0, p1⟩ := rngL_mem.mp hp
    have := hf p.toNat (by omega)
    rw [show ((p.toNat : Nat) : Int) = p by omega] at this
    exact this]
  congr 1
  unfold rngL ful
  rw [List.map_map, show ((m.length : Int) - 0).toNat = m.length by omega]
  apply List.map_congr_left
  intro q _
  show (m.length : Int) - 1 - (0 + (q : Int)) + at0 m (0 + (q : Int)).toNat = _
  rw [Int.zero_add]
  rfl
theorem ful_len (m : List Int) : (ful m).length = m.length := by unfold ful; simp
end G

set_option Elab.async false
set_option linter.all false
set_option maxRecDepth 100000
set_option maxHeartbeats 4000000
set_option exponentiation.threshold 10000
/-! a line is among those that march to what it marches to -/
namespace G
open PySem L2
theorem without_ok {L : List Int} (hl : L.length ≤ 1000) : Ok (m_without_end L) fun T => TrE T ∧ ∀ q, at0 T q = at0 L q := by
  unfold m_without_end
  exact ok_bd (trim_loop (fun l hl => by rw [bd_ok, cut_init]) (by rw [fuel_eq]; omega)) fun T hT => ok_st (ok_ret hT)
theorem ahead_has {l : List Int} (h : LN l) : Ok (m_ahead_of (mar l)) fun L => l ∈ L.l := by
  have hm := mar_ln h
  unfold m_ahead_of
  rw [ask_line_ok hm, bd_ok]
  cases l with
  | nil =>
    have e : mar [] = [] := rfl
    rw [e, dT (show (([] : List Int).length : Int) = 0 from rfl), bd_ok, ifT]
    rw [bd_ok]
    exact ok_ret (by simp)
  | cons a t =>
    obtain ⟨h1, h2, h3, h4, h5⟩ := h
    have a0 := h4 a rfl
    have t0 : ∀ j, 0 ≤ t.getD j 0 := fun j => by
      rw [List.getD_eq_getElem?_getD]
      cases q : t[j]? with
      | none => exact Int.le_refl _
      | some x => exact h3 x (List.mem_cons_of_mem _ (List.mem_of_getElem? q))
    have ml := mar_len (a := a) (l := t)
    have m100 := hm.1
    have mat : ∀ j, at0 (mar (a :: t)) j = t.getD j 0 + (if (j : Int) < a then 1 else 0) := fun j => by
      by_cases c : j < max t.length a.toNat
      · exact at0_some (mar_get c)
      · rw [at0_none (by omega), if_neg (by omega), List.getD_eq_getElem?_getD, List.getElem?_eq_none (by omega)]
        rfl
    generalize mar (a :: t) = M at *
    rw [dF (by omega), bd_ok, ifF, gd_pos (by show 0 ≤ lim; decide), bd_ok, rng2_ok (by decide) (by decide) (by omega) (by omega), bd_ok]
    refine ok_bd (ok_forR (fun i (f : List (List Int)) => f.length ≤ i ∧ (a.toNat ≤ i → (a :: t) ∈ f)) (fun f => (a :: t) ∈ f) (fun _ => False) ⟨Nat.le_refl _, fun z => by omega⟩ ?_) ?_
    · rintro i x f hx ⟨l1, l2⟩
      obtain ⟨x1, x2⟩ := rngL_at hx
      have : x = ((i + 1 : Nat) : Int) := by omega
      subst this
      have lt : i < M.length := by omega
      rw [show ((i + 1 : Nat) : Int) - 1 = (i : Int) by omega, idx_nat (at0_get lt), bd_ok, bd_ok]
      by_cases z : at0 M i = 0
      · rw [dT z, ifT]
        refine ok_ret (l2 ?_)
        by_cases c : a.toNat ≤ i
        · exact c
        · have := mat i
          rw [if_pos (by omega)] at this
          have := t0 i
          omega
      · rw [dF z, ifF, cut_take (by omega) (by omega), cut_drop (by omega) (by omega), show (((i + 1 : Nat) : Int)).toNat = i + 1 by omega]
        have lk : (M.take (i + 1)).length = i + 1 := by rw [List.length_take]; omega
        rw [compR_ok (g := fun s : Int => s - 1) (by rw [lk]; unfold lim; omega) (fun _ _ => rfl), bd_ok, gd_pos (by rw [List.length_map, lk]; show 1 + (i + 1) ≤ lim; unfold lim; omega), bd_ok, gd_pos (by rw [List.length_append, List.length_map, lk, List.length_drop]; show 1 + (i + 1) + (M.length - (i + 1)) ≤ lim; unfold lim; omega), bd_ok]
        obtain ⟨T, eT, t1, t2⟩ := without_ok (L := [((i + 1 : Nat) : Int)] ++ (M.take (i + 1)).map (fun s => s - 1) ++ M.drop (i + 1)) (by rw [List.length_append, List.length_append, List.length_map, lk, List.length_drop]; show 1 + (i + 1) + (M.length - (i + 1)) ≤ 1000; omega)
        rw [eT, bd_ok, bd_ok]
        have same : i + 1 = a.toNat → T = a :: t := fun e => by
          refine tr_ext t1 (fun x hx w => by have := h5 x hx; omega) fun q => ?_
          rw [t2]
          cases q with
          | zero =>
            show ((i + 1 : Nat) : Int) = a
            omega
          | succ j =>
            have r : at0 (a :: t) (j + 1) = t.getD j 0 := by rw [List.getD_eq_getElem?_getD]; rfl
            have s : at0 ([((i + 1 : Nat) : Int)] ++ (M.take (i + 1)).map (fun s => s - 1) ++ M.drop (i + 1)) (j + 1) = if j < i + 1 then at0 M j - 1 else at0 M j := by
              rw [List.append_assoc]
              show (((M.take (i + 1)).map (fun s => s - 1) ++ M.drop (i + 1))[j]?).getD 0 = _
              rw [List.getElem?_append, List.length_map, lk]
              by_cases c : j < i + 1
              · rw [if_pos c, if_pos c, List.getElem?_map, List.getElem?_take_of_lt c, at0_get (by omega)]
                rfl
              · rw [if_neg c, if_neg c, List.getElem?_drop, show i + 1 + (j - (i + 1)) = j by omega]
                rfl
            rw [s, r, mat]
            split <;> split <;> omega
        by_cases c : (T.length : Int) ≤ 100
        · rw [dT c, ifT, appR_ok (by unfold lim; omega), bd_ok]
          refine ok_ret ⟨by rw [List.length_append, List.length_singleton]; omega, fun ha => ?_⟩
          by_cases d : a.toNat ≤ i
          · exact List.mem_append_left _ (l2 d)
          · rw [same (by omega)]
            exact List.mem_append_right _ (List.mem_singleton.mpr rfl)
        · rw [dF c, ifF]
          refine ok_ret ⟨by omega, fun ha => ?_⟩
          by_cases d : a.toNat ≤ i
          · exact l2 d
          · rw [same (by omega)] at c
            omega
    · rintro (f | f | f) hf
      · show Ok (R.bd (.ok (Apt.mk f)) _) _
        rw [bd_ok]
        rcases hf with ⟨_, k⟩ | k
        · have : (a :: t) ∈ f := k (by rw [rngL_len]; omega)
          exact ok_ret this
        · have k : (a :: t) ∈ f := k
          exact ok_ret k
      · exact hf.elim
      · exact hf.elim
end G

set_option Elab.async false
set_option linter.all false
set_option maxRecDepth 100000
set_option maxHeartbeats 4000000
set_option exponentiation.threshold 10000
/-! law's lines -/
namespace G
open PySem L2
theorem cond_any {N : List Int} (h : NB N) {way d : Int} : Ok (if decide (way = (3 : Int)) = true then R.bd (R.bd (idx N (2 : Int)) fun (t17 : Int) => .ok (t17 % (4 : Int))) fun (t18 : Int) => .ok (decide (t18 = d)) else .ok false) fun _ => True :=
  ok_if (fun _ => ok_bd (P := fun _ => True) (ok_bd (P := fun _ => True) (nb_at h (by decide) (by decide) fun _ _ _ => trivial) fun _ _ => ok_ret trivial) fun _ _ => ok_ret trivial) fun _ => ok_ret trivial
theorem line_ok {N : List Int} (h : NB N) : Ok (m__law_line N) LN := by
  unfold m__law_line
  refine ok_bd (P := fun w => 0 ≤ w ∧ w < 4) (nb_fn h (f := fun t => t % 4) (by decide) (by decide) fun x a b => by constructor <;> omega) fun way hw => ?_
  refine ok_bd (P := fun w => 0 ≤ w ∧ w < 13) (nb_fn h (f := fun t => t % 13) (by decide) (by decide) fun x a b => by constructor <;> omega) fun many hm => ?_
  obtain ⟨m0, m1⟩ := hm
  refine ok_bd (cond_any h) fun b _ => ok_it (fun _ => ?_) fun _ => ?_
  · refine ok_bd (P := LN) (ok_bd (P := fun k => 88 ≤ k ∧ k ≤ 100) (ok_bd (P := fun k => 0 ≤ k ∧ k < 13) (nb_fn h (f := fun t => t % 13) (by decide) (by decide) fun x a b => by constructor <;> omega) fun k hk => ok_ret (by obtain ⟨a, b⟩ := hk; constructor <;> omega)) fun k hk => ?_) fun r hr => ok_ret hr
    obtain ⟨a, b⟩ := hk
    exact ok_of (repR_ok (by omega) (by omega)) (ln_rep1 (by omega) (by omega))
  refine ok_bd (cond_any h) fun b _ => ok_it (fun _ => ?_) fun _ => ?_
  · refine ok_bd (P := LN) (ok_bd (P := fun l => ∃ v : Int, l = [v] ∧ 61 ≤ v ∧ v ≤ 100) (ok_bd (P := fun v => 61 ≤ v ∧ v ≤ 100) (ok_bd (P := fun k => 0 ≤ k ∧ k < 40) (nb_fn h (f := fun t => t % 40) (by decide) (by decide) fun x a b => by constructor <;> omega) fun k hk => ok_ret (by obtain ⟨a, b⟩ := hk; constructor <;> omega)) fun v hv => ok_ret ⟨v, rfl, hv⟩) fun l hl => ?_) fun r hr => ok_ret hr
    obtain ⟨v, rfl, v0, v1⟩ := hl
    refine ok_of (gd_pos (Nat.le_of_ble_eq_true rfl)) ⟨by simp, by simp; omega, fun x hx => by rw [List.mem_singleton.mp hx]; omega, fun x hx => ?_, fun x hx => ?_⟩
    · simp at hx; omega
    · simp at hx; omega
  refine ok_bd (cond_any h) fun b _ => ok_it (fun _ => ?_) fun _ => ?_
  · refine ok_bd (P := fun l => l.length ≤ 100 ∧ 60 ≤ l.length ∧ NNL l 0) (ok_bd (P := fun k => 60 ≤ k ∧ k ≤ 100) (ok_bd (P := fun k => 0 ≤ k ∧ k < 41) (nb_fn h (f := fun t => t % 41) (by decide) (by decide) fun x a b => by constructor <;> omega) fun k hk => ok_ret (by obtain ⟨a, b⟩ := hk; constructor <;> omega)) fun k hk => ?_) fun l hl => ?_
    · obtain ⟨a, b⟩ := hk
      refine ok_of (repR_ok (by omega) (by omega)) ⟨by simp; omega, by simp; omega, by simp; omega, by rw [sum_rep]; omega, fun x hx => by rw [(List.mem_replicate.mp hx).2]; decide⟩
    obtain ⟨l1, l2, l3⟩ := hl
    refine ok_bd (P := fun M => ∃ a : Int, 1 ≤ a ∧ a ≤ 3 ∧ M = l.set 0 a) (ok_bd (P := fun v => 1 ≤ v ∧ v ≤ 3) (ok_bd (P := fun k => 0 ≤ k ∧ k < 3) (nb_fn h (f := fun t => t % 3) (by decide) (by decide) fun x a b => by constructor <;> omega) fun k hk => ok_ret (by obtain ⟨a, b⟩ := hk; constructor <;> omega)) fun v hv => ok_of (setR_ok (i := 0) (by decide) (by omega)) ⟨v, hv.1, hv.2, rfl⟩) fun M hM => ?_
    obtain ⟨a, a1, a2, rfl⟩ := hM
    refine ok_bd (P := fun M => M.length = l.length ∧ LN M ∧ M.sum ≤ 6) (ok_bd (P := fun v => 1 ≤ v ∧ v ≤ 3) (ok_bd (P := fun k => 0 ≤ k ∧ k < 3) (nb_fn h (f := fun t => t % 3) (by decide) (by decide) fun x a b => by constructor <;> omega) fun k hk => ok_ret (by obtain ⟨a, b⟩ := hk; constructor <;> omega)) fun v hv => ?_) fun M hM => ?_
    · obtain ⟨v1, v2⟩ := hv
      refine ok_of (setR_last (by simp; omega)) ?_
      simp only [List.length_set]
      refine ⟨trivial, ends_ln (a := a) (b := v) l3 (by omega) (by omega) (by omega) (by omega), ?_⟩
      have := (set_nnl (i := l.length - 1) (set_nnl (i := 0) l3 (show 0 ≤ a by omega) (by omega)) (show 0 ≤ v by omega) (by rw [List.length_set]; omega)).2.1
      omega
    obtain ⟨q1, q2, q3⟩ := hM
    have hp : (0 : Int) < (M.length : Int) := by omega
    refine ok_bd (P := LN) (ok_bd (P := fun t => 0 ≤ t ∧ t < (M.length : Int)) (ok_bd (P := fun _ => True) (nb_at h (by decide) (by decide) fun _ _ _ => trivial) fun t _ => ok_of (modR_ok hp) ⟨Int.emod_nonneg _ (Int.ne_of_gt hp), Int.emod_lt_of_pos _ hp⟩) fun t ht => ?_) fun r hr => ok_st (ok_ret hr)
    refine ok_bd (ok_idx ht.1 ht.2 fun x hx _ => hx) fun x hx => ?_
    refine ok_bd (P := fun v => 0 ≤ v ∧ v < 30) (nb_fn h (f := fun t => t % 30) (by decide) (by decide) fun x a b => by constructor <;> omega) fun v hv => ?_
    obtain ⟨v0, v1⟩ := hv
    exact ok_of (setR_ok ht.1 ht.2) (aug_ln q2 hx v0 (by omega))
  refine ok_st (ok_it (fun _ => ?_) fun _ => ?_)
  · refine ok_bd (P := fun (M : List Int) => M.length = (many + 1).toNat ∧ ∀ (i : Nat) (y : Int), M[i]? = some y → 0 ≤ y ∧ y ≤ 1) (ok_eq (rng1_ok (by omega) (by omega)) (ok_mono (ok_compR (fun _ y => 0 ≤ y ∧ y ≤ 1) (by rw [rngL_len]; unfold lim; omega) ?_) fun ys hy => ?_)) fun M hM => ?_
    · intro i x hx
      obtain ⟨rfl, hx2⟩ := rngL_at hx
      exact ok_bd (P := fun x => 0 ≤ x) (nb_fn h (f := fun t => t / 3) (by omega) (by omega) fun x a b => by omega) fun x hx => ok_ret (by constructor <;> omega)
    · rw [rngL_len] at hy
      exact ⟨by rw [hy.1]; omega, hy.2⟩
    obtain ⟨lM, hM⟩ := hM
    refine ok_bd (P := fun (L : List Int) => L.length = (many + 1).toNat ∧ ∀ (i : Nat) (y : Int), L[i]? = some y → 0 ≤ many - i → many - i ≤ y ∧ y ≤ many - i + 1) (ok_eq (rng1_ok (by omega) (by omega)) (ok_mono (ok_compR (fun i y => 0 ≤ many - i → many - i ≤ y ∧ y ≤ many - i + 1) (by rw [rngL_len]; unfold lim; omega) ?_) fun ys hy => ?_)) fun L hL => ?_
    · intro i x hx
      obtain ⟨rfl, hx2⟩ := rngL_at hx
      refine ok_bd (ok_idx (by omega) (by omega) fun x hx _ => hM _ x hx) fun y hy => ok_ret fun _ => by constructor <;> omega
    · rw [rngL_len] at hy
      exact ⟨by rw [hy.1]; omega, hy.2⟩
    obtain ⟨lL, hL⟩ := hL
    have hL' : ∀ (i : Nat) (y : Int), L[i]? = some y → many - i ≤ y ∧ y ≤ many - i + 1 := fun i y hy => hL i y hy (by have := (List.getElem?_eq_some_iff.mp hy).1; omega)
    refine ok_bd (strip_ok (by omega) (fun x hx => ?_) ?_ ?_) fun r hr => ok_st (ok_ret hr)
    · obtain ⟨i, hi⟩ := List.mem_iff_getElem?.mp hx
      have := hL' i x hi
      have := (List.getElem?_eq_some_iff.mp hi).1
      omega
    · have := tri_sum many.toNat L (by omega) fun j x hx => by have := hL' j x hx; omega
      have := tri_le many.toNat (by omega)
      omega
    · by_cases c : many = 0
      · exact .inl (by omega)
      · exact .inr fun x hx => by have := hL' 0 x hx; omega
  · refine ok_bd (P := fun (M : List Int) => M.length = many.toNat ∧ ∀ (i : Nat) (y : Int), M[i]? = some y → 0 ≤ y ∧ y ≤ 4) (ok_eq (rng1_ok (by omega) (by omega)) (ok_mono (ok_compR (fun _ y => 0 ≤ y ∧ y ≤ 4) (by rw [rngL_len]; unfold lim; omega) ?_) fun ys hy => ?_)) fun M hM => ?_
    · intro i x hx
      obtain ⟨rfl, hx2⟩ := rngL_at hx
      exact ok_bd (P := fun x => 0 ≤ x) (nb_fn h (f := fun t => t / 3) (by omega) (by omega) fun x a b => by omega) fun x hx => ok_ret (by constructor <;> omega)
    · rw [rngL_len] at hy
      exact ⟨by rw [hy.1]; omega, hy.2⟩
    obtain ⟨lM, hM⟩ := hM
    have nM := nnl_pt (l := M) (by omega) hM
    refine ok_bd (P := fun L => L.length = many.toNat ∧ LN L ∧ L.sum ≤ 61) (ok_st (ok_if (fun c => ?_) fun c => ?_)) fun L hL => ?_
    · refine ok_bd (P := fun L => ∃ a : Int, 1 ≤ a ∧ a ≤ 5 ∧ L = M.set 0 a) (ok_bd (P := fun v => 1 ≤ v ∧ v ≤ 5) (ok_bd (P := fun x => 0 ≤ x ∧ x ≤ 4) (ok_idx (by omega) (by omega) fun x hx _ => hM _ x hx) fun x hx => ok_ret (by obtain ⟨a, b⟩ := hx; constructor <;> omega)) fun v hv => ok_of (setR_ok (by omega) (by omega)) ⟨v, hv.1, hv.2, rfl⟩) fun L hL => ?_
      obtain ⟨a, a1, a2, rfl⟩ := hL
      refine ok_bd (P := fun L => L.length = many.toNat ∧ LN L ∧ L.sum ≤ 61) (ok_bd (P := fun v => 1 ≤ v ∧ v ≤ 4) (ok_bd (P := fun k => 0 ≤ k ∧ k < 4) (nb_fn h (f := fun t => t % 4) (by decide) (by decide) fun x a b => by constructor <;> omega) fun k hk => ok_ret (by obtain ⟨a, b⟩ := hk; constructor <;> omega)) fun v hv => ?_) fun L hL => ok_ret hL
      obtain ⟨v1, v2⟩ := hv
      refine ok_of (setR_last (by simp; omega)) ?_
      simp only [List.length_set]
      refine ⟨lM, ends_ln (a := a) (b := v) nM (by omega) (by omega) (by omega) (by rw [lM]; omega), ?_⟩
      have := (set_nnl (i := M.length - 1) (set_nnl (i := 0) nM (show 0 ≤ a by omega) (by omega)) (show 0 ≤ v by omega) (by rw [List.length_set]; omega)).2.1
      omega
    · have : M = [] := List.eq_nil_of_length_eq_zero (by omega)
      subst this
      exact ok_ret ⟨lM, ⟨by simp, by simp, fun x hx => (by cases hx), fun x hx => (by simp at hx), fun x hx => (by simp at hx)⟩, by simp⟩
    · obtain ⟨lL, q2, q3⟩ := hL
      refine ok_bd (P := LN) (ok_st (ok_it (fun c => ?_) fun c => ok_ret q2)) fun r hr => ok_st (ok_ret hr)
      have c2 : 0 < many := by
        have := (Bool.and_eq_true _ _ ▸ c : _ ∧ _).2
        exact of_decide_eq_true this
      refine ok_bd (P := LN) (ok_bd (P := fun t => 0 ≤ t ∧ t < (L.length : Int)) (ok_bd (P := fun _ => True) (nb_at h (by decide) (by decide) fun _ _ _ => trivial) fun t _ => ok_of (modR_ok c2) ⟨Int.emod_nonneg _ (by omega), by have := Int.emod_lt_of_pos t c2; omega⟩) fun t ht => ?_) fun r hr => ok_ret hr
      refine ok_bd (ok_idx ht.1 ht.2 fun x hx _ => hx) fun x hx => ?_
      refine ok_bd (P := fun v => 0 ≤ v ∧ v < 40) (nb_fn h (f := fun t => t % 40) (by decide) (by decide) fun x a b => by constructor <;> omega) fun v hv => ?_
      obtain ⟨v0, v1⟩ := hv
      exact ok_of (setR_ok ht.1 ht.2) (aug_ln q2 hx v0 (by omega))
end G

set_option Elab.async false
set_option linter.all false
set_option maxRecDepth 100000
set_option maxHeartbeats 4000000
set_option exponentiation.threshold 10000
namespace G
open PySem L2
theorem law_march_ok {l : List Int} (h : LN l) : m__law_march l = .ok (mar l) := by
  apply ok_is
  unfold m__law_march
  refine ok_st ?_
  cases l with
  | nil => exact ⟨_, rfl, rfl⟩
  | cons a l =>
    obtain ⟨h1, h2, h3, h4, h5⟩ := h
    have a0 := h4 a rfl
    have hl0 : 0 ≤ l.sum := sum_nn fun x hx => h3 x (by simp [hx])
    have hs : (a :: l).sum = a + l.sum := List.sum_cons
    have hlen : (a :: l).length = l.length + 1 := rfl
    refine ok_if (fun c => by cases c) fun _ => ?_
    rw [cut_tail, show (a :: l).drop 1 = l from rfl]
    refine ok_st ?_
    refine ok_eq (a := rngL 0 a) (by rw [idx_ok (xs := a :: l) (i := 0) (a := a) (by omega) rfl, bd_ok, rng1_ok (by omega) (by omega)]) ?_
    refine ok_bd (ok_forS (fun i M => M.length = max l.length i ∧ ∀ j, j < max l.length i → M[j]? = some (l.getD j 0 + (if (j : Int) < (i : Int) then 1 else 0))) ⟨by omega, fun j hj => ?_⟩ ?_) ?_
    · rw [if_neg (by omega), List.getElem?_eq_getElem (by omega), List.getD_eq_getElem?_getD, List.getElem?_eq_getElem (by omega)]
      simp
    · intro i x M hx ⟨hL, hM⟩
      obtain ⟨rfl, hx2⟩ := rngL_at hx
      rw [Int.zero_add] at hx2 ⊢
      have fin : ∀ N : List Int, N.length = max l.length (i + 1) → (∀ j, j < max l.length (i + 1) → N[j]? = some (l.getD j 0 + (if (j : Int) < (i : Int) then 1 else 0))) →
          Ok (R.bd (R.bd (R.bd (idx N (i : Int)) fun (t63 : Int) => .ok (t63 + (1 : Int))) fun (t64 : Int) => setR N (i : Int) t64) fun (rest : List Int) => .ok rest) fun M => M.length = max l.length (i + 1) ∧ ∀ j, j < max l.length (i + 1) → M[j]? = some (l.getD j 0 + (if (j : Int) < ((i + 1 : Nat) : Int) then 1 else 0)) := by
        intro N hL hN
        rw [idx_nat (hN i (by omega)), bd_ok, bd_ok, setR_nat (by omega), bd_ok]
        refine ok_ret ⟨by simp [hL], fun j hj => ?_⟩
        rw [List.getElem?_set]
        by_cases c : i = j
        · subst c
          rw [if_pos rfl, if_pos (by omega), if_neg (by omega), if_pos (by omega)]
          congr 1
          omega
        · rw [if_neg c, hN j hj]
          congr 2
          by_cases c2 : (j : Int) < (i : Int)
          · rw [if_pos c2, if_pos (by omega)]
          · rw [if_neg c2, if_neg (by omega)]
      refine ok_bd (P := fun N => N.length = max l.length (i + 1) ∧ ∀ j, j < max l.length (i + 1) → N[j]? = some (l.getD j 0 + (if (j : Int) < (i : Int) then 1 else 0))) ?_ fun N hN => fin N hN.1 hN.2
      refine ok_st (ok_if (fun c => ?_) fun c => ok_ret ⟨by omega, fun j hj => hM j (by omega)⟩)
      rw [appR_ok (by rw [hL]; unfold lim; omega), bd_ok]
      refine ok_ret ⟨by rw [List.length_append]; simp only [List.length_singleton]; omega, fun j hj => ?_⟩
      by_cases c2 : j < M.length
      · rw [List.getElem?_append_left c2]
        exact hM j (by omega)
      · have : j = M.length := by omega
        subst this
        rw [List.getElem?_append_right (by omega), List.getD_eq_getElem?_getD, List.getElem?_eq_none (show l.length ≤ M.length by omega), if_neg (by omega)]
        simp
    · intro M ⟨hL, hM⟩
      rw [rngL_len] at hL hM
      refine ok_st (ok_ret ?_)
      apply List.ext_getElem?
      intro j
      by_cases c : j < max l.length a.toNat
      · rw [mar_get c, hM j (by omega)]
        congr 2
        by_cases c2 : (j : Int) < a
        · rw [if_pos c2, if_pos (by omega)]
        · rw [if_neg c2, if_neg (by omega)]
      · rw [List.getElem?_eq_none (by omega), List.getElem?_eq_none (by rw [mar_len]; omega)]
end G

set_option Elab.async false
set_option linter.all false
set_option maxRecDepth 100000
set_option maxHeartbeats 4000000
set_option exponentiation.threshold 10000
namespace G
open PySem L2
theorem sum_at0 (l : List Int) : ∀ n, l.length ≤ n → ((List.range n).map fun j => at0 l j).sum = l.sum := fun n h => by
  have := sum_getD l n
  rw [List.take_of_length_le h] at this
  rw [← this]
  congr 1
theorem sum_dec : ∀ l : List Int, (l.map fun s => s - 1).sum = l.sum - l.length
  | [] => by simp
  | x :: l => by
    have := sum_dec l
    rw [List.map_cons, List.sum_cons, List.sum_cons, this, List.length_cons]
    omega
theorem ones : ∀ {l : List Int}, (∀ x ∈ l, 1 ≤ x) → ∀ x ∈ l, x + (l.length - 1 : Int) ≤ l.sum
  | [], _, x, hx => by cases hx
  | y :: l, h, x, hx => by
    have ge : (l.length : Int) ≤ l.sum := by
      have : ∀ {l : List Int}, (∀ x ∈ l, 1 ≤ x) → (l.length : Int) ≤ l.sum := by
        intro l
        induction l with
        | nil => intro _; simp
        | cons y l ih =>
          intro h
          have := ih fun x hx => h x (List.mem_cons_of_mem _ hx)
          have := h y List.mem_cons_self
          rw [List.sum_cons, List.length_cons]
          omega
      exact this fun x hx => h x (List.mem_cons_of_mem _ hx)
    rw [List.sum_cons, List.length_cons]
    rcases List.mem_cons.mp hx with rfl | hx
    · omega
    · have := ones (l := l) (fun x hx => h x (List.mem_cons_of_mem _ hx)) x hx
      have := h y List.mem_cons_self
      omega
def cand (M : List Int) (i : Nat) : List Int := [((i + 1 : Nat) : Int)] ++ (M.take (i + 1)).map (fun s => s - 1) ++ M.drop (i + 1)
theorem cand_at {M : List Int} {i j : Nat} (hi : i < M.length) : at0 (cand M i) (j + 1) = if j < i + 1 then at0 M j - 1 else at0 M j := by
  have lk : (M.take (i + 1)).length = i + 1 := by rw [List.length_take]; omega
  unfold cand
  rw [List.append_assoc]
  show (((M.take (i + 1)).map (fun s => s - 1) ++ M.drop (i + 1))[j]?).getD 0 = _
  rw [List.getElem?_append, List.length_map, lk]
  by_cases c : j < i + 1
  · rw [if_pos c, if_pos c, List.getElem?_map, List.getElem?_take_of_lt c, at0_get (by omega)]
    rfl
  · rw [if_neg c, if_neg c, List.getElem?_drop, show i + 1 + (j - (i + 1)) = j by omega]
    rfl
theorem cand_len {M : List Int} {i : Nat} (hi : i < M.length) : (cand M i).length = M.length + 1 := by
  unfold cand
  rw [List.length_append, List.length_append, List.length_map, List.length_take, List.length_drop]
  simp
  omega
theorem ln_last {M : List Int} (h : LN M) (h0 : 0 < M.length) : 0 < at0 M (M.length - 1) := h.2.2.2.2 _ (at0_get (by omega))
theorem ln_tr {M : List Int} (h : LN M) : TrE M := fun x hx z => by have := h.2.2.2.2 x hx; omega
theorem ln_nn {M : List Int} (h : LN M) (j : Nat) : 0 ≤ at0 M j := by
  by_cases c : j < M.length
  · exact h.2.2.1 _ (at0_mem c)
  · rw [at0_none (by omega)]
    exact Int.le_refl _
theorem cand_ok {M T : List Int} {i : Nat} (h : LN M) (hi : i < M.length) (pos : ∀ j, j ≤ i → 0 < at0 M j) (tr : TrE T) (e : ∀ q, at0 T q = at0 (cand M i) q) :
    at0 T 0 = ((i + 1 : Nat) : Int) ∧ (T.length ≤ 100 ↔ (M.length < 100 ∨ i + 1 = 100)) ∧ (T.length ≤ 100 → LN T ∧ mar T = M) := by
  have h0 : at0 T 0 = ((i + 1 : Nat) : Int) := by rw [e]; rfl
  have es : ∀ j, at0 T (j + 1) = if j < i + 1 then at0 M j - 1 else at0 M j := fun j => by rw [e, cand_at hi]
  have nn : ∀ j, 0 ≤ at0 T j := fun j => by
    cases j with
    | zero => rw [h0]; omega
    | succ j =>
      rw [es]
      split
      · have := pos j (by omega); omega
      · exact ln_nn h j
  have tl : 0 < T.length := by
    by_cases c : 0 < T.length
    · exact c
    · rw [at0_none (by omega)] at h0
      omega
  have lastp := tr_last tr tl
  have up : T.length ≤ M.length + 1 := by
    by_cases c : T.length ≤ M.length + 1
    · exact c
    · exfalso
      have : at0 T (T.length - 1) = 0 := by
        rw [e, at0_none (by rw [cand_len hi]; omega)]
      exact lastp this
  have lM := h.1
  refine ⟨h0, ⟨fun c => ?_, fun c => ?_⟩, fun c => ?_⟩
  · by_cases d : M.length < 100
    · exact .inl d
    · right
      have m100 : M.length = 100 := by omega
      by_cases di : i + 1 = 100
      · exact di
      · exfalso
        have := es 99
        rw [if_neg (by omega), at0_none (by omega)] at this
        have := ln_last h (by omega)
        rw [m100] at this
        have : 0 < at0 M 99 := this
        omega
  · rcases c with c | c
    · omega
    · have m100 : M.length = 100 := by omega
      have all1 : ∀ x ∈ M, 1 ≤ x := fun x hx => by
        obtain ⟨j, hj⟩ := List.mem_iff_getElem?.mp hx
        have lj := (List.getElem?_eq_some_iff.mp hj).1
        have := pos j (by omega)
        rw [at0_some hj] at this
        omega
      have one := ones all1 _ (at0_mem (l := M) (j := 99) (by omega))
      have s := h.2.1
      have p := pos 99 (by omega)
      by_cases d : T.length ≤ 100
      · exact d
      · exfalso
        have t101 : T.length = 101 := by omega
        rw [t101] at lastp
        have := es 99
        rw [if_pos (by omega)] at this
        exact lastp (by show at0 T (99 + 1) = 0; omega)
  · have lnT : LN T := by
      refine ⟨c, ?_, fun x hx => ?_, fun x hx => ?_, fun x hx => ?_⟩
      · have a := sum_at0 T (M.length + 1) up
        have b := sum_at0 (cand M i) (M.length + 1) (by rw [cand_len hi]; exact Nat.le_refl _)
        have ab : ((List.range (M.length + 1)).map fun j => at0 T j) = (List.range (M.length + 1)).map fun j => at0 (cand M i) j := List.map_congr_left fun j _ => e j
        rw [ab] at a
        have : (cand M i).sum = M.sum := by
          unfold cand
          rw [List.sum_append, List.sum_append, sum_dec, List.length_take]
          have t := List.take_append_drop (i + 1) M
          have t := congrArg List.sum t
          rw [List.sum_append] at t
          have : [((i + 1 : Nat) : Int)].sum = ((i + 1 : Nat) : Int) := by simp
          rw [this]
          omega
        have := h.2.1
        omega
      · obtain ⟨j, hj⟩ := List.mem_iff_getElem?.mp hx
        have := nn j
        rw [at0_some hj] at this
        exact this
      · rw [at0_some hx] at h0
        omega
      · have n := nn (T.length - 1)
        have l := lastp
        rw [at0_some hx] at n l
        omega
    refine ⟨lnT, ?_⟩
    refine tr_ext (ln_tr (mar_ln lnT)) (ln_tr h) fun q => ?_
    cases T with
    | nil => simp at tl
    | cons a t =>
      have ea : a = ((i + 1 : Nat) : Int) := h0
      have et : ∀ j, t.getD j 0 = at0 (a :: t) (j + 1) := fun j => by rw [List.getD_eq_getElem?_getD]; rfl
      have ml := mar_len (a := a) (l := t)
      by_cases cq : q < max t.length a.toNat
      · rw [at0_some (mar_get cq), et, es]
        split <;> split <;> omega
      · rw [at0_none (by omega)]
        have := es q
        rw [if_neg (by omega), at0_none (by show t.length + 1 ≤ q + 1; omega)] at this
        exact this
/-- all that march to a line -/
structure Ah (M : List Int) (F : List (List Int)) (n : Nat) : Prop where
  len : F.length = if M.length = 100 then (if n = 100 then 1 else 0) else n
  all : ∀ x ∈ F, LN x ∧ mar x = M ∧ 1 ≤ at0 x 0 ∧ at0 x 0 ≤ n
  up : F.Pairwise fun x y => at0 x 0 < at0 y 0
theorem ahead_ok {M : List Int} (h : LN M) : Ok (m_ahead_of M) fun r => (M = [] → r = Apt.mk [[]]) ∧ (M ≠ [] → ∃ z, z ≤ M.length ∧ (∀ j, j < z → 0 < at0 M j) ∧ (z = M.length ∨ at0 M z = 0) ∧ Ah M r.l z) := by
  have m100 := h.1
  unfold m_ahead_of
  rw [ask_line_ok h, bd_ok]
  by_cases e : M = []
  · subst e
    rw [dT (show (([] : List Int).length : Int) = 0 from rfl), bd_ok, ifT, bd_ok]
    exact ok_ret ⟨fun _ => rfl, fun z => absurd rfl z⟩
  · have hm : 0 < M.length := by
      cases M with
      | nil => exact absurd rfl e
      | cons a l => simp
    rw [dF (by omega), bd_ok, ifF, gd_pos (by show 0 ≤ lim; decide), bd_ok, rng2_ok (by decide) (by decide) (by omega) (by omega), bd_ok]
    refine ok_bd (ok_forR (fun i (f : List (List Int)) => i ≤ M.length ∧ (∀ j, j < i → 0 < at0 M j) ∧ Ah M f i) (fun f => ∃ z, z ≤ M.length ∧ (∀ j, j < z → 0 < at0 M j) ∧ at0 M z = 0 ∧ Ah M f z) (fun _ => False) ⟨by omega, fun j hj => by omega, ⟨by simp, fun x hx => (by cases hx), .nil⟩⟩ ?_) ?_
    · rintro i x f hx ⟨_, p, A⟩
      obtain ⟨x1, x2⟩ := rngL_at hx
      have : x = ((i + 1 : Nat) : Int) := by omega
      subst this
      have lt : i < M.length := by omega
      rw [show ((i + 1 : Nat) : Int) - 1 = (i : Int) by omega, idx_nat (at0_get lt), bd_ok, bd_ok]
      by_cases z : at0 M i = 0
      · rw [dT z, ifT]
        exact ok_ret ⟨i, by omega, p, z, A⟩
      · have posi : ∀ j, j ≤ i → 0 < at0 M j := fun j hj => by
          by_cases c : j = i
          · have := ln_nn h i; rw [c]; omega
          · exact p j (by omega)
        rw [dF z, ifF, cut_take (by omega) (by omega), cut_drop (by omega) (by omega), show (((i + 1 : Nat) : Int)).toNat = i + 1 by omega]
        have lk : (M.take (i + 1)).length = i + 1 := by rw [List.length_take]; omega
        rw [compR_ok (g := fun s : Int => s - 1) (by rw [lk]; unfold lim; omega) (fun _ _ => rfl), bd_ok, gd_pos (by rw [List.length_map, lk]; show 1 + (i + 1) ≤ lim; unfold lim; omega), bd_ok, gd_pos (by rw [List.length_append, List.length_map, lk, List.length_drop]; show 1 + (i + 1) + (M.length - (i + 1)) ≤ lim; unfold lim; omega), bd_ok]
        have cl := cand_len lt
        obtain ⟨T, eT, t1, t2⟩ := without_ok (L := cand M i) (by omega)
        have eT : m_without_end ([((i + 1 : Nat) : Int)] ++ (M.take (i + 1)).map (fun s => s - 1) ++ M.drop (i + 1)) = .ok T := eT
        obtain ⟨c0, c1, c2⟩ := cand_ok h lt posi t1 t2
        rw [eT, bd_ok, bd_ok]
        have al := A.len
        have flen : f.length ≤ 100 := by
          rw [al]
          split
          · split <;> omega
          · omega
        have next : ∀ {F : List (List Int)}, Ah M F (i + 1) → (i + 1 ≤ M.length ∧ (∀ j, j < i + 1 → 0 < at0 M j) ∧ Ah M F (i + 1)) := fun a => ⟨by omega, fun j hj => posi j (by omega), a⟩
        by_cases c : (T.length : Int) ≤ 100
        · obtain ⟨lnT, mT⟩ := c2 (by omega)
          have cc := c1.mp (by omega)
          rw [dT c, ifT, appR_ok (by unfold lim; omega), bd_ok]
          refine ok_ret (next ⟨?_, fun y hy => ?_, ?_⟩)
          · rw [List.length_append, List.length_singleton, al]
            rcases cc with cc | cc
            · rw [if_neg (by omega), if_neg (by omega)]
            · have m1 : M.length = 100 := by omega
              rw [if_pos m1, if_neg (by omega), if_pos m1, if_pos cc]
          · rcases List.mem_append.mp hy with q | q
            · obtain ⟨a1, a2, a3, a4⟩ := A.all y q
              exact ⟨a1, a2, a3, by omega⟩
            · rw [List.mem_singleton.mp q, c0]
              exact ⟨lnT, mT, by omega, Int.le_refl _⟩
          · rw [List.pairwise_append]
            refine ⟨A.up, by simp, fun a ha b hb => ?_⟩
            rw [List.mem_singleton.mp hb, c0]
            have := (A.all a ha).2.2.2
            omega
        · have cc : ¬ (M.length < 100 ∨ i + 1 = 100) := fun w => c (by have := c1.mpr w; omega)
          rw [dF c, ifF]
          refine ok_ret (next ⟨?_, fun y hy => ?_, A.up⟩)
          · rw [al, if_pos (by omega), if_neg (by omega), if_pos (by omega), if_neg (by omega)]
          · obtain ⟨a1, a2, a3, a4⟩ := A.all y hy
            exact ⟨a1, a2, a3, by omega⟩
    · rintro (f | f | f) hf
      · show Ok (R.bd (.ok (Apt.mk f)) _) _
        rw [bd_ok]
        refine ok_ret ⟨fun z => absurd z e, fun _ => ?_⟩
        rcases hf with ⟨_, k2, k3⟩ | ⟨z, k1, k2, k3, k4⟩
        · rw [rngL_len, show ((M.length : Int) + 1 - 1).toNat = M.length by omega] at k2 k3
          exact ⟨M.length, Nat.le_refl _, k2, .inl rfl, k3⟩
        · exact ⟨z, k1, k2, .inr k3, k4⟩
      · exact hf.elim
      · exact hf.elim
theorem maxR_spec {xs : List Int} (h : xs ≠ []) : ∃ m, maxR xs = .ok m ∧ m ∈ xs ∧ ∀ x ∈ xs, x ≤ m := by
  unfold maxR
  cases e : xs.max? with
  | none => exact absurd (List.max?_eq_none_iff.mp e) h
  | some m => exact ⟨m, rfl, (List.max?_eq_some_iff.mp e).1, (List.max?_eq_some_iff.mp e).2⟩
theorem minR_spec {xs : List Int} (h : xs ≠ []) : ∃ m, minR xs = .ok m ∧ m ∈ xs ∧ ∀ x ∈ xs, m ≤ x := by
  unfold minR
  cases e : xs.min? with
  | none => exact absurd (List.min?_eq_none_iff.mp e) h
  | some m => exact ⟨m, rfl, (List.min?_eq_some_iff.mp e).1, (List.min?_eq_some_iff.mp e).2⟩
theorem lcount_ok {M : List Int} {z : Nat} (h : LN M) (ne : M ≠ []) (z1 : z ≤ M.length) (z2 : ∀ j, j < z → 0 < at0 M j) (z3 : z = M.length ∨ at0 M z = 0) : m__law_count M = .ok ((if M.length = 100 then (if z = 100 then 1 else 0) else z : Nat) : Int) := by
  have m100 := h.1
  refine ok_is ?_
  unfold m__law_count
  rw [bd_ok]
  refine ok_bd (ok_whileS (fun (c : Int) => ∃ n : Nat, c = (n : Int) ∧ n ≤ z) (fun c => 101 - c.toNat) (fun c => c = (z : Int)) fuel 0 ⟨0, rfl, Nat.zero_le _⟩ (by rw [fuel_eq]; show 101 - _ < _; omega) ?_) ?_
  · rintro c ⟨n, rfl, hn⟩
    by_cases c : n < M.length
    · rw [dT (show (n : Int) < (M.length : Int) by omega), ifT, idx_nat (at0_get c), bd_ok]
      refine ok_ret ?_
      by_cases p : 0 < at0 M n
      · rw [dT p, if_pos rfl, bd_ok]
        have : n < z := by
          rcases z3 with z3 | z3
          · omega
          · by_cases d : n = z
            · rw [d, z3] at p; omega
            · omega
        exact ok_ret ⟨⟨n + 1, by omega, by omega⟩, by omega⟩
      · rw [dF p, if_neg (by decide)]
        have : ¬ n < z := fun d => p (z2 n d)
        omega
    · rw [dF (show ¬ (n : Int) < (M.length : Int) by omega), ifF]
      refine ok_ret ?_
      rw [if_neg (by decide)]
      omega
  · rintro c rfl
    rw [bd_ok]
    by_cases c : M.length = 100
    · rw [dT (show (M.length : Int) = 100 by omega), ifT, if_pos c]
      obtain ⟨lo, el, l1, l2⟩ := minR_spec ne
      obtain ⟨hi, eh, h1, h2⟩ := maxR_spec ne
      rw [el, bd_ok, bd_ok]
      by_cases d : z = 100
      · have all1 : ∀ x ∈ M, 1 ≤ x := fun x hx => by
          obtain ⟨j, hj⟩ := List.mem_iff_getElem?.mp hx
          have lj := (List.getElem?_eq_some_iff.mp hj).1
          have := z2 j (by omega)
          rw [at0_some hj] at this
          omega
        have a := all1 lo l1
        have b := all1 hi h1
        have o := ones all1 hi h1
        have s := h.2.1
        rw [dT (show (0 : Int) < lo by omega), ifT, eh, bd_ok, dT (show hi = 1 by omega), bd_ok, ifT, bd_ok, if_pos d]
        exact ok_ret rfl
      · have : at0 M z = 0 := z3.elim (fun w => by omega) id
        have := l2 _ (at0_mem (l := M) (j := z) (by omega))
        rw [dF (show ¬ (0 : Int) < lo by omega), ifF, bd_ok, ifF, bd_ok, if_neg d]
        exact ok_ret rfl
    · rw [dF (show ¬ (M.length : Int) = 100 by omega), ifF, if_neg c, bd_ok]
      exact ok_ret rfl
theorem lline_ok {x : List Int} (h : LN x) : m__law_is_line x = .ok true := by
  obtain ⟨h1, h2, h3, h4, h5⟩ := h
  refine ok_is ?_
  unfold m__law_is_line
  rw [dF (show ¬ (100 : Int) < (x.length : Int) by omega), Bool.not_true, Bool.or_self, bd_ok, ifF, bd_ok]
  refine ok_forA (fun s hs => ?_) ?_
  · have : m__law_whole_number s = .ok true := rfl
    have := h3 s hs
    rw [show m__law_whole_number s = .ok true from rfl, bd_ok, bd_ok, dF (by omega), bd_ok, Bool.not_true, Bool.or_self, ifF]
    exact ok_ret rfl
  · by_cases e : x = []
    · show Ok (R.bd (if (decide (x = ([] : List Int))) = true then .ok true else _) _) _
      rw [dT e, ifT, bd_ok]
      exact ok_ret rfl
    · have hl : 0 < x.length := by
        cases x with
        | nil => exact absurd rfl e
        | cons a l => simp
      obtain ⟨y, hy⟩ := ne_last hl
      obtain ⟨w, hw⟩ : ∃ w, x[0]? = some w := ⟨_, List.getElem?_eq_getElem hl⟩
      show Ok (R.bd (if (decide (x = ([] : List Int))) = true then .ok true else R.bd (R.bd (idx x (0 : Int)) _) _) _) _
      rw [dF e, ifF, idx_ok (a := w) (by decide) hw, bd_ok, dT (h4 w hw), bd_ok, ifT, idx_end hy, bd_ok, dT (h5 y hy), bd_ok]
      exact ok_ret rfl
theorem right_ok {M : List Int} {F : List (List Int)} (h : LN M) (e1 : M = [] → F = [[]]) (e2 : M ≠ [] → ∃ z, z ≤ M.length ∧ (∀ j, j < z → 0 < at0 M j) ∧ (z = M.length ∨ at0 M z = 0) ∧ Ah M F z) : m__law_right M F = .ok true := by
  refine ok_is ?_
  unfold m__law_right
  rw [Bool.not_true, bd_ok, ifF, bd_ok]
  by_cases e : M = []
  · rw [dT e, ifT, e1 e, dT rfl, bd_ok]
    exact ok_ret rfl
  · obtain ⟨z, z1, z2, z3, A⟩ := e2 e
    rw [dF e, ifF, bd_ok, bd_ok]
    refine ok_bd (ok_forR (fun i (last : Int) => ∀ (j : Nat) (y : List Int), i ≤ j → F[j]? = some y → last < at0 y 0) (fun _ => False) (fun _ => False) (fun j y _ hy => by have := (A.all y (List.mem_of_getElem? hy)).2.2.1; omega) ?_) ?_
    · intro i x last hx hI
      obtain ⟨a1, a2, a3, a4⟩ := A.all x (List.mem_of_getElem? hx)
      have ne : x ≠ [] := fun w => by rw [w] at a3; simp [at0] at a3
      have hl : 0 < x.length := by
        cases x with
        | nil => exact absurd rfl ne
        | cons a l => simp
      have i0 : idx x (0 : Int) = .ok (at0 x 0) := idx_ok (by decide) (at0_get hl)
      have := hI i x (Nat.le_refl _) hx
      rw [lline_ok a1, bd_ok, Bool.not_true, bd_ok, ifF, dF ne, ifF, i0, bd_ok, dF (by omega), bd_ok, ifF, law_march_ok a1, bd_ok, dT a2, Bool.not_true, bd_ok, ifF, bd_ok]
      refine ok_ret fun j y hj hy => ?_
      obtain ⟨lj, ej⟩ := List.getElem?_eq_some_iff.mp hy
      obtain ⟨li, ei⟩ := List.getElem?_eq_some_iff.mp hx
      have q := List.pairwise_iff_getElem.mp A.up i j li lj (by omega)
      rw [ei, ej] at q
      exact q
    · rintro (C | C | C) hC
      · show Ok (R.bd (R.bd (m__law_count M) _) _) _
        rw [lcount_ok h e z1 z2 z3, bd_ok, bd_ok, ← A.len, dT rfl]
        exact ok_ret rfl
      · exact hC.elim
      · exact hC.elim
theorem lapart_ok {T : List (List Int)} (h : T.length ≤ 1000) (h2 : ∀ x ∈ T, x.length ≤ 1000) : m__law_apart T T = .ok true := by
  refine ok_is ?_
  unfold m__law_apart
  rw [rng1_ok (by omega) (by omega), bd_ok]
  refine ok_bd (ok_forR (fun i (C : List (List Int)) => C.length = T.length ∧ ∀ j, i ≤ j → C[j]? = T[j]?) (fun _ => False) (fun _ => False) ⟨rfl, fun _ _ => rfl⟩ ?_) ?_
  · rintro i k C hk ⟨l, e⟩
    obtain ⟨x1, x2⟩ := rngL_at hk
    have : k = (i : Int) := by omega
    subst this
    have lt : i < T.length := by omega
    have q := List.getElem?_eq_getElem (l := T) (i := i) lt
    have m := h2 _ (List.mem_of_getElem? q)
    generalize T[i] = x at q m
    have qC : C[i]? = some x := by rw [e i (Nat.le_refl _)]; exact q
    rw [idx_nat qC, bd_ok, idx_nat q, bd_ok, dT rfl, Bool.not_true, bd_ok, ifF, bd_ok, bd_ok, appR_ok (by unfold lim; omega), bd_ok, setR_ok (by omega) (by omega), bd_ok, bd_ok]
    refine ok_ret ⟨by rw [List.length_set, l], fun j hj => ?_⟩
    rw [List.getElem?_set_ne (by omega)]
    exact e j (by omega)
  · rintro (C | C | C) hC
    · rcases hC with ⟨l, _⟩ | z
      · show Ok (R.bd (R.bd (.ok [(1 : Int)]) fun (_ : List Int) => gd (C.length < lim) (.ok ())) _) _
        rw [bd_ok, gd_pos (by unfold lim; omega), bd_ok, bd_ok]
        exact ok_ret rfl
      · exact z.elim
    · exact hC.elim
    · exact hC.elim
theorem law_true (ns : List Int) (hl : ns.length ≤ 63) (hb : ∀ k ∈ ns, Builtin.Int.intBits k ≤ 1048576) : m_law ⟨ns⟩ = .ok true := by
  refine ok_is ?_
  unfold m_law
  refine ok_bd (numbers_ok ns hl) fun N hN => ?_
  refine ok_bd (line_ok hN) fun l h => ?_
  obtain ⟨n5, e5⟩ : ∃ x, idx N (5 : Int) = .ok x := by
    have := hN.1
    exact ⟨_, idx_at (by decide) (by omega)⟩
  rw [law_march_ok h, bd_ok, e5, bd_ok, bd_ok, bd_ok]
  refine ok_bd (P := fun z : List Int × List Int => LN z.1 ∧ z.2 = mar z.1) (ok_if (fun _ => ?_) fun _ => ok_ret ⟨h, rfl⟩) ?_
  · have h2 := mar_ln h
    have h3 := mar_ln h2
    rw [law_march_ok h2, bd_ok, law_march_ok h3, bd_ok]
    exact ok_ret ⟨h3, rfl⟩
  · rintro ⟨line, behind⟩ ⟨hL, hB⟩
    have hL : LN line := hL
    have hB : behind = mar line := hB
    subst hB
    show Ok (R.bd (.ok [line, mar line]) _) _
    rw [bd_ok]
    refine ok_forA (fun one ho => ?_) (ok_ret rfl)
    have lo : LN one := by
      rcases List.mem_cons.mp ho with rfl | ho
      · exact hL
      · rw [List.mem_singleton.mp ho]
        exact mar_ln hL
    obtain ⟨r, er, r1, r2⟩ := ahead_ok lo
    have has : one = mar line → line ∈ r.l := fun w => by
      obtain ⟨L, eL, hm⟩ := ahead_has hL
      rw [← w, er] at eL
      injection eL with eL
      rw [eL]
      exact hm
    have fs : r.l.length ≤ 1000 ∧ ∀ x ∈ r.l, x.length ≤ 1000 := by
      by_cases e : one = []
      · rw [r1 e]
        simp
      · obtain ⟨z, z1, _, _, A⟩ := r2 e
        have := A.len
        have := lo.1
        refine ⟨by rw [A.len]; (repeat' split) <;> omega, fun x hx => ?_⟩
        have := (A.all x hx).1.1
        omega
    have rt := right_ok lo (fun w => by rw [r1 w]) r2
    have ap := lapart_ok fs.1 fs.2
    have cp : compR r.l (fun (other : List Int) => .ok true) (fun (other : List Int) => .ok other) = .ok r.l := by
      rw [compR_ok (g := fun l => l) (by have := fs.1; unfold lim; omega) (fun _ _ => rfl), List.map_id']
    have q2 : (decide (one = mar line) && !inL line r.l) = false := by
      by_cases w : one = mar line
      · rw [inL_yes (has w)]
        simp
      · rw [dF w]
        rfl
    obtain ⟨F⟩ := r
    simp only [if_true, if_false, decide_true, decide_false, Bool.false_eq_true, Bool.true_eq_false, bd_ok, bd_er, bd_bad, ifT, ifF, Bool.not_true, Bool.not_false, Bool.true_and, Bool.and_true, Bool.false_and, Bool.and_false, Bool.true_or, Bool.or_true, Bool.false_or, Bool.or_false, Option.isNone, Option.isSome, flk, unO, er, dT rfl, rt, cp, q2, ap]
    exact ok_ret rfl
end G

set_option Elab.async false
set_option linter.all false
set_option maxRecDepth 100000
set_option maxHeartbeats 4000000
namespace G
open PySem PySem.Spec PyProof.Rows L2
abbrev Rr : PySem.W.OpenRow := PySem.W.OpenLaw.row PySem.Challenge.rw_sowring_k35_lines_ahead
abbrev hk : PySem.W.Hook := hookG 5 fa fn bx
def ob (s : PySem.W.SharedT) : He.AlD := obsGG 5 fa fn bx (HandSHeadRun.getT s)
theorem ob_eq (s : PySem.W.SharedT) : ob s = hk.obs s.abs := obsGG_eq (HandSHeadRun.getT_eq s)
theorem run (w : World) : HandSHeadRun.RunEq Rr (PySem.W.view Rr.prog [18]) hk ob 30000 ((["_wall", "SowError", "BadLine", "MOST_OF_LINE", "ask_line", "without_end", "ahead_of", "_law_numbers", "_law_line", "_law_march", "_law_whole_number", "_law_is_line", "_law_count", "_law_right", "_law_apart"] : List PySem.Str)) w := by
  intro os
  kernel_rfl
theorem hd_of {K : PySem.W.Frag} {h : Heap} {mg : Str → Option Value} (X : K.In h) (G : h.Ns mainGlobals mg) (c : SaysG fa fn bx K) : Hd K mg where
  g_ask_line := He.glo_ok X G (c.d.fact 0 (f := .glo "ask_line") rfl)
  g_without_end := He.glo_ok X G (c.d.fact 1 (f := .glo "without_end") rfl)
  g_ahead_of := He.glo_ok X G (c.d.fact 2 (f := .glo "ahead_of") rfl)
  g__law_numbers := He.glo_ok X G (c.d.fact 3 (f := .glo "_law_numbers") rfl)
  g__law_line := He.glo_ok X G (c.d.fact 4 (f := .glo "_law_line") rfl)
  g__law_march := He.glo_ok X G (c.d.fact 5 (f := .glo "_law_march") rfl)
  g__law_whole_number := He.glo_ok X G (c.d.fact 6 (f := .glo "_law_whole_number") rfl)
  g__law_is_line := He.glo_ok X G (c.d.fact 7 (f := .glo "_law_is_line") rfl)
  g__law_count := He.glo_ok X G (c.d.fact 8 (f := .glo "_law_count") rfl)
  g__law_right := He.glo_ok X G (c.d.fact 9 (f := .glo "_law_right") rfl)
  g__law_apart := He.glo_ok X G (c.d.fact 10 (f := .glo "_law_apart") rfl)
  g_law := He.glo_ok X G (c.d.fact 11 (f := .glo "law") rfl)
  d_ask_line := c.d.def_ 0 (d := d_ask_line) rfl
  d_without_end := c.d.def_ 1 (d := d_without_end) rfl
  d_ahead_of := c.d.def_ 2 (d := d_ahead_of) rfl
  d__law_numbers := c.d.def_ 3 (d := d__law_numbers) rfl
  d__law_line := c.d.def_ 4 (d := d__law_line) rfl
  d__law_march := c.d.def_ 5 (d := d__law_march) rfl
  d__law_whole_number := c.d.def_ 6 (d := d__law_whole_number) rfl
  d__law_is_line := c.d.def_ 7 (d := d__law_is_line) rfl
  d__law_count := c.d.def_ 8 (d := d__law_count) rfl
  d__law_right := c.d.def_ 9 (d := d__law_right) rfl
  d__law_apart := c.d.def_ 10 (d := d__law_apart) rfl
  d_law := c.d.def_ 11 (d := d_law) rfl
  f_bool := He.free_ok X G (c.d.fact 12 (f := .free "bool") rfl)
  f_int := He.free_ok X G (c.d.fact 13 (f := .free "int") rfl)
  f_isinstance := He.free_ok X G (c.d.fact 14 (f := .free "isinstance") rfl)
  f_len := He.free_ok X G (c.d.fact 15 (f := .free "len") rfl)
  f_list := He.free_ok X G (c.d.fact 16 (f := .free "list") rfl)
  f_max := He.free_ok X G (c.d.fact 17 (f := .free "max") rfl)
  f_min := He.free_ok X G (c.d.fact 18 (f := .free "min") rfl)
  f_range := He.free_ok X G (c.d.fact 19 (f := .free "range") rfl)
  f_sum := He.free_ok X G (c.d.fact 20 (f := .free "sum") rfl)
  c_MOST_OF_LINE := He.int_ok X G (c.d.fact 21 rfl)
  g_SowError := He.glo_ok X G (c.d.fact 22 (f := .glo "SowError") rfl)
  k_SowError := kn_ok (c := .SowError) (c.d.fact 22 rfl)
  x_SowError := exc_ok (c.d.fact 23 rfl)
  g_BadLine := He.glo_ok X G (c.d.fact 24 (f := .glo "BadLine") rfl)
  k_BadLine := kn_ok (c := .BadLine) (c.d.fact 24 rfl)
  x_BadLine := exc_ok (c.d.fact 25 rfl)
  cfs := fun d hd => cf_of (List.all_eq_true.mp (c.b) d hd)
  cf_SowError := cf_of (List.all_eq_true.mp (c.b) .SowError (by decide))
  cf_BadLine := cf_of (List.all_eq_true.mp (c.b) .BadLine (by decide))
end G
open PySem PySem.W PySem.Calls PyProof.Rows
set_option maxRecDepth 100000 in
set_option maxHeartbeats 0 in
theorem PySem.Challenge.cw_sowring_k35_lines_ahead_holds : PySem.Challenge.rw_sowring_k35_lines_ahead.Holds := by
  w_on; o_law
  refine HandSHeadRun.head_any (r := OpenLaw.row PySem.Challenge.rw_sowring_k35_lines_ahead) (q := view (OpenLaw.row PySem.Challenge.rw_sowring_k35_lines_ahead).prog [18]) (H := G.hk) (ob := G.ob) (M := 30000) (loose := ((["_wall", "SowError", "BadLine", "MOST_OF_LINE", "ask_line", "without_end", "ahead_of", "_law_numbers", "_law_line", "_law_march", "_law_whole_number", "_law_is_line", "_law_count", "_law_right", "_law_apart"] : List PySem.Str))) (d := HandSHeadRun.topDef (OpenLaw.row PySem.Challenge.rw_sowring_k35_lines_ahead).prog 18) (kwd := []) G.ob_eq
    (by kernel_rfl) (fun s => by kernel_rfl) G.run (by kernel_rfl) (by kernel_rfl) (by kernel_rfl) (by rfl) (by first | assumption | decide +kernel) (by decide +kernel) ⟨rfl, rfl, rfl, rfl, rfl, by decide +kernel⟩ ?hw ?hc
  case hw => w_witness2
  case hc =>
    refine G.walk_ofW (l := PySem.Challenge.rw_sowring_k35_lines_ahead) (n := 63) (k := 4) (x := "script") (CX := fun w => L2.CX PySem.Challenge.rw_sowring_k35_lines_ahead.prog w) rfl (by decide) (by kernel_rfl) ⟨rfl, by decide, by decide⟩ ?F ?C
    case C =>
      intro w H s e s' h
      obtain ⟨_, _, _, _, _, _, _, _, _, _, _, _, z⟩ := h
      exact z
    case F =>
      intro w mg fa h Y G' hmg0
      obtain ⟨K, KX, c⟩ := Y
      have hmg : mg ("law" : PySem.Str) = some (.ref fa) := by
        have e : (HandSHeadRun.topDef (OpenLaw.row PySem.Challenge.rw_sowring_k35_lines_ahead).prog 18).name = ("law" : PySem.Str) := by kernel_rfl
        rw [← e]
        exact hmg0
      have T : G.Hd K mg := G.hd_of KX G' c
      have e := hmg.symm.trans T.g_law
      cases e
      obtain ⟨fd, F⟩ := T.d_law
      have b := L2.FunD.bindsA (ps := ["script"]) F fun _ _ _ _ _ _ us hl => match us, hl with | [_], _ => rfl
      exact ⟨K, fd, G.sp1 K G.m_law, KX, fun s v => b s [v] rfl, fun H a ns hl hb hS => ⟨_, ⟨ns⟩, rfl, ⟨a, rfl, hS⟩, by
        rw [G.law_true ns hl hb]
        exact fun v' H' _ r => r⟩, fun base _ _ => G.ok_law T F⟩
