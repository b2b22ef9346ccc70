import PyProof.Rows.All
import Wide.All
import OpenK.AllK
import Wide.FinOn
import PyProof.EqAt
import PyProof.EqKinds
import PyProof.TupleCall
import KE.KStateDown
import Lean
import HandS.ForMost
import HandS.Exc
import HandS.TryOnly
import HandS.ExcOwn
import HandS.ExcIs
import HandS.ExcValue
import HandS.IsInst
import HandS.More
import HandS.Wide
import HandS.Words
import HandS.WordsExc
import HandS.WordsList
import HandS.Defaults
import HandS.Evl
import HandS.Head0
import HandS.Head1
import HandS.Head2
import HandS.HeadEnd
import HandS.HeadHook1
import HandS.HeadHook2
import KE.DataEq
import KE.KExcMore
import HandS.EndBits
import HandS.Sort
import KE.SortData
import KE.DataMinMax
import KE.DataCmp
import HandS.Deep
import HandS.Rev
import KE.KDictList
import HandS.Dict
import HandS.TupLen
import HandS.Conv
import KE.KDictSum
import KE.KDictDisplayH
import KE.GoesMore
import KE.GoesEnum
import PySem.Challenge.RW_sowring_k49_brought_home
set_option Elab.async false
set_option linter.all false
set_option maxRecDepth 100000
set_option maxHeartbeats 2000000
/-! G: outcomes, what a value tells, what an expression evaluates to. -/
namespace G
open PySem PySem.Spec PyProof.Rows L2

/-! ### outcomes -/
inductive Cn where
  | SowError | BadBoard | BadPit | BadPits | BadCount | NoSeeds | BadPlan | Unlike | TooLong | TooMany | BadLine | BadRow | BadYard | NoDeed | BadText
  deriving DecidableEq, Repr
def Cn.nm : Cn → Str
  | .SowError => "SowError" | .BadBoard => "BadBoard" | .BadPit => "BadPit" | .BadPits => "BadPits" | .BadCount => "BadCount" | .NoSeeds => "NoSeeds"
  | .BadPlan => "BadPlan" | .Unlike => "Unlike" | .TooLong => "TooLong" | .TooMany => "TooMany" | .BadLine => "BadLine" | .BadRow => "BadRow"
  | .BadYard => "BadYard" | .NoDeed => "NoDeed" | .BadText => "BadText"
inductive Er where
  | own (c : Cn)
  | plan (n : Int)
  deriving DecidableEq, Repr
inductive R (α : Type) where
  | ok (a : α)
  | er (e : Er)
  | bad
  deriving DecidableEq, Repr
def R.bd {α β : Type} (m : R α) (f : α → R β) : R β := match m with
  | .ok a => f a
  | .er e => .er e
  | .bad => .bad
def Wp {α : Type} (m : R α) (k : α → Prop) (e : Er → Prop) : Prop := match m with
  | .ok a => k a
  | .er c => e c
  | .bad => False
section
variable {α β γ : Type} {m : R α} {f : α → R β} {k : β → Prop} {e e' : Er → Prop}
theorem wp_bd : Wp (R.bd m f) k e = Wp m (fun a => Wp (f a) k e) e := by cases m <;> rfl
theorem wp_mono {k k' : α → Prop} (h : Wp m k e) (hk : ∀ a, m = .ok a → k a → k' a) (he : ∀ c, m = .er c → e c → e' c) : Wp m k' e' := by
  cases m with
  | ok a => exact hk a rfl h
  | er c => exact he c rfl h
  | bad => exact h
theorem bd_ok {a : α} : R.bd (.ok a) f = f a := rfl
theorem bd_er {c : Er} : R.bd (.er c) f = .er c := rfl
theorem bd_bad : R.bd .bad f = .bad := rfl
theorem bd_assoc {g : β → R γ} : R.bd (R.bd m f) g = R.bd m fun a => R.bd (f a) g := by cases m <;> rfl
theorem bd_id {m : R α} : R.bd m (fun a => .ok a) = m := by cases m <;> rfl
end
/-- nothing is raised, or it is not promised -/
def R.nx {α : Type} (m : R α) : R α := match m with
  | .ok a => .ok a
  | _ => .bad
/-! ### heaps -/
/-- a tuple never changes: it is seen from everywhere -/
def tupB : Option HO → Bool
  | some (.tup _) => true
  | _ => false
def dif (H0 H : Hp) : Hp := fun b => if tupB (H b) = true then H b else if (H0 b).isSome = true then none else H b
def mix (F H H' : Hp) : Hp := fun b => if (H b).isSome = true then (if tupB (H b) = true then H b else F b) else H' b
theorem dif_some {H0 H : Hp} {b : Addr} {o : HO} (h : dif H0 H b = some o) : (H0 b = none ∨ tupB (some o) = true) ∧ H b = some o := by
  unfold dif at h
  split at h
  · rename_i c
    rw [h] at c
    exact ⟨.inr c, h⟩
  · split at h
    · cases h
    · rename_i c
      refine ⟨.inl ?_, h⟩
      cases q : H0 b with
      | none => rfl
      | some u => rw [q] at c; exact absurd rfl c
theorem dif_of {H0 H : Hp} {b : Addr} {o : HO} (h0 : H0 b = none) (h : H b = some o) : dif H0 H b = some o := by
  unfold dif
  rw [h0]
  split <;> exact h
theorem dif_tup {H0 H : Hp} {b : Addr} {o : HO} (h0 : tupB (some o) = true) (h : H b = some o) : dif H0 H b = some o := by
  unfold dif
  rw [h, if_pos h0]
theorem dif_of' {H0 H : Hp} {b : Addr} {o : HO} (h0 : H0 b = none ∨ tupB (some o) = true) (h : H b = some o) : dif H0 H b = some o := h0.elim (fun z => dif_of z h) fun z => dif_tup z h
theorem mix_new {F H H' : Hp} {p : Addr} (h : H p = none) : mix F H H' p = H' p := by
  unfold mix
  rw [h]
  rfl
theorem mix_tup {F H H' : Hp} {p : Addr} {o : HO} (h : H p = some o) (ho : tupB (some o) = true) : mix F H H' p = some o := by
  unfold mix
  rw [h, if_pos (show (some o).isSome = true from rfl), if_pos ho]
theorem mix_old {F H H' : Hp} {p : Addr} {o : HO} (h : H p = some o) (ho : tupB (some o) = false := by rfl) : mix F H H' p = F p := by
  unfold mix
  rw [h, if_pos (show (some o).isSome = true from rfl), if_neg (by rw [ho]; decide)]
theorem mix_cases {F H H' : Hp} {p : Addr} {o : HO} (h : mix F H H' p = some o) : (H p = none ∧ H' p = some o) ∨ (H p = some o ∧ tupB (some o) = true) ∨ (∃ u, H p = some u ∧ tupB (some u) = false ∧ F p = some o) := by
  cases q : H p with
  | none => rw [mix_new q] at h; exact .inl ⟨rfl, h⟩
  | some u =>
    cases z : tupB (some u) with
    | true => rw [mix_tup q z] at h; cases h; exact .inr (.inl ⟨rfl, z⟩)
    | false => rw [mix_old q z] at h; exact .inr (.inr ⟨u, rfl, z, h⟩)
theorem same_mix {F H H' : Hp} (hF : Same F H) : Same F (mix F H H') := fun b o q => by
  have h := hF b o q
  cases z : tupB (some o) with
  | true => exact mix_tup h z
  | false => rw [mix_old h z]; exact q
theorem mix_same {F H H' : Hp} (hF : Same F H) (e : Same H H') : Same (mix F H H') H' := fun b o q => by
  rcases mix_cases q with ⟨_, h⟩ | ⟨h, _⟩ | ⟨_, _, _, h⟩
  · exact h
  · exact e b o h
  · exact e b o (hF b o h)
theorem mix_mono {F H H' H2 : Hp} (e : Same H' H2) : Same (mix F H H') (mix F H H2) := fun b o q => by
  rcases mix_cases q with ⟨h, h2⟩ | ⟨h, z⟩ | ⟨u, h, z, h2⟩
  · rw [mix_new h]; exact e b o h2
  · exact mix_tup h z
  · rw [mix_old h z]; exact h2
/-- the new part of a later heap lies in the mix -/
theorem dif_mix {F H H1 H' : Hp} (e : Same H H1) (e1 : Same H1 H') : Same (dif H1 H') (mix F H H') := fun b o q => by
  obtain ⟨h1, h2⟩ := dif_some q
  cases z : H b with
  | none => rw [mix_new z]; exact h2
  | some u =>
    rcases h1 with h1 | h1
    · rw [Same.free e h1] at z; cases z
    · have := (e.trans e1) b u z
      rw [h2] at this
      cases this
      exact mix_tup z h1
theorem dif_mono {H0 H H' : Hp} (e : Same H H') : Same (dif H0 H) (dif H0 H') := fun b o q => by
  obtain ⟨h1, h2⟩ := dif_some q
  exact dif_of' h1 (e b o h2)
theorem dif_le {H0 H : Hp} : Same (dif H0 H) H := fun b o q => (dif_some q).2
/-- what is new since H1 is new since H0 -/
theorem dif_back {H0 H1 H' : Hp} (e : Same H0 H1) : Same (dif H1 H') (dif H0 H') := fun b o q => by
  obtain ⟨h1, h2⟩ := dif_some q
  exact dif_of' (h1.elim (fun z => .inl (Same.free e z)) .inr) h2
theorem mix_dif {H0 F H H' : Hp} (e0 : Same H0 H) (hF : Same F H) (e : Same H H') : Same (mix (dif H0 F) H H') (dif H0 (mix F H H')) := fun b o q => by
  rcases mix_cases q with ⟨h, h2⟩ | ⟨h, z⟩ | ⟨u, h, z, h2⟩
  · exact dif_of (Same.free e0 h) (by rw [mix_new h]; exact h2)
  · exact dif_tup z (mix_tup h z)
  · obtain ⟨h3, h4⟩ := dif_some h2
    exact dif_of' h3 (same_mix hF b o h4)
/-! ### what a value tells -/
class Rp (α : Type) where
  rep : PySem.W.Frag → Hp → V → α → Prop
  mono : ∀ {K : PySem.W.Frag} {H H' : Hp} {v : V} {a : α}, Same H H' → rep K H v a → rep K H' v a
inductive All2 {α β : Type} (F : α → β → Prop) : List α → List β → Prop
  | nil : All2 F [] []
  | cons {a : α} {b : β} {l : List α} {l' : List β} : F a b → All2 F l l' → All2 F (a :: l) (b :: l')
section
variable {α β : Type} {F F' : α → β → Prop}
theorem All2.mono (h : ∀ a b, F a b → F' a b) : ∀ {l : List α} {l' : List β}, All2 F l l' → All2 F' l l'
  | _, _, .nil => .nil
  | _, _, .cons r t => .cons (h _ _ r) (All2.mono h t)
theorem All2.length : ∀ {l : List α} {l' : List β}, All2 F l l' → l.length = l'.length
  | _, _, .nil => rfl
  | _, _, .cons r t => by simp [All2.length t]
theorem All2.get : ∀ {l : List α} {l' : List β} {i : Nat} {b : β}, All2 F l l' → l'[i]? = some b → ∃ a, l[i]? = some a ∧ F a b
  | _, _, _, _, .nil, e => by simp at e
  | _, _, 0, _, .cons r t, e => by
    simp at e
    subst e
    exact ⟨_, rfl, r⟩
  | _, _, i + 1, b, .cons r t, e => by
    obtain ⟨a, h1, h2⟩ := All2.get (i := i) (b := b) t (by simpa using e)
    exact ⟨a, by simpa using h1, h2⟩
theorem All2.getL : ∀ {l : List α} {l' : List β} {i : Nat} {a : α}, All2 F l l' → l[i]? = some a → ∃ b, l'[i]? = some b ∧ F a b
  | _, _, _, _, .nil, e => by simp at e
  | _, _, 0, _, .cons r t, e => by
    simp at e
    subst e
    exact ⟨_, rfl, r⟩
  | _, _, i + 1, b, .cons r t, e => by
    obtain ⟨a, h1, h2⟩ := All2.getL (i := i) (a := b) t (by simpa using e)
    exact ⟨a, by simpa using h1, h2⟩
theorem All2.set {a : α} {b : β} (r : F a b) : ∀ {l : List α} {l' : List β} (i : Nat), All2 F l l' → All2 F (l.set i a) (l'.set i b)
  | _, _, _, .nil => .nil
  | _, _, 0, .cons _ t => .cons r t
  | _, _, i + 1, .cons q t => .cons q (All2.set r i t)
theorem All2.append : ∀ {l m : List α} {l' m' : List β}, All2 F l l' → All2 F m m' → All2 F (l ++ m) (l' ++ m')
  | _, _, _, _, .nil, s => s
  | _, _, _, _, .cons r t, s => .cons r (All2.append t s)
theorem All2.take : ∀ {l : List α} {l' : List β} (n : Nat), All2 F l l' → All2 F (l.take n) (l'.take n)
  | _, _, 0, _ => by simp; exact .nil
  | _, _, _ + 1, .nil => .nil
  | _, _, n + 1, .cons r t => .cons r (All2.take n t)
theorem All2.drop : ∀ {l : List α} {l' : List β} (n : Nat), All2 F l l' → All2 F (l.drop n) (l'.drop n)
  | _, _, 0, r => r
  | _, _, _ + 1, .nil => .nil
  | _, _, n + 1, .cons r t => All2.drop n t
theorem All2.dropLast : ∀ {l : List α} {l' : List β}, All2 F l l' → All2 F l.dropLast l'.dropLast := fun {l l'} h => by
  rw [List.dropLast_eq_take, List.dropLast_eq_take, h.length]
  exact h.take _
theorem All2.eraseIdx : ∀ {l : List α} {l' : List β} (i : Nat), All2 F l l' → All2 F (l.eraseIdx i) (l'.eraseIdx i)
  | _, _, _, .nil => .nil
  | _, _, 0, .cons _ t => t
  | _, _, i + 1, .cons q t => .cons q (All2.eraseIdx i t)
theorem All2.reverse : ∀ {l : List α} {l' : List β}, All2 F l l' → All2 F l.reverse l'.reverse
  | _, _, .nil => .nil
  | _, _, .cons r t => by
    rw [List.reverse_cons, List.reverse_cons]
    exact All2.append (All2.reverse t) (.cons r .nil)
theorem All2.rep {a : α} {b : β} (r : F a b) : ∀ n : Nat, All2 F (List.replicate n a) (List.replicate n b)
  | 0 => .nil
  | n + 1 => .cons r (All2.rep r n)
theorem All2.map (enc : β → α) (h : ∀ a b, F a b ↔ a = enc b) : ∀ {l : List α} {l' : List β}, All2 F l l' → l = l'.map enc
  | _, _, .nil => rfl
  | _, _, .cons r t => by rw [(h _ _).mp r, All2.map enc h t]; rfl
theorem All2.ofMap (enc : β → α) (h : ∀ b, F (enc b) b) : ∀ l' : List β, All2 F (l'.map enc) l'
  | [] => .nil
  | b :: t => .cons (h b) (All2.ofMap enc h t)
end
instance : Rp Int where
  rep _ _ v n := v = .int n
  mono _ h := h
instance : Rp Bool where
  rep _ _ v n := v = .bl n
  mono _ h := h
instance : Rp Str where
  rep _ _ v n := v = .str n
  mono _ h := h
instance : Rp Unit where
  rep _ _ v _ := v = .non
  mono _ h := h
instance {α : Type} [Rp α] : Rp (Option α) where
  rep K H v o := match o with
    | none => v = .non
    | some a => v ≠ .non ∧ Rp.rep K H v a
  mono {K H H' v a} e h := by
    cases a with
    | none => exact h
    | some a => exact ⟨h.1, Rp.mono e h.2⟩
instance {α : Type} [Rp α] : Rp (List α) where
  rep K H v xs := ∃ p vs, v = .ref p ∧ H p = some (.lst vs) ∧ All2 (Rp.rep K H) vs xs
  mono {K H H' v a} e h := by
    obtain ⟨p, vs, e1, e2, e3⟩ := h
    exact ⟨p, vs, e1, e p _ e2, e3.mono fun _ _ r => Rp.mono e r⟩
/-- the script: a list that is read alone -/
structure Scr where
  l : List Int
instance : Rp Scr where
  rep K H v s := ∃ p, v = .ref p ∧ SqL K H p (s.l.map V.int)
  mono {K H H' v a} e h := by
    obtain ⟨p, e1, e2⟩ := h
    exact ⟨p, e1, e.seq e2⟩
theorem same_seqT {K : PySem.W.Frag} {H H' : Hp} {a : Addr} {xs : List V} (e : Same H H') (h : SqT K H a xs) : SqT K H' a xs := by
  rcases h with (h | ⟨o, h⟩) | h
  · exact .inl (.inl (e _ _ h))
  · exact .inl (.inr ⟨o, e _ _ h⟩)
  · exact .inr h
instance {α β : Type} [Rp α] [Rp β] : Rp (α × β) where
  rep K H v t := ∃ p x y, v = .ref p ∧ H p = some (.tup [x, y]) ∧ Rp.rep K H x t.1 ∧ Rp.rep K H y t.2
  mono {K H H' v a} e h := by
    obtain ⟨p, x, y, e1, e2, e3, e4⟩ := h
    exact ⟨p, x, y, e1, e p _ e2, Rp.mono e e3, Rp.mono e e4⟩
/-- a triple -/
structure T3 (α β γ : Type) where
  a : α
  b : β
  c : γ
  deriving DecidableEq, Repr
instance {α β γ : Type} [Rp α] [Rp β] [Rp γ] : Rp (T3 α β γ) where
  rep K H v t := ∃ p x y z, v = .ref p ∧ H p = some (.tup [x, y, z]) ∧ Rp.rep K H x t.a ∧ Rp.rep K H y t.b ∧ Rp.rep K H z t.c
  mono {K H H' v a} e h := by
    obtain ⟨p, x, y, z, e1, e2, e3, e4, e5⟩ := h
    exact ⟨p, x, y, z, e1, e p _ e2, Rp.mono e e3, Rp.mono e e4, Rp.mono e e5⟩
/-- a tuple of any length of one kind -/
structure Tu (α : Type) where
  l : List α
  deriving DecidableEq, Repr
instance {α : Type} [Rp α] : Rp (Tu α) where
  rep K H v t := ∃ p vs, v = .ref p ∧ H p = some (.tup vs) ∧ All2 (Rp.rep K H) vs t.l
  mono {K H H' v a} e h := by
    obtain ⟨p, vs, e1, e2, e3⟩ := h
    exact ⟨p, vs, e1, e p _ e2, e3.mono fun _ _ r => Rp.mono e r⟩
theorem rep_ints {K : PySem.W.Frag} {H : Hp} {vs : List V} {ns : List Int} (h : All2 (Rp.rep K H) vs ns) : vs = ns.map V.int := h.map V.int fun _ _ => Iff.rfl
theorem rep_bools {K : PySem.W.Frag} {H : Hp} {vs : List V} {ns : List Bool} (h : All2 (Rp.rep K H) vs ns) : vs = ns.map V.bl := h.map V.bl fun _ _ => Iff.rfl
theorem rep_strs {K : PySem.W.Frag} {H : Hp} {vs : List V} {ns : List Str} (h : All2 (Rp.rep K H) vs ns) : vs = ns.map V.str := h.map V.str fun _ _ => Iff.rfl
theorem ints_rep {K : PySem.W.Frag} {H : Hp} (ns : List Int) : All2 (Rp.rep K H) (ns.map V.int) ns := All2.ofMap V.int (fun _ => rfl) ns
/-- a value that is not None -/
class NN (α : Type) [Rp α] where
  nn : ∀ {K : PySem.W.Frag} {H : Hp} {v : V} {a : α}, Rp.rep K H v a → v ≠ .non
instance : NN Int := ⟨fun h => by rw [show _ = V.int _ from h]; intro q; cases q⟩
instance : NN Bool := ⟨fun h => by rw [show _ = V.bl _ from h]; intro q; cases q⟩
instance : NN Str := ⟨fun h => by rw [show _ = V.str _ from h]; intro q; cases q⟩
instance {α : Type} [Rp α] : NN (List α) := ⟨fun ⟨_, _, h, _⟩ => by rw [h]; intro q; cases q⟩
instance {α β : Type} [Rp α] [Rp β] : NN (α × β) := ⟨fun ⟨_, _, _, h, _⟩ => by rw [h]; intro q; cases q⟩
instance {α β γ : Type} [Rp α] [Rp β] [Rp γ] : NN (T3 α β γ) := ⟨fun ⟨_, _, _, _, h, _⟩ => by rw [h]; intro q; cases q⟩
instance {α : Type} [Rp α] : NN (Tu α) := ⟨fun ⟨_, _, h, _⟩ => by rw [h]; intro q; cases q⟩

/-! ### what an expression evaluates to -/
/-- what is wished of an error behind H0 -/
def EE (K : PySem.W.Frag) (E : XK) (H0 : Hp) : Er → Prop
  | .own c => ∀ H', Same H0 H' → E (.ref (He.ga K c.nm)) none H'
  | .plan n => ∀ d H', Same H0 H' → H0 d = none → (∃ m, H' d = some (.xd [("words", .str m), ("at", .int n)])) → E (.ref (He.ga K "BadPlan")) (some d) H'
theorem EE.mono {K : PySem.W.Frag} {E : XK} {H0 H1 : Hp} (e : Same H0 H1) {c : Er} (h : EE K E H0 c) : EE K E H1 c := by
  cases c with
  | own c => exact fun H' q => h H' (e.trans q)
  | plan n => exact fun d H' q hd hm => h d H' (e.trans q) (e.free hd) hm
def Gr {α : Type} [Rp α] (K : PySem.W.Frag) (E : XK) (te : TE) (σ : L2.St) (F H : Hp) (m : R α) : Prop :=
  ∀ H1, Same H H1 → ∀ Q : VK, Wp m (fun a => ∀ v H2, Same H1 H2 → Rp.rep K (mix F H H2) v a → Q v H2) (EE K E H1) → te σ H1 Q
def GrT (K : PySem.W.Frag) (E : XK) (t : TT) (σ : L2.St) (H : Hp) (m : R Bool) : Prop :=
  ∀ H1, Same H H1 → ∀ Q : Bool → Hp → Prop, Wp m (fun b => ∀ H2, Same H1 H2 → Q b H2) (EE K E H1) → t σ H1 Q
section
variable {K : PySem.W.Frag} {E : XK} {σ : L2.St} {F H : Hp} {ta tb te : TE} {t u : TT} {α β γ δ : Type} [Rp α] [Rp β] [Rp γ] [Rp δ]
/-- two in a row -/
theorem gr_seq {ma : R α} {f : α → R β} {Q : VK} {H1 : Hp} (ha : Gr K E ta σ F H ma) (e : Same H H1) (hq : Wp (R.bd ma f) (fun b => ∀ v H2, Same H1 H2 → Rp.rep K (mix F H H2) v b → Q v H2) (EE K E H1))
    {Q' : VK} (h : ∀ a v H2, Same H1 H2 → Rp.rep K (mix F H H2) v a → Wp (f a) (fun b => ∀ v H3, Same H2 H3 → Rp.rep K (mix F H H3) v b → Q v H3) (EE K E H2) → Q' v H2) : ta σ H1 Q' := by
  refine ha H1 e Q' ?_
  rw [wp_bd] at hq
  exact wp_mono hq (fun a _ ka v H2 e2 r => h a v H2 e2 r (wp_mono ka (fun b _ kb v H3 e3 r3 => kb v H3 (e2.trans e3) r3) fun c _ z => z.mono e2)) fun c _ z => z
theorem gr_seqT {ma : R Bool} {f : Bool → R β} {Q : VK} {H1 : Hp} (ha : GrT K E t σ H ma) (e : Same H H1) (hq : Wp (R.bd ma f) (fun b => ∀ v H2, Same H1 H2 → Rp.rep K (mix F H H2) v b → Q v H2) (EE K E H1))
    {Q' : Bool → Hp → Prop} (h : ∀ a H2, Same H1 H2 → Wp (f a) (fun b => ∀ v H3, Same H2 H3 → Rp.rep K (mix F H H3) v b → Q v H3) (EE K E H2) → Q' a H2) : t σ H1 Q' := by
  refine ha H1 e Q' ?_
  rw [wp_bd] at hq
  exact wp_mono hq (fun a _ ka H2 e2 => h a H2 e2 (wp_mono ka (fun b _ kb v H3 e3 r3 => kb v H3 (e2.trans e3) r3) fun c _ z => z.mono e2)) fun c _ z => z
theorem g_var {i : Nat} {v : V} {a : α} (r : Rp.rep K F v a) (hF : Same F H) (h : σ[i]? = some (some v) := by rfl) : Gr K E (tVar i) σ F H (.ok a) :=
  fun H1 e Q hq => ⟨v, h, hq v H1 (Same.refl _) (Rp.mono (same_mix hF) r)⟩
theorem g_c {v : V} {a : α} (r : ∀ H', Rp.rep K H' v a) : Gr K E (tC v) σ F H (.ok a) := fun H1 e Q hq => hq v H1 (Same.refl _) (r _)
theorem g_int {n : Int} : Gr K E (tC (.int n)) σ F H (.ok n) := g_c fun _ => rfl
theorem g_bl {n : Bool} : Gr K E (tC (.bl n)) σ F H (.ok n) := g_c fun _ => rfl
theorem g_str {n : Str} : Gr K E (tC (.str n)) σ F H (.ok n) := g_c fun _ => rfl
theorem g_unit : Gr K E (tC .non) σ F H (.ok ()) := g_c fun _ => rfl
theorem g_non : Gr K E (tC .non) σ F H (.ok (none : Option α)) := g_c fun _ => rfl
/-- ints, bools, texts tell the same over any heap -/
class Sc (α : Type) [Rp α] where
  enc : α → V
  inj : ∀ {a b : α}, enc a = enc b → a = b
  is : ∀ {K : PySem.W.Frag} {H : Hp} {v : V} {a : α}, Rp.rep K H v a ↔ v = enc a
  sc : ∀ a b : α, scal (enc a) (enc b) = true
  flat : ∀ a : α, flatV (enc a) = true
instance : Sc Int := ⟨V.int, fun h => V.int.inj h, Iff.rfl, fun _ _ => rfl, fun _ => rfl⟩
instance : Sc Bool := ⟨V.bl, fun h => V.bl.inj h, Iff.rfl, fun _ _ => rfl, fun _ => rfl⟩
instance : Sc Str := ⟨V.str, fun h => V.str.inj h, Iff.rfl, fun _ _ => rfl, fun _ => rfl⟩
theorem g_sc [Sc α] {F' : Hp} {m : R α} (h : Gr K E te σ F' H m) : Gr K E te σ F H m := fun H1 e Q hq =>
  h H1 e Q (wp_mono hq (fun a _ k v H2 e2 r => k v H2 e2 (Sc.is.mpr (Sc.is.mp r))) fun _ _ z => z)
theorem g_some [NN α] {m : R α} (h : Gr K E te σ F H m) : Gr K E te σ F H (R.bd m fun a => .ok (some a)) := fun H1 e Q hq =>
  h H1 e Q (by rw [wp_bd] at hq; exact wp_mono hq (fun a _ k v H2 e2 r => k v H2 e2 ⟨NN.nn r, r⟩) fun _ _ z => z)
/-- a value that may be None, known not to be -/
def unO {α : Type} (o : Option α) : R α := match o with
  | some a => .ok a
  | none => .bad
theorem g_un {m : R (Option α)} (h : Gr K E te σ F H m) : Gr K E te σ F H (R.bd m unO) := fun H1 e Q hq =>
  h H1 e Q (by
    rw [wp_bd] at hq
    refine wp_mono hq (fun a _ k v H2 e2 r => ?_) fun _ _ z => z
    cases a with
    | none => exact k.elim
    | some a => exact k v H2 e2 r.2)
/-! operators -/
theorem g_i0 {f : Int → Int → Int} {ma mb : R Int} (ha : Gr K E ta σ F H ma) (hb : Gr K E tb σ F H mb) : Gr K E (tOp (rI0 fun i j => .int (f i j)) ta tb) σ F H (R.bd ma fun a => R.bd mb fun b => .ok (f a b)) := fun H1 e Q hq =>
  gr_seq ha e hq fun a v H2 e2 r hq2 => gr_seq hb (e.trans e2) hq2 fun b w H3 e3 r3 hq3 => ⟨a, b, r, r3, hq3 _ H3 (Same.refl _) rfl⟩
theorem g_b0 {f : Int → Int → Bool} {ma mb : R Int} (ha : Gr K E ta σ F H ma) (hb : Gr K E tb σ F H mb) : Gr K E (tOp (rI0 fun i j => .bl (f i j)) ta tb) σ F H (R.bd ma fun a => R.bd mb fun b => .ok (f a b)) := fun H1 e Q hq =>
  gr_seq ha e hq fun a v H2 e2 r hq2 => gr_seq hb (e.trans e2) hq2 fun b w H3 e3 r3 hq3 => ⟨a, b, r, r3, hq3 _ H3 (Same.refl _) rfl⟩
open Classical in
noncomputable def gd {α : Type} (c : Prop) (m : R α) : R α := if c then m else .bad
theorem gd_pos {α : Type} {c : Prop} {m : R α} (h : c) : gd c m = m := if_pos h
theorem g_iC {C : Int → Int → Prop} [∀ a b, Decidable (C a b)] {f : Int → Int → Int} {ma mb : R Int} (ha : Gr K E ta σ F H ma) (hb : Gr K E tb σ F H mb) :
    Gr K E (tOp (rI C fun i j => .int (f i j)) ta tb) σ F H (R.bd ma fun a => R.bd mb fun b => gd (C a b) (.ok (f a b))) := fun H1 e Q hq =>
  gr_seq ha e hq fun a v H2 e2 r hq2 => gr_seq hb (e.trans e2) hq2 fun b w H3 e3 r3 hq3 => by
    unfold gd at hq3
    split at hq3
    · rename_i c
      exact ⟨a, b, r, r3, c, hq3 _ H3 (Same.refl _) rfl⟩
    · exact hq3.elim
/-- .. with a condition that is known -/
theorem g_iK {C : Int → Int → Prop} {f : Int → Int → Int} {ma : R Int} {b : Int} (hc : ∀ a, C a b) (ha : Gr K E ta σ F H ma) (hb : Gr K E tb σ F H (.ok b)) :
    Gr K E (tOp (rI C fun i j => .int (f i j)) ta tb) σ F H (R.bd ma fun a => .ok (f a b)) := fun H1 e Q hq =>
  gr_seq ha e hq fun a v H2 e2 r hq2 => hb H2 (e.trans e2) _ fun w H3 e3 r3 => ⟨a, b, r, r3, hc a, hq2 _ H3 e3 rfl⟩
/-- * of two factors of together less than 134 million bits -/
def CMulV (i j : Int) : Prop := i.natAbs.log2 + j.natAbs.log2 < 134000000
theorem CMulV.ok {i j : Int} (h : CMulV i j) : IntMulOk i j := by
  have b : ∀ x : Int, Builtin.Int.intBits x ≤ x.natAbs.log2 + 1 := fun x => by
    unfold Builtin.Int.intBits
    split <;> omega
  have h1 := b i
  have h2 := b j
  have h3 : i.natAbs.log2 + j.natAbs.log2 < 134000000 := h
  have e : bitsLine = 134217728 := by decide
  unfold IntMulOk
  intro z
  rw [Bool.and_eq_true] at z
  have z3 := of_decide_eq_true (show decide _ = true from z.2)
  rw [e] at z3
  omega
theorem op_mulV {X : Cx} : OpR X (binaryOp .Mult) (rI CMulV fun i j => .int (i * j)) := opI fun _ _ _ _ _ _ _ hc q => mul_int q hc.ok
theorem wide_mulV {i j : Int} {a b : Nat} (ha : i.natAbs < 2 ^ a) (hb : j.natAbs < 2 ^ b) (h0 : 0 < a) (h1 : 0 < b) (h : a + b ≤ 134000000) : CMulV i j := by
  have x := PySem.Flt.log2_lt_of h0 ha
  have y := PySem.Flt.log2_lt_of h1 hb
  unfold CMulV
  omega
instance {a b : Int} : Decidable (CMulV a b) := by unfold CMulV; exact inferInstance
instance {a b : Int} : Decidable (CDivW a b) := by unfold CDivW; exact inferInstance
noncomputable def mulR (a b : Int) : R Int := gd (CMulV a b) (.ok (a * b))
noncomputable def divR (a b : Int) : R Int := gd (CDivW a b) (.ok (a / b))
noncomputable def modR (a b : Int) : R Int := gd (0 < b) (.ok (a % b))
noncomputable def shrR (a b : Int) : R Int := gd (0 ≤ b) (.ok (a / 2 ^ b.toNat))
theorem g_mul {ma mb : R Int} (ha : Gr K E ta σ F H ma) (hb : Gr K E tb σ F H mb) : Gr K E (tOp (rI CMulV fun i j => .int (i * j)) ta tb) σ F H (R.bd ma fun a => R.bd mb fun b => mulR a b) := g_iC ha hb
theorem g_div {ma mb : R Int} (ha : Gr K E ta σ F H ma) (hb : Gr K E tb σ F H mb) : Gr K E (tOp (rI CDivW fun i j => .int (i / j)) ta tb) σ F H (R.bd ma fun a => R.bd mb fun b => divR a b) := g_iC ha hb
theorem g_mod {ma mb : R Int} (ha : Gr K E ta σ F H ma) (hb : Gr K E tb σ F H mb) : Gr K E (tOp (rI (fun _ j => 0 < j) fun i j => .int (i % j)) ta tb) σ F H (R.bd ma fun a => R.bd mb fun b => modR a b) := g_iC ha hb
theorem g_shr {ma mb : R Int} (ha : Gr K E ta σ F H ma) (hb : Gr K E tb σ F H mb) : Gr K E (tOp (rI (fun _ j => 0 ≤ j) fun i j => .int (i / 2 ^ j.toNat)) ta tb) σ F H (R.bd ma fun a => R.bd mb fun b => shrR a b) := g_iC ha hb
/-- a written factor -/
theorem g_mulL {ma : R Int} {b : Int} (hc : -(2 ^ 64) < b ∧ b < 2 ^ 64) (ha : Gr K E ta σ F H ma) (hb : Gr K E tb σ F H (.ok b)) : Gr K E (tOp (rI CMul fun i j => .int (i * j)) ta tb) σ F H (R.bd ma fun a => .ok (a * b)) := g_iK (fun _ => .inr hc) ha hb
theorem g_mulF {mb : R Int} {a : Int} (hc : -(2 ^ 64) < a ∧ a < 2 ^ 64) (ha : Gr K E ta σ F H (.ok a)) (hb : Gr K E tb σ F H mb) : Gr K E (tOp (rI CMul fun i j => .int (i * j)) ta tb) σ F H (R.bd mb fun b => .ok (a * b)) := fun H1 e Q hq =>
  ha H1 e _ fun v H2 e2 r2 => gr_seq hb (e.trans e2) (wp_mono hq (fun b _ kb v H3 e3 r3 => kb v H3 (e2.trans e3) r3) fun c _ z => z.mono e2) fun b w H3 e3 r3 hq3 => ⟨a, b, r2, r3, .inl hc, hq3 _ H3 (Same.refl _) rfl⟩
theorem g_divL {ma : R Int} {b : Int} (hc : 0 < b ∧ b.natAbs.log2 < 9000) (ha : Gr K E ta σ F H ma) (hb : Gr K E tb σ F H (.ok b)) : Gr K E (tOp (rI CDivW fun i j => .int (i / j)) ta tb) σ F H (R.bd ma fun a => .ok (a / b)) := g_iK (fun _ => hc) ha hb
theorem g_modL {ma : R Int} {b : Int} (hc : 0 < b) (ha : Gr K E ta σ F H ma) (hb : Gr K E tb σ F H (.ok b)) : Gr K E (tOp (rI (fun _ j => 0 < j) fun i j => .int (i % j)) ta tb) σ F H (R.bd ma fun a => .ok (a % b)) := g_iK (fun _ => hc) ha hb
theorem g_pow {a : Int} {n : Nat} (hc : n ≤ 1000000 ∧ a.natAbs < 2 ^ 64) : Gr K E (tOp (rI CPow fun i j => .int (i ^ j.toNat)) (tC (.int a)) (tC (.int n))) σ F H (.ok (a ^ n)) := fun H1 e Q hq =>
  ⟨a, n, rfl, rfl, ⟨by omega, by omega, hc.2⟩, hq _ H1 (Same.refl _) rfl⟩
theorem g_neg {ma : R Int} (ha : Gr K E ta σ F H ma) : Gr K E (tUn (rU fun i => .int (-i)) ta) σ F H (R.bd ma fun a => .ok (-a)) := fun H1 e Q hq =>
  gr_seq ha e hq fun a v H2 e2 r hq2 => ⟨a, r, hq2 _ H2 (Same.refl _) rfl⟩
theorem g_eq [Sc α] [DecidableEq α] {ma mb : R α} (ha : Gr K E ta σ F H ma) (hb : Gr K E tb σ F H mb) : Gr K E (tOp rEq ta tb) σ F H (R.bd ma fun a => R.bd mb fun b => .ok (decide (a = b))) := fun H1 e Q hq =>
  gr_seq ha e hq fun a v H2 e2 r hq2 => gr_seq hb (e.trans e2) hq2 fun b w H3 e3 r3 hq3 => by
    have h1 := Sc.is.mp r
    have h2 := Sc.is.mp r3
    subst h1 h2
    refine ⟨Sc.sc a b, ?_⟩
    have e : decide (Sc.enc a = Sc.enc b) = decide (a = b) := decide_eq_decide.mpr ⟨Sc.inj, fun q => by rw [q]⟩
    rw [e]
    exact hq3 _ H3 (Same.refl _) rfl
theorem g_ne [Sc α] [DecidableEq α] {ma mb : R α} (ha : Gr K E ta σ F H ma) (hb : Gr K E tb σ F H mb) : Gr K E (tOp rNe ta tb) σ F H (R.bd ma fun a => R.bd mb fun b => .ok (!decide (a = b))) := fun H1 e Q hq =>
  gr_seq ha e hq fun a v H2 e2 r hq2 => gr_seq hb (e.trans e2) hq2 fun b w H3 e3 r3 hq3 => by
    have h1 := Sc.is.mp r
    have h2 := Sc.is.mp r3
    subst h1 h2
    refine ⟨Sc.sc a b, ?_⟩
    have e : decide (Sc.enc a = Sc.enc b) = decide (a = b) := decide_eq_decide.mpr ⟨Sc.inj, fun q => by rw [q]⟩
    rw [e]
    exact hq3 _ H3 (Same.refl _) rfl
theorem g_isN [NN α] {ma : R (Option α)} (ha : Gr K E ta σ F H ma) : Gr K E (tIsN ta) σ F H (R.bd ma fun a => .ok a.isNone) := fun H1 e Q hq =>
  gr_seq ha e hq fun a v H2 e2 r hq2 => by
    show Q (.bl (decide (v = .non))) H2
    cases a with
    | none =>
      have r' : v = .non := r
      rw [decide_eq_true r']
      exact hq2 _ H2 (Same.refl _) rfl
    | some a =>
      rw [decide_eq_false r.1]
      exact hq2 _ H2 (Same.refl _) rfl
theorem g_notN [NN α] {ma : R (Option α)} (ha : Gr K E ta σ F H ma) : Gr K E (tNotN ta) σ F H (R.bd ma fun a => .ok a.isSome) := fun H1 e Q hq =>
  gr_seq ha e hq fun a v H2 e2 r hq2 => by
    show Q (.bl (!decide (v = .non))) H2
    cases a with
    | none =>
      have r' : v = .non := r
      rw [decide_eq_true r']
      exact hq2 _ H2 (Same.refl _) rfl
    | some a =>
      rw [decide_eq_false r.1]
      exact hq2 _ H2 (Same.refl _) rfl
/-! tests -/
theorem t_test {ma : R Bool} (ha : Gr K E ta σ F H ma) : GrT K E (tTest ta) σ H ma := fun H1 e Q hq =>
  ha H1 e _ (wp_mono hq (fun a _ k v H2 e2 r => ⟨a, r, k H2 e2⟩) fun _ _ z => z)
theorem t_B {ma : R Bool} (ha : Gr K E ta σ F H ma) : GrT K E (tB ta) σ H ma := fun H1 e Q hq =>
  ha H1 e _ (wp_mono hq (fun a _ k v H2 e2 r => ⟨a, r, k H2 e2⟩) fun _ _ z => z)
theorem t_not {ma : R Bool} (ha : GrT K E t σ H ma) : GrT K E (tNot t) σ H (R.bd ma fun b => .ok (!b)) := fun H1 e Q hq =>
  ha H1 e _ (by rw [wp_bd] at hq; exact hq)
theorem t_and {ma mb : R Bool} (ha : GrT K E t σ H ma) (hb : GrT K E u σ H mb) : GrT K E (tAnd t u) σ H (R.bd ma fun b => if b = true then mb else .ok false) := fun H1 e Q hq =>
  ha H1 e _ (by
    rw [wp_bd] at hq
    refine wp_mono hq (fun a _ k H2 e2 => ?_) fun _ _ z => z
    cases a with
    | true => exact hb H2 (e.trans e2) _ (wp_mono k (fun b _ kb H3 e3 => kb H3 (e2.trans e3)) fun c _ z => z.mono e2)
    | false => exact k H2 e2)
theorem t_or {ma mb : R Bool} (ha : GrT K E t σ H ma) (hb : GrT K E u σ H mb) : GrT K E (tOr t u) σ H (R.bd ma fun b => if b = true then .ok true else mb) := fun H1 e Q hq =>
  ha H1 e _ (by
    rw [wp_bd] at hq
    refine wp_mono hq (fun a _ k H2 e2 => ?_) fun _ _ z => z
    cases a with
    | true => exact k H2 e2
    | false => exact hb H2 (e.trans e2) _ (wp_mono k (fun b _ kb H3 e3 => kb H3 (e2.trans e3)) fun c _ z => z.mono e2))
/-- .. where the second can't fail -/
theorem t_andP {ma : R Bool} {b : Bool} (ha : GrT K E t σ H ma) (hb : GrT K E u σ H (.ok b)) : GrT K E (tAnd t u) σ H (R.bd ma fun a => .ok (a && b)) := fun H1 e Q hq =>
  t_and ha hb H1 e Q (by
    rw [wp_bd] at hq ⊢
    refine wp_mono hq (fun a _ k => ?_) fun _ _ z => z
    cases a with
    | true => exact k
    | false => exact k)
theorem t_orP {ma : R Bool} {b : Bool} (ha : GrT K E t σ H ma) (hb : GrT K E u σ H (.ok b)) : GrT K E (tOr t u) σ H (R.bd ma fun a => .ok (a || b)) := fun H1 e Q hq =>
  t_or ha hb H1 e Q (by
    rw [wp_bd] at hq ⊢
    refine wp_mono hq (fun a _ k => ?_) fun _ _ z => z
    cases a with
    | true => exact k
    | false => exact k)
/-! .. as values -/
theorem g_notV {ma : R Bool} (ha : Gr K E ta σ F H ma) : Gr K E (tNotV ta) σ F H (R.bd ma fun b => .ok (!b)) := fun H1 e Q hq =>
  gr_seq ha e hq fun a v H2 e2 r hq2 => ⟨a, r, hq2 _ H2 (Same.refl _) rfl⟩
theorem g_andV {ma mb : R Bool} (ha : Gr K E ta σ F H ma) (hb : Gr K E tb σ F H mb) : Gr K E (tAndV ta tb) σ F H (R.bd ma fun b => if b = true then mb else .ok false) := fun H1 e Q hq =>
  gr_seq ha e hq fun a v H2 e2 r hq2 => ⟨a, r, by
    cases a with
    | true => exact hb H2 (e.trans e2) _ hq2
    | false => exact hq2 _ H2 (Same.refl _) rfl⟩
theorem g_orV {ma mb : R Bool} (ha : Gr K E ta σ F H ma) (hb : Gr K E tb σ F H mb) : Gr K E (tOrV ta tb) σ F H (R.bd ma fun b => if b = true then .ok true else mb) := fun H1 e Q hq =>
  gr_seq ha e hq fun a v H2 e2 r hq2 => ⟨a, r, by
    cases a with
    | true => exact hq2 _ H2 (Same.refl _) rfl
    | false => exact hb H2 (e.trans e2) _ hq2⟩
theorem g_andVP {ma : R Bool} {b : Bool} (ha : Gr K E ta σ F H ma) (hb : Gr K E tb σ F H (.ok b)) : Gr K E (tAndV ta tb) σ F H (R.bd ma fun a => .ok (a && b)) := fun H1 e Q hq =>
  g_andV ha hb H1 e Q (by
    rw [wp_bd] at hq ⊢
    refine wp_mono hq (fun a _ k => ?_) fun _ _ z => z
    cases a with
    | true => exact k
    | false => exact k)
theorem g_orVP {ma : R Bool} {b : Bool} (ha : Gr K E ta σ F H ma) (hb : Gr K E tb σ F H (.ok b)) : Gr K E (tOrV ta tb) σ F H (R.bd ma fun a => .ok (a || b)) := fun H1 e Q hq =>
  g_orV ha hb H1 e Q (by
    rw [wp_bd] at hq ⊢
    refine wp_mono hq (fun a _ k => ?_) fun _ _ z => z
    cases a with
    | true => exact k
    | false => exact k)
theorem g_if {mc : R Bool} {ma mb : R α} (hc : GrT K E t σ H mc) (ha : Gr K E ta σ F H ma) (hb : Gr K E tb σ F H mb) : Gr K E (tIf t ta tb) σ F H (R.bd mc fun b => if b = true then ma else mb) := fun H1 e Q hq =>
  gr_seqT hc e hq fun a H2 e2 hq2 => by
    cases a with
    | true => exact ha H2 (e.trans e2) _ hq2
    | false => exact hb H2 (e.trans e2) _ hq2
end
end G

set_option Elab.async false
set_option linter.all false
set_option maxRecDepth 100000
set_option maxHeartbeats 2000000
/-! G: lists, tuples, calls of built-ins, comprehensions. -/
namespace G
open PySem PySem.Spec PyProof.Rows L2
/-- lists made here are no longer than this -/
def lim : Nat := 10000000
theorem lim_line {n : Nat} (h : n ≤ lim) : n ≤ sizeLine := Nat.le_trans h (by decide)
theorem lim_line' {n : Nat} (h : n < lim) : n < sizeLine := Nat.lt_of_lt_of_le h (by decide)
section
variable {K : PySem.W.Frag} {E : XK} {σ : L2.St} {F H : Hp} {ta tb te tl : TE} {t u : TT} {α β γ δ ρ : Type} [Rp α] [Rp β] [Rp γ] [Rp δ] [Rp ρ]
/-! ### arguments in a row -/
inductive Rs : List (Σ α : Type, Rp α) → Type 1
  | nil : Rs []
def GrA (K : PySem.W.Frag) (E : XK) (ta : TA) (σ : L2.St) (F H : Hp) (m : R (List α)) : Prop :=
  ∀ H1, Same H H1 → ∀ Q : List V → Hp → Prop, Wp m (fun as => ∀ vs H2, Same H1 H2 → All2 (Rp.rep K (mix F H H2)) vs as → Q vs H2) (EE K E H1) → ta σ H1 Q
theorem a_nil : GrA K E tNil σ F H (.ok ([] : List α)) := fun H1 e Q hq => hq [] H1 (Same.refl _) .nil
theorem a_cons {tr : TA} {m : R α} {mr : R (List α)} (h : Gr K E ta σ F H m) (hr : GrA K E tr σ F H mr) : GrA K E (tCons ta tr) σ F H (R.bd m fun a => R.bd mr fun as => .ok (a :: as)) := fun H1 e Q hq =>
  h H1 e _ (by
    rw [wp_bd] at hq
    refine wp_mono hq (fun a _ k v H2 e2 r => ?_) fun _ _ z => z
    refine hr H2 (e.trans e2) _ ?_
    rw [wp_bd] at k
    exact wp_mono k (fun as _ k2 vs H3 e3 r3 => k2 (v :: vs) H3 (e2.trans e3) (.cons (Rp.mono (mix_mono e3) r) r3)) fun c _ z => z.mono e2)
/-- a list display -/
theorem g_lst {t : TA} {m : R (List α)} (h : GrA K E t σ F H m) : Gr K E (tLst t) σ F H (R.bd m fun as => gd (as.length ≤ lim) (.ok as)) := fun H1 e Q hq =>
  h H1 e _ (by
    rw [wp_bd] at hq
    refine wp_mono hq (fun as _ k vs H2 e2 r => ?_) fun _ _ z => z
    unfold gd at k
    split at k
    · rename_i c
      refine ⟨lim_line (by rw [r.length]; exact c), fun p hp => k _ _ (e2.trans (fun b o q => by rw [upd_ne (ne_of_none q hp)]; exact q)) ?_⟩
      have hn : H p = none := Same.free (e.trans e2) hp
      refine ⟨p, vs, rfl, by rw [mix_new hn]; exact upd_same, r.mono fun _ _ x => Rp.mono (mix_mono fun b o q => by rw [upd_ne (ne_of_none q hp)]; exact q) x⟩
    · exact k.elim)
/-- .. short, its items known -/
theorem g_lstK {t : TA} {as : List α} (h : GrA K E t σ F H (.ok as)) (hl : as.length ≤ lim := by decide) : Gr K E (tLst t) σ F H (.ok as) := fun H1 e Q hq =>
  g_lst h H1 e Q (by rw [wp_bd]; show Wp (gd _ _) _ _; rw [gd_pos hl]; exact hq)
theorem same_upd {H : Hp} {p : Addr} {o : HO} (hp : H p = none) : Same H (upd H p o) := fun b u q => by rw [upd_ne (ne_of_none q hp)]; exact q
theorem g_pair {ma : R α} {mb : R β} (ha : Gr K E ta σ F H ma) (hb : Gr K E tb σ F H mb) : Gr K E (tTup (tCons ta (tCons tb tNil))) σ F H (R.bd ma fun a => R.bd mb fun b => .ok (a, b)) := fun H1 e Q hq =>
  gr_seq ha e hq fun a v H2 e2 r hq2 => gr_seq hb (e.trans e2) hq2 fun b w H3 e3 r3 hq3 => by
    refine ⟨by show 2 ≤ sizeLine; decide, fun p hp => hq3 _ _ (same_upd hp) ?_⟩
    have hn : H p = none := Same.free (e.trans (e2.trans e3)) hp
    exact ⟨p, v, w, rfl, by rw [mix_new hn]; exact upd_same, Rp.mono (mix_mono (e3.trans (same_upd hp))) r, Rp.mono (mix_mono (same_upd hp)) r3⟩
theorem g_tri {tc : TE} {ma : R α} {mb : R β} {mc : R γ} (ha : Gr K E ta σ F H ma) (hb : Gr K E tb σ F H mb) (hc : Gr K E tc σ F H mc) :
    Gr K E (tTup (tCons ta (tCons tb (tCons tc tNil)))) σ F H (R.bd ma fun a => R.bd mb fun b => R.bd mc fun c => .ok (T3.mk a b c)) := fun H1 e Q hq =>
  gr_seq ha e hq fun a v H2 e2 r hq2 => gr_seq hb (e.trans e2) hq2 fun b w H3 e3 r3 hq3 => gr_seq hc (e.trans (e2.trans e3)) hq3 fun c z H4 e4 r4 hq4 => by
    refine ⟨by show 3 ≤ sizeLine; decide, fun p hp => hq4 _ _ (same_upd hp) ?_⟩
    have hn : H p = none := Same.free (e.trans (e2.trans (e3.trans e4))) hp
    exact ⟨p, v, w, z, rfl, by rw [mix_new hn]; exact upd_same, Rp.mono (mix_mono (e3.trans (e4.trans (same_upd hp)))) r, Rp.mono (mix_mono (e4.trans (same_upd hp))) r3, Rp.mono (mix_mono (same_upd hp)) r4⟩
/-! ### items -/
def idx {α : Type} (xs : List α) (i : Int) : R α := match atI xs i with
  | some a => .ok a
  | none => .bad
theorem all2_atI {P : V → α → Prop} {vs : List V} {xs : List α} {i : Int} {a : α} (h : All2 P vs xs) (e : atI xs i = some a) : ∃ v, atI vs i = some v ∧ P v a := by
  unfold atI at e ⊢
  rw [h.length]
  cases q : ixN xs.length i with
  | none => rw [q] at e; cases e
  | some j =>
    rw [q] at e
    exact h.get e
theorem g_idx {ma : R (List α)} {mi : R Int} (ha : Gr K E ta σ F H ma) (hi : Gr K E tb σ F H mi) (hF : Same F H) : Gr K E (tOp (rIxL K) ta tb) σ F H (R.bd ma fun a => R.bd mi fun i => idx a i) := fun H1 e Q hq =>
  gr_seq ha e hq fun xs v H2 e2 r hq2 => gr_seq hi (e.trans e2) hq2 fun i w H3 e3 r3 hq3 => by
    obtain ⟨p, vs, rfl, hp, hv⟩ := r
    have r3' : w = .int i := r3
    subst r3'
    unfold idx at hq3
    cases q : atI xs i with
    | none => rw [q] at hq3; exact hq3.elim
    | some a =>
      rw [q] at hq3
      obtain ⟨x, hx, rx⟩ := all2_atI hv q
      refine ⟨p, vs, i, x, rfl, rfl, SqL.of (e3 p _ (mix_same hF (e.trans e2) p _ hp)), hx, hq3 x H3 (Same.refl _) (Rp.mono (mix_mono e3) rx)⟩
theorem g_idxT {ma : R (Tu α)} {mi : R Int} (ha : Gr K E ta σ F H ma) (hi : Gr K E tb σ F H mi) (hF : Same F H) : Gr K E (tOp (rIxT K) ta tb) σ F H (R.bd ma fun a => R.bd mi fun i => idx a.l i) := fun H1 e Q hq =>
  gr_seq ha e hq fun xs v H2 e2 r hq2 => gr_seq hi (e.trans e2) hq2 fun i w H3 e3 r3 hq3 => by
    obtain ⟨p, vs, rfl, hp, hv⟩ := r
    have r3' : w = .int i := r3
    subst r3'
    unfold idx at hq3
    cases q : atI xs.l i with
    | none => rw [q] at hq3; exact hq3.elim
    | some a =>
      rw [q] at hq3
      obtain ⟨x, hx, rx⟩ := all2_atI hv q
      refine ⟨p, vs, i, x, rfl, rfl, SqT.of (e3 p _ (mix_same hF (e.trans e2) p _ hp)), hx, hq3 x H3 (Same.refl _) (Rp.mono (mix_mono e3) rx)⟩
theorem atI_map {α β : Type} {f : α → β} {xs : List α} {i : Int} {a : α} (h : atI xs i = some a) : atI (xs.map f) i = some (f a) := by
  unfold atI at h ⊢
  rw [List.length_map]
  cases q : ixN xs.length i with
  | none => rw [q] at h; cases h
  | some j =>
    rw [q] at h
    show (xs.map f)[j]? = some (f a)
    rw [List.getElem?_map, show xs[j]? = some a from h]
    rfl
/-- the script's -/
theorem g_idxS {ma : R Scr} {mi : R Int} (ha : Gr K E ta σ F H ma) (hi : Gr K E tb σ F H mi) (hF : Same F H) : Gr K E (tOp (rIxL K) ta tb) σ F H (R.bd ma fun a => R.bd mi fun i => idx a.l i) := fun H1 e Q hq =>
  gr_seq ha e hq fun xs v H2 e2 r hq2 => gr_seq hi (e.trans e2) hq2 fun i w H3 e3 r3 hq3 => by
    obtain ⟨p, rfl, hp⟩ := r
    have r3' : w = .int i := r3
    subst r3'
    unfold idx at hq3
    cases q : atI xs.l i with
    | none => rw [q] at hq3; exact hq3.elim
    | some a =>
      rw [q] at hq3
      exact ⟨p, _, i, _, rfl, rfl, e3.seq ((mix_same hF (e.trans e2)).seq hp), atI_map q, hq3 _ H3 (Same.refl _) rfl⟩
theorem g_fst {m : R (α × β)} (h : Gr K E ta σ F H m) (hF : Same F H) : Gr K E (tOp (rIxT K) ta (tC (.int 0))) σ F H (R.bd m fun p => .ok p.1) := fun H1 e Q hq =>
  gr_seq h e hq fun a v H2 e2 r hq2 => by
    obtain ⟨p, x, y, rfl, hp, r1, r2⟩ := r
    exact ⟨p, _, 0, x, rfl, rfl, SqT.of (mix_same hF (e.trans e2) p _ hp), rfl, hq2 x H2 (Same.refl _) r1⟩
theorem g_snd {m : R (α × β)} (h : Gr K E ta σ F H m) (hF : Same F H) : Gr K E (tOp (rIxT K) ta (tC (.int 1))) σ F H (R.bd m fun p => .ok p.2) := fun H1 e Q hq =>
  gr_seq h e hq fun a v H2 e2 r hq2 => by
    obtain ⟨p, x, y, rfl, hp, r1, r2⟩ := r
    exact ⟨p, _, 1, y, rfl, rfl, SqT.of (mix_same hF (e.trans e2) p _ hp), rfl, hq2 y H2 (Same.refl _) r2⟩
theorem g_t3a {m : R (T3 α β γ)} (h : Gr K E ta σ F H m) (hF : Same F H) : Gr K E (tOp (rIxT K) ta (tC (.int 0))) σ F H (R.bd m fun p => .ok p.a) := fun H1 e Q hq =>
  gr_seq h e hq fun a v H2 e2 r hq2 => by
    obtain ⟨p, x, y, z, rfl, hp, r1, r2, r3⟩ := r
    exact ⟨p, _, 0, x, rfl, rfl, SqT.of (mix_same hF (e.trans e2) p _ hp), rfl, hq2 x H2 (Same.refl _) r1⟩
theorem g_t3b {m : R (T3 α β γ)} (h : Gr K E ta σ F H m) (hF : Same F H) : Gr K E (tOp (rIxT K) ta (tC (.int 1))) σ F H (R.bd m fun p => .ok p.b) := fun H1 e Q hq =>
  gr_seq h e hq fun a v H2 e2 r hq2 => by
    obtain ⟨p, x, y, z, rfl, hp, r1, r2, r3⟩ := r
    exact ⟨p, _, 1, y, rfl, rfl, SqT.of (mix_same hF (e.trans e2) p _ hp), rfl, hq2 y H2 (Same.refl _) r2⟩
theorem g_t3c {m : R (T3 α β γ)} (h : Gr K E ta σ F H m) (hF : Same F H) : Gr K E (tOp (rIxT K) ta (tC (.int 2))) σ F H (R.bd m fun p => .ok p.c) := fun H1 e Q hq =>
  gr_seq h e hq fun a v H2 e2 r hq2 => by
    obtain ⟨p, x, y, z, rfl, hp, r1, r2, r3⟩ := r
    exact ⟨p, _, 2, z, rfl, rfl, SqT.of (mix_same hF (e.trans e2) p _ hp), rfl, hq2 z H2 (Same.refl _) r3⟩
/-! ### slices: xs[a:b] -/
def GrO (K : PySem.W.Frag) (E : XK) (to : TO) (σ : L2.St) (H : Hp) (m : R (Option Int)) : Prop :=
  ∀ H1, Same H H1 → ∀ Q : Option Int → Hp → Prop, Wp m (fun o => ∀ H2, Same H1 H2 → Q o H2) (EE K E H1) → to σ H1 Q
theorem o_no : GrO K E tNoPart σ H (.ok none) := fun H1 e Q hq => hq H1 (Same.refl _)
theorem o_some {m : R Int} (h : Gr K E ta σ F H m) : GrO K E (tPart ta) σ H (R.bd m fun i => .ok (some i)) := fun H1 e Q hq =>
  h H1 e _ (by rw [wp_bd] at hq; exact wp_mono hq (fun i _ k v H2 e2 r => ⟨i, r, k H2 e2⟩) fun _ _ z => z)
def cut {α : Type} (xs : List α) (lo hi : Option Int) : List α := (xs.drop (HT.sIx xs.length 0 lo)).take (HT.sIx xs.length xs.length hi - HT.sIx xs.length 0 lo)
theorem all2_cut {P : V → α → Prop} {vs : List V} {xs : List α} {lo hi : Option Int} (h : All2 P vs xs) : All2 P (cutV vs lo hi) (cut xs lo hi) := by
  unfold cutV cut
  rw [h.length]
  exact (h.drop _).take _
theorem gro_seq {mo : R (Option Int)} {to : TO} {f : Option Int → R β} {Q : VK} {H1 : Hp} (ha : GrO K E to σ H mo) (e : Same H H1) (hq : Wp (R.bd mo f) (fun b => ∀ v H2, Same H1 H2 → Rp.rep K (mix F H H2) v b → Q v H2) (EE K E H1))
    {Q' : Option Int → Hp → Prop} (h : ∀ a H2, Same H1 H2 → Wp (f a) (fun b => ∀ v H3, Same H2 H3 → Rp.rep K (mix F H H3) v b → Q v H3) (EE K E H2) → Q' a H2) : to σ H1 Q' := by
  refine ha H1 e Q' ?_
  rw [wp_bd] at hq
  exact wp_mono hq (fun a _ ka H2 e2 => h a H2 e2 (wp_mono ka (fun b _ kb v H3 e3 r3 => kb v H3 (e2.trans e3) r3) fun c _ z => z.mono e2)) fun c _ z => z
theorem g_cut {tlo thi : TO} {m : R (List α)} {mlo mhi : R (Option Int)} (h : Gr K E ta σ F H m) (hlo : GrO K E tlo σ H mlo) (hhi : GrO K E thi σ H mhi) (hF : Same F H) :
    Gr K E (tSl (rSlL K) ta tlo thi) σ F H (R.bd m fun xs => R.bd mlo fun lo => R.bd mhi fun hi => .ok (cut xs lo hi)) := fun H1 e Q hq =>
  gr_seq h e hq fun xs v H2 e2 r hq2 => gro_seq hlo (e.trans e2) hq2 fun lo H3 e3 hq3 => gro_seq hhi (e.trans (e2.trans e3)) hq3 fun hi H4 e4 hq4 => by
    obtain ⟨p, vs, rfl, hp, hv⟩ := r
    refine ⟨p, vs, rfl, SqL.of (e4 p _ (e3 p _ (mix_same hF (e.trans e2) p _ hp))), fun l hl => hq4 _ _ (same_upd hl) ?_⟩
    have hn : H l = none := Same.free (e.trans (e2.trans (e3.trans e4))) hl
    exact ⟨l, _, rfl, by rw [mix_new hn]; exact upd_same, all2_cut (hv.mono fun _ _ x => Rp.mono (mix_mono (e3.trans (e4.trans (same_upd hl)))) x)⟩
/-! ### +, * of lists -/
theorem g_cat {ma mb : R (List α)} (ha : Gr K E ta σ F H ma) (hb : Gr K E tb σ F H mb) (hF : Same F H) : Gr K E (tOp rCat ta tb) σ F H (R.bd ma fun a => R.bd mb fun b => gd (a.length + b.length ≤ lim) (.ok (a ++ b))) := fun H1 e Q hq =>
  gr_seq ha e hq fun a v H2 e2 r hq2 => gr_seq hb (e.trans e2) hq2 fun b w H3 e3 r3 hq3 => by
    obtain ⟨p, vs, rfl, hp, hv⟩ := r
    obtain ⟨q, ws, rfl, hq', hw⟩ := r3
    unfold gd at hq3
    split at hq3
    · rename_i c
      refine ⟨p, q, vs, ws, rfl, rfl, e3 p _ (mix_same hF (e.trans e2) p _ hp), mix_same hF (e.trans (e2.trans e3)) q _ hq', lim_line (by rw [hv.length, hw.length]; exact c), fun l hl => hq3 _ _ (same_upd hl) ?_⟩
      have hn : H l = none := Same.free (e.trans (e2.trans e3)) hl
      exact ⟨l, _, rfl, by rw [mix_new hn]; exact upd_same, (hv.mono fun _ _ x => Rp.mono (mix_mono (e3.trans (same_upd hl))) x).append (hw.mono fun _ _ x => Rp.mono (mix_mono (same_upd hl)) x)⟩
    · exact hq3.elim
theorem all2_rep {P : V → α → Prop} {vs : List V} {xs : List α} (h : All2 P vs xs) : ∀ n : Nat, All2 P (List.replicate n vs).flatten (List.replicate n xs).flatten
  | 0 => .nil
  | n + 1 => by
    rw [List.replicate_succ, List.replicate_succ, List.flatten_cons, List.flatten_cons]
    exact h.append (all2_rep h n)
noncomputable def repR {α : Type} (xs : List α) (k : Int) : R (List α) := gd (-(2 ^ 62) ≤ k ∧ k < 2 ^ 62 ∧ xs.length * k.toNat ≤ lim) (.ok (List.replicate k.toNat xs).flatten)
theorem g_rep {ma : R (List α)} {mb : R Int} (ha : Gr K E ta σ F H ma) (hb : Gr K E tb σ F H mb) (hF : Same F H) : Gr K E (tOp rRep ta tb) σ F H (R.bd ma fun a => R.bd mb fun b => repR a b) := fun H1 e Q hq =>
  gr_seq ha e hq fun a v H2 e2 r hq2 => gr_seq hb (e.trans e2) hq2 fun b w H3 e3 r3 hq3 => by
    obtain ⟨p, vs, rfl, hp, hv⟩ := r
    have r3' : w = .int b := r3
    subst r3'
    unfold repR gd at hq3
    split at hq3
    · rename_i c
      refine ⟨p, b, vs, rfl, rfl, e3 p _ (mix_same hF (e.trans e2) p _ hp), by omega, by omega, lim_line (by rw [hv.length]; exact c.2.2), fun l hl => hq3 _ _ (same_upd hl) ?_⟩
      have hn : H l = none := Same.free (e.trans (e2.trans e3)) hl
      exact ⟨l, _, rfl, by rw [mix_new hn]; exact upd_same, all2_rep (hv.mono fun _ _ x => Rp.mono (mix_mono (e3.trans (same_upd hl))) x) _⟩
    · exact hq3.elim
/-! ### built-ins -/
abbrev rLen (K : PySem.W.Frag) : List V → Hp → VK → Prop := fun xs H Q => ∃ p ys, xs = [.ref p] ∧ (SqL K H p ys ∨ SqT K H p ys) ∧ Q (.int ys.length) H
theorem g_len {m : R (List α)} (h : Gr K E ta σ F H m) (hF : Same F H) : Gr K E (tCB (rLen K) (tCons ta tNil)) σ F H (R.bd m fun xs => .ok (xs.length : Int)) := fun H1 e Q hq =>
  gr_seq h e hq fun xs v H2 e2 r hq2 => by
    obtain ⟨p, vs, rfl, hp, hv⟩ := r
    refine ⟨p, vs, rfl, .inl (SqL.of (mix_same hF (e.trans e2) p _ hp)), ?_⟩
    rw [hv.length]
    exact hq2 _ H2 (Same.refl _) rfl
theorem g_lenT {m : R (Tu α)} (h : Gr K E ta σ F H m) (hF : Same F H) : Gr K E (tCB (rLen K) (tCons ta tNil)) σ F H (R.bd m fun xs => .ok (xs.l.length : Int)) := fun H1 e Q hq =>
  gr_seq h e hq fun xs v H2 e2 r hq2 => by
    obtain ⟨p, vs, rfl, hp, hv⟩ := r
    refine ⟨p, vs, rfl, .inr (SqT.of (mix_same hF (e.trans e2) p _ hp)), ?_⟩
    rw [hv.length]
    exact hq2 _ H2 (Same.refl _) rfl
theorem g_lenS {m : R Scr} (h : Gr K E ta σ F H m) (hF : Same F H) : Gr K E (tCB (rLen K) (tCons ta tNil)) σ F H (R.bd m fun xs => .ok (xs.l.length : Int)) := fun H1 e Q hq =>
  gr_seq h e hq fun xs v H2 e2 r hq2 => by
    obtain ⟨p, rfl, hp⟩ := r
    refine ⟨p, _, rfl, .inl ((mix_same hF (e.trans e2)).seq hp), ?_⟩
    rw [List.length_map]
    exact hq2 _ H2 (Same.refl _) rfl
theorem g_len2 {m : R (α × β)} (h : Gr K E ta σ F H m) (hF : Same F H) : Gr K E (tCB (rLen K) (tCons ta tNil)) σ F H (R.bd m fun _ => .ok (2 : Int)) := fun H1 e Q hq =>
  gr_seq h e hq fun xs v H2 e2 r hq2 => by
    obtain ⟨p, x, y, rfl, hp, _⟩ := r
    exact ⟨p, _, rfl, .inr (SqT.of (mix_same hF (e.trans e2) p _ hp)), hq2 _ H2 (Same.refl _) rfl⟩
theorem g_len3 {m : R (T3 α β γ)} (h : Gr K E ta σ F H m) (hF : Same F H) : Gr K E (tCB (rLen K) (tCons ta tNil)) σ F H (R.bd m fun _ => .ok (3 : Int)) := fun H1 e Q hq =>
  gr_seq h e hq fun xs v H2 e2 r hq2 => by
    obtain ⟨p, x, y, z, rfl, hp, _⟩ := r
    exact ⟨p, _, rfl, .inr (SqT.of (mix_same hF (e.trans e2) p _ hp)), hq2 _ H2 (Same.refl _) rfl⟩
abbrev rListOf (K : PySem.W.Frag) : List V → Hp → VK → Prop := fun xs H Q => ∃ p ys, xs = [.ref p] ∧ (SqL K H p ys ∨ SqT K H p ys) ∧ ∀ l, H l = none → Q (.ref l) (upd H l (.lst ys))
theorem g_list {m : R (List α)} (h : Gr K E ta σ F H m) (hF : Same F H) : Gr K E (tCB (rListOf K) (tCons ta tNil)) σ F H m := fun H1 e Q hq =>
  gr_seq h e (by rw [bd_id]; exact hq) fun xs v H2 e2 r hq2 => by
    obtain ⟨p, vs, rfl, hp, hv⟩ := r
    refine ⟨p, vs, rfl, .inl (SqL.of (mix_same hF (e.trans e2) p _ hp)), fun l hl => hq2 _ _ (same_upd hl) ?_⟩
    have hn : H l = none := Same.free (e.trans e2) hl
    exact ⟨l, _, rfl, by rw [mix_new hn]; exact upd_same, hv.mono fun _ _ x => Rp.mono (mix_mono (same_upd hl)) x⟩
theorem g_listT {m : R (Tu α)} (h : Gr K E ta σ F H m) (hF : Same F H) : Gr K E (tCB (rListOf K) (tCons ta tNil)) σ F H (R.bd m fun t => .ok t.l) := fun H1 e Q hq =>
  gr_seq h e hq fun xs v H2 e2 r hq2 => by
    obtain ⟨p, vs, rfl, hp, hv⟩ := r
    refine ⟨p, vs, rfl, .inr (SqT.of (mix_same hF (e.trans e2) p _ hp)), fun l hl => hq2 _ _ (same_upd hl) ?_⟩
    have hn : H l = none := Same.free (e.trans e2) hl
    exact ⟨l, _, rfl, by rw [mix_new hn]; exact upd_same, hv.mono fun _ _ x => Rp.mono (mix_mono (same_upd hl)) x⟩
abbrev rTupOf (K : PySem.W.Frag) : List V → Hp → VK → Prop := fun xs H Q => ∃ p ys, xs = [.ref p] ∧ ((SqL K H p ys ∧ ∀ l, H l = none → Q (.ref l) (upd H l (.tup ys))) ∨ (SqT K H p ys ∧ Q (.ref p) H))
theorem g_tuple {m : R (List α)} (h : Gr K E ta σ F H m) (hF : Same F H) : Gr K E (tCB (rTupOf K) (tCons ta tNil)) σ F H (R.bd m fun l => .ok (Tu.mk l)) := fun H1 e Q hq =>
  gr_seq h e hq fun xs v H2 e2 r hq2 => by
    obtain ⟨p, vs, rfl, hp, hv⟩ := r
    refine ⟨p, vs, rfl, .inl ⟨SqL.of (mix_same hF (e.trans e2) p _ hp), fun l hl => hq2 _ _ (same_upd hl) ?_⟩⟩
    have hn : H l = none := Same.free (e.trans e2) hl
    exact ⟨l, _, rfl, by rw [mix_new hn]; exact upd_same, hv.mono fun _ _ x => Rp.mono (mix_mono (same_upd hl)) x⟩
theorem g_sum {m : R (List Int)} (h : Gr K E ta σ F H m) (hF : Same F H) : Gr K E (tCB (rSum K) (tCons ta tNil)) σ F H (R.bd m fun l => .ok l.sum) := fun H1 e Q hq =>
  gr_seq h e hq fun xs v H2 e2 r hq2 => by
    obtain ⟨p, vs, rfl, hp, hv⟩ := r
    have := rep_ints hv
    subst this
    exact ⟨p, xs, rfl, SqL.of (mix_same hF (e.trans e2) p _ hp), hq2 _ H2 (Same.refl _) rfl⟩
def minR (xs : List Int) : R Int := match xs.min? with
  | some a => .ok a
  | none => .bad
def maxR (xs : List Int) : R Int := match xs.max? with
  | some a => .ok a
  | none => .bad
theorem min_of {xs : List Int} {m : Int} (h1 : m ∈ xs) (h2 : ∀ y, y ∈ xs → m ≤ y) : xs.min? = some m := List.min?_eq_some_iff.mpr ⟨h1, h2⟩
theorem max_of {xs : List Int} {m : Int} (h1 : m ∈ xs) (h2 : ∀ y, y ∈ xs → y ≤ m) : xs.max? = some m := List.max?_eq_some_iff.mpr ⟨h1, h2⟩
theorem g_min {m : R (List Int)} (h : Gr K E ta σ F H m) (hF : Same F H) : Gr K E (tCB (rMin K) (tCons ta tNil)) σ F H (R.bd m minR) := fun H1 e Q hq =>
  gr_seq h e hq fun xs v H2 e2 r hq2 => by
    obtain ⟨p, vs, rfl, hp, hv⟩ := r
    have := rep_ints hv
    subst this
    refine ⟨p, xs, rfl, SqL.of (mix_same hF (e.trans e2) p _ hp), ?_, fun m h1 h2 => ?_⟩
    · cases xs with
      | nil => exact hq2.elim
      | cons a l => exact Nat.succ_pos _
    · unfold minR at hq2
      rw [min_of h1 h2] at hq2
      exact hq2 _ H2 (Same.refl _) rfl
theorem g_max {m : R (List Int)} (h : Gr K E ta σ F H m) (hF : Same F H) : Gr K E (tCB (rMax K) (tCons ta tNil)) σ F H (R.bd m maxR) := fun H1 e Q hq =>
  gr_seq h e hq fun xs v H2 e2 r hq2 => by
    obtain ⟨p, vs, rfl, hp, hv⟩ := r
    have := rep_ints hv
    subst this
    refine ⟨p, xs, rfl, SqL.of (mix_same hF (e.trans e2) p _ hp), ?_, fun m h1 h2 => ?_⟩
    · cases xs with
      | nil => exact hq2.elim
      | cons a l => exact Nat.succ_pos _
    · unfold maxR at hq2
      rw [max_of h1 h2] at hq2
      exact hq2 _ H2 (Same.refl _) rfl
theorem g_all {m : R (List Bool)} (h : Gr K E ta σ F H m) (hF : Same F H) : Gr K E (tCB (rAll K) (tCons ta tNil)) σ F H (R.bd m fun l => .ok (l.all id)) := fun H1 e Q hq =>
  gr_seq h e hq fun xs v H2 e2 r hq2 => by
    obtain ⟨p, vs, rfl, hp, hv⟩ := r
    have := rep_bools hv
    subst this
    exact ⟨p, xs, rfl, SqL.of (mix_same hF (e.trans e2) p _ hp), hq2 _ H2 (Same.refl _) rfl⟩
theorem g_any {m : R (List Bool)} (h : Gr K E ta σ F H m) (hF : Same F H) : Gr K E (tCB (rAny K) (tCons ta tNil)) σ F H (R.bd m fun l => .ok (l.any id)) := fun H1 e Q hq =>
  gr_seq h e hq fun xs v H2 e2 r hq2 => by
    obtain ⟨p, vs, rfl, hp, hv⟩ := r
    have := rep_bools hv
    subst this
    exact ⟨p, xs, rfl, SqL.of (mix_same hF (e.trans e2) p _ hp), hq2 _ H2 (Same.refl _) rfl⟩
abbrev rAbs : List V → Hp → VK → Prop := fun xs H Q => ∃ i, xs = [.int i] ∧ Q (.int (if i < 0 then -i else i)) H
theorem g_abs {m : R Int} (h : Gr K E ta σ F H m) : Gr K E (tCB rAbs (tCons ta tNil)) σ F H (R.bd m fun i => .ok (if i < 0 then -i else i)) := fun H1 e Q hq =>
  gr_seq h e hq fun i v H2 e2 r hq2 => ⟨i, by rw [show v = V.int i from r], hq2 _ H2 (Same.refl _) rfl⟩
abbrev rInt1 : List V → Hp → VK → Prop := fun xs H Q => (∃ i, xs = [.int i] ∧ Q (.int i) H) ∨ ∃ k, xs = [.bl k] ∧ Q (.int (if k then 1 else 0)) H
theorem g_intB {m : R Bool} (h : Gr K E ta σ F H m) : Gr K E (tCB rInt1 (tCons ta tNil)) σ F H (R.bd m fun b => .ok (if b = true then (1 : Int) else 0)) := fun H1 e Q hq =>
  gr_seq h e hq fun i v H2 e2 r hq2 => .inr ⟨i, by rw [show v = V.bl i from r], hq2 _ H2 (Same.refl _) rfl⟩
abbrev rMin2 : List V → Hp → VK → Prop := fun xs H Q => ∃ i j, xs = [.int i, .int j] ∧ Q (.int (if j < i then j else i)) H
theorem g_min2 {ma mb : R Int} (ha : Gr K E ta σ F H ma) (hb : Gr K E tb σ F H mb) : Gr K E (tCB rMin2 (tCons ta (tCons tb tNil))) σ F H (R.bd ma fun i => R.bd mb fun j => .ok (if j < i then j else i)) := fun H1 e Q hq =>
  gr_seq ha e hq fun i v H2 e2 r hq2 => gr_seq hb (e.trans e2) hq2 fun j w H3 e3 r3 hq3 => ⟨i, j, by rw [show v = V.int i from r, show w = V.int j from r3], hq3 _ H3 (Same.refl _) rfl⟩
abbrev rMax2 : List V → Hp → VK → Prop := fun xs H Q => ∃ i j, xs = [.int i, .int j] ∧ Q (.int (if j > i then j else i)) H
theorem g_max2 {ma mb : R Int} (ha : Gr K E ta σ F H ma) (hb : Gr K E tb σ F H mb) : Gr K E (tCB rMax2 (tCons ta (tCons tb tNil))) σ F H (R.bd ma fun i => R.bd mb fun j => .ok (if j > i then j else i)) := fun H1 e Q hq =>
  gr_seq ha e hq fun i v H2 e2 r hq2 => gr_seq hb (e.trans e2) hq2 fun j w H3 e3 r3 hq3 => ⟨i, j, by rw [show v = V.int i from r, show w = V.int j from r3], hq3 _ H3 (Same.refl _) rfl⟩
/-! ### x in xs -/
theorem g_in [Sc α] [DecidableEq α] {neg : Bool} {ma : R α} {mb : R (List α)} (ha : Gr K E ta σ F H ma) (hb : Gr K E tb σ F H mb) (hF : Same F H) (hv : ∀ (a b : α), eqV (Sc.enc a) (Sc.enc b) = decide (a = b)) :
    Gr K E (tOp (rIn K neg) ta tb) σ F H (R.bd ma fun a => R.bd mb fun b => .ok (if neg = true then !decide (a ∈ b) else decide (a ∈ b))) := fun H1 e Q hq =>
  gr_seq ha e hq fun a v H2 e2 r hq2 => gr_seq hb (e.trans e2) hq2 fun b w H3 e3 r3 hq3 => by
    obtain ⟨p, vs, rfl, hp, hw⟩ := r3
    have h1 := Sc.is.mp r
    subst h1
    have h2 : vs = b.map Sc.enc := hw.map Sc.enc fun _ _ => Sc.is
    subst h2
    have h3 : inV (Sc.enc a) (b.map Sc.enc) = decide (a ∈ b) := by
      unfold inV
      rw [List.any_map]
      induction b with
      | nil => rfl
      | cons x l ih =>
        rw [List.any_cons]
        have : (List.any l ((fun y => eqV y (Sc.enc a)) ∘ Sc.enc)) = decide (a ∈ l) := by
          clear ih hq3 hq2 hq hw hp hb ha
          induction l with
          | nil => rfl
          | cons y l ih =>
            rw [List.any_cons, ih]
            show (eqV (Sc.enc y) (Sc.enc a) || _) = _
            rw [hv]
            by_cases c : a = y
            · subst c; simp
            · have c' : ¬ y = a := fun q => c q.symm
              simp [c, c']
        rw [this]
        show (eqV (Sc.enc x) (Sc.enc a) || _) = _
        rw [hv]
        by_cases c : a = x
        · subst c; simp
        · have c' : ¬ x = a := fun q => c q.symm
          simp [c, c']
    refine ⟨p, _, rfl, .inl (SqL.of (mix_same hF (e.trans (e2.trans e3)) p _ hp)), Sc.flat a, ?_, ?_⟩
    · rw [List.all_map]
      exact List.all_eq_true.mpr fun x _ => Sc.flat x
    · rw [h3]
      exact hq3 _ H3 (Same.refl _) rfl
theorem eqV_int (a b : Int) : eqV (Sc.enc a) (Sc.enc b) = decide (a = b) := by
  show eqV (V.int a) (V.int b) = decide (a = b)
  simp only [eqV]
  exact Bool.beq_eq_decide_eq a b
/-! ### == of lists, tuples -/
def rEqP (K : PySem.W.Frag) : R2 := fun x y H Q => ∃ d e, Dp K H x d ∧ Dp K H y e ∧ d.plain = true ∧ e.plain = true ∧ min d.depth e.depth ≤ 64 ∧ Q (.bl (PyData.eqv d e)) H
def rNeP (K : PySem.W.Frag) : R2 := fun x y H Q => ∃ d e, Dp K H x d ∧ Dp K H y e ∧ d.plain = true ∧ e.plain = true ∧ min d.depth e.depth ≤ 64 ∧ Q (.bl (!PyData.eqv d e)) H
theorem op_eqP {X : Cx} (hu : X.A.units + 64 < cLine) : OpR X (compareOp .Eq) (rEqP X.K) := by
  intro pins s σ H x y v u Q I rx ry h
  obtain ⟨d, e, hd, he, sd, se, hm, q⟩ := h
  obtain ⟨as, r1⟩ := Dp.reads I d x v hd rx
  obtain ⟨bs, r2⟩ := Dp.reads I e y u he ry
  exact SeqAt.eq_plain r1 r2 sd se (by omega) ⟨.bl _, H, I, rfl, q⟩
theorem op_neP {X : Cx} (hu : X.A.units + 64 < cLine) : OpR X (compareOp .NotEq) (rNeP X.K) := by
  intro pins s σ H x y v u Q I rx ry h
  obtain ⟨d, e, hd, he, sd, se, hm, q⟩ := h
  obtain ⟨as, r1⟩ := Dp.reads I d x v hd rx
  obtain ⟨bs, r2⟩ := Dp.reads I e y u he ry
  exact SeqAt.ne_plain r1 r2 sd se (by omega) ⟨.bl _, H, I, rfl, q⟩
def rInP (K : PySem.W.Frag) (neg : Bool) : R2 := fun x y H Q => ∃ d ds, Dp K H x d ∧ (Dp K H y (.list ds) ∨ Dp K H y (.tuple ds)) ∧ d.plain = true ∧ PyData.plainAll ds = true ∧ min (PyData.depthAll ds) d.depth ≤ 62 ∧
  Q (.bl (if neg then !(ds.any fun z => PyData.eqv z d) else ds.any fun z => PyData.eqv z d)) H
theorem op_inP {X : Cx} (hu : X.A.units + 64 < cLine) : OpR X (compareOp .In) (rInP X.K false) := by
  intro pins s σ H x y v u Q I rx ry h
  obtain ⟨d, ds, hd, he, sd, se, hm, q⟩ := h
  obtain ⟨as, r1⟩ := Dp.reads I d x v hd rx
  rcases he with he | he
  · obtain ⟨bs, r2⟩ := Dp.reads I _ y u he ry
    exact SeqAt.in_list_data r2 r1 se sd (by omega) ⟨.bl _, H, I, rfl, q⟩
  · obtain ⟨bs, r2⟩ := Dp.reads I _ y u he ry
    exact SeqAt.in_tuple_data r2 r1 se sd (by omega) ⟨.bl _, H, I, rfl, q⟩
theorem op_notInP {X : Cx} (hu : X.A.units + 64 < cLine) : OpR X (compareOp .NotIn) (rInP X.K true) := by
  intro pins s σ H x y v u Q I rx ry h
  obtain ⟨d, ds, hd, he, sd, se, hm, q⟩ := h
  obtain ⟨as, r1⟩ := Dp.reads I d x v hd rx
  rcases he with he | he
  · obtain ⟨bs, r2⟩ := Dp.reads I _ y u he ry
    exact SeqAt.notIn_list_data r2 r1 se sd (by omega) ⟨.bl _, H, I, rfl, q⟩
  · obtain ⟨bs, r2⟩ := Dp.reads I _ y u he ry
    exact SeqAt.notIn_tuple_data r2 r1 se sd (by omega) ⟨.bl _, H, I, rfl, q⟩
class De (α : Type) [Rp α] where
  toD : α → PyData
  dp : ∀ {K : PySem.W.Frag} {H : Hp} {v : V} {a : α}, Rp.rep K H v a → Dp K H v (toD a)
  lay : ∀ a : α, (toD a).plain = true
  dep : Nat
  deep : ∀ a : α, (toD a).depth ≤ dep
  eqv : ∀ a b : α, PyData.eqv (toD a) (toD b) = true ↔ a = b
instance : De Int := ⟨.int, fun {K H v a} h => by rw [show v = V.int a from h]; exact .int a, fun _ => rfl, 0, fun _ => Nat.le_of_eq (by simp [PyData.depth]), fun a b => by simp [PyData.eqv]⟩
instance : De Str := ⟨.str, fun {K H v a} h => by rw [show v = V.str a from h]; exact .str a, fun _ => rfl, 0, fun _ => Nat.le_of_eq (by simp [PyData.depth]), fun a b => by simp [PyData.eqv]⟩
instance : De Bool := ⟨.bool, fun {K H v a} h => by rw [show v = V.bl a from h]; exact .bl a, fun _ => rfl, 0, fun _ => Nat.le_of_eq (by simp [PyData.depth]), fun a b => by simp [PyData.eqv]⟩
theorem dpAll_of [De α] {K : PySem.W.Frag} {H : Hp} : ∀ {vs : List V} {xs : List α}, All2 (Rp.rep K H) vs xs → DpAll K H vs (xs.map De.toD)
  | _, _, .nil => .nil
  | _, _, .cons r t => .cons (De.dp r) (dpAll_of t)
theorem layAll [De α] : ∀ xs : List α, PyData.plainAll (xs.map De.toD) = true
  | [] => rfl
  | x :: r => by
    show (PyData.plain (De.toD x) && PyData.plainAll (r.map De.toD)) = true
    rw [De.lay, layAll r] <;> rfl
theorem deepAll [De α] : ∀ xs : List α, PyData.depthAll (xs.map De.toD) ≤ De.dep α
  | [] => by simp [PyData.depthAll]
  | x :: r => by
    have h1 := De.deep x
    have h2 := deepAll r
    simp only [List.map_cons, PyData.depthAll]
    omega
theorem eqvAll [De α] : ∀ xs ys : List α, PyData.eqvAll (xs.map De.toD) (ys.map De.toD) = true ↔ xs = ys
  | [], [] => by simp [PyData.eqvAll]
  | x :: r, [] => by simp [PyData.eqvAll]
  | [], y :: r => by simp [PyData.eqvAll]
  | x :: r, y :: s => by
    simp only [List.map_cons, PyData.eqvAll, Bool.and_eq_true, De.eqv, eqvAll r s, List.cons.injEq]
instance {α : Type} [Rp α] [De α] : De (List α) := ⟨fun xs => .list (xs.map De.toD), fun {K H v a} h => by
    obtain ⟨p, vs, rfl, hp, hv⟩ := h
    exact .lst (SqL.of hp) (dpAll_of hv), fun xs => layAll xs, De.dep α + 1, fun xs => by
    have := deepAll xs
    simp only [PyData.depth]
    omega, fun a b => by
    simp only [PyData.eqv]
    exact eqvAll a b⟩
instance {α : Type} [Rp α] [De α] : De (Tu α) := ⟨fun xs => .tuple (xs.l.map De.toD), fun {K H v a} h => by
    obtain ⟨p, vs, rfl, hp, hv⟩ := h
    exact .tup (SqT.of hp) (dpAll_of hv), fun xs => layAll xs.l, De.dep α + 1, fun xs => by
    have := deepAll xs.l
    simp only [PyData.depth]
    omega, fun a b => by
    simp only [PyData.eqv]
    rw [eqvAll a.l b.l]
    cases a; cases b; simp⟩
instance {α β : Type} [Rp α] [Rp β] [De α] [De β] : De (α × β) := ⟨fun t => .tuple [De.toD t.1, De.toD t.2], fun {K H v a} h => by
    obtain ⟨p, x, y, rfl, hp, h1, h2⟩ := h
    exact .tup (SqT.of hp) (.cons (De.dp h1) (.cons (De.dp h2) .nil)), fun t => by
    show (PyData.plain (De.toD t.1) && (PyData.plain (De.toD t.2) && true)) = true
    rw [De.lay, De.lay] <;> rfl, max (De.dep α) (De.dep β) + 1, fun t => by
    have h1 := De.deep t.1
    have h2 := De.deep t.2
    simp only [PyData.depth, PyData.depthAll]
    omega, fun a b => by
    simp only [PyData.eqv, PyData.eqvAll, Bool.and_true, Bool.and_eq_true, De.eqv]
    exact ⟨fun h => Prod.ext h.1 h.2, fun h => by rw [h]; exact ⟨rfl, rfl⟩⟩⟩
instance {α β γ : Type} [Rp α] [Rp β] [Rp γ] [De α] [De β] [De γ] : De (T3 α β γ) := ⟨fun t => .tuple [De.toD t.a, De.toD t.b, De.toD t.c], fun {K H v a} h => by
    obtain ⟨p, x, y, z, rfl, hp, h1, h2, h3⟩ := h
    exact .tup (SqT.of hp) (.cons (De.dp h1) (.cons (De.dp h2) (.cons (De.dp h3) .nil))), fun t => by
    show (PyData.plain (De.toD t.a) && (PyData.plain (De.toD t.b) && (PyData.plain (De.toD t.c) && true))) = true
    rw [De.lay, De.lay, De.lay] <;> rfl, max (De.dep α) (max (De.dep β) (De.dep γ)) + 1, fun t => by
    have h1 := De.deep t.a
    have h2 := De.deep t.b
    have h3 := De.deep t.c
    simp only [PyData.depth, PyData.depthAll]
    omega, fun a b => by
    simp only [PyData.eqv, PyData.eqvAll, Bool.and_true, Bool.and_eq_true, De.eqv]
    cases a; cases b; simp⟩
theorem eqv_dec [De α] [DecidableEq α] (a b : α) : PyData.eqv (De.toD a) (De.toD b) = decide (a = b) := by
  by_cases c : a = b
  · rw [decide_eq_true c]
    exact (De.eqv a b).mpr c
  · rw [decide_eq_false c]
    exact Bool.eq_false_iff.mpr fun q => c ((De.eqv a b).mp q)
theorem g_eqD [De α] [DecidableEq α] {ma mb : R α} (ha : Gr K E ta σ F H ma) (hb : Gr K E tb σ F H mb) (hF : Same F H) (hd : De.dep α ≤ 64 := by decide) : Gr K E (tOp (rEqP K) ta tb) σ F H (R.bd ma fun a => R.bd mb fun b => .ok (decide (a = b))) := fun H1 e Q hq =>
  gr_seq ha e hq fun a v H2 e2 r hq2 => gr_seq hb (e.trans e2) hq2 fun b w H3 e3 r3 hq3 => by
    refine ⟨_, _, De.dp (Rp.mono ((mix_same hF (e.trans e2)).trans e3) r), De.dp (Rp.mono (mix_same hF (e.trans (e2.trans e3))) r3), De.lay a, De.lay b, by have := De.deep a; omega, ?_⟩
    rw [eqv_dec]
    exact hq3 _ H3 (Same.refl _) rfl
theorem g_neD [De α] [DecidableEq α] {ma mb : R α} (ha : Gr K E ta σ F H ma) (hb : Gr K E tb σ F H mb) (hF : Same F H) (hd : De.dep α ≤ 64 := by decide) : Gr K E (tOp (rNeP K) ta tb) σ F H (R.bd ma fun a => R.bd mb fun b => .ok (!decide (a = b))) := fun H1 e Q hq =>
  gr_seq ha e hq fun a v H2 e2 r hq2 => gr_seq hb (e.trans e2) hq2 fun b w H3 e3 r3 hq3 => by
    refine ⟨_, _, De.dp (Rp.mono ((mix_same hF (e.trans e2)).trans e3) r), De.dp (Rp.mono (mix_same hF (e.trans (e2.trans e3))) r3), De.lay a, De.lay b, by have := De.deep a; omega, ?_⟩
    rw [eqv_dec]
    exact hq3 _ H3 (Same.refl _) rfl
theorem plainAll_map [De α] (b : List α) : PyData.plainAll (b.map De.toD) = true := layAll b
def inL {α : Type} [DecidableEq α] (a : α) (b : List α) : Bool := decide (a ∈ b)
theorem any_dec [De α] [DecidableEq α] (a : α) : ∀ b : List α, ((b.map De.toD).any fun z => PyData.eqv z (De.toD a)) = inL a b
  | [] => rfl
  | x :: l => by
    rw [List.map_cons, List.any_cons, any_dec a l, eqv_dec]
    unfold inL
    by_cases c : a = x
    · subst c; simp
    · have c' : ¬ x = a := fun q => c q.symm
      simp [c, c']
theorem g_inD [De α] [DecidableEq α] {neg : Bool} {ma : R α} {mb : R (List α)} (ha : Gr K E ta σ F H ma) (hb : Gr K E tb σ F H mb) (hF : Same F H) (hd : De.dep α ≤ 60 := by decide) :
    Gr K E (tOp (rInP K neg) ta tb) σ F H (R.bd ma fun a => R.bd mb fun b => .ok (if neg = true then !inL a b else inL a b)) := fun H1 e Q hq =>
  gr_seq ha e hq fun a v H2 e2 r hq2 => gr_seq hb (e.trans e2) hq2 fun b w H3 e3 r3 hq3 => by
    refine ⟨_, _, De.dp (Rp.mono ((mix_same hF (e.trans e2)).trans e3) r), .inl (De.dp (α := List α) (Rp.mono (mix_same hF (e.trans (e2.trans e3))) r3)), De.lay a, plainAll_map b, by have := De.deep a; omega, ?_⟩
    rw [any_dec]
    exact hq3 _ H3 (Same.refl _) rfl
theorem g_inDT [De α] [DecidableEq α] {neg : Bool} {ma : R α} {mb : R (Tu α)} (ha : Gr K E ta σ F H ma) (hb : Gr K E tb σ F H mb) (hF : Same F H) (hd : De.dep α ≤ 60 := by decide) :
    Gr K E (tOp (rInP K neg) ta tb) σ F H (R.bd ma fun a => R.bd mb fun b => .ok (if neg = true then !inL a b.l else inL a b.l)) := fun H1 e Q hq =>
  gr_seq ha e hq fun a v H2 e2 r hq2 => gr_seq hb (e.trans e2) hq2 fun b w H3 e3 r3 hq3 => by
    refine ⟨_, _, De.dp (Rp.mono ((mix_same hF (e.trans e2)).trans e3) r), .inr (De.dp (α := Tu α) (Rp.mono (mix_same hF (e.trans (e2.trans e3))) r3)), De.lay a, plainAll_map b.l, by have := De.deep a; omega, ?_⟩
    rw [any_dec]
    exact hq3 _ H3 (Same.refl _) rfl
/-! ### isinstance of built-in classes: the kind is known -/
class Ty (α : Type) [Rp α] where
  ty : String
  is : ∀ {K : PySem.W.Frag} {H : Hp} {v : V} {a : α}, Rp.rep K H v a → TyX K H v (.type ty)
instance : Ty Int := ⟨"int", fun {K H v a} h => by rw [show v = V.int a from h]; exact .base (.int a)⟩
instance : Ty Bool := ⟨"bool", fun {K H v a} h => by rw [show v = V.bl a from h]; exact .base (.bl a)⟩
instance : Ty Str := ⟨"str", fun {K H v a} h => by rw [show v = V.str a from h]; exact .base (.str a)⟩
instance : Ty Unit := ⟨"NoneType", fun {K H v a} h => by rw [show v = V.non from h]; exact .base .non⟩
instance {α : Type} [Rp α] : Ty (List α) := ⟨"list", fun {K H v a} ⟨_, _, h, hp, _⟩ => by rw [h]; exact .base (.lst hp)⟩
instance {α : Type} [Rp α] : Ty (Tu α) := ⟨"tuple", fun {K H v a} ⟨_, _, h, hp, _⟩ => by rw [h]; exact .base (.tup hp)⟩
instance {α β : Type} [Rp α] [Rp β] : Ty (α × β) := ⟨"tuple", fun {K H v a} ⟨_, _, _, h, hp, _⟩ => by rw [h]; exact .base (.tup hp)⟩
instance {α β γ : Type} [Rp α] [Rp β] [Rp γ] : Ty (T3 α β γ) := ⟨"tuple", fun {K H v a} ⟨_, _, _, _, h, hp, _⟩ => by rw [h]; exact .base (.tup hp)⟩
theorem g_isi [Ty α] {m : R α} {n : String} {b : Bool} (h : Gr K E ta σ F H m) (hF : Same F H) (hk : kitB (Ty.ty α) n = some b := by decide +kernel) : Gr K E (tCB (rIsi K) (tCons ta (tCons (tC (.ty n)) tNil))) σ F H (R.bd m fun _ => .ok b) := fun H1 e Q hq =>
  gr_seq h e hq fun a v H2 e2 r hq2 => ⟨v, _, _, _, b, rfl, .ty n, Ty.is (Rp.mono (mix_same hF (e.trans e2)) r), kit_ty hk, hq2 _ H2 (Same.refl _) rfl⟩
def isiR {α : Type} (b b0 : Bool) : Option α → Bool
  | some _ => b
  | none => b0
/-- .. of what may be None -/
theorem g_isiO [Ty α] {m : R (Option α)} {n : String} {b b0 : Bool} (h : Gr K E ta σ F H m) (hF : Same F H) (hk : kitB (Ty.ty α) n = some b := by decide +kernel) (h0 : kitB "NoneType" n = some b0 := by decide +kernel) :
    Gr K E (tCB (rIsi K) (tCons ta (tCons (tC (.ty n)) tNil))) σ F H (R.bd m fun o => .ok (isiR b b0 o)) := fun H1 e Q hq =>
  gr_seq h e hq fun a v H2 e2 r hq2 => by
    cases a with
    | none => exact ⟨v, _, _, _, b0, rfl, .ty n, Ty.is (α := Unit) (K := K) (a := ()) (show v = .non from r), kit_ty h0, hq2 _ H2 (Same.refl _) rfl⟩
    | some a => exact ⟨v, _, _, _, b, rfl, .ty n, Ty.is (Rp.mono (mix_same hF (e.trans e2)) r.2), kit_ty hk, hq2 _ H2 (Same.refl _) rfl⟩
/-! ### calls of the program's defs. N: what is told is new -/
abbrev KN (K : PySem.W.Frag) (H : Hp) (Q : VK) : ρ → Prop := fun r => ∀ v' H', Same H H' → Rp.rep K (dif H H') v' r → Q v' H'
def sp0 (K : PySem.W.Frag) (f : R ρ) : Sp := fun vs H Q E => vs = [] ∧ Wp f (KN K H Q) (EE K E H)
def sp1 (K : PySem.W.Frag) (f : α → R ρ) : Sp := fun vs H Q E => ∃ v a, vs = [v] ∧ Rp.rep K H v a ∧ Wp (f a) (KN K H Q) (EE K E H)
def sp2 (K : PySem.W.Frag) (f : α → β → R ρ) : Sp := fun vs H Q E => ∃ v w a b, vs = [v, w] ∧ Rp.rep K H v a ∧ Rp.rep K H w b ∧ Wp (f a b) (KN K H Q) (EE K E H)
def sp3 (K : PySem.W.Frag) (f : α → β → γ → R ρ) : Sp := fun vs H Q E => ∃ v w x a b c, vs = [v, w, x] ∧ Rp.rep K H v a ∧ Rp.rep K H w b ∧ Rp.rep K H x c ∧ Wp (f a b c) (KN K H Q) (EE K E H)
def sp4 (K : PySem.W.Frag) (f : α → β → γ → δ → R ρ) : Sp := fun vs H Q E => ∃ v w x y a b c d, vs = [v, w, x, y] ∧ Rp.rep K H v a ∧ Rp.rep K H w b ∧ Rp.rep K H x c ∧ Rp.rep K H y d ∧ Wp (f a b c d) (KN K H Q) (EE K E H)
variable {Ex : L2.St → XK}
/-- arguments over the whole heap, in a row -/
theorem gr_arg {ma : R α} {f : α → R ρ} {Q : VK} {H1 : Hp} (ha : Gr K E ta σ H H ma) (e : Same H H1) (hq : Wp (R.bd ma f) (fun b => ∀ v H2, Same H1 H2 → Rp.rep K (mix F H H2) v b → Q v H2) (EE K E H1))
    {Q' : VK} (h : ∀ a v H2, Same H1 H2 → Rp.rep K H2 v a → Wp (f a) (fun b => ∀ v H3, Same H2 H3 → Rp.rep K (mix F H H3) v b → Q v H3) (EE K E H2) → Q' v H2) : ta σ H1 Q' := by
  refine ha H1 e Q' ?_
  rw [wp_bd] at hq
  exact wp_mono hq (fun a _ ka v H2 e2 r => h a v H2 e2 (Rp.mono (mix_same (Same.refl _) (e.trans e2)) r) (wp_mono ka (fun b _ kb v H3 e3 r3 => kb v H3 (e2.trans e3) r3) fun c _ z => z.mono e2)) fun c _ z => z
theorem g_call1 {f : α → R ρ} {ma : R α} (ha : Gr K E ta σ H H ma) (hE : Ex σ = E := by rfl) : Gr K E (tCallS (sp1 K f) Ex (tCons ta tNil)) σ F H (R.bd ma f) := by
  subst hE
  exact fun H1 e Q hq =>
  gr_arg ha e hq fun a v H2 e2 r hq2 => ⟨v, a, rfl, r, wp_mono hq2 (fun b _ k v' H3 e3 r3 => k v' H3 e3 (Rp.mono (dif_mix (e.trans e2) e3) r3)) fun c _ z => z⟩
theorem g_call2 {f : α → β → R ρ} {ma : R α} {mb : R β} (ha : Gr K E ta σ H H ma) (hb : Gr K E tb σ H H mb) (hE : Ex σ = E := by rfl) : Gr K E (tCallS (sp2 K f) Ex (tCons ta (tCons tb tNil))) σ F H (R.bd ma fun a => R.bd mb fun b => f a b) := by
  subst hE
  exact fun H1 e Q hq =>
  gr_arg ha e hq fun a v H2 e2 r hq2 => gr_arg hb (e.trans e2) hq2 fun b w H3 e3 r3 hq3 => ⟨v, w, a, b, rfl, Rp.mono e3 r, r3, wp_mono hq3 (fun b _ k v' H4 e4 r4 => k v' H4 e4 (Rp.mono (dif_mix (e.trans (e2.trans e3)) e4) r4)) fun c _ z => z⟩
theorem g_call3 {tc : TE} {f : α → β → γ → R ρ} {ma : R α} {mb : R β} {mc : R γ} (ha : Gr K E ta σ H H ma) (hb : Gr K E tb σ H H mb) (hc : Gr K E tc σ H H mc) (hE : Ex σ = E := by rfl) :
    Gr K E (tCallS (sp3 K f) Ex (tCons ta (tCons tb (tCons tc tNil)))) σ F H (R.bd ma fun a => R.bd mb fun b => R.bd mc fun c => f a b c) := by
  subst hE
  exact fun H1 e Q hq =>
  gr_arg ha e hq fun a v H2 e2 r hq2 => gr_arg hb (e.trans e2) hq2 fun b w H3 e3 r3 hq3 => gr_arg hc (e.trans (e2.trans e3)) hq3 fun c x H4 e4 r4 hq4 =>
    ⟨v, w, x, a, b, c, rfl, Rp.mono (e3.trans e4) r, Rp.mono e4 r3, r4, wp_mono hq4 (fun b _ k v' H5 e5 r5 => k v' H5 e5 (Rp.mono (dif_mix (e.trans (e2.trans (e3.trans e4))) e5) r5)) fun c _ z => z⟩
theorem g_call4 {tc td : TE} {f : α → β → γ → δ → R ρ} {ma : R α} {mb : R β} {mc : R γ} {md : R δ} (ha : Gr K E ta σ H H ma) (hb : Gr K E tb σ H H mb) (hc : Gr K E tc σ H H mc) (hd : Gr K E td σ H H md) (hE : Ex σ = E := by rfl) :
    Gr K E (tCallS (sp4 K f) Ex (tCons ta (tCons tb (tCons tc (tCons td tNil))))) σ F H (R.bd ma fun a => R.bd mb fun b => R.bd mc fun c => R.bd md fun d => f a b c d) := by
  subst hE
  exact fun H1 e Q hq =>
  gr_arg ha e hq fun a v H2 e2 r hq2 => gr_arg hb (e.trans e2) hq2 fun b w H3 e3 r3 hq3 => gr_arg hc (e.trans (e2.trans e3)) hq3 fun c x H4 e4 r4 hq4 => gr_arg hd (e.trans (e2.trans (e3.trans e4))) hq4 fun d y H5 e5 r5 hq5 =>
    ⟨v, w, x, y, a, b, c, d, rfl, Rp.mono (e3.trans (e4.trans e5)) r, Rp.mono (e4.trans e5) r3, Rp.mono e5 r4, r5, wp_mono hq5 (fun b _ k v' H6 e6 r6 => k v' H6 e6 (Rp.mono (dif_mix (e.trans (e2.trans (e3.trans (e4.trans e5)))) e6) r6)) fun c _ z => z⟩
end
end G

set_option Elab.async false
set_option linter.all false
set_option maxRecDepth 100000
set_option maxHeartbeats 2000000
/-! G: statements, loops, comprehensions. -/
namespace G
open PySem PySem.Spec PyProof.Rows L2
/-- a later pair of heaps (the frozen one, the whole); the list at p may have changed -/
structure Nx (p : Addr → Prop) (F H F' H' : Hp) : Prop where
  ff : Same F F'
  hh : ∀ b o, ¬ p b → H b = some o → H' b = some o
  fh : Same F' H'
  own : ∀ b o, tupB (some o) = false → H b = some o → F b = none → F' b = none
  th : ∀ b o, H b = some o → ∃ o', H' b = some o' ∧ tupB (some o') = tupB (some o)
abbrev Nx0 (F H F' H' : Hp) : Prop := Nx (fun _ => False) F H F' H'
theorem Nx.same {F H F' H' : Hp} (n : Nx0 F H F' H') : Same H H' := fun b o h => n.hh b o (fun z => z) h
theorem Nx.mk' {F H H' : Hp} (hF : Same F H) (e : Same H H') : Nx0 F H (mix F H H') H' :=
  ⟨same_mix hF, fun b o _ h => e b o h, mix_same hF e, fun b o z h n => by rw [mix_old h z]; exact n, fun b o h => ⟨o, e b o h, rfl⟩⟩
theorem Nx.rf {F H : Hp} (hF : Same F H) : Nx0 F H F H := ⟨Same.refl _, fun _ _ _ h => h, hF, fun _ _ _ _ n => n, fun b o h => ⟨o, h, rfl⟩⟩
/-- the element base of a list of ours: everything frozen, or what is new of it -/
def Bs (H0 F : Hp) : Bool → Hp
  | true => dif H0 F
  | false => F
theorem bs_ff {H0 F F' : Hp} (e : Same F F') : ∀ {b : Bool}, Same (Bs H0 F b) (Bs H0 F' b)
  | true => dif_mono e
  | false => e
theorem bs_le {H0 F : Hp} : ∀ {b : Bool}, Same (Bs H0 F b) F
  | true => dif_le
  | false => Same.refl _
theorem bs_mix {H0 F H H' : Hp} (e0 : Same H0 H) (hF : Same F H) (e : Same H H') : ∀ {b : Bool}, Same (mix (Bs H0 F b) H H') (Bs H0 (mix F H H') b)
  | true => mix_dif e0 hF e
  | false => Same.refl _
theorem del_same {H : Hp} {p : Addr} {o : HO} : Same (delH H p) (upd H p o) := fun b u h => by
  unfold delH at h
  split at h
  · cases h
  · rename_i c
    rw [upd_ne c]
    exact h
/-- a thing of one object that changes, its parts frozen -/
class Cel (τ : Type) [Rp τ] where
  cel : PySem.W.Frag → Hp → HO → τ → Prop
  nt : ∀ {K : PySem.W.Frag} {B : Hp} {o : HO} {x : τ}, cel K B o x → tupB (some o) = false
  mono : ∀ {K : PySem.W.Frag} {B B' : Hp} {o : HO} {x : τ}, Same B B' → cel K B o x → cel K B' o x
  rep : ∀ {K : PySem.W.Frag} {H : Hp} {p : Addr} {o : HO} {x : τ}, H p = some o → cel K H o x → Rp.rep K H (.ref p) x
instance {α : Type} [Rp α] : Cel (List α) := ⟨fun K B o xs => ∃ vs, o = .lst vs ∧ All2 (Rp.rep K B) vs xs, fun ⟨_, h, _⟩ => by rw [h]; rfl, fun e ⟨vs, h, r⟩ => ⟨vs, h, r.mono fun _ _ x => Rp.mono e x⟩, fun {K H p o x} h ⟨vs, h1, r⟩ => ⟨p, vs, rfl, by rw [h, h1], r⟩⟩
/-- a list of ours at p: not frozen, not of the entry -/
structure Own {τ : Type} [Rp τ] [Cel τ] (K : PySem.W.Frag) (H0 : Hp) (b : Bool) (F H : Hp) (p : Addr) (x : τ) : Prop where
  h0 : H0 p = none
  f : F p = none
  at_ : ∃ o, H p = some o ∧ Cel.cel K (Bs H0 F b) o x
section
variable {K : PySem.W.Frag} {E : XK} {σ : L2.St} {H0 F H F' H' : Hp} {ta tb te tl to ti : TE} {t u : TT} {tu tw tz : TS} {α β γ δ ρ S : Type} [Rp α] [Rp β] [Rp γ] [Rp δ] [Rp ρ] {D : Ends} {b : Bool} {P : Addr → Prop}
variable {τ : Type} [Rp τ] [Cel τ]
theorem Own.nx {p : Addr} {x : τ} (o : Own K H0 b F H p x) (n : Nx P F H F' H') (hp : ¬ P p) : Own K H0 b F' H' p x := by
  obtain ⟨h0, f, u, h, r⟩ := o
  exact ⟨h0, n.own p _ (Cel.nt r) h f, u, n.hh p _ hp h, Cel.mono (bs_ff n.ff) r⟩
theorem Own.nx0 {p : Addr} {x : τ} (o : Own K H0 b F H p x) (n : Nx0 F H F' H') : Own K H0 b F' H' p x := o.nx n fun z => z
theorem Own.there {p : Addr} {x : τ} (o : Own K H0 b F H p x) : ∃ u, H p = some u := let ⟨_, h, _⟩ := o.at_; ⟨_, h⟩
/-- it may be read -/
theorem Own.rep {p : Addr} {x : τ} (o : Own K H0 b F H p x) (hF : Same F H) : Rp.rep K H (.ref p) x := by
  obtain ⟨h0, f, u, h, r⟩ := o
  exact Cel.rep h (Cel.mono (bs_le.trans hF) r)
/-- it is told: all of it new -/
theorem Own.rep0 {p : Addr} {x : τ} (o : Own K H0 true F H p x) (hF : Same F H) : Rp.rep K (dif H0 H) (.ref p) x := by
  obtain ⟨h0, f, u, h, r⟩ := o
  exact Cel.rep (dif_of h0 h) (Cel.mono (dif_mono hF) r)
theorem Own.lst {p : Addr} {xs : List α} (o : Own K H0 b F H p xs) : H0 p = none ∧ F p = none ∧ ∃ vs, H p = some (.lst vs) ∧ All2 (Rp.rep K (Bs H0 F b)) vs xs := by
  obtain ⟨h0, f, u, h, vs, rfl, r⟩ := o
  exact ⟨h0, f, vs, h, r⟩
theorem Own.of {p : Addr} {xs : List α} {vs : List V} (h0 : H0 p = none) (f : F p = none) (h : H p = some (.lst vs)) (r : All2 (Rp.rep K (Bs H0 F b)) vs xs) : Own K H0 b F H p xs := ⟨h0, f, _, h, vs, rfl, r⟩
theorem Own.repS [Sc α] {p : Addr} {xs : List α} (o : Own K H0 b F H p xs) : Rp.rep K (dif H0 H) (.ref p) xs := by
  obtain ⟨h0, f, vs, h, r⟩ := o.lst
  exact ⟨p, vs, rfl, dif_of h0 h, r.mono fun _ _ x => Sc.is.mpr (Sc.is.mp x)⟩
/-- it is frozen -/
theorem Own.frz {p : Addr} {x : τ} (o : Own K H0 b F H p x) (hF : Same F H) : ∃ F', Same F F' ∧ Same F' H ∧ (∀ q, q ≠ p → F' q = F q) ∧ Rp.rep K F' (.ref p) x ∧ (b = true → Rp.rep K (dif H0 F') (.ref p) x) := by
  obtain ⟨h0, f, u, h, r⟩ := o
  refine ⟨upd F p u, same_upd f, fun x o q => ?_, fun q hq => upd_ne hq, Cel.rep upd_same (Cel.mono (bs_le.trans (same_upd f)) r), fun hb => ?_⟩
  · unfold upd at q
    split at q
    · rename_i c
      rw [c, h]
      exact q
    · exact hF x o q
  · subst hb
    exact Cel.rep (dif_of h0 upd_same) (Cel.mono (dif_mono (same_upd f)) r)
theorem Own.frzS [Sc α] {p : Addr} {xs : List α} (o : Own K H0 b F H p xs) (hF : Same F H) : ∃ F', Same F F' ∧ Same F' H ∧ (∀ q, q ≠ p → F' q = F q) ∧ Rp.rep K (dif H0 F') (.ref p) xs := by
  obtain ⟨F', h1, h2, h3, h4, h5⟩ := o.frz hF
  obtain ⟨q, vs, e, h, r⟩ := h4
  cases e
  exact ⟨F', h1, h2, h3, p, vs, rfl, dif_of o.h0 h, r.mono fun _ _ x => Sc.is.mpr (Sc.is.mp x)⟩
theorem Own.fz {p q : Addr} {x : τ} (o : Own K H0 b F H q x) (hf : Same F F') (h : ∀ q, q ≠ p → F' q = F q) (ne : q ≠ p) : Own K H0 b F' H q x := by
  obtain ⟨h0, f, u, hh, r⟩ := o
  exact ⟨h0, by rw [h q ne]; exact f, u, hh, Cel.mono (bs_ff hf) r⟩
/-! ### assignments -/
theorem s_asg {i : Nat} {m : R α} {k : α → R β} {kk : β → Prop} (he : Gr K E te σ F H m) (hF : Same F H) (e0 : Same H0 H) (hQ : Wp (R.bd m k) kk (EE K E H0))
    (c : ∀ a v F' H', Nx0 F H F' H' → Same H0 H' → Rp.rep K F' v a → Wp (k a) kk (EE K E H0) → D.nx (σ.set i (some v)) H') : tAsg te (gName i) D σ H := by
  refine he H (Same.refl _) _ ?_
  rw [wp_bd] at hQ
  exact wp_mono hQ (fun a _ q v H2 e2 r => c a v _ H2 (Nx.mk' hF e2) (e0.trans e2) r q) fun c _ z => z.mono e0
/-- what is told is new -/
theorem s_asgN {i : Nat} {m : R α} {k : α → R β} {kk : β → Prop} (he : Gr K E te σ (dif H0 F) H m) (hF : Same F H) (e0 : Same H0 H) (hQ : Wp (R.bd m k) kk (EE K E H0))
    (c : ∀ a v F' H', Nx0 F H F' H' → Same H0 H' → Rp.rep K (dif H0 F') v a → Wp (k a) kk (EE K E H0) → D.nx (σ.set i (some v)) H') : tAsg te (gName i) D σ H := by
  refine he H (Same.refl _) _ ?_
  rw [wp_bd] at hQ
  exact wp_mono hQ (fun a _ q v H2 e2 r => c a v _ H2 (Nx.mk' hF e2) (e0.trans e2) (Rp.mono (mix_dif e0 hF e2) r) q) fun c _ z => z.mono e0
abbrev nil0 : Hp := fun _ => none
/-- a new list of ints (bools, texts) that becomes ours -/
theorem s_asgO [Sc α] {i : Nat} {m : R (List α)} {k : List α → R β} {kk : β → Prop} (he : Gr K E te σ nil0 H m) (hF : Same F H) (e0 : Same H0 H) (hQ : Wp (R.bd m k) kk (EE K E H0))
    (c : ∀ a p F' H', Nx0 F H F' H' → Same H0 H' → Own K H0 b F' H' p a → (∀ q, (∃ u, H q = some u) → q ≠ p) → Wp (k a) kk (EE K E H0) → D.nx (σ.set i (some (.ref p))) H') : tAsg te (gName i) D σ H := by
  refine he H (Same.refl _) _ ?_
  rw [wp_bd] at hQ
  refine wp_mono hQ (fun a _ q v H2 e2 r => ?_) fun c _ z => z.mono e0
  obtain ⟨p, vs, rfl, hp, hv⟩ := r
  have hn : H p = none := by
    cases z : H p with
    | none => rfl
    | some u =>
      rcases mix_cases hp with ⟨h, _⟩ | ⟨h, t⟩ | ⟨_, _, _, h⟩
      · rw [z] at h; cases h
      · cases t
      · cases h
  have hp2 : H2 p = some (.lst vs) := by
    rw [mix_new hn] at hp
    exact hp
  refine c a p (delH (mix F H H2) p) H2 ⟨fun x o h => ?_, fun x o _ h => e2 x o h, fun x o h => ?_, fun x o z h n => ?_, fun x o h => ⟨o, e2 x o h, rfl⟩⟩ (e0.trans e2) (Own.of (Same.free e0 hn) delH_same hp2 (hv.mono fun _ _ x => Sc.is.mpr (Sc.is.mp x))) (fun z ⟨u, hu⟩ e => by rw [e, hn] at hu; cases hu) q
  · have : x ≠ p := fun z => by
      rw [z] at h
      have := hF p o h
      rw [hn] at this
      cases this
    rw [delH_ne this]
    exact same_mix hF x o h
  · unfold delH at h
    split at h
    · cases h
    · exact mix_same hF e2 x o h
  · unfold delH
    split
    · rfl
    · rw [mix_old h z]
      exact n
/-- a written list of ours: [e, ..] -/
theorem s_asgL {i : Nat} {tr : TA} {m : R (List α)} {k : List α → R β} {kk : β → Prop} (he : GrA K E tr σ (Bs H0 F b) H m) (hF : Same F H) (e0 : Same H0 H) (hQ : Wp (R.bd (R.bd m fun as => gd (as.length ≤ lim) (.ok as)) k) kk (EE K E H0))
    (c : ∀ a p F' H', Nx0 F H F' H' → Same H0 H' → Own K H0 b F' H' p a → (∀ q, (∃ u, H q = some u) → q ≠ p) → Wp (k a) kk (EE K E H0) → D.nx (σ.set i (some (.ref p))) H') : tAsg (tLst tr) (gName i) D σ H := by
  refine he H (Same.refl _) _ ?_
  rw [bd_assoc, wp_bd] at hQ
  refine wp_mono hQ (fun as _ q vs H2 e2 r => ?_) fun c _ z => z.mono e0
  unfold gd at q
  split at q
  · rename_i cl
    refine ⟨lim_line (by rw [r.length]; exact cl), fun p hp => ?_⟩
    have hn : H p = none := Same.free e2 hp
    refine c as p (mix F H H2) (upd H2 p (.lst vs)) ⟨same_mix hF, fun x o _ h => same_upd hp x o (e2 x o h), (mix_same hF e2).trans (same_upd hp), fun x o z h n => by rw [mix_old h z]; exact n, fun x o h => ⟨o, same_upd hp x o (e2 x o h), rfl⟩⟩
      (e0.trans (e2.trans (same_upd hp))) (Own.of (Same.free e0 hn) (by rw [mix_new hn]; exact hp) upd_same (r.mono fun _ _ x => Rp.mono (bs_mix e0 hF e2) x)) (fun z ⟨u, hu⟩ e => by rw [e, hn] at hu; cases hu) q
  · exact q.elim
/-! ### changes of a list of ours -/
/-- the expression tells the list at p, changing nothing -/
def At (te : TE) (σ : L2.St) (H : Hp) (p : Addr) : Prop := ∀ H1, Same H H1 → ∀ Q : VK, Q (.ref p) H1 → te σ H1 Q
theorem at_var {i : Nat} {p : Addr} (h : σ[i]? = some (some (.ref p))) : At (tVar i) σ H p := fun H1 _ Q q => ⟨_, h, q⟩
noncomputable def appR {α : Type} (xs : List α) (a : α) : R (List α) := gd (xs.length < lim) (.ok (xs ++ [a]))
theorem nx_upd {H2 : Hp} {p : Addr} {o o' : HO} (hF : Same F H) (e2 : Same H H2) (hp : H p = some o) (hf : F p = none) (ho : tupB (some o) = false := by rfl) (ho' : tupB (some o') = false := by rfl) : Nx (fun q => q = p) F H (mix F H H2) (upd H2 p o') :=
  ⟨same_mix hF, fun x o n h => by rw [upd_ne n]; exact e2 x o h, fun x o h => by
    have : x ≠ p := fun z => by
      rw [z, mix_old hp ho, hf] at h
      cases h
    rw [upd_ne this]
    exact mix_same hF e2 x o h, fun x o z h n => by rw [mix_old h z]; exact n, fun x u h => by
    by_cases c : x = p
    · rw [c] at h ⊢; rw [hp] at h; cases h; exact ⟨_, upd_same, by rw [ho, ho']⟩
    · rw [upd_ne c]; exact ⟨_, e2 x u h, rfl⟩⟩
theorem e0_upd {H2 : Hp} {p : Addr} {o' : HO} (e0 : Same H0 H) (e2 : Same H H2) (h0 : H0 p = none) : Same H0 (upd H2 p o') := fun x o h => by
  have : x ≠ p := fun z => by rw [z, h0] at h; cases h
  rw [upd_ne this]
  exact e2 x o (e0 x o h)
theorem s_app {p : Addr} {xs : List α} {m : R α} {k : List α → R β} {kk : β → Prop} (ha : At to σ H p) (o : Own K H0 b F H p xs) (he : Gr K E te σ (Bs H0 F b) H m) (hF : Same F H) (e0 : Same H0 H) (hQ : Wp (R.bd (R.bd m fun a => appR xs a) k) kk (EE K E H0))
    (c : ∀ xs' F' H', Nx (fun q => q = p) F H F' H' → Same H0 H' → Own K H0 b F' H' p xs' → Wp (k xs') kk (EE K E H0) → D.nx σ H') : tDrop (tBM K "list" rAppend to (tCons te tNil)) D σ H := by
  obtain ⟨h0, f, vs, hp, r⟩ := o.lst
  refine ha H (Same.refl _) _ ⟨.inl ⟨rfl, _, SqL.of hp⟩, ?_⟩
  refine he H (Same.refl _) _ ?_
  rw [bd_assoc, wp_bd] at hQ
  refine wp_mono hQ (fun a _ q v H2 e2 rv => ?_) fun c _ z => z.mono e0
  unfold appR gd at q
  split at q
  · rename_i cl
    refine ⟨p, vs, v, rfl, rfl, e2 p _ hp, lim_line' (by rw [r.length]; exact cl), ?_⟩
    exact c _ (mix F H H2) _ (nx_upd hF e2 hp f) (e0_upd e0 e2 h0) (Own.of h0 (by rw [mix_old hp]; exact f) upd_same ((r.mono fun _ _ x => Rp.mono (bs_ff (same_mix hF)) x).append (.cons (Rp.mono (bs_mix e0 hF e2) rv) .nil))) q
  · exact q.elim
def setR {α : Type} (xs : List α) (i : Int) (a : α) : R (List α) := match ixN xs.length i with
  | some j => .ok (xs.set j a)
  | none => .bad
theorem s_set {p : Addr} {xs : List α} {m : R α} {mi : R Int} {k : List α → R β} {kk : β → Prop} (ha : At to σ H p) (o : Own K H0 b F H p xs) (he : Gr K E te σ (Bs H0 F b) H m) (hi : Gr K E ti σ H H mi) (hF : Same F H) (e0 : Same H0 H)
    (hQ : Wp (R.bd (R.bd m fun a => R.bd mi fun i => setR xs i a) k) kk (EE K E H0))
    (c : ∀ xs' F' H', Nx (fun q => q = p) F H F' H' → Same H0 H' → Own K H0 b F' H' p xs' → Wp (k xs') kk (EE K E H0) → D.nx σ H') : tAsg te (gSub to ti rSetL) D σ H := by
  obtain ⟨h0, f, vs, hp, r⟩ := o.lst
  refine he H (Same.refl _) _ ?_
  rw [bd_assoc, wp_bd] at hQ
  refine wp_mono hQ (fun a _ q v H2 e2 rv => ?_) fun c _ z => z.mono e0
  refine ha H2 e2 _ ?_
  refine hi H2 e2 _ ?_
  rw [bd_assoc, wp_bd] at q
  refine wp_mono q (fun i _ q w H3 e3 ri => ?_) fun c _ z => z.mono (e0.trans e2)
  have ri' : w = .int i := ri
  subst ri'
  unfold setR at q
  rw [← r.length] at q
  cases j : ixN vs.length i with
  | none => rw [j] at q; exact q.elim
  | some j' =>
    rw [j] at q
    have e3' := e2.trans e3
    refine ⟨p, vs, i, j', rfl, rfl, e3 p _ (e2 p _ hp), j, ?_⟩
    exact c _ (mix F H H3) _ (nx_upd hF e3' hp f) (e0_upd e0 e3' h0) (Own.of h0 (by rw [mix_old hp]; exact f) upd_same ((r.mono fun _ _ x => Rp.mono (bs_ff (same_mix hF)) x).set (Rp.mono ((mix_mono e3).trans (bs_mix e0 hF e3')) rv) _)) q
/-- xs[i] op= e, ints -/
theorem s_augS {p : Addr} {xs : List Int} {m mi : R Int} {f : Int → Int → Int} {k : List Int → R β} {kk : β → Prop} (ha : At to σ H p) (o : Own K H0 b F H p xs) (hi : Gr K E ti σ H H mi) (he : Gr K E te σ H H m) (hF : Same F H) (e0 : Same H0 H)
    (hQ : Wp (R.bd (R.bd mi fun i => R.bd (idx xs i) fun x => R.bd m fun a => setR xs i (f x a)) k) kk (EE K E H0))
    (c : ∀ xs' F' H', Nx (fun q => q = p) F H F' H' → Same H0 H' → Own K H0 b F' H' p xs' → Wp (k xs') kk (EE K E H0) → D.nx σ H') : tAugS to ti te (rIxL K) (ipI f) rSetL D σ H := by
  obtain ⟨h0, fr, vs, hp, r⟩ := o.lst
  refine ha H (Same.refl _) _ ?_
  refine hi H (Same.refl _) _ ?_
  rw [bd_assoc, wp_bd] at hQ
  refine wp_mono hQ (fun i _ q w H2 e2 ri => ?_) fun c _ z => z.mono e0
  have ri' : w = .int i := ri
  subst ri'
  rw [bd_assoc] at q
  have ei := rep_ints r
  subst ei
  unfold idx at q
  cases jx : atI xs i with
  | none => rw [jx] at q; exact q.elim
  | some x =>
    rw [jx] at q
    refine ⟨p, _, i, _, rfl, rfl, SqL.of (e2 p _ hp), atI_map jx, ?_⟩
    refine he H2 e2 _ ?_
    rw [bd_ok, bd_assoc, wp_bd] at q
    refine wp_mono q (fun a _ q w2 H3 e3 ra => ?_) fun c _ z => z.mono (e0.trans e2)
    have ra' : w2 = .int a := ra
    subst ra'
    refine ⟨x, a, rfl, rfl, ?_⟩
    unfold setR at q
    cases j : ixN xs.length i with
    | none => rw [j] at q; exact q.elim
    | some j' =>
      rw [j] at q
      have e3' := e2.trans e3
      refine ⟨p, _, i, j', rfl, rfl, e3 p _ (e2 p _ hp), by rw [List.length_map]; exact j, ?_⟩
      rw [← List.map_set]
      exact c _ (mix F H H3) _ (nx_upd hF e3' hp fr) (e0_upd e0 e3' h0) (Own.of h0 (by rw [mix_old hp]; exact fr) upd_same (ints_rep _)) q
/-- x op= e, ints -/
theorem s_aug {i : Nat} {x : Int} {m : R Int} {f : Int → Int → Int} {k : Int → R β} {kk : β → Prop} (hx : σ[i]? = some (some (.int x))) (he : Gr K E te σ H H m) (hF : Same F H) (e0 : Same H0 H) (hQ : Wp (R.bd (R.bd m fun a => .ok (f x a)) k) kk (EE K E H0))
    (c : ∀ a F' H', Nx0 F H F' H' → Same H0 H' → Wp (k a) kk (EE K E H0) → D.nx (σ.set i (some (.int a))) H') : tAug i te (ipI f) D σ H := by
  refine ⟨_, hx, he H (Same.refl _) _ ?_⟩
  rw [bd_assoc, wp_bd] at hQ
  refine wp_mono hQ (fun a _ q v H2 e2 r => ?_) fun c _ z => z.mono e0
  have r' : v = .int a := r
  subst r'
  exact ⟨x, a, rfl, rfl, c _ _ H2 (Nx.mk' hF e2) (e0.trans e2) q⟩
def popR {α : Type} (xs : List α) : R (List α) := match xs with
  | [] => .bad
  | _ => .ok xs.dropLast
/-- xs.pop(), what is told is dropped -/
theorem s_pop {p : Addr} {xs : List α} {k : List α → R β} {kk : β → Prop} (ha : At to σ H p) (o : Own K H0 b F H p xs) (hF : Same F H) (e0 : Same H0 H) (hQ : Wp (R.bd (popR xs) k) kk (EE K E H0))
    (c : ∀ xs' F' H', Nx (fun q => q = p) F H F' H' → Same H0 H' → Own K H0 b F' H' p xs' → Wp (k xs') kk (EE K E H0) → D.nx σ H') : tDrop (tBM0 K "list" rPop to) D σ H := by
  obtain ⟨h0, f, vs, hp, r⟩ := o.lst
  refine ha H (Same.refl _) _ ⟨.inl ⟨rfl, _, SqL.of hp⟩, ?_⟩
  cases xs with
  | nil => exact hQ.elim
  | cons x l =>
    have hl := r.length
    have : ∃ y, vs[vs.length - 1]? = some y := ⟨vs[vs.length - 1]'(by rw [hl]; simp), List.getElem?_eq_getElem _⟩
    obtain ⟨y, hy⟩ := this
    refine ⟨p, vs, y, rfl, rfl, hp, hy, ?_⟩
    have n := nx_upd (o' := .lst vs.dropLast) hF (Same.refl H) hp f
    exact c _ _ _ n (e0_upd e0 (Same.refl _) h0) (Own.of h0 (by rw [mix_old hp]; exact f) upd_same (r.mono fun _ _ x => Rp.mono (bs_ff n.ff) x).dropLast) hQ
/-- an expression whose value is dropped -/
theorem s_drop {m : R α} {k : α → R β} {kk : β → Prop} (he : Gr K E te σ F H m) (hF : Same F H) (e0 : Same H0 H) (hQ : Wp (R.bd m k) kk (EE K E H0))
    (c : ∀ a F' H', Nx0 F H F' H' → Same H0 H' → Wp (k a) kk (EE K E H0) → D.nx σ H') : tDrop te D σ H := by
  refine he H (Same.refl _) _ ?_
  rw [wp_bd] at hQ
  exact wp_mono hQ (fun a _ q v H2 e2 r => c a _ H2 (Nx.mk' hF e2) (e0.trans e2) q) fun c _ z => z.mono e0
/-! ### unpacking -/
theorem s_unp {i j : Nat} {m : R (α × β)} {k : α × β → R γ} {kk : γ → Prop} (he : Gr K E te σ F H m) (hF : Same F H) (e0 : Same H0 H) (hQ : Wp (R.bd m k) kk (EE K E H0))
    (c : ∀ a b v w F' H', Nx0 F H F' H' → Same H0 H' → Rp.rep K F' v a → Rp.rep K F' w b → Wp (k (a, b)) kk (EE K E H0) → D.nx ((σ.set i (some v)).set j (some w)) H') : tAsg te (gTup K 2 (gCons (gName i) (gCons (gName j) gNil))) D σ H := by
  refine he H (Same.refl _) _ ?_
  rw [wp_bd] at hQ
  refine wp_mono hQ (fun a _ q v H2 e2 r => ?_) fun c _ z => z.mono e0
  obtain ⟨p, x, y, rfl, hp, r1, r2⟩ := r
  exact ⟨p, _, rfl, SqT.of (mix_same hF e2 p _ hp), rfl, x, _, rfl, y, _, rfl, rfl, c a.1 a.2 x y _ H2 (Nx.mk' hF e2) (e0.trans e2) r1 r2 q⟩
theorem s_unpN {i j : Nat} {m : R (α × β)} {k : α × β → R γ} {kk : γ → Prop} (he : Gr K E te σ (dif H0 F) H m) (hF : Same F H) (e0 : Same H0 H) (hQ : Wp (R.bd m k) kk (EE K E H0))
    (c : ∀ a b v w F' H', Nx0 F H F' H' → Same H0 H' → Rp.rep K (dif H0 F') v a → Rp.rep K (dif H0 F') w b → Wp (k (a, b)) kk (EE K E H0) → D.nx ((σ.set i (some v)).set j (some w)) H') : tAsg te (gTup K 2 (gCons (gName i) (gCons (gName j) gNil))) D σ H := by
  refine he H (Same.refl _) _ ?_
  rw [wp_bd] at hQ
  refine wp_mono hQ (fun a _ q v H2 e2 r => ?_) fun c _ z => z.mono e0
  have r' := Rp.mono (mix_dif e0 hF e2) r
  obtain ⟨p, x, y, rfl, hp, r1, r2⟩ := r'
  exact ⟨p, _, rfl, SqT.of (mix_same hF e2 p _ (dif_le p _ hp)), rfl, x, _, rfl, y, _, rfl, rfl, c a.1 a.2 x y _ H2 (Nx.mk' hF e2) (e0.trans e2) r1 r2 q⟩
/-- a, b = x, y -/
theorem s_par {i j : Nat} {ma : R α} {mb : R β} {k : α → β → R γ} {kk : γ → Prop} (ha : Gr K E ta σ F H ma) (hb : Gr K E tb σ F H mb) (hF : Same F H) (e0 : Same H0 H) (hQ : Wp (R.bd ma fun a => R.bd mb fun b => k a b) kk (EE K E H0))
    (c : ∀ a b v w F' H', Nx0 F H F' H' → Same H0 H' → Rp.rep K F' v a → Rp.rep K F' w b → Wp (k a b) kk (EE K E H0) → D.nx ((σ.set i (some v)).set j (some w)) H') : tPar i j (tCons ta (tCons tb tNil)) D σ H := by
  refine ha H (Same.refl _) _ ?_
  rw [wp_bd] at hQ
  refine wp_mono hQ (fun a _ q v H2 e2 r => ?_) fun c _ z => z.mono e0
  refine hb H2 e2 _ ?_
  rw [wp_bd] at q
  exact wp_mono q (fun b _ q w H3 e3 r3 => ⟨v, w, rfl, c a b v w _ H3 (Nx.mk' hF (e2.trans e3)) (e0.trans (e2.trans e3)) (Rp.mono (mix_mono e3) r) r3 q⟩) fun c _ z => z.mono (e0.trans e2)
/-! ### if, return -/
theorem s_if {m : R Bool} {k : Bool → R β} {kk : β → Prop} (hc : GrT K E t σ H m) (hF : Same F H) (e0 : Same H0 H) (hQ : Wp (R.bd m k) kk (EE K E H0))
    (h1 : ∀ F' H', Nx0 F H F' H' → Same H0 H' → Wp (k true) kk (EE K E H0) → tu D σ H') (h2 : ∀ F' H', Nx0 F H F' H' → Same H0 H' → Wp (k false) kk (EE K E H0) → tw D σ H') : tIfS t tu tw D σ H := by
  refine hc H (Same.refl _) _ ?_
  rw [wp_bd] at hQ
  refine wp_mono hQ (fun b _ q H2 e2 => ?_) fun c _ z => z.mono e0
  cases b with
  | true => exact h1 _ H2 (Nx.mk' hF e2) (e0.trans e2) q
  | false => exact h2 _ H2 (Nx.mk' hF e2) (e0.trans e2) q
theorem mix_new0 {H H' : Hp} (e0 : Same H0 H) (e : Same H H') : Same (mix (dif H0 H) H H') (dif H0 H') := mix_dif e0 (Same.refl _) e |>.trans (dif_mono (mix_same (Same.refl _) e))
theorem s_ret {m : R α} {k : α → R β} {kk : β → Prop} (he : Gr K E te σ (dif H0 H) H m) (e0 : Same H0 H) (hQ : Wp (R.bd m k) kk (EE K E H0)) (hk : ∀ a, Wp (k a) kk (EE K E H0) → KN K H0 D.rt a) : tRet te D σ H := by
  refine he H (Same.refl _) _ ?_
  rw [wp_bd] at hQ
  exact wp_mono hQ (fun a _ q v H2 e2 r => hk a q v H2 (e0.trans e2) (Rp.mono (mix_new0 e0 e2) r)) fun c _ z => z.mono e0
/-! ### a word between -/
theorem s_cut {M : L2.St → Hp → Prop} (h : tu { D with nx := M } σ H) (k : ∀ σ' H', M σ' H' → tz D σ' H') : Evl.tCut tu tz D σ H := ⟨M, h, k⟩
/-! ### loops -/
inductive Fl (S ρ : Type) where
  | go (s : S)
  | brk (s : S)
  | ret (r : ρ)
def forR {α S ρ : Type} (body : α → S → R (Fl S ρ)) : List α → S → R (Fl S ρ)
  | [], s => .ok (.go s)
  | x :: l, s => R.bd (body x s) fun f => match f with
    | .go s' => forR body l s'
    | .brk s' => .ok (.go s')
    | .ret r => .ok (.ret r)
/-- no break, no return -/
def forS {α S : Type} (body : α → S → R S) : List α → S → R S
  | [], s => .ok s
  | x :: l, s => R.bd (body x s) fun s' => forS body l s'
def whileR {S ρ : Type} (c : S → R Bool) (body : S → R (Fl S ρ)) : Nat → S → R (Fl S ρ)
  | 0, _ => .bad
  | n + 1, s => R.bd (c s) fun b => if b = true then R.bd (body s) fun f => match f with
      | .go s' => whileR c body n s'
      | .brk s' => .ok (.go s')
      | .ret r => .ok (.ret r)
    else .ok (.go s)
def whileS {S : Type} (c : S → R Bool) (body : S → R S) : Nat → S → R S
  | 0, _ => .bad
  | n + 1, s => R.bd (c s) fun b => if b = true then R.bd (body s) fun s' => whileS c body n s' else .ok s
/-- the iterator J tells xs, wherever the heap G stands -/
structure ItOk (J : It) (K : PySem.W.Frag) (G : Hp) (xs : List α) : Prop where
  go : ∀ i H', Same G H' → i < xs.length → J.go i H'
  stop : ∀ i H', Same G H' → i = xs.length → J.stop i H'
  yld : ∀ i H' x H'', Same G H' → i < xs.length → J.yld i H' x H'' → Same H' H'' ∧ ∃ a, xs[i]? = some a ∧ Rp.rep K (mix G H' H'') x a
def GrI (K : PySem.W.Frag) (E : XK) (wi : TI) (σ : L2.St) (F H : Hp) (m : R (List α)) : Prop :=
  ∀ H1, Same H H1 → ∀ RR : It → Hp → Prop, Wp m (fun xs => ∀ J H2, Same H1 H2 → ItOk J K (mix F H H2) xs → RR J H2) (EE K E H1) → wi σ H1 RR
theorem s_for {wi : TI} {g : TG} {m : R (List α)} {k : List α → R β} {kk : β → Prop} (hi : GrI K E wi σ F H m) (hF : Same F H) (e0 : Same H0 H) (hQ : Wp (R.bd m k) kk (EE K E H0))
    (c : ∀ xs J F' H', Nx0 F H F' H' → Same H0 H' → ItOk J K F' xs → Wp (k xs) kk (EE K E H0) → ∃ W : Nat → Nat → L2.St → Hp → Prop, (∃ m, W 0 m σ H') ∧ ∀ i m σ H, W i m σ H →
      (J.stop i H ∧ D.nx σ H) ∨ (J.go i H ∧ ∃ N : L2.St → Hp → Prop, (∀ σ' H', N σ' H' → ∃ m', m' < m ∧ W (i + 1) m' σ' H') ∧ ∀ x H', J.yld i H x H' → g x σ H' fun σ2 H2 => tu { D with nx := N, ct := N, bk := D.nx } σ2 H2)) : tFor wi g tu D σ H := by
  refine hi H (Same.refl _) _ ?_
  rw [wp_bd] at hQ
  exact wp_mono hQ (fun xs _ q J H2 e2 ok => c xs J _ H2 (Nx.mk' hF e2) (e0.trans e2) ok q) fun c _ z => z.mono e0
def kF {S ρ β : Type} (kk : Fl S ρ → Prop) (w : S → Prop) : Fl S ρ → Prop
  | .go s' => w s'
  | .brk s' => kk (.go s')
  | .ret r => kk (.ret r)
theorem drop_get {α : Type} {l : List α} {i : Nat} {a : α} (h : l[i]? = some a) : l.drop i = a :: l.drop (i + 1) := by
  obtain ⟨h1, h2⟩ := List.getElem?_eq_some_iff.mp h
  rw [List.drop_eq_getElem_cons h1, h2]
theorem for_R {ρ : Type} {J : It} {G : Hp} {xs : List α} {g : TG} {body : α → S → R (Fl S ρ)} {s0 : S} {kk : Fl S ρ → Prop} {ee : Er → Prop} (ok : ItOk J K G xs) (I : S → L2.St → Hp → Prop) (hk : ∀ s σ' H', I s σ' H' → Same G H') (h0 : I s0 σ H)
    (hQ : Wp (forR body xs s0) kk ee) (turn : ∀ x l s v σ' H' H'', I s σ' H' → Same H' H'' → Rp.rep K (mix G H' H'') v x → Wp (body x s) (kF (β := Unit) kk fun s' => Wp (forR body l s') kk ee) ee →
      g v σ' H'' fun σ2 H2 => tu { D with nx := fun σ3 H3 => ∃ s', I s' σ3 H3 ∧ Wp (forR body l s') kk ee, ct := fun σ3 H3 => ∃ s', I s' σ3 H3 ∧ Wp (forR body l s') kk ee, bk := D.nx } σ2 H2)
    (done : ∀ s σ' H', I s σ' H' → kk (.go s) → D.nx σ' H') : ∃ W : Nat → Nat → L2.St → Hp → Prop, (∃ m, W 0 m σ H) ∧ ∀ i m σ H, W i m σ H →
      (J.stop i H ∧ D.nx σ H) ∨ (J.go i H ∧ ∃ N : L2.St → Hp → Prop, (∀ σ' H', N σ' H' → ∃ m', m' < m ∧ W (i + 1) m' σ' H') ∧ ∀ x H', J.yld i H x H' → g x σ H' fun σ2 H2 => tu { D with nx := N, ct := N, bk := D.nx } σ2 H2) := by
  refine ⟨fun i m σ' H' => m = xs.length - i ∧ i ≤ xs.length ∧ ∃ s, I s σ' H' ∧ Wp (forR body (xs.drop i) s) kk ee, ⟨_, rfl, Nat.zero_le _, s0, h0, hQ⟩, ?_⟩
  rintro i m σ' H' ⟨rfl, hi, s, hI, hq⟩
  have kp := hk s σ' H' hI
  by_cases c : i < xs.length
  · refine .inr ⟨ok.go i H' kp c, fun σ3 H3 => ∃ s', I s' σ3 H3 ∧ Wp (forR body (xs.drop (i + 1)) s') kk ee, fun σ3 H3 h3 => ⟨_, by omega, rfl, c, h3⟩, fun x H'' y => ?_⟩
    obtain ⟨e1, a, ha, r⟩ := ok.yld i H' x H'' kp c y
    rw [drop_get ha] at hq
    refine turn a (xs.drop (i + 1)) s x σ' H' H'' hI e1 r ?_
    have hq2 : Wp (R.bd (body a s) fun f => match f with
      | .go s' => forR body (xs.drop (i + 1)) s'
      | .brk s' => .ok (.go s')
      | .ret r => .ok (.ret r)) kk ee := hq
    rw [wp_bd] at hq2
    refine wp_mono hq2 (fun f _ q => ?_) fun _ _ z => z
    cases f with
    | go s' => exact q
    | brk s' => exact q
    | ret r => exact q
  · have e : i = xs.length := by omega
    refine .inl ⟨ok.stop i H' kp e, done s σ' H' hI ?_⟩
    rw [e, List.drop_length] at hq
    exact hq
theorem for_S {J : It} {G : Hp} {xs : List α} {g : TG} {body : α → S → R S} {s0 : S} {kk : S → Prop} {ee : Er → Prop} (ok : ItOk J K G xs) (I : S → L2.St → Hp → Prop) (hk : ∀ s σ' H', I s σ' H' → Same G H') (h0 : I s0 σ H)
    (hQ : Wp (forS body xs s0) kk ee) (turn : ∀ x l s v σ' H' H'', I s σ' H' → Same H' H'' → Rp.rep K (mix G H' H'') v x → Wp (body x s) (fun s' => Wp (forS body l s') kk ee) ee →
      g v σ' H'' fun σ2 H2 => tu { D with nx := fun σ3 H3 => ∃ s', I s' σ3 H3 ∧ Wp (forS body l s') kk ee, ct := fun σ3 H3 => ∃ s', I s' σ3 H3 ∧ Wp (forS body l s') kk ee, bk := D.nx } σ2 H2)
    (done : ∀ s σ' H', I s σ' H' → kk s → D.nx σ' H') : ∃ W : Nat → Nat → L2.St → Hp → Prop, (∃ m, W 0 m σ H) ∧ ∀ i m σ H, W i m σ H →
      (J.stop i H ∧ D.nx σ H) ∨ (J.go i H ∧ ∃ N : L2.St → Hp → Prop, (∀ σ' H', N σ' H' → ∃ m', m' < m ∧ W (i + 1) m' σ' H') ∧ ∀ x H', J.yld i H x H' → g x σ H' fun σ2 H2 => tu { D with nx := N, ct := N, bk := D.nx } σ2 H2) := by
  refine ⟨fun i m σ' H' => m = xs.length - i ∧ i ≤ xs.length ∧ ∃ s, I s σ' H' ∧ Wp (forS body (xs.drop i) s) kk ee, ⟨_, rfl, Nat.zero_le _, s0, h0, hQ⟩, ?_⟩
  rintro i m σ' H' ⟨rfl, hi, s, hI, hq⟩
  have kp := hk s σ' H' hI
  by_cases c : i < xs.length
  · refine .inr ⟨ok.go i H' kp c, fun σ3 H3 => ∃ s', I s' σ3 H3 ∧ Wp (forS body (xs.drop (i + 1)) s') kk ee, fun σ3 H3 h3 => ⟨_, by omega, rfl, c, h3⟩, fun x H'' y => ?_⟩
    obtain ⟨e1, a, ha, r⟩ := ok.yld i H' x H'' kp c y
    rw [drop_get ha] at hq
    refine turn a (xs.drop (i + 1)) s x σ' H' H'' hI e1 r ?_
    have hq2 : Wp (R.bd (body a s) fun s' => forS body (xs.drop (i + 1)) s') kk ee := hq
    rw [wp_bd] at hq2
    exact hq2
  · have e : i = xs.length := by omega
    refine .inl ⟨ok.stop i H' kp e, done s σ' H' hI ?_⟩
    rw [e, List.drop_length] at hq
    exact hq
/-- while -/
theorem while_R {ρ : Type} {c : S → R Bool} {body : S → R (Fl S ρ)} {n : Nat} {s0 : S} {kk : Fl S ρ → Prop} (I : S → L2.St → Hp → Prop) (h0 : I s0 σ H) (hQ : Wp (whileR c body n s0) kk (EE K E H0))
    (hc : ∀ s σ' H', I s σ' H' → Same H0 H' ∧ GrT K E t σ' H' (c s))
    (hb : ∀ n s σ' H' H1, I s σ' H' → Same H' H1 → Wp (body s) (kF (β := Unit) kk fun s' => Wp (whileR c body n s') kk (EE K E H0)) (EE K E H0) →
      tu { D with nx := fun σ3 H3 => ∃ s', I s' σ3 H3 ∧ Wp (whileR c body n s') kk (EE K E H0), ct := fun σ3 H3 => ∃ s', I s' σ3 H3 ∧ Wp (whileR c body n s') kk (EE K E H0), bk := D.nx } σ' H1)
    (hd : ∀ s σ' H' H1, I s σ' H' → Same H' H1 → kk (.go s) → D.nx σ' H1) : tWhile t tu D σ H := by
  refine ⟨fun n σ' H' => ∃ s, I s σ' H' ∧ Wp (whileR c body n s) kk (EE K E H0), ⟨n, s0, h0, hQ⟩, ?_⟩
  rintro n σ' H' ⟨s, hI, hq⟩
  cases n with
  | zero => exact hq.elim
  | succ n =>
    obtain ⟨e0, gc⟩ := hc s σ' H' hI
    have hq2 : Wp (R.bd (c s) fun b => if b = true then R.bd (body s) fun f => match f with
      | .go s' => whileR c body n s'
      | .brk s' => .ok (.go s')
      | .ret r => .ok (.ret r)
    else .ok (.go s)) kk (EE K E H0) := hq
    refine gc H' (Same.refl _) _ ?_
    rw [wp_bd] at hq2
    refine wp_mono hq2 (fun b _ q H1 e1 => ?_) fun _ _ z => z.mono e0
    cases b with
    | true =>
      refine ⟨_, fun σ3 H3 h3 => ⟨n, Nat.lt_succ_self n, h3⟩, hb n s σ' H' H1 hI e1 ?_⟩
      have q2 : Wp (R.bd (body s) fun f => match f with
        | .go s' => whileR c body n s'
        | .brk s' => .ok (.go s')
        | .ret r => .ok (.ret r)) kk (EE K E H0) := q
      rw [wp_bd] at q2
      refine wp_mono q2 (fun f _ q => ?_) fun _ _ z => z
      cases f with
      | go s' => exact q
      | brk s' => exact q
      | ret r => exact q
    | false => exact hd s σ' H' H1 hI e1 q
theorem while_S {c : S → R Bool} {body : S → R S} {n : Nat} {s0 : S} {kk : S → Prop} (I : S → L2.St → Hp → Prop) (h0 : I s0 σ H) (hQ : Wp (whileS c body n s0) kk (EE K E H0))
    (hc : ∀ s σ' H', I s σ' H' → Same H0 H' ∧ GrT K E t σ' H' (c s))
    (hb : ∀ n s σ' H' H1, I s σ' H' → Same H' H1 → Wp (body s) (fun s' => Wp (whileS c body n s') kk (EE K E H0)) (EE K E H0) →
      tu { D with nx := fun σ3 H3 => ∃ s', I s' σ3 H3 ∧ Wp (whileS c body n s') kk (EE K E H0), ct := fun σ3 H3 => ∃ s', I s' σ3 H3 ∧ Wp (whileS c body n s') kk (EE K E H0), bk := D.nx } σ' H1)
    (hd : ∀ s σ' H' H1, I s σ' H' → Same H' H1 → kk s → D.nx σ' H1) : tWhile t tu D σ H := by
  refine ⟨fun n σ' H' => ∃ s, I s σ' H' ∧ Wp (whileS c body n s) kk (EE K E H0), ⟨n, s0, h0, hQ⟩, ?_⟩
  rintro n σ' H' ⟨s, hI, hq⟩
  cases n with
  | zero => exact hq.elim
  | succ n =>
    obtain ⟨e0, gc⟩ := hc s σ' H' hI
    have hq2 : Wp (R.bd (c s) fun b => if b = true then R.bd (body s) fun s' => whileS c body n s' else .ok s) kk (EE K E H0) := hq
    refine gc H' (Same.refl _) _ ?_
    rw [wp_bd] at hq2
    refine wp_mono hq2 (fun b _ q H1 e1 => ?_) fun _ _ z => z.mono e0
    cases b with
    | true =>
      refine ⟨_, fun σ3 H3 h3 => ⟨n, Nat.lt_succ_self n, h3⟩, hb n s σ' H' H1 hI e1 ?_⟩
      have q2 : Wp (R.bd (body s) fun s' => whileS c body n s') kk (EE K E H0) := q
      rw [wp_bd] at q2
      exact q2
    | false => exact hd s σ' H' H1 hI e1 q
/-! ### what a for walks -/
theorem same_mix0 {G H : Hp} (e : Same G H) : Same G (mix G H H) := same_mix e
theorem i_list {m : R (List α)} (h : Gr K E tl σ F H m) (hF : Same F H) : GrI K E (iList K tl) σ F H m := fun H1 e RR hq =>
  h H1 e _ (wp_mono hq (fun xs _ k v H2 e2 r => by
    obtain ⟨p, vs, rfl, hp, hv⟩ := r
    refine ⟨p, rfl, ⟨vs, SqL.of (mix_same hF (e.trans e2) p _ hp)⟩, k _ H2 e2 ⟨fun i H' s hi => ⟨vs, vs[i]'(by rw [hv.length]; exact hi), SqL.of (s p _ hp), List.getElem?_eq_getElem _⟩, fun i H' s hi => ⟨vs, SqL.of (s p _ hp), by rw [hv.length, hi]; exact Nat.le_refl _⟩, fun i H' x H'' s hi y => ?_⟩⟩
    obtain ⟨e1, y⟩ := y
    subst e1
    obtain ⟨a, ha, ra⟩ := hv.getL (y vs (SqL.of (s p _ hp)))
    exact ⟨Same.refl _, a, ha, Rp.mono (same_mix s) ra⟩) fun _ _ z => z)
theorem i_listS {m : R Scr} (h : Gr K E tl σ F H m) (hF : Same F H) : GrI K E (iList K tl) σ F H (R.bd m fun s => .ok s.l) := fun H1 e RR hq =>
  h H1 e _ (by
    rw [wp_bd] at hq
    refine wp_mono hq (fun xs _ k v H2 e2 r => ?_) fun _ _ z => z
    obtain ⟨p, rfl, hp⟩ := r
    have hl : ∀ {H' : Hp}, Same (mix F H H2) H' → SqL K H' p (xs.l.map V.int) := fun s => s.seq hp
    refine ⟨p, rfl, ⟨_, hl (mix_same hF (e.trans e2))⟩, k _ H2 e2 ⟨fun i H' s hi => ⟨_, .int (xs.l[i]), hl s, by rw [List.getElem?_map, List.getElem?_eq_getElem hi]; rfl⟩, fun i H' s hi => ⟨_, hl s, by rw [List.length_map, hi]; exact Nat.le_refl _⟩, fun i H' x H'' s hi y => ?_⟩⟩
    obtain ⟨e1, y⟩ := y
    subst e1
    have z := y _ (hl s)
    rw [List.getElem?_map] at z
    cases q : xs.l[i]? with
    | none => rw [q] at z; cases z
    | some n =>
      rw [q] at z
      exact ⟨Same.refl _, n, rfl, (Option.some.inj z).symm⟩)
theorem i_tup {m : R (Tu α)} (h : Gr K E tl σ F H m) (hF : Same F H) : GrI K E (iTup K tl) σ F H (R.bd m fun s => .ok s.l) := fun H1 e RR hq =>
  h H1 e _ (by
    rw [wp_bd] at hq
    refine wp_mono hq (fun xs _ k v H2 e2 r => ?_) fun _ _ z => z
    obtain ⟨p, vs, rfl, hp, hv⟩ := r
    refine ⟨p, rfl, ⟨vs, SqT.of (mix_same hF (e.trans e2) p _ hp)⟩, k _ H2 e2 ⟨fun i H' s hi => ⟨vs, vs[i]'(by rw [hv.length]; exact hi), SqT.of (s p _ hp), List.getElem?_eq_getElem _⟩, fun i H' s hi => ⟨vs, SqT.of (s p _ hp), by rw [hv.length, hi]; exact Nat.le_refl _⟩, fun i H' x H'' s hi y => ?_⟩⟩
    obtain ⟨e1, y⟩ := y
    subst e1
    obtain ⟨a, ha, ra⟩ := hv.getL (y vs (SqT.of (s p _ hp)))
    exact ⟨Same.refl _, a, ha, Rp.mono (same_mix s) ra⟩)
/-- lo, lo + 1, .. below hi -/
def rngL (lo hi : Int) : List Int := (List.range (hi - lo).toNat).map fun i : Nat => lo + (i : Int)
theorem rngL_len (lo hi : Int) : (rngL lo hi).length = (hi - lo).toNat := by unfold rngL; simp
theorem rngL_get {lo hi : Int} {i : Nat} (h : i < (hi - lo).toNat) : (rngL lo hi)[i]? = some (lo + (i : Int)) := by
  unfold rngL
  rw [List.getElem?_map, List.getElem?_range h]
  rfl
def rngOk (n : Int) : Prop := -(2 ^ 62) ≤ n ∧ n < 2 ^ 62
instance {n : Int} : Decidable (rngOk n) := by unfold rngOk; exact inferInstance
noncomputable def rng1 (n : Int) : R (List Int) := gd (rngOk n) (.ok (rngL 0 n))
noncomputable def rng2 (a b : Int) : R (List Int) := gd (rngOk a ∧ rngOk b) (.ok (rngL a b))
theorem itr_ok {lo hi : Int} {G : Hp} : ItOk (Itr lo (hi - lo).toNat) K G (rngL lo hi) := by
  refine ⟨fun i H' s hi => ?_, fun i H' s hi => ?_, fun i H' x H'' s hi y => ?_⟩
  · rw [rngL_len] at hi
    exact hi
  · rw [rngL_len] at hi
    exact Nat.le_of_eq hi.symm
  · obtain ⟨e1, y⟩ := y
    subst e1 y
    rw [rngL_len] at hi
    exact ⟨Same.refl _, _, rngL_get hi, rfl⟩
theorem i_rng1 {m : R Int} (h : Gr K E ta σ F H m) : GrI K E (iRng1 (tCons ta tNil)) σ F H (R.bd m rng1) := fun H1 e RR hq =>
  h H1 e _ (by
    rw [wp_bd] at hq
    refine wp_mono hq (fun n _ k v H2 e2 r => ?_) fun _ _ z => z
    have r' : v = .int n := r
    subst r'
    unfold rng1 gd at k
    split at k
    · rename_i c
      refine ⟨n, rfl, c.1, by have := c.2; omega, ?_⟩
      have z := k (Itr 0 (n - 0).toNat) H2 e2 itr_ok
      rw [show (n - 0).toNat = n.toNat by rw [Int.sub_zero]] at z
      exact z
    · exact k.elim)
theorem i_rng2 {ma mb : R Int} (ha : Gr K E ta σ F H ma) (hb : Gr K E tb σ F H mb) : GrI K E (iRng2 (tCons ta (tCons tb tNil))) σ F H (R.bd ma fun a => R.bd mb fun b => rng2 a b) := fun H1 e RR hq =>
  ha H1 e _ (by
    rw [wp_bd] at hq
    refine wp_mono hq (fun n _ k v H2 e2 r => ?_) fun _ _ z => z
    have r' : v = .int n := r
    subst r'
    refine hb H2 (e.trans e2) _ ?_
    rw [wp_bd] at k
    refine wp_mono k (fun n2 _ k v2 H3 e3 r3 => ?_) fun _ _ z => z.mono e2
    have r3' : v2 = .int n2 := r3
    subst r3'
    unfold rng2 gd at k
    split at k
    · rename_i c
      obtain ⟨⟨c1, c2⟩, c3, c4⟩ := c
      exact ⟨n, n2, rfl, ⟨by omega, by omega, by omega, by omega⟩, k _ H3 (e2.trans e3) itr_ok⟩
    · exact k.elim)
/-- hi, hi - 1, .. above lo -/
def rngD (hi lo : Int) : List Int := (List.range (hi - lo).toNat).map fun i : Nat => hi - (i : Int)
noncomputable def rng3D (a b : Int) : R (List Int) := gd (rngOk a ∧ rngOk b) (.ok (rngD a b))
theorem i_rng3D {ma mb : R Int} {tc : TE} (ha : Gr K E ta σ F H ma) (hb : Gr K E tb σ F H mb) (hc : Gr K E tc σ F H (.ok (-1 : Int))) : GrI K E (iRng3 (tCons ta (tCons tb (tCons tc tNil)))) σ F H (R.bd ma fun a => R.bd mb fun b => rng3D a b) := fun H1 e RR hq =>
  ha H1 e _ (by
    rw [wp_bd] at hq
    refine wp_mono hq (fun n _ k v H2 e2 r => ?_) fun _ _ z => z
    have r' : v = .int n := r
    subst r'
    refine hb H2 (e.trans e2) _ ?_
    rw [wp_bd] at k
    refine wp_mono k (fun n2 _ k v2 H3 e3 r3 => ?_) fun _ _ z => z.mono e2
    have r3' : v2 = .int n2 := r3
    subst r3'
    refine hc H3 (e.trans (e2.trans e3)) _ (fun v3 H4 e4 r4 => ?_)
    have r4' : v3 = .int (-1) := r4
    subst r4'
    unfold rng3D gd at k
    split at k
    · rename_i c
      obtain ⟨⟨c1, c2⟩, c3, c4⟩ := c
      refine ⟨n, n2, -1, (n - n2).toNat, rfl, RgC.neg (by omega) (by omega) (by omega) (by omega), k _ H4 (e2.trans (e3.trans e4)) ⟨fun i H' s hi => ?_, fun i H' s hi => ?_, fun i H' x H'' s hi y => ?_⟩⟩
      · unfold rngD at hi
        simp at hi
        show i < (n - n2).toNat
        omega
      · unfold rngD at hi
        simp at hi
        show (n - n2).toNat ≤ i
        omega
      · obtain ⟨e1, y⟩ := y
        subst e1 y
        unfold rngD at hi ⊢
        simp at hi
        refine ⟨Same.refl _, _, by rw [List.getElem?_map, List.getElem?_range (by omega)]; rfl, ?_⟩
        show V.int (n + ((i : Nat) : Int) * (-1)) = V.int (n - ((i : Nat) : Int))
        congr 1
        omega
    · exact k.elim)
/-- enumerate(xs) -/
def enumL {α : Type} (xs : List α) : List (Int × α) := xs.zipIdx.map fun p => ((p.2 : Int), p.1)
theorem enumL_len (xs : List α) : (enumL xs).length = xs.length := by unfold enumL; simp
theorem enumL_get {xs : List α} {i : Nat} {a : α} (h : xs[i]? = some a) : (enumL xs)[i]? = some ((i : Int), a) := by
  unfold enumL
  rw [List.getElem?_map, List.getElem?_zipIdx, h]
  simp
theorem i_enum {m : R (List α)} (h : Gr K E ta σ F H m) (hF : Same F H) : GrI K E (iEnum K (tCons ta tNil)) σ F H (R.bd m fun xs => .ok (enumL xs)) := fun H1 e RR hq =>
  h H1 e _ (by
    rw [wp_bd] at hq
    refine wp_mono hq (fun xs _ k v H2 e2 r => ?_) fun _ _ z => z
    obtain ⟨p, vs, rfl, hp, hv⟩ := r
    refine ⟨p, vs, rfl, SqL.of (mix_same hF (e.trans e2) p _ hp), k _ H2 e2 ⟨fun i H' s hi => ?_, fun i H' s hi => ?_, fun i H' x H'' s hi y => ?_⟩⟩
    · rw [enumL_len] at hi
      exact ⟨vs, vs[i]'(by rw [hv.length]; exact hi), SqL.of (s p _ hp), List.getElem?_eq_getElem _⟩
    · rw [enumL_len] at hi
      exact ⟨vs, SqL.of (s p _ hp), by rw [hv.length, hi]; exact Nat.le_refl _⟩
    · obtain ⟨T, x, rfl, hT, rfl, y⟩ := y
      obtain ⟨a, ha, ra⟩ := hv.getL (y vs (SqL.of (s p _ hp)))
      refine ⟨same_upd hT, _, enumL_get ha, T, _, x, rfl, by rw [mix_new hT]; exact upd_same, rfl, Rp.mono (same_mix s) ra⟩)
/-! ### a list comprehension -/
def compGo {α β : Type} (c : α → R Bool) (f : α → R β) : List α → R (List β)
  | [] => .ok []
  | x :: l => R.bd (c x).nx fun b => if b = true then R.bd (f x).nx fun y => R.bd (compGo c f l) fun ys => .ok (y :: ys) else compGo c f l
noncomputable def compR {α β : Type} (xs : List α) (c : α → R Bool) (f : α → R β) : R (List β) := gd (xs.length ≤ lim) (compGo c f xs)
theorem wp_nx {m : R α} {k : α → Prop} {ee ee' : Er → Prop} (h : Wp m.nx k ee) : Wp m k ee' := by
  cases m with
  | ok a => exact h
  | er c => exact h.elim
  | bad => exact h.elim
abbrev EF : XK := fun _ _ _ => False
theorem t_yes : GrT K E tYes σ H (.ok true) := fun H1 e Q hq => hq H1 (Same.refl _)
theorem cmp_f {H2 Hc : Hp} {Dl : Addr} (hF : Same F H) (hn : H Dl = none) (e : Same H Hc) : Same F (delH (mix F H Hc) Dl) := fun x o h => by
  have : x ≠ Dl := fun z => by rw [z] at h; have := hF _ _ h; rw [hn] at this; cases this
  rw [delH_ne this]
  exact same_mix hF x o h
theorem del_le {H : Hp} {p : Addr} : Same (delH H p) H := fun x o h => by
  unfold delH at h
  split at h
  · cases h
  · exact h
theorem cmp_el {Hc H4 : Hp} {Dl : Addr} {o : HO} (hn : H Dl = none) (hD : ∃ u, Hc Dl = some (.lst u)) (e : Same H Hc) (e4 : Same Hc H4) : Same (mix (delH (mix F H Hc) Dl) Hc H4) (delH (mix F H (upd H4 Dl o)) Dl) := fun x u h => by
  have ne : x ≠ Dl := fun z => by
    obtain ⟨w, hw⟩ := hD
    rw [z, mix_old hw, delH_same] at h
    cases h
  have new : H x = none → Hc x = some u ∨ H4 x = some u → mix F H (upd H4 Dl o) x = some u := fun z q => by
    rw [mix_new z, upd_ne ne]
    exact q.elim (fun q => e4 x u q) fun q => q
  rw [delH_ne ne]
  rcases mix_cases h with ⟨q, h⟩ | ⟨q, t⟩ | ⟨w, q, t, h⟩
  · exact new (Same.free e q) (.inr h)
  · cases z : H x with
    | none => exact new z (.inl q)
    | some y =>
      have := e x y z
      rw [q] at this
      cases this
      exact mix_tup z t
  · rw [delH_ne ne] at h
    rcases mix_cases h with ⟨z, h⟩ | ⟨z, t2⟩ | ⟨y, z, t2, h⟩
    · exact new z (.inl h)
    · exact mix_tup z t2
    · rw [mix_old z t2]
      exact h
theorem cmp_it {H2 H' H'' : Hp} {Dl : Addr} (hn : H Dl = none) (h2 : H2 Dl = none) (hD : ∃ u, H' Dl = some (.lst u)) (e : Same H H2) (e2 : Same H2 H') (e3 : Same H' H'') : Same (mix (mix F H H2) H' H'') (delH (mix F H H'') Dl) := fun x u h => by
  have ne : x ≠ Dl := fun z => by
    obtain ⟨w, hw⟩ := hD
    rw [z, mix_old hw, mix_new hn, h2] at h
    cases h
  have new : H x = none → H'' x = some u → mix F H H'' x = some u := fun z q => by
    rw [mix_new z]
    exact q
  rw [delH_ne ne]
  rcases mix_cases h with ⟨q, h⟩ | ⟨q, t⟩ | ⟨w, q, t, h⟩
  · exact new (Same.free (e.trans e2) q) h
  · cases z : H x with
    | none => exact new z (e3 x u q)
    | some y =>
      have := (e.trans e2) x y z
      rw [q] at this
      cases this
      exact mix_tup z t
  · rcases mix_cases h with ⟨z, h⟩ | ⟨z, t2⟩ | ⟨y, z, t2, h⟩
    · exact new z (e3 x u (e2 x u h))
    · exact mix_tup z t2
    · rw [mix_old z t2]
      exact h
/-- the frozen part, without the list that is made, grows along -/
theorem cmp_go {Hc H4 : Hp} {Dl : Addr} (e4 : Same Hc H4) : Same (delH (mix F H Hc) Dl) (delH (mix F H H4) Dl) := fun x u h => by
  have ne : x ≠ Dl := fun w => by rw [w, delH_same] at h; cases h
  rw [delH_ne ne] at h ⊢
  exact mix_mono e4 x u h
theorem cmp_up {Hc : Hp} {Dl : Addr} {o : HO} (hn : H Dl = none) : Same (delH (mix F H Hc) Dl) (delH (mix F H (upd Hc Dl o)) Dl) := fun x u h => by
  have ne : x ≠ Dl := fun w => by rw [w, delH_same] at h; cases h
  rw [delH_ne ne] at h ⊢
  rcases mix_cases h with ⟨z, h⟩ | ⟨z, t2⟩ | ⟨y, z, t2, h⟩
  · rw [mix_new z, upd_ne ne]; exact h
  · exact mix_tup z t2
  · rw [mix_old z t2]; exact h
theorem g_compG {Fr : Hp} {wi : TI} {g : TG} {tt : TT} {te : TE} {vs : List Nat} {m : R (List α)} {cf : α → R Bool} {f : α → R β} (hres : ∀ H3 Dl acc ys, All2 (Rp.rep K (delH (mix F H H3) Dl)) acc (ys : List β) → All2 (Rp.rep K (mix Fr H H3)) acc ys) (hi : GrI K E wi σ F H m) (hF : Same F H)
    (hel : ∀ x v F2 H2, Same F F2 → Same F2 H2 → Same H H2 → Rp.rep K F2 v x → ∃ σ2, (∀ Q : L2.St → Hp → Prop, Q σ2 H2 → g v (wipe σ vs) H2 Q) ∧ wipe σ2 vs = wipe σ vs ∧ GrT K EF tt σ2 H2 (cf x) ∧ Gr K EF te σ2 F2 H2 (f x)) :
    Gr K E (tLc wi g tt te vs) σ Fr H (R.bd m fun xs => compR xs cf f) := fun H1 e Q hq =>
  hi H1 e _ (by
    rw [wp_bd] at hq
    refine wp_mono hq (fun xs _ k J H2 e2 ok => ?_) fun _ _ z => z
    unfold compR gd at k
    split at k
    · rename_i cl
      intro Dl hD
      have hnD : H Dl = none := Same.free (e.trans e2) hD
      refine ⟨fun i m H' => m = xs.length - i ∧ i ≤ xs.length ∧ Same H2 H' ∧ ∃ acc ys, H' Dl = some (.lst acc) ∧ acc.length ≤ i ∧ All2 (Rp.rep K (delH (mix F H H') Dl)) acc ys ∧
        Wp (compGo cf f (xs.drop i)) (fun zs => ∀ H3, Same H1 H3 → H3 Dl = H3 Dl → ∀ v, Rp.rep K (mix Fr H H3) v (ys ++ zs) → Q v H3) (fun _ => False), ⟨_, rfl, Nat.zero_le _, same_upd hD, [], [], upd_same, Nat.le_refl _, .nil, ?_⟩, ?_⟩
      · rw [List.drop_zero]
        refine wp_mono k (fun zs _ q H3 e3 _ v r => q v H3 e3 r) fun c hc _ => ?_
        exfalso
        have : ∀ l : List α, ∀ c, compGo cf f l ≠ .er c := by
          intro l
          induction l with
          | nil => intro c z; cases z
          | cons x l ih =>
            intro c z
            unfold compGo at z
            cases h1 : cf x with
            | ok b =>
              rw [h1] at z
              have z2 : (if b = true then R.bd (f x).nx fun y => R.bd (compGo cf f l) fun ys => .ok (y :: ys) else compGo cf f l) = .er c := z
              cases b with
              | true =>
                rw [if_pos rfl] at z2
                cases h2 : f x with
                | ok y =>
                  rw [h2] at z2
                  have z3 : (R.bd (compGo cf f l) fun ys => .ok (y :: ys)) = .er c := z2
                  cases h3 : compGo cf f l with
                  | ok ys => rw [h3] at z3; cases z3
                  | er c' => exact ih c' h3
                  | bad => rw [h3] at z3; cases z3
                | er c' => rw [h2] at z2; cases z2
                | bad => rw [h2] at z2; cases z2
              | false =>
                rw [if_neg Bool.false_ne_true] at z2
                exact ih c z2
            | er c' => rw [h1] at z; cases z
            | bad => rw [h1] at z; cases z
        exact this xs c hc
      · rintro i m H' ⟨rfl, hi', sH, acc, ys, hacc, hal, hall, hw⟩
        have hG : Same (mix F H H2) H' := (mix_same hF (e.trans e2)).trans sH
        by_cases ci : i < xs.length
        · refine .inr ⟨ok.go i H' hG ci, _, fun H3 h3 => ⟨xs.length - (i + 1), by omega, h3⟩, fun v H'' y => ?_⟩
          obtain ⟨e1, a, ha, r⟩ := ok.yld i H' v H'' hG ci y
          have hacc2 := e1 _ _ hacc
          have eH : Same H H'' := (e.trans e2).trans (sH.trans e1)
          obtain ⟨σ2, hg, hwp, gt, ge⟩ := hel a v (delH (mix F H H'') Dl) H'' (cmp_f (H2 := H2) hF hnD eH) (del_le.trans (mix_same hF eH)) eH (Rp.mono (cmp_it hnD hD ⟨_, hacc⟩ (e.trans e2) sH e1) r)
          refine hg _ ⟨hwp, gt H'' (Same.refl _) _ ?_⟩
          rw [drop_get ha] at hw
          unfold compGo at hw
          rw [wp_bd] at hw
          refine wp_nx (wp_mono hw (fun b _ q H3 e3 => ?_) fun _ _ z => z)
          have al' : All2 (Rp.rep K (delH (mix F H H3) Dl)) acc ys := hall.mono fun _ _ x => Rp.mono (cmp_go (e1.trans e3)) x
          cases b with
          | true =>
            show te σ2 H3 _
            refine ge H3 e3 _ ?_
            have q2 : Wp (R.bd (f a).nx fun y => R.bd (compGo cf f (xs.drop (i + 1))) fun ys => .ok (y :: ys)) _ _ := q
            rw [wp_bd] at q2
            refine wp_nx (wp_mono q2 (fun y _ q3 w H4 e4 rw4 => ?_) fun _ _ z => z)
            have hacc4 := e4 _ _ (e3 _ _ hacc2)
            refine ⟨acc, hacc4, lim_line' (by omega), rfl, ci, ?_, acc ++ [w], ys ++ [y], upd_same, by rw [List.length_append]; simp; omega, ?_, ?_⟩
            · exact fun x o h => by
                have ne : x ≠ Dl := fun z => by rw [z, hD] at h; cases h
                rw [upd_ne ne]
                exact e4 _ _ (e3 _ _ (e1 _ _ (sH _ _ h)))
            · refine All2.append (al'.mono fun _ _ x => Rp.mono ((cmp_go e4).trans (cmp_up hnD)) x) (.cons (Rp.mono (cmp_el hnD ⟨_, hacc2⟩ eH (e3.trans e4)) rw4) .nil)
            · rw [wp_bd] at q3
              refine wp_mono q3 (fun zs _ q4 H5 e5 _ v5 r5 => ?_) fun _ _ z => z
              refine q4 H5 e5 rfl v5 ?_
              rw [List.append_assoc] at r5
              exact r5
          | false =>
            exact ⟨rfl, ci, fun x o h => e3 _ _ (e1 _ _ (sH _ _ h)), acc, ys, e3 _ _ hacc2, by omega, al', q⟩
        · have ei : i = xs.length := by omega
          refine .inl ⟨ok.stop i H' hG ei, ?_⟩
          rw [ei, List.drop_length] at hw
          have hw2 : ∀ H3, Same H1 H3 → H3 Dl = H3 Dl → ∀ v, Rp.rep K (mix Fr H H3) v (ys ++ []) → Q v H3 := hw
          refine hw2 H' (e2.trans sH) rfl _ ?_
          rw [List.append_nil]
          exact ⟨Dl, acc, rfl, by rw [mix_new hnD]; exact hacc, hres _ _ _ _ hall⟩
    · exact k.elim)
theorem g_comp {wi : TI} {g : TG} {tt : TT} {te : TE} {vs : List Nat} {m : R (List α)} {cf : α → R Bool} {f : α → R β} (hi : GrI K E wi σ F H m) (hF : Same F H)
    (hel : ∀ x v F2 H2, Same F F2 → Same F2 H2 → Same H H2 → Rp.rep K F2 v x → ∃ σ2, (∀ Q : L2.St → Hp → Prop, Q σ2 H2 → g v (wipe σ vs) H2 Q) ∧ wipe σ2 vs = wipe σ vs ∧ GrT K EF tt σ2 H2 (cf x) ∧ Gr K EF te σ2 F2 H2 (f x)) :
    Gr K E (tLc wi g tt te vs) σ F H (R.bd m fun xs => compR xs cf f) := g_compG (fun _ _ _ _ h => h.mono fun _ _ x => Rp.mono del_le x) hi hF hel
/-- .. that tells ints (bools, texts), over anything -/
theorem g_compS [Sc β] {wi : TI} {g : TG} {tt : TT} {te : TE} {vs : List Nat} {m : R (List α)} {cf : α → R Bool} {f : α → R β} (hi : GrI K E wi σ H H m)
    (hel : ∀ x v F2 H2, Same H F2 → Same F2 H2 → Same H H2 → Rp.rep K F2 v x → ∃ σ2, (∀ Q : L2.St → Hp → Prop, Q σ2 H2 → g v (wipe σ vs) H2 Q) ∧ wipe σ2 vs = wipe σ vs ∧ GrT K EF tt σ2 H2 (cf x) ∧ Gr K EF te σ2 F2 H2 (f x)) :
    Gr K E (tLc wi g tt te vs) σ F H (R.bd m fun xs => compR xs cf f) := g_compG (fun _ _ _ _ h => h.mono fun _ _ x => Sc.is.mpr (Sc.is.mp x)) hi (Same.refl _) hel
end
end G

set_option Elab.async false
set_option linter.all false
set_option maxRecDepth 100000
set_option maxHeartbeats 4000000
/-! G: errors that are caught and kept by a name. -/
namespace G
open PySem PySem.Spec PyProof.Rows L2
/-- an error of the class at C that was caught, at a; its own dict d -/
def ExH (C : Addr) (d : Option Addr) (a : Addr) : HO := .ext fun h => ∃ (oe : Obj) (vs : Array Value), h.get? a = some oe ∧ Zc (.ref C) d oe ∧ oe.data = .fields vs
theorem exH_ok {P : Program} {w : World} {H : Hp} {h : Heap} {a C : Addr} {d : Option Addr} {oe : Obj} {vs : Array Value} (e : h.get? a = some oe) (z : Zc (.ref C) d oe) (dt : oe.data = .fields vs) : ObjOk P w H h a (ExH C d a) :=
  ⟨⟨oe, vs, e, z, dt⟩, ⟨oe, e⟩, fun _ _ ⟨o, v, q, r⟩ k => ⟨o, v, k o q, r⟩⟩
section
variable {X : Cx} {pins : List (Addr × Obj)} {σ : L2.St} {H : Hp} {s : Shared}
/-- an object of ours that stood untracked is tracked -/
theorem inv_track {a : Addr} {o : HO} (I : Inv X pins σ H s) (h0 : X.s_0.heap.get? a = none) (na : H a = none) (nL : a ≠ X.env.locals) (nC : ∀ x c, X.env.cells.lookup x = some c → c ≠ a) (nP : ∀ p ∈ X.pn ++ pins, p.1 ≠ a)
    (new : ObjOk X.prog X.w (upd H a o) s.heap a o) : Inv X pins σ (upd H a o) s := by
  have ne0 : ∀ b u, X.s_0.heap.get? b = some u → b ≠ a := fun b u e z => by rw [z, h0] at e; cases e
  refine ⟨I.ok, I.os, I.bare, ⟨I.base.keep, I.base.slot, fun b u e n hx => ?_, I.base.there, fun b xs e => ?_, fun b ob u e => ?_, fun b ps e => ?_⟩, I.loc, I.cell, ?_, fun x c e => ?_, fun p hp => ?_, I.hok.laidN (fun _ _ q => q) na new, I.len⟩
  · rw [upd_ne (ne0 b u e)]
    exact I.base.free b u e n hx
  · have q := I.base.tups b xs e
    rw [upd_ne (ne_of_none q na)]
    exact q
  · have q := I.base.frzs b ob u e
    rw [upd_ne (ne_of_none q na)]
    exact q
  · obtain ⟨m, q⟩ := I.base.tbls b ps e
    exact ⟨m, by rw [upd_ne (ne_of_none q na)]; exact q⟩
  · rw [upd_ne (Ne.symm nL)]
    exact I.free
  · rw [upd_ne (nC x c e)]
    exact I.freeC x c e
  · obtain ⟨e, n, r⟩ := I.pin p hp
    exact ⟨e, by rw [upd_ne (nP p hp)]; exact n, r⟩
theorem inv_suite0 (I : Inv X pins σ H s) (a : Addr) : Inv (X.suite a (X.pn ++ pins)) [] σ H s :=
  ⟨I.ok.suite _ _, I.os, I.bare, I.base, I.loc, I.cell, I.free, I.freeC, fun p hp => I.pin p (by rw [List.append_nil] at hp; exact hp), I.hok, I.len⟩
theorem inv_unsuite0 {a : Addr} {pn' : List (Addr × Obj)} (I : Inv (X.suite a (X.pn ++ pins)) pn' σ H s) (ok : X.Ok) : Inv X pins σ H s :=
  ⟨ok, I.os, I.bare, I.base, I.loc, I.cell, I.free, I.freeC, fun p hp => I.pin p (List.mem_append_left _ hp), I.hok, I.len⟩
end
/-- what the clause 'except x as n' wishes, the error kept in view -/
def wHold (K : PySem.W.Frag) (c : Value) (i : Nat) (ts : TS) (D : Ends) : WX := fun cls d σ H =>
  ∃ C, cls = .ref C ∧ PySem.W.exmOne K cls c = some true ∧ ∀ a, H a = none → ts { nx := fun σ' H' => D.nx (σ'.set i none) H', rt := D.rt, bk := fun σ' H' => D.bk (σ'.set i none) H', ct := fun σ' H' => D.ct (σ'.set i none) H' } (σ.set i (some (.ref a))) (upd H a (ExH C d a))
def tTry (K : PySem.W.Frag) (c : Value) (i : Nat) (tb : WX → TS) (ts : TS) : TS := fun D σ H => tb (wHold K c i ts D) D σ H
section
variable {X : Cx} {x n : Str} {c : Value} {i : Nat} {body suite : List Stmt} {b₀ : Stmt} {np pos pos' : Pos} {tb : WX → TS} {ts : TS}
theorem ps_try_hold (hs : X.stack = X.env :: X.outer) (hf : X.env.frame = some X.env.locals) (hex : X.ex = []) (hN : X.N.Nodup) (hi : X.N[i]? = some n) (hln : X.env.kindOf n = some .local) (hc : Names X x c)
    (hb : ∀ (W : WX) (pn : List (Addr × Obj)) (xe : Value → Shared → Prop), Takes (X.tr pn xe) W → PassesOwn (model X.prog X.w) X.A X.env xe → PSs (X.tr pn xe) body (tb W))
    (hsu : ∀ (a : Addr) (pn : List (Addr × Obj)), PSs (X.suite a pn) (b₀ :: suite) ts) :
    PS X (.Try body [.ExceptHandler (some (.Name x np)) (some n) (b₀ :: suite) pos'] [] [] pos) (tTry X.K c i tb ts) := by
  refine ⟨fun pins s σ H D I h => ?_⟩
  have ok := I.ok
  have hfr : X.A.frames = some (X.env :: X.outer) := by rw [ok.frames, hs]
  have hloc : Loc X.env.scope n := .inl hln
  refine wpAny_Try_except ?_
  refine wpAny_mono ((hb (wHold X.K c i ts D) (X.pn ++ pins) (fun e s₁ => wpAny (model X.prog X.w) X.A (noteFrame e X.env) (fun _ s₂ => wpAny (model X.prog X.w) X.A (setFlight e none) (fun _ s₃ =>
    wpAny (model X.prog X.w) X.A (handleBy e X.env [.ExceptHandler (some (.Name x np)) (some n) (b₀ :: suite) pos']) (SP X pins D) X.xe s₃) X.xe s₂) X.xe s₁) (fun u s' xx => ?_) PassesOwn.looking).run [] s σ H D (I.toTry _) h) (fun f s1 hsp => ?_) (fun e s1 he => he)
  · obtain ⟨a, B, sI, pins', σ', H', cls, d, rfl, J', nb, up, sky, na, os, ag, C, hC, hb1, hyes⟩ := xx
    subst hC
    have J : Inv X pins σ' H' sI := J'.ofTry ok
    have sky' : Sky B (X.env :: X.outer) a (Zc (.ref C) d) X.env.locals s'.heap := by rw [← hs]; exact sky
    show wpAny (model X.prog X.w) X.A (noteFrame (.ref a) X.env) _ _ _
    refine Sky.land Zc.steady hfr hf sky' fun h3 fl3 up3 => ?_
    have J3 : Inv X pins σ' H' { s' with heap := h3 } := J.landed nb fl3.1 (up.trans up3) os ag
    obtain ⟨oe3, vs3, he3, hz3, hd3⟩ := fl3.there
    have notFr : ∀ {h : Heap} {o : Obj} {vs : Array Value}, h.FunFrames B (X.env :: X.outer) → h.get? a = some o → o.data = .fields vs → a ∉ frs (X.env :: X.outer) := fun {h o vs} ff e dd hm => by
      obtain ⟨_, o', e', hnf⟩ := ff.mem hm
      rw [e] at e'; cases e'
      exact hnf _ dd
    have nfr := notFr fl3.2.2.1 he3 hd3
    have nL : a ≠ X.env.locals := fun z => nfr (List.mem_filterMap.mpr ⟨X.env, List.mem_cons_self, by rw [hf, z]⟩)
    have nF : a ∉ X.fs := fun hm => by
      obtain ⟨e, he, q⟩ := List.mem_filterMap.mp hm
      exact nfr (List.mem_filterMap.mpr ⟨e, List.mem_cons_of_mem _ he, q⟩)
    have hBa : B.get? a = none := fl3.2.1
    have nS : a ∉ frs X.stack := by rw [hs]; exact nfr
    have hsI : sI.heap.get? a = none := by
      cases e : sI.heap.get? a with
      | none => rfl
      | some o => have := nb a o e nS; rw [hBa] at this; cases this
    have hs0 : X.s_0.heap.get? a = none := by
      cases e : X.s_0.heap.get? a with
      | none => rfl
      | some o =>
        obtain ⟨o', q⟩ := J.base.there a o e (by rw [hex]; simp)
        rw [hsI] at q; cases q
    have S3 := J3.suite he3 hd3 na nL nF
    refine wpAny_handleBy_cons (codeAny_handlers_test ?_) (by intro q; cases q)
    have LT : PySem.W.Looks (model X.prog X.w) h3 (typeOf (.ref a)) (.ref C) := fun A Q E s k q => wpAny_typeOf_ref (k _ _ he3) (by rw [hz3.1]; exact q)
    have LM := PySem.W.exm_one (M := model X.prog X.w) (J3.kIn) LT hb1
    have test : ∀ {Q : Value → Shared → Prop} {E : Value → Shared → Prop}, Q c { s' with heap := h3 } → wpAny (model X.prog X.w) (X.A.mark (some (.ref a))) (eval (.Name x np) X.env) Q E { s' with heap := h3 } := fun {Q E} q => by
      obtain ⟨hg, hdbg, hm | ⟨hm, hv, hnn⟩⟩ := hc
      · exact ld_glob (X := X.suite a ((a, oe3) :: (X.pn ++ pins))) S3 hg hm q hdbg
      · exact ld_blt (X := X.suite a ((a, oe3) :: (X.pn ++ pins))) S3 hg hm hv q hnn hdbg
    refine test (LM.here ?_)
    refine codeAny_handlers_suite_as ?_
    refine HandSPX.lands_againZ fl3 fun h4 fl4 up4 => ?_
    have J4 : Inv X pins σ' H' { s' with heap := h4 } := J.landed nb fl4.1 ((up.trans up3).trans up4) os ag
    obtain ⟨oe4, vs4, he4, hz4, hd4⟩ := fl4.there
    have T4 : Inv X pins σ' (upd H' a (ExH C d a)) { s' with heap := h4 } := inv_track J4 hs0 na nL (fun y k e z => by
      obtain ⟨v, o, ho, hd⟩ := J4.cell y k e
      rw [z] at ho
      have ho' : h4.get? a = some o := ho
      rw [he4] at ho'
      cases ho'
      rw [hd4] at hd
      cases hd) (fun p hp z => by
      obtain ⟨e, _⟩ := J.pin p hp
      rw [z, hsI] at e
      cases e) (exH_ok he4 hz4 hd4)
    have S4 := inv_suite0 T4 a
    refine store_ok (X := X.suite a (X.pn ++ pins)) (v := .ref a) S4 hN hi hloc rfl (fun s5 S5 => ?_) (.inr hln)
    refine wpAny_mono ((hsu a (X.pn ++ pins)).run [] s5 _ _ _ S5 (hyes a na)) (fun f s6 hsp => ?_) (fun _ _ z => False.elim z)
    have end_ : ∀ {σ6 : L2.St} {H6 : Hp} {Q : Shared → Prop}, Inv (X.suite a (X.pn ++ pins)) [] σ6 H6 s6 → (∀ s7, Inv X pins (σ6.set i none) H6 s7 → Q s7) →
        wpAny (model X.prog X.w) X.A (do bindName X.env n .none; unbindBehindTheSuite X.env n pos') (fun _ s7 => Q s7) X.xe s6 := fun {σ6 H6 Q} S6 hq => gone_ok (inv_unsuite0 S6 ok) hN hi hln hq
    cases f with
    | next =>
      obtain ⟨σ6, H6, S6, q6⟩ := hsp
      exact end_ S6 fun s7 J7 => ⟨_, _, J7, q6⟩
    | brk =>
      obtain ⟨σ6, H6, S6, q6⟩ := hsp
      exact end_ S6 fun s7 J7 => ⟨_, _, J7, q6⟩
    | cont =>
      obtain ⟨σ6, H6, S6, q6⟩ := hsp
      exact end_ S6 fun s7 J7 => ⟨_, _, J7, q6⟩
    | ret u =>
      obtain ⟨v6, σ6, H6, S6, r6, q6⟩ := hsp
      exact end_ S6 fun s7 J7 => ⟨_, _, _, J7, r6, q6⟩
  · cases f with
    | next =>
      obtain ⟨σ', H', J', q⟩ := hsp
      exact wpAny_execs_nil ⟨σ', H', J'.ofTry ok, q⟩
    | brk =>
      obtain ⟨σ', H', J', q⟩ := hsp
      exact ⟨σ', H', J'.ofTry ok, q⟩
    | cont =>
      obtain ⟨σ', H', J', q⟩ := hsp
      exact ⟨σ', H', J'.ofTry ok, q⟩
    | ret u =>
      obtain ⟨v, σ', H', J', r, q⟩ := hsp
      exact ⟨v, σ', H', J'.ofTry ok, r, q⟩
end
/-! ### the classes' facts, by one look at the written part -/
def Er.cn : Er → Cn
  | .own c => c
  | .plan _ => .BadPlan
def allCn : List Cn := [.SowError, .BadBoard, .BadPit, .BadPits, .BadCount, .NoSeeds, .BadPlan, .Unlike, .TooLong, .TooMany, .BadLine, .BadRow, .BadYard, .NoDeed, .BadText]
theorem mem_allCn (c : Cn) : c ∈ allCn := by cases c <;> decide
/-- the module's name of the class is a class -/
def knB (K : PySem.W.Frag) (c : Cn) : Bool := He.eqO (PySem.W.nsIn K mainGlobals c.nm) (some (some (.ref (He.ga K c.nm))))
def isC (c d : Cn) : Bool := decide (d = c) || decide (d = .SowError)
def cfB (K : PySem.W.Frag) (c : Cn) : Bool := knB K c && (
  He.eqO (PySem.W.findIn K (.ref (He.ga K c.nm)) "__getattribute__") (some (some (.builtin "BaseException.__getattribute__"))) && (He.eqO (PySem.W.findIn K (.ref (He.ga K c.nm)) "__getattr__") (some none) &&
  (decide (PySem.W.subIn K (.ref (He.ga K c.nm)) (.type "BaseException") = some true) && (PySem.W.hasDictIn K (He.ga K c.nm) && (He.eqO (PySem.W.findIn K (.ref (He.ga K c.nm)) "__class__") (some (some (.builtin "object.__class__"))) &&
  (He.eqO (PySem.W.specialIn K (.builtin "object.__class__") "__get__") (some (some (.builtin "getset_descriptor.__get__"))) && (decide (PySem.W.takesIn K (.builtin "object.__class__") = some true) && (decide (PySem.W.mroIn K (He.ga K c.nm) (.type "object") = some true) &&
  (decide (PySem.W.kitOne K (.ref (He.ga K c.nm)) (.type "ValueError") = some true) && (allCn.all fun d => !knB K d || (decide (PySem.W.kitOne K (.ref (He.ga K c.nm)) (.ref (He.ga K d.nm)) = some (isC c d)) && decide (PySem.W.kitOne K (.type "NoneType") (.ref (He.ga K d.nm)) = some false))))))))))))
structure Cf (K : PySem.W.Frag) (c : Cn) : Prop where
  kb : knB K c = true
  ex : ExcC K (He.ga K c.nm)
  ve : PySem.W.kitOne K (.ref (He.ga K c.nm)) (.type "ValueError") = some true
  kt : ∀ d, knB K d = true → PySem.W.kitOne K (.ref (He.ga K c.nm)) (.ref (He.ga K d.nm)) = some (isC c d)
  kn : ∀ d, knB K d = true → PySem.W.kitOne K (.type "NoneType") (.ref (He.ga K d.nm)) = some false
theorem cf_of {K : PySem.W.Frag} {c : Cn} (h : cfB K c = true) : Cf K c := by
  unfold cfB at h
  simp only [Bool.and_eq_true] at h
  obtain ⟨h0, h1, h2, h3, h4, h5, h6, h7, h8, h9, h10⟩ := h
  have h11 : ∀ d, knB K d = true → PySem.W.kitOne K (.ref (He.ga K c.nm)) (.ref (He.ga K d.nm)) = some (isC c d) ∧ PySem.W.kitOne K (.type "NoneType") (.ref (He.ga K d.nm)) = some false := fun d hd => by
    have q := List.all_eq_true.mp h10 d (mem_allCn d)
    rw [hd] at q
    have q2 : (decide (PySem.W.kitOne K (.ref (He.ga K c.nm)) (.ref (He.ga K d.nm)) = some (isC c d)) && decide (PySem.W.kitOne K (.type "NoneType") (.ref (He.ga K d.nm)) = some false)) = true := q
    obtain ⟨a, b⟩ := Bool.and_eq_true_iff.mp q2
    exact ⟨of_decide_eq_true a, of_decide_eq_true b⟩
  exact ⟨h0, ⟨He.eqO_ok h1, He.eqO_ok h2, of_decide_eq_true h3, h4, He.eqO_ok h5, He.eqO_ok h6, of_decide_eq_true h7, of_decide_eq_true h8⟩, of_decide_eq_true h9, fun d hd => (h11 d hd).1, fun d hd => (h11 d hd).2⟩
/-- a caught error, as a value -/
instance : Rp Er where
  rep K H v e := ∃ a, v = .ref a ∧ Cf K e.cn ∧ match e with
    | .own c => H a = some (ExH (He.ga K c.nm) none a)
    | .plan n => ∃ dd m, H a = some (ExH (He.ga K "BadPlan") (some dd) a) ∧ H dd = some (.xd [("words", .str m), ("at", .int n)])
  mono {K H H' v e} s h := by
    obtain ⟨a, h1, h2, h3⟩ := h
    refine ⟨a, h1, h2, ?_⟩
    cases e with
    | own c => exact s a _ h3
    | plan n =>
      obtain ⟨dd, m, h4, h5⟩ := h3
      exact ⟨dd, m, s a _ h4, s dd _ h5⟩
instance : NN Er := ⟨fun ⟨_, h, _⟩ => by rw [h]; intro q; cases q⟩
/-! ### isinstance of what was caught, or None -/
inductive TyE (K : PySem.W.Frag) (H : Hp) : V → Value → Prop where
  | own {a C : Addr} (h : H a = some (ExH C none a)) (c : ExcC K C) : TyE K H (.ref a) (.ref C)
  | non : TyE K H .non (.type "NoneType")
def rIsX (K : PySem.W.Frag) : List V → Hp → VK → Prop := fun xs H Q => ∃ (x c : V) (t u : Value) (b : Bool), xs = [x, c] ∧ ClsV c u ∧ TyE K H x t ∧ PySem.W.kitOne K t u = some b ∧ Q (.bl b) H
def rIsXT (K : PySem.W.Frag) : List V → Hp → VK → Prop := fun xs H Q => ∃ (x : V) (tp : Addr) (cs : List V) (t : Value) (us : List Value) (b : Bool), xs = [x, .ref tp] ∧ H tp = some (.tup cs) ∧ Paired ClsV cs us ∧ TyE K H x t ∧ PySem.W.kitAny K t us = some b ∧ Q (.bl b) H
section
variable {X : Cx} {pins : List (Addr × Obj)} {σ : L2.St} {H : Hp} {s : Shared}
theorem inst_of {a C : Addr} (I : Inv X pins σ H s) (h : H a = some (ExH C none a)) : ∃ oe, PySem.W.InstAt s.heap a oe C none := by
  obtain ⟨⟨oe, vs, e, z, d⟩, _⟩ := (show ObjOk X.prog X.w H s.heap a (ExH C none a) from I.hok a _ h)
  refine ⟨oe, ?_⟩
  obtain ⟨oc, od, oda, osl⟩ := oe
  obtain ⟨h1, h2⟩ := z
  dsimp only at h1 h2 d
  subst h1 h2 d
  exact ⟨e, rfl, rfl, trivial⟩
theorem kit_ofE {x : V} {u t : Value} (I : Inv X pins σ H s) (rx : RelV x u) (ty : TyE X.K H x t) : ∃ P : Heap → Prop, PySem.W.KitX X.K u t P ∧ P s.heap ∧ u ≠ .builtin "__main__.__loader__#opaque" := by
  cases ty with
  | own h c =>
    rename_i a C
    cases rx
    obtain ⟨oe, J⟩ := inst_of I h
    exact ⟨fun h => PySem.W.InstAt h a oe C none, PySem.W.handS_kitx_exc c.hg c.hk c.hs c.hd c.ha c.hn c.ht c.hm, J, fun z => nomatch z⟩
  | non => cases (show u = Value.none from rx); exact ⟨_, PySem.W.kitx_none, True.intro, fun z => nomatch z⟩
theorem call_isX : CallR X (.builtin "isinstance") (rIsX X.K) := by
  intro pins s σ H xs us Q I r h
  obtain ⟨x, c, t, u, b, rfl, k, ty, e, q⟩ := h
  obtain ⟨u1, u2, rfl, r1, r2⟩ := vals2 r
  have e2 := k.eq r2
  subst e2
  obtain ⟨P, Z, p, hx⟩ := kit_ofE I r1 ty
  exact PySem.W.kia_one Z I.kIn p e hx fun tk => ⟨.bl b, H, I.tok tk, rfl, q⟩
theorem call_isXT : CallR X (.builtin "isinstance") (rIsXT X.K) := by
  intro pins s σ H xs us Q I r h
  obtain ⟨x, tp, cs, t, ws, b, rfl, hT, k, ty, e, q⟩ := h
  obtain ⟨u1, u2, rfl, r1, r2⟩ := vals2 r
  cases (show u2 = Value.ref tp from r2)
  obtain ⟨P, Z, p, hx⟩ := kit_ofE I r1 ty
  obtain ⟨_, its, rv, o, h1, h2, n, h3⟩ := (show ObjOk X.prog X.w H s.heap tp (.tup cs) from I.hok tp _ hT)
  have e3 := ClsV.all k rv
  subst e3
  obtain ⟨oc, od, dt, sl⟩ := o
  simp only at h2 h3
  subst h2 h3
  exact PySem.W.kia_tup Z I.kIn p h1 e hx fun tk => ⟨.bl b, H, I.tok tk, rfl, q⟩
/-! ### caught.called() -/
def tMethX (K : PySem.W.Frag) (C : Cn → Prop) (sp : Cn → Sp) (E : L2.St → XK) (ta : TE) : TE := fun σ H Q => ta σ H fun x H1 => ∃ a c, x = .ref a ∧ H1 a = some (ExH (He.ga K c.nm) none a) ∧ C c ∧ sp c [.ref a] H1 Q (E σ)
/-- each class of the kind has the method m -/
structure MthX (P : Program) (w : World) (K : PySem.W.Frag) (mg : Str → Option Value) (base : Heap) (CX : CXT) (k : Nat) (m : Str) (C : Cn → Prop) (sp : Cn → Sp) : Prop where
  hg : ∀ c, C c → PySem.W.findIn K (.ref (He.ga K c.nm)) "__getattribute__" = some (some (.builtin "BaseException.__getattribute__")) ∧ PySem.W.findIn K (.ref (He.ga K c.nm)) "__getattr__" = some none
  fn : ∀ c, C c → ∃ f fd ps, PySem.W.findIn K (.ref (He.ga K c.nm)) m = some (some (.ref f)) ∧ PySem.W.isFn K (.ref f) = true ∧ PySem.W.keepIn K (.ref f) = true ∧ Binds K fd ps [] ∧ FnOk P w K mg base CX k f fd ps (sp c)
theorem pe_methX {CX : CXT} {k : Nat} {C : Cn → Prop} {sp : Cn → Sp} {E : L2.St → XK} {m : Str} {o : Expr} {apos pos : Pos} {ta : TE} {pl : Sem Bool} (he : PE X o ta) (M : MthX X.prog X.w X.K X.mg X.base CX k m C sp) (hr : Room k X.A) (hx : ∀ σ, PassesAt CX X σ (E σ))
    (ht : eval (.Call (.Attribute o m apos) [] [] pos) X.env = (do
      let ov ← eval o X.env
      standAt apos.atName
      let (f, first) ← holding [ov] (getMethod ov m pl)
      callWith pos f first (backTo pos (starEach [] X.env)) (backToKw pos (keywordEach [] X.env))) := by rfl) :
    PE X (.Call (.Attribute o m apos) [] [] pos) (tMethX X.K C sp E ta) := by
  refine ⟨fun pins s σ H Q I h => ?_⟩
  refine PySem.W.methodCall_KW (pl := pl) (thn (he.run pins s σ H _ I h) fun u s1 ⟨x, H1, I1, rx, a, c, ex, ea, hC, q⟩ => ?_) ht
  subst ex
  obtain rfl : u = Value.ref a := rx
  obtain ⟨oe, J⟩ := inst_of I1 ea
  obtain ⟨h1, h2⟩ := M.hg c hC
  obtain ⟨f, fd, ps, h3, h4, h5, h6, F⟩ := M.fn c hC
  obtain ⟨m', fr⟩ := I1.fr
  refine PySem.W.method_exc0 fr I1.ok.mod.kin J h1 h2 h3 h4 ?_
  exact PySem.W.callWith_K0 (first := [.ref a]) I1.kIn h5 (run_fnS (us := [.ref a]) (vs := [.ref a]) F hr h6 (hx σ) I1 (.cons rfl .nil) q)
theorem pget_list : PGet X (rIxL X.K) := by
  intro pins s σ H x y v u Q I rx ry h
  obtain ⟨p, xs, i, z, rfl, rfl, hq, he, q⟩ := h
  cases rx
  obtain ⟨t, rfl⟩ := ry
  obtain ⟨its, r, pl, hz⟩ := I.list hq
  obtain ⟨j, h1, h2, h3, h4, h5⟩ := atI_get he
  obtain ⟨w, ew, rw'⟩ := r.get h2
  have hl := r.length
  have hn := line63
  have fin : EP X pins σ Q w s := ⟨z, H, I, rw', q⟩
  by_cases h0 : 0 ≤ i
  · have hj : i.toNat = j := by
      rw [seqIndex_of h0 h5] at h1
      exact Option.some.inj h1
    exact wpAny_getItem_list pl.isList h0 (by omega) (by rw [hj]; simpa using ew) fin
  · have hj : (i + (its.toArray.size : Int)).toNat = j := by
      rw [seqIndex_neg (by omega) h4] at h1
      rw [List.size_toArray, ← hl]
      exact Option.some.inj h1
    exact wpAny_getItem_list_neg pl.isList (by omega) (by rw [List.size_toArray] <;> omega) (by omega) (by rw [hj]; simpa using ew) fin
/-- in a comprehension's block nothing is raised -/
theorem passF (σ : L2.St) : PassesAt (L2.CX X.prog X.w) X σ (fun _ _ _ => False) := fun _ _ _ _ _ _ h => by
  obtain ⟨_, _, _, _, _, _, _, _, _, _, _, _, z⟩ := h
  exact z.elim
end
/-! ### the same over what is known -/
section
variable {K : PySem.W.Frag} {E : XK} {σ : L2.St} {H0 F H F' H' : Hp} {ta tb te tl to ti : TE} {t u : TT} {tu tw tz : TS} {α β γ δ ρ S : Type} [Rp α] [Rp β] [Rp γ] [Rp δ] [Rp ρ] {D : Ends} {Ex : L2.St → XK}
def isXR (c : Cn) : Option Er → R Bool
  | none => .ok false
  | some (.own d) => .ok (isC d c)
  | some (.plan _) => .bad
theorem g_isX {m : R (Option Er)} {c : Cn} (h : Gr K E ta σ F H m) (hF : Same F H) (hk : knB K c = true) (h0 : Cf K c) : Gr K E (tCB (rIsX K) (tCons ta (tCons (tC (.ref (He.ga K c.nm))) tNil))) σ F H (R.bd m (isXR c)) := fun H1 e Q hq =>
  gr_seq h e hq fun o v H2 e2 r hq2 => by
    cases o with
    | none =>
      have r' : v = .non := r
      subst r'
      exact ⟨_, _, _, _, false, rfl, .own _, .non, h0.kn c hk, hq2 _ H2 (Same.refl _) rfl⟩
    | some er =>
      cases er with
      | plan n => exact hq2.elim
      | own d =>
        obtain ⟨_, a, rfl, cf, ha⟩ := r
        exact ⟨_, _, _, _, _, rfl, .own _, .own (mix_same hF (e.trans e2) a _ ha) cf.ex, cf.kt c hk, hq2 _ H2 (Same.refl _) rfl⟩
def isVR : Option Er → R Bool
  | none => .ok false
  | some (.own d) => .ok true
  | some (.plan _) => .bad
theorem g_isV {m : R (Option Er)} (h : Gr K E ta σ F H m) (hF : Same F H) : Gr K E (tCB (rIsX K) (tCons ta (tCons (tC (.ty "ValueError")) tNil))) σ F H (R.bd m isVR) := fun H1 e Q hq =>
  gr_seq h e hq fun o v H2 e2 r hq2 => by
    cases o with
    | none =>
      have r' : v = .non := r
      subst r'
      exact ⟨_, _, _, _, false, rfl, .ty _, .non, kit_ty (by decide +kernel), hq2 _ H2 (Same.refl _) rfl⟩
    | some er =>
      cases er with
      | plan n => exact hq2.elim
      | own d =>
        obtain ⟨_, a, rfl, cf, ha⟩ := r
        exact ⟨_, _, _, _, _, rfl, .ty _, .own (mix_same hF (e.trans e2) a _ ha) cf.ex, cf.ve, hq2 _ H2 (Same.refl _) rfl⟩
def tClsL (K : PySem.W.Frag) : List Cn → TA
  | [] => tNil
  | c :: r => tCons (tC (.ref (He.ga K c.nm))) (tClsL K r)
theorem tClsL_ok {cs : List Cn} {Q : List V → Hp → Prop} (h : Q (cs.map fun c => V.ref (He.ga K c.nm)) H) : tClsL K cs σ H Q := by
  induction cs generalizing Q with
  | nil => exact h
  | cons c r ih => exact ih (Q := fun xs H' => Q (V.ref (He.ga K c.nm) :: xs) H') h
def isXTR (cs : List Cn) : Option Er → R Bool
  | none => .ok false
  | some (.own d) => .ok (cs.any fun c => isC d c)
  | some (.plan _) => .bad
theorem kitAny_none {cs : List Cn} (hk : ∀ c ∈ cs, knB K c = true) (h0 : ∀ c ∈ cs, Cf K c) : PySem.W.kitAny K (.type "NoneType") (cs.map fun c => Value.ref (He.ga K c.nm)) = some false := by
  induction cs with
  | nil => rfl
  | cons c r ih => exact kitAny_cons ((h0 c List.mem_cons_self).kn c (hk c List.mem_cons_self)) (fun _ => ih (fun d hd => hk d (List.mem_cons_of_mem _ hd)) fun d hd => h0 d (List.mem_cons_of_mem _ hd)) (fun z => z)
theorem kitAny_own {cs : List Cn} {d : Cn} (hk : ∀ c ∈ cs, knB K c = true) (hd : Cf K d) : PySem.W.kitAny K (.ref (He.ga K d.nm)) (cs.map fun c => Value.ref (He.ga K c.nm)) = some (cs.any fun c => isC d c) := by
  induction cs with
  | nil => rfl
  | cons c r ih =>
    refine kitAny_cons (hd.kt c (hk c List.mem_cons_self)) (fun z => ?_) (fun z => ?_)
    · rw [List.any_cons, z, Bool.false_or]
      exact ih fun d hd => hk d (List.mem_cons_of_mem _ hd)
    · rw [List.any_cons, z, Bool.true_or]
theorem clsV_all (cs : List Cn) : Paired ClsV (cs.map fun c => V.ref (He.ga K c.nm)) (cs.map fun c => Value.ref (He.ga K c.nm)) := by
  induction cs with
  | nil => exact .nil
  | cons c r ih => exact .cons (.own _) ih
theorem g_isXT {m : R (Option Er)} (cs : List Cn) (h : Gr K E ta σ F H m) (hF : Same F H) (hk : ∀ c ∈ cs, knB K c = true) (h0 : ∀ c ∈ cs, Cf K c) (hl : cs.length ≤ 100) : Gr K E (tCB (rIsXT K) (tCons ta (tCons (tTup (tClsL K cs)) tNil))) σ F H (R.bd m (isXTR cs)) := fun H1 e Q hq =>
  gr_seq h e hq fun o v H2 e2 r hq2 => by
    refine tClsL_ok ⟨by rw [List.length_map]; exact Nat.le_trans hl (by decide), fun p hp => ?_⟩
    cases o with
    | none =>
      have r' : v = .non := r
      subst r'
      exact ⟨_, p, _, _, _, false, rfl, upd_same, clsV_all cs, .non, kitAny_none hk h0, hq2 _ _ (same_upd hp) rfl⟩
    | some er =>
      cases er with
      | plan n => exact hq2.elim
      | own d =>
        obtain ⟨_, a, rfl, cf, ha⟩ := r
        exact ⟨_, p, _, _, _, _, rfl, upd_same, clsV_all cs, .own (same_upd hp _ _ (mix_same hF (e.trans e2) a _ ha)) cf.ex, kitAny_own hk cf, hq2 _ _ (same_upd hp) rfl⟩
/-- the name that called() tells -/
def spCalled (c : Cn) : Sp := fun vs H Q _ => (∃ v, vs = [v]) ∧ Q (.str c.nm) H
def calledR : Option Er → R Str
  | some (.own d) => .ok d.nm
  | _ => .bad
theorem g_called {m : R (Option Er)} {C : Cn → Prop} (h : Gr K E ta σ F H m) (hF : Same F H) (hC : ∀ c, Cf K c → C c) (hE : Ex σ = E := by rfl) : Gr K E (tMethX K C spCalled Ex ta) σ F H (R.bd m calledR) := by
  subst hE
  exact fun H1 e Q hq =>
  gr_seq h e hq fun o v H2 e2 r hq2 => by
    cases o with
    | none => exact hq2.elim
    | some er =>
      cases er with
      | plan n => exact hq2.elim
      | own d =>
        obtain ⟨_, a, rfl, cf, ha⟩ := r
        exact ⟨a, d, rfl, mix_same hF (e.trans e2) a _ ha, hC d cf, ⟨_, rfl⟩, hq2 _ H2 (Same.refl _) rfl⟩
/-! ### try: .. except SowError as e: .. -/
def catchR {S : Type} (cs : List Cn) (m : R S) (hand : Er → R S) : R S := match m with
  | .ok s => .ok s
  | .er e => if e.cn ∈ cs then hand e else .bad
  | .bad => .bad
theorem s_try {cs : List Cn} {cv : Value} {i : Nat} {ts : TS} {tb : WX → TS} {m : R S} {hand : Er → R S} {k : S → R β} {kk : β → Prop} (hF : Same F H) (e0 : Same H0 H) (hQ : Wp (R.bd (catchR cs m hand) k) kk (EE K E H0))
    (hx : ∀ c ∈ cs, PySem.W.exmOne K (.ref (He.ga K c.nm)) cv = some true) (hcf : ∀ c ∈ cs, Cf K c)
    (hh : ∀ er a F' H', Nx0 F H F' H' → Same H0 H' → Rp.rep K F' (.ref a) (er : Er) → Wp (R.bd (hand er) k) kk (EE K E H0) →
      ts { nx := fun σ' H' => D.nx (σ'.set i none) H', rt := D.rt, bk := fun σ' H' => D.bk (σ'.set i none) H', ct := fun σ' H' => D.ct (σ'.set i none) H' } (σ.set i (some (.ref a))) H')
    (hb : Wp m (fun s => Wp (k s) kk (EE K E H0)) (EE K (WE (wHold K cv i ts D) σ) H) → tb (wHold K cv i ts D) D σ H) : tb (wHold K cv i ts D) D σ H := by
  refine hb ?_
  rw [wp_bd] at hQ
  cases m with
  | ok s => exact hQ
  | bad => exact hQ.elim
  | er er =>
    have hQ2 : Wp (if er.cn ∈ cs then hand er else .bad) (fun a => Wp (k a) kk (EE K E H0)) (EE K E H0) := hQ
    split at hQ2
    · rename_i hc
      have hq3 : Wp (R.bd (hand er) k) kk (EE K E H0) := by rw [wp_bd]; exact hQ2
      cases er with
      | own c =>
        intro H' s
        refine ⟨_, rfl, hx _ hc, fun a ha => ?_⟩
        have hn : H a = none := Same.free s ha
        exact hh (.own c) a _ _ (Nx.mk' hF (s.trans (same_upd ha))) (e0.trans (s.trans (same_upd ha))) ⟨a, rfl, hcf _ hc, by show mix F H _ a = _; rw [mix_new hn]; exact upd_same⟩ hq3
      | plan n =>
        intro d H' s hd ⟨m, hm⟩
        refine ⟨_, rfl, hx _ hc, fun a ha => ?_⟩
        have hn : H a = none := Same.free s ha
        exact hh (.plan n) a _ _ (Nx.mk' hF (s.trans (same_upd ha))) (e0.trans (s.trans (same_upd ha))) ⟨a, rfl, hcf _ hc, d, m, by show mix F H _ a = _; rw [mix_new hn]; exact upd_same, by rw [mix_new hd]; exact same_upd ha _ _ hm⟩ hq3
    · exact hQ2.elim
/-! ### lists of ints (bools, texts): told anew, wherever they stand -/
theorem g_anew [Sc α] {f : List α → List α} (hf : ∀ (p : Addr) (xs : List α) H' (G : Hp), G p = H' p → Rp.rep K H' (.ref p) xs → Rp.rep K G (.ref p) xs) : True := trivial
theorem reps_at [Sc α] {G H' : Hp} {p : Addr} {vs : List V} {xs : List α} (h : G p = some (.lst vs)) (hv : All2 (Rp.rep K H') vs xs) : Rp.rep K G (.ref p) xs := ⟨p, vs, rfl, h, hv.mono fun _ _ x => Sc.is.mpr (Sc.is.mp x)⟩
theorem g_listS [Sc α] {m : R (List α)} (h : Gr K E ta σ H H m) : Gr K E (tCB (rListOf K) (tCons ta tNil)) σ F H m := fun H1 e Q hq =>
  h H1 e _ (wp_mono hq (fun xs _ k v H2 e2 r => by
    obtain ⟨p, vs, rfl, hp, hv⟩ := r
    exact ⟨p, vs, rfl, .inl (SqL.of (mix_same (Same.refl _) (e.trans e2) p _ hp)), fun l hl => k _ _ (e2.trans (same_upd hl)) (reps_at (by rw [mix_new (Same.free (e.trans e2) hl)]; exact upd_same) hv)⟩) fun _ _ z => z)
theorem g_listTS [Sc α] {m : R (Tu α)} (h : Gr K E ta σ H H m) : Gr K E (tCB (rListOf K) (tCons ta tNil)) σ F H (R.bd m fun t => .ok t.l) := fun H1 e Q hq =>
  h H1 e _ (by
    rw [wp_bd] at hq
    refine wp_mono hq (fun xs _ k v H2 e2 r => ?_) fun _ _ z => z
    obtain ⟨p, vs, rfl, hp, hv⟩ := r
    exact ⟨p, vs, rfl, .inr (SqT.of (mix_same (Same.refl _) (e.trans e2) p _ hp)), fun l hl => k _ _ (e2.trans (same_upd hl)) (reps_at (by rw [mix_new (Same.free (e.trans e2) hl)]; exact upd_same) hv)⟩)
theorem g_listSS {m : R Scr} (h : Gr K E ta σ H H m) : Gr K E (tCB (rListOf K) (tCons ta tNil)) σ F H (R.bd m fun t => .ok t.l) := fun H1 e Q hq =>
  h H1 e _ (by
    rw [wp_bd] at hq
    refine wp_mono hq (fun xs _ k v H2 e2 r => ?_) fun _ _ z => z
    obtain ⟨p, rfl, hp⟩ := r
    exact ⟨p, _, rfl, .inl ((mix_same (Same.refl _) (e.trans e2)).seq hp), fun l hl => k _ _ (e2.trans (same_upd hl)) (reps_at (K := K) (H' := H) (by rw [mix_new (Same.free (e.trans e2) hl)]; exact upd_same) (ints_rep _))⟩)
theorem g_tupleS [Sc α] {m : R (List α)} (h : Gr K E ta σ H H m) : Gr K E (tCB (rTupOf K) (tCons ta tNil)) σ F H (R.bd m fun l => .ok (Tu.mk l)) := fun H1 e Q hq =>
  h H1 e _ (by
    rw [wp_bd] at hq
    refine wp_mono hq (fun xs _ k v H2 e2 r => ?_) fun _ _ z => z
    obtain ⟨p, vs, rfl, hp, hv⟩ := r
    exact ⟨p, vs, rfl, .inl ⟨SqL.of (mix_same (Same.refl _) (e.trans e2) p _ hp), fun l hl => k _ _ (e2.trans (same_upd hl)) ⟨l, vs, rfl, by rw [mix_new (Same.free (e.trans e2) hl)]; exact upd_same, hv.mono fun _ _ x => Sc.is.mpr (Sc.is.mp x)⟩⟩⟩)
theorem gro_arg {mo : R (Option Int)} {to : TO} {f : Option Int → R ρ} {Q : VK} {H1 : Hp} (ha : GrO K E to σ H mo) (e : Same H H1) (hq : Wp (R.bd mo f) (fun b => ∀ v H2, Same H1 H2 → Rp.rep K (mix F H H2) v b → Q v H2) (EE K E H1))
    {Q' : Option Int → Hp → Prop} (h : ∀ a H2, Same H1 H2 → Wp (f a) (fun b => ∀ v H3, Same H2 H3 → Rp.rep K (mix F H H3) v b → Q v H3) (EE K E H2) → Q' a H2) : to σ H1 Q' := gro_seq ha e hq h
theorem g_cutS [Sc α] {tlo thi : TO} {m : R (List α)} {mlo mhi : R (Option Int)} (h : Gr K E ta σ H H m) (hlo : GrO K E tlo σ H mlo) (hhi : GrO K E thi σ H mhi) :
    Gr K E (tSl (rSlL K) ta tlo thi) σ F H (R.bd m fun xs => R.bd mlo fun lo => R.bd mhi fun hi => .ok (cut xs lo hi)) := fun H1 e Q hq =>
  gr_arg h e hq fun xs v H2 e2 r hq2 => gro_seq hlo (e.trans e2) hq2 fun lo H3 e3 hq3 => gro_seq hhi (e.trans (e2.trans e3)) hq3 fun hi H4 e4 hq4 => by
    obtain ⟨p, vs, rfl, hp, hv⟩ := r
    exact ⟨p, vs, rfl, SqL.of (e4 p _ (e3 p _ hp)), fun l hl => hq4 _ _ (same_upd hl) (reps_at (by rw [mix_new (Same.free (e.trans (e2.trans (e3.trans e4))) hl)]; exact upd_same) (all2_cut hv))⟩
theorem atI_cutmap {ns : List Int} {lo hi : Option Int} : cutV (ns.map V.int) lo hi = (cut ns lo hi).map V.int := by
  unfold cutV cut
  rw [List.length_map, List.map_take, List.map_drop]
theorem g_cutSS {tlo thi : TO} {m : R Scr} {mlo mhi : R (Option Int)} (h : Gr K E ta σ H H m) (hlo : GrO K E tlo σ H mlo) (hhi : GrO K E thi σ H mhi) :
    Gr K E (tSl (rSlL K) ta tlo thi) σ F H (R.bd m fun xs => R.bd mlo fun lo => R.bd mhi fun hi => .ok (cut xs.l lo hi)) := fun H1 e Q hq =>
  gr_arg h e hq fun xs v H2 e2 r hq2 => gro_seq hlo (e.trans e2) hq2 fun lo H3 e3 hq3 => gro_seq hhi (e.trans (e2.trans e3)) hq3 fun hi H4 e4 hq4 => by
    obtain ⟨p, rfl, hp⟩ := r
    refine ⟨p, _, rfl, (e3.trans e4).seq hp, fun l hl => hq4 _ _ (same_upd hl) ?_⟩
    rw [atI_cutmap]
    exact reps_at (K := K) (H' := H) (by rw [mix_new (Same.free (e.trans (e2.trans (e3.trans e4))) hl)]; exact upd_same) (ints_rep _)
theorem g_catS [Sc α] {ma mb : R (List α)} (ha : Gr K E ta σ H H ma) (hb : Gr K E tb σ H H mb) : Gr K E (tOp rCat ta tb) σ F H (R.bd ma fun a => R.bd mb fun b => gd (a.length + b.length ≤ lim) (.ok (a ++ b))) := fun H1 e Q hq =>
  gr_arg ha e hq fun a v H2 e2 r hq2 => gr_arg hb (e.trans e2) hq2 fun b w H3 e3 r3 hq3 => by
    obtain ⟨p, vs, rfl, hp, hv⟩ := r
    obtain ⟨q, ws, rfl, hq', hw⟩ := r3
    unfold gd at hq3
    split at hq3
    · rename_i c
      refine ⟨p, q, vs, ws, rfl, rfl, e3 p _ hp, hq', lim_line (by rw [hv.length, hw.length]; exact c), fun l hl => hq3 _ _ (same_upd hl) (reps_at (K := K) (H' := H3) (by rw [mix_new (Same.free (e.trans (e2.trans e3)) hl)]; exact upd_same) ((hv.mono fun _ _ x => Rp.mono e3 x).append hw))⟩
    · exact hq3.elim
theorem g_repS [Sc α] {ma : R (List α)} {mb : R Int} (ha : Gr K E ta σ H H ma) (hb : Gr K E tb σ H H mb) : Gr K E (tOp rRep ta tb) σ F H (R.bd ma fun a => R.bd mb fun b => repR a b) := fun H1 e Q hq =>
  gr_arg ha e hq fun a v H2 e2 r hq2 => gr_arg hb (e.trans e2) hq2 fun b w H3 e3 r3 hq3 => by
    obtain ⟨p, vs, rfl, hp, hv⟩ := r
    have r3' : w = .int b := r3
    subst r3'
    unfold repR gd at hq3
    split at hq3
    · rename_i c
      refine ⟨p, b, vs, rfl, rfl, e3 p _ hp, by omega, by omega, lim_line (by rw [hv.length]; exact c.2.2), fun l hl => hq3 _ _ (same_upd hl) (reps_at (K := K) (H' := H2) (by rw [mix_new (Same.free (e.trans (e2.trans e3)) hl)]; exact upd_same) (all2_rep hv _))⟩
    · exact hq3.elim
end
end G

set_option Elab.async false
set_option linter.all false
set_option maxRecDepth 100000
set_option maxHeartbeats 4000000
/-! G: small words for the walks; the head. -/
namespace G
open PySem PySem.Spec PyProof.Rows L2
theorem wp_bdi {α β : Type} {m : R α} {f : α → R β} {k : β → Prop} {e : Er → Prop} (h : Wp (R.bd m f) k e) : Wp m (fun a => Wp (f a) k e) e := by rw [wp_bd] at h; exact h
def flk {S ρ β : Type} (go : S → R β) (ret : ρ → R β) : Fl S ρ → R β
  | .go s => go s
  | .brk s => go s
  | .ret r => ret r
instance (priority := low) {S ρ : Type} : Rp (Fl S ρ) := ⟨fun _ _ _ _ => False, fun _ h => h⟩
theorem flk_go {S ρ β : Type} {go : S → R β} {ret : ρ → R β} {s : S} {k : β → Prop} {e : Er → Prop} (h : Wp (flk go ret (.go s)) k e) : Wp (go s) k e := h
theorem nil_same {H : Hp} : Same nil0 H := fun _ _ h => by cases h
theorem mix_ff {F F' H H' : Hp} (e : Same F F') : Same (mix F H H') (mix F' H H') := fun b o h => by
  cases q : H b with
  | some u =>
    cases z : tupB (some u) with
    | true => rw [mix_tup q z] at h ⊢; exact h
    | false => rw [mix_old q z] at h ⊢; exact e b o h
  | none => rw [mix_new q] at h ⊢; exact h
section
variable {K : PySem.W.Frag} {E : XK} {σ : L2.St} {H0 F H F' H' F1 H1 F2 H2 : Hp} {D : Ends} {tb : TS} {P P2 : Addr → Prop}
theorem Nx.refl' (hF : Same F H) : Nx P F H F H := ⟨Same.refl _, fun _ _ _ h => h, hF, fun _ _ _ _ n => n, fun b o h => ⟨o, h, rfl⟩⟩
theorem Nx.step (a : Nx P F H F1 H1) (b : Nx P2 F1 H1 F2 H2) (h : ∀ q, P2 q → P q ∨ H q = none) : Nx P F H F2 H2 :=
  ⟨a.ff.trans b.ff, fun x o n q => b.hh x o (fun z => by
    rcases h x z with y | y
    · exact n y
    · rw [y] at q; cases q) (a.hh x o n q), b.fh, fun x o z q n => by
    obtain ⟨o', q', t⟩ := a.th x o q
    exact b.own x o' (t.trans z) q' (a.own x o z q n), fun x o q => by
    obtain ⟨o', q', t⟩ := a.th x o q
    obtain ⟨o2, q2, t2⟩ := b.th x o' q'
    exact ⟨o2, q2, t2.trans t⟩⟩
theorem Nx.step0 (a : Nx P F H F1 H1) (b : Nx0 F1 H1 F2 H2) : Nx P F H F2 H2 := a.step b fun _ z => z.elim
/-- the frozen heap grows by a list of ours at p -/
theorem Nx.stepF {p : Addr} (a : Nx P F H F1 H1) (hf : Same F1 F2) (h2 : Same F2 H1) (hn : ∀ q, q ≠ p → F2 q = F1 q) (hp : H p = none) : Nx P F H F2 H1 :=
  ⟨a.ff.trans hf, a.hh, h2, fun x o z q n => by
    have : x ≠ p := fun z => by rw [z, hp] at q; cases q
    rw [hn x this]
    exact a.own x o z q n, a.th⟩
theorem none_of_new {p : Addr} (a : Nx P F H F1 H1) (nw : ∀ q, (∃ u, H1 q = some u) → q ≠ p) : H p = none := by
  cases q : H p with
  | none => rfl
  | some u =>
    obtain ⟨o, h, _⟩ := a.th p u q
    exact absurd rfl (nw p ⟨o, h⟩)
theorem gn {i : Nat} {v : V} (h : tb D (σ.set i (some v)) H) : gName i v σ H (fun σ2 H2 => tb D σ2 H2) := h
theorem gp {α β : Type} [Rp α] [Rp β] {i j : Nat} {v : V} {a : α × β} {G : Hp} (r : Rp.rep K G v a) (hG : Same G H) (h : ∀ x y, Rp.rep K G x a.1 → Rp.rep K G y a.2 → tb D ((σ.set i (some x)).set j (some y)) H) :
    gTup K 2 (gCons (gName i) (gCons (gName j) gNil)) v σ H (fun σ2 H2 => tb D σ2 H2) := by
  obtain ⟨p, x, y, rfl, hp, r1, r2⟩ := r
  exact ⟨p, _, rfl, SqT.of (hG p _ hp), rfl, x, _, rfl, y, _, rfl, rfl, h x y r1 r2⟩
/-- the pair's, for a comprehension's target -/
theorem gpc {α β : Type} [Rp α] [Rp β] {i j : Nat} {v : V} {a : α × β} {G : Hp} {τ : L2.St} (r : Rp.rep K G v a) (hG : Same G H) : ∃ x y, Rp.rep K G x a.1 ∧ Rp.rep K G y a.2 ∧ ∀ Q : L2.St → Hp → Prop, Q ((τ.set i (some x)).set j (some y)) H → gTup K 2 (gCons (gName i) (gCons (gName j) gNil)) v τ H Q := by
  obtain ⟨p, x, y, rfl, hp, r1, r2⟩ := r
  exact ⟨x, y, r1, r2, fun Q q => ⟨p, _, rfl, SqT.of (hG p _ hp), rfl, x, _, rfl, y, _, rfl, rfl, q⟩⟩
end
/-! ### the head: facts by names and one more look -/
def obsG (fa : List He.Fa) (fn : List He.DefD) (bx : PySem.W.Frag → Bool) (K : PySem.W.Frag) : He.AlD := (((fa.all fun f => f.ok K) && fn.all fun d => d.ok K) && bx K, fn.map fun d => He.fnW K d.at_)
def SaysG (fa : List He.Fa) (fn : List He.DefD) (bx : PySem.W.Frag → Bool) (K : PySem.W.Frag) : Prop := obsG fa fn bx K = He.valD fn
def obsGG (n : Nat) (fa : List He.Fa) (fn : List He.DefD) (bx : PySem.W.Frag → Bool) (g : Addr → Option Obj) : He.AlD := obsG fa fn bx (He.frG g (He.asD g n))
def hookG (n : Nat) (fa : List He.Fa) (fn : List He.DefD) (bx : PySem.W.Frag → Bool) : PySem.W.Hook where
  α := He.AlD
  obs := fun s => obsGG n fa fn bx s.heap.get?
  val := fun _ => He.valD fn
  says := fun _ h => ∃ K : PySem.W.Frag, K.In h ∧ SaysG fa fn bx K
  of := fun _ _ e => ⟨_, He.frG_in, e⟩
  keeps := fun _ _ _ ⟨K, hK, c⟩ k => ⟨K, PySem.W.Frag.In.keeps hK k, c⟩
theorem obsGG_eq {n : Nat} {fa : List He.Fa} {fn : List He.DefD} {bx : PySem.W.Frag → Bool} {g : Addr → Option Obj} {s : Shared} (h : ∀ a, g a = s.heap.get? a) : obsGG n fa fn bx g = (hookG n fa fn bx).obs s := by
  have e : g = s.heap.get? := funext h
  rw [e] <;> rfl
section
variable {fa : List He.Fa} {fn : List He.DefD} {bx : PySem.W.Frag → Bool} {K : PySem.W.Frag}
theorem SaysG.d (c : SaysG fa fn bx K) : He.SaysD fa fn K := by
  have h1 : (((fa.all fun f => f.ok K) && fn.all fun d => d.ok K) && bx K) = true := congrArg (fun z : He.AlD => z.1) c
  have h2 : fn.map (fun d => He.fnW K d.at_) = fn.map He.DefD.val := congrArg (fun z : He.AlD => z.2) c
  have h3 := (He.ba h1).1
  show (((fa.all fun f => f.ok K) && fn.all fun d => d.ok K), fn.map fun d => He.fnW K d.at_) = (true, fn.map He.DefD.val)
  rw [h3, h2]
theorem SaysG.b (c : SaysG fa fn bx K) : bx K = true := by
  have h1 : (((fa.all fun f => f.ok K) && fn.all fun d => d.ok K) && bx K) = true := congrArg (fun z : He.AlD => z.1) c
  exact (He.ba h1).2
theorem exc_ok {x : Str} (c : (He.Fa.exc x).ok K = true) : PySem.W.excIn K (He.ga K x) He.veBase "ValueError.__new__" = true ∧ PySem.W.keepIn K (.ref (He.ga K x)) = true ∧ PySem.W.subIn K (.ref (He.ga K x)) (.type "BaseException") = some true ∧ PySem.W.typeIn K (.ref (He.ga K x)) = some (.type "type") := by
  have c2 : (PySem.W.excIn K (He.ga K x) He.veBase "ValueError.__new__" && (PySem.W.keepIn K (.ref (He.ga K x)) && (decide (PySem.W.subIn K (.ref (He.ga K x)) (.type "BaseException") = some true) && decide (PySem.W.typeIn K (.ref (He.ga K x)) = some (.type "type"))))) = true := c
  obtain ⟨h1, h2⟩ := He.ba c2
  obtain ⟨h3, h4⟩ := He.ba h2
  obtain ⟨h5, h6⟩ := He.ba h4
  exact ⟨h1, h3, of_decide_eq_true h5, of_decide_eq_true h6⟩
theorem kn_ok {c : Cn} (h : (He.Fa.glo c.nm).ok K = true) : knB K c = true := h
theorem exm_ok {x y : Str} {b : Bool} (c : (He.Fa.exm x y b).ok K = true) : PySem.W.exmOne K (.ref (He.ga K x)) (.ref (He.ga K y)) = some b := of_decide_eq_true c
theorem meth_ok {x m : Str} (c : (He.Fa.meth x m).ok K = true) : PySem.W.findIn K (.ref (He.ga K x)) m = some (some (.ref (He.ma K (He.ga K x) m))) ∧ PySem.W.isFn K (.ref (He.ma K (He.ga K x) m)) = true ∧ PySem.W.keepIn K (.ref (He.ma K (He.ga K x) m)) = true := by
  have c2 : (He.eqO (PySem.W.findIn K (.ref (He.ga K x)) m) (some (some (.ref (He.ma K (He.ga K x) m)))) && (PySem.W.isFn K (.ref (He.ma K (He.ga K x) m)) && PySem.W.keepIn K (.ref (He.ma K (He.ga K x) m)))) = true := c
  obtain ⟨h1, h2⟩ := He.ba c2
  obtain ⟨h3, h4⟩ := He.ba h2
  exact ⟨He.eqO_ok h1, h3, h4⟩
end
theorem walk_ofW {l : PySem.W.OpenLaw} {n k : Nat} {q : Program} {loose : List Str} {XP : (Str → Option Value) → Heap → Prop} {YP : World → Heap → Prop} {d : DefRec} {CX : World → CXT} {x : Str}
    (hn : l.most = some n) (hn2 : n ≤ sizeLine) (hdf : d.params.defaults = []) (hr : Room k callerA)
    (F : ∀ (w : World) (mg : Str → Option Value) (fa : Addr) (h : Heap), YP w h → h.Ns mainGlobals mg → mg d.name = some (.ref fa) →
      ∃ (K : PySem.W.Frag) (fd : FuncData) (sp : Sp), K.In h ∧ (∀ (s : Shared) (u : Value), BindsTo s fd ⟨[u], []⟩ [(x, u)]) ∧
        (∀ (H : Hp) (a : Addr) (ns : List Int), ns.length ≤ n → (∀ k ∈ ns, Builtin.Int.intBits k ≤ 1048576) → SqL K H a (ns.map V.int) → sp [.ref a] H (fun v _ => v = .bl true) fun _ _ _ => False) ∧
        ∀ base : Heap, K.In base → base.Ns mainGlobals mg → FnOk l.prog w K mg base (CX w) k fa fd [x] sp)
    (hCX : ∀ (w : World) (H : Hp) (s : Shared) (e : Value) (s' : Shared), CX w [] H s (fun _ _ _ => False) e s' → False) :
    PySem.W.WalkO q loose XP YP l.row.toRowW d [] (fun f vs => PySem.call f vs) := by
  refine Att.attach_callB hn hdf fun w s₀ s₁ mg mb fa o pm cd doc a vs ns G Y ho hd hcd hmg hobj hints hlen hbits hg => ?_
  obtain ⟨K, fd, sp, KX, hb, hsp, hF⟩ := F w mg fa _ Y G.T.g hmg
  exact law_call KX G.T.g G.T.b G.T.builtins G.T.nolimit hg hobj hints (Nat.le_trans hlen hn2) hr hF hb (fun H _ hS => hsp H a ns hlen hbits hS) fun H e s' => hCX w H s₁ e s'
section
variable {X : Cx} {K : PySem.W.Frag}
theorem ix_listK (h : X.K = K) : IxR X (rIxL K) := by subst h; exact ix_list
theorem ix_tupK (h : X.K = K) : IxR X (rIxT K) := by subst h; exact ix_tup
theorem sl_listK (h : X.K = K) : SlR X (rSlL K) := by subst h; exact sl_list
theorem op_in_seqK (h : X.K = K) : OpR X (compareOp .In) (rIn K false) := by subst h; exact op_in_seq
theorem op_notIn_seqK (h : X.K = K) : OpR X (compareOp .NotIn) (rIn K true) := by subst h; exact op_notIn_seq
theorem call_len_seqK (h : X.K = K) : CallR X (.builtin "len") (rLen K) := by subst h; exact call_len_seq
theorem call_list_ofK (h : X.K = K) : CallR X (.type "list") (rListOf K) := by subst h; exact call_list_of
theorem call_tuple_ofK (h : X.K = K) : CallR X (.type "tuple") (rTupOf K) := by subst h; exact call_tuple_of
theorem cr_sumK' (h : X.K = K) (hc : X.calm = true) : CallR X (.builtin "sum") (rSum K) := by subst h; exact cr_sum hc
theorem cr_minK' (h : X.K = K) (hc : X.calm = true) : CallR X (.builtin "min") (rMin K) := by subst h; exact cr_min hc
theorem cr_maxK' (h : X.K = K) (hc : X.calm = true) : CallR X (.builtin "max") (rMax K) := by subst h; exact cr_max hc
theorem cr_allK' (h : X.K = K) (hc : X.calm = true) : CallR X (.builtin "all") (rAll K) := by subst h; exact cr_all hc
theorem cr_anyK' (h : X.K = K) (hc : X.calm = true) : CallR X (.builtin "any") (rAny K) := by subst h; exact cr_any hc
theorem call_isiK (h : X.K = K) : CallR X (.builtin "isinstance") (rIsi K) := by subst h; exact call_isi
theorem op_eqPK (h : X.K = K) (hu : X.A.units + 64 < cLine) : OpR X (compareOp .Eq) (rEqP K) := by subst h; exact op_eqP hu
theorem op_nePK (h : X.K = K) (hu : X.A.units + 64 < cLine) : OpR X (compareOp .NotEq) (rNeP K) := by subst h; exact op_neP hu
theorem op_inPK (h : X.K = K) (hu : X.A.units + 64 < cLine) : OpR X (compareOp .In) (rInP K false) := by subst h; exact op_inP hu
theorem op_notInPK (h : X.K = K) (hu : X.A.units + 64 < cLine) : OpR X (compareOp .NotIn) (rInP K true) := by subst h; exact op_notInP hu
end
theorem raise_of {K : PySem.W.Frag} {E : XK} {H0 H : Hp} {α : Type} {k : α → Prop} {c : Cn} (hQ : Wp (.er (.own c)) k (EE K E H0)) (e0 : Same H0 H) : E (.ref (He.ga K c.nm)) none H := hQ H e0
end G
namespace G
open PySem PySem.Spec PyProof.Rows L2
theorem st_seq {t1 t2 : TS} {D : Ends} {σ : L2.St} {H : Hp} (h : t1 { D with nx := t2 D } σ H) : tSeq t1 t2 D σ H := h
theorem st_n {t : TS} {D : Ends} {σ : L2.St} {H : Hp} (h : t D σ H) : ({ D with nx := t D } : Ends).nx σ H := h
theorem st_next {D : Ends} {σ : L2.St} {H : Hp} (h : D.nx σ H) : tNext D σ H := h
theorem if_t {α : Type} {X Y : R α} {k : α → Prop} {e : Er → Prop} (h : Wp (if true = true then X else Y) k e) : Wp X k e := h
theorem if_f {α : Type} {X Y : R α} {k : α → Prop} {e : Er → Prop} (h : Wp (if false = true then X else Y) k e) : Wp Y k e := h
/-- no loop of the program turns as often -/
theorem fuel_ex : Nonempty {n : Nat // n = 10000000} := ⟨⟨_, rfl⟩⟩
noncomputable def fuel : Nat := (Classical.choice fuel_ex).1
theorem fuel_eq : fuel = 10000000 := (Classical.choice fuel_ex).2
section
variable {K : PySem.W.Frag} {E : XK} {σ : L2.St} {H0 F H : Hp} {D : Ends} {tu tz : TS} {t : TT} {α β S ρ : Type} [Rp α] {ta tb' tc : TE}
theorem s_cutW {m : R S} {kq : S → Prop} {ee : Er → Prop} (I : S → L2.St → Hp → Prop) (hQ : Wp m kq ee) (h1 : Wp m kq ee → tu { D with nx := fun σ' H' => ∃ s, I s σ' H' ∧ kq s } σ H) (h2 : ∀ s σ' H', I s σ' H' → kq s → tz D σ' H') : Evl.tCut tu tz D σ H :=
  ⟨_, h1 hQ, fun σ' H' ⟨s, a, b⟩ => h2 s σ' H' a b⟩
theorem for_Rd {J : It} {G : Hp} {xs : List α} {g : TG} {body : α → S → R (Fl S ρ)} {s0 : S} {kk : Fl S ρ → Prop} {ee : Er → Prop} (ok : ItOk J K G xs) (I : S → L2.St → Hp → Prop) (hk : ∀ s σ' H', I s σ' H' → Same G H') (h0 : I s0 σ H)
    (hQ : Wp (forR body xs s0) kk ee) (done : ∀ s σ' H', I s σ' H' → kk (.go s) → D.nx σ' H')
    (turn : ∀ x l s v σ' H' H'', I s σ' H' → Same H' H'' → Rp.rep K (mix G H' H'') v x → (∀ s σ' H', I s σ' H' → kk (.go s) → D.nx σ' H') → Wp (body x s) (kF (β := Unit) kk fun s' => Wp (forR body l s') kk ee) ee →
      g v σ' H'' fun σ2 H2 => tu { D with nx := fun σ3 H3 => ∃ s', I s' σ3 H3 ∧ Wp (forR body l s') kk ee, ct := fun σ3 H3 => ∃ s', I s' σ3 H3 ∧ Wp (forR body l s') kk ee, bk := D.nx } σ2 H2) : ∃ W : Nat → Nat → L2.St → Hp → Prop, (∃ m, W 0 m σ H) ∧ ∀ i m σ H, W i m σ H →
      (J.stop i H ∧ D.nx σ H) ∨ (J.go i H ∧ ∃ N : L2.St → Hp → Prop, (∀ σ' H', N σ' H' → ∃ m', m' < m ∧ W (i + 1) m' σ' H') ∧ ∀ x H', J.yld i H x H' → g x σ H' fun σ2 H2 => tu { D with nx := N, ct := N, bk := D.nx } σ2 H2) :=
  for_R ok I hk h0 hQ (fun x l s v σ' H' H'' a b c d => turn x l s v σ' H' H'' a b c done d) done
theorem while_Rd {c : S → R Bool} {body : S → R (Fl S ρ)} {n : Nat} {s0 : S} {kk : Fl S ρ → Prop} (I : S → L2.St → Hp → Prop) (h0 : I s0 σ H) (hQ : Wp (whileR c body n s0) kk (EE K E H0))
    (hc : ∀ s σ' H', I s σ' H' → Same H0 H' ∧ GrT K E t σ' H' (c s))
    (hd : ∀ s σ' H' H1, I s σ' H' → Same H' H1 → kk (.go s) → D.nx σ' H1)
    (hb : ∀ n s σ' H' H1, I s σ' H' → Same H' H1 → (∀ s σ' H' H1, I s σ' H' → Same H' H1 → kk (.go s) → D.nx σ' H1) → Wp (body s) (kF (β := Unit) kk fun s' => Wp (whileR c body n s') kk (EE K E H0)) (EE K E H0) →
      tu { D with nx := fun σ3 H3 => ∃ s', I s' σ3 H3 ∧ Wp (whileR c body n s') kk (EE K E H0), ct := fun σ3 H3 => ∃ s', I s' σ3 H3 ∧ Wp (whileR c body n s') kk (EE K E H0), bk := D.nx } σ' H1) : tWhile t tu D σ H :=
  while_R I h0 hQ hc (fun n s σ' H' H1 a b d => hb n s σ' H' H1 a b hd d) hd
theorem s_tryW {cs : List Cn} {cv : Value} {i : Nat} {ts : TS} {tb : WX → TS} {m : R S} {hand : Er → R S} {kq : S → Prop} (hF : Same F H) (e0 : Same H0 H) (hQ : Wp (catchR cs m hand) kq (EE K E H0))
    (hx : ∀ c ∈ cs, PySem.W.exmOne K (.ref (He.ga K c.nm)) cv = some true) (hcf : ∀ c ∈ cs, Cf K c)
    (hh : ∀ er a F' H', Nx0 F H F' H' → Same H0 H' → Rp.rep K F' (.ref a) (er : Er) → Wp (hand er) kq (EE K E H0) →
      ts { nx := fun σ' H' => D.nx (σ'.set i none) H', rt := D.rt, bk := fun σ' H' => D.bk (σ'.set i none) H', ct := fun σ' H' => D.ct (σ'.set i none) H' } (σ.set i (some (.ref a))) H')
    (hb : Wp m kq (EE K (WE (wHold K cv i ts D) σ) H) → tb (wHold K cv i ts D) D σ H) : tTry K cv i tb ts D σ H := by
  show tb (wHold K cv i ts D) D σ H
  refine hb ?_
  cases m with
  | ok s => exact hQ
  | bad => exact hQ.elim
  | er er =>
    have hQ2 : Wp (if er.cn ∈ cs then hand er else .bad) kq (EE K E H0) := hQ
    split at hQ2
    · rename_i hc
      cases er with
      | own c =>
        intro H' s
        refine ⟨_, rfl, hx _ hc, fun a ha => ?_⟩
        have hn : H a = none := Same.free s ha
        exact hh (.own c) a _ _ (Nx.mk' hF (s.trans (same_upd ha))) (e0.trans (s.trans (same_upd ha))) ⟨a, rfl, hcf _ hc, by show mix F H _ a = _; rw [mix_new hn]; exact upd_same⟩ hQ2
      | plan n =>
        intro d H' s hd ⟨m, hm⟩
        refine ⟨_, rfl, hx _ hc, fun a ha => ?_⟩
        have hn : H a = none := Same.free s ha
        exact hh (.plan n) a _ _ (Nx.mk' hF (s.trans (same_upd ha))) (e0.trans (s.trans (same_upd ha))) ⟨a, rfl, hcf _ hc, d, m, by show mix F H _ a = _; rw [mix_new hn]; exact upd_same, by rw [mix_new hd]; exact same_upd ha _ _ hm⟩ hQ2
    · exact hQ2.elim
/-- a < b <= c -/
theorem g_chain {f g : Int → Int → Bool} {a b c : Int} (ha : Gr K E ta σ F H (.ok a)) (hb : Gr K E tb' σ F H (.ok b)) (hc : Gr K E tc σ F H (.ok c)) :
    Gr K E (tChain (rI0 fun i j => .bl (f i j)) (rI0 fun i j => .bl (g i j)) ta tb' tc) σ F H (.ok (f a b && g b c)) := fun H1 e Q hq =>
  ha H1 e _ fun v H2 e2 r2 => hb H2 (e.trans e2) _ fun w H3 e3 r3 => ⟨a, b, r2, r3, f a b, rfl, by
    have hq' : ∀ v H2, Same H1 H2 → Rp.rep K (mix F H H2) v (f a b && g b c) → Q v H2 := hq
    cases h : f a b with
    | true =>
      rw [h] at hq'
      exact hc H3 (e.trans (e2.trans e3)) _ fun z H4 e4 r4 => ⟨b, c, r3, r4, hq' _ H4 (e2.trans (e3.trans e4)) rfl⟩
    | false =>
      rw [h] at hq'
      exact hq' _ H3 (e2.trans e3) rfl⟩
end
end G
namespace G
open PySem PySem.Spec PyProof.Rows L2
section
variable {K : PySem.W.Frag} {E : XK} {σ : L2.St} {H0 F H : Hp} {D : Ends} {te : TE} {α β γ : Type} [Rp α] [Rp β] [Rp γ]
/-- a pair that is new, its first part a list that becomes ours -/
theorem s_asgP0 [Sc α] [Sc β] {i : Nat} {m : R (List α × β)} {k : List α × β → R γ} {kk : γ → Prop} (he : Gr K E te σ nil0 H m) (hF : Same F H) (e0 : Same H0 H) (hQ : Wp (R.bd m k) kk (EE K E H0))
    (c : ∀ a b q p F' H', Nx0 F H F' H' → Same H0 H' → Own K H0 false F' H' p a → (∀ z, (∃ u, H z = some u) → z ≠ p) → F' q = some (.tup [.ref p, Sc.enc b]) → Wp (k (a, b)) kk (EE K E H0) → D.nx (σ.set i (some (.ref q))) H') : tAsg te (gName i) D σ H := by
  refine he H (Same.refl _) _ ?_
  rw [wp_bd] at hQ
  refine wp_mono hQ (fun a _ z v H2 e2 r => ?_) fun c _ z => z.mono e0
  obtain ⟨q, x, y, rfl, hq, ⟨p, vs, rfl, hp, hv⟩, r2⟩ := r
  have h2 := Sc.is.mp r2
  subst h2
  have pn : H p = none ∧ H2 p = some (.lst vs) := by
    rcases mix_cases hp with z | ⟨_, z⟩ | ⟨_, _, _, z⟩
    · exact z
    · cases z
    · cases z
  obtain ⟨hpn, hp2⟩ := pn
  have hq2 := mix_same nil_same e2 _ _ hq
  have qp : q ≠ p := fun z => by rw [z, hp2] at hq2; cases hq2
  refine c a.1 a.2 q p (delH (mix F H H2) p) H2 ⟨fun x o h => ?_, fun x o _ h => e2 x o h, fun x o h => ?_, fun x o t h n => ?_, fun x o h => ⟨o, e2 x o h, rfl⟩⟩ (e0.trans e2) (Own.of (Same.free e0 hpn) delH_same hp2 (hv.mono fun _ _ x => Sc.is.mpr (Sc.is.mp x))) (fun z ⟨u, hu⟩ e => by rw [e, hpn] at hu; cases hu) (by rw [delH_ne qp]; exact mix_ff nil_same _ _ hq) z
  · have : x ≠ p := fun z => by
      rw [z] at h
      have := hF p o h
      rw [hpn] at this
      cases this
    rw [delH_ne this]
    exact same_mix hF x o h
  · unfold delH at h
    split at h
    · cases h
    · exact mix_same hF e2 x o h
  · unfold delH
    split
    · rfl
    · rw [mix_old h t]
      exact n
theorem at_fst {i : Nat} {p q : Addr} {y : V} (h : σ[i]? = some (some (.ref q))) (ht : H q = some (.tup [.ref p, y])) : At (tOp (rIxT K) (tVar i) (tC (.int 0))) σ H p := fun H1 e Q z => ⟨_, h, q, _, 0, _, rfl, rfl, SqT.of (e _ _ ht), rfl, z⟩
theorem own_pair [Sc β] {q p : Addr} {a : List α} {b : β} {fl : Bool} (ht : F q = some (.tup [.ref p, Sc.enc b])) (o : Own K H0 fl F H p a) (hF : Same F H) : Rp.rep K H (.ref q) (a, b) :=
  ⟨q, _, _, rfl, hF _ _ ht, o.rep hF, Sc.is.mpr rfl⟩
end
end G

set_option Elab.async false
set_option linter.all false
set_option maxRecDepth 100000
set_option maxHeartbeats 4000000
/-! G: more forms. -/
namespace G
open PySem PySem.Spec PyProof.Rows L2
section
variable {X : Cx} {K : PySem.W.Frag} {E : XK} {σ : L2.St} {H0 F H : Hp} {ta tb : TE}
theorem cr_range1 : CallR X (.type "range") (fun vs H Q => ∃ j, vs = [V.int j] ∧ ∀ p, H p = none → Q (.ref p) (upd H p (.rng 0 j))) := by
  intro pins s σ H vs us Q I r h
  obtain ⟨j, rfl, q⟩ := h
  obtain ⟨u, rfl, rj⟩ := vals1 r
  obtain ⟨t, rfl⟩ := rj
  refine call_range_1 ⟨.ref s.heap.objs.size, upd H s.heap.objs.size (.rng 0 j), I.laid (t' := _) (fun b o e => Heap.get?_push_of_some _ e) (Nat.le_refl _) ?_, rfl, q _ (I.hok.fresh (Nat.le_refl _))⟩
  exact ⟨_, _, _, Heap.get?_push_size _ rfl⟩
abbrev rRg1 : List V → Hp → VK → Prop := fun vs H Q => ∃ j, vs = [V.int j] ∧ ∀ p, H p = none → Q (.ref p) (upd H p (.rng 0 j))
abbrev rInRg : R2 := fun x y H Q => ∃ i a lo hi, x = V.int i ∧ y = V.ref a ∧ H a = some (.rng lo hi) ∧ Q (.bl (decide (lo ≤ i ∧ i < hi))) H
abbrev rNotInRg : R2 := fun x y H Q => ∃ i a lo hi, x = V.int i ∧ y = V.ref a ∧ H a = some (.rng lo hi) ∧ Q (.bl (!decide (lo ≤ i ∧ i < hi))) H
theorem op_notIn_rng : OpR X (compareOp .NotIn) rNotInRg := by
  intro pins s σ H x y v u Q I rx ry h
  obtain ⟨i, a, lo, hi, rfl, rfl, ha, q⟩ := h
  obtain ⟨k, rfl⟩ := rx
  obtain rfl : u = Value.ref a := ry
  obtain ⟨t1, t2, t3, ho⟩ := I.hok a _ ha
  show wpAny _ _ (do return Value.bool (!(← contains (Value.ref a) (Value.int i k)))) _ _ s
  refine wpAny_bind (wpAny_contains_slot (T := "range") ⟨_, ho, rfl⟩ F.slot_range_contains (call_meets F.slot_range_contains ⟨_, ho, rfl⟩ F.entry_range_contains (F.args_range_contains_2 _ _) (q_contains a lo hi i t1 t2 t3 k)
    ⟨ho, wpAny_truthy_bool (wpAny_pure ⟨.bl _, H, I, rfl, ?_⟩)⟩))
  rw [place1]
  exact q
/-- x in range(n) -/
theorem g_inRg {ma mb : R Int} (ha : Gr K E ta σ H H ma) (hb : Gr K E tb σ H H mb) : Gr K E (tOp rInRg ta (tCB rRg1 (tCons tb tNil))) σ F H (R.bd ma fun i => R.bd mb fun j => .ok (decide (0 ≤ i ∧ i < j))) := fun H1 e Q hq =>
  gr_seq (g_sc (F' := H) ha) e hq fun i v H2 e2 r hq2 => gr_seq (g_sc (F' := H) hb) (e.trans e2) hq2 fun j w H3 e3 r3 hq3 => by
    have r' : v = .int i := r
    have r3' : w = .int j := r3
    subst r'; subst r3'
    exact ⟨j, rfl, fun p hp => ⟨i, p, 0, j, rfl, rfl, upd_same, hq3 _ _ (same_upd hp) rfl⟩⟩
theorem g_notInRg {ma mb : R Int} (ha : Gr K E ta σ H H ma) (hb : Gr K E tb σ H H mb) : Gr K E (tOp rNotInRg ta (tCB rRg1 (tCons tb tNil))) σ F H (R.bd ma fun i => R.bd mb fun j => .ok (!decide (0 ≤ i ∧ i < j))) := fun H1 e Q hq =>
  gr_seq (g_sc (F' := H) ha) e hq fun i v H2 e2 r hq2 => gr_seq (g_sc (F' := H) hb) (e.trans e2) hq2 fun j w H3 e3 r3 hq3 => by
    have r' : v = .int i := r
    have r3' : w = .int j := r3
    subst r'; subst r3'
    exact ⟨j, rfl, fun p hp => ⟨i, p, 0, j, rfl, rfl, upd_same, hq3 _ _ (same_upd hp) rfl⟩⟩
/-! ### functions that may tell what they were handed -/
variable {α β γ δ ρ : Type} [Rp α] [Rp β] [Rp γ] [Rp δ] [Rp ρ] {D : Ends} {te tc td : TE} {Gz : Hp} {Ex : L2.St → XK}
abbrev KS (K : PySem.W.Frag) (Gz H : Hp) (Q : VK) : ρ → Prop := fun r => ∀ v' H', Same H H' → Rp.rep K (mix Gz H H') v' r → Q v' H'
theorem mix_back {F1 H1 H2 : Hp} (hF : Same F1 H1) (e0 : Same H0 H1) (e2 : Same H1 H2) (n : Nx (fun _ => False) Gz H0 F1 H1) : Same (mix F1 H1 H2) (mix Gz H0 H2) := fun b o h => by
  rcases mix_cases h with ⟨z, h⟩ | ⟨z, t⟩ | ⟨u, z, t, h⟩
  · rw [mix_new (Same.free e0 z)]
    exact h
  · cases z0 : H0 b with
    | none => rw [mix_new z0]; exact e2 b o z
    | some u0 =>
      have := e0 b u0 z0
      rw [z] at this
      cases this
      exact mix_tup z0 t
  · cases z0 : H0 b with
    | none => rw [mix_new z0]; exact e2 b o (hF b o h)
    | some u0 =>
      have := e0 b u0 z0
      rw [z] at this
      cases this
      rw [mix_old z0 t]
      cases g : Gz b with
      | none =>
        have := n.own b u t z0 g
        rw [this] at h
        cases h
      | some o1 =>
        have := n.ff b o1 g
        rw [this] at h
        exact h
theorem s_retS {m : R α} {k : α → R β} {kk : β → Prop} (he : Gr K E te σ F H m) (hF : Same F H) (e0 : Same H0 H) (n : Nx (fun _ => False) Gz H0 F H) (hQ : Wp (R.bd m k) kk (EE K E H0)) (hk : ∀ a, Wp (k a) kk (EE K E H0) → KS K Gz H0 D.rt a) : tRet te D σ H := by
  refine he H (Same.refl _) _ ?_
  rw [wp_bd] at hQ
  exact wp_mono hQ (fun a _ q v H2 e2 r => hk a q v H2 (e0.trans e2) (Rp.mono (mix_back hF e0 e2 n) r)) fun c _ z => z.mono e0
theorem mix_mix {F H H2 H3 : Hp} (e : Same H H2) (e3 : Same H2 H3) : Same (mix (mix F H H2) H2 H3) (mix F H H3) := fun b o h => by
  rcases mix_cases h with ⟨z, h⟩ | ⟨z, t⟩ | ⟨u, z, t, h⟩
  · rw [mix_new (Same.free e z)]
    exact h
  · cases z0 : H b with
    | none => rw [mix_new z0]; exact e3 b o z
    | some u0 =>
      have := e b u0 z0
      rw [z] at this
      cases this
      exact mix_tup z0 t
  · exact mix_mono e3 b o h
def spS1 (K : PySem.W.Frag) (f : α → R ρ) : Sp := fun vs H Q E => ∃ v a Gz, vs = [v] ∧ Same Gz H ∧ Rp.rep K Gz v a ∧ Wp (f a) (KS K Gz H Q) (EE K E H)
def spS2 (K : PySem.W.Frag) (f : α → β → R ρ) : Sp := fun vs H Q E => ∃ v w a b Gz, vs = [v, w] ∧ Same Gz H ∧ Rp.rep K Gz v a ∧ Rp.rep K Gz w b ∧ Wp (f a b) (KS K Gz H Q) (EE K E H)
def spS3 (K : PySem.W.Frag) (f : α → β → γ → R ρ) : Sp := fun vs H Q E => ∃ v w x a b c Gz, vs = [v, w, x] ∧ Same Gz H ∧ Rp.rep K Gz v a ∧ Rp.rep K Gz w b ∧ Rp.rep K Gz x c ∧ Wp (f a b c) (KS K Gz H Q) (EE K E H)
theorem g_callS1 {f : α → R ρ} {ma : R α} (ha : Gr K E ta σ F H ma) (hF : Same F H) (hE : Ex σ = E := by rfl) : Gr K E (tCallS (spS1 K f) Ex (tCons ta tNil)) σ F H (R.bd ma f) := by
  subst hE
  exact fun H1 e Q hq =>
  gr_seq ha e hq fun a v H2 e2 r hq2 => ⟨v, a, mix F H H2, rfl, mix_same hF (e.trans e2), r, wp_mono hq2 (fun b _ k v' H3 e3 r3 => k v' H3 e3 (Rp.mono (mix_mix (e.trans e2) e3) r3)) fun c _ z => z⟩
theorem g_callS2 {f : α → β → R ρ} {ma : R α} {mb : R β} (ha : Gr K E ta σ F H ma) (hb : Gr K E tb σ F H mb) (hF : Same F H) (hE : Ex σ = E := by rfl) : Gr K E (tCallS (spS2 K f) Ex (tCons ta (tCons tb tNil))) σ F H (R.bd ma fun a => R.bd mb fun b => f a b) := by
  subst hE
  exact fun H1 e Q hq =>
  gr_seq ha e hq fun a v H2 e2 r hq2 => gr_seq hb (e.trans e2) hq2 fun b w H3 e3 r3 hq3 => ⟨v, w, a, b, mix F H H3, rfl, mix_same hF (e.trans (e2.trans e3)), Rp.mono (mix_mono e3) r, r3, wp_mono hq3 (fun b _ k v' H4 e4 r4 => k v' H4 e4 (Rp.mono (mix_mix (e.trans (e2.trans e3)) e4) r4)) fun c _ z => z⟩
theorem g_callS3 {f : α → β → γ → R ρ} {ma : R α} {mb : R β} {mc : R γ} (ha : Gr K E ta σ F H ma) (hb : Gr K E tb σ F H mb) (hc : Gr K E tc σ F H mc) (hF : Same F H) (hE : Ex σ = E := by rfl) :
    Gr K E (tCallS (spS3 K f) Ex (tCons ta (tCons tb (tCons tc tNil)))) σ F H (R.bd ma fun a => R.bd mb fun b => R.bd mc fun c => f a b c) := by
  subst hE
  exact fun H1 e Q hq =>
  gr_seq ha e hq fun a v H2 e2 r hq2 => gr_seq hb (e.trans e2) hq2 fun b w H3 e3 r3 hq3 => gr_seq hc (e.trans (e2.trans e3)) hq3 fun c x H4 e4 r4 hq4 =>
    ⟨v, w, x, a, b, c, mix F H H4, rfl, mix_same hF (e.trans (e2.trans (e3.trans e4))), Rp.mono ((mix_mono e3).trans (mix_mono e4)) r, Rp.mono (mix_mono e4) r3, r4, wp_mono hq4 (fun b _ k v' H5 e5 r5 => k v' H5 e5 (Rp.mono (mix_mix (e.trans (e2.trans (e3.trans e4))) e5) r5)) fun c _ z => z⟩
/-! ### a list and the script -/
abbrev rCatL (K : PySem.W.Frag) : R2 := fun x y H Q => ∃ l b xs zs, x = .ref l ∧ y = .ref b ∧ SqL K H l xs ∧ SqL K H b zs ∧ xs.length + zs.length ≤ sizeLine ∧ ∀ p, H p = none → Q (.ref p) (upd H p (.lst (xs ++ zs)))
theorem op_catL : OpR X (binaryOp .Add) (rCatL X.K) := by
  intro pins s σ H x y v u Q I rx ry h
  obtain ⟨l, b, xs, zs, rfl, rfl, hH, hB, hz, q⟩ := h
  cases rx
  cases ry
  obtain ⟨its, r, ⟨⟨cls, dd, data, sl⟩, n, ho, hc, hdd, hd⟩, _⟩ := I.list hH
  obtain ⟨its2, r2, ⟨⟨cls2, dd2, data2, sl2⟩, n2, ho2, hc2, hdd2, hd2⟩, _⟩ := I.list hB
  simp only at hc hd hc2 hd2 hdd hdd2
  subst hc hd hc2 hd2 hdd hdd2
  have e : its.toArray ++ its2.toArray = (its ++ its2).toArray := by simp
  have hsz : its.toArray.size + its2.toArray.size ≤ sizeLine := by
    rw [List.size_toArray, List.size_toArray, ← r.length, ← r2.length]
    exact hz
  refine concat_meets ⟨_, ho, rfl⟩ ⟨_, ho2, rfl⟩ noFill_list_add seq_list_add PySem.F.slot_list_add PySem.F.entry_list_add (PySem.F.args_list_add_2 _ _) (list_addW l b its.toArray its2.toArray n n2 none none sl sl2 hsz) ⟨ho, ho2, ?_⟩
  rw [e]
  exact ⟨.ref _, _, I.lnew (t' := s.toks) (r.append r2) (by rw [List.length_append]; omega), rfl, q _ I.fresh⟩
theorem g_catScr {ma : R (List Int)} {mb : R Scr} (ha : Gr K E ta σ H H ma) (hb : Gr K E tb σ H H mb) : Gr K E (tOp (rCatL K) ta tb) σ F H (R.bd ma fun a => R.bd mb fun b => gd (a.length + b.l.length ≤ lim) (.ok (a ++ b.l))) := fun H1 e Q hq =>
  gr_arg ha e hq fun a v H2 e2 r hq2 => gr_arg hb (e.trans e2) hq2 fun b w H3 e3 r3 hq3 => by
    obtain ⟨p, vs, rfl, hp, hv⟩ := r
    obtain ⟨p2, rfl, hp2⟩ := r3
    have hv' := rep_ints hv
    subst hv'
    unfold gd at hq3
    split at hq3
    · rename_i c
      refine ⟨p, p2, _, _, rfl, rfl, SqL.of (e3 p _ hp), hp2, lim_line (by rw [List.length_map, List.length_map]; exact c), fun l hl => ?_⟩
      refine hq3 _ _ (same_upd hl) ⟨l, (a ++ b.l).map V.int, rfl, ?_, ints_rep _⟩
      rw [mix_new (Same.free (e.trans (e2.trans e3)) hl), List.map_append]
      exact upd_same
    · exact hq3.elim
/-! ### xs.count(y), xs.index(y) -/
theorem cnt_eqU {x : V} : ∀ {xs : List V} {us : List Value}, Vals xs us → xs.all flatV = true → us.countP (eqU x) = xs.countP fun y => eqV y x
  | _, _, .nil, _ => rfl
  | y :: xs, u :: us, .cons r t, f => by
    rw [List.all_cons, Bool.and_eq_true] at f
    rw [List.countP_cons, List.countP_cons, eqU_of r f.1, cnt_eqU t f.2]
def rCntV (K : PySem.W.Frag) : V → List V → Hp → VK → Prop := fun x xs H Q => ∃ p ys y, x = .ref p ∧ xs = [y] ∧ SqL K H p ys ∧ flatV y = true ∧ ys.all flatV = true ∧ Q (.int ((ys.countP fun z => eqV z y : Nat) : Int)) H
theorem mt_countV : MtR X "list.count" (rCntV X.K) := by
  intro pins s σ H x xs v us Q I rx rxs h
  obtain ⟨p, ys, y, rfl, rfl, hs, fy, fys, q⟩ := h
  cases rx
  obtain ⟨u, rfl, ru⟩ := rxs.one
  obtain ⟨its, rv, ⟨⟨cls, dd, data, sl⟩, n, ho, hc, hdn, hd⟩, hlen⟩ := I.list hs
  simp only at hc hd
  subst hc hd
  refine call_meets PySem.F.slot_list_count ⟨_, ho, rfl⟩ PySem.F.entry_list_count (PySem.F.args_list_count_2 _ _)
    (SeqAt.list_countAt p its.toArray n dd sl u (eqU y)) ⟨ho, fun w hw => mem_eqAt ru fy rv fys w (by simpa using hw), ?_⟩
  have ec : its.toArray.toList.countP (eqU y) = ys.countP fun z => eqV z y := by simpa using cnt_eqU rv fys
  refine ⟨.int ((ys.countP fun z => eqV z y : Nat) : Int), H, I.tok _, ⟨s.toks, ?_⟩, q⟩
  show Value.int ((its.toArray.toList.countP (eqU y) : Nat) : Int) s.toks = Value.int _ s.toks
  rw [ec]
theorem eqV_bl (a b : Bool) : eqV (Sc.enc a) (Sc.enc b) = decide (a = b) := by
  show eqV (V.bl a) (V.bl b) = decide (a = b)
  simp only [eqV]
  exact Bool.beq_eq_decide_eq a b
theorem g_count [Sc α] [DecidableEq α] {ma : R (List α)} {mb : R α} (ha : Gr K E ta σ H H ma) (hb : Gr K E tb σ H H mb) (hv : ∀ (a b : α), eqV (Sc.enc a) (Sc.enc b) = decide (a = b)) :
    Gr K E (tBM K "list" (rCntV K) ta (tCons tb tNil)) σ F H (R.bd ma fun xs => R.bd mb fun y => .ok ((xs.count y : Nat) : Int)) := fun H1 e Q hq =>
  gr_arg ha e hq fun xs v H2 e2 r hq2 => by
    obtain ⟨p, vs, rfl, hp, hw⟩ := r
    have h2 : vs = xs.map Sc.enc := hw.map Sc.enc fun _ _ => Sc.is
    subst h2
    refine ⟨.inl ⟨rfl, _, SqL.of hp⟩, ?_⟩
    refine gr_arg hb (e.trans e2) hq2 fun y w H3 e3 r3 hq3 => ?_
    have h3 := Sc.is.mp r3
    subst h3
    refine ⟨p, _, _, rfl, rfl, SqL.of (e3 p _ hp), Sc.flat y, ?_, ?_⟩
    · rw [List.all_map]
      exact List.all_eq_true.mpr fun x _ => Sc.flat x
    · have : ((xs.map Sc.enc).countP fun z => eqV z (Sc.enc y)) = xs.count y := by
        rw [List.countP_map]
        unfold List.count
        congr 1
        funext z
        show eqV (Sc.enc z) (Sc.enc y) = (z == y)
        rw [hv]
        rfl
      rw [this]
      exact hq3 _ H3 (Same.refl _) rfl
def indexR {α : Type} [DecidableEq α] (xs : List α) (y : α) : R Int := match xs.findIdx? (fun z => decide (z = y)) with
  | some j => .ok (j : Int)
  | none => .bad
theorem g_index [Sc α] [DecidableEq α] {ma : R (List α)} {mb : R α} (ha : Gr K E ta σ H H ma) (hb : Gr K E tb σ H H mb) (hv : ∀ (a b : α), eqV (Sc.enc a) (Sc.enc b) = decide (a = b)) :
    Gr K E (tBM K "list" (rIndex K) ta (tCons tb tNil)) σ F H (R.bd ma fun xs => R.bd mb fun y => indexR xs y) := fun H1 e Q hq =>
  gr_arg ha e hq fun xs v H2 e2 r hq2 => by
    obtain ⟨p, vs, rfl, hp, hw⟩ := r
    have h2 : vs = xs.map Sc.enc := hw.map Sc.enc fun _ _ => Sc.is
    subst h2
    refine ⟨.inl ⟨rfl, _, SqL.of hp⟩, ?_⟩
    refine gr_arg hb (e.trans e2) hq2 fun y w H3 e3 r3 hq3 => ?_
    have h3 := Sc.is.mp r3
    subst h3
    unfold indexR at hq3
    cases hj : xs.findIdx? (fun z => decide (z = y)) with
    | none => rw [hj] at hq3; exact hq3.elim
    | some j =>
      rw [hj] at hq3
      obtain ⟨hl, h1, h2⟩ := List.findIdx?_eq_some_iff_getElem.mp hj
      refine ⟨p, _, _, j, Sc.enc xs[j], rfl, rfl, SqL.of (e3 p _ hp), Sc.flat y, ?_, ?_, ?_, fun m z hm hz => ?_, hq3 _ H3 (Same.refl _) rfl⟩
      · rw [List.all_map]
        exact List.all_eq_true.mpr fun x _ => Sc.flat x
      · rw [List.getElem?_map, List.getElem?_eq_getElem hl]
        rfl
      · rw [hv]
        exact h1
      · rw [List.getElem?_map, List.getElem?_eq_getElem (by omega)] at hz
        cases hz
        rw [hv]
        have := h2 m hm
        simpa using this
theorem g_sumS {m : R Scr} (h : Gr K E ta σ F H m) (hF : Same F H) : Gr K E (tCB (rSum K) (tCons ta tNil)) σ F H (R.bd m fun xs => .ok xs.l.sum) := fun H1 e Q hq =>
  gr_seq h e hq fun xs v H2 e2 r hq2 => by
    obtain ⟨p, rfl, hp⟩ := r
    exact ⟨p, xs.l, rfl, (mix_same hF (e.trans e2)).seq hp, hq2 _ H2 (Same.refl _) rfl⟩
/-! ### a list unpacked to two or three names -/
def lst2 {α : Type} : List α → R (α × α)
  | [a, b] => .ok (a, b)
  | _ => .bad
def lst3 {α : Type} : List α → R (T3 α α α)
  | [a, b, c] => .ok ⟨a, b, c⟩
  | _ => .bad
theorem s_unpL2 [Sc α] {i j : Nat} {m : R (List α)} {k : α × α → R γ} {kk : γ → Prop} (he : Gr K E te σ F H m) (hF : Same F H) (e0 : Same H0 H) (hQ : Wp (R.bd (R.bd m lst2) k) kk (EE K E H0))
    (c : ∀ a b F' H', Nx0 F H F' H' → Same H0 H' → Wp (k (a, b)) kk (EE K E H0) → D.nx ((σ.set i (some (Sc.enc a))).set j (some (Sc.enc b))) H') : tAsg te (gLst K 2 (gCons (gName i) (gCons (gName j) gNil))) D σ H := by
  refine he H (Same.refl _) _ ?_
  rw [bd_assoc, wp_bd] at hQ
  refine wp_mono hQ (fun l _ q v H2 e2 r => ?_) fun c _ z => z.mono e0
  obtain ⟨p, vs, rfl, hp, hw⟩ := r
  have h2 : vs = l.map Sc.enc := hw.map Sc.enc fun _ _ => Sc.is
  subst h2
  match l, q, hp with
  | [a, b], q, hp => exact ⟨p, _, rfl, SqL.of (mix_same hF e2 p _ hp), rfl, _, _, rfl, _, _, rfl, rfl, c a b _ H2 (Nx.mk' hF e2) (e0.trans e2) q⟩
  | [], q, _ => exact q.elim
  | [_], q, _ => exact q.elim
  | _ :: _ :: _ :: _, q, _ => exact q.elim
theorem s_unpL3 [Sc α] {i j l : Nat} {m : R (List α)} {k : T3 α α α → R γ} {kk : γ → Prop} (he : Gr K E te σ F H m) (hF : Same F H) (e0 : Same H0 H) (hQ : Wp (R.bd (R.bd m lst3) k) kk (EE K E H0))
    (c : ∀ a b d F' H', Nx0 F H F' H' → Same H0 H' → Wp (k ⟨a, b, d⟩) kk (EE K E H0) → D.nx (((σ.set i (some (Sc.enc a))).set j (some (Sc.enc b))).set l (some (Sc.enc d))) H') : tAsg te (gLst K 3 (gCons (gName i) (gCons (gName j) (gCons (gName l) gNil)))) D σ H := by
  refine he H (Same.refl _) _ ?_
  rw [bd_assoc, wp_bd] at hQ
  refine wp_mono hQ (fun xs _ q v H2 e2 r => ?_) fun c _ z => z.mono e0
  obtain ⟨p, vs, rfl, hp, hw⟩ := r
  have h2 : vs = xs.map Sc.enc := hw.map Sc.enc fun _ _ => Sc.is
  subst h2
  match xs, q, hp with
  | [a, b, d], q, hp => exact ⟨p, _, rfl, SqL.of (mix_same hF e2 p _ hp), rfl, _, _, rfl, _, _, rfl, _, _, rfl, rfl, c a b d _ H2 (Nx.mk' hF e2) (e0.trans e2) q⟩
  | [], q, _ => exact q.elim
  | [_], q, _ => exact q.elim
  | [_, _], q, _ => exact q.elim
  | _ :: _ :: _ :: _ :: _, q, _ => exact q.elim
end
end G

set_option Elab.async false
set_option linter.all false
set_option maxRecDepth 100000
set_option maxHeartbeats 4000000
/-! G: values of several kinds. -/
namespace G
open PySem PySem.Spec PyProof.Rows L2
/-- data of any kind -/
inductive Dy where
  | non
  | bl (b : Bool)
  | int (n : Int)
  | str (s : Str)
  | lst (l : List Dy)
  | tup (l : List Dy)
mutual
def dyR (H : Hp) : Dy → V → Prop
  | .non, v => v = .non
  | .bl b, v => v = .bl b
  | .int n, v => v = .int n
  | .str s, v => v = .str s
  | .lst l, v => ∃ p vs, v = .ref p ∧ H p = some (.lst vs) ∧ dyRs H l vs
  | .tup l, v => ∃ p vs, v = .ref p ∧ H p = some (.tup vs) ∧ dyRs H l vs
def dyRs (H : Hp) : List Dy → List V → Prop
  | [], vs => vs = []
  | d :: l, vs => ∃ v r, vs = v :: r ∧ dyR H d v ∧ dyRs H l r
end
mutual
theorem dyR_mono {H H' : Hp} (e : Same H H') : ∀ {d : Dy} {v : V}, dyR H d v → dyR H' d v
  | .non, _, h => h
  | .bl _, _, h => h
  | .int _, _, h => h
  | .str _, _, h => h
  | .lst _, _, ⟨p, vs, h1, h2, h3⟩ => ⟨p, vs, h1, e _ _ h2, dyRs_mono e h3⟩
  | .tup _, _, ⟨p, vs, h1, h2, h3⟩ => ⟨p, vs, h1, e _ _ h2, dyRs_mono e h3⟩
theorem dyRs_mono {H H' : Hp} (e : Same H H') : ∀ {l : List Dy} {vs : List V}, dyRs H l vs → dyRs H' l vs
  | [], _, h => h
  | _ :: _, _, ⟨v, r, h1, h2, h3⟩ => ⟨v, r, h1, dyR_mono e h2, dyRs_mono e h3⟩
end
instance : Rp Dy where
  rep _ H v d := dyR H d v
  mono e h := dyR_mono e h
theorem dyRs_all {K : PySem.W.Frag} {H : Hp} : ∀ {l : List Dy} {vs : List V}, dyRs H l vs → All2 (Rp.rep K H) vs l
  | [], _, h => by
    have h' : _ = [] := h
    subst h'
    exact .nil
  | _ :: _, _, ⟨v, r, h1, h2, h3⟩ => by
    subst h1
    exact .cons h2 (dyRs_all h3)
theorem all_dyRs {K : PySem.W.Frag} {H : Hp} : ∀ {l : List Dy} {vs : List V}, All2 (Rp.rep K H) vs l → dyRs H l vs
  | [], _, .nil => rfl
  | _ :: _, _, .cons r t => ⟨_, _, rfl, r, all_dyRs t⟩
/-! True is 1, False is 0 -/
mutual
def Dy.nm : Dy → Dy
  | .non => .non
  | .bl b => .int (if b = true then 1 else 0)
  | .int n => .int n
  | .str s => .str s
  | .lst l => .lst (nms l)
  | .tup l => .tup (nms l)
def nms : List Dy → List Dy
  | [] => []
  | d :: l => d.nm :: nms l
end
mutual
def Dy.dp : Dy → Nat
  | .lst l => dps l + 1
  | .tup l => dps l + 1
  | _ => 0
def dps : List Dy → Nat
  | [] => 0
  | d :: l => max d.dp (dps l)
end
mutual
def Dy.pd : Dy → PyData
  | .non => .none
  | .bl b => .bool b
  | .int n => .int n
  | .str s => .str s
  | .lst l => .list (pds l)
  | .tup l => .tuple (pds l)
def pds : List Dy → List PyData
  | [] => []
  | d :: l => d.pd :: pds l
end
mutual
theorem dy_dp {K : PySem.W.Frag} {H : Hp} : ∀ {d : Dy} {v : V}, dyR H d v → Dp K H v d.pd
  | .non, _, h => by rw [show _ = V.non from h]; exact .non
  | .bl b, _, h => by rw [show _ = V.bl b from h]; exact .bl b
  | .int n, _, h => by rw [show _ = V.int n from h]; exact .int n
  | .str s, _, h => by rw [show _ = V.str s from h]; exact .str s
  | .lst _, _, ⟨p, vs, h1, h2, h3⟩ => by rw [h1]; exact .lst (SqL.of h2) (dys_dp h3)
  | .tup _, _, ⟨p, vs, h1, h2, h3⟩ => by rw [h1]; exact .tup (SqT.of h2) (dys_dp h3)
theorem dys_dp {K : PySem.W.Frag} {H : Hp} : ∀ {l : List Dy} {vs : List V}, dyRs H l vs → DpAll K H vs (pds l)
  | [], _, h => by rw [show _ = [] from h]; exact .nil
  | _ :: _, _, ⟨v, r, h1, h2, h3⟩ => by rw [h1]; exact .cons (dy_dp h2) (dys_dp h3)
end
mutual
theorem dy_lay : ∀ d : Dy, d.pd.plain = true
  | .non => rfl
  | .bl _ => rfl
  | .int _ => rfl
  | .str _ => rfl
  | .lst l => dys_lay l
  | .tup l => dys_lay l
theorem dys_lay : ∀ l : List Dy, PyData.plainAll (pds l) = true
  | [] => rfl
  | d :: l => by
    show (PyData.plain d.pd && PyData.plainAll (pds l)) = true
    rw [dy_lay d, dys_lay l]
    rfl
end
mutual
theorem dy_deep : ∀ d : Dy, d.pd.depth = d.dp
  | .non => by simp [Dy.pd, PyData.depth, Dy.dp]
  | .bl _ => by simp [Dy.pd, PyData.depth, Dy.dp]
  | .int _ => by simp [Dy.pd, PyData.depth, Dy.dp]
  | .str _ => by simp [Dy.pd, PyData.depth, Dy.dp]
  | .lst l => by
    have := dys_deep l
    simp only [Dy.pd, PyData.depth, Dy.dp]
    omega
  | .tup l => by
    have := dys_deep l
    simp only [Dy.pd, PyData.depth, Dy.dp]
    omega
theorem dys_deep : ∀ l : List Dy, PyData.depthAll (pds l) = dps l
  | [] => by simp [pds, PyData.depthAll, dps]
  | d :: l => by
    have h1 := dy_deep d
    have h2 := dys_deep l
    simp only [pds, PyData.depthAll, dps]
    omega
end
mutual
theorem dy_eqv : ∀ a b : Dy, PyData.eqv a.pd b.pd = true ↔ a.nm = b.nm
  | .non, b => by cases b <;> simp [Dy.pd, Dy.nm, PyData.eqv]
  | .bl x, b => by
    cases b with
    | bl y => cases x <;> cases y <;> simp [Dy.pd, Dy.nm, PyData.eqv]
    | _ => simp [Dy.pd, Dy.nm, PyData.eqv]
  | .int x, b => by cases b <;> simp [Dy.pd, Dy.nm, PyData.eqv]
  | .str x, b => by cases b <;> simp [Dy.pd, Dy.nm, PyData.eqv]
  | .lst x, b => by
    cases b with
    | lst y => simp only [Dy.pd, Dy.nm, PyData.eqv, dys_eqv x y, Dy.lst.injEq]
    | _ => simp [Dy.pd, Dy.nm, PyData.eqv]
  | .tup x, b => by
    cases b with
    | tup y => simp only [Dy.pd, Dy.nm, PyData.eqv, dys_eqv x y, Dy.tup.injEq]
    | _ => simp [Dy.pd, Dy.nm, PyData.eqv]
theorem dys_eqv : ∀ a b : List Dy, PyData.eqvAll (pds a) (pds b) = true ↔ nms a = nms b
  | [], [] => by simp [pds, nms, PyData.eqvAll]
  | [], _ :: _ => by simp [pds, nms, PyData.eqvAll]
  | _ :: _, [] => by simp [pds, nms, PyData.eqvAll]
  | x :: r, y :: s => by simp only [pds, nms, PyData.eqvAll, Bool.and_eq_true, dy_eqv x y, dys_eqv r s, List.cons.injEq]
end
open Classical in
noncomputable def eqDy (a b : Dy) : R Bool := gd (min a.dp b.dp ≤ 60) (.ok (decide (a.nm = b.nm)))
/-! ### what is data -/
class DyN (α : Type) [Rp α] where
  dy : α → Dy
  to : ∀ {K : PySem.W.Frag} {H : Hp} {v : V} {a : α}, Rp.rep K H v a → dyR H (dy a) v
  un : Dy → Option α
  of : ∀ {K : PySem.W.Frag} {H : Hp} {v : V} {d : Dy} {a : α}, dyR H d v → un d = some a → Rp.rep K H v a
class DyC (α : Type) [Rp α] [DyN α] where
  un_dy : ∀ a : α, DyN.un (DyN.dy a) = some a
  dep : Nat
  deep : ∀ a : α, (DyN.dy a).dp ≤ dep
  inj : ∀ {a b : α}, (DyN.dy a).nm = (DyN.dy b).nm → a = b
instance : DyN Int := ⟨.int, fun h => h, fun d => match d with | .int n => some n | _ => none, fun {K H v d a} h e => by
  cases d <;> simp at e
  subst e
  exact h⟩
instance : DyC Int := ⟨fun _ => rfl, 0, fun _ => Nat.le_of_eq (by simp [DyN.dy, Dy.dp]), fun h => by simpa [DyN.dy, Dy.nm] using h⟩
instance : DyN Bool := ⟨.bl, fun h => h, fun d => match d with | .bl n => some n | _ => none, fun {K H v d a} h e => by
  cases d <;> simp at e
  subst e
  exact h⟩
instance : DyC Bool := ⟨fun _ => rfl, 0, fun _ => Nat.le_of_eq (by simp [DyN.dy, Dy.dp]), fun {a b} h => by cases a <;> cases b <;> simp [DyN.dy, Dy.nm] at h ⊢⟩
instance : DyN Str := ⟨.str, fun h => h, fun d => match d with | .str n => some n | _ => none, fun {K H v d a} h e => by
  cases d <;> simp at e
  subst e
  exact h⟩
instance : DyC Str := ⟨fun _ => rfl, 0, fun _ => Nat.le_of_eq (by simp [DyN.dy, Dy.dp]), fun h => by simpa [DyN.dy, Dy.nm] using h⟩
instance : DyN Unit := ⟨fun _ => .non, fun h => h, fun d => match d with | .non => some () | _ => none, fun {K H v d a} h e => by
  cases d <;> simp at e
  exact h⟩
instance : DyN Dy := ⟨fun d => d, fun h => h, some, fun {K H v d a} h e => by
  cases e
  exact h⟩
section
variable {α β γ : Type} [Rp α] [Rp β] [Rp γ] [DyN α] [DyN β] [DyN γ]
def unAll (un : Dy → Option α) : List Dy → Option (List α)
  | [] => some []
  | d :: l => match un d, unAll un l with
    | some a, some r => some (a :: r)
    | _, _ => none
theorem to_all {K : PySem.W.Frag} {H : Hp} : ∀ {vs : List V} {xs : List α}, All2 (Rp.rep K H) vs xs → dyRs H (xs.map DyN.dy) vs
  | _, _, .nil => rfl
  | _, _, .cons r t => ⟨_, _, rfl, DyN.to r, to_all t⟩
theorem of_all {K : PySem.W.Frag} {H : Hp} : ∀ {l : List Dy} {vs : List V} {xs : List α}, dyRs H l vs → unAll DyN.un l = some xs → All2 (Rp.rep K H) vs xs
  | [], vs, xs, h, e => by
    rw [show vs = [] from h, show xs = [] by simpa [unAll] using e.symm]
    exact .nil
  | d :: l, vs, xs, ⟨v, r, h1, h2, h3⟩, e => by
    subst h1
    unfold unAll at e
    cases q : (DyN.un d : Option α) with
    | none => rw [q] at e; simp at e
    | some a =>
      cases q2 : unAll (α := α) DyN.un l with
      | none => rw [q, q2] at e; simp at e
      | some t =>
        rw [q, q2] at e
        simp at e
        subst e
        exact .cons (DyN.of h2 q) (of_all h3 q2)
instance : DyN (List α) := ⟨fun xs => .lst (xs.map DyN.dy), fun {K H v a} ⟨p, vs, h1, h2, h3⟩ => ⟨p, vs, h1, h2, to_all h3⟩, fun d => match d with | .lst l => unAll DyN.un l | _ => none, fun {K H v d a} h e => by
  cases d with
  | lst l =>
    obtain ⟨p, vs, h1, h2, h3⟩ := h
    exact ⟨p, vs, h1, h2, of_all h3 e⟩
  | _ => simp at e⟩
instance : DyN (Tu α) := ⟨fun xs => .tup (xs.l.map DyN.dy), fun {K H v a} ⟨p, vs, h1, h2, h3⟩ => ⟨p, vs, h1, h2, to_all h3⟩, fun d => match d with | .tup l => (unAll DyN.un l).map Tu.mk | _ => none, fun {K H v d a} h e => by
  cases d with
  | tup l =>
    obtain ⟨p, vs, h1, h2, h3⟩ := h
    simp only [Option.map_eq_some_iff] at e
    obtain ⟨xs, q, rfl⟩ := e
    exact ⟨p, vs, h1, h2, of_all h3 q⟩
  | _ => simp at e⟩
instance : DyN (α × β) := ⟨fun t => .tup [DyN.dy t.1, DyN.dy t.2], fun {K H v a} ⟨p, x, y, h1, h2, h3, h4⟩ => ⟨p, _, h1, h2, x, _, rfl, DyN.to h3, y, _, rfl, DyN.to h4, rfl⟩, fun d => match d with
  | .tup [a, b] => match DyN.un a, DyN.un b with
    | some x, some y => some (x, y)
    | _, _ => none
  | _ => none, fun {K H v d t} h e => by
  rcases d with _ | _ | _ | _ | _ | l <;> try simp at e
  rcases l with _ | ⟨a, _ | ⟨b, _ | ⟨c, l⟩⟩⟩ <;> try simp at e
  obtain ⟨p, vs, h1, h2, x, r, rfl, h3, y, r2, rfl, h4, h5⟩ := h
  rw [show r2 = [] from h5] at h2
  cases q : (DyN.un a : Option α) with
  | none => rw [q] at e; simp at e
  | some a' =>
    cases q2 : (DyN.un b : Option β) with
    | none => rw [q, q2] at e; simp at e
    | some b' =>
      rw [q, q2] at e
      simp at e
      subst e
      exact ⟨p, x, y, h1, h2, DyN.of h3 q, DyN.of h4 q2⟩⟩
instance : DyN (T3 α β γ) := ⟨fun t => .tup [DyN.dy t.a, DyN.dy t.b, DyN.dy t.c], fun {K H v a} ⟨p, x, y, z, h1, h2, h3, h4, h5⟩ => ⟨p, _, h1, h2, x, _, rfl, DyN.to h3, y, _, rfl, DyN.to h4, z, _, rfl, DyN.to h5, rfl⟩, fun d => match d with
  | .tup [a, b, c] => match DyN.un a, DyN.un b, DyN.un c with
    | some x, some y, some z => some (T3.mk x y z)
    | _, _, _ => none
  | _ => none, fun {K H v d t} h e => by
  rcases d with _ | _ | _ | _ | _ | l <;> try simp at e
  rcases l with _ | ⟨a, _ | ⟨b, _ | ⟨c, _ | ⟨c2, l⟩⟩⟩⟩ <;> try simp at e
  obtain ⟨p, vs, h1, h2, x, r, rfl, h3, y, r2, rfl, h4, z, r3, rfl, h5, h6⟩ := h
  rw [show r3 = [] from h6] at h2
  cases q : (DyN.un a : Option α) with
  | none => rw [q] at e; simp at e
  | some a' =>
    cases q2 : (DyN.un b : Option β) with
    | none => rw [q, q2] at e; simp at e
    | some b' =>
      cases q3 : (DyN.un c : Option γ) with
      | none => rw [q, q2, q3] at e; simp at e
      | some c' =>
        rw [q, q2, q3] at e
        simp at e
        subst e
        exact ⟨p, x, y, z, h1, h2, DyN.of h3 q, DyN.of h4 q2, DyN.of h5 q3⟩⟩
variable [DyC α] [DyC β] [DyC γ]
theorem un_all : ∀ xs : List α, unAll DyN.un (xs.map DyN.dy) = some xs
  | [] => rfl
  | x :: l => by
    simp only [List.map_cons, unAll]
    rw [DyC.un_dy, un_all l]
theorem dps_all : ∀ xs : List α, dps (xs.map DyN.dy) ≤ DyC.dep α
  | [] => by simp [dps]
  | x :: l => by
    have h1 := DyC.deep x
    have h2 := dps_all l
    simp only [List.map_cons, dps]
    omega
theorem inj_all : ∀ {xs ys : List α}, nms (xs.map DyN.dy) = nms (ys.map DyN.dy) → xs = ys
  | [], [], _ => rfl
  | [], _ :: _, h => by simp [nms] at h
  | _ :: _, [], h => by simp [nms] at h
  | x :: l, y :: r, h => by
    simp only [List.map_cons, nms, List.cons.injEq] at h
    rw [DyC.inj h.1, inj_all h.2]
instance : DyC (List α) := ⟨fun a => un_all a, DyC.dep α + 1, fun a => by
  have := dps_all a
  simp only [DyN.dy, Dy.dp]
  omega, fun {a b} h => by
  simp only [DyN.dy, Dy.nm, Dy.lst.injEq] at h
  exact inj_all h⟩
instance : DyC (Tu α) := ⟨fun a => by simp only [DyN.un, DyN.dy, un_all]; rfl, DyC.dep α + 1, fun a => by
  have := dps_all a.l
  simp only [DyN.dy, Dy.dp]
  omega, fun {a b} h => by
  simp only [DyN.dy, Dy.nm, Dy.tup.injEq] at h
  cases a
  cases b
  simp at h ⊢
  exact inj_all h⟩
instance : DyC (α × β) := ⟨fun t => by simp only [DyN.un, DyN.dy, DyC.un_dy], max (DyC.dep α) (DyC.dep β) + 1, fun t => by
  have h1 := DyC.deep t.1
  have h2 := DyC.deep t.2
  simp only [DyN.dy, Dy.dp, dps]
  omega, fun {a b} h => by
  simp only [DyN.dy, Dy.nm, nms, Dy.tup.injEq, List.cons.injEq, and_true] at h
  exact Prod.ext (DyC.inj h.1) (DyC.inj h.2)⟩
instance : DyC (T3 α β γ) := ⟨fun t => by simp only [DyN.un, DyN.dy, DyC.un_dy], max (DyC.dep α) (max (DyC.dep β) (DyC.dep γ)) + 1, fun t => by
  have h1 := DyC.deep t.a
  have h2 := DyC.deep t.b
  have h3 := DyC.deep t.c
  simp only [DyN.dy, Dy.dp, dps]
  omega, fun {a b} h => by
  simp only [DyN.dy, Dy.nm, nms, Dy.tup.injEq, List.cons.injEq, and_true] at h
  cases a
  cases b
  simp at h ⊢
  exact ⟨DyC.inj h.1, DyC.inj h.2.1, DyC.inj h.2.2⟩⟩
end
/-- what may be None -/
instance {α : Type} [Rp α] [NN α] [DyN α] : DyN (Option α) := ⟨fun o => match o with | none => .non | some a => DyN.dy a, fun {K H v a} h => by
  cases a with
  | none => exact h
  | some a => exact DyN.to h.2, fun d => match d with
  | .non => some none
  | d => (DyN.un d).map some, fun {K H v d a} h e => by
  have key : ∀ d : Dy, dyR H d v → (DyN.un d : Option α).map some = some a → Rp.rep K H v a := fun d h e => by
    cases q : (DyN.un d : Option α) with
    | none => rw [q] at e; simp at e
    | some x =>
      rw [q] at e
      simp at e
      subst e
      have r := DyN.of (K := K) h q
      exact ⟨NN.nn r, r⟩
  cases d with
  | non =>
    simp at e
    subst e
    exact h
  | _ => exact key _ h e⟩
open Classical in
theorem eqDy_same {α : Type} [Rp α] [DyN α] [DyC α] [DecidableEq α] (h : DyC.dep α ≤ 60) (a b : α) : eqDy (DyN.dy a) (DyN.dy b) = .ok (decide (a = b)) := by
  unfold eqDy
  rw [gd_pos (by have := DyC.deep a; omega)]
  congr 1
  exact decide_eq_decide.mpr ⟨fun q => DyC.inj q, fun q => by rw [q]⟩
open Classical in
theorem eqDy_ne {a b : Dy} (h : min a.dp b.dp ≤ 60) (hn : a.nm ≠ b.nm) : eqDy a b = .ok false := by
  unfold eqDy
  rw [gd_pos h, decide_eq_false hn]
open Classical in
theorem eqDy_eq {a b : Dy} (h : min a.dp b.dp ≤ 60) (hn : a.nm = b.nm) : eqDy a b = .ok true := by
  unfold eqDy
  rw [gd_pos h, decide_eq_true hn]
def unD {α : Type} [Rp α] [DyN α] (d : Dy) : R α := match DyN.un d with
  | some a => .ok a
  | none => .bad
theorem unD_dy {α : Type} [Rp α] [DyN α] [DyC α] (a : α) : unD (DyN.dy a) = .ok a := by
  unfold unD
  rw [DyC.un_dy]
def dyIs (k : Nat) : Dy → Bool
  | .non => false
  | .bl _ => k == 0 || k == 1
  | .int _ => k == 0
  | .str _ => k == 2
  | .lst _ => k == 3
  | .tup _ => k == 4
def dyTy : Dy → String
  | .non => "NoneType"
  | .bl _ => "bool"
  | .int _ => "int"
  | .str _ => "str"
  | .lst _ => "list"
  | .tup _ => "tuple"
def Dy.isNon : Dy → Bool
  | .non => true
  | _ => false
def dySeq : Dy → R (List Dy)
  | .lst l => .ok l
  | .tup l => .ok l
  | _ => .bad
def dyL : Dy → R (List Dy)
  | .lst l => .ok l
  | _ => .bad
def dyT : Dy → R (List Dy)
  | .tup l => .ok l
  | _ => .bad
def dyLen (d : Dy) : R Int := R.bd (dySeq d) fun l => .ok (l.length : Int)
def dyIdx (d : Dy) (i : Int) : R Dy := R.bd (dySeq d) fun l => idx l i
def rIxA (K : PySem.W.Frag) : R2 := fun x y H Q => rIxL K x y H Q ∨ rIxT K x y H Q
theorem ix_any {X : Cx} : IxR X (rIxA X.K) := fun value slice pins s σ H x y v u Q I rx ry h hs => h.elim (fun h => ix_list value slice pins s σ H x y v u Q I rx ry h hs) (fun h => ix_tup value slice pins s σ H x y v u Q I rx ry h hs)
theorem ix_anyK {X : Cx} {K : PySem.W.Frag} (h : X.K = K) : IxR X (rIxA K) := by subst h; exact ix_any
section
variable {K : PySem.W.Frag} {E : XK} {σ : L2.St} {F H : Hp} {ta tb te tl : TE} {t u : TT} {α β γ δ ρ : Type} [Rp α] [Rp β] [Rp γ] [Rp δ] [Rp ρ]
theorem g_dy [DyN α] {m : R α} (h : Gr K E te σ F H m) : Gr K E te σ F H (R.bd m fun a => .ok (DyN.dy a)) := fun H1 e Q hq =>
  h H1 e Q (by rw [wp_bd] at hq; exact wp_mono hq (fun a _ k v H2 e2 r => k v H2 e2 (DyN.to r)) fun _ _ z => z)
theorem g_unD [DyN α] {m : R Dy} (h : Gr K E te σ F H m) : Gr K E te σ F H (R.bd m fun d => (unD d : R α)) := fun H1 e Q hq =>
  h H1 e Q (by
    rw [wp_bd] at hq
    refine wp_mono hq (fun a _ k v H2 e2 r => ?_) fun _ _ z => z
    unfold unD at k
    cases q : (DyN.un a : Option α) with
    | none => rw [q] at k; exact k.elim
    | some b => rw [q] at k; exact k v H2 e2 (DyN.of r q))
theorem g_nonDy : Gr K E (tC .non) σ F H (.ok Dy.non) := g_c fun _ => rfl
theorem g_isNDy {ma : R Dy} (ha : Gr K E ta σ F H ma) : Gr K E (tIsN ta) σ F H (R.bd ma fun a => .ok a.isNon) := fun H1 e Q hq =>
  gr_seq ha e hq fun a v H2 e2 r hq2 => by
    show Q (.bl (decide (v = .non))) H2
    have : decide (v = .non) = a.isNon := by
      cases a with
      | non => exact decide_eq_true r
      | bl b => exact decide_eq_false fun z => by rw [show v = V.bl b from r] at z; cases z
      | int b => exact decide_eq_false fun z => by rw [show v = V.int b from r] at z; cases z
      | str b => exact decide_eq_false fun z => by rw [show v = V.str b from r] at z; cases z
      | lst l => exact decide_eq_false fun z => by obtain ⟨p, vs, h1, _⟩ := r; rw [h1] at z; cases z
      | tup l => exact decide_eq_false fun z => by obtain ⟨p, vs, h1, _⟩ := r; rw [h1] at z; cases z
    rw [this]
    exact hq2 _ H2 (Same.refl _) rfl
theorem g_notNDy {ma : R Dy} (ha : Gr K E ta σ F H ma) : Gr K E (tNotN ta) σ F H (R.bd ma fun a => .ok (!a.isNon)) := fun H1 e Q hq =>
  gr_seq ha e hq fun a v H2 e2 r hq2 => by
    show Q (.bl (!decide (v = .non))) H2
    have : decide (v = .non) = a.isNon := by
      cases a with
      | non => exact decide_eq_true r
      | bl b => exact decide_eq_false fun z => by rw [show v = V.bl b from r] at z; cases z
      | int b => exact decide_eq_false fun z => by rw [show v = V.int b from r] at z; cases z
      | str b => exact decide_eq_false fun z => by rw [show v = V.str b from r] at z; cases z
      | lst l => exact decide_eq_false fun z => by obtain ⟨p, vs, h1, _⟩ := r; rw [h1] at z; cases z
      | tup l => exact decide_eq_false fun z => by obtain ⟨p, vs, h1, _⟩ := r; rw [h1] at z; cases z
    rw [this]
    exact hq2 _ H2 (Same.refl _) rfl
open Classical in
theorem dy_dec (a b : Dy) : PyData.eqv a.pd b.pd = decide (a.nm = b.nm) := by
  by_cases c : a.nm = b.nm
  · rw [decide_eq_true c]
    exact (dy_eqv a b).mpr c
  · rw [decide_eq_false c]
    exact Bool.eq_false_iff.mpr fun q => c ((dy_eqv a b).mp q)
theorem g_eqDy {ma mb : R Dy} (ha : Gr K E ta σ F H ma) (hb : Gr K E tb σ F H mb) (hF : Same F H) : Gr K E (tOp (rEqP K) ta tb) σ F H (R.bd ma fun a => R.bd mb fun b => eqDy a b) := fun H1 e Q hq =>
  gr_seq ha e hq fun a v H2 e2 r hq2 => gr_seq hb (e.trans e2) hq2 fun b w H3 e3 r3 hq3 => by
    unfold eqDy gd at hq3
    split at hq3
    · rename_i c
      refine ⟨_, _, dy_dp (dyR_mono ((mix_same hF (e.trans e2)).trans e3) r), dy_dp (dyR_mono (mix_same hF (e.trans (e2.trans e3))) r3), dy_lay a, dy_lay b, by rw [dy_deep, dy_deep]; omega, ?_⟩
      rw [dy_dec]
      exact hq3 _ H3 (Same.refl _) rfl
    · exact hq3.elim
theorem g_neDy {ma mb : R Dy} (ha : Gr K E ta σ F H ma) (hb : Gr K E tb σ F H mb) (hF : Same F H) : Gr K E (tOp (rNeP K) ta tb) σ F H (R.bd ma fun a => R.bd mb fun b => R.bd (eqDy a b) fun c => .ok (!c)) := fun H1 e Q hq =>
  gr_seq ha e hq fun a v H2 e2 r hq2 => gr_seq hb (e.trans e2) hq2 fun b w H3 e3 r3 hq3 => by
    unfold eqDy gd at hq3
    split at hq3
    · rename_i c
      refine ⟨_, _, dy_dp (dyR_mono ((mix_same hF (e.trans e2)).trans e3) r), dy_dp (dyR_mono (mix_same hF (e.trans (e2.trans e3))) r3), dy_lay a, dy_lay b, by rw [dy_deep, dy_deep]; omega, ?_⟩
      rw [dy_dec]
      exact hq3 _ H3 (Same.refl _) rfl
    · exact hq3.elim
theorem dy_tyX {d : Dy} {v : V} (h : dyR H d v) : TyX K H v (.type (dyTy d)) := by
  cases d with
  | non => rw [show v = V.non from h]; exact .base .non
  | bl b => rw [show v = V.bl b from h]; exact .base (.bl b)
  | int b => rw [show v = V.int b from h]; exact .base (.int b)
  | str b => rw [show v = V.str b from h]; exact .base (.str b)
  | lst l => obtain ⟨p, vs, h1, h2, _⟩ := h; rw [h1]; exact .base (.lst h2)
  | tup l => obtain ⟨p, vs, h1, h2, _⟩ := h; rw [h1]; exact .base (.tup h2)
def kdN : Nat → String
  | 0 => "int"
  | 1 => "bool"
  | 2 => "str"
  | 3 => "list"
  | _ => "tuple"
theorem kit_dy (d : Dy) (k : Nat) (hk : k < 5) : kitB (dyTy d) (kdN k) = some (dyIs k d) := by
  match k, hk with
  | 0, _ => cases d <;> simp only [dyTy, kdN, dyIs] <;> decide +kernel
  | 1, _ => cases d <;> simp only [dyTy, kdN, dyIs] <;> decide +kernel
  | 2, _ => cases d <;> simp only [dyTy, kdN, dyIs] <;> decide +kernel
  | 3, _ => cases d <;> simp only [dyTy, kdN, dyIs] <;> decide +kernel
  | 4, _ => cases d <;> simp only [dyTy, kdN, dyIs] <;> decide +kernel
theorem g_isiDy {m : R Dy} {k : Nat} {n : String} (h : Gr K E ta σ F H m) (hF : Same F H) (hk : k < 5 := by decide) (hn : kdN k = n := by rfl) : Gr K E (tCB (rIsi K) (tCons ta (tCons (tC (.ty n)) tNil))) σ F H (R.bd m fun d => .ok (dyIs k d)) := by
  subst hn
  exact fun H1 e Q hq => gr_seq h e hq fun a v H2 e2 r hq2 => ⟨v, _, _, _, _, rfl, .ty _, dy_tyX (dyR_mono (mix_same hF (e.trans e2)) r), kit_ty (kit_dy a k hk), hq2 _ H2 (Same.refl _) rfl⟩
theorem g_lenDy {m : R Dy} (h : Gr K E ta σ F H m) (hF : Same F H) : Gr K E (tCB (rLen K) (tCons ta tNil)) σ F H (R.bd m dyLen) := fun H1 e Q hq =>
  gr_seq h e hq fun d v H2 e2 r hq2 => by
    have key : ∀ (l : List Dy) (vs : List V), dyRs (mix F H H2) l vs → vs.length = l.length := fun l vs z => (dyRs_all (K := K) z).length
    cases d with
    | lst l =>
      obtain ⟨p, vs, rfl, hp, hv⟩ := r
      refine ⟨p, vs, rfl, .inl (SqL.of (mix_same hF (e.trans e2) p _ hp)), ?_⟩
      rw [key _ _ hv]
      exact hq2 _ H2 (Same.refl _) rfl
    | tup l =>
      obtain ⟨p, vs, rfl, hp, hv⟩ := r
      refine ⟨p, vs, rfl, .inr (SqT.of (mix_same hF (e.trans e2) p _ hp)), ?_⟩
      rw [key _ _ hv]
      exact hq2 _ H2 (Same.refl _) rfl
    | _ => exact hq2.elim
theorem g_idxDy {ma : R Dy} {mi : R Int} (ha : Gr K E ta σ F H ma) (hi : Gr K E tb σ F H mi) (hF : Same F H) : Gr K E (tOp (rIxA K) ta tb) σ F H (R.bd ma fun a => R.bd mi fun i => dyIdx a i) := fun H1 e Q hq =>
  gr_seq ha e hq fun d v H2 e2 r hq2 => gr_seq hi (e.trans e2) hq2 fun i w H3 e3 r3 hq3 => by
    have r3' : w = .int i := r3
    subst r3'
    have key : ∀ (l : List Dy) (vs : List V), dyRs (mix F H H2) l vs → Wp (idx l i) (fun b => ∀ v H4, Same H3 H4 → Rp.rep K (mix F H H4) v b → Q v H4) (EE K E H3) → ∃ z, atI vs i = some z ∧ Q z H3 := fun l vs hv hw => by
      unfold idx at hw
      cases q : atI l i with
      | none => rw [q] at hw; exact hw.elim
      | some a =>
        rw [q] at hw
        obtain ⟨x, hx, rx⟩ := all2_atI (dyRs_all (K := K) hv) q
        exact ⟨x, hx, hw x H3 (Same.refl _) (Rp.mono (mix_mono e3) rx)⟩
    cases d with
    | lst l =>
      obtain ⟨p, vs, rfl, hp, hv⟩ := r
      obtain ⟨z, h1, h2⟩ := key _ _ hv hq3
      exact .inl ⟨p, vs, i, z, rfl, rfl, SqL.of (e3 p _ (mix_same hF (e.trans e2) p _ hp)), h1, h2⟩
    | tup l =>
      obtain ⟨p, vs, rfl, hp, hv⟩ := r
      obtain ⟨z, h1, h2⟩ := key _ _ hv hq3
      exact .inr ⟨p, vs, i, z, rfl, rfl, SqT.of (e3 p _ (mix_same hF (e.trans e2) p _ hp)), h1, h2⟩
    | _ => exact hq3.elim
/-- as a list, as a tuple (told anew by nobody: the same value) -/
theorem g_dyL {m : R Dy} (h : Gr K E ta σ F H m) : Gr K E ta σ F H (R.bd m dyL) := fun H1 e Q hq =>
  h H1 e Q (by
    rw [wp_bd] at hq
    refine wp_mono hq (fun d _ k v H2 e2 r => ?_) fun _ _ z => z
    cases d with
    | lst l =>
      obtain ⟨p, vs, rfl, hp, hv⟩ := r
      exact k _ H2 e2 ⟨p, vs, rfl, hp, dyRs_all hv⟩
    | _ => exact k.elim)
theorem g_dyT {m : R Dy} (h : Gr K E ta σ F H m) : Gr K E ta σ F H (R.bd m fun d => R.bd (dyT d) fun l => .ok (Tu.mk l)) := fun H1 e Q hq =>
  h H1 e Q (by
    rw [wp_bd] at hq
    refine wp_mono hq (fun d _ k v H2 e2 r => ?_) fun _ _ z => z
    cases d with
    | tup l =>
      obtain ⟨p, vs, rfl, hp, hv⟩ := r
      exact k _ H2 e2 ⟨p, vs, rfl, hp, dyRs_all hv⟩
    | _ => exact k.elim)
/-- a part of a tuple that isn't all of it -/
noncomputable def cutT {α : Type} (xs : List α) (lo hi : Option Int) : R (List α) := gd (¬ (HT.sIx xs.length 0 lo = 0 ∧ HT.sIx xs.length xs.length hi = xs.length)) (.ok (cut xs lo hi))
theorem g_cutT {tlo thi : TO} {m : R (Tu α)} {mlo mhi : R (Option Int)} (h : Gr K E ta σ F H m) (hlo : GrO K E tlo σ H mlo) (hhi : GrO K E thi σ H mhi) (hF : Same F H) :
    Gr K E (tSl (rSlT K) ta tlo thi) σ F H (R.bd m fun xs => R.bd mlo fun lo => R.bd mhi fun hi => R.bd (cutT xs.l lo hi) fun l => .ok (Tu.mk l)) := fun H1 e Q hq =>
  gr_seq h e hq fun xs v H2 e2 r hq2 => gro_seq hlo (e.trans e2) hq2 fun lo H3 e3 hq3 => gro_seq hhi (e.trans (e2.trans e3)) hq3 fun hi H4 e4 hq4 => by
    obtain ⟨p, vs, rfl, hp, hv⟩ := r
    unfold cutT gd at hq4
    split at hq4
    · rename_i c
      refine ⟨p, vs, rfl, SqT.of (e4 p _ (e3 p _ (mix_same hF (e.trans e2) p _ hp))), by rw [hv.length]; exact c, fun l hl => hq4 _ _ (same_upd hl) ?_⟩
      have hn : H l = none := Same.free (e.trans (e2.trans (e3.trans e4))) hl
      exact ⟨l, _, rfl, by rw [mix_new hn]; exact upd_same, all2_cut (hv.mono fun _ _ x => Rp.mono (mix_mono (e3.trans (e4.trans (same_upd hl)))) x)⟩
    · exact hq4.elim
/-- a tuple display of one kind -/
theorem g_tuD {t : TA} {m : R (List α)} (h : GrA K E t σ F H m) : Gr K E (tTup t) σ F H (R.bd m fun as => gd (as.length ≤ lim) (.ok (Tu.mk as))) := fun H1 e Q hq =>
  h H1 e _ (by
    rw [wp_bd] at hq
    refine wp_mono hq (fun as _ k vs H2 e2 r => ?_) fun _ _ z => z
    unfold gd at k
    split at k
    · rename_i c
      refine ⟨lim_line (by rw [r.length]; exact c), fun p hp => k _ _ (e2.trans (same_upd hp)) ?_⟩
      have hn : H p = none := Same.free (e.trans e2) hp
      exact ⟨p, vs, rfl, by rw [mix_new hn]; exact upd_same, r.mono fun _ _ x => Rp.mono (mix_mono (same_upd hp)) x⟩
    · exact k.elim)
theorem g_tuK {t : TA} {as : List α} (h : GrA K E t σ F H (.ok as)) (hl : as.length ≤ lim := by decide) : Gr K E (tTup t) σ F H (.ok (Tu.mk as)) := fun H1 e Q hq =>
  g_tuD h H1 e Q (by rw [wp_bd]; show Wp (gd _ _) _ _; rw [gd_pos hl]; exact hq)
theorem eqV_str (a b : Str) : eqV (Sc.enc a) (Sc.enc b) = decide (a = b) := by
  show eqV (V.str a) (V.str b) = decide (a = b)
  simp only [eqV]
  exact Bool.beq_eq_decide_eq a b
end
theorem sl_tupK {X : Cx} {K : PySem.W.Frag} (h : X.K = K) : SlR X (rSlT K) := by subst h; exact sl_tup
end G

set_option Elab.async false
set_option linter.all false
set_option maxRecDepth 100000
set_option maxHeartbeats 4000000
/-! G: order: <, min, max, sorted; longer calls. -/
namespace G
open PySem PySem.Spec PyProof.Rows L2
/-- data in order -/
class Od (α : Type) [Rp α] [De α] where
  lt : α → α → Bool
  alike : ∀ a b : α, W.alike (De.toD a) (De.toD b) = true
  nn : ∀ a : α, De.toD a ≠ .none
  lt_eq : ∀ a b : α, W.dataLt (De.toD a) (De.toD b) = lt a b
  nt : ∀ a : α, (∀ xs, De.toD a ≠ .tuple xs) ∨ ∃ xs, De.toD a = .tuple xs
instance : Od Int := ⟨fun a b => decide (a < b), fun _ _ => rfl, (fun _ z => by cases z), fun a b => W.dataLt_int a b, (fun _ => .inl fun _ z => by cases z)⟩
/-- the first place that differs -/
def ltL {α : Type} [DecidableEq α] (lt : α → α → Bool) : List α → List α → Bool
  | [], [] => false
  | [], _ :: _ => true
  | _ :: _, [] => false
  | x :: xs, y :: ys => if x = y then ltL lt xs ys else lt x y
section
variable {α β γ : Type} [Rp α] [Rp β] [Rp γ] [De α] [De β] [De γ] [Od α] [Od β] [Od γ] [DecidableEq α] [DecidableEq β] [DecidableEq γ]
theorem alike_all : ∀ xs ys : List α, W.alikeAll (xs.map De.toD) (ys.map De.toD) = true
  | [], _ => by simp [W.alikeAll]
  | _ :: _, [] => by simp [W.alikeAll]
  | x :: xs, y :: ys => by
    simp only [List.map_cons, W.alikeAll, Bool.and_eq_true]
    exact ⟨Od.alike x y, alike_all xs ys⟩
theorem toks_nil : W.keyToksAll [] = [.inl 0] := by simp [W.keyToksAll]
theorem rows_lt : ∀ xs ys : List α, PyProof.Rows.lexLt itemOrd (W.keyToksAll (xs.map De.toD)) (W.keyToksAll (ys.map De.toD)) = ltL Od.lt xs ys
  | [], [] => by
    simp only [List.map_nil, W.keyToksAll, ltL]
    decide
  | [], y :: ys => by
    simp only [List.map_nil, List.map_cons, W.keyToksAll, ltL]
    exact (W.lex_atom (by decide) _ _).trans ((W.lex_one _ _).trans (by decide))
  | x :: xs, [] => by
    simp only [List.map_nil, List.map_cons, W.keyToksAll, ltL]
    exact (W.lex_atom (by decide) _ _).trans ((W.lex_one _ _).trans (by decide))
  | x :: xs, y :: ys => by
    simp only [List.map_cons]
    rw [W.dataLt_cons (Od.alike x y), rows_lt xs ys, eqv_dec, Od.lt_eq]
    show _ = if x = y then ltL Od.lt xs ys else Od.lt x y
    by_cases c : x = y
    · rw [if_pos (decide_eq_true c), if_pos c]
    · rw [if_neg (by rw [decide_eq_false c]; decide), if_neg c]
instance : Od (List α) := ⟨ltL Od.lt, fun a b => by
    show W.alike (.list _) (.list _) = true
    simp only [W.alike]
    exact alike_all a b, (fun _ z => by cases z), fun a b => by
    show W.dataLt (.list _) (.list _) = _
    rw [W.dataLt_list]
    exact rows_lt a b, (fun _ => .inl fun _ z => by cases z)⟩
instance : Od (Tu α) := ⟨fun a b => ltL Od.lt a.l b.l, fun a b => by
    show W.alike (.tuple _) (.tuple _) = true
    simp only [W.alike]
    exact alike_all a.l b.l, (fun _ z => by cases z), fun a b => by
    show W.dataLt (.tuple _) (.tuple _) = _
    rw [W.dataLt_tuple]
    exact rows_lt a.l b.l, fun a => .inr ⟨_, rfl⟩⟩
def ltP (a b : α × β) : Bool := if a.1 = b.1 then (if a.2 = b.2 then false else Od.lt a.2 b.2) else Od.lt a.1 b.1
instance : Od (α × β) := ⟨ltP, fun a b => by
    show W.alike (.tuple _) (.tuple _) = true
    simp only [W.alike, W.alikeAll, Bool.and_eq_true, and_true]
    exact ⟨Od.alike _ _, Od.alike _ _⟩, (fun _ z => by cases z), fun a b => by
    show W.dataLt (.tuple [_, _]) (.tuple [_, _]) = _
    rw [W.dataLt_pair (Od.alike _ _) (Od.alike _ _), eqv_dec, eqv_dec, Od.lt_eq, Od.lt_eq]
    unfold ltP
    by_cases c : a.1 = b.1 <;> by_cases c2 : a.2 = b.2 <;> simp [c, c2], fun a => .inr ⟨_, rfl⟩⟩
end
theorem none_back {P : Addr → Prop} {F H F1 H1 : Hp} {p : Addr} (a : Nx P F H F1 H1) (h : H1 p = none) : H p = none := by
  cases q : H p with
  | none => rfl
  | some u =>
    obtain ⟨o, ho, _⟩ := a.th p u q
    rw [h] at ho
    cases ho
theorem via_of {P : Addr → Prop} {F H F1 H1 : Hp} {p : Addr} {C : Prop} (a : Nx P F H F1 H1) (ho : C ∨ H1 p = none) (h0 : ∀ q, q = p → C → P q ∨ H q = none) : ∀ q, q = p → P q ∨ H q = none := fun q z => ho.elim (h0 q z) fun h => .inr (by rw [z]; exact none_back a h)
/-! ### <, >, ≤, ≥ -/
def rLtP (K : PySem.W.Frag) : R2 := fun x y H Q => ∃ d e, Dp K H x d ∧ Dp K H y e ∧ W.alike d e = true ∧ d ≠ .none ∧ min d.depth e.depth ≤ 64 ∧ Q (.bl (W.dataLt d e)) H
def rGtP (K : PySem.W.Frag) : R2 := fun x y H Q => ∃ d e, Dp K H x d ∧ Dp K H y e ∧ W.alike d e = true ∧ d ≠ .none ∧ min d.depth e.depth ≤ 64 ∧ Q (.bl (W.dataLt e d)) H
def rLeP (K : PySem.W.Frag) : R2 := fun x y H Q => ∃ d e, Dp K H x d ∧ Dp K H y e ∧ W.alike d e = true ∧ d ≠ .none ∧ min d.depth e.depth ≤ 64 ∧ Q (.bl (!W.dataLt e d)) H
def rGeP (K : PySem.W.Frag) : R2 := fun x y H Q => ∃ d e, Dp K H x d ∧ Dp K H y e ∧ W.alike d e = true ∧ d ≠ .none ∧ min d.depth e.depth ≤ 64 ∧ Q (.bl (!W.dataLt d e)) H
section
variable {X : Cx}
theorem op_ltP (hu : X.A.units + 64 < cLine) : OpR X (compareOp .Lt) (rLtP X.K) := by
  intro pins s σ H x y v u Q I rx ry h
  obtain ⟨d, e, hd, he, sd, se, hm, q⟩ := h
  obtain ⟨as, r1⟩ := Dp.reads I d x v hd rx
  obtain ⟨bs, r2⟩ := Dp.reads I e y u he ry
  exact W.lt_data r1 r2 sd se (by omega) ⟨.bl _, H, I, rfl, q⟩
theorem op_gtP (hu : X.A.units + 64 < cLine) : OpR X (compareOp .Gt) (rGtP X.K) := by
  intro pins s σ H x y v u Q I rx ry h
  obtain ⟨d, e, hd, he, sd, se, hm, q⟩ := h
  obtain ⟨as, r1⟩ := Dp.reads I d x v hd rx
  obtain ⟨bs, r2⟩ := Dp.reads I e y u he ry
  exact W.gt_data r1 r2 sd se (by omega) ⟨.bl _, H, I, rfl, q⟩
theorem op_leP (hu : X.A.units + 64 < cLine) : OpR X (compareOp .LtE) (rLeP X.K) := by
  intro pins s σ H x y v u Q I rx ry h
  obtain ⟨d, e, hd, he, sd, se, hm, q⟩ := h
  obtain ⟨as, r1⟩ := Dp.reads I d x v hd rx
  obtain ⟨bs, r2⟩ := Dp.reads I e y u he ry
  exact W.le_data r1 r2 sd se (by omega) ⟨.bl _, H, I, rfl, q⟩
theorem op_geP (hu : X.A.units + 64 < cLine) : OpR X (compareOp .GtE) (rGeP X.K) := by
  intro pins s σ H x y v u Q I rx ry h
  obtain ⟨d, e, hd, he, sd, se, hm, q⟩ := h
  obtain ⟨as, r1⟩ := Dp.reads I d x v hd rx
  obtain ⟨bs, r2⟩ := Dp.reads I e y u he ry
  exact W.ge_data r1 r2 sd se (by omega) ⟨.bl _, H, I, rfl, q⟩
/-! ### min, max -/
def bestD (lt : PyData → PyData → Bool) (x : PyData) (xs : List PyData) : PyData := xs.foldl (fun a y => if lt y a then y else a) x
def rMinP (K : PySem.W.Frag) : List V → Hp → VK → Prop := fun vs H Q => ∃ (a : Addr) (ys : List V) (d : PyData) (ds : List PyData), vs = [V.ref a] ∧ SqL K H a ys ∧ DpAll K H ys (d :: ds) ∧ W.AlikeAll (d :: ds) ∧ PyData.plainAll (d :: ds) = true ∧ PyData.depthAll (d :: ds) ≤ 60 ∧
  ∀ (i : Nat) (v : V), ys[i]? = some v → (d :: ds)[i]? = some (W.minD d ds) → Q v H
def rMaxP (K : PySem.W.Frag) : List V → Hp → VK → Prop := fun vs H Q => ∃ (a : Addr) (ys : List V) (d : PyData) (ds : List PyData), vs = [V.ref a] ∧ SqL K H a ys ∧ DpAll K H ys (d :: ds) ∧ W.AlikeAll (d :: ds) ∧ PyData.plainAll (d :: ds) = true ∧ PyData.depthAll (d :: ds) ≤ 60 ∧
  ∀ (i : Nat) (v : V), ys[i]? = some v → (d :: ds)[i]? = some (W.maxD d ds) → Q v H
theorem plain_at : ∀ {ds : List PyData} {i : Nat} {d : PyData}, PyData.plainAll ds = true → ds[i]? = some d → d.plain = true
  | [], _, _, _, e => by simp at e
  | x :: l, 0, d, h, e => by
    simp at e
    subst e
    simp only [PyData.plainAll, Bool.and_eq_true] at h
    exact h.1
  | x :: l, i + 1, d, h, e => by
    simp only [PyData.plainAll, Bool.and_eq_true] at h
    exact plain_at (i := i) h.2 (by simpa using e)
theorem readsAll_get {h : Heap} {vs : Array Value} {xs : List PyData} {as : List Addr} (hr : ReadsAll h vs.toList xs as) {i : Nat} {v : Value} (hv : vs[i]? = some v) : ∃ bs d, Reads h v d bs ∧ xs[i]? = some d := by
  obtain ⟨bs, r, hl, _, _⟩ := W.readsAll_atA hr i v hv
  have e := List.getElem?_eq_getElem hl
  rw [List.getD_eq_getElem?_getD, e] at r
  exact ⟨bs, _, r, e⟩
theorem cr_minP (hc : X.calm = true) (hu : X.A.units + 64 < cLine) : CallR X (.builtin "min") (rMinP X.K) := by
  intro pins s σ H vs us Q I r h
  obtain ⟨a, ys, d, ds, rfl, hs, hd, hal, hpl, hdp, q⟩ := h
  obtain ⟨its, rv, hl, hz⟩ := I.list hs
  rw [Vals.ref1 r]
  obtain ⟨as, hr⟩ := Dp.readsAll I _ _ _ hd rv
  refine W.min_list_data (I.ok.hd hc) hl.isList (vs := its.toArray) (by simpa using hr) hal (by omega) fun i v h' tk bs hv hR hk => ?_
  have hv' : its[i]? = some v := by simpa using hv
  obtain ⟨bs2, e, r2, he⟩ := readsAll_get (vs := its.toArray) (by simpa using hr) hv
  have hlen := rv.length
  have hi : i < ys.length := by
    have := (List.getElem?_eq_some_iff.mp hv').1
    omega
  obtain ⟨u, hu1, hu2⟩ := Vals.get (i := i) (x := ys[i]) rv (List.getElem?_eq_getElem hi)
  rw [hv'] at hu1
  cases hu1
  have : e = W.minD d ds := SeqAt.plain_unique e _ v bs2 bs (plain_at hpl he) (W.reads_keeps hk r2) hR
  rw [this] at he
  exact ⟨_, H, I.kept hk, hu2, q i _ (List.getElem?_eq_getElem hi) he⟩
theorem cr_maxP (hc : X.calm = true) (hu : X.A.units + 64 < cLine) : CallR X (.builtin "max") (rMaxP X.K) := by
  intro pins s σ H vs us Q I r h
  obtain ⟨a, ys, d, ds, rfl, hs, hd, hal, hpl, hdp, q⟩ := h
  obtain ⟨its, rv, hl, hz⟩ := I.list hs
  rw [Vals.ref1 r]
  obtain ⟨as, hr⟩ := Dp.readsAll I _ _ _ hd rv
  refine W.max_list_data (I.ok.hd hc) hl.isList (vs := its.toArray) (by simpa using hr) hal (by omega) fun i v h' tk bs hv hR hk => ?_
  have hv' : its[i]? = some v := by simpa using hv
  obtain ⟨bs2, e, r2, he⟩ := readsAll_get (vs := its.toArray) (by simpa using hr) hv
  have hlen := rv.length
  have hi : i < ys.length := by
    have := (List.getElem?_eq_some_iff.mp hv').1
    omega
  obtain ⟨u, hu1, hu2⟩ := Vals.get (i := i) (x := ys[i]) rv (List.getElem?_eq_getElem hi)
  rw [hv'] at hu1
  cases hu1
  have : e = W.maxD d ds := SeqAt.plain_unique e _ v bs2 bs (plain_at hpl he) (W.reads_keeps hk r2) hR
  rw [this] at he
  exact ⟨_, H, I.kept hk, hu2, q i _ (List.getElem?_eq_getElem hi) he⟩
/-! ### sorted -/
def rSortA (α : Type) [Rp α] [De α] [Od α] (K : PySem.W.Frag) : List V → Hp → VK → Prop := fun vs H Q => ∃ (a : Addr) (ps : List (V × α)), vs = [V.ref a] ∧ SqL K H a (ps.map Prod.fst) ∧ (∀ p ∈ ps, Dp K H p.1 (De.toD p.2)) ∧ W.Sortable (ps.map fun p => De.toD p.2) ∧ ps.length ≤ lim ∧ De.dep α ≤ 60 ∧
  ∀ l, H l = none → Q (.ref l) (upd H l (.lst ((ps.mergeSort fun a b => !Od.lt b.2 a.2).map Prod.fst)))
theorem each_of {α : Type} [Rp α] [De α] {pins : List (Addr × Obj)} {σ : L2.St} {H : Hp} {s : Shared} (I : Inv X pins σ H s) : ∀ {ps : List (V × α)} {us : List Value}, Vals (ps.map Prod.fst) us → (∀ p ∈ ps, Dp X.K H p.1 (De.toD p.2)) → W.EachIs (fun (v : Value) (p : V × α) => RelV p.1 v) us ps ∧ W.EachIs (fun (v : Value) (p : V × α) => ∃ as, Reads s.heap v (De.toD p.2) as) us ps
  | [], _, .nil, _ => ⟨.nil, .nil⟩
  | p :: ps, _, .cons r t, h => by
    obtain ⟨a, b⟩ := each_of I t fun q hq => h q (List.mem_cons_of_mem _ hq)
    exact ⟨.cons r a, .cons (Dp.reads I _ _ _ (h p List.mem_cons_self) r) b⟩
theorem vals_each {α : Type} : ∀ {us : List Value} {ps : List (V × α)}, W.EachIs (fun (v : Value) (p : V × α) => RelV p.1 v) us ps → Vals (ps.map Prod.fst) us
  | _, _, .nil => .nil
  | _, _, .cons r t => .cons r (vals_each t)
theorem cr_sortA {α : Type} [Rp α] [De α] [Od α] (hu : X.A.units + 64 < cLine) : CallR X (.builtin "sorted") (rSortA α X.K) := by
  intro pins s σ H vs us Q I r h
  obtain ⟨a, ps, rfl, hs, hd, hk, hL, hdep, q⟩ := h
  obtain ⟨its, rv, hl, hz⟩ := I.list hs
  rw [Vals.ref1 r]
  obtain ⟨e1, e2⟩ := each_of I rv hd
  refine W.sorted_data (enc := fun p : V × α => De.toD p.2) hl.isList e1 e2 (W.AllAlike.of fun b b' => Od.alike _ _) hk (lim_line hL) (fun b _ => by have := De.deep b.2; omega) fun out hlen hE => ?_
  obtain ⟨ep, he'⟩ := PyProof.Rows.sortedAll_at s.heap its out.toArray
  have hsz : ((ps.mergeSort fun a b => !Od.lt b.2 a.2).map Prod.fst).length ≤ sizeLine := by rw [List.length_map, List.length_mergeSort]; exact lim_line hL
  have hcmp : (W.dataLe false fun p : V × α => De.toD p.2) = fun a b => !Od.lt b.2 a.2 := by
    rw [W.dataLe_eq]
    funext a b
    show (!W.dataLt _ _) = _
    rw [Od.lt_eq]
  rw [hcmp] at hE
  exact ⟨.ref _, upd H (s.heap.objs.size + 1) (.lst ((ps.mergeSort fun a b => !Od.lt b.2 a.2).map Prod.fst)), I.laid (t' := s.toks) (fun _ _ => PyProof.Rows.sortedAll_old) (Nat.le_succ _) ⟨hsz, out, ep, vals_each hE, he'⟩, rfl, q _ (I.hok.fresh (Nat.le_succ _))⟩
end
section
variable {K : PySem.W.Frag} {E : XK} {σ : L2.St} {F H : Hp} {ta tb te tl : TE} {t u : TT} {α β γ δ ρ : Type} [Rp α] [Rp β] [Rp γ] [Rp δ] [Rp ρ]
theorem g_ltP [De α] [Od α] {ma mb : R α} (ha : Gr K E ta σ F H ma) (hb : Gr K E tb σ F H mb) (hF : Same F H) (hd : De.dep α ≤ 60 := by decide) : Gr K E (tOp (rLtP K) ta tb) σ F H (R.bd ma fun a => R.bd mb fun b => .ok (Od.lt a b)) := fun H1 e Q hq =>
  gr_seq ha e hq fun a v H2 e2 r hq2 => gr_seq hb (e.trans e2) hq2 fun b w H3 e3 r3 hq3 => by
    refine ⟨_, _, De.dp (Rp.mono ((mix_same hF (e.trans e2)).trans e3) r), De.dp (Rp.mono (mix_same hF (e.trans (e2.trans e3))) r3), Od.alike a b, Od.nn a, by have := De.deep a; omega, ?_⟩
    rw [Od.lt_eq]
    exact hq3 _ H3 (Same.refl _) rfl
theorem g_gtP [De α] [Od α] {ma mb : R α} (ha : Gr K E ta σ F H ma) (hb : Gr K E tb σ F H mb) (hF : Same F H) (hd : De.dep α ≤ 60 := by decide) : Gr K E (tOp (rGtP K) ta tb) σ F H (R.bd ma fun a => R.bd mb fun b => .ok (Od.lt b a)) := fun H1 e Q hq =>
  gr_seq ha e hq fun a v H2 e2 r hq2 => gr_seq hb (e.trans e2) hq2 fun b w H3 e3 r3 hq3 => by
    refine ⟨_, _, De.dp (Rp.mono ((mix_same hF (e.trans e2)).trans e3) r), De.dp (Rp.mono (mix_same hF (e.trans (e2.trans e3))) r3), Od.alike a b, Od.nn a, by have := De.deep a; omega, ?_⟩
    rw [Od.lt_eq]
    exact hq3 _ H3 (Same.refl _) rfl
theorem g_leP [De α] [Od α] {ma mb : R α} (ha : Gr K E ta σ F H ma) (hb : Gr K E tb σ F H mb) (hF : Same F H) (hd : De.dep α ≤ 60 := by decide) : Gr K E (tOp (rLeP K) ta tb) σ F H (R.bd ma fun a => R.bd mb fun b => .ok (!Od.lt b a)) := fun H1 e Q hq =>
  gr_seq ha e hq fun a v H2 e2 r hq2 => gr_seq hb (e.trans e2) hq2 fun b w H3 e3 r3 hq3 => by
    refine ⟨_, _, De.dp (Rp.mono ((mix_same hF (e.trans e2)).trans e3) r), De.dp (Rp.mono (mix_same hF (e.trans (e2.trans e3))) r3), Od.alike a b, Od.nn a, by have := De.deep a; omega, ?_⟩
    rw [Od.lt_eq]
    exact hq3 _ H3 (Same.refl _) rfl
theorem g_geP [De α] [Od α] {ma mb : R α} (ha : Gr K E ta σ F H ma) (hb : Gr K E tb σ F H mb) (hF : Same F H) (hd : De.dep α ≤ 60 := by decide) : Gr K E (tOp (rGeP K) ta tb) σ F H (R.bd ma fun a => R.bd mb fun b => .ok (!Od.lt a b)) := fun H1 e Q hq =>
  gr_seq ha e hq fun a v H2 e2 r hq2 => gr_seq hb (e.trans e2) hq2 fun b w H3 e3 r3 hq3 => by
    refine ⟨_, _, De.dp (Rp.mono ((mix_same hF (e.trans e2)).trans e3) r), De.dp (Rp.mono (mix_same hF (e.trans (e2.trans e3))) r3), Od.alike a b, Od.nn a, by have := De.deep a; omega, ?_⟩
    rw [Od.lt_eq]
    exact hq3 _ H3 (Same.refl _) rfl
def minLR {α : Type} (lt : α → α → Bool) : List α → R α
  | [] => .bad
  | x :: l => .ok (l.foldl (fun a y => if lt y a = true then y else a) x)
def maxLR {α : Type} (lt : α → α → Bool) : List α → R α
  | [] => .bad
  | x :: l => .ok (l.foldl (fun a y => if lt a y = true then y else a) x)
theorem minD_map [De α] [Od α] : ∀ (l : List α) (x : α), W.minD (De.toD x) (l.map De.toD) = De.toD (l.foldl (fun a y => if Od.lt y a = true then y else a) x)
  | [], _ => rfl
  | y :: l, x => by
    unfold W.minD
    rw [List.map_cons, List.foldl_cons, List.foldl_cons, Od.lt_eq]
    by_cases c : Od.lt y x = true
    · rw [if_pos c, if_pos c]; exact minD_map l y
    · rw [if_neg c, if_neg c]; exact minD_map l x
theorem maxD_map [De α] [Od α] : ∀ (l : List α) (x : α), W.maxD (De.toD x) (l.map De.toD) = De.toD (l.foldl (fun a y => if Od.lt a y = true then y else a) x)
  | [], _ => rfl
  | y :: l, x => by
    unfold W.maxD
    rw [List.map_cons, List.foldl_cons, List.foldl_cons, Od.lt_eq]
    by_cases c : Od.lt x y = true
    · rw [if_pos c, if_pos c]; exact maxD_map l y
    · rw [if_neg c, if_neg c]; exact maxD_map l x
theorem toD_inj [De α] {a b : α} (h : De.toD a = De.toD b) : a = b := (De.eqv a b).mp (by rw [h]; exact SeqAt.eqv_refl_plain _ (De.lay b))
theorem alikeAll_map [De α] [Od α] (xs : List α) : W.AlikeAll (xs.map De.toD) := ⟨fun a ha b hb => by
    obtain ⟨x, _, rfl⟩ := List.mem_map.mp ha
    obtain ⟨y, _, rfl⟩ := List.mem_map.mp hb
    exact Od.alike x y, fun a ha => by
    obtain ⟨x, _, rfl⟩ := List.mem_map.mp ha
    exact Od.nn x⟩
theorem g_minP [De α] [Od α] {m : R (List α)} (h : Gr K E ta σ F H m) (hF : Same F H) (hd : De.dep α ≤ 60 := by decide) : Gr K E (tCB (rMinP K) (tCons ta tNil)) σ F H (R.bd m (minLR Od.lt)) := fun H1 e Q hq =>
  gr_seq h e hq fun xs v H2 e2 r hq2 => by
    obtain ⟨p, vs, rfl, hp, hv⟩ := r
    cases xs with
    | nil => exact hq2.elim
    | cons x l =>
      have hv2 := hv.mono fun _ _ z => Rp.mono (mix_same hF (e.trans e2)) z
      refine ⟨p, vs, De.toD x, l.map De.toD, rfl, SqL.of (mix_same hF (e.trans e2) p _ hp), dpAll_of (xs := x :: l) hv2, alikeAll_map (x :: l), plainAll_map (x :: l), by have := deepAll (x :: l); simp only [List.map_cons] at this; omega, fun i w hw hm => ?_⟩
      obtain ⟨a, ha, ra⟩ := hv.getL hw
      have : (De.toD a : PyData) = W.minD (De.toD x) (l.map De.toD) := by
        have z : ((x :: l).map De.toD)[i]? = some (De.toD a) := by rw [List.getElem?_map, ha]; rfl
        rw [List.map_cons, hm] at z
        exact (Option.some.inj z).symm
      rw [minD_map] at this
      have := toD_inj this
      exact hq2 w H2 (Same.refl _) (by rw [← this]; exact ra)
theorem g_maxP [De α] [Od α] {m : R (List α)} (h : Gr K E ta σ F H m) (hF : Same F H) (hd : De.dep α ≤ 60 := by decide) : Gr K E (tCB (rMaxP K) (tCons ta tNil)) σ F H (R.bd m (maxLR Od.lt)) := fun H1 e Q hq =>
  gr_seq h e hq fun xs v H2 e2 r hq2 => by
    obtain ⟨p, vs, rfl, hp, hv⟩ := r
    cases xs with
    | nil => exact hq2.elim
    | cons x l =>
      have hv2 := hv.mono fun _ _ z => Rp.mono (mix_same hF (e.trans e2)) z
      refine ⟨p, vs, De.toD x, l.map De.toD, rfl, SqL.of (mix_same hF (e.trans e2) p _ hp), dpAll_of (xs := x :: l) hv2, alikeAll_map (x :: l), plainAll_map (x :: l), by have := deepAll (x :: l); simp only [List.map_cons] at this; omega, fun i w hw hm => ?_⟩
      obtain ⟨a, ha, ra⟩ := hv.getL hw
      have : (De.toD a : PyData) = W.maxD (De.toD x) (l.map De.toD) := by
        have z : ((x :: l).map De.toD)[i]? = some (De.toD a) := by rw [List.getElem?_map, ha]; rfl
        rw [List.map_cons, hm] at z
        exact (Option.some.inj z).symm
      rw [maxD_map] at this
      have := toD_inj this
      exact hq2 w H2 (Same.refl _) (by rw [← this]; exact ra)
/-! sorted -/
theorem zip_fst : ∀ {vs : List V} {xs : List α}, vs.length = xs.length → (vs.zip xs).map Prod.fst = vs
  | [], [], _ => rfl
  | [], _ :: _, h => by simp at h
  | _ :: _, [], h => by simp at h
  | v :: vs, x :: xs, h => by
    rw [List.zip_cons_cons, List.map_cons, zip_fst (by simpa using h)]
theorem zip_snd : ∀ {vs : List V} {xs : List α}, vs.length = xs.length → (vs.zip xs).map Prod.snd = xs
  | [], [], _ => rfl
  | [], _ :: _, h => by simp at h
  | _ :: _, [], h => by simp at h
  | v :: vs, x :: xs, h => by
    rw [List.zip_cons_cons, List.map_cons, zip_snd (by simpa using h)]
theorem all2_zip {P : V → α → Prop} : ∀ {vs : List V} {xs : List α}, All2 P vs xs → ∀ p ∈ vs.zip xs, P p.1 p.2
  | _, _, .nil, p, h => by simp at h
  | _, _, .cons r t, p, h => by
    rcases List.mem_cons.mp (by simpa using h) with c | c
    · rw [c]; exact r
    · exact all2_zip t p c
theorem zip_all2 {P : V → α → Prop} : ∀ {ps : List (V × α)}, (∀ p ∈ ps, P p.1 p.2) → All2 P (ps.map Prod.fst) (ps.map Prod.snd)
  | [], _ => .nil
  | p :: ps, h => .cons (h p List.mem_cons_self) (zip_all2 fun q hq => h q (List.mem_cons_of_mem _ hq))
/-- may be sorted -/
def okSort [De α] (xs : List α) : Prop := W.Sortable (xs.map De.toD)
noncomputable def sortR [De α] [Od α] (xs : List α) : R (List α) := gd (xs.length ≤ lim ∧ okSort xs) (.ok (xs.mergeSort fun a b => !Od.lt b a))
theorem g_sort [De α] [Od α] {m : R (List α)} (h : Gr K E ta σ F H m) (hF : Same F H) (hd : De.dep α ≤ 60 := by decide) : Gr K E (tCB (rSortA α K) (tCons ta tNil)) σ F H (R.bd m sortR) := fun H1 e Q hq =>
  gr_seq h e hq fun xs v H2 e2 r hq2 => by
    obtain ⟨p, vs, rfl, hp, hv⟩ := r
    unfold sortR gd at hq2
    split at hq2
    · rename_i c
      have hl := hv.length
      have hfst : (vs.zip xs).map Prod.fst = vs := zip_fst hl
      have hsnd : (vs.zip xs).map Prod.snd = xs := zip_snd hl
      have hz := all2_zip hv
      refine ⟨p, vs.zip xs, rfl, by rw [hfst]; exact SqL.of (mix_same hF (e.trans e2) p _ hp), fun q hq => De.dp (Rp.mono (mix_same hF (e.trans e2)) (hz q hq)), ?_, by rw [List.length_zip]; omega, hd, fun l hl => ?_⟩
      · have : (vs.zip xs).map (fun p => (De.toD p.2 : PyData)) = xs.map De.toD := by
          conv => rhs; rw [← hsnd, List.map_map]
          rfl
        rw [this]
        exact c.2
      · refine hq2 _ _ (same_upd hl) ?_
        have hn : H l = none := Same.free (e.trans e2) hl
        refine ⟨l, _, rfl, by rw [mix_new hn]; exact upd_same, ?_⟩
        have e3 : xs.mergeSort (fun a b => !Od.lt b a) = ((vs.zip xs).mergeSort fun a b => !Od.lt b.2 a.2).map Prod.snd := by
          conv => lhs; rw [← hsnd]
          exact (List.map_mergeSort (r := fun a b : V × α => !Od.lt b.2 a.2) (s := fun a b : α => !Od.lt b a) (f := Prod.snd) (fun a _ b _ => rfl)).symm
        rw [e3]
        refine zip_all2 fun q hq => Rp.mono (mix_mono (same_upd hl)) (hz q ?_)
        exact (List.mergeSort_perm _ _).subset hq
    · exact hq2.elim
theorem g_chainM {f g : Int → Int → Bool} {tc : TE} {ma mb mc : R Int} (ha : Gr K E ta σ F H ma) (hb : Gr K E tb σ F H mb) (hc : Gr K E tc σ F H mc) :
    Gr K E (tChain (rI0 fun i j => .bl (f i j)) (rI0 fun i j => .bl (g i j)) ta tb tc) σ F H (R.bd ma fun a => R.bd mb fun b => if f a b = true then R.bd mc fun c => .ok (g b c) else .ok false) := fun H1 e Q hq =>
  gr_seq ha e hq fun a v H2 e2 r hq2 => gr_seq hb (e.trans e2) hq2 fun b w H3 e3 r3 hq3 => by
    refine ⟨a, b, r, r3, f a b, rfl, ?_⟩
    cases q : f a b with
    | true =>
      rw [q] at hq3
      rw [if_pos rfl] at hq3 ⊢
      exact gr_seq hc (e.trans (e2.trans e3)) hq3 fun c z H4 e4 r4 hq4 => ⟨b, c, r3, r4, hq4 _ H4 (Same.refl _) rfl⟩
    | false =>
      rw [q] at hq3
      rw [if_neg (by decide)] at hq3 ⊢
      exact hq3 _ H3 (Same.refl _) rfl
theorem u65 {k : Nat} {A : Around} (r : Room k A) : A.units + 65 < cLine := by have := r.un; omega
/-! ### xs.index(x), nested -/
class DeS (α : Type) [Rp α] [De α] where
  lay0 : ∀ a : α, (De.toD a).canLay0 = true
instance : DeS Int := ⟨fun _ => rfl⟩
instance : DeS Bool := ⟨fun _ => rfl⟩
theorem lay0All [De α] [DeS α] : ∀ xs : List α, PyData.canLayAll0 (xs.map De.toD) = true
  | [] => rfl
  | x :: r => by
    show (PyData.canLay0 (De.toD x) && PyData.canLayAll0 (r.map De.toD)) = true
    rw [DeS.lay0, lay0All r]
    rfl
instance [De α] [DeS α] : DeS (List α) := ⟨fun xs => lay0All xs⟩
instance [De α] [DeS α] : DeS (Tu α) := ⟨fun xs => lay0All xs.l⟩
instance [De α] [De β] [DeS α] [DeS β] : DeS (α × β) := ⟨fun t => by
  show (PyData.canLay0 (De.toD t.1) && (PyData.canLay0 (De.toD t.2) && true)) = true
  rw [DeS.lay0, DeS.lay0]
  rfl⟩
theorem shaped_of [De α] [DeS α] (h : De.dep α ≤ 64) (a : α) : SeqAt.shaped (De.toD a) = true := by
  unfold SeqAt.shaped
  rw [DeS.lay0 a, decide_eq_true (Nat.le_trans (De.deep a) h)]
  rfl
theorem g_indexD [De α] [DeS α] [DecidableEq α] {ma : R (List α)} {mb : R α} (ha : Gr K E ta σ F H ma) (hb : Gr K E tb σ F H mb) (hF : Same F H) (hd : De.dep α ≤ 60 := by decide) : Gr K E (tBM K "list" (rIndexD K) ta (tCons tb tNil)) σ F H (R.bd ma fun a => R.bd mb fun b => indexR a b) := fun H1 e Q hq =>
  ha H1 e _ (by
    rw [wp_bd] at hq
    refine wp_mono hq (fun xs _ k v H2 e2 r => ?_) fun _ _ z => z
    obtain ⟨p, vs, rfl, hp, hv⟩ := r
    refine ⟨.inl ⟨rfl, _, SqL.of (mix_same hF (e.trans e2) p _ hp)⟩, ?_⟩
    refine hb H2 (e.trans e2) _ ?_
    rw [wp_bd] at k
    refine wp_mono k (fun b _ k2 w H3 e3 r3 => ?_) fun _ _ z => z.mono e2
    unfold indexR at k2
    cases q : xs.findIdx? (fun z => decide (z = b)) with
    | none => rw [q] at k2; exact k2.elim
    | some j =>
      rw [q] at k2
      obtain ⟨hj, h1, h2⟩ := List.findIdx?_eq_some_iff_getElem.mp q
      have hL : Rp.rep K H3 (.ref p) xs := Rp.mono e3 (Rp.mono (mix_same hF (e.trans e2)) (⟨p, vs, rfl, hp, hv⟩ : Rp.rep K (mix F H H2) (.ref p) xs))
      refine ⟨p, w, De.toD b, xs.map De.toD, j, De.toD xs[j], rfl, rfl, De.dp hL, De.dp (Rp.mono (mix_same hF (e.trans (e2.trans e3))) r3), shaped_of (α := List α) (by show De.dep α + 1 ≤ 64; omega) xs, shaped_of (by omega) b, by rw [List.getElem?_map, List.getElem?_eq_getElem hj]; rfl, by rw [eqv_dec]; exact h1, fun m z' hm hz => ?_, k2 _ H3 (e2.trans e3) rfl⟩
      rw [List.getElem?_map, List.getElem?_eq_getElem (by omega)] at hz
      cases hz
      rw [eqv_dec]
      have := h2 m hm
      simpa using this)
theorem mt_indexDK {X : Cx} {K : PySem.W.Frag} (h : X.K = K) (hu : X.A.units + 65 < cLine) : MtR X "list.index" (rIndexD K) := by subst h; exact mt_indexD hu
/-! ### what may be None, of ints (bools, texts): over any heap -/
theorem rep_os [Sc α] {F' : Hp} {v : V} {a : Option α} (h : Rp.rep K F v a) : Rp.rep K F' v a := by
  cases a with
  | none => exact h
  | some a => exact ⟨h.1, Sc.is.mpr (Sc.is.mp h.2)⟩
theorem g_os [Sc α] {F' : Hp} {m : R (Option α)} (h : Gr K E te σ F' H m) : Gr K E te σ F H m := fun H1 e Q hq =>
  h H1 e Q (wp_mono hq (fun a _ k v H2 e2 r => k v H2 e2 (rep_os r)) fun _ _ z => z)
/-! ### calls with five -/
variable {Ex : L2.St → XK} {ε : Type} [Rp ε]
def sp5 (K : PySem.W.Frag) (f : α → β → γ → δ → ε → R ρ) : Sp := fun vs H Q E => ∃ v w x y z a b c d g, vs = [v, w, x, y, z] ∧ Rp.rep K H v a ∧ Rp.rep K H w b ∧ Rp.rep K H x c ∧ Rp.rep K H y d ∧ Rp.rep K H z g ∧ Wp (f a b c d g) (KN K H Q) (EE K E H)
theorem g_call5 {tc td te : TE} {f : α → β → γ → δ → ε → R ρ} {ma : R α} {mb : R β} {mc : R γ} {md : R δ} {me : R ε} (ha : Gr K E ta σ H H ma) (hb : Gr K E tb σ H H mb) (hc : Gr K E tc σ H H mc) (hd : Gr K E td σ H H md) (he : Gr K E te σ H H me) (hE : Ex σ = E := by rfl) :
    Gr K E (tCallS (sp5 K f) Ex (tCons ta (tCons tb (tCons tc (tCons td (tCons te tNil)))))) σ F H (R.bd ma fun a => R.bd mb fun b => R.bd mc fun c => R.bd md fun d => R.bd me fun g => f a b c d g) := by
  subst hE
  exact fun H1 e Q hq =>
  gr_arg ha e hq fun a v H2 e2 r hq2 => gr_arg hb (e.trans e2) hq2 fun b w H3 e3 r3 hq3 => gr_arg hc (e.trans (e2.trans e3)) hq3 fun c x H4 e4 r4 hq4 => gr_arg hd (e.trans (e2.trans (e3.trans e4))) hq4 fun d y H5 e5 r5 hq5 => gr_arg he (e.trans (e2.trans (e3.trans (e4.trans e5)))) hq5 fun g z H6 e6 r6 hq6 =>
    ⟨v, w, x, y, z, a, b, c, d, g, rfl, Rp.mono (e3.trans (e4.trans (e5.trans e6))) r, Rp.mono (e4.trans (e5.trans e6)) r3, Rp.mono (e5.trans e6) r4, Rp.mono e6 r5, r6, wp_mono hq6 (fun b _ k v' H7 e7 r7 => k v' H7 e7 (Rp.mono (dif_mix (e.trans (e2.trans (e3.trans (e4.trans (e5.trans e6))))) e7) r7)) fun c _ z => z⟩
def spS4 (K : PySem.W.Frag) (f : α → β → γ → δ → R ρ) : Sp := fun vs H Q E => ∃ v w x y a b c d Gz, vs = [v, w, x, y] ∧ Same Gz H ∧ Rp.rep K Gz v a ∧ Rp.rep K Gz w b ∧ Rp.rep K Gz x c ∧ Rp.rep K Gz y d ∧ Wp (f a b c d) (KS K Gz H Q) (EE K E H)
theorem g_callS4 {tc td : TE} {f : α → β → γ → δ → R ρ} {ma : R α} {mb : R β} {mc : R γ} {md : R δ} (ha : Gr K E ta σ F H ma) (hb : Gr K E tb σ F H mb) (hc : Gr K E tc σ F H mc) (hd : Gr K E td σ F H md) (hF : Same F H) (hE : Ex σ = E := by rfl) :
    Gr K E (tCallS (spS4 K f) Ex (tCons ta (tCons tb (tCons tc (tCons td tNil))))) σ F H (R.bd ma fun a => R.bd mb fun b => R.bd mc fun c => R.bd md fun d => f a b c d) := by
  subst hE
  exact fun H1 e Q hq =>
  gr_seq ha e hq fun a v H2 e2 r hq2 => gr_seq hb (e.trans e2) hq2 fun b w H3 e3 r3 hq3 => gr_seq hc (e.trans (e2.trans e3)) hq3 fun c x H4 e4 r4 hq4 => gr_seq hd (e.trans (e2.trans (e3.trans e4))) hq4 fun d y H5 e5 r5 hq5 =>
    ⟨v, w, x, y, a, b, c, d, mix F H H5, rfl, mix_same hF (e.trans (e2.trans (e3.trans (e4.trans e5)))), Rp.mono ((mix_mono e3).trans ((mix_mono e4).trans (mix_mono e5))) r, Rp.mono ((mix_mono e4).trans (mix_mono e5)) r3, Rp.mono (mix_mono e5) r4, r5, wp_mono hq5 (fun b _ k v' H6 e6 r6 => k v' H6 e6 (Rp.mono (mix_mix (e.trans (e2.trans (e3.trans (e4.trans e5)))) e6) r6)) fun c _ z => z⟩
end
section
variable {X : Cx} {K : PySem.W.Frag}
theorem op_ltPK (h : X.K = K) (hu : X.A.units + 64 < cLine) : OpR X (compareOp .Lt) (rLtP K) := by subst h; exact op_ltP hu
theorem op_gtPK (h : X.K = K) (hu : X.A.units + 64 < cLine) : OpR X (compareOp .Gt) (rGtP K) := by subst h; exact op_gtP hu
theorem op_lePK (h : X.K = K) (hu : X.A.units + 64 < cLine) : OpR X (compareOp .LtE) (rLeP K) := by subst h; exact op_leP hu
theorem op_gePK (h : X.K = K) (hu : X.A.units + 64 < cLine) : OpR X (compareOp .GtE) (rGeP K) := by subst h; exact op_geP hu
theorem cr_minPK (h : X.K = K) (hc : X.calm = true) (hu : X.A.units + 64 < cLine) : CallR X (.builtin "min") (rMinP K) := by subst h; exact cr_minP hc hu
theorem cr_maxPK (h : X.K = K) (hc : X.calm = true) (hu : X.A.units + 64 < cLine) : CallR X (.builtin "max") (rMaxP K) := by subst h; exact cr_maxP hc hu
theorem cr_sortAK {α : Type} [Rp α] [De α] [Od α] (h : X.K = K) (hu : X.A.units + 64 < cLine) : CallR X (.builtin "sorted") (rSortA α K) := by subst h; exact cr_sortA hu
end
/-! ### try: .. except X: .. without a name -/
def tTryO (K : PySem.W.Frag) (c : Value) (tb : WX → TS) (ts : TS) : TS := fun D σ H => tb (wOnly K c (fun _ _ _ => ts) (fun _ _ _ _ => False) D) D σ H
section
variable {X : Cx} {x : Str} {c : Value} {body suite : List Stmt} {b₀ : Stmt} {np pos pos' : Pos} {tb : WX → TS} {ts : TS}
theorem ps_tryO (hs : X.stack = X.env :: X.outer) (hf : X.env.frame = some X.env.locals) (hc : Names X x c)
    (hb : ∀ (W : WX) (pn : List (Addr × Obj)) (xe : Value → Shared → Prop), Takes (X.tr pn xe) W → PassesOwn (model X.prog X.w) X.A X.env xe → PSs (X.tr pn xe) body (tb W))
    (hsu : ∀ (a : Addr) (pn : List (Addr × Obj)), PSs (X.suite a pn) (b₀ :: suite) ts) :
    PS X (.Try body [.ExceptHandler (some (.Name x np)) none (b₀ :: suite) pos'] [] [] pos) (tTryO X.K c tb ts) :=
  ps_try_only (Wout := fun _ _ _ _ => False) (ts := fun _ _ _ => ts) hs hf hc (fun _ _ ⟨_, _, _, _, _, _, _, _, _, _, _, _, _, _, _, _, w⟩ => w.elim) hb fun a oe _ _ pn _ _ => hsu a ((a, oe) :: pn)
end
section
variable {K : PySem.W.Frag} {E : XK} {σ : L2.St} {H0 F H : Hp} {D : Ends} {S : Type}
theorem s_tryO {cs : List Cn} {cv : Value} {ts : TS} {tb : WX → TS} {m : R S} {hand : Er → R S} {kq : S → Prop} (hF : Same F H) (e0 : Same H0 H) (hQ : Wp (catchR cs m hand) kq (EE K E H0))
    (hx : ∀ c ∈ cs, PySem.W.exmOne K (.ref (He.ga K c.nm)) cv = some true)
    (hh : ∀ er F' H', Nx0 F H F' H' → Same H0 H' → Wp (hand er) kq (EE K E H0) → ts D σ H')
    (hb : Wp m kq (EE K (WE (wOnly K cv (fun _ _ _ => ts) (fun _ _ _ _ => False) D) σ) H) → tb (wOnly K cv (fun _ _ _ => ts) (fun _ _ _ _ => False) D) D σ H) : tTryO K cv tb ts D σ H := by
  show tb _ D σ H
  refine hb ?_
  cases m with
  | ok s => exact hQ
  | bad => exact hQ.elim
  | er er =>
    have hQ2 : Wp (if er.cn ∈ cs then hand er else .bad) kq (EE K E H0) := hQ
    split at hQ2
    · rename_i hc
      cases er with
      | own c =>
        intro H' s
        exact ⟨true, hx _ hc, fun _ a ha => hh (.own c) _ _ (Nx.mk' hF s) (e0.trans s) hQ2, fun z => by cases z⟩
      | plan n =>
        intro d H' s hd _
        exact ⟨true, hx _ hc, fun _ a ha => hh (.plan n) _ _ (Nx.mk' hF s) (e0.trans s) hQ2, fun z => by cases z⟩
    · exact hQ2.elim
end
end G

set_option Elab.async false
set_option linter.all false
set_option maxRecDepth 100000
set_option maxHeartbeats 4000000
/-! G: list(reversed(xs)). -/
namespace G
open PySem PySem.Spec PyProof.Rows L2
section
variable {prog : Program} {w : World} {A : Around} {E : Value → Shared → Prop} {s : Shared} {it l S : Addr} {items : Array Value}
abbrev bk (items : Array Value) : Nat → Value → Prop := fun i v => items[items.size - 1 - i]? = some v
/-- an empty list takes what the iterator tells -/
theorem ext_rev {Z : Result → Shared → Prop} (hh : A.handled = none) (h1 : s.heap.IsRevIter it l ((items.size : Int) - 1)) (h2 : s.heap.IsList l items) (ne : l ≠ it) (hn : items.size ≤ sizeLine) (si : S ≠ it) (sl : S ≠ l) (res : Value) (c : Nat)
    (hS : s.heap.get? S = some { cls := .type "list", data := .seq #[] c })
    (k : ∀ h' tk a' c', (∀ b o, b ≠ S → b ≠ it → s.heap.get? b = some o → h'.get? b = some o) → h'.get? S = some { cls := .type "list", dict := none, data := .seq a' c', slots := #[] } → ItemsOf (bk items) a' items.size → Z (.ok (.ret res)) { s with heap := h', toks := tk }) :
    wpAny (model prog w) A.in1 (Builtin.List.listExtendWith (.ref S) (.ref it) res) (fun fin s' => match fin with | .done f => Z (.ok f) s' | .again c' => c'.quiet = true ∧ codeAny (model prog w) A c' Z s') (fun e s' => Z (.error e) s') s := by
  have W := (Walks.listRev (prog := prog) (w := w) (A := A.in1) hh it l ne items).toS
  have out : S ∉ [it, l] := by simp only [List.mem_cons, List.not_mem_nil, or_false, not_or]; exact ⟨si, sl⟩
  have ty : s.TypeIs (.ref it) "list_reverseiterator" := h1.typeIs
  have e1 : Builtin.List.listSameRef (.ref S) (.ref it) = false := by simp [Builtin.List.listSameRef, si]
  unfold Builtin.List.listExtendWith
  refine wpAny_bind (wpAny_typeOf ty ?_)
  rw [if_neg (by rw [e1]; decide)]
  refine wpAny_bind (wpAny_pyIter_revIter h1 ?_)
  refine wpAny_bind (wpAny_holding ?_)
  unfold Builtin.List.listLengthHint
  refine wpAny_bind (wpAny_specialOf ty RT.nolen_lri ?_)
  show wpAny _ A.in1 (specialOf (Value.ref it) (Str.ofString "__length_hint__") >>= _) _ _ _
  refine wpAny_bind (wpAny_specialOf ty RT.hint_lri ?_)
  generalize hid : ("list_reverseiterator.__length_hint__" : String) = id0
  wp_delta
  rw [show splitId id0 = some ("list_reverseiterator", "__length_hint__") from by subst hid; decide +kernel]
  subst hid
  refine wpAny_bind (wpAny_isInstance (b := true) ty (by rw [isSubtype_type]; kernel_rfl) ?_)
  refine wpAny_pure ?_
  rw [if_neg (by decide)]
  have e0 : ((items.size : Nat) : Int) - 1 - ((0 : Nat) : Int) = (items.size : Int) - 1 := by omega
  refine wpAny_pure ⟨plainId_quiet F.plain_extend_loop _, codeAny_extend_loopS W hn S out _ items.size 0 _ _ _ rfl (Nat.zero_le _) ⟨Nat.zero_le _, by rw [e0]; exact h1, h2⟩ hS (ItemsOf.nil _) fun s' a' c' hm hS' ha => ?_⟩
  rw [Moved.eq_with hm]
  exact k s'.heap s'.toks a' c' (fun b o b1 b2 e => hm.heap b o (fun m => by
    rcases List.mem_cons.mp m with z | z
    · exact b1 z
    · exact b2 (List.mem_singleton.mp z)) e) hS' ha
theorem list_rev {Q : Value → Shared → Prop} (hh : A.handled = none) (h1 : s.heap.IsRevIter it l ((items.size : Int) - 1)) (h2 : s.heap.IsList l items) (ne : l ≠ it) (hn : items.size ≤ sizeLine)
    (k : ∀ h' tk a' c', (∀ b o, b ≠ it → s.heap.get? b = some o → h'.get? b = some o) → h'.get? s.heap.objs.size = some { cls := .type "list", dict := none, data := .seq a' c', slots := #[] } → ItemsOf (bk items) a' items.size → Q (.ref s.heap.objs.size) { s with heap := h', toks := tk }) :
    wpAny (model prog w) A (call (.type "list") [.ref it]) Q E s := by
  refine callType_codes (Q₁ := fun obj s1 => obj = .ref s.heap.objs.size ∧ s1 = { s with heap := s.heap.push { cls := .type "list", data := .seq #[] } }) PySem.F.called_list (PySem.F.typeCall_list_1 _) PySem.F.entry_list_init (code_list_new _ ⟨rfl, rfl⟩) ?_
  rintro obj s1 ⟨rfl, rfl⟩
  obtain ⟨oi, hoi, _⟩ := id h1
  obtain ⟨ol, hol, _⟩ := id h2
  have si : s.heap.objs.size ≠ it := Nat.ne_of_gt (Heap.lt_size hoi)
  have sl : s.heap.objs.size ≠ l := Nat.ne_of_gt (Heap.lt_size hol)
  have hS : (s.heap.push { cls := .type "list", data := .seq #[] }).get? s.heap.objs.size = some { cls := .type "list", data := .seq #[] } := Heap.get?_push_size _ rfl
  refine ⟨⟨_, hS, rfl⟩, PySem.F.args_list_init_2 _ _, ?_⟩
  generalize hP : s.heap.push { cls := .type "list", data := .seq #[] } = hp at hS
  have h1' : hp.IsRevIter it l ((items.size : Int) - 1) := by rw [← hP]; exact h1.at fun o e => Heap.get?_push_of_some _ e
  have h2' : hp.IsList l items := by rw [← hP]; exact h2.push _
  show wpAny _ _ (do let old ← Builtin.List.listItems (.ref s.heap.objs.size); Builtin.List.listUpdate (.ref s.heap.objs.size) (fun _ => #[]); letGo old.toList.reverse; Builtin.List.listExtendWith (.ref s.heap.objs.size) (.ref it) .none) _ _ _
  refine wpAny_bind ?_
  unfold Builtin.List.listItems
  refine wpAny_bind (wpAny_seqItems hS rfl (wpAny_pure ?_))
  show wpAny _ _ (updateSeq s.heap.objs.size (fun _ => #[]) >>= fun _ => letGo (#[] : Array Value).toList.reverse >>= fun _ => Builtin.List.listExtendWith (.ref s.heap.objs.size) (.ref it) .none) _ _ _
  refine wpAny_bind (wpAny_updateSeq hS rfl ?_)
  have hS2 := Heap.get?_update_self (Obj.mapSeq (fun _ => (#[] : Array Value))) hS rfl
  have oth : ∀ b o, b ≠ s.heap.objs.size → hp.get? b = some o → (hp.update s.heap.objs.size (Obj.mapSeq (fun _ => (#[] : Array Value)))).get? b = some o := fun b o hb e => (Heap.get?_update_other _ _ (Ne.symm hb)).trans e
  refine wpAny_bind (wpAny_letGo ?_)
  obtain ⟨oi2, hoi2, g3, g4⟩ := h1'
  obtain ⟨ol2, hol2, g5, g6⟩ := h2'
  refine ext_rev (A := A.in1) hh ⟨oi2, oth _ _ (Ne.symm si) hoi2, g3, g4⟩ ⟨ol2, oth _ _ (Ne.symm sl) hol2, g5, g6⟩ ne hn si sl .none _ hS2 fun h' tk a' c' hk hS' ha => ?_
  refine ⟨rfl, k h' tk a' c' (fun b o b2 e => ?_) hS' ha⟩
  have bS : b ≠ s.heap.objs.size := Nat.ne_of_lt (Heap.lt_size e)
  refine hk b o bS b2 (oth b o bS ?_)
  rw [← hP]
  exact Heap.get?_push_of_some _ e
end
def tListRev (K : PySem.W.Frag) (te : TE) : TE := fun σ H Q => te σ H fun v H1 => ∃ (a : Addr) (xs : List V), v = .ref a ∧ SqL K H1 a xs ∧ ∀ q, H1 q = none → Q (.ref q) (upd H1 q (.lst xs.reverse))
section
variable {X : Cx}
theorem pe_listRev {e : Expr} {te : TE} {p p2 pos pos2 : Pos} (hc : X.calm = true) (hg : Gl X "list") (hm : X.mg "list" = none) (hg2 : Gl X "reversed") (hm2 : X.mg "reversed" = none) (he : PE X e te)
    (hs : starEach [e] X.env = (false, eval e X.env) :: starEach [] X.env := by rfl) (hs2 : starEach [.Call (.Name "reversed" p2) [e] [] pos2] X.env = (false, eval (.Call (.Name "reversed" p2) [e] [] pos2) X.env) :: starEach [] X.env := by rfl) :
    PE X (.Call (.Name "list" p) [.Call (.Name "reversed" p2) [e] [] pos2] [] pos) (tListRev X.K te) := by
  refine ⟨fun pins s σ H Q I h => ?_⟩
  refine Call_ (ld_blt I hg hm PyProof.Rows.boot_list (PyProof.Rows.callWith_type1 (args_cons (Call_ (ld_blt I hg2 hm2 PyProof.Rows.boot_reversed (PyProof.Rows.callWith_type1 (args_cons (thn (he.run pins s σ H _ I h) fun u s1 ⟨v, H1, I1, r1, q1⟩ => args_nil ?_) hs) hs rfl))) hs2) hs2 rfl))
  obtain ⟨a, xs, ev, hq, q⟩ := q1
  subst ev
  obtain rfl : u = Value.ref a := r1
  obtain ⟨its, rv, p', hz⟩ := I1.list hq
  refine call_reversed_list p'.isList (args_nil ?_)
  have hl := p'.isList
  obtain ⟨ol, hol, _⟩ := id hl
  have ne : a ≠ s1.heap.objs.size := Nat.ne_of_lt (Heap.lt_size hol)
  have hn : its.toArray.size ≤ sizeLine := by rw [List.size_toArray, ← rv.length]; exact hz
  refine list_rev (s := { s1 with heap := s1.heap.push (revObj a ((its.toArray.size : Int) - 1)) }) (I1.ok.hd hc) ⟨_, Heap.get?_push_size _ rfl, rfl, rfl⟩ (hl.push _) ne hn fun h' tk acc c hk hS hi => ?_
  have le : s1.heap.objs.size ≤ (s1.heap.push (revObj a ((its.toArray.size : Int) - 1))).objs.size := by rw [Heap.size_push]; omega
  have kp : ∀ b o, s1.heap.get? b = some o → h'.get? b = some o := fun b o e => hk b o (Nat.ne_of_lt (Heap.lt_size e)) (Heap.get?_push_of_some _ e)
  refine ⟨V.ref _, upd H1 _ (.lst xs.reverse), I1.laid (t' := tk) kp le ⟨by rw [List.length_reverse]; exact hz, acc.toList, c, RT.vals_rev rv hi, ?_⟩, rfl, q _ (I1.hok.fresh le)⟩
  rw [Array.toArray_toList]
  exact hS
end
section
variable {K : PySem.W.Frag} {E : XK} {σ : L2.St} {F H : Hp} {te : TE} {α : Type} [Rp α]
theorem g_listRev {m : R (List α)} (h : Gr K E te σ F H m) (hF : Same F H) : Gr K E (tListRev K te) σ F H (R.bd m fun xs => .ok xs.reverse) := fun H1 e Q hq =>
  gr_seq h e hq fun xs v H2 e2 r hq2 => by
    obtain ⟨p, vs, rfl, hp, hv⟩ := r
    refine ⟨p, vs, rfl, SqL.of (mix_same hF (e.trans e2) p _ hp), fun l hl => hq2 _ _ (same_upd hl) ?_⟩
    have hn : H l = none := Same.free (e.trans e2) hl
    exact ⟨l, _, rfl, by rw [mix_new hn]; exact upd_same, (hv.mono fun _ _ x => Rp.mono (mix_mono (same_upd hl)) x).reverse⟩
theorem g_listRevS [Sc α] {m : R (List α)} (h : Gr K E te σ H H m) : Gr K E (tListRev K te) σ F H (R.bd m fun xs => .ok xs.reverse) := fun H1 e Q hq =>
  h H1 e _ (by
    rw [wp_bd] at hq
    refine wp_mono hq (fun xs _ k v H2 e2 r => ?_) fun _ _ z => z
    obtain ⟨p, vs, rfl, hp, hv⟩ := r
    exact ⟨p, vs, rfl, SqL.of (mix_same (Same.refl _) (e.trans e2) p _ hp), fun l hl => k _ _ (e2.trans (same_upd hl)) (reps_at (by rw [mix_new (Same.free (e.trans e2) hl)]; exact upd_same) hv.reverse)⟩)
end
end G

set_option Elab.async false
set_option linter.all false
set_option maxRecDepth 100000
set_option maxHeartbeats 4000000
/-! G: what rests on tuples alone; dicts whose keys are tuples of ints. -/
namespace G
open PySem PySem.Spec PyProof.Rows L2
/-- what rests on tuples alone tells the same wherever they are seen -/
class Im (α : Type) [Rp α] : Prop where
  mv : ∀ {K : PySem.W.Frag} {F F' : Hp} {v : V} {a : α}, (∀ p xs, F p = some (.tup xs) → F' p = some (.tup xs)) → Rp.rep K F v a → Rp.rep K F' v a
theorem im_all {α : Type} [Rp α] [Im α] {K : PySem.W.Frag} {F F' : Hp} (e : ∀ p xs, F p = some (.tup xs) → F' p = some (.tup xs)) {vs : List V} {xs : List α} (h : All2 (Rp.rep K F) vs xs) : All2 (Rp.rep K F') vs xs := h.mono fun _ _ r => Im.mv e r
instance : Im Int := ⟨fun _ h => h⟩
instance : Im Bool := ⟨fun _ h => h⟩
instance : Im Str := ⟨fun _ h => h⟩
instance : Im Unit := ⟨fun _ h => h⟩
instance {α : Type} [Rp α] [Im α] : Im (Option α) := ⟨fun {K F F' v a} e h => by
  cases a with
  | none => exact h
  | some a => exact ⟨h.1, Im.mv e h.2⟩⟩
instance {α β : Type} [Rp α] [Rp β] [Im α] [Im β] : Im (α × β) := ⟨fun e ⟨p, x, y, h1, h2, h3, h4⟩ => ⟨p, x, y, h1, e _ _ h2, Im.mv e h3, Im.mv e h4⟩⟩
instance {α β γ : Type} [Rp α] [Rp β] [Rp γ] [Im α] [Im β] [Im γ] : Im (T3 α β γ) := ⟨fun e ⟨p, x, y, z, h1, h2, h3, h4, h5⟩ => ⟨p, x, y, z, h1, e _ _ h2, Im.mv e h3, Im.mv e h4, Im.mv e h5⟩⟩
instance {α : Type} [Rp α] [Im α] : Im (Tu α) := ⟨fun e ⟨p, vs, h1, h2, h3⟩ => ⟨p, vs, h1, e _ _ h2, im_all e h3⟩⟩
theorem tup_mix {F H H2 H3 : Hp} (e : Same H H2) (e3 : Same H2 H3) {p : Addr} {xs : List V} (h : H2 p = some (.tup xs)) : mix F H H3 p = some (.tup xs) := by
  cases z : H p with
  | none => rw [mix_new z]; exact e3 _ _ h
  | some u =>
    have := e p u z
    rw [h] at this
    cases this
    exact mix_tup z rfl
theorem tup_le {F H : Hp} (e : Same F H) : ∀ p xs, F p = some (.tup xs) → H p = some (.tup xs) := fun p xs h => e p _ h
section
variable {K : PySem.W.Frag} {E : XK} {σ : L2.St} {H0 F H F' H' : Hp} {ta tb te tl to ti tk tv td : TE} {t u : TT} {α β γ δ ρ : Type} [Rp α] [Rp β] [Rp γ] [Rp δ] [Rp ρ] {D : Ends} {b : Bool}
theorem g_im [Im α] {G : Hp} (hG : Same G H) {m : R α} (h : Gr K E te σ G H m) : Gr K E te σ F H m := fun H1 e Q hq =>
  h H1 e Q (wp_mono hq (fun a _ k v H2 e2 r => k v H2 e2 (Im.mv (fun p xs q => tup_mix (e.trans e2) (Same.refl _) (mix_same hG (e.trans e2) _ _ q)) r)) fun _ _ z => z)
/-- a list of such, made anew -/
theorem reps_atI [Im α] {G H2 H3 : Hp} {p : Addr} {vs : List V} {xs : List α} (hG : Same G H2) (e : Same H H2) (e3 : Same H2 H3) (h : mix F H H3 p = some (.lst vs)) (hv : All2 (Rp.rep K G) vs xs) : Rp.rep K (mix F H H3) (.ref p) xs :=
  ⟨p, vs, rfl, h, im_all (fun q ys z => tup_mix e e3 (hG _ _ z)) hv⟩
theorem g_listI [Im α] {m : R (List α)} (h : Gr K E ta σ H H m) : Gr K E (tCB (rListOf K) (tCons ta tNil)) σ F H m := fun H1 e Q hq =>
  h H1 e _ (wp_mono hq (fun xs _ k v H2 e2 r => by
    obtain ⟨p, vs, rfl, hp, hv⟩ := r
    have s2 := mix_same (Same.refl _) (e.trans e2)
    exact ⟨p, vs, rfl, .inl (SqL.of (s2 p _ hp)), fun l hl => k _ _ (e2.trans (same_upd hl)) (reps_atI s2 (e.trans e2) (same_upd hl) (by rw [mix_new (Same.free (e.trans e2) hl)]; exact upd_same) hv)⟩) fun _ _ z => z)
theorem g_listTI [Im α] {m : R (Tu α)} (h : Gr K E ta σ H H m) : Gr K E (tCB (rListOf K) (tCons ta tNil)) σ F H (R.bd m fun t => .ok t.l) := fun H1 e Q hq =>
  h H1 e _ (by
    rw [wp_bd] at hq
    refine wp_mono hq (fun xs _ k v H2 e2 r => ?_) fun _ _ z => z
    obtain ⟨p, vs, rfl, hp, hv⟩ := r
    have s2 := mix_same (Same.refl _) (e.trans e2)
    exact ⟨p, vs, rfl, .inr (SqT.of (s2 p _ hp)), fun l hl => k _ _ (e2.trans (same_upd hl)) (reps_atI s2 (e.trans e2) (same_upd hl) (by rw [mix_new (Same.free (e.trans e2) hl)]; exact upd_same) hv)⟩)
theorem g_tupleI [Im α] {m : R (List α)} (h : Gr K E ta σ H H m) : Gr K E (tCB (rTupOf K) (tCons ta tNil)) σ F H (R.bd m fun l => .ok (Tu.mk l)) := fun H1 e Q hq =>
  h H1 e _ (by
    rw [wp_bd] at hq
    refine wp_mono hq (fun xs _ k v H2 e2 r => ?_) fun _ _ z => z
    obtain ⟨p, vs, rfl, hp, hv⟩ := r
    have s2 := mix_same (Same.refl _) (e.trans e2)
    exact ⟨p, vs, rfl, .inl ⟨SqL.of (s2 p _ hp), fun l hl => k _ _ (e2.trans (same_upd hl)) ⟨l, vs, rfl, by rw [mix_new (Same.free (e.trans e2) hl)]; exact upd_same, im_all (fun q ys z => tup_mix (e.trans e2) (same_upd hl) (s2 _ _ z)) hv⟩⟩⟩)
theorem g_tupleTI {m : R (Tu α)} (h : Gr K E ta σ F H m) (hF : Same F H) : Gr K E (tCB (rTupOf K) (tCons ta tNil)) σ F H m := fun H1 e Q hq =>
  h H1 e _ (wp_mono hq (fun xs _ k v H2 e2 r => by
    obtain ⟨p, vs, rfl, hp, hv⟩ := r
    exact ⟨p, vs, rfl, .inr ⟨SqT.of (mix_same hF (e.trans e2) p _ hp), k _ H2 e2 ⟨p, vs, rfl, hp, hv⟩⟩⟩) fun _ _ z => z)
theorem g_cutI [Im α] {tlo thi : TO} {m : R (List α)} {mlo mhi : R (Option Int)} (h : Gr K E ta σ H H m) (hlo : GrO K E tlo σ H mlo) (hhi : GrO K E thi σ H mhi) :
    Gr K E (tSl (rSlL K) ta tlo thi) σ F H (R.bd m fun xs => R.bd mlo fun lo => R.bd mhi fun hi => .ok (cut xs lo hi)) := fun H1 e Q hq =>
  gr_arg h e hq fun xs v H2 e2 r hq2 => gro_seq hlo (e.trans e2) hq2 fun lo H3 e3 hq3 => gro_seq hhi (e.trans (e2.trans e3)) hq3 fun hi H4 e4 hq4 => by
    obtain ⟨p, vs, rfl, hp, hv⟩ := r
    exact ⟨p, vs, rfl, SqL.of (e4 p _ (e3 p _ hp)), fun l hl => hq4 _ _ (same_upd hl) (reps_atI (Same.refl _) (e.trans e2) ((e3.trans e4).trans (same_upd hl)) (by rw [mix_new (Same.free (e.trans (e2.trans (e3.trans e4))) hl)]; exact upd_same) (all2_cut hv))⟩
theorem g_catI [Im α] {ma mb : R (List α)} (ha : Gr K E ta σ H H ma) (hb : Gr K E tb σ H H mb) : Gr K E (tOp rCat ta tb) σ F H (R.bd ma fun a => R.bd mb fun b => gd (a.length + b.length ≤ lim) (.ok (a ++ b))) := fun H1 e Q hq =>
  gr_arg ha e hq fun a v H2 e2 r hq2 => gr_arg hb (e.trans e2) hq2 fun b w H3 e3 r3 hq3 => by
    obtain ⟨p, vs, rfl, hp, hv⟩ := r
    obtain ⟨q, ws, rfl, hq', hw⟩ := r3
    unfold gd at hq3
    split at hq3
    · rename_i c
      refine ⟨p, q, vs, ws, rfl, rfl, e3 p _ hp, hq', lim_line (by rw [hv.length, hw.length]; exact c), fun l hl => hq3 _ _ (same_upd hl) (reps_atI (G := H3) (Same.refl _) (e.trans (e2.trans e3)) (same_upd hl) (by rw [mix_new (Same.free (e.trans (e2.trans e3)) hl)]; exact upd_same) ((hv.mono fun _ _ x => Rp.mono e3 x).append hw))⟩
    · exact hq3.elim
theorem g_repI [Im α] {ma : R (List α)} {mb : R Int} (ha : Gr K E ta σ H H ma) (hb : Gr K E tb σ H H mb) : Gr K E (tOp rRep ta tb) σ F H (R.bd ma fun a => R.bd mb fun b => repR a b) := fun H1 e Q hq =>
  gr_arg ha e hq fun a v H2 e2 r hq2 => gr_arg hb (e.trans e2) hq2 fun b w H3 e3 r3 hq3 => by
    obtain ⟨p, vs, rfl, hp, hv⟩ := r
    have r3' : w = .int b := r3
    subst r3'
    unfold repR gd at hq3
    split at hq3
    · rename_i c
      refine ⟨p, b, vs, rfl, rfl, e3 p _ hp, by omega, by omega, lim_line (by rw [hv.length]; exact c.2.2), fun l hl => hq3 _ _ (same_upd hl) (reps_atI (G := H2) (Same.refl _) (e.trans e2) (e3.trans (same_upd hl)) (by rw [mix_new (Same.free (e.trans (e2.trans e3)) hl)]; exact upd_same) (all2_rep hv _))⟩
    · exact hq3.elim
theorem g_listRevI [Im α] {m : R (List α)} (h : Gr K E te σ H H m) : Gr K E (tListRev K te) σ F H (R.bd m fun xs => .ok xs.reverse) := fun H1 e Q hq =>
  h H1 e _ (by
    rw [wp_bd] at hq
    refine wp_mono hq (fun xs _ k v H2 e2 r => ?_) fun _ _ z => z
    obtain ⟨p, vs, rfl, hp, hv⟩ := r
    have s2 := mix_same (Same.refl _) (e.trans e2)
    exact ⟨p, vs, rfl, SqL.of (s2 p _ hp), fun l hl => k _ _ (e2.trans (same_upd hl)) (reps_atI s2 (e.trans e2) (same_upd hl) (by rw [mix_new (Same.free (e.trans e2) hl)]; exact upd_same) hv.reverse)⟩)
/-- a comprehension that tells such, over anything -/
theorem g_compI [Im β] {wi : TI} {g : TG} {tt : TT} {te : TE} {vs : List Nat} {m : R (List α)} {cf : α → R Bool} {f : α → R β} (hi : GrI K E wi σ H H m)
    (hel : ∀ x v F2 H2, Same H F2 → Same F2 H2 → Same H H2 → Rp.rep K F2 v x → ∃ σ2, (∀ Q : L2.St → Hp → Prop, Q σ2 H2 → g v (wipe σ vs) H2 Q) ∧ wipe σ2 vs = wipe σ vs ∧ GrT K EF tt σ2 H2 (cf x) ∧ Gr K EF te σ2 F2 H2 (f x)) :
    Gr K E (tLc wi g tt te vs) σ F H (R.bd m fun xs => compR xs cf f) := g_compG (fun H3 Dl acc ys h => im_all (fun p xs q => by
      rcases mix_cases (del_le _ _ q) with ⟨z, h⟩ | ⟨z, t⟩ | ⟨y, z, t, h⟩
      · rw [mix_new z]; exact h
      · exact mix_tup z t
      · rw [z] at h
        cases h
        cases t) h) hi (Same.refl _) hel
/-! ### lists of such that become ours -/
theorem Own.repI [Im α] {p : Addr} {xs : List α} (o : Own K H0 b F H p xs) (hF : Same F H) : Rp.rep K (dif H0 H) (.ref p) xs := by
  obtain ⟨h0, f, vs, h, r⟩ := o.lst
  exact ⟨p, vs, rfl, dif_of h0 h, im_all (fun q ys z => dif_tup rfl ((bs_le.trans hF) _ _ z)) r⟩
theorem Own.frzI [Im α] {p : Addr} {xs : List α} (o : Own K H0 b F H p xs) (hF : Same F H) : ∃ F', Same F F' ∧ Same F' H ∧ (∀ q, q ≠ p → F' q = F q) ∧ Rp.rep K (dif H0 F') (.ref p) xs := by
  obtain ⟨F', h1, h2, h3, h4, h5⟩ := o.frz hF
  obtain ⟨q, vs, e, h, r⟩ := h4
  cases e
  exact ⟨F', h1, h2, h3, p, vs, rfl, dif_of o.h0 h, im_all (fun q ys z => dif_tup rfl z) r⟩
/-- what is told is new, its one object becomes ours -/
theorem s_asgC {τ : Type} [Rp τ] [Cel τ] {i : Nat} {m : R τ} {k : τ → R β} {kk : β → Prop} (he : Gr K E te σ nil0 H m) (hF : Same F H) (e0 : Same H0 H)
    (hc : ∀ {H2 : Hp} {v : V} {a : τ}, Same H H2 → Rp.rep K (mix nil0 H H2) v a → ∃ p o, v = .ref p ∧ H p = none ∧ H2 p = some o ∧ tupB (some o) = false ∧ Cel.cel K (Bs H0 (delH (mix F H H2) p) b) o a)
    (hQ : Wp (R.bd m k) kk (EE K E H0))
    (c : ∀ a p F' H', Nx0 F H F' H' → Same H0 H' → Own K H0 b F' H' p a → (∀ q, (∃ u, H q = some u) → q ≠ p) → Wp (k a) kk (EE K E H0) → D.nx (σ.set i (some (.ref p))) H') : tAsg te (gName i) D σ H := by
  refine he H (Same.refl _) _ ?_
  rw [wp_bd] at hQ
  refine wp_mono hQ (fun a _ q v H2 e2 r => ?_) fun c _ z => z.mono e0
  obtain ⟨p, o, rfl, hn, hp2, ho, hcel⟩ := hc e2 r
  refine c a p (delH (mix F H H2) p) H2 ⟨fun x o h => ?_, fun x o _ h => e2 x o h, fun x o h => ?_, fun x o z h n => ?_, fun x o h => ⟨o, e2 x o h, rfl⟩⟩ (e0.trans e2) ⟨Same.free e0 hn, delH_same, o, hp2, hcel⟩ (fun z ⟨u, hu⟩ e => by rw [e, hn] at hu; cases hu) q
  · have : x ≠ p := fun z => by
      rw [z] at h
      have := hF p o h
      rw [hn] at this
      cases this
    rw [delH_ne this]
    exact same_mix hF x o h
  · unfold delH at h
    split at h
    · cases h
    · exact mix_same hF e2 x o h
  · unfold delH
    split
    · rfl
    · rw [mix_old h z]
      exact n
theorem tup_bs {H2 : Hp} {p : Addr} (e0 : Same H0 H) (e2 : Same H H2) (hp : ∀ xs, H2 p ≠ some (.tup xs)) : ∀ q ys, mix nil0 H H2 q = some (.tup ys) → Bs H0 (delH (mix F H H2) p) b q = some (.tup ys) := fun q ys z => by
  have h2 := mix_same nil_same e2 _ _ z
  have h3 : delH (mix F H H2) p q = some (.tup ys) := by
    rw [delH_ne (fun w => hp ys (by rw [← w]; exact h2))]
    exact mix_ff nil_same _ _ z
  cases b with
  | true => exact dif_tup rfl h3
  | false => exact h3
theorem lst_new {H2 : Hp} {v : V} {a : List α} [Im α] (e0 : Same H0 H) (e2 : Same H H2) (r : Rp.rep K (mix nil0 H H2) v a) : ∃ p o, v = .ref p ∧ H p = none ∧ H2 p = some o ∧ tupB (some o) = false ∧ Cel.cel K (Bs H0 (delH (mix F H H2) p) b) o a := by
  obtain ⟨p, vs, rfl, hp, hv⟩ := r
  have pn : H p = none ∧ H2 p = some (.lst vs) := by
    rcases mix_cases hp with z | ⟨_, z⟩ | ⟨_, _, _, z⟩
    · exact z
    · cases z
    · cases z
  obtain ⟨hn, hp2⟩ := pn
  exact ⟨p, _, rfl, hn, hp2, rfl, vs, rfl, im_all (tup_bs e0 e2 fun xs z => by rw [hp2] at z; cases z) hv⟩
theorem s_asgI [Im α] {i : Nat} {m : R (List α)} {k : List α → R β} {kk : β → Prop} (he : Gr K E te σ nil0 H m) (hF : Same F H) (e0 : Same H0 H) (hQ : Wp (R.bd m k) kk (EE K E H0))
    (c : ∀ a p F' H', Nx0 F H F' H' → Same H0 H' → Own K H0 b F' H' p a → (∀ q, (∃ u, H q = some u) → q ≠ p) → Wp (k a) kk (EE K E H0) → D.nx (σ.set i (some (.ref p))) H') : tAsg te (gName i) D σ H :=
  s_asgC he hF e0 (fun e2 r => lst_new e0 e2 r) hQ c
end
end G

set_option Elab.async false
set_option linter.all false
set_option maxRecDepth 100000
set_option maxHeartbeats 4000000
/-! G: enumerate of tuples; lists and tuples alike. -/
namespace G
open PySem PySem.Spec PyProof.Rows L2
open Sem (wp)
theorem meets_enum_new {v : Value} {o : Obj} {Hq : Heap → Prop} (B : Begins v o Hq) :
    Meets (Builtin.«enumerate.__new__» ⟨[.type "enumerate", v], []⟩) (fun _ Z s => Hq s.heap ∧ Z (.ok (.ret (.ref (s.heap.push o).objs.size))) { s with heap := (s.heap.push o).push { cls := .type "enumerate", data := .fields #[.none, .bool false, .ref s.heap.objs.size, rawInt 0, .none, .none] } }) :=
  .of_wp fun prog w A Z s hz => by
    obtain ⟨hp, g, d, tk, os⟩ := s; obtain ⟨h1, hz⟩ := hz
    have hsub := sub_enumerate
    have it : ∀ {A' : Around} {E' : Value → Shared → Prop} {Q : Value → Shared → Prop}, Q (.ref hp.objs.size) ⟨hp.push o, g, d, tk, os⟩ → wpAny (model prog w) A' (pyIter v) Q E' ⟨hp, g, d, tk, os⟩ := fun q => B.iter prog w _ _ ⟨hp, g, d, tk, os⟩ _ h1 q
    wp_walk using it
    refine wpAny_stack_any fun st => wpAny_pure ?_
    split
    · rename_i c _ _ _ _ _
      cases (c == Value.type "enumerate")
      all_goals (wp_walk using it; exact ⟨_, rfl, hz⟩)
    · wp_walk using it
      exact ⟨_, rfl, hz⟩
section
variable {prog : Program} {w : World} {A : Around} {E : Value → Shared → Prop} {s : Shared}
theorem call_enum_tup {l : Addr} {items : Array Value} {Q : Value → Shared → Prop} (hL : s.heap.IsTuple l items)
    (k : ∀ h', IsEnum h' (s.heap.objs.size + 1) s.heap.objs.size 0 .none → h'.IsTupleIter s.heap.objs.size l 0 → (∀ b o, s.heap.get? b = some o → h'.get? b = some o) → Q (.ref (s.heap.objs.size + 1)) { s with heap := h' }) :
    wpAny (model prog w) A (call (.type "enumerate") [.ref l]) Q E s := by
  refine callType_new F.called_enumerate (by decide) (F.typeCall_enumerate_1 _) (F.newCall_enumerate_1 _) (fun obj => F.args_object_init_2 obj _) F.entry_enumerate_new (meets_enum_new (begins_tuple l items)) ⟨hL, ?_⟩
  have hz : (s.heap.push { cls := .type "tuple_iterator", data := .fields #[.ref l, .int 0 0] }).objs.size = s.heap.objs.size + 1 := Heap.size_push ..
  show _ ∧ _
  rw [hz]
  have he : IsEnum ((s.heap.push { cls := .type "tuple_iterator", data := .fields #[.ref l, .int 0 0] }).push { cls := .type "enumerate", data := .fields #[.none, .bool false, .ref s.heap.objs.size, rawInt 0, .none, .none] }) (s.heap.objs.size + 1) s.heap.objs.size 0 .none := by
    have q := Heap.get?_push_size (s.heap.push { cls := .type "tuple_iterator", data := .fields #[.ref l, .int 0 0] }) (o := { cls := .type "enumerate", data := .fields #[.none, .bool false, .ref s.heap.objs.size, rawInt 0, .none, .none] }) rfl
    rw [hz] at q
    exact q
  exact ⟨⟨_, he, rfl⟩, k _ he ⟨_, Heap.get?_push_of_some _ (Heap.get?_push_size _ rfl), rfl, rfl⟩ fun b o x => Heap.get?_push_of_some _ (Heap.get?_push_of_some _ x)⟩
end
/-- the turns of enumerate(a tuple) -/
def IteT (K : PySem.W.Frag) (a : Addr) : It :=
  ⟨fun i H => ∃ (xs : List V) (x : V), SqT K H a xs ∧ xs[i]? = some x, fun i H v H' => ∃ T x, v = .ref T ∧ H T = none ∧ H' = upd H T (.tup [.int (i : Nat), x]) ∧ ∀ xs, SqT K H a xs → xs[i]? = some x, fun i H => ∃ xs : List V, SqT K H a xs ∧ xs.length ≤ i⟩
theorem turn_enumT {P : Program} {w : World} {K : PySem.W.Frag} {elts : List Expr} {kk : Nat} {tpos : Pos} (a e it : Addr) :
    Turn P w K (.Tuple elts kk tpos) (IteT K a) [e, it] e (fun i h => (∃ old, IsEnum h e it ((i : Nat) : Int) old) ∧ h.IsTupleIter it a i ∧ e ≠ it ∧ a ≠ e ∧ a ≠ it) where
  mem := by simp
  obj := fun i h st b hb => by
    obtain ⟨⟨old, he⟩, ⟨o, ho, hc, hd⟩, _⟩ := st
    have e' : b = e ∨ b = it := by simpa using hb
    rcases e' with z | z
    · rw [z]; exact ⟨_, he, fun v q => nomatch q⟩
    · rw [z]; exact ⟨o, ho, fun v q => by rw [hd] at q; cases q⟩
  keep := fun i h h' st k => let ⟨⟨old, he⟩, hi, n1, n2, n3⟩ := st; ⟨⟨old, k e (by simp) _ he⟩, hi.at fun o q => k it (by simp) o q, n1, n2, n3⟩
  item := by
    intro X hP hw hK hc i pins s σ H E I hf st hg
    subst hP hw hK
    obtain ⟨⟨old, he⟩, hit, hne, ae, ai⟩ := st
    obtain ⟨xs, x, hq, hx⟩ := hg
    obtain ⟨its, rv, p, hz⟩ := I.tuple hq
    obtain ⟨u, hu, ru⟩ := rv.get hx
    have hel : e < s.heap.objs.size := Heap.lt_size he
    have hil : it < s.heap.objs.size := by obtain ⟨_, q, _⟩ := hit; exact Heap.lt_size q
    have hi : i < its.toArray.size := by rw [List.size_toArray]; exact (List.getElem?_eq_some_iff.mp hu).1
    have hef : e ∉ [it, a] := by simp only [List.mem_cons, List.not_mem_nil, or_false, not_or]; exact ⟨hne, fun z => ae z.symm⟩
    refine wpAny_pyNext_enum_itemD (Draws.tuple (A := X.A.in1) (I.ok.hd hc) it a ai its.toArray) he ⟨hit, p⟩ hi hne hef fun y h' tk hy ho st' hT hsz hk => ?_
    have ey : y = u := by
      have hy' : its[i]? = some y := by simpa using hy
      rw [hu] at hy'
      exact (Option.some.inj hy').symm
    subst ey
    refine ⟨_, rfl, wpAny_letOwnedTupleGo_enum (s := { s with heap := h', toks := tk + 1 }) ho fun h'' he' sb => ?_⟩
    have hT2 : h''.get? s.heap.objs.size = some { cls := .type "tuple", data := .seq #[.int i tk, y] } := (sb.2 _ (Nat.ne_of_gt hel)).trans hT
    have new : ObjOk X.prog X.w (upd H s.heap.objs.size (.tup [.int (i : Nat), x])) h'' s.heap.objs.size (.tup [.int (i : Nat), x]) := ⟨by show 2 ≤ sizeLine; decide, [.int i tk, y], .cons ⟨_, rfl⟩ (.cons ru .nil), ⟨_, hT2, rfl, _, rfl⟩⟩
    have I1 : Inv X pins σ (upd H s.heap.objs.size (.tup [.int (i : Nat), x])) { s with heap := h'', toks := tk + 1 } :=
      I.turnedNew (ch := [e, it]) (fun b ob hb q => (sb.2 b (fun z => hb (by simp [z]))).trans (hk b ob (fun z => hb (by simp [z])) (fun z => hb (by simp [z])) q)) hf (Nat.le_refl _) new
    refine ⟨.ref s.heap.objs.size, _, I1, rfl, ⟨_, x, rfl, I.hok.fresh (Nat.le_refl _), rfl, fun ys hy => by rw [I.tuple_inj hy hq]; exact hx⟩, ⟨⟨y, ?_⟩, st'.1.at fun o q => (sb.2 it (Ne.symm hne)).trans q, hne, ae, ai⟩, fun b hb => ?_⟩
    · rw [show ((i + 1 : Nat) : Int) = (i : Int) + 1 by omega]; exact he'
    · have hb' : b < s.heap.objs.size := by
        have e' : b = e ∨ b = it := by simpa using hb
        rcases e' with z | z
        · rw [z]; exact hel
        · rw [z]; exact hil
      rw [upd_ne (Nat.ne_of_lt hb')]
      exact (hf b hb).1
  done := by
    intro X hP hw hK hc i pins s σ H E I hf st hg
    subst hP hw hK
    obtain ⟨⟨old, he⟩, hit, hne, ae, ai⟩ := st
    obtain ⟨xs, hq, hx⟩ := hg
    obtain ⟨its, rv, p, hz⟩ := I.tuple hq
    obtain ⟨f0, f1, f2, f3, f4, f5⟩ := hf it (by simp)
    have hl := rv.length
    have D := Draws.tuple (prog := X.prog) (w := X.w) (A := X.A.in1) (I.ok.hd hc) it a ai its.toArray
    unfold pyNext
    have hT : s.TypeIs (.ref e) "enumerate" := ⟨_, he, rfl⟩
    refine wpAny_bind (wpAny_attempt (wpAny_callSpecial?_slot (name := Str.ofString "__next__") hT F.slot_enumerate_next (wpAny_call_entry F.slot_enumerate_next hT F.entry_enumerate_next ?_ (F.args_enumerate_next_1 _))))
    show wpAny _ _ (field (.ref e) 2 >>= _) _ _ _
    refine wpAny_bind (wpAny_field he rfl (x := .ref it) rfl ?_)
    refine wpAny_bind (wpAny_nextOf_tuple_end (A := X.A.in1) (I.ok.hd hc) hit (show s.heap.IsTuple a its.toArray from p) (by simp; omega) fun h' x eb hx' => ?_)
    obtain ⟨o, ho, hc⟩ := hx'
    refine wpAny_bind (wpAny_isInstance (T := "StopIteration") (b := true) ⟨o, ho, hc⟩ isSubtype_stop ?_)
    exact wpAny_pure ⟨rfl, I.turned (t' := s.toks) (fun b o hb q => eb b o hb q) f0 f1 f3 f4 f5⟩
  self := fun A i s Q E st h => let ⟨⟨_, he⟩, _⟩ := st; wpAny_pyIter_enum he h
def iEnumA (K : PySem.W.Frag) (ta : TA) : TI := fun σ H R => ta σ H fun vs H1 => ∃ a xs, vs = [.ref a] ∧ ((SqL K H1 a xs ∧ R (Ite K a) H1) ∨ (SqT K H1 a xs ∧ R (IteT K a) H1))
theorem pi_enumA {X : Cx} {e : Expr} {ta : TA} {p pos tpos : Pos} {elts : List Expr} {kk : Nat} (hg : Gl X "enumerate") (hm : X.mg "enumerate" = none) (ha : PA X [e] ta) (hs : starEach [e] X.env = [(false, eval e X.env)] := by rfl) :
    PI X (.Tuple elts kk tpos) (.Call (.Name "enumerate" p) [e] [] pos) (iEnumA X.K ta) := by
  refine ⟨fun pins s σ H R I h => ?_⟩
  refine Call_ (ld_blt I hg hm boot_enumerate (PyProof.Rows.callWith_type1 (thn (ha.run pos pins s σ H _ I h) fun us s1 ⟨vs, H1, I1, r1, q1⟩ => ?_) hs rfl))
  obtain ⟨a, xs, ex, q⟩ := q1
  subst ex
  cases r1 with
  | cons r rr =>
    cases rr
    cases r
    have fp : ∀ b, b = s1.heap.objs.size + 1 ∨ b = s1.heap.objs.size → FpOk X pins H1 b := fun b e' => by
      have hle : s1.heap.objs.size ≤ b := by rcases e' with z | z <;> rw [z] <;> omega
      exact I1.fpOk hle (I1.hok.fresh hle)
    rcases q with ⟨hq, q⟩ | ⟨hq, q⟩
    · obtain ⟨its, rv, p', hz⟩ := I1.list hq
      refine call_enumerate_list p'.isList fun h' he hit hsz hk => wpAny_pyIter_enum he ?_
      have I2 : Inv X pins σ H1 { s1 with heap := h' } := I1.kept (t' := s1.toks) hk
      exact ⟨s1.heap.objs.size + 1, [s1.heap.objs.size + 1, s1.heap.objs.size], _, _, H1, rfl, I2, turn_enum a (s1.heap.objs.size + 1) s1.heap.objs.size, ⟨⟨.none, he⟩, hit, Nat.succ_ne_self _⟩, fun b hb => fp b (by simpa using hb), q⟩
    · obtain ⟨its, rv, p', hz⟩ := I1.tuple hq
      have hlt : a < s1.heap.objs.size := by obtain ⟨o, ho, _⟩ := (show s1.heap.IsTuple a its.toArray from p'); exact Heap.lt_size ho
      refine call_enum_tup p' fun h' he hit hk => wpAny_pyIter_enum he ?_
      have I2 : Inv X pins σ H1 { s1 with heap := h' } := I1.kept (t' := s1.toks) hk
      exact ⟨s1.heap.objs.size + 1, [s1.heap.objs.size + 1, s1.heap.objs.size], _, _, H1, rfl, I2, turn_enumT a (s1.heap.objs.size + 1) s1.heap.objs.size, ⟨⟨.none, he⟩, hit, Nat.succ_ne_self _, Nat.ne_of_lt (Nat.lt_succ_of_lt hlt), Nat.ne_of_lt hlt⟩, fun b hb => fp b (by simpa using hb), q⟩
/-- a list or a tuple -/
structure Sq (α : Type) where
  t : Bool
  l : List α
  deriving DecidableEq
instance {α : Type} [Rp α] : Rp (Sq α) where
  rep K H v s := ∃ p vs, v = .ref p ∧ H p = some (if s.t = true then HO.tup vs else HO.lst vs) ∧ All2 (Rp.rep K H) vs s.l
  mono {K H H' v a} e h := by
    obtain ⟨p, vs, e1, e2, e3⟩ := h
    exact ⟨p, vs, e1, e p _ e2, e3.mono fun _ _ r => Rp.mono e r⟩
theorem sq_cases {α : Type} [Rp α] {K : PySem.W.Frag} {H : Hp} {v : V} {s : Sq α} (h : Rp.rep K H v s) : ∃ p vs, v = .ref p ∧ (H p = some (.lst vs) ∨ H p = some (.tup vs)) ∧ All2 (Rp.rep K H) vs s.l := by
  obtain ⟨p, vs, h1, h2, h3⟩ := h
  refine ⟨p, vs, h1, ?_, h3⟩
  split at h2
  · exact .inr h2
  · exact .inl h2
section
variable {K : PySem.W.Frag} {E : XK} {σ : L2.St} {H0 F H F' H' : Hp} {ta tb te tl : TE} {α β γ : Type} [Rp α] [Rp β] [Rp γ]
theorem g_sqL {m : R (List α)} (h : Gr K E te σ F H m) : Gr K E te σ F H (R.bd m fun l => .ok (Sq.mk false l)) := fun H1 e Q hq =>
  h H1 e Q (by rw [wp_bd] at hq; exact wp_mono hq (fun a _ k v H2 e2 ⟨p, vs, h1, h2, h3⟩ => k v H2 e2 ⟨p, vs, h1, h2, h3⟩) fun _ _ z => z)
theorem g_sqT {m : R (Tu α)} (h : Gr K E te σ F H m) : Gr K E te σ F H (R.bd m fun l => .ok (Sq.mk true l.l)) := fun H1 e Q hq =>
  h H1 e Q (by rw [wp_bd] at hq; exact wp_mono hq (fun a _ k v H2 e2 ⟨p, vs, h1, h2, h3⟩ => k v H2 e2 ⟨p, vs, h1, h2, h3⟩) fun _ _ z => z)
theorem g_lenSq {m : R (Sq α)} (h : Gr K E ta σ F H m) (hF : Same F H) : Gr K E (tCB (rLen K) (tCons ta tNil)) σ F H (R.bd m fun xs => .ok (xs.l.length : Int)) := fun H1 e Q hq =>
  gr_seq h e hq fun xs v H2 e2 r hq2 => by
    obtain ⟨p, vs, rfl, hp, hv⟩ := sq_cases r
    refine ⟨p, vs, rfl, ?_, ?_⟩
    · rcases hp with hp | hp
      · exact .inl (SqL.of (mix_same hF (e.trans e2) p _ hp))
      · exact .inr (SqT.of (mix_same hF (e.trans e2) p _ hp))
    · rw [hv.length]
      exact hq2 _ H2 (Same.refl _) rfl
theorem g_idxSq {ma : R (Sq α)} {mi : R Int} (ha : Gr K E ta σ F H ma) (hi : Gr K E tb σ F H mi) (hF : Same F H) : Gr K E (tOp (rIxA K) ta tb) σ F H (R.bd ma fun a => R.bd mi fun i => idx a.l i) := fun H1 e Q hq =>
  gr_seq ha e hq fun xs v H2 e2 r hq2 => gr_seq hi (e.trans e2) hq2 fun i w H3 e3 r3 hq3 => by
    obtain ⟨p, vs, rfl, hp, hv⟩ := sq_cases r
    have r3' : w = .int i := r3
    subst r3'
    unfold idx at hq3
    cases q : atI xs.l i with
    | none => rw [q] at hq3; exact hq3.elim
    | some a =>
      rw [q] at hq3
      obtain ⟨x, hx, rx⟩ := all2_atI hv q
      have fin := hq3 x H3 (Same.refl _) (Rp.mono (mix_mono e3) rx)
      rcases hp with hp | hp
      · exact .inl ⟨p, vs, i, x, rfl, rfl, SqL.of (e3 p _ (mix_same hF (e.trans e2) p _ hp)), hx, fin⟩
      · exact .inr ⟨p, vs, i, x, rfl, rfl, SqT.of (e3 p _ (mix_same hF (e.trans e2) p _ hp)), hx, fin⟩
theorem g_listSqI [Im α] {m : R (Sq α)} (h : Gr K E ta σ H H m) : Gr K E (tCB (rListOf K) (tCons ta tNil)) σ F H (R.bd m fun t => .ok t.l) := fun H1 e Q hq =>
  h H1 e _ (by
    rw [wp_bd] at hq
    refine wp_mono hq (fun xs _ k v H2 e2 r => ?_) fun _ _ z => z
    obtain ⟨p, vs, rfl, hp, hv⟩ := sq_cases r
    have s2 := mix_same (Same.refl _) (e.trans e2)
    exact ⟨p, vs, rfl, hp.elim (fun hp => .inl (SqL.of (s2 p _ hp))) fun hp => .inr (SqT.of (s2 p _ hp)), fun l hl => k _ _ (e2.trans (same_upd hl)) (reps_atI s2 (e.trans e2) (same_upd hl) (by rw [mix_new (Same.free (e.trans e2) hl)]; exact upd_same) hv)⟩)
theorem g_tupleSqI [Im α] {m : R (Sq α)} (h : Gr K E ta σ H H m) : Gr K E (tCB (rTupOf K) (tCons ta tNil)) σ F H (R.bd m fun t => .ok (Tu.mk t.l)) := fun H1 e Q hq =>
  h H1 e _ (by
    rw [wp_bd] at hq
    refine wp_mono hq (fun xs _ k v H2 e2 r => ?_) fun _ _ z => z
    obtain ⟨p, vs, rfl, hp, hv⟩ := sq_cases r
    have s2 := mix_same (Same.refl _) (e.trans e2)
    have tr : ∀ q ys, mix H H H2 q = some (.tup ys) → ∀ {H3 : Hp}, Same H2 H3 → mix F H H3 q = some (.tup ys) := fun q ys z H3 e3 => tup_mix (e.trans e2) e3 (s2 _ _ z)
    rcases hp with hp | hp
    · exact ⟨p, vs, rfl, .inl ⟨SqL.of (s2 p _ hp), fun l hl => k _ _ (e2.trans (same_upd hl)) ⟨l, vs, rfl, by rw [mix_new (Same.free (e.trans e2) hl)]; exact upd_same, im_all (fun q ys z => tr q ys z (same_upd hl)) hv⟩⟩⟩
    · exact ⟨p, vs, rfl, .inr ⟨SqT.of (s2 p _ hp), k _ H2 e2 ⟨p, vs, rfl, tr _ _ hp (Same.refl _), im_all (fun q ys z => tr q ys z (Same.refl _)) hv⟩⟩⟩)
theorem i_sq {m : R (Sq α)} (h : Gr K E ta σ F H m) (hF : Same F H) : GrI K E (iEnumA K (tCons ta tNil)) σ F H (R.bd m fun xs => .ok (enumL xs.l)) := fun H1 e RR hq =>
  h H1 e _ (by
    rw [wp_bd] at hq
    refine wp_mono hq (fun xs _ k v H2 e2 r => ?_) fun _ _ z => z
    obtain ⟨p, vs, rfl, hp, hv⟩ := sq_cases r
    have end_ : ∀ {i : Nat} {H' H'' : Hp} {x : V}, Same (mix F H H2) H' → i < (enumL xs.l).length → (∃ T y, x = .ref T ∧ H' T = none ∧ H'' = upd H' T (.tup [.int (i : Nat), y]) ∧ vs[i]? = some y) → Same H' H'' ∧ ∃ a, (enumL xs.l)[i]? = some a ∧ Rp.rep K (mix (mix F H H2) H' H'') x a := fun {i H' H'' x} s hi ⟨T, y, ex, hT, eH, hy⟩ => by
      subst ex; subst eH
      obtain ⟨a, ha, ra⟩ := hv.getL hy
      exact ⟨same_upd hT, _, enumL_get ha, T, _, y, rfl, by rw [mix_new hT]; exact upd_same, rfl, Rp.mono (same_mix s) ra⟩
    rcases hp with hp | hp
    · refine ⟨p, vs, rfl, .inl ⟨SqL.of (mix_same hF (e.trans e2) p _ hp), k _ H2 e2 ⟨fun i H' s hi => ?_, fun i H' s hi => ?_, fun i H' x H'' s hi y => ?_⟩⟩⟩
      · rw [enumL_len] at hi
        exact ⟨vs, vs[i]'(by rw [hv.length]; exact hi), SqL.of (s p _ hp), List.getElem?_eq_getElem _⟩
      · rw [enumL_len] at hi
        exact ⟨vs, SqL.of (s p _ hp), by rw [hv.length, hi]; exact Nat.le_refl _⟩
      · obtain ⟨T, z, ex, hT, eH, y⟩ := y
        exact end_ s hi ⟨T, z, ex, hT, eH, y vs (SqL.of (s p _ hp))⟩
    · refine ⟨p, vs, rfl, .inr ⟨SqT.of (mix_same hF (e.trans e2) p _ hp), k _ H2 e2 ⟨fun i H' s hi => ?_, fun i H' s hi => ?_, fun i H' x H'' s hi y => ?_⟩⟩⟩
      · rw [enumL_len] at hi
        exact ⟨vs, vs[i]'(by rw [hv.length]; exact hi), SqT.of (s p _ hp), List.getElem?_eq_getElem _⟩
      · rw [enumL_len] at hi
        exact ⟨vs, SqT.of (s p _ hp), by rw [hv.length, hi]; exact Nat.le_refl _⟩
      · obtain ⟨T, z, ex, hT, eH, y⟩ := y
        exact end_ s hi ⟨T, z, ex, hT, eH, y vs (SqT.of (s p _ hp))⟩)
theorem i_enumTu {m : R (Tu α)} (h : Gr K E ta σ F H m) (hF : Same F H) : GrI K E (iEnumA K (tCons ta tNil)) σ F H (R.bd m fun xs => .ok (enumL xs.l)) := fun H1 e RR hq =>
  i_sq (g_sqT h) hF H1 e RR (by
    rw [wp_bd] at hq
    rw [wp_bd, wp_bd]
    exact wp_mono hq (fun _ _ k => k) fun _ _ z => z)
end
end G

set_option Elab.async false
set_option linter.all false
set_option maxRecDepth 100000
set_option maxHeartbeats 4000000
/-! G: dicts whose keys are tuples of ints. -/
namespace G
open PySem PySem.Spec PyProof.Rows L2
/-- keys and values in the order in which they came -/
structure Dct (β : Type) where
  l : List (List Int × β)
def keyOf (ns : List Int) : List Key := ns.map Sum.inl
theorem keyOf_kV (ns : List Int) : (keyOf ns).map kV = ns.map V.int := by unfold keyOf; rw [List.map_map]; rfl
theorem keyOf_inj {a b : List Int} (h : keyOf a = keyOf b) : a = b := by
  have := congrArg (fun l => l.map fun k : Key => match k with | .inl i => i | .inr _ => 0) h
  simpa [keyOf, List.map_map, Function.comp_def] using this
def getL {β : Type} (l : List (List Int × β)) (k : List Int) : Option β := (l.find? fun e => decide (e.1 = k)).map (·.2)
def putL {β : Type} (l : List (List Int × β)) (k : List Int) (v : β) : List (List Int × β) := if (getL l k).isSome = true then l.map (fun e => if e.1 = k then (e.1, v) else e) else l ++ [(k, v)]
def Dct.get {β : Type} (d : Dct β) (k : Tu Int) : Option β := getL d.l k.l
def Dct.put {β : Type} (d : Dct β) (k : Tu Int) (v : β) : Dct β := ⟨putL d.l k.l v⟩
def Dct.keys {β : Type} (d : Dct β) : List (Tu Int) := d.l.map fun e => Tu.mk e.1
abbrev EntR {β : Type} [Rp β] (K : PySem.W.Frag) (H : Hp) : List Key × V → List Int × β → Prop := fun x e => x.1 = keyOf e.1 ∧ Rp.rep K H x.2 e.2
instance {β : Type} [Rp β] : Rp (Dct β) where
  rep K H v d := ∃ p kvs, v = .ref p ∧ H p = some (.dT kvs) ∧ All2 (EntR K H) kvs d.l
  mono {K H H' v a} e h := by
    obtain ⟨p, kvs, h1, h2, h3⟩ := h
    exact ⟨p, kvs, h1, e p _ h2, h3.mono fun _ _ r => ⟨r.1, Rp.mono e r.2⟩⟩
instance {β : Type} [Rp β] : NN (Dct β) := ⟨fun ⟨_, _, h, _⟩ => by rw [h]; intro q; cases q⟩
instance {β : Type} [Rp β] : Cel (Dct β) := ⟨fun K B o d => ∃ kvs, o = .dT kvs ∧ All2 (EntR K B) kvs d.l, fun ⟨_, h, _⟩ => by rw [h]; rfl, fun e ⟨vs, h, r⟩ => ⟨vs, h, r.mono fun _ _ x => ⟨x.1, Rp.mono e x.2⟩⟩, fun {K H p o x} h ⟨vs, h1, r⟩ => ⟨p, vs, rfl, by rw [h, h1], r⟩⟩
section
variable {K : PySem.W.Frag} {H : Hp} {β : Type} [Rp β]
theorem ent_get (k : List Int) : ∀ {kvs : List (List Key × V)} {l : List (List Int × β)}, All2 (EntR K H) kvs l → (valV kvs (keyOf k)).isSome = (getL l k).isSome ∧ ∀ b, getL l k = some b → ∃ v, valV kvs (keyOf k) = some v ∧ Rp.rep K H v b
  | _, _, .nil => ⟨rfl, fun b h => by cases h⟩
  | x :: kvs, e :: l, .cons r t => by
    obtain ⟨ih1, ih2⟩ := ent_get k t
    by_cases c : e.1 = k
    · have c2 : x.1 = keyOf k := by rw [r.1, c]
      have g : getL (e :: l) k = some e.2 := by unfold getL; rw [List.find?_cons_of_pos (by simpa using c)]; rfl
      rw [valV_pos c2, g]
      exact ⟨rfl, fun b h => ⟨_, rfl, by cases h; exact r.2⟩⟩
    · have c2 : ¬ x.1 = keyOf k := fun z => c (keyOf_inj (by rw [← r.1, z]))
      have g : getL (e :: l) k = getL l k := by unfold getL; rw [List.find?_cons_of_neg (by simpa using c)]
      rw [valV_neg c2, g]
      exact ⟨ih1, ih2⟩
theorem ent_rep {k : List Int} {v : V} {b : β} (rv : Rp.rep K H v b) : ∀ {kvs : List (List Key × V)} {l : List (List Int × β)}, All2 (EntR K H) kvs l → All2 (EntR K H) (kvs.map fun kv => if kv.1 = keyOf k then (kv.1, v) else kv) (l.map fun e => if e.1 = k then (e.1, b) else e)
  | _, _, .nil => .nil
  | x :: kvs, e :: l, .cons r t => by
    rw [List.map_cons, List.map_cons]
    refine .cons ?_ (ent_rep rv t)
    by_cases c : e.1 = k
    · have c2 : x.1 = keyOf k := by rw [r.1, c]
      rw [if_pos c, if_pos c2]
      exact ⟨r.1, rv⟩
    · have c2 : ¬ x.1 = keyOf k := fun z => c (keyOf_inj (by rw [← r.1, z]))
      rw [if_neg c, if_neg c2]
      exact r
theorem ent_put {k : List Int} {v : V} {b : β} (rv : Rp.rep K H v b) {kvs : List (List Key × V)} {l : List (List Int × β)} (h : All2 (EntR K H) kvs l) : All2 (EntR K H) (putK kvs (keyOf k) v) (putL l k b) := by
  unfold putK putL
  rw [valV_any, (ent_get k h).1]
  split
  · exact ent_rep rv h
  · exact h.append (.cons ⟨rfl, rv⟩ .nil)
theorem ent_mono {H' : Hp} (e : Same H H') {kvs : List (List Key × V)} {l : List (List Int × β)} (h : All2 (EntR K H) kvs l) : All2 (EntR K H') kvs l := h.mono fun _ _ r => ⟨r.1, Rp.mono e r.2⟩
theorem ent_keys {H2 : Hp} : ∀ {kvs : List (List Key × V)} {l : List (List Int × β)} {bs : List Addr}, All2 (EntR K H) kvs l → IsKeys H2 kvs bs → All2 (fun b (ns : List Int) => H2 b = some (.tup (ns.map V.int))) bs (l.map Prod.fst)
  | _, _, _, .nil, h => by cases h; exact .nil
  | _, _, _, .cons r t, h => by
    cases h with
    | cons h1 h2 =>
      refine .cons ?_ (ent_keys t h2)
      rw [h1, r.1, keyOf_kV]
end
def getR {β : Type} (d : Dct β) (k : Tu Int) : R β := match d.get k with
  | some b => .ok b
  | none => .bad
noncomputable def putR {β : Type} (d : Dct β) (k : Tu Int) (v : β) : R (Dct β) := gd (d.l.length < lim) (.ok (d.put k v))
/-- {k: v}, the key a tuple -/
def tDisp1 (tk tv : TE) : TE := fun σ H Q => ∀ p, H p = none → tk σ (upd H p (.dT [])) fun x H1 => tv σ H1 fun y H2 => H2 p = some (.dT []) ∧ ∃ b ks, x = .ref b ∧ H2 b = some (.tup (ks.map kV)) ∧ Q (.ref p) (upd H2 p (.dT [(ks, y)]))
theorem pe_disp1 {X : Cx} {pos : Pos} {k v : Expr} {tk tv : TE} (hu : X.A.units + 1 < cLine) (hk : PE X k tk) (hv : PE X v tv) : PE X (.Dict [some k] [v] pos) (tDisp1 tk tv) := by
  refine ⟨fun pins s σ H Q I q => ?_⟩
  have hn := I.hok.fresh (Nat.le_refl s.heap.objs.size)
  have I1 := I.laid (a := s.heap.objs.size) (o := .dT []) (h' := s.heap.push { cls := .type "dict", data := .dict #[] }) (t' := s.toks) (fun _ _ q => Heap.get?_push_of_some _ q) (Nat.le_refl _) (dt_empty s.heap I.big)
  rw [arm_eval_Dict, zip_pairTrees [some k] [v] X.env pos rfl rfl, dictDisplay_pairs (pairTrees [some k] [v] X.env pos) (by simp [pairTrees]) (by simp [pairTrees])]
  refine wpAny_bind (wpAny_standAt (wpAny_bind (wpAny_subDictH (knd := tupleKind (mixKind X.prog X.w)) (Q := fun d s' => wpAny (model X.prog X.w) X.A (pure (Value.ref d)) (EP X pins σ Q) X.xe s') (show X.A.units < cLine by omega) (by simp [pairTrees]) ?_)))
  refine pairTrees_cons_walk (thn (hk.run pins _ σ _ _ I1 (q _ hn)) fun u s1 ⟨x, H1, I2, rx, q1⟩ => thn (hv.run pins s1 σ H1 _ I2 q1) fun w2 s2 ⟨y, H2, I3, ry, e, b, ks, ex, hb, q2⟩ => ?_)
  subst ex
  obtain rfl : u = Value.ref b := rx
  refine pairTrees_nil_walk ?_
  obtain ⟨z, hd, xs, rel, dd⟩ := dt_of I3.hok e
  cases rel
  refine ⟨[(ks, b, w2)], ⟨rfl, rfl, key_of I3.hok hb, trivial⟩, dd, fun h' tk dd' hs => wpAny_pure ⟨.ref s.heap.objs.size, _, ?_, rfl, q2⟩⟩
  obtain ⟨q, es, ep, hq, h2, h3, h4, _, h5⟩ := dd'
  refine d_write (t' := tk) I3 (by rw [e]; exact True.intro) hs ⟨q, hq⟩ ⟨by show 1 ≤ sizeLine; decide, hd, _, Paired.cons ⟨rfl, ?_, ry⟩ .nil, q, es, ep, hq, h2, h3, h4, h5⟩
  rw [upd_ne (ne_of hb e (fun z => nomatch z))]
  exact hb
section
variable {K : PySem.W.Frag} {E : XK} {σ : L2.St} {H0 F H F' H' : Hp} {ta tb te tl to ti tk tv td : TE} {t u : TT} {α β γ δ ρ : Type} [Rp α] [Rp β] [Rp γ] [Rp δ] [Rp ρ] {D : Ends} {b : Bool}
theorem g_dnew : Gr K E tDNewT σ F H (.ok (Dct.mk ([] : List (List Int × β)))) := fun H1 e Q hq p hp => hq _ _ (same_upd hp) ⟨p, [], rfl, by rw [mix_new (Same.free e hp)]; exact upd_same, .nil⟩
theorem g_disp1 [Im β] {mk : R (Tu Int)} {mv : R β} (hk : Gr K E tk σ H H mk) (hv : Gr K E tv σ H H mv) : Gr K E (tDisp1 tk tv) σ F H (R.bd mk fun k => R.bd mv fun v => .ok (Dct.mk [(k.l, v)])) := fun H1 e Q hq p hp => by
  have e1 : Same H (upd H1 p (.dT [])) := e.trans (same_upd hp)
  refine hk _ e1 _ ?_
  rw [wp_bd] at hq
  refine wp_mono hq (fun k _ kk x H2 e2 rk => ?_) fun c _ z => z.mono (same_upd hp)
  obtain ⟨b, vs, rfl, hb, hw⟩ := rk
  have h2 := rep_ints hw
  subst h2
  have hb2 := mix_same (Same.refl _) (e1.trans e2) _ _ hb
  refine hv H2 (e1.trans e2) _ ?_
  rw [wp_bd] at kk
  refine wp_mono kk (fun v _ kv y H3 e3 rv => ?_) fun c _ z => z.mono ((same_upd hp).trans e2)
  have hp3 : H3 p = some (.dT []) := e3 _ _ (e2 _ _ upd_same)
  refine ⟨hp3, b, keyOf k.l, rfl, by rw [keyOf_kV]; exact e3 _ _ hb2, ?_⟩
  have hn : H p = none := Same.free e hp
  have s3 : Same H1 (upd H3 p (.dT [(keyOf k.l, y)])) := fun a o h => by
    have ne : a ≠ p := fun z => by rw [z, hp] at h; cases h
    rw [upd_ne ne]
    exact e3 _ _ (e2 _ _ (same_upd hp _ _ h))
  refine kv _ _ s3 ⟨p, _, rfl, by rw [mix_new hn]; exact upd_same, .cons ⟨rfl, Im.mv (fun q ys z => ?_) rv⟩ .nil⟩
  have z3 := mix_same (Same.refl _) ((e1.trans e2).trans e3) _ _ z
  have s4 : Same H (upd H3 p (.dT [(keyOf k.l, y)])) := e.trans s3
  cases w : H q with
  | none =>
    rw [mix_new w]
    rw [upd_ne (fun c => by rw [c, hp3] at z3; cases z3)]
    exact z3
  | some u =>
    have := ((e1.trans e2).trans e3) q u w
    rw [z3] at this
    cases this
    exact mix_tup w rfl
theorem g_din {ma : R (Tu Int)} {mb : R (Dct β)} (ha : Gr K E ta σ H H ma) (hb : Gr K E tb σ H H mb) : Gr K E (tDIn ta tb) σ F H (R.bd ma fun k => R.bd mb fun d => .ok (d.get k).isSome) := fun H1 e Q hq =>
  gr_arg ha e hq fun k v H2 e2 r hq2 => gr_arg hb (e.trans e2) hq2 fun d w H3 e3 r3 hq3 => by
    obtain ⟨a, vs, rfl, hp, hw⟩ := r
    have h2 := rep_ints hw
    subst h2
    obtain ⟨p, kvs, rfl, hd, hv⟩ := r3
    refine ⟨p, _, rfl, DGet.t (k := keyOf k.l) hd (by rw [keyOf_kV]; exact e3 _ _ hp), ?_⟩
    rw [(ent_get k.l hv).1]
    exact hq3 _ H3 (Same.refl _) rfl
theorem g_dnotin {ma : R (Tu Int)} {mb : R (Dct β)} (ha : Gr K E ta σ H H ma) (hb : Gr K E tb σ H H mb) : Gr K E (tDNotIn ta tb) σ F H (R.bd ma fun k => R.bd mb fun d => .ok (!(d.get k).isSome)) := fun H1 e Q hq =>
  gr_arg ha e hq fun k v H2 e2 r hq2 => gr_arg hb (e.trans e2) hq2 fun d w H3 e3 r3 hq3 => by
    obtain ⟨a, vs, rfl, hp, hw⟩ := r
    have h2 := rep_ints hw
    subst h2
    obtain ⟨p, kvs, rfl, hd, hv⟩ := r3
    refine ⟨p, _, rfl, DGet.t (k := keyOf k.l) hd (by rw [keyOf_kV]; exact e3 _ _ hp), ?_⟩
    rw [(ent_get k.l hv).1]
    exact hq3 _ H3 (Same.refl _) rfl
theorem g_dget {ma : R (Tu Int)} {mb : R (Dct β)} (hb : Gr K E tb σ F H mb) (ha : Gr K E ta σ H H ma) (hF : Same F H) : Gr K E (tDGet tb ta) σ F H (R.bd mb fun d => R.bd ma fun k => getR d k) := fun H1 e Q hq =>
  gr_seq hb e hq fun d w H2 e2 r hq2 => gr_arg ha (e.trans e2) hq2 fun k v H3 e3 r3 hq3 => by
    obtain ⟨a, vs, rfl, hp, hw⟩ := r3
    have h2 := rep_ints hw
    subst h2
    obtain ⟨p, kvs, rfl, hd, hv⟩ := r
    unfold getR Dct.get at hq3
    cases q : getL d.l k.l with
    | none => rw [q] at hq3; exact hq3.elim
    | some x =>
      rw [q] at hq3
      obtain ⟨z, h1, h2⟩ := (ent_get k.l hv).2 x q
      refine ⟨p, z, rfl, ?_, hq3 z H3 (Same.refl _) (Rp.mono (mix_mono e3) h2)⟩
      rw [← h1]
      exact DGet.t (e3 _ _ (mix_same hF (e.trans e2) _ _ hd)) (by rw [keyOf_kV]; exact hp)
theorem g_dlen {m : R (Dct β)} (h : Gr K E ta σ F H m) (hF : Same F H) : Gr K E (tCB rLenT (tCons ta tNil)) σ F H (R.bd m fun d => .ok (d.l.length : Int)) := fun H1 e Q hq =>
  gr_seq h e hq fun d v H2 e2 r hq2 => by
    obtain ⟨p, kvs, rfl, hd, hv⟩ := r
    refine ⟨p, kvs, rfl, mix_same hF (e.trans e2) _ _ hd, ?_⟩
    rw [hv.length]
    exact hq2 _ H2 (Same.refl _) rfl
/-- d[k] = v, d ours -/
theorem s_dput {p : Addr} {d : Dct α} {m : R α} {mk : R (Tu Int)} {k : Dct α → R β} {kk : β → Prop} (ha : At to σ H p) (o : Own K H0 b F H p d) (he : Gr K E te σ (Bs H0 F b) H m) (hi : Gr K E ti σ H H mk) (hF : Same F H) (e0 : Same H0 H)
    (hQ : Wp (R.bd (R.bd m fun a => R.bd mk fun i => putR d i a) k) kk (EE K E H0))
    (c : ∀ d' F' H', Nx (fun q => q = p) F H F' H' → Same H0 H' → Own K H0 b F' H' p d' → Wp (k d') kk (EE K E H0) → D.nx σ H') : sDPut to ti te D σ H := by
  obtain ⟨h0, f, _, hp, kvs, rfl, r⟩ := o
  refine he H (Same.refl _) _ ?_
  rw [bd_assoc, wp_bd] at hQ
  refine wp_mono hQ (fun a _ q v H2 e2 rv => ?_) fun c _ z => z.mono e0
  refine ha H2 e2 _ ?_
  refine hi H2 e2 _ ?_
  rw [bd_assoc, wp_bd] at q
  refine wp_mono q (fun i _ q w H3 e3 ri => ?_) fun c _ z => z.mono (e0.trans e2)
  obtain ⟨bb, vs, rfl, hb, hw⟩ := ri
  have h2 := rep_ints hw
  subst h2
  have e3' := e2.trans e3
  have hb3 := mix_same (Same.refl _) e3' _ _ hb
  unfold putR gd at q
  split at q
  · rename_i cl
    refine ⟨p, _, rfl, DPut.t (k := keyOf i.l) (e3 p _ (e2 p _ hp)) (by rw [keyOf_kV]; exact hb3) (lim_line' (by rw [r.length]; exact cl)), ?_⟩
    exact c _ (mix F H H3) _ (nx_upd hF e3' hp f) (e0_upd e0 e3' h0) ⟨h0, by rw [mix_old hp]; exact f, _, upd_same, _, rfl, ent_put (Rp.mono ((mix_mono e3).trans (bs_mix e0 hF e3')) rv) (ent_mono (bs_ff (same_mix hF)) r)⟩ q
  · exact q.elim
/-! the keys, sorted -/
theorem reads_ints {h : Heap} : ∀ {ns : List Int} {us : List Value} {as : List Addr}, ReadsAll h us (ns.map PyData.int) as → as = []
  | [], _, _, r => by
    have r' : ReadsAll h _ [] _ := r
    cases r'
    rfl
  | n :: ns, _, _, r => by
    have r' : ReadsAll h _ (PyData.int n :: ns.map PyData.int) _ := r
    cases r' with
    | cons h1 h2 =>
      cases h1
      rw [reads_ints h2]
      rfl
theorem ints_reads {h : Heap} : ∀ {ns : List Int} {us : List Value}, Vals (ns.map V.int) us → ReadsAll h us (ns.map PyData.int) []
  | [], _, r => by
    rw [List.map_nil] at r
    cases r
    exact .nil
  | n :: ns, _, r => by
    rw [List.map_cons] at r
    cases r with
    | cons h1 h2 =>
      obtain ⟨t, rfl⟩ := h1
      exact .cons (.int n t) (ints_reads h2)
abbrev encT (q : Addr × List Int) : PyData := .tuple (q.2.map PyData.int)
def rSortD (K : PySem.W.Frag) : List V → Hp → VK → Prop := fun vs H Q => ∃ (d : Addr) (kvs : List (List Key × V)) (ks : List (List Int)), vs = [V.ref d] ∧ H d = some (.dT kvs) ∧ kvs.map Prod.fst = ks.map keyOf ∧ (∀ k ∈ ks, k ≠ []) ∧
  ∀ l (ps : List (Addr × List Int)), H l = none → ps.map Prod.snd = ks → (∀ q ∈ ps, H q.1 = some (.tup (q.2.map V.int))) → Q (.ref l) (upd H l (.lst ((ps.mergeSort (W.dataLe false encT)).map fun q => V.ref q.1)))
theorem keys_pairs {H : Hp} : ∀ {kvs : List (List Key × V)} {xs : List (List Key × Addr × Value)} {ks : List (List Int)}, KT H kvs xs → kvs.map Prod.fst = ks.map keyOf → ∃ ps : List (Addr × List Int), ps.map Prod.snd = ks ∧ ps.map Prod.fst = xs.map (fun x => x.2.1) ∧ ∀ q ∈ ps, H q.1 = some (.tup (q.2.map V.int))
  | _, _, [], r, e => by
    cases r with
    | nil => exact ⟨[], rfl, rfl, fun q hq => by cases hq⟩
    | cons h t => simp at e
  | _, _, k :: ks, r, e => by
    cases r with
    | nil => simp at e
    | @cons p q ps qs h t =>
      rw [List.map_cons, List.map_cons, List.cons.injEq] at e
      obtain ⟨zs, h1, h2, h3⟩ := keys_pairs t e.2
      refine ⟨(q.2.1, k) :: zs, by simp [h1], by simp [h2], fun z hz => ?_⟩
      rcases List.mem_cons.mp hz with c | c
      · subst c
        have := h.2.1
        rw [e.1, keyOf_kV] at this
        exact this
      · exact h3 z c
theorem each_pairs {pins : List (Addr × Obj)} {X : Cx} {σ : L2.St} {H : Hp} {s : Shared} (I : Inv X pins σ H s) : ∀ (ps : List (Addr × List Int)), (∀ q ∈ ps, H q.1 = some (.tup (q.2.map V.int))) → W.EachIs (fun (v : Value) (q : Addr × List Int) => v = .ref q.1) (ps.map fun q => Value.ref q.1) ps ∧ W.EachIs (fun (v : Value) (q : Addr × List Int) => Reads s.heap v (encT q) []) (ps.map fun q => Value.ref q.1) ps
  | [], _ => ⟨.nil, .nil⟩
  | q :: ps, h => by
    obtain ⟨a, b⟩ := each_pairs I ps fun z hz => h z (List.mem_cons_of_mem _ hz)
    refine ⟨.cons rfl a, .cons ?_ b⟩
    obtain ⟨_, its, r, o, h1, h2, n, h3⟩ := (show ObjOk X.prog X.w H s.heap q.1 (.tup (q.2.map V.int)) from I.hok q.1 _ (h q List.mem_cons_self))
    exact .tuple h1 h2 h3 (by simpa using ints_reads r)
theorem each_refs {ps : List (Addr × List Int)} : ∀ {vs : List Value}, W.EachIs (fun (v : Value) (q : Addr × List Int) => v = .ref q.1) vs ps → vs = ps.map fun q => Value.ref q.1 := by
  induction ps with
  | nil => intro vs h; cases h; rfl
  | cons q ps ih => intro vs h; cases h with
    | cons h1 h2 => rw [h1, ih h2]; rfl
theorem vals_refs2 : ∀ ps : List (Addr × List Int), Vals (ps.map fun q => V.ref q.1) (ps.map fun q => Value.ref q.1)
  | [] => .nil
  | _ :: r => .cons rfl (vals_refs2 r)
theorem cr_sortD {X : Cx} (hc : X.calm = true) (hu : X.A.units + 64 < cLine) : CallR X (.builtin "sorted") (rSortD X.K) := by
  intro pins s σ H vs us Q I r h
  obtain ⟨d, kvs, ks, rfl, hd, hk, hne, q⟩ := h
  rw [Vals.ref1 r]
  obtain ⟨z, hs, ys, pr, o, es, ep, ho, hx, hdt, he, hn⟩ := (show ObjOk X.prog X.w H s.heap d (.dT kvs) from I.hok d _ hd)
  have l1 : es.size = ys.length := size_of_entries he
  have l2 : kvs.length = ys.length := Paired.length pr
  obtain ⟨ps, e1, e2, hps⟩ := keys_pairs pr hk
  have lp : ps.length = ys.length := by rw [← List.length_map (f := Prod.fst), e2, List.length_map]
  refine Calls.call_function_entry kind_sorted plain_sorted entry_sorted (args_sorted1 _) ?_
  unfold Builtin.«sorted»
  refine wpAny_bind (m := checkCount "sorted" 1 1 _) (wpAny_pure ?_)
  refine wpAny_bind (W.kdu_collect (A := X.A.in1) (kdl_raw hs hx hdt) (I.ok.hd hc) ho (by omega) fun h' tk acc kp it => ?_)
  have ea : acc.toList = ps.map fun q => Value.ref q.1 := by
    have hl : acc.toList.length = ys.length := by rw [Array.length_toList, it.1]; exact l1
    apply List.ext_getElem?
    intro j
    rw [List.getElem?_map]
    cases hj : acc.toList[j]? with
    | none => rw [List.getElem?_eq_none (by have := List.getElem?_eq_none_iff.mp hj; omega)]; rfl
    | some v =>
      obtain ⟨en, hen, hv⟩ := it.2 j v (by rw [← Array.getElem?_toList]; exact hj)
      have qe := entry_at he j
      rw [hen] at qe
      have hpj := congrArg (fun l => l[j]?) e2
      simp only [List.getElem?_map] at hpj
      cases hb : ys[j]? with
      | none => rw [hb] at qe; cases qe
      | some b =>
        rw [hb] at qe hpj
        have e3 : en = entryOfKey (tupleKind (mixKind X.prog X.w)) b := Option.some.inj qe
        cases hp : ps[j]? with
        | none => rw [hp] at hpj; cases hpj
        | some p =>
          rw [hp] at hpj
          have e4 : p.1 = b.2.1 := by simpa using hpj
          rw [hv, e3]
          show some (Value.ref b.2.1) = some (Value.ref p.1)
          rw [e4]
  have hz : acc.toList.length ≤ sizeLine := by rw [ea, List.length_map]; omega
  refine wpAny_bind (wpAny_newList ?_ hz)
  have I1 : Inv X pins σ H { s with heap := h', toks := tk } := I.kept (t' := tk) kp
  have hat : (h'.push { cls := .type "list", data := .seq acc.toList.toArray }).get? h'.objs.size = some (seqObj "list" acc.toList.toArray 0) := Heap.get?_push_size _ rfl
  have old : ∀ b o, h'.get? b = some o → (h'.push { cls := .type "list", data := .seq acc.toList.toArray }).get? b = some o := fun b o e => Heap.get?_push_of_some _ e
  have I2 : Inv X pins σ H { s with heap := h'.push { cls := .type "list", data := .seq acc.toList.toArray }, toks := tk } := I1.kept (t' := tk) old
  obtain ⟨ec1, ec2⟩ := each_pairs I2 ps hps
  rw [← ea] at ec1 ec2
  refine wpAny_bind (wpAny_holding (wpAny_mono (W.list_sort_data (A := X.A.in1) (s := { s with heap := h'.push { cls := .type "list", data := .seq acc.toList.toArray }, toks := tk }) (Q := fun _ s' => EP X pins σ Q (.ref h'.objs.size) s') (enc := encT) (bs := ps) hat ec1 (ec2.mono fun _ _ w => ⟨[], w, by simp⟩) (W.AllAlike.of fun b b' => by
    show W.alike (.tuple _) (.tuple _) = true
    simp only [W.alike]
    exact W.alike_ints _ _) (.inl fun dd hdd => ?_) (by omega) (fun b hb => ?_) fun out hlen hE => ?_) (fun v s' w => ?_) fun _ _ e => e))
  · obtain ⟨b, hb, rfl⟩ := List.mem_map.mp hdd
    have : b.2 ≠ [] := hne _ (by rw [← e1]; exact List.mem_map.mpr ⟨b, hb, rfl⟩)
    cases w : b.2 with
    | nil => exact absurd w this
    | cons x l => exact ⟨.int x, l.map PyData.int, by show PyData.tuple (b.2.map PyData.int) = _; rw [w]; rfl⟩
  · show X.A.units + 1 + 1 + (PyData.tuple (b.2.map PyData.int)).depth < cLine
    have := W.depth_ints b.2
    simp only [PyData.depth, this]
    omega
  · have eo := each_refs hE
    obtain ⟨c, hc2⟩ := sortedHeap_at (out := List.toArray out) hat
    have kp2 : ∀ b o, h'.get? b = some o → (sortedHeap (h'.push { cls := .type "list", data := .seq acc.toList.toArray }) h'.objs.size acc.toList (List.toArray out)).get? b = some o := fun b o e => by
      have e3 := old b o e
      have lt : b < h'.objs.size := Heap.lt_size e
      rw [sortedHeap_old (Nat.ne_of_lt lt) (Heap.lt_size e3)]
      exact e3
    refine ⟨.ref h'.objs.size, _, I1.laid (t' := tk) (o := .lst ((ps.mergeSort (W.dataLe false encT)).map fun q => V.ref q.1)) kp2 (Nat.le_refl _) ⟨by rw [List.length_map, List.length_mergeSort]; omega, out, c, ?_, hc2⟩, rfl, q _ ps (I1.hok.fresh (Nat.le_refl _)) e1 hps⟩
    rw [eo]
    exact vals_refs2 _
  · exact wpAny_pure ⟨_, rfl, w⟩
end
section
variable {K : PySem.W.Frag} {E : XK} {σ : L2.St} {H0 F H F' H' : Hp} {ta tb te tl to ti tk tv td : TE} {α β γ δ ρ : Type} [Rp α] [Rp β] [Rp γ] [Rp δ] [Rp ρ] {b : Bool}
/-- the keys in the order of tuples -/
noncomputable def keysR {β : Type} (d : Dct β) : R (List (Tu Int)) := gd (d.l.length ≤ lim ∧ ∀ e ∈ d.l, e.1 ≠ []) (.ok (d.keys.mergeSort fun a b => !Od.lt b a))
theorem dataLe_keys : (W.dataLe false encT) = fun (p q : Addr × List Int) => !Od.lt (Tu.mk q.2) (Tu.mk p.2) := by
  rw [W.dataLe_eq]
  funext p q
  show (!W.dataLt _ _) = _
  rw [← Od.lt_eq (Tu.mk q.2) (Tu.mk p.2)]
  rfl
theorem ent_fst {H : Hp} : ∀ {kvs : List (List Key × V)} {l : List (List Int × β)}, All2 (EntR K H) kvs l → kvs.map Prod.fst = (l.map Prod.fst).map keyOf
  | _, _, .nil => rfl
  | _, _, .cons r t => by rw [List.map_cons, List.map_cons, List.map_cons, r.1, ent_fst t]
theorem g_dsort {m : R (Dct β)} (h : Gr K E te σ H H m) : Gr K E (tCB (rSortD K) (tCons te tNil)) σ F H (R.bd m keysR) := fun H1 e Q hq =>
  gr_arg h e hq fun d v H2 e2 r hq2 => by
    obtain ⟨p, kvs, rfl, hp, hv⟩ := r
    unfold keysR gd at hq2
    split at hq2
    · rename_i c
      refine ⟨p, kvs, d.l.map Prod.fst, rfl, hp, ent_fst hv, fun k hk => ?_, fun l ps hl e1 hps => hq2 _ _ (same_upd hl) ?_⟩
      · obtain ⟨x, hx, rfl⟩ := List.mem_map.mp hk
        exact c.2 x hx
      · have hn : H l = none := Same.free (e.trans e2) hl
        refine ⟨l, _, rfl, by rw [mix_new hn]; exact upd_same, ?_⟩
        have ek : d.keys.mergeSort (fun a b => !Od.lt b a) = (ps.mergeSort (W.dataLe false encT)).map fun q => Tu.mk q.2 := by
          rw [dataLe_keys, List.map_mergeSort (r := fun p q : Addr × List Int => !Od.lt (Tu.mk q.2) (Tu.mk p.2)) (s := fun a b : Tu Int => !Od.lt b a) (f := fun q => Tu.mk q.2) (fun a _ b _ => rfl)]
          congr 1
          show d.l.map (fun e => Tu.mk e.1) = _
          have := congrArg (fun z => z.map (Tu.mk (α := Int))) e1
          simp only [List.map_map] at this
          exact this.symm
        rw [ek]
        have key : ∀ zs : List (Addr × List Int), (∀ q ∈ zs, H2 q.1 = some (.tup (q.2.map V.int))) → All2 (Rp.rep K (mix F H (upd H2 l (.lst ((ps.mergeSort (W.dataLe false encT)).map fun q => V.ref q.1))))) (zs.map fun q => V.ref q.1) (zs.map fun q => Tu.mk q.2) := by
          intro zs
          induction zs with
          | nil => exact fun _ => .nil
          | cons z zs ih =>
            intro hz
            exact .cons ⟨z.1, _, rfl, tup_mix (e.trans e2) (same_upd hl) (hz z List.mem_cons_self), ints_rep _⟩ (ih fun q hq => hz q (List.mem_cons_of_mem _ hq))
        exact key _ fun q hq => hps q ((List.mergeSort_perm _ _).subset hq)
    · exact hq2.elim
/-- list(d) -/
theorem g_dkeys {m : R (Dct β)} (h : Gr K E te σ H H m) : Gr K E (tCB (fun xs H Q => ∃ d kvs, xs = [V.ref d] ∧ Rd H d (.dT kvs) ∧ ∀ p bs, H p = none → IsKeys H kvs bs → Q (.ref p) (upd H p (.lst (bs.map V.ref)))) (tCons te tNil)) σ F H (R.bd m fun d => .ok d.keys) := fun H1 e Q hq =>
  gr_arg h e hq fun d v H2 e2 r hq2 => by
    obtain ⟨p, kvs, rfl, hp, hv⟩ := r
    refine ⟨p, kvs, rfl, .inl hp, fun l bs hl hk => hq2 _ _ (same_upd hl) ?_⟩
    have hn : H l = none := Same.free (e.trans e2) hl
    refine ⟨l, _, rfl, by rw [mix_new hn]; exact upd_same, ?_⟩
    have a := ent_keys hv hk
    show All2 _ (bs.map V.ref) (d.l.map fun e => Tu.mk e.1)
    rw [show d.l.map (fun e => Tu.mk e.1) = (d.l.map Prod.fst).map Tu.mk by rw [List.map_map]; rfl]
    have key : ∀ {bs : List Addr} {ls : List (List Int)}, All2 (fun b ns => H2 b = some (.tup (ns.map V.int))) bs ls → All2 (Rp.rep K (mix F H (upd H2 l (.lst (bs.map V.ref))))) (bs.map V.ref) (ls.map Tu.mk) := by
      intro bs ls h
      have gen : ∀ {o : HO} {bs : List Addr} {ls : List (List Int)}, All2 (fun b ns => H2 b = some (.tup (ns.map V.int))) bs ls → All2 (Rp.rep K (mix F H (upd H2 l o))) (bs.map V.ref) (ls.map Tu.mk) := by
        intro o bs ls h
        induction h with
        | nil => exact .nil
        | cons r t ih => exact .cons ⟨_, _, rfl, tup_mix (e.trans e2) (same_upd hl) r, ints_rep _⟩ ih
      exact gen h
    exact key a
end
theorem cr_sortDK {X : Cx} {K : PySem.W.Frag} (h : X.K = K) (hc : X.calm = true) (hu : X.A.units + 64 < cLine) : CallR X (.builtin "sorted") (rSortD K) := by subst h; exact cr_sortD hc hu
/-- a new dict that becomes ours -/
theorem dct_new {K : PySem.W.Frag} {H0 F H H2 : Hp} {β : Type} [Rp β] [Im β] {b : Bool} {v : V} {a : Dct β} (e0 : Same H0 H) (e2 : Same H H2) (r : Rp.rep K (mix nil0 H H2) v a) : ∃ p o, v = .ref p ∧ H p = none ∧ H2 p = some o ∧ tupB (some o) = false ∧ Cel.cel K (Bs H0 (delH (mix F H H2) p) b) o a := by
  obtain ⟨p, kvs, rfl, hp, hv⟩ := r
  have pn : H p = none ∧ H2 p = some (.dT kvs) := by
    rcases mix_cases hp with z | ⟨_, z⟩ | ⟨_, _, _, z⟩
    · exact z
    · cases z
    · cases z
  obtain ⟨hn, hp2⟩ := pn
  exact ⟨p, _, rfl, hn, hp2, rfl, kvs, rfl, hv.mono fun _ _ z => ⟨z.1, Im.mv (tup_bs e0 e2 fun xs w => by rw [hp2] at w; cases w) z.2⟩⟩
theorem s_asgD {K : PySem.W.Frag} {E : XK} {σ : L2.St} {H0 F H : Hp} {te : TE} {α β : Type} [Rp α] [Rp β] [Im α] {D : Ends} {b : Bool} {i : Nat} {m : R (Dct α)} {k : Dct α → R β} {kk : β → Prop} (he : Gr K E te σ nil0 H m) (hF : Same F H) (e0 : Same H0 H) (hQ : Wp (R.bd m k) kk (EE K E H0))
    (c : ∀ a p F' H', Nx0 F H F' H' → Same H0 H' → Own K H0 b F' H' p a → (∀ q, (∃ u, H q = some u) → q ≠ p) → Wp (k a) kk (EE K E H0) → D.nx (σ.set i (some (.ref p))) H') : tAsg te (gName i) D σ H :=
  s_asgC he hF e0 (fun e2 r => dct_new e0 e2 r) hQ c
end G

set_option Elab.async false
set_option linter.all false
set_option maxRecDepth 100000
set_option maxHeartbeats 4000000
/-! G: what a call has told alone is lent to us: its cells G are nobody else's, and it may be changed once. -/
namespace G
open PySem PySem.Spec PyProof.Rows L2
structure Lent {α : Type} [Rp α] (K : PySem.W.Frag) (H0 F H G : Hp) (v : V) (a : α) : Prop where
  rep : Rp.rep K G v a
  gh : Same G H
  gf : ∀ q o, tupB (some o) = false → G q = some o → F q = none ∧ H0 q = none
section
variable {K : PySem.W.Frag} {E : XK} {σ : L2.St} {H0 F H F' H' G G2 : Hp} {ta tb te tl to ti : TE} {α β γ δ ρ S : Type} [Rp α] [Rp β] [Rp γ] [Rp δ] [Rp ρ] {D : Ends} {b : Bool} {P : Addr → Prop} {v : V} {a : α}
theorem Lent.see (l : Lent K H0 F H G v a) : Rp.rep K H v a := Rp.mono l.gh l.rep
theorem Lent.nx (l : Lent K H0 F H G v a) (n : Nx P F H F' H') (hp : ∀ q, P q → G q = none) : Lent K H0 F' H' G v a :=
  ⟨l.rep, fun q o h => n.hh q o (fun z => by rw [hp q z] at h; cases h) (l.gh q o h), fun q o z h => ⟨n.own q o z (l.gh q o h) (l.gf q o z h).1, (l.gf q o z h).2⟩⟩
theorem Lent.nx0 (l : Lent K H0 F H G v a) (n : Nx0 F H F' H') : Lent K H0 F' H' G v a := l.nx n fun _ z => z.elim
theorem Lent.fz {F1 : Hp} {p : Addr} (l : Lent K H0 F H G v a) (f : ∀ q, q ≠ p → F1 q = F q) (hp : G p = none) : Lent K H0 F1 H G v a :=
  ⟨l.rep, l.gh, fun q o z h => ⟨by rw [f q (fun w => by rw [w, hp] at h; cases h)]; exact (l.gf q o z h).1, (l.gf q o z h).2⟩⟩
theorem Lent.new {p : Addr} (l : Lent K H0 F H G v a) (nw : ∀ q, (∃ u, H q = some u) → q ≠ p) : G p = none := by
  cases q : G p with
  | none => rfl
  | some u => exact absurd rfl (nw p ⟨u, l.gh p u q⟩)
theorem Lent.none {p : Addr} (l : Lent K H0 F H G v a) (h : H p = none) : G p = none := by
  cases q : G p with
  | none => rfl
  | some u => rw [l.gh p u q] at h; cases h
theorem own_nl {τ : Type} [Rp τ] [Cel τ] {p : Addr} {x : τ} (o : Own K H0 b F H p x) (h : ∀ q u, H q = some u → tupB (some u) = false → G q = none) : G p = none := by
  obtain ⟨_, _, u, h1, r⟩ := o
  exact h p u h1 (Cel.nt r)
/-- what is told is lent -/
theorem s_asgT {i : Nat} {m : R α} {k : α → R β} {kk : β → Prop} (he : Gr K E te σ nil0 H m) (hF : Same F H) (e0 : Same H0 H) (hQ : Wp (R.bd m k) kk (EE K E H0))
    (c : ∀ a v F' H' G, Nx0 F H F' H' → Same H0 H' → Lent K H0 F' H' G v a → (∀ q u, H q = some u → tupB (some u) = false → G q = none) → Wp (k a) kk (EE K E H0) → D.nx (σ.set i (some v)) H') : tAsg te (gName i) D σ H := by
  refine he H (Same.refl _) _ ?_
  rw [wp_bd] at hQ
  refine wp_mono hQ (fun a _ q v H2 e2 r => ?_) fun c _ z => z.mono e0
  have key : ∀ x o, H x = some o → tupB (some o) = false → mix nil0 H H2 x = none := fun x o h z => by rw [mix_old h z]
  refine c a v F H2 (mix nil0 H H2) ⟨Same.refl _, fun x o _ h => e2 x o h, hF.trans e2, fun _ _ _ _ n => n, fun x o h => ⟨o, e2 x o h, rfl⟩⟩ (e0.trans e2) ⟨r, mix_same nil_same e2, fun x o z h => ?_⟩ key q
  have hn : H x = none := by
    rcases mix_cases h with ⟨z, _⟩ | ⟨_, w⟩ | ⟨_, _, _, w⟩
    · exact z
    · rw [z] at w; cases w
    · cases w
  exact ⟨Same.free hF hn, Same.free e0 hn⟩
theorem nx_del {H2 : Hp} {p : Addr} {vs ws : List V} (hF : Same F H) (e2 : Same H H2) (hp : H2 p = some (.lst vs)) (hf : F p = none) : Nx (fun q => q = p) F H (delH (mix F H H2) p) (upd H2 p (.lst ws)) :=
  ⟨fun x o h => by
    have : x ≠ p := fun z => by rw [z, hf] at h; cases h
    rw [delH_ne this]
    exact same_mix hF x o h, fun x o n h => by rw [upd_ne n]; exact e2 x o h, fun x o h => by
    unfold delH at h
    split at h
    · cases h
    · rename_i c
      rw [upd_ne (by simpa using c)]
      exact mix_same hF e2 x o h, fun x o z h n => by
    unfold delH
    split
    · rfl
    · rw [mix_old h z]; exact n, fun x u h => by
    by_cases c : x = p
    · have h2 := e2 x u h
      rw [c, hp] at h2
      cases h2
      exact ⟨.lst ws, by rw [c]; exact upd_same, rfl⟩
    · rw [upd_ne c]; exact ⟨_, e2 x u h, rfl⟩⟩
/-- x.append(e), x lent or a part of it: afterwards it is gone -/
theorem s_appDie {γ : Type} [Rp γ] {ε : Type} [Rp ε] {m : R (List γ)} {me : R δ} {k : Unit → R β} {kk : β → Prop} {a0 : ε} (l : Lent K H0 F H G v a0) (ht : Gr K E to σ G H m) (he : Gr K E te σ H H me) (hF : Same F H) (e0 : Same H0 H)
    (hQ : Wp (R.bd (R.bd m fun xs => R.bd me fun _ => gd (xs.length < lim) (.ok ())) k) kk (EE K E H0))
    (c : ∀ p F' H', Nx (fun q => q = p) F H F' H' → Same H0 H' → (∀ q, G q = none → (∃ u, H q = some u) → q ≠ p) → Wp (k ()) kk (EE K E H0) → D.nx σ H') : tDrop (tBM K "list" rAppend to (tCons te tNil)) D σ H := by
  refine ht H (Same.refl _) _ ?_
  rw [bd_assoc, wp_bd] at hQ
  refine wp_mono hQ (fun xs _ q v1 H2 e2 r => ?_) fun c _ z => z.mono e0
  obtain ⟨p, vs, rfl, hp, hv⟩ := r
  have hg : (H p = none ∧ G p = none) ∨ G p = some (.lst vs) := by
    rcases mix_cases hp with ⟨z, _⟩ | ⟨_, w⟩ | ⟨_, _, _, w⟩
    · exact .inl ⟨z, l.none z⟩
    · cases w
    · exact .inr w
  have hp2 := mix_same l.gh e2 _ _ hp
  have hf : F p = none := hg.elim (fun z => Same.free hF z.1) fun z => (l.gf p _ rfl z).1
  have h0 : H0 p = none := hg.elim (fun z => Same.free e0 z.1) fun z => (l.gf p _ rfl z).2
  refine ⟨.inl ⟨rfl, _, SqL.of hp2⟩, ?_⟩
  refine he H2 e2 _ ?_
  rw [bd_assoc, wp_bd] at q
  refine wp_mono q (fun a _ q w H3 e3 rv => ?_) fun c _ z => z.mono (e0.trans e2)
  unfold gd at q
  split at q
  · rename_i cl
    refine ⟨p, vs, w, rfl, rfl, e3 p _ hp2, lim_line' (by rw [hv.length]; exact cl), ?_⟩
    exact c p _ _ (nx_del hF (e2.trans e3) (e3 p _ hp2) hf) (e0_upd e0 (e2.trans e3) h0) (fun x z ⟨u, hu⟩ w => by
      rw [w] at z hu
      rcases hg with y | y
      · rw [y.1] at hu; cases hu
      · rw [y] at z; cases z) q
  · exact q.elim
end
section
variable {K : PySem.W.Frag} {H0 F H : Hp} {b : Bool} {β : Type} [Rp β]
theorem rep_some {γ : Type} [Rp γ] [NN γ] {v : V} {a : γ} (r : Rp.rep K F v a) : Rp.rep K F v (some a) := ⟨NN.nn r, r⟩
theorem u1 {k : Nat} {A : Around} (r : Room k A) : A.units + 1 < cLine := by have := r.un; omega
theorem Own.repD [Im β] {p : Addr} {d : Dct β} (o : Own K H0 b F H p d) (hF : Same F H) : Rp.rep K (dif H0 H) (.ref p) d := by
  obtain ⟨h0, f, u, h, kvs, hu, r⟩ := o
  subst hu
  exact ⟨p, kvs, rfl, dif_of h0 h, r.mono fun _ _ z => ⟨z.1, Im.mv (fun q ys z => dif_tup rfl ((bs_le.trans hF) _ _ z)) z.2⟩⟩
theorem Own.frzD [Im β] {p : Addr} {d : Dct β} (o : Own K H0 b F H p d) (hF : Same F H) : ∃ F', Same F F' ∧ Same F' H ∧ (∀ q, q ≠ p → F' q = F q) ∧ Rp.rep K (dif H0 F') (.ref p) d := by
  obtain ⟨F', h1, h2, h3, h4, h5⟩ := o.frz hF
  obtain ⟨q, kvs, e, h, r⟩ := h4
  cases e
  exact ⟨F', h1, h2, h3, p, kvs, rfl, dif_of o.h0 h, r.mono fun _ _ z => ⟨z.1, Im.mv (fun q ys z => dif_tup rfl z) z.2⟩⟩
end
end G

set_option Elab.async false
set_option linter.all false
set_option maxRecDepth 100000
set_option maxHeartbeats 2000000
/-! G: plain words for the plain laws. -/
namespace G
open PySem PySem.Spec PyProof.Rows L2
theorem gd_dec {α : Type} {c : Prop} [Decidable c] {m : R α} : gd c m = if c then m else .bad := by
  by_cases h : c
  · rw [gd_pos h, if_pos h]
  · rw [if_neg h]; unfold gd; exact if_neg h
theorem ixN_ok {n : Nat} {i : Int} (h0 : 0 ≤ i) (h1 : i < n) : ixN n i = some i.toNat := by
  unfold ixN
  rw [if_pos h0, if_pos h1]
theorem atI_ok {α : Type} {xs : List α} {i : Int} (h0 : 0 ≤ i) (h1 : i < xs.length) : atI xs i = xs[i.toNat]? := by
  unfold atI
  rw [ixN_ok h0 h1]
  rfl
theorem idx_ok {α : Type} {xs : List α} {i : Int} {a : α} (h0 : 0 ≤ i) (h : xs[i.toNat]? = some a) : idx xs i = .ok a := by
  obtain ⟨h1, h2⟩ := List.getElem?_eq_some_iff.mp h
  unfold idx
  rw [atI_ok h0 (by omega), h]
theorem idx_at {α : Type} {xs : List α} {i : Int} (h0 : 0 ≤ i) (h1 : i < xs.length) : idx xs i = .ok (xs[i.toNat]'(by omega)) := idx_ok h0 (List.getElem?_eq_getElem _)
theorem idx_nat {α : Type} {xs : List α} {i : Nat} {a : α} (h : xs[i]? = some a) : idx xs (i : Int) = .ok a := idx_ok (by omega) (by simpa using h)
theorem idx_last {α : Type} {xs : List α} {a : α} (h : xs.getLast? = some a) : idx xs (-1) = .ok a := by
  cases xs with
  | nil => cases h
  | cons x l =>
    unfold idx atI ixN
    rw [if_neg (by omega), if_pos (by simp; omega)]
    have e : ((-1 : Int) + ((x :: l).length : Int)).toNat = (x :: l).length - 1 := by simp only [List.length_cons]; omega
    rw [e]
    rw [List.getLast?_eq_getElem?] at h
    show (match (some ((x :: l).length - 1)).bind (fun j => (x :: l)[j]?) with | some a => R.ok a | none => .bad) = _
    rw [Option.bind_some, h]
theorem setR_ok {α : Type} {xs : List α} {i : Int} {a : α} (h0 : 0 ≤ i) (h1 : i < xs.length) : setR xs i a = .ok (xs.set i.toNat a) := by
  unfold setR
  rw [ixN_ok h0 h1]
theorem setR_nat {α : Type} {xs : List α} {i : Nat} {a : α} (h1 : i < xs.length) : setR xs (i : Int) a = .ok (xs.set i a) := by
  rw [setR_ok (by omega) (by omega)]
  simp
theorem modR_ok {a b : Int} (h : 0 < b) : modR a b = .ok (a % b) := gd_pos h
theorem divR_ok {a b : Int} {w : Nat} (h : 0 < b) (hb : b < 2 ^ w) (h0 : 0 < w) (h9 : w ≤ 9000) : divR a b = .ok (a / b) := gd_pos (wide_div h (b := w) (by
  have : (b.natAbs : Int) = b := Int.natAbs_of_nonneg (by omega)
  have h2 : ((2 ^ w : Nat) : Int) = (2 : Int) ^ w := by simp
  omega) h0 h9)
theorem natAbs_lt {a : Int} {w : Nat} (h0 : 0 ≤ a) (h : a < 2 ^ w) : a.natAbs < 2 ^ w := by
  have h2 : ((2 ^ w : Nat) : Int) = (2 : Int) ^ w := by simp
  omega
theorem mulR_ok {a b : Int} {w v : Nat} (h0 : 0 ≤ a) (h1 : a < 2 ^ w) (h2 : 0 ≤ b) (h3 : b < 2 ^ v) (h4 : 0 < w) (h5 : 0 < v) (h6 : w + v ≤ 134000000) : mulR a b = .ok (a * b) := gd_pos (wide_mulV (natAbs_lt h0 h1) (natAbs_lt h2 h3) h4 h5 h6)
theorem cut_take {α : Type} {l : List α} {n : Int} (h0 : 0 ≤ n) (h1 : n ≤ l.length) : cut l none (some n) = l.take n.toNat := by
  obtain ⟨k, rfl⟩ : ∃ k : Nat, n = (k : Int) := ⟨n.toNat, by omega⟩
  unfold cut
  rw [HT.sIx_nat, HT.sIx_none, Nat.min_eq_left (by omega)]
  simp
theorem cut_drop {α : Type} {l : List α} {n : Int} (h0 : 0 ≤ n) (h1 : n ≤ l.length) : cut l (some n) none = l.drop n.toNat := by
  obtain ⟨k, rfl⟩ : ∃ k : Nat, n = (k : Int) := ⟨n.toNat, by omega⟩
  unfold cut
  rw [HT.sIx_nat, HT.sIx_none, Nat.min_eq_left (by omega)]
  rw [Int.toNat_natCast, List.take_of_length_le (by simp)]
theorem popR_ok {α : Type} {l : List α} (h : 0 < l.length) : popR l = .ok l.dropLast := by
  cases l with
  | nil => simp at h
  | cons x l => rfl
theorem appR_ok {α : Type} {xs : List α} {a : α} (h : xs.length < lim) : appR xs a = .ok (xs ++ [a]) := gd_pos h
theorem rng1_ok {n : Int} (h0 : 0 ≤ n) (h : n ≤ 1000000000) : rng1 n = .ok (rngL 0 n) := gd_pos ⟨by omega, by omega⟩
theorem rng2_ok {a b : Int} (h0 : 0 ≤ a) (h : a ≤ 1000000000) (h2 : 0 ≤ b) (h3 : b ≤ 1000000000) : rng2 a b = .ok (rngL a b) := gd_pos ⟨⟨by omega, by omega⟩, by omega, by omega⟩
theorem rng3D_ok {a b : Int} (h0 : 0 ≤ a) (h : a ≤ 1000000000) (h2 : 0 ≤ b) (h3 : b ≤ 1000000000) : rng3D a b = .ok (rngD a b) := gd_pos ⟨⟨by omega, by omega⟩, by omega, by omega⟩
theorem rngL_at {lo hi : Int} {i : Nat} {x : Int} (h : (rngL lo hi)[i]? = some x) : x = lo + i ∧ x < hi := by
  have h1 : i < (hi - lo).toNat := by
    have := (List.getElem?_eq_some_iff.mp h).1
    rw [rngL_len] at this
    exact this
  rw [rngL_get h1] at h
  cases h
  exact ⟨rfl, by omega⟩
theorem rngL_nil {lo hi : Int} (h : hi ≤ lo) : rngL lo hi = [] := by
  apply List.eq_nil_of_length_eq_zero
  rw [rngL_len]
  omega
theorem repR_ok {α : Type} {a : α} {k : Int} (h0 : 0 ≤ k) (h : k ≤ 10000000) : repR [a] k = .ok (List.replicate k.toNat a) := by
  unfold repR
  rw [gd_pos ⟨by omega, by omega, by unfold lim; simp; omega⟩]
  congr 1
  generalize k.toNat = n
  induction n with
  | zero => rfl
  | succ n ih => rw [List.replicate_succ, List.flatten_cons, ih]; rfl
theorem repR_neg {α : Type} {xs : List α} {k : Int} (h0 : k ≤ 0) (h : -10000000 ≤ k) : repR xs k = .ok [] := by
  unfold repR
  have : k.toNat = 0 := by omega
  rw [this, gd_pos ⟨by omega, by omega, by simp⟩]
  rfl
theorem catG {α : Type} {xs ys : List α} (h : xs.length + ys.length ≤ lim) : gd (xs.length + ys.length ≤ lim) (.ok (xs ++ ys)) = .ok (xs ++ ys) := gd_pos h
theorem forS_ok {α S : Type} {body : α → S → R S} (I : Nat → S → Prop) : ∀ (xs : List α) (n : Nat) (s : S), I n s → (∀ i x s, xs[i]? = some x → I (n + i) s → ∃ s', body x s = .ok s' ∧ I (n + i + 1) s') → ∃ s', forS body xs s = .ok s' ∧ I (n + xs.length) s'
  | [], n, s, h, _ => ⟨s, rfl, h⟩
  | x :: l, n, s, h, st => by
    obtain ⟨s1, e1, h1⟩ := st 0 x s rfl h
    obtain ⟨s2, e2, h2⟩ := forS_ok I l (n + 1) s1 h1 fun i y s hy hs => by
      have := st (i + 1) y s (by simpa using hy) (by rw [show n + (i + 1) = n + 1 + i by omega]; exact hs)
      rw [show n + (i + 1) + 1 = n + 1 + i + 1 by omega] at this
      exact this
    refine ⟨s2, ?_, by rw [List.length_cons, show n + (l.length + 1) = n + 1 + l.length by omega]; exact h2⟩
    show R.bd (body x s) (fun s' => forS body l s') = _
    rw [e1]
    exact e2
theorem forS_inv {α S : Type} {body : α → S → R S} {xs : List α} {s : S} (I : Nat → S → Prop) (h : I 0 s) (st : ∀ i x s, xs[i]? = some x → I i s → ∃ s', body x s = .ok s' ∧ I (i + 1) s') : ∃ s', forS body xs s = .ok s' ∧ I xs.length s' := by
  obtain ⟨s', e, q⟩ := forS_ok I xs 0 s h fun i x s hx hs => by
    rw [Nat.zero_add] at hs ⊢
    exact st i x s hx hs
  exact ⟨s', e, by rw [Nat.zero_add] at q; exact q⟩
theorem forR_ok {α S ρ : Type} {body : α → S → R (Fl S ρ)} (I : Nat → S → Prop) : ∀ (xs : List α) (n : Nat) (s : S), I n s → (∀ i x s, xs[i]? = some x → I (n + i) s → ∃ s', body x s = .ok (.go s') ∧ I (n + i + 1) s') → ∃ s', forR body xs s = .ok (.go s') ∧ I (n + xs.length) s'
  | [], n, s, h, _ => ⟨s, rfl, h⟩
  | x :: l, n, s, h, st => by
    obtain ⟨s1, e1, h1⟩ := st 0 x s rfl h
    obtain ⟨s2, e2, h2⟩ := forR_ok I l (n + 1) s1 h1 fun i y s hy hs => by
      have := st (i + 1) y s (by simpa using hy) (by rw [show n + (i + 1) = n + 1 + i by omega]; exact hs)
      rw [show n + (i + 1) + 1 = n + 1 + i + 1 by omega] at this
      exact this
    refine ⟨s2, ?_, by rw [List.length_cons, show n + (l.length + 1) = n + 1 + l.length by omega]; exact h2⟩
    unfold forR
    rw [e1]
    exact e2
theorem forR_inv {α S ρ : Type} {body : α → S → R (Fl S ρ)} {xs : List α} {s : S} (I : Nat → S → Prop) (h : I 0 s) (st : ∀ i x s, xs[i]? = some x → I i s → ∃ s', body x s = .ok (.go s') ∧ I (i + 1) s') : ∃ s', forR body xs s = .ok (.go s') ∧ I xs.length s' := by
  obtain ⟨s', e, q⟩ := forR_ok I xs 0 s h fun i x s hx hs => by
    rw [Nat.zero_add] at hs ⊢
    exact st i x s hx hs
  exact ⟨s', e, by rw [Nat.zero_add] at q; exact q⟩
/-- every turn goes on, nothing is carried -/
theorem forR_all {α ρ : Type} {body : α → Unit → R (Fl Unit ρ)} {xs : List α} (st : ∀ x ∈ xs, body x () = .ok (.go ())) : forR body xs () = .ok (.go ()) := by
  obtain ⟨s', e, _⟩ := forR_inv (body := body) (xs := xs) (s := ()) (fun _ _ => True) trivial fun i x s hx _ => ⟨(), st x (List.mem_of_getElem? hx), trivial⟩
  cases s'
  exact e
theorem compGo_ok {α β : Type} {f : α → R β} {g : α → β} : ∀ {xs : List α}, (∀ x ∈ xs, f x = .ok (g x)) → compGo (fun _ => .ok true) f xs = .ok (xs.map g)
  | [], _ => rfl
  | x :: l, h => by
    unfold compGo
    rw [h x (by simp)]
    show R.bd (compGo _ f l) _ = _
    rw [compGo_ok fun y hy => h y (by simp [hy])]
    rfl
theorem compR_ok {α β : Type} {f : α → R β} {g : α → β} {xs : List α} (hl : xs.length ≤ lim) (h : ∀ x ∈ xs, f x = .ok (g x)) : compR xs (fun _ => .ok true) f = .ok (xs.map g) := by
  unfold compR
  rw [gd_pos hl, compGo_ok h]
theorem minR_nn {xs : List Int} (h : xs ≠ []) (hp : ∀ x ∈ xs, 0 ≤ x) : ∃ m, minR xs = .ok m ∧ 0 ≤ m := by
  unfold minR
  cases e : xs.min? with
  | none => exact absurd (List.min?_eq_none_iff.mp e) h
  | some m => exact ⟨m, rfl, hp m (List.min?_eq_some_iff.mp e).1⟩
theorem sum_le {xs : List Int} {b : Int} (h : ∀ x ∈ xs, x ≤ b) : xs.sum ≤ xs.length * b := by
  induction xs with
  | nil => simp
  | cons x l ih =>
    rw [List.sum_cons, List.length_cons]
    have h1 := h x (by simp)
    have h2 := ih fun y hy => h y (by simp [hy])
    have : ((l.length + 1 : Nat) : Int) * b = l.length * b + b := by rw [Int.natCast_add, Int.add_mul]; simp
    omega
theorem sum_nn {xs : List Int} (h : ∀ x ∈ xs, 0 ≤ x) : 0 ≤ xs.sum := by
  induction xs with
  | nil => simp
  | cons x l ih =>
    rw [List.sum_cons]
    have h1 := h x (by simp)
    have h2 := ih fun y hy => h y (by simp [hy])
    omega
theorem emod2 {x p : Int} (h0 : 0 ≤ x) (h1 : x < 2 * p) : x % p = if x < p then x else x - p := by
  by_cases c : x < p
  · rw [if_pos c, Int.emod_eq_of_lt h0 c]
  · rw [if_neg c]
    have : x = (x - p) + p := by omega
    rw [this, Int.add_emod_right, Int.emod_eq_of_lt (by omega) (by omega)]
    omega
theorem ediv_eq {a b q r : Int} (h : a = b * q + r) (h0 : 0 ≤ r) (h1 : r < b) : a / b = q := by
  rw [h, Int.mul_add_ediv_left _ _ (by omega), Int.ediv_eq_zero_of_lt h0 h1]
  omega
/-! ### it ends, and .. -/
def Ok {α : Type} (m : R α) (P : α → Prop) : Prop := ∃ a, m = .ok a ∧ P a
section
variable {α β γ S ρ : Type} {m : R α} {f : α → R β} {P P' : α → Prop} {Q : β → Prop} {a : α} {b : β}
theorem ok_ret (h : P a) : Ok (.ok a) P := ⟨a, rfl, h⟩
theorem ok_bd (h : Ok m P) (k : ∀ a, P a → Ok (f a) Q) : Ok (R.bd m f) Q := by
  obtain ⟨a, rfl, ha⟩ := h
  exact k a ha
theorem ok_eq (e : m = .ok a) (h : Ok (f a) Q) : Ok (R.bd m f) Q := by rw [e]; exact h
theorem ok_st (h : Ok (f a) Q) : Ok (R.bd (.ok a) f) Q := h
theorem ok_of (e : m = .ok a) (h : P a) : Ok m P := ⟨a, e, h⟩
theorem ok_mono (h : Ok m P) (k : ∀ a, P a → P' a) : Ok m P' := let ⟨a, e, q⟩ := h; ⟨a, e, k a q⟩
theorem ok_is (h : Ok m fun x => x = a) : m = .ok a := by
  obtain ⟨x, e, rfl⟩ := h
  exact e
theorem ok_it {c : Bool} {X Y : R α} (h1 : c = true → Ok X P) (h2 : c = false → Ok Y P) : Ok (if c = true then X else Y) P := by
  cases c with
  | true => exact h1 rfl
  | false => exact h2 rfl
theorem ok_if {c : Prop} [Decidable c] {X Y : R α} (h1 : c → Ok X P) (h2 : ¬ c → Ok Y P) : Ok (if decide c = true then X else Y) P := by
  by_cases h : c
  · rw [if_pos (decide_eq_true h)]; exact h1 h
  · rw [if_neg (by rw [decide_eq_false h]; decide)]; exact h2 h
theorem ok_idx {xs : List α} {i : Int} (h0 : 0 ≤ i) (h1 : i < xs.length) (h : ∀ x, xs[i.toNat]? = some x → x ∈ xs → P x) : Ok (idx xs i) P := by
  have e : xs[i.toNat]? = some (xs[i.toNat]'(by omega)) := List.getElem?_eq_getElem _
  exact ⟨_, idx_ok h0 e, h _ e (List.mem_of_getElem? e)⟩
theorem ok_forS {body : α → S → R S} {xs : List α} {s : S} (I : Nat → S → Prop) (h : I 0 s) (st : ∀ i x s, xs[i]? = some x → I i s → Ok (body x s) (I (i + 1))) : Ok (forS body xs s) (I xs.length) := forS_inv I h st
/-- a loop that may tell -/
def FlP (P : S → Prop) (J : S → Prop) (Rr : ρ → Prop) : Fl S ρ → Prop
  | .go s => P s
  | .brk s => J s
  | .ret r => Rr r
theorem ok_forRn {body : α → S → R (Fl S ρ)} (I : Nat → S → Prop) (J : S → Prop) (Rr : ρ → Prop) : ∀ (xs : List α) (n : Nat) (s : S), I n s → (∀ i x s, xs[i]? = some x → I (n + i) s → Ok (body x s) (FlP (I (n + i + 1)) J Rr)) → Ok (forR body xs s) (FlP (fun s => I (n + xs.length) s ∨ J s) (fun _ => False) Rr)
  | [], n, s, h, _ => ⟨_, rfl, .inl h⟩
  | x :: l, n, s, h, st => by
    obtain ⟨f, e1, h1⟩ := st 0 x s rfl h
    unfold forR
    rw [e1, bd_ok]
    cases f with
    | go s1 =>
      have := ok_forRn I J Rr l (n + 1) s1 h1 fun i y s hy hs => by
        have := st (i + 1) y s (by simpa using hy) (by rw [show n + (i + 1) = n + 1 + i by omega]; exact hs)
        rw [show n + (i + 1) + 1 = n + 1 + i + 1 by omega] at this
        exact this
      rw [List.length_cons, show n + (l.length + 1) = n + 1 + l.length by omega]
      exact this
    | brk s1 => exact ⟨_, rfl, .inr h1⟩
    | ret r => exact ⟨_, rfl, h1⟩
theorem ok_forR {body : α → S → R (Fl S ρ)} {xs : List α} {s : S} (I : Nat → S → Prop) (J : S → Prop) (Rr : ρ → Prop) (h : I 0 s) (st : ∀ i x s, xs[i]? = some x → I i s → Ok (body x s) (FlP (I (i + 1)) J Rr)) : Ok (forR body xs s) (FlP (fun s => I xs.length s ∨ J s) (fun _ => False) Rr) := by
  have := ok_forRn I J Rr xs 0 s h fun i x s hx hs => by rw [Nat.zero_add] at hs ⊢; exact st i x s hx hs
  rw [Nat.zero_add] at this
  exact this
/-- all turns go on, nothing is carried -/
theorem ok_forA {body : α → Unit → R (Fl Unit ρ)} {xs : List α} {k : Fl Unit ρ → R β} (st : ∀ x ∈ xs, Ok (body x ()) (fun f => f = .go ())) (h : Ok (k (.go ())) Q) : Ok (R.bd (forR body xs ()) k) Q := by
  rw [forR_all fun x hx => ok_is (st x hx)]
  exact h
theorem ok_whileS {c : S → R Bool} {body : S → R S} (I : S → Prop) (μ : S → Nat) (Dn : S → Prop) : ∀ (n : Nat) (s : S), I s → μ s < n → (∀ s, I s → Ok (c s) fun b => if b = true then Ok (body s) (fun s' => I s' ∧ μ s' < μ s) else Dn s) → Ok (whileS c body n s) Dn
  | 0, s, _, h, _ => by omega
  | n + 1, s, hI, h, st => by
    obtain ⟨b, e, q⟩ := st s hI
    unfold whileS
    rw [e, bd_ok]
    cases b with
    | true =>
      rw [if_pos rfl] at q ⊢
      obtain ⟨s', e2, h2, h3⟩ := q
      rw [e2, bd_ok]
      exact ok_whileS I μ Dn n s' h2 (by omega) st
    | false =>
      rw [if_neg (by decide)] at q ⊢
      exact ⟨s, rfl, q⟩
theorem ok_compR {f : α → R β} {xs : List α} (P : Nat → β → Prop) (hl : xs.length ≤ lim) (h : ∀ i x, xs[i]? = some x → Ok (f x) (P i)) : Ok (compR xs (fun _ => .ok true) f) fun ys => ys.length = xs.length ∧ ∀ i y, ys[i]? = some y → P i y := by
  have key : ∀ (xs : List α) (n : Nat), (∀ i x, xs[i]? = some x → Ok (f x) (P (n + i))) → Ok (compGo (fun _ => .ok true) f xs) fun ys => ys.length = xs.length ∧ ∀ i y, ys[i]? = some y → P (n + i) y := by
    intro xs
    induction xs with
    | nil => exact fun n _ => ⟨[], rfl, rfl, fun i y hy => by simp at hy⟩
    | cons x l ih =>
      intro n h
      obtain ⟨y, e, hy⟩ := h 0 x rfl
      obtain ⟨ys, e2, h2, h3⟩ := ih (n + 1) fun i z hz => by
        have := h (i + 1) z (by simpa using hz)
        rw [show n + (i + 1) = n + 1 + i by omega] at this
        exact this
      refine ⟨y :: ys, ?_, by simp [h2], fun i z hz => ?_⟩
      · unfold compGo
        rw [e]
        show R.bd (compGo _ f l) _ = _
        rw [e2]
        rfl
      · cases i with
        | zero => simp at hz; subst hz; exact hy
        | succ i =>
          have := h3 i z (by simpa using hz)
          rw [show n + 1 + i = n + (i + 1) by omega] at this
          exact this
  have := key xs 0 fun i x hx => by rw [Nat.zero_add]; exact h i x hx
  unfold compR
  rw [gd_pos hl]
  simpa using this
end
/-! ### steps by simp: conditions by omega -/
theorem dT {c : Prop} [Decidable c] (h : c) : decide c = true := decide_eq_true h
theorem dF {c : Prop} [Decidable c] (h : ¬ c) : decide c = false := decide_eq_false h
theorem ifT {α : Type} {a b : α} : (if true = true then a else b) = a := rfl
theorem ifF {α : Type} {a b : α} : (if false = true then a else b) = b := rfl
theorem rngL_mem {lo hi x : Int} : x ∈ rngL lo hi ↔ lo ≤ x ∧ x < hi := by
  constructor
  · intro h
    obtain ⟨i, hi⟩ := List.mem_iff_getElem?.mp h
    obtain ⟨rfl, h2⟩ := rngL_at hi
    omega
  · intro ⟨h1, h2⟩
    apply List.mem_iff_getElem?.mpr
    refine ⟨(x - lo).toNat, ?_⟩
    rw [rngL_get (by omega)]
    congr 1
    omega
theorem compR_true {α : Type} {f : α → R Bool} {xs : List α} (hl : xs.length ≤ lim) (h : ∀ x ∈ xs, f x = .ok true) : compR xs (fun _ => .ok true) f = .ok (xs.map fun _ => true) := compR_ok hl h
theorem all_true {α : Type} {xs : List α} : (xs.map fun _ => true).all id = true := by simp
theorem lim_eq : lim = 10000000 := rfl
theorem forS_er {α : Type} {body : α → Unit → R Unit} {e : Er} : ∀ {xs : List α}, (∀ x ∈ xs, body x () = .ok () ∨ body x () = .er e) → (∃ x ∈ xs, body x () = .er e) → forS body xs () = .er e
  | [], _, ⟨x, h, _⟩ => by cases h
  | y :: l, h, ⟨x, hx, hb⟩ => by
    unfold forS
    rcases h y (by simp) with h1 | h1
    · rw [h1, bd_ok]
      refine forS_er (fun z hz => h z (by simp [hz])) ⟨x, ?_, hb⟩
      rcases List.mem_cons.mp hx with c | c
      · rw [c, h1] at hb
        cases hb
      · exact c
    · rw [h1]
      rfl
theorem enumL_at {α : Type} [Rp α] {xs : List α} {i : Nat} {p : Int × α} (h : (enumL xs)[i]? = some p) : p.1 = i ∧ xs[i]? = some p.2 := by
  have hl : i < xs.length := by
    have := (List.getElem?_eq_some_iff.mp h).1
    rw [enumL_len] at this
    exact this
  rw [enumL_get (List.getElem?_eq_getElem hl)] at h
  cases h
  exact ⟨rfl, List.getElem?_eq_getElem hl⟩
theorem emod_le {x m : Int} (h0 : 0 ≤ x) (hm : 0 < m) : x % m ≤ x := by
  have q1 := Int.mul_ediv_add_emod x m
  have q2 : 0 ≤ m * (x / m) := Int.mul_nonneg (by omega) (Int.ediv_nonneg h0 (by omega))
  omega
theorem compGo_filter {α β : Type} {c : α → R Bool} {p : α → Bool} {f : α → R β} {g : α → β} : ∀ {xs : List α}, (∀ x ∈ xs, c x = .ok (p x)) → (∀ x ∈ xs, p x = true → f x = .ok (g x)) → compGo c f xs = .ok ((xs.filter p).map g)
  | [], _, _ => rfl
  | x :: l, h, h2 => by
    have ih := compGo_filter (xs := l) (fun y hy => h y (by simp [hy])) (fun y hy => h2 y (by simp [hy]))
    unfold compGo
    rw [h x (by simp)]
    show (if p x = true then R.bd (f x).nx fun y => R.bd (compGo c f l) fun ys => .ok (y :: ys) else compGo c f l) = _
    by_cases c : p x = true
    · rw [if_pos c, h2 x (by simp) c, ih, List.filter_cons_of_pos c]
      rfl
    · rw [if_neg c, ih, List.filter_cons_of_neg c]
theorem compR_filter {α β : Type} {c : α → R Bool} {p : α → Bool} {f : α → R β} {g : α → β} {xs : List α} (hl : xs.length ≤ lim) (h : ∀ x ∈ xs, c x = .ok (p x)) (h2 : ∀ x ∈ xs, p x = true → f x = .ok (g x)) : compR xs c f = .ok ((xs.filter p).map g) := by
  unfold compR
  rw [gd_pos hl, compGo_filter h h2]
theorem inL_iff {α : Type} [DecidableEq α] {a : α} {l : List α} : inL a l = true ↔ a ∈ l := by unfold inL; simp
theorem inL_no {α : Type} [DecidableEq α] {a : α} {l : List α} (h : a ∉ l) : inL a l = false := by unfold inL; simp [h]
theorem inL_yes {α : Type} [DecidableEq α] {a : α} {l : List α} (h : a ∈ l) : inL a l = true := by unfold inL; simp [h]
theorem indexR_ok {α : Type} [DecidableEq α] {l : List α} {a : α} {j : Nat} (h : l[j]? = some a) (hn : ∀ i, i < j → l[i]? ≠ some a) : indexR l a = .ok (j : Int) := by
  unfold indexR
  have hj := (List.getElem?_eq_some_iff.mp h).1
  have : l.findIdx? (fun z => decide (z = a)) = some j := by
    rw [List.findIdx?_eq_some_iff_getElem]
    refine ⟨hj, ?_, fun i hi => ?_⟩
    · have := (List.getElem?_eq_some_iff.mp h).2
      simpa using this
    · have e := List.getElem?_eq_getElem (l := l) (i := i) (by omega)
      have := hn i hi
      rw [e] at this
      simpa using this
  rw [this]
theorem ok_whileR {S ρ : Type} {c : S → R Bool} {body : S → R (Fl S ρ)} (I : S → Prop) (μ : S → Nat) (Dn : S → Prop) (Rr : ρ → Prop) : ∀ (n : Nat) (s : S), I s → μ s < n → (∀ s, I s → Ok (c s) fun b => if b = true then Ok (body s) (FlP (fun s' => I s' ∧ μ s' < μ s) Dn Rr) else Dn s) → Ok (whileR c body n s) (FlP Dn (fun _ => False) Rr)
  | 0, s, _, h, _ => by omega
  | n + 1, s, hI, h, st => by
    obtain ⟨b, e, q⟩ := st s hI
    unfold whileR
    rw [e, bd_ok]
    cases b with
    | true =>
      rw [if_pos rfl] at q ⊢
      obtain ⟨f, e2, h2⟩ := q
      rw [e2, bd_ok]
      cases f with
      | go s' =>
        obtain ⟨h3, h4⟩ := h2
        exact ok_whileR I μ Dn Rr n s' h3 (by omega) st
      | brk s' => exact ⟨_, rfl, h2⟩
      | ret r => exact ⟨_, rfl, h2⟩
    | false =>
      rw [if_neg (by decide)] at q ⊢
      exact ⟨_, rfl, q⟩
theorem cut_init {α : Type} (l : List α) : cut l none (some (-1)) = l.dropLast := by
  unfold cut
  have : HT.sIx l.length l.length (some (-1)) = l.length - 1 := by
    show (if (-1 : Int) < 0 then ((-1 : Int) + (l.length : Int)).toNat else min (-1 : Int).toNat l.length) = _
    rw [if_pos (by decide)]
    omega
  rw [this, HT.sIx_none, List.drop_zero, Nat.sub_zero, List.dropLast_eq_take]
theorem cut_tail {α : Type} (l : List α) : cut l (some 1) none = l.drop 1 := by
  unfold cut
  rw [show (1 : Int) = ((1 : Nat) : Int) from rfl, HT.sIx_nat, HT.sIx_none]
  by_cases c : 1 ≤ l.length
  · rw [Nat.min_eq_left c, List.take_of_length_le (by simp)]
  · have : l = [] := List.eq_nil_of_length_eq_zero (by omega)
    rw [this]
    rfl
theorem nodup_lt : ∀ (N : Nat) (ns : List Nat), ns.Nodup → (∀ x ∈ ns, x < N) → ns.length ≤ N
  | 0, ns, _, h => by
    cases ns with
    | nil => simp
    | cons x l => exact absurd (h x List.mem_cons_self) (by omega)
  | N + 1, ns, hn, h => by
    by_cases c : N ∈ ns
    · have := nodup_lt N (ns.erase N) (hn.erase N) fun x hx => by
        obtain ⟨h1, h2⟩ := (List.Nodup.mem_erase_iff hn).mp hx
        have := h x h2
        omega
      rw [List.length_erase_of_mem c] at this
      omega
    · have := nodup_lt N ns hn fun x hx => by
        have h1 := h x hx
        have h2 : x ≠ N := fun z => c (z ▸ hx)
        omega
      omega
end G

set_option Elab.async false
set_option linter.all false
set_option maxRecDepth 100000
set_option maxHeartbeats 4000000
namespace G
open PySem L2
noncomputable section
def m_ask_yard (yard : List Int) : R Unit :=
  R.bd (if (decide ((200 : Int) < (yard.length : Int))) = true then .ok true else if (decide ((0 : Int) < (yard.length : Int))) = true then R.bd (idx yard (-(1 : Int))) fun (t1 : Int) => .ok (decide (t1 = (0 : Int))) else .ok false) fun (b51 : Bool) => if b51 = true then
    (.er (.own .BadYard))
  else
    (R.bd (.ok yard) fun (t49 : List Int) => R.bd (forS (fun (seeds : Int) (_ : Unit) => 
    R.bd (.ok (decide (seeds < (0 : Int)))) fun (b41 : Bool) => if b41 = true then
    (.er (.own .BadYard))
  else
    (.ok ())) t49 ()) fun (_ : Unit) =>
  R.bd (.ok (decide ((10000 : Int) < yard.sum))) fun (b48 : Bool) => if b48 = true then
    (.er (.own .BadYard))
  else
    (.ok ()))

def m_pit_emptied (yard : List Int) (pit : Int) : R (List Int) :=
  R.bd (R.bd (R.bd (compR (cut yard none (some (pit - (1 : Int)))) (fun (seeds : Int) => .ok true) (fun (seeds : Int) => .ok (seeds + (1 : Int)))) fun (t16 : List Int) => gd (t16.length + [(0 : Int)].length ≤ lim) (.ok (t16 ++ [(0 : Int)]))) fun (t17 : List Int) => gd (t17.length + (cut yard (some pit) none).length ≤ lim) (.ok (t17 ++ (cut yard (some pit) none)))) fun (behind : List Int) =>
  R.bd (whileS (fun (behind : (List Int)) => if (decide ((0 : Int) < (behind.length : Int))) = true then R.bd (idx behind (-(1 : Int))) fun (t27 : Int) => .ok (decide (t27 = (0 : Int))) else .ok false) (fun (behind : (List Int)) =>
    R.bd (popR behind) fun (behind : List Int) =>
  .ok behind) fuel behind) fun (behind : (List Int)) =>
  R.bd (.ok behind) fun (r : List Int) => .ok r

def m_home_yard (seeds : Int) : R (List Int) :=
  R.bd (.ok ((decide (seeds < (0 : Int))) || (decide ((10000 : Int) < seeds)))) fun (b61 : Bool) => if b61 = true then
    (.er (.own .BadCount))
  else
    (R.bd (.ok ([] : List Int)) fun (yard : List Int) =>
  R.bd (.ok seeds) fun (sowings : Int) =>
  R.bd (whileS (fun ((sowings, yard) : Int × (List Int)) => .ok (decide ((0 : Int) < sowings))) (fun ((sowings, yard) : Int × (List Int)) =>
    R.bd (.ok ((yard.length : Int) + (1 : Int))) fun (pit : Int) =>
  R.bd (R.bd (R.bd (mulR pit sowings) fun (t48 : Int) => modR t48 (pit + (1 : Int))) fun (t49 : Int) => appR yard t49) fun (yard : List Int) =>
  R.bd (R.bd (mulR pit sowings) fun (t55 : Int) => divR t55 (pit + (1 : Int))) fun (sowings : Int) =>
  .ok (sowings, yard)) fuel (sowings, yard)) fun ((sowings, yard) : Int × (List Int)) =>
  R.bd (.ok yard) fun (r : List Int) => .ok r)

def m_first_full (yard : List Int) : R (Option Int) :=
  R.bd (.ok (enumL yard)) fun (t40 : List (Int × Int)) => R.bd (forR (ρ := (Option Int)) (fun ((place, seeds) : Int × Int) (_ : Unit) => 
    R.bd (.ok (decide (seeds = (place + (1 : Int))))) fun (b39 : Bool) => if b39 = true then
    (R.bd (.ok (some (place + (1 : Int)))) fun (r : Option Int) => .ok (.ret r))
  else
    (.ok (.go ()))) t40 ()) (flk (fun (_ : Unit) =>
  R.bd (.ok (none : Option Int)) fun (r : Option Int) => .ok r) fun r => .ok r)

def m_homeward_plan (yard : List Int) : R (List (Option Int)) :=
  R.bd (.ok ([] : List (Option Int))) fun (plan : List (Option Int)) =>
  R.bd (.ok yard) fun (left : List Int) =>
  R.bd (whileS (fun ((left, plan) : (List Int) × (List (Option Int))) => .ok (decide ((0 : Int) < (left.length : Int)))) (fun ((left, plan) : (List Int) × (List (Option Int))) =>
    R.bd (R.bd (m_first_full left) fun (t36 : Option Int) => appR plan t36) fun (plan : List (Option Int)) =>
  R.bd (R.bd (R.bd (idx plan (-(1 : Int))) unO) fun (t42 : Int) => m_pit_emptied left t42) fun (left : List Int) =>
  .ok (left, plan)) fuel (left, plan)) fun ((left, plan) : (List Int) × (List (Option Int))) =>
  R.bd (.ok plan) fun (r : List (Option Int)) => .ok r

def m_brought_home (yard : List Int) : R Dy :=
  R.bd (m_ask_yard yard) fun (_ : Unit) =>
  R.bd (m_home_yard yard.sum) fun (due : List Int) =>
  R.bd (.ok (decide (yard = due))) fun (b61 : Bool) => if b61 = true then
    (R.bd (R.bd (R.bd (m_homeward_plan yard) fun (t19 : List (Option Int)) => .ok (("home" : Str), t19)) fun (t20 : Str × (List (Option Int))) => .ok (DyN.dy t20)) fun (r : Dy) => .ok r)
  else
    (R.bd (.ok (0 : Int)) fun (place : Int) =>
  R.bd (whileS (fun (place : Int) => if (decide (place < (yard.length : Int))) = true then if (decide (place < (due.length : Int))) = true then R.bd (idx yard place) fun (t35 : Int) => R.bd (idx due place) fun (t36 : Int) => .ok (decide (t35 = t36)) else .ok false else .ok false) (fun (place : Int) =>
    R.bd (.ok (place + (1 : Int))) fun (place : Int) =>
  .ok place) fuel place) fun (place : Int) =>
  R.bd (.ok (decide (place < (due.length : Int)))) fun (b59 : Bool) => if b59 = true then
    (R.bd (R.bd (R.bd (idx due place) fun (t57 : Int) => .ok (T3.mk ("barred" : Str) (place + (1 : Int)) t57)) fun (t58 : T3 Str Int Int) => .ok (DyN.dy t58)) fun (r : Dy) => .ok r)
  else
    (R.bd (.ok (DyN.dy (T3.mk ("barred" : Str) (place + (1 : Int)) (0 : Int)))) fun (r : Dy) => .ok r))

def m__law_whole (found : Dy) : R Bool :=
  R.bd (.ok ((dyIs 0 found) && (!(dyIs 1 found)))) fun (r : Bool) => .ok r

def m__law_trimmed (yard : List Int) : R (List Int) :=
  R.bd (.ok (yard.length : Int)) fun (many : Int) =>
  R.bd (whileS (fun (many : Int) => if (decide ((0 : Int) < many)) = true then R.bd (idx yard (many - (1 : Int))) fun (t15 : Int) => .ok (decide (t15 = (0 : Int))) else .ok false) (fun (many : Int) =>
    R.bd (.ok (many - (1 : Int))) fun (many : Int) =>
  .ok many) fuel many) fun (many : Int) =>
  R.bd (.ok (cut yard none (some many))) fun (r : List Int) => .ok r

def m__law_behind (yard : List Int) (pit : Int) : R (List Int) :=
  R.bd (compR (cut yard none (some (pit - (1 : Int)))) (fun (seeds : Int) => .ok true) (fun (seeds : Int) => .ok (seeds + (1 : Int)))) fun (nearer : List Int) =>
  R.bd (R.bd (R.bd (gd (nearer.length + [(0 : Int)].length ≤ lim) (.ok (nearer ++ [(0 : Int)]))) fun (t16 : List Int) => gd (t16.length + (cut yard (some pit) none).length ≤ lim) (.ok (t16 ++ (cut yard (some pit) none)))) fun (t17 : List Int) => m__law_trimmed t17) fun (r : List Int) => .ok r

def m__law_home (seeds : Int) : R (List Int) :=
  R.bd (.ok ([] : List Int)) fun (yard : List Int) =>
  R.bd (rng1 seeds) fun (t101 : List Int) => R.bd (forS (fun (turn : Int) (yard : (List Int)) => 
    R.bd (.ok (0 : Int)) fun (place : Int) =>
  R.bd (whileS (fun ((place, yard) : Int × (List Int)) => if (decide (place < (yard.length : Int))) = true then R.bd (idx yard place) fun (t53 : Int) => .ok (decide ((0 : Int) < t53)) else .ok false) (fun ((place, yard) : Int × (List Int)) =>
    R.bd (R.bd (R.bd (idx yard place) fun (t60 : Int) => .ok (t60 - (1 : Int))) fun (t61 : Int) => setR yard place t61) fun (yard : List Int) =>
  R.bd (.ok (place + (1 : Int))) fun (place : Int) =>
  .ok (place, yard)) fuel (place, yard)) fun ((place, yard) : Int × (List Int)) =>
  R.bd (R.bd (.ok (decide (place = (yard.length : Int)))) fun (b99 : Bool) => if b99 = true then
    (R.bd (appR yard (0 : Int)) fun (yard : List Int) =>
  .ok yard)
  else
    (.ok yard)) fun (yard : (List Int)) =>
  R.bd (setR yard place (place + (1 : Int))) fun (yard : List Int) =>
  .ok yard) t101 yard) fun (yard : (List Int)) =>
  R.bd (.ok yard) fun (r : List Int) => .ok r

def m__law_sums (script : Scr) : R (List Int) :=
  R.bd (.ok [(0 : Int), (0 : Int)]) fun (sums : List Int) =>
  R.bd (rng1 (script.l.length : Int)) fun (t45 : List Int) => R.bd (forS (fun (k : Int) (sums : (List Int)) => 
    R.bd (R.bd (R.bd (idx sums (k % (2 : Int))) fun (t37 : Int) => R.bd (idx script.l k) fun (t38 : Int) => .ok (t37 + t38)) fun (t39 : Int) => setR sums (k % (2 : Int)) t39) fun (sums : List Int) =>
  .ok sums) t45 sums) fun (sums : (List Int)) =>
  R.bd (.ok sums) fun (r : List Int) => .ok r

def m__law_changed (yard : List Int) (number : Int) : R (List Int) :=
  R.bd (gd (yard.length + [(0 : Int)].length ≤ lim) (.ok (yard ++ [(0 : Int)]))) fun (other : List Int) =>
  R.bd (.ok (number / (4 : Int))) fun (rest : Int) =>
  R.bd (rng1 (number % (4 : Int))) fun (t173 : List Int) => R.bd (forS (fun (k : Int) ((rest, other) : Int × (List Int)) => 
    R.bd (.ok (rest % (5 : Int))) fun (way : Int) =>
  R.bd (modR (rest / (5 : Int)) (other.length : Int)) fun (at_ : Int) =>
  R.bd (divR (rest / (5 : Int)) (other.length : Int)) fun (rest : Int) =>
  R.bd (R.bd (.ok (decide (way = (0 : Int)))) fun (b172 : Bool) => if b172 = true then
    (R.bd (R.bd (R.bd (idx other at_) fun (t84 : Int) => .ok (t84 + (1 : Int))) fun (t85 : Int) => setR other at_ t85) fun (other : List Int) =>
  .ok other)
  else
    (.ok other)) fun (other : (List Int)) =>
  R.bd (R.bd (.ok (decide (way = (1 : Int)))) fun (b171 : Bool) => if b171 = true then
    (R.bd (R.bd (R.bd (R.bd (idx other at_) fun (t105 : Int) => .ok (t105 - (1 : Int))) fun (t106 : Int) => .ok (if t106 > (0 : Int) then t106 else (0 : Int))) fun (t107 : Int) => setR other at_ t107) fun (other : List Int) =>
  .ok other)
  else
    (.ok other)) fun (other : (List Int)) =>
  R.bd (R.bd (.ok (decide (way = (2 : Int)))) fun (b170 : Bool) => if b170 = true then
    (R.bd (setR other at_ (0 : Int)) fun (other : List Int) =>
  .ok other)
  else
    (.ok other)) fun (other : (List Int)) =>
  R.bd (R.bd (.ok (decide (way = (3 : Int)))) fun (b169 : Bool) => if b169 = true then
    (R.bd (gd (((cut other none (some at_)).reverse).length + (cut other (some at_) none).length ≤ lim) (.ok (((cut other none (some at_)).reverse) ++ (cut other (some at_) none)))) fun (other : List Int) =>
  .ok other)
  else
    (.ok other)) fun (other : (List Int)) =>
  R.bd (.ok (decide (way = (4 : Int)))) fun (b168 : Bool) => if b168 = true then
    (R.bd (appR other (rest % (3 : Int))) fun (other : List Int) =>
  .ok (rest, other))
  else
    (.ok (rest, other))) t173 (rest, other)) fun ((rest, other) : Int × (List Int)) =>
  R.bd (m__law_trimmed other) fun (r : List Int) => .ok r

def m__law_planned (yard : List Int) (plan : Dy) : R Bool :=
  R.bd (.ok yard) fun (left : List Int) =>
  R.bd (dyL plan) fun (t63 : List Dy) => R.bd (forR (ρ := Bool) (fun (pit : Dy) (left : (List Int)) => 
    R.bd (R.bd (R.bd (m__law_whole pit) fun (t38 : Bool) => .ok (!t38)) fun (t47 : Bool) => if t47 = true then .ok true else R.bd (R.bd (unD pit : R Int) fun (t39 : Int) => .ok (decide (t39 < (1 : Int)))) fun (t46 : Bool) => if t46 = true then .ok true else R.bd (R.bd (unD pit : R Int) fun (t40 : Int) => .ok (decide ((left.length : Int) < t40))) fun (t45 : Bool) => if t45 = true then .ok true else R.bd (R.bd (R.bd (R.bd (unD pit : R Int) fun (t41 : Int) => .ok (t41 - (1 : Int))) fun (t42 : Int) => idx left t42) fun (t43 : Int) => .ok (DyN.dy t43)) fun (t44 : Dy) => R.bd (eqDy t44 pit) fun c => .ok (!c)) fun (b62 : Bool) => if b62 = true then
    (R.bd (.ok false) fun (r : Bool) => .ok (.ret r))
  else
    (R.bd (R.bd (unD pit : R Int) fun (t58 : Int) => m__law_behind left t58) fun (left : List Int) =>
  .ok (.go left))) t63 left) (flk (fun (left : (List Int)) =>
  R.bd (.ok (decide (left = ([] : List Int)))) fun (r : Bool) => .ok r) fun r => .ok r)

def m__law_held (yard : List Int) (pit : Int) : R Int :=
  R.bd (.ok (decide (pit ≤ (yard.length : Int)))) fun (b7 : Bool) => if b7 = true then
    (R.bd (idx yard (pit - (1 : Int))) fun (r : Int) => .ok r)
  else
    (R.bd (.ok (0 : Int)) fun (r : Int) => .ok r)

def m__law_barred (yard : List Int) (due : List Int) (pit : Int) (held : Int) : R Bool :=
  R.bd (R.bd (R.bd (m__law_whole (DyN.dy pit)) fun (t1 : Bool) => .ok (!t1)) fun (t4 : Bool) => if t4 = true then .ok true else R.bd (R.bd (m__law_whole (DyN.dy held)) fun (t2 : Bool) => .ok (!t2)) fun (t3 : Bool) => .ok (t3 || ((decide (pit < (1 : Int))) || (decide (((yard.length : Int) + (due.length : Int)) < pit))))) fun (b52 : Bool) => if b52 = true then
    (R.bd (.ok false) fun (r : Bool) => .ok r)
  else
    (R.bd (rng2 (1 : Int) pit) fun (t50 : List Int) => R.bd (forR (ρ := Bool) (fun (nearer : Int) (_ : Unit) => 
    R.bd (R.bd (m__law_held yard nearer) fun (t38 : Int) => R.bd (m__law_held due nearer) fun (t39 : Int) => .ok (!decide (t38 = t39))) fun (b46 : Bool) => if b46 = true then
    (R.bd (.ok false) fun (r : Bool) => .ok (.ret r))
  else
    (.ok (.go ()))) t50 ()) (flk (fun (_ : Unit) =>
  R.bd (R.bd (R.bd (m__law_held due pit) fun (t47 : Int) => .ok (decide (held = t47))) fun (t49 : Bool) => if t49 = true then R.bd (m__law_held yard pit) fun (t48 : Int) => .ok (!decide (held = t48)) else .ok false) fun (r : Bool) => .ok r) fun r => .ok r))

def m__law_right (yard : List Int) : R Bool :=
  R.bd (m__law_home yard.sum) fun (due : List Int) =>
  R.bd (.ok yard) fun (handed : List Int) =>
  R.bd (m_brought_home handed) fun (found : Dy) =>
  R.bd (.ok ((!decide (handed = yard)) || (!(dyIs 4 found)))) fun (b93 : Bool) => if b93 = true then
    (R.bd (.ok false) fun (r : Bool) => .ok r)
  else
    (R.bd (.ok (!decide (yard = due))) fun (b92 : Bool) => if b92 = true then
    (R.bd (R.bd (R.bd (dyLen found) fun (t40 : Int) => .ok (decide (t40 = (3 : Int)))) fun (t47 : Bool) => if t47 = true then R.bd (R.bd (dyIdx found (0 : Int)) fun (t41 : Dy) => eqDy t41 (DyN.dy ("barred" : Str))) fun (t46 : Bool) => if t46 = true then R.bd (R.bd (dyIdx found (1 : Int)) fun (t42 : Dy) => (unD t42 : R Int)) fun (t44 : Int) => R.bd (R.bd (dyIdx found (2 : Int)) fun (t43 : Dy) => (unD t43 : R Int)) fun (t45 : Int) => m__law_barred yard due t44 t45 else .ok false else .ok false) fun (r : Bool) => .ok r)
  else
    (R.bd (R.bd (R.bd (dyLen found) fun (t48 : Int) => .ok (!decide (t48 = (2 : Int)))) fun (t53 : Bool) => if t53 = true then .ok true else R.bd (R.bd (dyIdx found (0 : Int)) fun (t49 : Dy) => R.bd (eqDy t49 (DyN.dy ("home" : Str))) fun c => .ok (!c)) fun (t52 : Bool) => if t52 = true then .ok true else R.bd (R.bd (dyIdx found (1 : Int)) fun (t50 : Dy) => .ok (dyIs 3 t50)) fun (t51 : Bool) => .ok (!t51)) fun (b91 : Bool) => if b91 = true then
    (R.bd (.ok false) fun (r : Bool) => .ok r)
  else
    (R.bd (R.bd (R.bd (R.bd (dyIdx found (1 : Int)) fun (t60 : Dy) => dyLen t60) fun (t61 : Int) => .ok (!decide (t61 = yard.sum))) fun (t64 : Bool) => if t64 = true then .ok true else R.bd (R.bd (dyIdx found (1 : Int)) fun (t62 : Dy) => m__law_planned yard t62) fun (t63 : Bool) => .ok (!t63)) fun (b90 : Bool) => if b90 = true then
    (R.bd (.ok false) fun (r : Bool) => .ok r)
  else
    (R.bd (R.bd (dyIdx found (1 : Int)) fun (t75 : Dy) => (unD t75 : R (List Int))) fun (kept : List Int) =>
  R.bd (R.bd (R.bd (dyIdx found (1 : Int)) fun (t80 : Dy) => (unD t80 : R (List Int))) fun (t87 : List Int) => R.bd (.ok (1 : Int)) fun (_ : Int) => gd (t87.length < lim) (.ok ())) fun (_ : Unit) =>
  R.bd (R.bd (m_brought_home handed) fun (t89 : Dy) => eqDy t89 (DyN.dy (("home" : Str), kept))) fun (r : Bool) => .ok r))))

def m_law (script : Scr) : R Bool :=
  R.bd (R.bd (m__law_sums script) lst2) fun ((one, other) : Int × Int) =>
  R.bd (m__law_home (one % (91 : Int))) fun (yard : List Int) =>
  R.bd (R.bd (m__law_right yard) fun (t14 : Bool) => if t14 = true then R.bd (m__law_changed yard other) fun (t13 : List Int) => m__law_right t13 else .ok false) fun (r : Bool) => .ok r
end
end G

set_option Elab.async false
set_option linter.all false
set_option maxRecDepth 100000
set_option maxHeartbeats 4000000
namespace G
open PySem PySem.Spec PyProof.Rows L2
def top (i : Nat) : Stmt := PySem.Challenge.pw_sowring_k49_brought_home.main.body.getD i (.Pass ⟨0, 0, 0, 0⟩)
abbrev s_ask_yard : Stmt := top 8
def d_ask_yard : He.DefD := ⟨("ask_yard", none), "ask_yard", "ask_yard", defArgs s_ask_yard, defBody s_ask_yard, defScope s_ask_yard, [], []⟩
abbrev s_pit_emptied : Stmt := top 9
def d_pit_emptied : He.DefD := ⟨("pit_emptied", none), "pit_emptied", "pit_emptied", defArgs s_pit_emptied, defBody s_pit_emptied, defScope s_pit_emptied, [], []⟩
abbrev s_home_yard : Stmt := top 10
def d_home_yard : He.DefD := ⟨("home_yard", none), "home_yard", "home_yard", defArgs s_home_yard, defBody s_home_yard, defScope s_home_yard, [], []⟩
abbrev s_first_full : Stmt := top 11
def d_first_full : He.DefD := ⟨("first_full", none), "first_full", "first_full", defArgs s_first_full, defBody s_first_full, defScope s_first_full, [], []⟩
abbrev s_homeward_plan : Stmt := top 12
def d_homeward_plan : He.DefD := ⟨("homeward_plan", none), "homeward_plan", "homeward_plan", defArgs s_homeward_plan, defBody s_homeward_plan, defScope s_homeward_plan, [], []⟩
abbrev s_brought_home : Stmt := top 13
def d_brought_home : He.DefD := ⟨("brought_home", none), "brought_home", "brought_home", defArgs s_brought_home, defBody s_brought_home, defScope s_brought_home, [], []⟩
abbrev s__law_whole : Stmt := top 15
def d__law_whole : He.DefD := ⟨("_law_whole", none), "_law_whole", "_law_whole", defArgs s__law_whole, defBody s__law_whole, defScope s__law_whole, [], []⟩
abbrev s__law_trimmed : Stmt := top 17
def d__law_trimmed : He.DefD := ⟨("_law_trimmed", none), "_law_trimmed", "_law_trimmed", defArgs s__law_trimmed, defBody s__law_trimmed, defScope s__law_trimmed, [], []⟩
abbrev s__law_behind : Stmt := top 18
def d__law_behind : He.DefD := ⟨("_law_behind", none), "_law_behind", "_law_behind", defArgs s__law_behind, defBody s__law_behind, defScope s__law_behind, [], []⟩
abbrev s__law_home : Stmt := top 19
def d__law_home : He.DefD := ⟨("_law_home", none), "_law_home", "_law_home", defArgs s__law_home, defBody s__law_home, defScope s__law_home, [], []⟩
abbrev s__law_sums : Stmt := top 20
def d__law_sums : He.DefD := ⟨("_law_sums", none), "_law_sums", "_law_sums", defArgs s__law_sums, defBody s__law_sums, defScope s__law_sums, [], []⟩
abbrev s__law_changed : Stmt := top 21
def d__law_changed : He.DefD := ⟨("_law_changed", none), "_law_changed", "_law_changed", defArgs s__law_changed, defBody s__law_changed, defScope s__law_changed, [], []⟩
abbrev s__law_planned : Stmt := top 22
def d__law_planned : He.DefD := ⟨("_law_planned", none), "_law_planned", "_law_planned", defArgs s__law_planned, defBody s__law_planned, defScope s__law_planned, [], []⟩
abbrev s__law_held : Stmt := top 23
def d__law_held : He.DefD := ⟨("_law_held", none), "_law_held", "_law_held", defArgs s__law_held, defBody s__law_held, defScope s__law_held, [], []⟩
abbrev s__law_barred : Stmt := top 24
def d__law_barred : He.DefD := ⟨("_law_barred", none), "_law_barred", "_law_barred", defArgs s__law_barred, defBody s__law_barred, defScope s__law_barred, [], []⟩
abbrev s__law_right : Stmt := top 25
def d__law_right : He.DefD := ⟨("_law_right", none), "_law_right", "_law_right", defArgs s__law_right, defBody s__law_right, defScope s__law_right, [], []⟩
abbrev s_law : Stmt := top 26
def d_law : He.DefD := ⟨("law", none), "law", "law", defArgs s_law, defBody s_law, defScope s_law, [], []⟩
abbrev s_cSowError : Stmt := inClass (top 2) 0
def d_cSowError : He.DefD := ⟨("SowError", some "called"), "called", "SowError.called", defArgs s_cSowError, defBody s_cSowError, defScope s_cSowError, [], []⟩
abbrev s_cBadCount : Stmt := inClass (top 3) 0
def d_cBadCount : He.DefD := ⟨("BadCount", some "called"), "called", "BadCount.called", defArgs s_cBadCount, defBody s_cBadCount, defScope s_cBadCount, [], []⟩
abbrev s_cBadYard : Stmt := inClass (top 4) 0
def d_cBadYard : He.DefD := ⟨("BadYard", some "called"), "called", "BadYard.called", defArgs s_cBadYard, defBody s_cBadYard, defScope s_cBadYard, [], []⟩
def fn : List He.DefD := [d_ask_yard, d_pit_emptied, d_home_yard, d_first_full, d_homeward_plan, d_brought_home, d__law_whole, d__law_trimmed, d__law_behind, d__law_home, d__law_sums, d__law_changed, d__law_planned, d__law_held, d__law_barred, d__law_right, d_law]
def fa : List He.Fa := [.glo "ask_yard", .glo "pit_emptied", .glo "home_yard", .glo "first_full", .glo "homeward_plan", .glo "brought_home", .glo "_law_whole", .glo "_law_trimmed", .glo "_law_behind", .glo "_law_home", .glo "_law_sums", .glo "_law_changed", .glo "_law_planned", .glo "_law_held", .glo "_law_barred", .glo "_law_right", .glo "law", .free "bool", .free "enumerate", .free "int", .free "isinstance", .free "len", .free "list", .free "max", .free "range", .free "reversed", .free "sum", .free "tuple", .int "PITS_OF_A_YARD" (200), .int "SEEDS_OF_A_YARD" (10000), .glo "SowError", .exc "SowError", .glo "BadCount", .exc "BadCount", .glo "BadYard", .exc "BadYard"]
def bx (K : PySem.W.Frag) : Bool := ([.SowError, .BadCount, .BadYard] : List Cn).all (fun c => cfB K c)
/-- what the top has written -/
structure Hd (K : PySem.W.Frag) (mg : Str → Option Value) : Prop where
  g_ask_yard : mg "ask_yard" = some (.ref (He.ga K "ask_yard"))
  g_pit_emptied : mg "pit_emptied" = some (.ref (He.ga K "pit_emptied"))
  g_home_yard : mg "home_yard" = some (.ref (He.ga K "home_yard"))
  g_first_full : mg "first_full" = some (.ref (He.ga K "first_full"))
  g_homeward_plan : mg "homeward_plan" = some (.ref (He.ga K "homeward_plan"))
  g_brought_home : mg "brought_home" = some (.ref (He.ga K "brought_home"))
  g__law_whole : mg "_law_whole" = some (.ref (He.ga K "_law_whole"))
  g__law_trimmed : mg "_law_trimmed" = some (.ref (He.ga K "_law_trimmed"))
  g__law_behind : mg "_law_behind" = some (.ref (He.ga K "_law_behind"))
  g__law_home : mg "_law_home" = some (.ref (He.ga K "_law_home"))
  g__law_sums : mg "_law_sums" = some (.ref (He.ga K "_law_sums"))
  g__law_changed : mg "_law_changed" = some (.ref (He.ga K "_law_changed"))
  g__law_planned : mg "_law_planned" = some (.ref (He.ga K "_law_planned"))
  g__law_held : mg "_law_held" = some (.ref (He.ga K "_law_held"))
  g__law_barred : mg "_law_barred" = some (.ref (He.ga K "_law_barred"))
  g__law_right : mg "_law_right" = some (.ref (He.ga K "_law_right"))
  g_law : mg "law" = some (.ref (He.ga K "law"))
  d_ask_yard : ∃ fd, FunD K "ask_yard" "ask_yard" (defArgs s_ask_yard) (defBody s_ask_yard) (defScope s_ask_yard) [] [] (He.ga K "ask_yard") fd
  d_pit_emptied : ∃ fd, FunD K "pit_emptied" "pit_emptied" (defArgs s_pit_emptied) (defBody s_pit_emptied) (defScope s_pit_emptied) [] [] (He.ga K "pit_emptied") fd
  d_home_yard : ∃ fd, FunD K "home_yard" "home_yard" (defArgs s_home_yard) (defBody s_home_yard) (defScope s_home_yard) [] [] (He.ga K "home_yard") fd
  d_first_full : ∃ fd, FunD K "first_full" "first_full" (defArgs s_first_full) (defBody s_first_full) (defScope s_first_full) [] [] (He.ga K "first_full") fd
  d_homeward_plan : ∃ fd, FunD K "homeward_plan" "homeward_plan" (defArgs s_homeward_plan) (defBody s_homeward_plan) (defScope s_homeward_plan) [] [] (He.ga K "homeward_plan") fd
  d_brought_home : ∃ fd, FunD K "brought_home" "brought_home" (defArgs s_brought_home) (defBody s_brought_home) (defScope s_brought_home) [] [] (He.ga K "brought_home") fd
  d__law_whole : ∃ fd, FunD K "_law_whole" "_law_whole" (defArgs s__law_whole) (defBody s__law_whole) (defScope s__law_whole) [] [] (He.ga K "_law_whole") fd
  d__law_trimmed : ∃ fd, FunD K "_law_trimmed" "_law_trimmed" (defArgs s__law_trimmed) (defBody s__law_trimmed) (defScope s__law_trimmed) [] [] (He.ga K "_law_trimmed") fd
  d__law_behind : ∃ fd, FunD K "_law_behind" "_law_behind" (defArgs s__law_behind) (defBody s__law_behind) (defScope s__law_behind) [] [] (He.ga K "_law_behind") fd
  d__law_home : ∃ fd, FunD K "_law_home" "_law_home" (defArgs s__law_home) (defBody s__law_home) (defScope s__law_home) [] [] (He.ga K "_law_home") fd
  d__law_sums : ∃ fd, FunD K "_law_sums" "_law_sums" (defArgs s__law_sums) (defBody s__law_sums) (defScope s__law_sums) [] [] (He.ga K "_law_sums") fd
  d__law_changed : ∃ fd, FunD K "_law_changed" "_law_changed" (defArgs s__law_changed) (defBody s__law_changed) (defScope s__law_changed) [] [] (He.ga K "_law_changed") fd
  d__law_planned : ∃ fd, FunD K "_law_planned" "_law_planned" (defArgs s__law_planned) (defBody s__law_planned) (defScope s__law_planned) [] [] (He.ga K "_law_planned") fd
  d__law_held : ∃ fd, FunD K "_law_held" "_law_held" (defArgs s__law_held) (defBody s__law_held) (defScope s__law_held) [] [] (He.ga K "_law_held") fd
  d__law_barred : ∃ fd, FunD K "_law_barred" "_law_barred" (defArgs s__law_barred) (defBody s__law_barred) (defScope s__law_barred) [] [] (He.ga K "_law_barred") fd
  d__law_right : ∃ fd, FunD K "_law_right" "_law_right" (defArgs s__law_right) (defBody s__law_right) (defScope s__law_right) [] [] (He.ga K "_law_right") fd
  d_law : ∃ fd, FunD K "law" "law" (defArgs s_law) (defBody s_law) (defScope s_law) [] [] (He.ga K "law") fd
  f_bool : mg "bool" = none
  f_enumerate : mg "enumerate" = none
  f_int : mg "int" = none
  f_isinstance : mg "isinstance" = none
  f_len : mg "len" = none
  f_list : mg "list" = none
  f_max : mg "max" = none
  f_range : mg "range" = none
  f_reversed : mg "reversed" = none
  f_sum : mg "sum" = none
  f_tuple : mg "tuple" = none
  c_PITS_OF_A_YARD : ∃ t, mg "PITS_OF_A_YARD" = some (.int (200) t)
  c_SEEDS_OF_A_YARD : ∃ t, mg "SEEDS_OF_A_YARD" = some (.int (10000) t)
  g_SowError : mg "SowError" = some (.ref (He.ga K "SowError"))
  k_SowError : knB K .SowError = true
  x_SowError : PySem.W.excIn K (He.ga K "SowError") He.veBase "ValueError.__new__" = true ∧ PySem.W.keepIn K (.ref (He.ga K "SowError")) = true ∧ PySem.W.subIn K (.ref (He.ga K "SowError")) (.type "BaseException") = some true ∧ PySem.W.typeIn K (.ref (He.ga K "SowError")) = some (.type "type")
  g_BadCount : mg "BadCount" = some (.ref (He.ga K "BadCount"))
  k_BadCount : knB K .BadCount = true
  x_BadCount : PySem.W.excIn K (He.ga K "BadCount") He.veBase "ValueError.__new__" = true ∧ PySem.W.keepIn K (.ref (He.ga K "BadCount")) = true ∧ PySem.W.subIn K (.ref (He.ga K "BadCount")) (.type "BaseException") = some true ∧ PySem.W.typeIn K (.ref (He.ga K "BadCount")) = some (.type "type")
  g_BadYard : mg "BadYard" = some (.ref (He.ga K "BadYard"))
  k_BadYard : knB K .BadYard = true
  x_BadYard : PySem.W.excIn K (He.ga K "BadYard") He.veBase "ValueError.__new__" = true ∧ PySem.W.keepIn K (.ref (He.ga K "BadYard")) = true ∧ PySem.W.subIn K (.ref (He.ga K "BadYard")) (.type "BaseException") = some true ∧ PySem.W.typeIn K (.ref (He.ga K "BadYard")) = some (.type "type")
  cfs : ∀ c ∈ ([.SowError, .BadCount, .BadYard] : List Cn), Cf K c
  cf_SowError : Cf K .SowError
  cf_BadCount : Cf K .BadCount
  cf_BadYard : Cf K .BadYard
section
variable {P : Program} {w : World} {K : PySem.W.Frag} {mg : Str → Option Value} {base : Heap}
abbrev N_ask_yard : List Str := ["yard", "seeds"]
theorem sc_ask_yard : FnScope N_ask_yard ["yard"] (defScope s_ask_yard) := ⟨rfl, rfl, rfl, by decide +kernel, rfl, by decide +kernel, by decide +kernel⟩
theorem ok_ask_yard (T : Hd K mg) : ∃ fd, PySem.W.keepIn K (.ref (He.ga K "ask_yard")) = true ∧ Binds K fd ["yard"] [] ∧ FnOk P w K mg base (L2.CX P w) 1 (He.ga K "ask_yard") fd ["yard"] (sp1 K m_ask_yard) := by
  obtain ⟨fd, F⟩ := T.d_ask_yard
  obtain ⟨t_PITS_OF_A_YARD, c_PITS_OF_A_YARD⟩ := T.c_PITS_OF_A_YARD
  obtain ⟨t_SEEDS_OF_A_YARD, c_SEEDS_OF_A_YARD⟩ := T.c_SEEDS_OF_A_YARD
  refine ⟨fd, F.kp, F.bindsN fun _ _ _ _ _ _ us hl => match us, hl with | [_], _ => rfl, ?_⟩
  refine F.ok sc_ask_yard (fun vs H Q E h => ?_) (fun cdv A outer s H vs Q E hr h => ?_)
  · obtain ⟨v_yard, yard, rfl, r_yard, hQ⟩ := h
    rfl
  · obtain ⟨v_yard, yard, rfl, r_yard, hQ⟩ := h
    have tk : Takes (cxOf (L2.CX P w) P w K mg base N_ask_yard "ask_yard" (defScope s_ask_yard) (He.ga K "ask_yard") cdv A outer s H E) (fun cls d _ H => E cls d H) := takes_of rfl rfl rfl rfl
    refine ⟨_, (by exact (pss_cons (ps_if (PW.pt (pw_or (pt_cmpR op_gt (pe_callB call_len_seq rfl T.f_len PySem.boot_len (pa_cons (pv 0) pa_nil)) (pe_glob (v := .int (200)) rfl c_PITS_OF_A_YARD ⟨_, rfl⟩) (nomark _)) (pw_or1 (PW.pt (pw_and (pt_cmpR op_gt (pe_callB call_len_seq rfl T.f_len PySem.boot_len (pa_cons (pv 0) pa_nil)) pe_int (nomark _)) (pw_and1 (pt_cmpR op_eq (pe_ix ix_list (pv 0) (pe_un un_neg pe_int) (fun _ _ => rfl)) pe_int (nomark _)))))))) (pss_one (ps_raise rfl tk (pmk_own PySem.F.excBase_ValueError T.x_BadYard.1 T.g_BadYard T.x_BadYard.2.1 (raises_own T.x_BadYard.2.2.1 T.x_BadYard.2.2.2) (by exact rfl)))) pss_nil)
          (pss_cons (ps_for (passes_of rfl) rfl (pi_list (pv 0)) (pg_name (i := 1) sc_ask_yard.nd rfl (Or.inl rfl)) (pss_one (ps_if (pt_cmpR op_lt (pv 1) pe_int (nomark _)) (pss_one (ps_raise rfl tk (pmk_own PySem.F.excBase_ValueError T.x_BadYard.1 T.g_BadYard T.x_BadYard.2.1 (raises_own T.x_BadYard.2.2.1 T.x_BadYard.2.2.2) (by exact rfl)))) pss_nil)))
          (pss_one (ps_if (pt_cmpR op_gt (pe_callB (cr_sum rfl) rfl T.f_sum (by decide +kernel) (pa_cons (pv 0) pa_nil)) (pe_glob (v := .int (10000)) rfl c_SEEDS_OF_A_YARD ⟨_, rfl⟩) (nomark _)) (pss_one (ps_raise rfl tk (pmk_own PySem.F.excBase_ValueError T.x_BadYard.1 T.g_BadYard T.x_BadYard.2.1 (raises_own T.x_BadYard.2.2.1 T.x_BadYard.2.2.2) (by exact rfl)))) pss_nil))))), ?_⟩
    unfold m_ask_yard at hQ
    first | with_reducible refine st_n ?_ | skip
    refine st_seq ?_
    refine s_if ?_ (Same.refl _) (Same.refl _) hQ ?_ ?_
    · exact (t_or (t_test (F := H) (g_b0 (g_len (g_var (a := yard) (Rp.mono (Same.refl _) r_yard) (Same.refl _)) (Same.refl _)) g_int)) (t_and (t_test (F := H) (g_b0 (g_len (g_var (a := yard) (Rp.mono (Same.refl _) r_yard) (Same.refl _)) (Same.refl _)) g_int)) (t_test (F := H) (g_eq (g_idx (g_var (a := yard) (Rp.mono (Same.refl _) r_yard) (Same.refl _)) (g_neg g_int) (Same.refl _)) g_int))))
    · intro F3 H4 nx2 e05 hQ
      replace hQ := if_t hQ
      replace r_yard := Rp.mono nx2.ff r_yard
      have hF6 := nx2.fh
      first | with_reducible refine st_n ?_ | skip
      exact raise_of (c := .BadYard) hQ e05
    intro F3 H4 nx2 e05 hQ
    replace hQ := if_f hQ
    refine st_next ?_
    replace r_yard := Rp.mono nx2.ff r_yard
    have hF7 := nx2.fh
    first | with_reducible refine st_n ?_ | skip
    refine st_seq ?_
    refine s_for ?_ hF7 e05 hQ ?_
    · exact (i_list (g_var (a := yard) r_yard hF7) hF7)
    intro xs12 J13 F9 H10 nx8 e011 ok14 hQ
    replace r_yard := Rp.mono nx8.ff r_yard
    have hF15 := nx8.fh
    replace hQ := wp_bdi hQ
    refine for_S ok14 (fun (_ : Unit) σ20 H19 => ∃ (F16 : Hp) (j21 : Option V), σ20 = [some v_yard, j21] ∧ Nx (fun _ => False) F9 H10 F16 H19 ∧ Same H H19) ?hku50 ?h0u50 hQ ?turnu50 ?doneu50
    case hku50 =>
      intro st σ9 H19 hI
      obtain ⟨F16, j21, rfl, nL17, e018⟩ := hI
      exact nL17.ff.trans nL17.fh
    case h0u50 =>
      exact ⟨_, _, rfl, (Nx.refl' hF15), e011⟩
    case turnu50 =>
      intro seeds l25 st v26 σ9 H19 H27 hI e28 rx29 hQ
      obtain ⟨F16, j21, rfl, nL17, e018⟩ := hI
      have r_yard := Rp.mono nL17.ff r_yard
      have hF22 := nL17.fh
      have nA23 := nL17
      have nx30 : Nx0 F16 H19 (mix F16 H19 H27) H27 := Nx.mk' hF22 e28
      have e032 := e018.trans e28
      replace r_yard := Rp.mono nx30.ff r_yard
      replace nA23 := nA23.step0 nx30
      have hF33 := nx30.fh
      refine gn ?_
      obtain rfl : v26 = V.int seeds := rx29
      first | with_reducible refine st_n ?_ | skip
      refine s_if ?_ hF33 e032 hQ ?_ ?_
      · exact (t_test (F := H27) (g_b0 (g_var (a := seeds) rfl (Same.refl _)) g_int))
      · intro F36 H37 nx35 e038 hQ
        replace hQ := if_t hQ
        replace r_yard := Rp.mono nx35.ff r_yard
        replace nA23 := nA23.step0 nx35
        have hF39 := nx35.fh
        first | with_reducible refine st_n ?_ | skip
        exact raise_of (c := .BadYard) hQ e038
      intro F36 H37 nx35 e038 hQ
      replace hQ := if_f hQ
      refine st_next ?_
      replace r_yard := Rp.mono nx35.ff r_yard
      replace nA23 := nA23.step0 nx35
      have hF40 := nx35.fh
      exact ⟨(), ⟨_, _, rfl, nA23, e038⟩, hQ⟩
    case doneu50 =>
      intro st σ9 H19 hI hQ
      obtain ⟨F16, j21, rfl, nL17, e018⟩ := hI
      have r_yard := Rp.mono nL17.ff r_yard
      have hF22 := nL17.fh
      first | with_reducible refine st_n ?_ | skip
      refine s_if ?_ hF22 e018 hQ ?_ ?_
      · exact (t_test (F := H19) (g_b0 (g_sum (g_var (a := yard) (Rp.mono hF22 r_yard) (Same.refl _)) (Same.refl _)) g_int))
      · intro F43 H44 nx42 e045 hQ
        replace hQ := if_t hQ
        replace r_yard := Rp.mono nx42.ff r_yard
        have hF46 := nx42.fh
        first | with_reducible refine st_n ?_ | skip
        exact raise_of (c := .BadYard) hQ e045
      intro F43 H44 nx42 e045 hQ
      replace hQ := if_f hQ
      refine st_next ?_
      replace r_yard := Rp.mono nx42.ff r_yard
      have hF47 := nx42.fh
      exact hQ V.non H44 e045 rfl

abbrev N_pit_emptied : List Str := ["yard", "pit", "behind", "seeds"]
theorem sc_pit_emptied : FnScope N_pit_emptied ["yard", "pit"] (defScope s_pit_emptied) := ⟨rfl, rfl, rfl, by decide +kernel, rfl, by decide +kernel, by decide +kernel⟩
theorem ok_pit_emptied (T : Hd K mg) : ∃ fd, PySem.W.keepIn K (.ref (He.ga K "pit_emptied")) = true ∧ Binds K fd ["yard", "pit"] [] ∧ FnOk P w K mg base (L2.CX P w) 1 (He.ga K "pit_emptied") fd ["yard", "pit"] (sp2 K m_pit_emptied) := by
  obtain ⟨fd, F⟩ := T.d_pit_emptied
  refine ⟨fd, F.kp, F.bindsN fun _ _ _ _ _ _ us hl => match us, hl with | [_, _], _ => rfl, ?_⟩
  refine F.ok sc_pit_emptied (fun vs H Q E h => ?_) (fun cdv A outer s H vs Q E hr h => ?_)
  · obtain ⟨v_yard, v_pit, yard, pit, rfl, r_yard, r_pit, hQ⟩ := h
    rfl
  · obtain ⟨v_yard, v_pit, yard, pit, rfl, r_yard, r_pit, hQ⟩ := h
    obtain rfl : v_pit = V.int pit := r_pit
    have tk : Takes (cxOf (L2.CX P w) P w K mg base N_pit_emptied "pit_emptied" (defScope s_pit_emptied) (He.ga K "pit_emptied") cdv A outer s H E) (fun cls d _ H => E cls d H) := takes_of rfl rfl rfl rfl
    refine ⟨_, (by exact (pss_cons (ps_set (i := 2) sc_pit_emptied.nd rfl (Or.inl rfl) (pe_op op_cat (pe_op op_cat (pe_lc (own := [("seeds", 3)]) (g := gName 3) (tt := tYes) rfl sc_pit_emptied.nd (pi_list (pe_slice sl_list (pv 0) po_none (po_some (pe_op op_sub (pv 1) pe_int)))) (blkOk_by (N := N_pit_emptied) (sc := defScope s_pit_emptied) (by decide +kernel)) (fun _ _ _ _ _ => pg_name (i := 3) sc_pit_emptied.nd rfl (Or.inl rfl)) (fun _ _ _ _ _ => pts_nil) (fun _ _ _ _ _ => (pe_op op_add (pv 3) pe_int))) (pe_lst (pa_cons pe_int pa_nil))) (pe_slice sl_list (pv 0) (po_some (pv 1)) po_none)))
          (pss_cons (ps_while (passes_of rfl) (PW.pt (pw_and (pt_cmpR op_gt (pe_callB call_len_seq rfl T.f_len PySem.boot_len (pa_cons (pv 2) pa_nil)) pe_int (nomark _)) (pw_and1 (pt_cmpR op_eq (pe_ix ix_list (pv 2) (pe_un un_neg pe_int) (fun _ _ => rfl)) pe_int (nomark _))))) (pss_one (ps_expr (pe_bm0 PySem.F.plainAttrs_list PySem.F.slot_list_pop PySem.F.type_list_pop mt_pop (pv 2)))))
          (pss_one (ps_ret (pv 2)))))), ?_⟩
    unfold m_pit_emptied at hQ
    first | with_reducible refine st_n ?_ | skip
    refine st_seq ?_
    refine s_asgI (b := false) ?_ (Same.refl _) (Same.refl _) hQ ?_
    · exact (g_catI (g_catI (g_compI (i_list (g_cutI (g_var (a := yard) (Rp.mono (Same.refl _) r_yard) (Same.refl _)) o_no (o_some (F := H) (g_i0 (g_var (a := pit) rfl (Same.refl _)) g_int))) (Same.refl _)) (fun seeds v9 F10 H11 f12 h13 hh14 rx15 => by
        obtain rfl : v9 = V.int seeds := rx15
        exact ⟨_, fun _ q => q, rfl, t_yes, (g_sc (F' := H11) (g_i0 (g_var (a := seeds) rfl (Same.refl _)) g_int))⟩)) (g_lstK (a_cons g_int a_nil) (Nat.le_of_ble_eq_true rfl))) (g_cutI (g_var (a := yard) (Rp.mono (Same.refl _) r_yard) (Same.refl _)) (o_some (F := H) (g_var (a := pit) rfl (Same.refl _))) o_no))
    intro behind p6 F2 H3 nx1 e04 o5 nw7 hQ
    replace r_yard := Rp.mono nx1.ff r_yard
    have hF18 := nx1.fh
    first | with_reducible refine st_n ?_ | skip
    refine st_seq ?_
    replace hQ := wp_bdi hQ
    refine while_S (fun (behind : (List Int)) σ23 H22 => ∃ (F19 : Hp), σ23 = [some v_yard, some (.int pit), some (.ref p6), none] ∧ Nx (fun q => q = p6 ∨ False) F2 H3 F19 H22 ∧ Same H H22 ∧ Own K H false F19 H22 p6 behind) ?h0u40 hQ ?hcu40 ?hbu40 ?hdu40
    case h0u40 =>
      exact ⟨_, rfl, (Nx.refl' hF18), e04, o5⟩
    case hcu40 =>
      intro behind σ9 H22 hI
      obtain ⟨F19, rfl, nL20, e021, o24⟩ := hI
      have r_yard := Rp.mono nL20.ff r_yard
      have hF25 := nL20.fh
      exact ⟨e021, (t_and (t_test (F := H22) (g_b0 (g_len (g_var (a := behind) (o24.rep hF25) (Same.refl _)) (Same.refl _)) g_int)) (t_test (F := H22) (g_eq (g_idx (g_var (a := behind) (o24.rep hF25) (Same.refl _)) (g_neg g_int) (Same.refl _)) g_int)))⟩
    case hbu40 =>
      intro n9 behind σ9 H22 H28 hI e29 hQ
      obtain ⟨F19, rfl, nL20, e021, o24⟩ := hI
      have r_yard := Rp.mono nL20.ff r_yard
      have hF25 := nL20.fh
      have nA26 := nL20
      have nx30 : Nx0 F19 H22 (mix F19 H22 H28) H28 := Nx.mk' hF25 e29
      have e031 := e021.trans e29
      replace r_yard := Rp.mono nx30.ff r_yard
      replace o24 := o24.nx0 nx30
      replace nA26 := nA26.step0 nx30
      have hF32 := nx30.fh
      first | with_reducible refine st_n ?_ | skip
      refine s_pop ?ha o24 hF32 e031 hQ ?_
      case ha => exact at_var rfl
      intro behind F35 H36 nx34 e037 o2 hQ
      replace r_yard := Rp.mono nx34.ff r_yard
      replace nA26 := nA26.step nx34 (fun q z => .inl (.inl z))
      have hF38 := nx34.fh
      replace o24 := o2
      exact ⟨behind, ⟨_, rfl, nA26, e037, o24⟩, hQ⟩
    case hdu40 =>
      intro behind σ9 H22 H28 hI e29 hQ
      obtain ⟨F19, rfl, nL20, e021, o24⟩ := hI
      have r_yard := Rp.mono nL20.ff r_yard
      have hF25 := nL20.fh
      have nx30 : Nx0 F19 H22 (mix F19 H22 H28) H28 := Nx.mk' hF25 e29
      have e031 := e021.trans e29
      replace r_yard := Rp.mono nx30.ff r_yard
      replace o24 := o24.nx0 nx30
      have hF39 := nx30.fh
      first | with_reducible refine st_n ?_ | skip
      refine s_ret ?_ e031 hQ (fun a h => h)
      exact (g_var (a := behind) (o24.repI hF39) dif_le)

abbrev N_home_yard : List Str := ["seeds", "yard", "sowings", "pit"]
theorem sc_home_yard : FnScope N_home_yard ["seeds"] (defScope s_home_yard) := ⟨rfl, rfl, rfl, by decide +kernel, rfl, by decide +kernel, by decide +kernel⟩
theorem ok_home_yard (T : Hd K mg) : ∃ fd, PySem.W.keepIn K (.ref (He.ga K "home_yard")) = true ∧ Binds K fd ["seeds"] [] ∧ FnOk P w K mg base (L2.CX P w) 1 (He.ga K "home_yard") fd ["seeds"] (sp1 K m_home_yard) := by
  obtain ⟨fd, F⟩ := T.d_home_yard
  obtain ⟨t_SEEDS_OF_A_YARD, c_SEEDS_OF_A_YARD⟩ := T.c_SEEDS_OF_A_YARD
  refine ⟨fd, F.kp, F.bindsN fun _ _ _ _ _ _ us hl => match us, hl with | [_], _ => rfl, ?_⟩
  refine F.ok sc_home_yard (fun vs H Q E h => ?_) (fun cdv A outer s H vs Q E hr h => ?_)
  · obtain ⟨v_seeds, seeds, rfl, r_seeds, hQ⟩ := h
    rfl
  · obtain ⟨v_seeds, seeds, rfl, r_seeds, hQ⟩ := h
    obtain rfl : v_seeds = V.int seeds := r_seeds
    have tk : Takes (cxOf (L2.CX P w) P w K mg base N_home_yard "home_yard" (defScope s_home_yard) (He.ga K "home_yard") cdv A outer s H E) (fun cls d _ H => E cls d H) := takes_of rfl rfl rfl rfl
    refine ⟨_, (by exact (pss_cons (ps_if (PW.pt (pw_or (pt_cmpR op_lt (pv 0) pe_int (nomark _)) (pw_or1 (pt_cmpR op_gt (pv 0) (pe_glob (v := .int (10000)) rfl c_SEEDS_OF_A_YARD ⟨_, rfl⟩) (nomark _))))) (pss_one (ps_raise rfl tk (pmk_own PySem.F.excBase_ValueError T.x_BadCount.1 T.g_BadCount T.x_BadCount.2.1 (raises_own T.x_BadCount.2.2.1 T.x_BadCount.2.2.2) (by exact rfl)))) pss_nil)
          (pss_cons (ps_set (i := 1) sc_home_yard.nd rfl (Or.inl rfl) (pe_lst pa_nil))
          (pss_cons (ps_set (i := 2) sc_home_yard.nd rfl (Or.inl rfl) (pv 0))
          (pss_cons (ps_while (passes_of rfl) (pt_cmpR op_gt (pv 2) pe_int (nomark _)) (pss_cons (ps_set (i := 3) sc_home_yard.nd rfl (Or.inl rfl) (pe_op op_add (pe_callB call_len_seq rfl T.f_len PySem.boot_len (pa_cons (pv 1) pa_nil)) pe_int))
          (pss_cons (ps_expr (pe_bm PySem.F.plainAttrs_list PySem.F.slot_list_append PySem.F.type_list_append mt_append (pv 1) (pa_cons (pe_op op_mod (pe_op op_mulV (pv 3) (pv 2)) (pe_op op_add (pv 3) pe_int)) pa_nil)))
          (pss_one (ps_set (i := 2) sc_home_yard.nd rfl (Or.inl rfl) (pe_op op_fdivW (pe_op op_mulV (pv 3) (pv 2)) (pe_op op_add (pv 3) pe_int)))))))
          (pss_one (ps_ret (pv 1)))))))), ?_⟩
    unfold m_home_yard at hQ
    first | with_reducible refine st_n ?_ | skip
    refine st_seq ?_
    refine s_if ?_ (Same.refl _) (Same.refl _) hQ ?_ ?_
    · exact (t_orP (t_test (F := H) (g_b0 (g_var (a := seeds) rfl (Same.refl _)) g_int)) (t_test (F := H) (g_b0 (g_var (a := seeds) rfl (Same.refl _)) g_int)))
    · intro F2 H3 nx1 e04 hQ
      replace hQ := if_t hQ
      have hF5 := nx1.fh
      first | with_reducible refine st_n ?_ | skip
      exact raise_of (c := .BadCount) hQ e04
    intro F2 H3 nx1 e04 hQ
    replace hQ := if_f hQ
    refine st_next ?_
    have hF6 := nx1.fh
    first | with_reducible refine st_n ?_ | skip
    refine st_seq ?_
    refine s_asgI (b := false) ?_ hF6 e04 hQ ?_
    · exact (g_lstK a_nil (Nat.le_of_ble_eq_true rfl))
    intro yard p12 F8 H9 nx7 e010 o11 nw13 hQ
    have hF14 := nx7.fh
    first | with_reducible refine st_n ?_ | skip
    refine st_seq ?_
    refine s_asg ?_ hF14 e010 hQ ?_
    · exact (g_var (a := seeds) rfl hF14)
    intro sowings v19 F16 H17 nx15 e018 r20 hQ
    replace o11 := o11.nx0 nx15
    have hF21 := nx15.fh
    obtain rfl : v19 = V.int sowings := r20
    first | with_reducible refine st_n ?_ | skip
    refine st_seq ?_
    replace hQ := wp_bdi hQ
    refine while_S (fun (st : Int × (List Int)) σ26 H25 => match st with | (sowings, yard) => ∃ (F22 : Hp) (j28 : Option V), σ26 = [some (.int seeds), some (.ref p12), some (.int sowings), j28] ∧ Nx (fun q => q = p12 ∨ False) F16 H17 F22 H25 ∧ Same H H25 ∧ Own K H false F22 H25 p12 yard) ?h0u60 hQ ?hcu60 ?hbu60 ?hdu60
    case h0u60 =>
      exact ⟨_, _, rfl, (Nx.refl' hF21), e018, o11⟩
    case hcu60 =>
      intro st σ9 H25 hI
      obtain ⟨sowings, yard⟩ := st
      obtain ⟨F22, j28, rfl, nL23, e024, o27⟩ := hI
      have hF29 := nL23.fh
      exact ⟨e024, (t_test (F := H25) (g_b0 (g_var (a := sowings) rfl (Same.refl _)) g_int))⟩
    case hbu60 =>
      intro n9 st σ9 H25 H31 hI e32 hQ
      obtain ⟨sowings, yard⟩ := st
      obtain ⟨F22, j28, rfl, nL23, e024, o27⟩ := hI
      have hF29 := nL23.fh
      have nA30 := nL23
      have nx33 : Nx0 F22 H25 (mix F22 H25 H31) H31 := Nx.mk' hF29 e32
      have e034 := e024.trans e32
      replace o27 := o27.nx0 nx33
      replace nA30 := nA30.step0 nx33
      have hF35 := nx33.fh
      first | with_reducible refine st_n ?_ | skip
      refine st_seq ?_
      refine s_asg ?_ hF35 e034 hQ ?_
      · exact (g_sc (F' := H31) (g_i0 (g_len (g_var (a := yard) (o27.rep hF35) (Same.refl _)) (Same.refl _)) g_int))
      intro pit v41 F38 H39 nx37 e040 r42 hQ
      replace o27 := o27.nx0 nx37
      replace nA30 := nA30.step0 nx37
      have hF43 := nx37.fh
      obtain rfl : v41 = V.int pit := r42
      first | with_reducible refine st_n ?_ | skip
      refine st_seq ?_
      refine s_app (m := R.bd (mulR pit sowings) fun (t48 : Int) => modR t48 (pit + (1 : Int))) ?ha o27 ?he hF43 e040 hQ ?_
      case ha => exact at_var rfl
      case he => exact (g_sc (F' := H39) (g_mod (g_mul (g_var (a := pit) rfl (Same.refl _)) (g_var (a := sowings) rfl (Same.refl _))) (g_i0 (g_var (a := pit) rfl (Same.refl _)) g_int)))
      intro yard F45 H46 nx44 e047 o2 hQ
      replace nA30 := nA30.step nx44 (fun q z => .inl (.inl z))
      have hF50 := nx44.fh
      replace o27 := o2
      first | with_reducible refine st_n ?_ | skip
      refine s_asg ?_ hF50 e047 hQ ?_
      · exact (g_sc (F' := H46) (g_div (g_mul (g_var (a := pit) rfl (Same.refl _)) (g_var (a := sowings) rfl (Same.refl _))) (g_i0 (g_var (a := pit) rfl (Same.refl _)) g_int)))
      intro sowings v56 F52 H53 nx51 e054 r57 hQ
      replace o27 := o27.nx0 nx51
      replace nA30 := nA30.step0 nx51
      have hF58 := nx51.fh
      obtain rfl : v56 = V.int sowings := r57
      exact ⟨(sowings, yard), ⟨_, _, rfl, nA30, e054, o27⟩, hQ⟩
    case hdu60 =>
      intro st σ9 H25 H31 hI e32 hQ
      obtain ⟨sowings, yard⟩ := st
      obtain ⟨F22, j28, rfl, nL23, e024, o27⟩ := hI
      have hF29 := nL23.fh
      have nx33 : Nx0 F22 H25 (mix F22 H25 H31) H31 := Nx.mk' hF29 e32
      have e034 := e024.trans e32
      replace o27 := o27.nx0 nx33
      have hF59 := nx33.fh
      first | with_reducible refine st_n ?_ | skip
      refine s_ret ?_ e034 hQ (fun a h => h)
      exact (g_var (a := yard) (o27.repI hF59) dif_le)

abbrev N_first_full : List Str := ["yard", "place", "seeds"]
theorem sc_first_full : FnScope N_first_full ["yard"] (defScope s_first_full) := ⟨rfl, rfl, rfl, by decide +kernel, rfl, by decide +kernel, by decide +kernel⟩
theorem ok_first_full (T : Hd K mg) : ∃ fd, PySem.W.keepIn K (.ref (He.ga K "first_full")) = true ∧ Binds K fd ["yard"] [] ∧ FnOk P w K mg base (L2.CX P w) 1 (He.ga K "first_full") fd ["yard"] (sp1 K m_first_full) := by
  obtain ⟨fd, F⟩ := T.d_first_full
  refine ⟨fd, F.kp, F.bindsN fun _ _ _ _ _ _ us hl => match us, hl with | [_], _ => rfl, ?_⟩
  refine F.ok sc_first_full (fun vs H Q E h => ?_) (fun cdv A outer s H vs Q E hr h => ?_)
  · obtain ⟨v_yard, yard, rfl, r_yard, hQ⟩ := h
    rfl
  · obtain ⟨v_yard, yard, rfl, r_yard, hQ⟩ := h
    have tk : Takes (cxOf (L2.CX P w) P w K mg base N_first_full "first_full" (defScope s_first_full) (He.ga K "first_full") cdv A outer s H E) (fun cls d _ H => E cls d H) := takes_of rfl rfl rfl rfl
    refine ⟨_, (by exact (pss_cons (ps_for (passes_of rfl) rfl (pi_enum rfl T.f_enumerate (pa_cons (pv 0) pa_nil)) (pg_tup rfl (pgs_cons (pg_name (i := 1) sc_first_full.nd rfl (Or.inl rfl)) (pgs_cons (pg_name (i := 2) sc_first_full.nd rfl (Or.inl rfl)) pgs_nil))) (pss_one (ps_if (pt_cmpR op_eq (pv 2) (pe_op op_add (pv 1) pe_int) (nomark _)) (pss_one (ps_ret (pe_op op_add (pv 1) pe_int))) pss_nil)))
          (pss_one (ps_ret pe_non)))), ?_⟩
    unfold m_first_full at hQ
    first | with_reducible refine st_n ?_ | skip
    refine st_seq ?_
    refine s_for ?_ (Same.refl _) (Same.refl _) hQ ?_
    · exact (i_enum (g_var (a := yard) r_yard (Same.refl _)) (Same.refl _))
    intro xs5 J6 F2 H3 nx1 e04 ok7 hQ
    replace r_yard := Rp.mono nx1.ff r_yard
    have hF8 := nx1.fh
    replace hQ := wp_bdi hQ
    refine for_Rd ok7 (fun (_ : Unit) σ13 H12 => ∃ (F9 : Hp) (j14 : Option V) (j15 : Option V), σ13 = [some v_yard, j14, j15] ∧ Nx (fun _ => False) F2 H3 F9 H12 ∧ Same H H12) ?hku41 ?h0u41 hQ ?doneu41 ?turnu41
    case hku41 =>
      intro st σ9 H12 hI
      obtain ⟨F9, j14, j15, rfl, nL10, e011⟩ := hI
      exact nL10.ff.trans nL10.fh
    case h0u41 =>
      exact ⟨_, _, _, rfl, (Nx.refl' hF8), e04⟩
    case turnu41 =>
      intro p9 l19 st v20 σ9 H12 H21 hI e22 rx23 hd32 hQ
      obtain ⟨place, seeds⟩ := p9
      obtain ⟨F9, j14, j15, rfl, nL10, e011⟩ := hI
      have r_yard := Rp.mono nL10.ff r_yard
      have hF16 := nL10.fh
      have nA17 := nL10
      have nx24 : Nx0 F9 H12 (mix F9 H12 H21) H21 := Nx.mk' hF16 e22
      have e026 := e011.trans e22
      replace r_yard := Rp.mono nx24.ff r_yard
      replace nA17 := nA17.step0 nx24
      have hF27 := nx24.fh
      refine gp (Rp.mono (mix_ff nL10.ff) rx23) hF27 ?_
      intro y28 y29 r30 r31
      obtain rfl : y28 = V.int place := r30
      obtain rfl : y29 = V.int seeds := r31
      first | with_reducible refine st_n ?_ | skip
      refine s_if ?_ hF27 e026 hQ ?_ ?_
      · exact (t_test (F := H21) (g_eq (g_var (a := seeds) rfl (Same.refl _)) (g_i0 (g_var (a := place) rfl (Same.refl _)) g_int)))
      · intro F34 H35 nx33 e036 hQ
        replace hQ := if_t hQ
        replace r_yard := Rp.mono nx33.ff r_yard
        replace nA17 := nA17.step0 nx33
        have hF37 := nx33.fh
        first | with_reducible refine st_n ?_ | skip
        refine s_ret ?_ e036 hQ (fun a h => h)
        exact (g_some (g_sc (F' := H35) (g_i0 (g_var (a := place) rfl (Same.refl _)) g_int)))
      intro F34 H35 nx33 e036 hQ
      replace hQ := if_f hQ
      refine st_next ?_
      replace r_yard := Rp.mono nx33.ff r_yard
      replace nA17 := nA17.step0 nx33
      have hF38 := nx33.fh
      exact ⟨(), ⟨_, _, _, rfl, nA17, e036⟩, hQ⟩
    case doneu41 =>
      intro st σ9 H12 hI hQ
      replace hQ := flk_go hQ
      obtain ⟨F9, j14, j15, rfl, nL10, e011⟩ := hI
      have r_yard := Rp.mono nL10.ff r_yard
      have hF16 := nL10.fh
      first | with_reducible refine st_n ?_ | skip
      refine s_ret ?_ e011 hQ (fun a h => h)
      exact (g_im (Same.refl _) g_non)

abbrev N_homeward_plan : List Str := ["yard", "plan", "left"]
theorem sc_homeward_plan : FnScope N_homeward_plan ["yard"] (defScope s_homeward_plan) := ⟨rfl, rfl, rfl, by decide +kernel, rfl, by decide +kernel, by decide +kernel⟩
theorem ok_homeward_plan (T : Hd K mg) : ∃ fd, PySem.W.keepIn K (.ref (He.ga K "homeward_plan")) = true ∧ Binds K fd ["yard"] [] ∧ FnOk P w K mg base (L2.CX P w) 2 (He.ga K "homeward_plan") fd ["yard"] (sp1 K m_homeward_plan) := by
  obtain ⟨fd, F⟩ := T.d_homeward_plan
  obtain ⟨fd_first_full, kp_first_full, b_first_full, G_first_full⟩ := ok_first_full (P := P) (w := w) (base := base) T
  obtain ⟨fd_pit_emptied, kp_pit_emptied, b_pit_emptied, G_pit_emptied⟩ := ok_pit_emptied (P := P) (w := w) (base := base) T
  refine ⟨fd, F.kp, F.bindsN fun _ _ _ _ _ _ us hl => match us, hl with | [_], _ => rfl, ?_⟩
  refine F.ok sc_homeward_plan (fun vs H Q E h => ?_) (fun cdv A outer s H vs Q E hr h => ?_)
  · obtain ⟨v_yard, yard, rfl, r_yard, hQ⟩ := h
    rfl
  · obtain ⟨v_yard, yard, rfl, r_yard, hQ⟩ := h
    have tk : Takes (cxOf (L2.CX P w) P w K mg base N_homeward_plan "homeward_plan" (defScope s_homeward_plan) (He.ga K "homeward_plan") cdv A outer s H E) (fun cls d _ H => E cls d H) := takes_of rfl rfl rfl rfl
    refine ⟨_, (by exact (pss_cons (ps_set (i := 1) sc_homeward_plan.nd rfl (Or.inl rfl) (pe_lst pa_nil))
          (pss_cons (ps_set (i := 2) sc_homeward_plan.nd rfl (Or.inl rfl) (pe_callTy call_list_of rfl T.f_list (by decide +kernel) (pa_cons (pv 0) pa_nil)))
          (pss_cons (ps_while (passes_of rfl) (pt_cmpR op_gt (pe_callB call_len_seq rfl T.f_len PySem.boot_len (pa_cons (pv 2) pa_nil)) pe_int (nomark _)) (pss_cons (ps_expr (pe_bm PySem.F.plainAttrs_list PySem.F.slot_list_append PySem.F.type_list_append mt_append (pv 1) (pa_cons (pe_callS G_first_full (hr.mono (by decide)) rfl T.g_first_full kp_first_full b_first_full (fun σ => passAt tk σ) (pa_cons (pv 2) pa_nil)) pa_nil)))
          (pss_one (ps_set (i := 2) sc_homeward_plan.nd rfl (Or.inl rfl) (pe_callS G_pit_emptied (hr.mono (by decide)) rfl T.g_pit_emptied kp_pit_emptied b_pit_emptied (fun σ => passAt tk σ) (pa_cons (pv 2) (pa_cons (pe_ix ix_list (pv 1) (pe_un un_neg pe_int) (fun _ _ => rfl)) pa_nil)))))))
          (pss_one (ps_ret (pv 1))))))), ?_⟩
    unfold m_homeward_plan at hQ
    first | with_reducible refine st_n ?_ | skip
    refine st_seq ?_
    refine s_asgI (b := false) ?_ (Same.refl _) (Same.refl _) hQ ?_
    · exact (g_lstK a_nil (Nat.le_of_ble_eq_true rfl))
    intro plan p6 F2 H3 nx1 e04 o5 nw7 hQ
    replace r_yard := Rp.mono nx1.ff r_yard
    have hF8 := nx1.fh
    first | with_reducible refine st_n ?_ | skip
    refine st_seq ?_
    refine s_asg ?_ hF8 e04 hQ ?_
    · exact (g_listI (g_var (a := yard) (Rp.mono hF8 r_yard) (Same.refl _)))
    intro left v13 F10 H11 nx9 e012 r14 hQ
    replace r_yard := Rp.mono nx9.ff r_yard
    replace o5 := o5.nx0 nx9
    have hF15 := nx9.fh
    first | with_reducible refine st_n ?_ | skip
    refine st_seq ?_
    replace hQ := wp_bdi hQ
    refine while_S (fun (st : (List Int) × (List (Option Int))) σ20 H19 => match st with | (left, plan) => ∃ (F16 : Hp) (v21 : V), σ20 = [some v_yard, some (.ref p6), some v21] ∧ Nx (fun q => q = p6 ∨ False) F10 H11 F16 H19 ∧ Same H H19 ∧ Rp.rep K F16 v21 left ∧ Own K H false F16 H19 p6 plan) ?h0u47 hQ ?hcu47 ?hbu47 ?hdu47
    case h0u47 =>
      exact ⟨_, _, rfl, (Nx.refl' hF15), e012, r14, o5⟩
    case hcu47 =>
      intro st σ9 H19 hI
      obtain ⟨left, plan⟩ := st
      obtain ⟨F16, v21, rfl, nL17, e018, r22, o23⟩ := hI
      have r_yard := Rp.mono nL17.ff r_yard
      have hF24 := nL17.fh
      exact ⟨e018, (t_test (F := H19) (g_b0 (g_len (g_var (a := left) (Rp.mono hF24 r22) (Same.refl _)) (Same.refl _)) g_int))⟩
    case hbu47 =>
      intro n9 st σ9 H19 H26 hI e27 hQ
      obtain ⟨left, plan⟩ := st
      obtain ⟨F16, v21, rfl, nL17, e018, r22, o23⟩ := hI
      have r_yard := Rp.mono nL17.ff r_yard
      have hF24 := nL17.fh
      have nA25 := nL17
      have nx28 : Nx0 F16 H19 (mix F16 H19 H26) H26 := Nx.mk' hF24 e27
      have e029 := e018.trans e27
      replace r_yard := Rp.mono nx28.ff r_yard
      replace o23 := o23.nx0 nx28
      replace r22 := Rp.mono nx28.ff r22
      replace nA25 := nA25.step0 nx28
      have hF30 := nx28.fh
      first | with_reducible refine st_n ?_ | skip
      refine st_seq ?_
      refine s_app (m := m_first_full left) ?ha o23 ?he hF30 e029 hQ ?_
      case ha => exact at_var rfl
      case he => exact (g_im (Same.refl _) (g_call1 (ma := .ok left) (g_var (a := left) (Rp.mono hF30 r22) (Same.refl _))))
      intro plan F33 H34 nx32 e035 o2 hQ
      replace r_yard := Rp.mono nx32.ff r_yard
      replace r22 := Rp.mono nx32.ff r22
      replace nA25 := nA25.step nx32 (fun q z => .inl (.inl z))
      have hF37 := nx32.fh
      replace o23 := o2
      first | with_reducible refine st_n ?_ | skip
      refine s_asg ?_ hF37 e035 hQ ?_
      · exact (g_call2 (ma := .ok left) (mb := R.bd (idx plan (-(1 : Int))) unO) (g_var (a := left) (Rp.mono hF37 r22) (Same.refl _)) (g_un (g_idx (g_var (a := plan) (o23.rep hF37) (Same.refl _)) (g_neg g_int) (Same.refl _))))
      intro left v43 F39 H40 nx38 e041 r44 hQ
      replace r_yard := Rp.mono nx38.ff r_yard
      replace o23 := o23.nx0 nx38
      replace nA25 := nA25.step0 nx38
      have hF45 := nx38.fh
      exact ⟨(left, plan), ⟨_, _, rfl, nA25, e041, r44, o23⟩, hQ⟩
    case hdu47 =>
      intro st σ9 H19 H26 hI e27 hQ
      obtain ⟨left, plan⟩ := st
      obtain ⟨F16, v21, rfl, nL17, e018, r22, o23⟩ := hI
      have r_yard := Rp.mono nL17.ff r_yard
      have hF24 := nL17.fh
      have nx28 : Nx0 F16 H19 (mix F16 H19 H26) H26 := Nx.mk' hF24 e27
      have e029 := e018.trans e27
      replace r_yard := Rp.mono nx28.ff r_yard
      replace o23 := o23.nx0 nx28
      replace r22 := Rp.mono nx28.ff r22
      have hF46 := nx28.fh
      first | with_reducible refine st_n ?_ | skip
      refine s_ret ?_ e029 hQ (fun a h => h)
      exact (g_var (a := plan) (o23.repI hF46) dif_le)

abbrev N_brought_home : List Str := ["yard", "due", "place"]
theorem sc_brought_home : FnScope N_brought_home ["yard"] (defScope s_brought_home) := ⟨rfl, rfl, rfl, by decide +kernel, rfl, by decide +kernel, by decide +kernel⟩
theorem ok_brought_home (T : Hd K mg) : ∃ fd, PySem.W.keepIn K (.ref (He.ga K "brought_home")) = true ∧ Binds K fd ["yard"] [] ∧ FnOk P w K mg base (L2.CX P w) 3 (He.ga K "brought_home") fd ["yard"] (sp1 K m_brought_home) := by
  obtain ⟨fd, F⟩ := T.d_brought_home
  obtain ⟨fd_ask_yard, kp_ask_yard, b_ask_yard, G_ask_yard⟩ := ok_ask_yard (P := P) (w := w) (base := base) T
  obtain ⟨fd_home_yard, kp_home_yard, b_home_yard, G_home_yard⟩ := ok_home_yard (P := P) (w := w) (base := base) T
  obtain ⟨fd_homeward_plan, kp_homeward_plan, b_homeward_plan, G_homeward_plan⟩ := ok_homeward_plan (P := P) (w := w) (base := base) T
  refine ⟨fd, F.kp, F.bindsN fun _ _ _ _ _ _ us hl => match us, hl with | [_], _ => rfl, ?_⟩
  refine F.ok sc_brought_home (fun vs H Q E h => ?_) (fun cdv A outer s H vs Q E hr h => ?_)
  · obtain ⟨v_yard, yard, rfl, r_yard, hQ⟩ := h
    rfl
  · obtain ⟨v_yard, yard, rfl, r_yard, hQ⟩ := h
    have tk : Takes (cxOf (L2.CX P w) P w K mg base N_brought_home "brought_home" (defScope s_brought_home) (He.ga K "brought_home") cdv A outer s H E) (fun cls d _ H => E cls d H) := takes_of rfl rfl rfl rfl
    refine ⟨_, (by exact (pss_cons (ps_expr (pe_callS G_ask_yard (hr.mono (by decide)) rfl T.g_ask_yard kp_ask_yard b_ask_yard (fun σ => passAt tk σ) (pa_cons (pv 0) pa_nil)))
          (pss_cons (ps_set (i := 1) sc_brought_home.nd rfl (Or.inl rfl) (pe_callS G_home_yard (hr.mono (by decide)) rfl T.g_home_yard kp_home_yard b_home_yard (fun σ => passAt tk σ) (pa_cons (pe_callB (cr_sum rfl) rfl T.f_sum (by decide +kernel) (pa_cons (pv 0) pa_nil)) pa_nil)))
          (pss_cons (ps_if (pt_cmpR (op_eqP hr.units) (pv 0) (pv 1) (nomark _)) (pss_one (ps_ret (pe_tup (pa_cons pe_str (pa_cons (pe_callS G_homeward_plan (hr.mono (by decide)) rfl T.g_homeward_plan kp_homeward_plan b_homeward_plan (fun σ => passAt tk σ) (pa_cons (pv 0) pa_nil)) pa_nil))))) pss_nil)
          (pss_cons (ps_set (i := 2) sc_brought_home.nd rfl (Or.inl rfl) pe_int)
          (pss_cons (ps_while (passes_of rfl) (PW.pt (pw_and (pt_cmpR op_lt (pv 2) (pe_callB call_len_seq rfl T.f_len PySem.boot_len (pa_cons (pv 0) pa_nil)) (nomark _)) (pw_and (pt_cmpR op_lt (pv 2) (pe_callB call_len_seq rfl T.f_len PySem.boot_len (pa_cons (pv 1) pa_nil)) (nomark _)) (pw_and1 (pt_cmpR op_eq (pe_ix ix_list (pv 0) (pv 2) (fun _ _ => rfl)) (pe_ix ix_list (pv 1) (pv 2) (fun _ _ => rfl)) (nomark _)))))) (pss_one (ps_set (i := 2) sc_brought_home.nd rfl (Or.inl rfl) (pe_op op_add (pv 2) pe_int))))
          (pss_cons (ps_if (pt_cmpR op_lt (pv 2) (pe_callB call_len_seq rfl T.f_len PySem.boot_len (pa_cons (pv 1) pa_nil)) (nomark _)) (pss_one (ps_ret (pe_tup (pa_cons pe_str (pa_cons (pe_op op_add (pv 2) pe_int) (pa_cons (pe_ix ix_list (pv 1) (pv 2) (fun _ _ => rfl)) pa_nil)))))) pss_nil)
          (pss_one (ps_ret (pe_tup (pa_cons pe_str (pa_cons (pe_op op_add (pv 2) pe_int) (pa_cons pe_int pa_nil))))))))))))), ?_⟩
    unfold m_brought_home at hQ
    first | with_reducible refine st_n ?_ | skip
    refine st_seq ?_
    refine s_drop ?_ (Same.refl _) (Same.refl _) hQ ?_
    · exact (g_im (Same.refl _) (g_call1 (ma := .ok yard) (g_var (a := yard) (Rp.mono (Same.refl _) r_yard) (Same.refl _))))
    intro _ F2 H3 nx1 e04 hQ
    replace r_yard := Rp.mono nx1.ff r_yard
    have hF5 := nx1.fh
    first | with_reducible refine st_n ?_ | skip
    refine st_seq ?_
    refine s_asg ?_ hF5 e04 hQ ?_
    · exact (g_call1 (ma := .ok yard.sum) (g_sum (g_var (a := yard) (Rp.mono hF5 r_yard) (Same.refl _)) (Same.refl _)))
    intro due v10 F7 H8 nx6 e09 r11 hQ
    replace r_yard := Rp.mono nx6.ff r_yard
    have hF12 := nx6.fh
    first | with_reducible refine st_n ?_ | skip
    refine st_seq ?_
    refine s_if ?_ hF12 e09 hQ ?_ ?_
    · exact (t_test (F := H8) (g_eqD (g_var (a := yard) (Rp.mono hF12 r_yard) (Same.refl _)) (g_var (a := due) (Rp.mono hF12 r11) (Same.refl _)) (Same.refl _)))
    · intro F14 H15 nx13 e016 hQ
      replace hQ := if_t hQ
      replace r_yard := Rp.mono nx13.ff r_yard
      replace r11 := Rp.mono nx13.ff r11
      have hF17 := nx13.fh
      first | with_reducible refine st_n ?_ | skip
      refine s_ret ?_ e016 hQ (fun a h => h)
      exact (g_dy (g_pair (g_sc (F' := H15) g_str) (g_call1 (ma := .ok yard) (g_var (a := yard) (Rp.mono hF17 r_yard) (Same.refl _)))))
    intro F14 H15 nx13 e016 hQ
    replace hQ := if_f hQ
    refine st_next ?_
    replace r_yard := Rp.mono nx13.ff r_yard
    replace r11 := Rp.mono nx13.ff r11
    have hF18 := nx13.fh
    first | with_reducible refine st_n ?_ | skip
    refine st_seq ?_
    refine s_asg ?_ hF18 e016 hQ ?_
    · exact (g_sc (F' := H15) g_int)
    intro place v25 F22 H23 nx21 e024 r26 hQ
    replace r_yard := Rp.mono nx21.ff r_yard
    replace r11 := Rp.mono nx21.ff r11
    have hF27 := nx21.fh
    obtain rfl : v25 = V.int place := r26
    first | with_reducible refine st_n ?_ | skip
    refine st_seq ?_
    replace hQ := wp_bdi hQ
    refine while_S (fun (place : Int) σ32 H31 => ∃ (F28 : Hp), σ32 = [some v_yard, some v10, some (.int place)] ∧ Nx (fun _ => False) F22 H23 F28 H31 ∧ Same H H31) ?h0u60 hQ ?hcu60 ?hbu60 ?hdu60
    case h0u60 =>
      exact ⟨_, rfl, (Nx.refl' hF27), e024⟩
    case hcu60 =>
      intro place σ9 H31 hI
      obtain ⟨F28, rfl, nL29, e030⟩ := hI
      have r_yard := Rp.mono nL29.ff r_yard
      have r11 := Rp.mono nL29.ff r11
      have hF33 := nL29.fh
      exact ⟨e030, (t_and (t_test (F := H31) (g_b0 (g_var (a := place) rfl (Same.refl _)) (g_len (g_var (a := yard) (Rp.mono hF33 r_yard) (Same.refl _)) (Same.refl _)))) (t_and (t_test (F := H31) (g_b0 (g_var (a := place) rfl (Same.refl _)) (g_len (g_var (a := due) (Rp.mono hF33 r11) (Same.refl _)) (Same.refl _)))) (t_test (F := H31) (g_eq (g_idx (g_var (a := yard) (Rp.mono hF33 r_yard) (Same.refl _)) (g_var (a := place) rfl (Same.refl _)) (Same.refl _)) (g_idx (g_var (a := due) (Rp.mono hF33 r11) (Same.refl _)) (g_var (a := place) rfl (Same.refl _)) (Same.refl _))))))⟩
    case hbu60 =>
      intro n9 place σ9 H31 H37 hI e38 hQ
      obtain ⟨F28, rfl, nL29, e030⟩ := hI
      have r_yard := Rp.mono nL29.ff r_yard
      have r11 := Rp.mono nL29.ff r11
      have hF33 := nL29.fh
      have nA34 := nL29
      have nx39 : Nx0 F28 H31 (mix F28 H31 H37) H37 := Nx.mk' hF33 e38
      have e040 := e030.trans e38
      replace r_yard := Rp.mono nx39.ff r_yard
      replace r11 := Rp.mono nx39.ff r11
      replace nA34 := nA34.step0 nx39
      have hF41 := nx39.fh
      first | with_reducible refine st_n ?_ | skip
      refine s_asg ?_ hF41 e040 hQ ?_
      · exact (g_sc (F' := H37) (g_i0 (g_var (a := place) rfl (Same.refl _)) g_int))
      intro place v47 F44 H45 nx43 e046 r48 hQ
      replace r_yard := Rp.mono nx43.ff r_yard
      replace r11 := Rp.mono nx43.ff r11
      replace nA34 := nA34.step0 nx43
      have hF49 := nx43.fh
      obtain rfl : v47 = V.int place := r48
      exact ⟨place, ⟨_, rfl, nA34, e046⟩, hQ⟩
    case hdu60 =>
      intro place σ9 H31 H37 hI e38 hQ
      obtain ⟨F28, rfl, nL29, e030⟩ := hI
      have r_yard := Rp.mono nL29.ff r_yard
      have r11 := Rp.mono nL29.ff r11
      have hF33 := nL29.fh
      have nx39 : Nx0 F28 H31 (mix F28 H31 H37) H37 := Nx.mk' hF33 e38
      have e040 := e030.trans e38
      replace r_yard := Rp.mono nx39.ff r_yard
      replace r11 := Rp.mono nx39.ff r11
      have hF50 := nx39.fh
      first | with_reducible refine st_n ?_ | skip
      refine st_seq ?_
      refine s_if ?_ hF50 e040 hQ ?_ ?_
      · exact (t_test (F := H37) (g_b0 (g_var (a := place) rfl (Same.refl _)) (g_len (g_var (a := due) (Rp.mono hF50 r11) (Same.refl _)) (Same.refl _))))
      · intro F52 H53 nx51 e054 hQ
        replace hQ := if_t hQ
        replace r_yard := Rp.mono nx51.ff r_yard
        replace r11 := Rp.mono nx51.ff r11
        have hF55 := nx51.fh
        first | with_reducible refine st_n ?_ | skip
        refine s_ret ?_ e054 hQ (fun a h => h)
        exact (g_dy (g_tri (g_sc (F' := H53) g_str) (g_sc (F' := H53) (g_i0 (g_var (a := place) rfl (Same.refl _)) g_int)) (g_sc (F' := H53) (g_idx (g_var (a := due) (Rp.mono hF55 r11) (Same.refl _)) (g_var (a := place) rfl (Same.refl _)) (Same.refl _)))))
      intro F52 H53 nx51 e054 hQ
      replace hQ := if_f hQ
      refine st_next ?_
      replace r_yard := Rp.mono nx51.ff r_yard
      replace r11 := Rp.mono nx51.ff r11
      have hF56 := nx51.fh
      first | with_reducible refine st_n ?_ | skip
      refine s_ret ?_ e054 hQ (fun a h => h)
      exact (g_dy (g_tri (g_sc (F' := H53) g_str) (g_sc (F' := H53) (g_i0 (g_var (a := place) rfl (Same.refl _)) g_int)) (g_sc (F' := H53) g_int)))

abbrev N__law_whole : List Str := ["found"]
theorem sc__law_whole : FnScope N__law_whole ["found"] (defScope s__law_whole) := ⟨rfl, rfl, rfl, by decide +kernel, rfl, by decide +kernel, by decide +kernel⟩
theorem ok__law_whole (T : Hd K mg) : ∃ fd, PySem.W.keepIn K (.ref (He.ga K "_law_whole")) = true ∧ Binds K fd ["found"] [] ∧ FnOk P w K mg base (L2.CX P w) 1 (He.ga K "_law_whole") fd ["found"] (sp1 K m__law_whole) := by
  obtain ⟨fd, F⟩ := T.d__law_whole
  refine ⟨fd, F.kp, F.bindsN fun _ _ _ _ _ _ us hl => match us, hl with | [_], _ => rfl, ?_⟩
  refine F.ok sc__law_whole (fun vs H Q E h => ?_) (fun cdv A outer s H vs Q E hr h => ?_)
  · obtain ⟨v_found, found, rfl, r_found, hQ⟩ := h
    rfl
  · obtain ⟨v_found, found, rfl, r_found, hQ⟩ := h
    have tk : Takes (cxOf (L2.CX P w) P w K mg base N__law_whole "_law_whole" (defScope s__law_whole) (He.ga K "_law_whole") cdv A outer s H E) (fun cls d _ H => E cls d H) := takes_of rfl rfl rfl rfl
    refine ⟨_, (by exact (pss_one (ps_ret (pe_and (pe_callB call_isi rfl T.f_isinstance (by decide +kernel) (pa_cons (pv 0) (pa_cons (pe_bltn (v := .ty "int") rfl T.f_int (by rfl) rfl) pa_nil))) (pe_one (pe_not (pe_callB call_isi rfl T.f_isinstance (by decide +kernel) (pa_cons (pv 0) (pa_cons (pe_bltn (v := .ty "bool") rfl T.f_bool (by rfl) rfl) pa_nil))))))))), ?_⟩
    unfold m__law_whole at hQ
    first | with_reducible refine st_n ?_ | skip
    refine s_ret ?_ (Same.refl _) hQ (fun a h => h)
    exact (g_sc (F' := H) (g_andVP (g_isiDy (k := 0) (n := "int") (g_var (a := found) (Rp.mono (Same.refl _) r_found) (Same.refl _)) (Same.refl _)) (g_notV (g_isiDy (k := 1) (n := "bool") (g_var (a := found) (Rp.mono (Same.refl _) r_found) (Same.refl _)) (Same.refl _)))))

abbrev N__law_trimmed : List Str := ["yard", "many"]
theorem sc__law_trimmed : FnScope N__law_trimmed ["yard"] (defScope s__law_trimmed) := ⟨rfl, rfl, rfl, by decide +kernel, rfl, by decide +kernel, by decide +kernel⟩
theorem ok__law_trimmed (T : Hd K mg) : ∃ fd, PySem.W.keepIn K (.ref (He.ga K "_law_trimmed")) = true ∧ Binds K fd ["yard"] [] ∧ FnOk P w K mg base (L2.CX P w) 1 (He.ga K "_law_trimmed") fd ["yard"] (sp1 K m__law_trimmed) := by
  obtain ⟨fd, F⟩ := T.d__law_trimmed
  refine ⟨fd, F.kp, F.bindsN fun _ _ _ _ _ _ us hl => match us, hl with | [_], _ => rfl, ?_⟩
  refine F.ok sc__law_trimmed (fun vs H Q E h => ?_) (fun cdv A outer s H vs Q E hr h => ?_)
  · obtain ⟨v_yard, yard, rfl, r_yard, hQ⟩ := h
    rfl
  · obtain ⟨v_yard, yard, rfl, r_yard, hQ⟩ := h
    have tk : Takes (cxOf (L2.CX P w) P w K mg base N__law_trimmed "_law_trimmed" (defScope s__law_trimmed) (He.ga K "_law_trimmed") cdv A outer s H E) (fun cls d _ H => E cls d H) := takes_of rfl rfl rfl rfl
    refine ⟨_, (by exact (pss_cons (ps_set (i := 1) sc__law_trimmed.nd rfl (Or.inl rfl) (pe_callB call_len_seq rfl T.f_len PySem.boot_len (pa_cons (pv 0) pa_nil)))
          (pss_cons (ps_while (passes_of rfl) (PW.pt (pw_and (pt_cmpR op_gt (pv 1) pe_int (nomark _)) (pw_and1 (pt_cmpR op_eq (pe_ix ix_list (pv 0) (pe_op op_sub (pv 1) pe_int) (fun _ _ => rfl)) pe_int (nomark _))))) (pss_one (ps_set (i := 1) sc__law_trimmed.nd rfl (Or.inl rfl) (pe_op op_sub (pv 1) pe_int))))
          (pss_one (ps_ret (pe_callTy call_list_of rfl T.f_list (by decide +kernel) (pa_cons (pe_slice sl_list (pv 0) po_none (po_some (pv 1))) pa_nil))))))), ?_⟩
    unfold m__law_trimmed at hQ
    first | with_reducible refine st_n ?_ | skip
    refine st_seq ?_
    refine s_asg ?_ (Same.refl _) (Same.refl _) hQ ?_
    · exact (g_sc (F' := H) (g_len (g_var (a := yard) (Rp.mono (Same.refl _) r_yard) (Same.refl _)) (Same.refl _)))
    intro many v5 F2 H3 nx1 e04 r6 hQ
    replace r_yard := Rp.mono nx1.ff r_yard
    have hF7 := nx1.fh
    obtain rfl : v5 = V.int many := r6
    first | with_reducible refine st_n ?_ | skip
    refine st_seq ?_
    replace hQ := wp_bdi hQ
    refine while_S (fun (many : Int) σ12 H11 => ∃ (F8 : Hp), σ12 = [some v_yard, some (.int many)] ∧ Nx (fun _ => False) F2 H3 F8 H11 ∧ Same H H11) ?h0u30 hQ ?hcu30 ?hbu30 ?hdu30
    case h0u30 =>
      exact ⟨_, rfl, (Nx.refl' hF7), e04⟩
    case hcu30 =>
      intro many σ9 H11 hI
      obtain ⟨F8, rfl, nL9, e010⟩ := hI
      have r_yard := Rp.mono nL9.ff r_yard
      have hF13 := nL9.fh
      exact ⟨e010, (t_and (t_test (F := H11) (g_b0 (g_var (a := many) rfl (Same.refl _)) g_int)) (t_test (F := H11) (g_eq (g_idx (g_var (a := yard) (Rp.mono hF13 r_yard) (Same.refl _)) (g_i0 (g_var (a := many) rfl (Same.refl _)) g_int) (Same.refl _)) g_int)))⟩
    case hbu30 =>
      intro n9 many σ9 H11 H16 hI e17 hQ
      obtain ⟨F8, rfl, nL9, e010⟩ := hI
      have r_yard := Rp.mono nL9.ff r_yard
      have hF13 := nL9.fh
      have nA14 := nL9
      have nx18 : Nx0 F8 H11 (mix F8 H11 H16) H16 := Nx.mk' hF13 e17
      have e019 := e010.trans e17
      replace r_yard := Rp.mono nx18.ff r_yard
      replace nA14 := nA14.step0 nx18
      have hF20 := nx18.fh
      first | with_reducible refine st_n ?_ | skip
      refine s_asg ?_ hF20 e019 hQ ?_
      · exact (g_sc (F' := H16) (g_i0 (g_var (a := many) rfl (Same.refl _)) g_int))
      intro many v26 F23 H24 nx22 e025 r27 hQ
      replace r_yard := Rp.mono nx22.ff r_yard
      replace nA14 := nA14.step0 nx22
      have hF28 := nx22.fh
      obtain rfl : v26 = V.int many := r27
      exact ⟨many, ⟨_, rfl, nA14, e025⟩, hQ⟩
    case hdu30 =>
      intro many σ9 H11 H16 hI e17 hQ
      obtain ⟨F8, rfl, nL9, e010⟩ := hI
      have r_yard := Rp.mono nL9.ff r_yard
      have hF13 := nL9.fh
      have nx18 : Nx0 F8 H11 (mix F8 H11 H16) H16 := Nx.mk' hF13 e17
      have e019 := e010.trans e17
      replace r_yard := Rp.mono nx18.ff r_yard
      have hF29 := nx18.fh
      first | with_reducible refine st_n ?_ | skip
      refine s_ret ?_ e019 hQ (fun a h => h)
      exact (g_listI (g_cutI (g_var (a := yard) (Rp.mono hF29 r_yard) (Same.refl _)) o_no (o_some (F := H16) (g_var (a := many) rfl (Same.refl _)))))

abbrev N__law_behind : List Str := ["yard", "pit", "nearer", "seeds"]
theorem sc__law_behind : FnScope N__law_behind ["yard", "pit"] (defScope s__law_behind) := ⟨rfl, rfl, rfl, by decide +kernel, rfl, by decide +kernel, by decide +kernel⟩
theorem ok__law_behind (T : Hd K mg) : ∃ fd, PySem.W.keepIn K (.ref (He.ga K "_law_behind")) = true ∧ Binds K fd ["yard", "pit"] [] ∧ FnOk P w K mg base (L2.CX P w) 2 (He.ga K "_law_behind") fd ["yard", "pit"] (sp2 K m__law_behind) := by
  obtain ⟨fd, F⟩ := T.d__law_behind
  obtain ⟨fd__law_trimmed, kp__law_trimmed, b__law_trimmed, G__law_trimmed⟩ := ok__law_trimmed (P := P) (w := w) (base := base) T
  refine ⟨fd, F.kp, F.bindsN fun _ _ _ _ _ _ us hl => match us, hl with | [_, _], _ => rfl, ?_⟩
  refine F.ok sc__law_behind (fun vs H Q E h => ?_) (fun cdv A outer s H vs Q E hr h => ?_)
  · obtain ⟨v_yard, v_pit, yard, pit, rfl, r_yard, r_pit, hQ⟩ := h
    rfl
  · obtain ⟨v_yard, v_pit, yard, pit, rfl, r_yard, r_pit, hQ⟩ := h
    obtain rfl : v_pit = V.int pit := r_pit
    have tk : Takes (cxOf (L2.CX P w) P w K mg base N__law_behind "_law_behind" (defScope s__law_behind) (He.ga K "_law_behind") cdv A outer s H E) (fun cls d _ H => E cls d H) := takes_of rfl rfl rfl rfl
    refine ⟨_, (by exact (pss_cons (ps_setLc (i := 2) (own := [("seeds", 3)]) (g := gName 3) (tt := tYes) rfl sc__law_behind.nd rfl rfl (sw_true rfl rfl rfl (by decide +kernel)) (pi_list (pe_slice sl_list (pv 0) po_none (po_some (pe_op op_sub (pv 1) pe_int)))) (blkOk_by (N := N__law_behind) (sc := defScope s__law_behind) (by decide +kernel)) (fun _ _ _ _ _ => pg_name (i := 3) sc__law_behind.nd rfl (Or.inl rfl)) (fun _ _ _ _ _ => pts_nil) (fun _ _ _ _ _ => (pe_op op_add (pv 3) pe_int)))
          (pss_one (ps_ret (pe_callS G__law_trimmed (hr.mono (by decide)) rfl T.g__law_trimmed kp__law_trimmed b__law_trimmed (fun σ => passAt tk σ) (pa_cons (pe_op op_cat (pe_op op_cat (pv 2) (pe_lst (pa_cons pe_int pa_nil))) (pe_slice sl_list (pv 0) (po_some (pv 1)) po_none)) pa_nil)))))), ?_⟩
    unfold m__law_behind at hQ
    first | with_reducible refine st_n ?_ | skip
    refine st_seq ?_
    refine s_asg ?_ (Same.refl _) (Same.refl _) hQ ?_
    · exact (g_compI (i_list (g_cutI (g_var (a := yard) (Rp.mono (Same.refl _) r_yard) (Same.refl _)) o_no (o_some (F := H) (g_i0 (g_var (a := pit) rfl (Same.refl _)) g_int))) (Same.refl _)) (fun seeds v6 F7 H8 f9 h10 hh11 rx12 => by
        obtain rfl : v6 = V.int seeds := rx12
        exact ⟨_, fun _ q => q, rfl, t_yes, (g_sc (F' := H8) (g_i0 (g_var (a := seeds) rfl (Same.refl _)) g_int))⟩))
    intro nearer v13 F2 H3 nx1 e04 r14 hQ
    replace r_yard := Rp.mono nx1.ff r_yard
    have hF15 := nx1.fh
    first | with_reducible refine st_n ?_ | skip
    refine s_ret ?_ e04 hQ (fun a h => h)
    exact (g_call1 (ma := R.bd (gd (nearer.length + [(0 : Int)].length ≤ lim) (.ok (nearer ++ [(0 : Int)]))) fun (t16 : List Int) => gd (t16.length + (cut yard (some pit) none).length ≤ lim) (.ok (t16 ++ (cut yard (some pit) none)))) (g_catI (g_catI (g_var (a := nearer) (Rp.mono hF15 r14) (Same.refl _)) (g_lstK (a_cons g_int a_nil) (Nat.le_of_ble_eq_true rfl))) (g_cutI (g_var (a := yard) (Rp.mono hF15 r_yard) (Same.refl _)) (o_some (F := H3) (g_var (a := pit) rfl (Same.refl _))) o_no)))

abbrev N__law_home : List Str := ["seeds", "yard", "turn", "place"]
theorem sc__law_home : FnScope N__law_home ["seeds"] (defScope s__law_home) := ⟨rfl, rfl, rfl, by decide +kernel, rfl, by decide +kernel, by decide +kernel⟩
theorem ok__law_home (T : Hd K mg) : ∃ fd, PySem.W.keepIn K (.ref (He.ga K "_law_home")) = true ∧ Binds K fd ["seeds"] [] ∧ FnOk P w K mg base (L2.CX P w) 1 (He.ga K "_law_home") fd ["seeds"] (sp1 K m__law_home) := by
  obtain ⟨fd, F⟩ := T.d__law_home
  refine ⟨fd, F.kp, F.bindsN fun _ _ _ _ _ _ us hl => match us, hl with | [_], _ => rfl, ?_⟩
  refine F.ok sc__law_home (fun vs H Q E h => ?_) (fun cdv A outer s H vs Q E hr h => ?_)
  · obtain ⟨v_seeds, seeds, rfl, r_seeds, hQ⟩ := h
    rfl
  · obtain ⟨v_seeds, seeds, rfl, r_seeds, hQ⟩ := h
    obtain rfl : v_seeds = V.int seeds := r_seeds
    have tk : Takes (cxOf (L2.CX P w) P w K mg base N__law_home "_law_home" (defScope s__law_home) (He.ga K "_law_home") cdv A outer s H E) (fun cls d _ H => E cls d H) := takes_of rfl rfl rfl rfl
    refine ⟨_, (by exact (pss_cons (ps_set (i := 1) sc__law_home.nd rfl (Or.inl rfl) (pe_lst pa_nil))
          (pss_cons (ps_for (passes_of rfl) rfl (pi_range1 rfl T.f_range (pa_cons (pv 0) pa_nil)) (pg_name (i := 2) sc__law_home.nd rfl (Or.inl rfl)) (pss_cons (ps_set (i := 3) sc__law_home.nd rfl (Or.inl rfl) pe_int)
          (pss_cons (ps_while (passes_of rfl) (PW.pt (pw_and (pt_cmpR op_lt (pv 3) (pe_callB call_len_seq rfl T.f_len PySem.boot_len (pa_cons (pv 1) pa_nil)) (nomark _)) (pw_and1 (pt_cmpR op_gt (pe_ix ix_list (pv 1) (pv 3) (fun _ _ => rfl)) pe_int (nomark _))))) (pss_cons (ps_asg (pe_op op_sub (pe_ix ix_list (pv 1) (pv 3) (fun _ _ => rfl)) pe_int) (pg_sub (pv 1) (pv 3) set_list))
          (pss_one (ps_set (i := 3) sc__law_home.nd rfl (Or.inl rfl) (pe_op op_add (pv 3) pe_int)))))
          (Evl.pss_cut (ps_if (pt_cmpR op_eq (pv 3) (pe_callB call_len_seq rfl T.f_len PySem.boot_len (pa_cons (pv 1) pa_nil)) (nomark _)) (pss_one (ps_expr (pe_bm PySem.F.plainAttrs_list PySem.F.slot_list_append PySem.F.type_list_append mt_append (pv 1) (pa_cons pe_int pa_nil)))) pss_nil)
          (pss_one (ps_asg (pe_op op_add (pv 3) pe_int) (pg_sub (pv 1) (pv 3) set_list)))))))
          (pss_one (ps_ret (pv 1)))))), ?_⟩
    unfold m__law_home at hQ
    first | with_reducible refine st_n ?_ | skip
    refine st_seq ?_
    refine s_asgI (b := false) ?_ (Same.refl _) (Same.refl _) hQ ?_
    · exact (g_lstK a_nil (Nat.le_of_ble_eq_true rfl))
    intro yard p6 F2 H3 nx1 e04 o5 nw7 hQ
    have hF8 := nx1.fh
    first | with_reducible refine st_n ?_ | skip
    refine st_seq ?_
    refine s_for ?_ hF8 e04 hQ ?_
    · exact (i_rng1 (g_sc (F' := H3) (g_var (a := seeds) rfl (Same.refl _))))
    intro xs13 J14 F10 H11 nx9 e012 ok15 hQ
    replace o5 := o5.nx0 nx9
    have hF16 := nx9.fh
    replace hQ := wp_bdi hQ
    refine for_S ok15 (fun (yard : (List Int)) σ21 H20 => ∃ (F17 : Hp) (j23 : Option V) (j24 : Option V), σ21 = [some (.int seeds), some (.ref p6), j24, j23] ∧ Nx (fun q => q = p6 ∨ False) F10 H11 F17 H20 ∧ Same H H20 ∧ Own K H false F17 H20 p6 yard) ?hku102 ?h0u102 hQ ?turnu102 ?doneu102
    case hku102 =>
      intro yard σ9 H20 hI
      obtain ⟨F17, j23, j24, rfl, nL18, e019, o22⟩ := hI
      exact nL18.ff.trans nL18.fh
    case h0u102 =>
      exact ⟨_, _, _, rfl, (Nx.refl' hF16), e012, o5⟩
    case turnu102 =>
      intro turn l28 yard v29 σ9 H20 H30 hI e31 rx32 hQ
      obtain ⟨F17, j23, j24, rfl, nL18, e019, o22⟩ := hI
      have hF25 := nL18.fh
      have nA26 := nL18
      have nx33 : Nx0 F17 H20 (mix F17 H20 H30) H30 := Nx.mk' hF25 e31
      have e035 := e019.trans e31
      replace o22 := o22.nx0 nx33
      replace nA26 := nA26.step0 nx33
      have hF36 := nx33.fh
      refine gn ?_
      obtain rfl : v29 = V.int turn := rx32
      first | with_reducible refine st_n ?_ | skip
      refine st_seq ?_
      refine s_asg ?_ hF36 e035 hQ ?_
      · exact (g_sc (F' := H30) g_int)
      intro place v42 F39 H40 nx38 e041 r43 hQ
      replace o22 := o22.nx0 nx38
      replace nA26 := nA26.step0 nx38
      have hF44 := nx38.fh
      obtain rfl : v42 = V.int place := r43
      first | with_reducible refine st_n ?_ | skip
      refine st_seq ?_
      replace hQ := wp_bdi hQ
      refine while_S (fun (st : Int × (List Int)) σ49 H48 => match st with | (place, yard) => ∃ (F45 : Hp), σ49 = [some (.int seeds), some (.ref p6), some (.int turn), some (.int place)] ∧ Nx (fun q => q = p6 ∨ False) F39 H40 F45 H48 ∧ Same H H48 ∧ Own K H false F45 H48 p6 yard) ?h0u100 hQ ?hcu100 ?hbu100 ?hdu100
      case h0u100 =>
        exact ⟨_, rfl, (Nx.refl' hF44), e041, o22⟩
      case hcu100 =>
        intro st σ9 H48 hI
        obtain ⟨place, yard⟩ := st
        obtain ⟨F45, rfl, nL46, e047, o50⟩ := hI
        have hF51 := nL46.fh
        have nA26 := nA26.step nL46 (fun q => fun z => Or.elim z (fun z => (.inl (.inl z))) (fun z => z.elim))
        exact ⟨e047, (t_and (t_test (F := H48) (g_b0 (g_var (a := place) rfl (Same.refl _)) (g_len (g_var (a := yard) (o50.rep hF51) (Same.refl _)) (Same.refl _)))) (t_test (F := H48) (g_b0 (g_idx (g_var (a := yard) (o50.rep hF51) (Same.refl _)) (g_var (a := place) rfl (Same.refl _)) (Same.refl _)) g_int)))⟩
      case hbu100 =>
        intro n9 st σ9 H48 H54 hI e55 hQ
        obtain ⟨place, yard⟩ := st
        obtain ⟨F45, rfl, nL46, e047, o50⟩ := hI
        have hF51 := nL46.fh
        have nA26 := nA26.step nL46 (fun q => fun z => Or.elim z (fun z => (.inl (.inl z))) (fun z => z.elim))
        have nA52 := nL46
        have nx56 : Nx0 F45 H48 (mix F45 H48 H54) H54 := Nx.mk' hF51 e55
        have e057 := e047.trans e55
        replace o50 := o50.nx0 nx56
        replace nA26 := nA26.step0 nx56
        replace nA52 := nA52.step0 nx56
        have hF58 := nx56.fh
        first | with_reducible refine st_n ?_ | skip
        refine st_seq ?_
        refine s_set (m := R.bd (idx yard place) fun (t60 : Int) => .ok (t60 - (1 : Int))) (mi := .ok place) ?ha o50 ?he ?hi hF58 e057 hQ ?_
        case ha => exact at_var rfl
        case he => exact (g_sc (F' := H54) (g_i0 (g_idx (g_var (a := yard) (o50.rep hF58) (Same.refl _)) (g_var (a := place) rfl (Same.refl _)) (Same.refl _)) g_int))
        case hi => exact (g_var (a := place) rfl (Same.refl _))
        intro yard F63 H64 nx62 e065 o2 hQ
        replace nA26 := nA26.step nx62 (fun q z => .inl (.inl z))
        replace nA52 := nA52.step nx62 (fun q z => .inl (.inl z))
        have hF66 := nx62.fh
        replace o50 := o2
        first | with_reducible refine st_n ?_ | skip
        refine s_asg ?_ hF66 e065 hQ ?_
        · exact (g_sc (F' := H64) (g_i0 (g_var (a := place) rfl (Same.refl _)) g_int))
        intro place v71 F68 H69 nx67 e070 r72 hQ
        replace o50 := o50.nx0 nx67
        replace nA26 := nA26.step0 nx67
        replace nA52 := nA52.step0 nx67
        have hF73 := nx67.fh
        obtain rfl : v71 = V.int place := r72
        exact ⟨(place, yard), ⟨_, rfl, nA52, e070, o50⟩, hQ⟩
      case hdu100 =>
        intro st σ9 H48 H54 hI e55 hQ
        obtain ⟨place, yard⟩ := st
        obtain ⟨F45, rfl, nL46, e047, o50⟩ := hI
        have hF51 := nL46.fh
        have nA26 := nA26.step nL46 (fun q => fun z => Or.elim z (fun z => (.inl (.inl z))) (fun z => z.elim))
        have nx56 : Nx0 F45 H48 (mix F45 H48 H54) H54 := Nx.mk' hF51 e55
        have e057 := e047.trans e55
        replace o50 := o50.nx0 nx56
        replace nA26 := nA26.step0 nx56
        have hF74 := nx56.fh
        first | with_reducible refine st_n ?_ | skip
        replace hQ := wp_bdi hQ
        refine s_cutW (I := fun (yard : (List Int)) σ83 H82 => ∃ (F79 : Hp), σ83 = [some (.int seeds), some (.ref p6), some (.int turn), some (.int place)] ∧ Nx (fun q => q = p6 ∨ False) (mix F45 H48 H54) H54 F79 H82 ∧ Same H H82 ∧ Own K H false F79 H82 p6 yard) (hQ := hQ) ?_ ?_
        · intro hQ
          have nA86 : Nx (fun q => q = p6 ∨ False) (mix F45 H48 H54) H54 (mix F45 H48 H54) H54 := Nx.refl' hF74
          refine s_if ?_ hF74 e057 hQ ?_ ?_
          · exact (t_test (F := H54) (g_eq (g_var (a := place) rfl (Same.refl _)) (g_len (g_var (a := yard) (o50.rep hF74) (Same.refl _)) (Same.refl _))))
          · intro F76 H77 nx75 e078 hQ
            replace hQ := if_t hQ
            replace o50 := o50.nx0 nx75
            replace nA26 := nA26.step0 nx75
            replace nA86 := nA86.step0 nx75
            have hF87 := nx75.fh
            first | with_reducible refine st_n ?_ | skip
            refine s_app (m := .ok (0 : Int)) ?ha o50 ?he hF87 e078 hQ ?_
            case ha => exact at_var rfl
            case he => exact (g_sc (F' := H77) g_int)
            intro yard F90 H91 nx89 e092 o2 hQ
            replace nA26 := nA26.step nx89 (fun q z => .inl (.inl z))
            replace nA86 := nA86.step nx89 (fun q z => .inl (.inl z))
            have hF93 := nx89.fh
            replace o50 := o2
            exact ⟨yard, ⟨_, rfl, nA86, e092, o50⟩, hQ⟩
          intro F76 H77 nx75 e078 hQ
          replace hQ := if_f hQ
          refine st_next ?_
          replace o50 := o50.nx0 nx75
          replace nA26 := nA26.step0 nx75
          replace nA86 := nA86.step0 nx75
          have hF88 := nx75.fh
          exact ⟨yard, ⟨_, rfl, nA86, e078, o50⟩, hQ⟩
        rintro yard σ9 H82 hI hQ
        obtain ⟨F79, rfl, nL80, e081, o84⟩ := hI
        have hF85 := nL80.fh
        have nA26 := nA26.step nL80 (fun q => fun z => Or.elim z (fun z => (.inl (.inl z))) (fun z => z.elim))
        first | with_reducible refine st_n ?_ | skip
        refine s_set (m := .ok (place + (1 : Int))) (mi := .ok place) ?ha o84 ?he ?hi hF85 e081 hQ ?_
        case ha => exact at_var rfl
        case he => exact (g_sc (F' := H82) (g_i0 (g_var (a := place) rfl (Same.refl _)) g_int))
        case hi => exact (g_var (a := place) rfl (Same.refl _))
        intro yard F95 H96 nx94 e097 o2 hQ
        replace nA26 := nA26.step nx94 (fun q z => .inl (.inl z))
        have hF98 := nx94.fh
        replace o84 := o2
        exact ⟨yard, ⟨_, _, _, rfl, nA26, e097, o84⟩, hQ⟩
    case doneu102 =>
      intro yard σ9 H20 hI hQ
      obtain ⟨F17, j23, j24, rfl, nL18, e019, o22⟩ := hI
      have hF25 := nL18.fh
      first | with_reducible refine st_n ?_ | skip
      refine s_ret ?_ e019 hQ (fun a h => h)
      exact (g_var (a := yard) (o22.repI hF25) dif_le)

abbrev N__law_sums : List Str := ["script", "sums", "k"]
theorem sc__law_sums : FnScope N__law_sums ["script"] (defScope s__law_sums) := ⟨rfl, rfl, rfl, by decide +kernel, rfl, by decide +kernel, by decide +kernel⟩
theorem ok__law_sums (T : Hd K mg) : ∃ fd, PySem.W.keepIn K (.ref (He.ga K "_law_sums")) = true ∧ Binds K fd ["script"] [] ∧ FnOk P w K mg base (L2.CX P w) 1 (He.ga K "_law_sums") fd ["script"] (sp1 K m__law_sums) := by
  obtain ⟨fd, F⟩ := T.d__law_sums
  refine ⟨fd, F.kp, F.bindsN fun _ _ _ _ _ _ us hl => match us, hl with | [_], _ => rfl, ?_⟩
  refine F.ok sc__law_sums (fun vs H Q E h => ?_) (fun cdv A outer s H vs Q E hr h => ?_)
  · obtain ⟨v_script, script, rfl, r_script, hQ⟩ := h
    rfl
  · obtain ⟨v_script, script, rfl, r_script, hQ⟩ := h
    have tk : Takes (cxOf (L2.CX P w) P w K mg base N__law_sums "_law_sums" (defScope s__law_sums) (He.ga K "_law_sums") cdv A outer s H E) (fun cls d _ H => E cls d H) := takes_of rfl rfl rfl rfl
    refine ⟨_, (by exact (pss_cons (ps_set (i := 1) sc__law_sums.nd rfl (Or.inl rfl) (pe_lst (pa_cons pe_int (pa_cons pe_int pa_nil))))
          (pss_cons (ps_for (passes_of rfl) rfl (pi_range1 rfl T.f_range (pa_cons (pe_callB call_len_seq rfl T.f_len PySem.boot_len (pa_cons (pv 0) pa_nil)) pa_nil)) (pg_name (i := 2) sc__law_sums.nd rfl (Or.inl rfl)) (pss_one (ps_asg (pe_op op_add (pe_ix ix_list (pv 1) (pe_op op_mod (pv 2) pe_int) (fun _ _ => rfl)) (pe_ix ix_list (pv 0) (pv 2) (fun _ _ => rfl))) (pg_sub (pv 1) (pe_op op_mod (pv 2) pe_int) set_list))))
          (pss_one (ps_ret (pv 1)))))), ?_⟩
    unfold m__law_sums at hQ
    first | with_reducible refine st_n ?_ | skip
    refine st_seq ?_
    refine s_asgI (b := false) ?_ (Same.refl _) (Same.refl _) hQ ?_
    · exact (g_lstK (a_cons (g_sc (F' := H) g_int) (a_cons (g_sc (F' := H) g_int) a_nil)) (Nat.le_of_ble_eq_true rfl))
    intro sums p6 F2 H3 nx1 e04 o5 nw7 hQ
    replace r_script := Rp.mono nx1.ff r_script
    have hF8 := nx1.fh
    first | with_reducible refine st_n ?_ | skip
    refine st_seq ?_
    refine s_for ?_ hF8 e04 hQ ?_
    · exact (i_rng1 (g_sc (F' := H3) (g_lenS (g_var (a := script) (Rp.mono hF8 r_script) (Same.refl _)) (Same.refl _))))
    intro xs13 J14 F10 H11 nx9 e012 ok15 hQ
    replace r_script := Rp.mono nx9.ff r_script
    replace o5 := o5.nx0 nx9
    have hF16 := nx9.fh
    replace hQ := wp_bdi hQ
    refine for_S ok15 (fun (sums : (List Int)) σ21 H20 => ∃ (F17 : Hp) (j23 : Option V), σ21 = [some v_script, some (.ref p6), j23] ∧ Nx (fun q => q = p6 ∨ False) F10 H11 F17 H20 ∧ Same H H20 ∧ Own K H false F17 H20 p6 sums) ?hku46 ?h0u46 hQ ?turnu46 ?doneu46
    case hku46 =>
      intro sums σ9 H20 hI
      obtain ⟨F17, j23, rfl, nL18, e019, o22⟩ := hI
      exact nL18.ff.trans nL18.fh
    case h0u46 =>
      exact ⟨_, _, rfl, (Nx.refl' hF16), e012, o5⟩
    case turnu46 =>
      intro k l27 sums v28 σ9 H20 H29 hI e30 rx31 hQ
      obtain ⟨F17, j23, rfl, nL18, e019, o22⟩ := hI
      have r_script := Rp.mono nL18.ff r_script
      have hF24 := nL18.fh
      have nA25 := nL18
      have nx32 : Nx0 F17 H20 (mix F17 H20 H29) H29 := Nx.mk' hF24 e30
      have e034 := e019.trans e30
      replace r_script := Rp.mono nx32.ff r_script
      replace o22 := o22.nx0 nx32
      replace nA25 := nA25.step0 nx32
      have hF35 := nx32.fh
      refine gn ?_
      obtain rfl : v28 = V.int k := rx31
      first | with_reducible refine st_n ?_ | skip
      refine s_set (m := R.bd (idx sums (k % (2 : Int))) fun (t37 : Int) => R.bd (idx script.l k) fun (t38 : Int) => .ok (t37 + t38)) (mi := .ok (k % (2 : Int))) ?ha o22 ?he ?hi hF35 e034 hQ ?_
      case ha => exact at_var rfl
      case he => exact (g_sc (F' := H29) (g_i0 (g_idx (g_var (a := sums) (o22.rep hF35) (Same.refl _)) (g_modL (by decide +kernel) (g_var (a := k) rfl (Same.refl _)) g_int) (Same.refl _)) (g_idxS (g_var (a := script) (Rp.mono hF35 r_script) (Same.refl _)) (g_var (a := k) rfl (Same.refl _)) (Same.refl _))))
      case hi => exact (g_modL (by decide +kernel) (g_var (a := k) rfl (Same.refl _)) g_int)
      intro sums F41 H42 nx40 e043 o2 hQ
      replace r_script := Rp.mono nx40.ff r_script
      replace nA25 := nA25.step nx40 (fun q z => .inl (.inl z))
      have hF44 := nx40.fh
      replace o22 := o2
      exact ⟨sums, ⟨_, _, rfl, nA25, e043, o22⟩, hQ⟩
    case doneu46 =>
      intro sums σ9 H20 hI hQ
      obtain ⟨F17, j23, rfl, nL18, e019, o22⟩ := hI
      have r_script := Rp.mono nL18.ff r_script
      have hF24 := nL18.fh
      first | with_reducible refine st_n ?_ | skip
      refine s_ret ?_ e019 hQ (fun a h => h)
      exact (g_var (a := sums) (o22.repI hF24) dif_le)

abbrev N__law_changed : List Str := ["yard", "number", "other", "rest", "k", "way", "at"]
theorem sc__law_changed : FnScope N__law_changed ["yard", "number"] (defScope s__law_changed) := ⟨rfl, rfl, rfl, by decide +kernel, rfl, by decide +kernel, by decide +kernel⟩
theorem ok__law_changed (T : Hd K mg) : ∃ fd, PySem.W.keepIn K (.ref (He.ga K "_law_changed")) = true ∧ Binds K fd ["yard", "number"] [] ∧ FnOk P w K mg base (L2.CX P w) 2 (He.ga K "_law_changed") fd ["yard", "number"] (sp2 K m__law_changed) := by
  obtain ⟨fd, F⟩ := T.d__law_changed
  obtain ⟨fd__law_trimmed, kp__law_trimmed, b__law_trimmed, G__law_trimmed⟩ := ok__law_trimmed (P := P) (w := w) (base := base) T
  refine ⟨fd, F.kp, F.bindsN fun _ _ _ _ _ _ us hl => match us, hl with | [_, _], _ => rfl, ?_⟩
  refine F.ok sc__law_changed (fun vs H Q E h => ?_) (fun cdv A outer s H vs Q E hr h => ?_)
  · obtain ⟨v_yard, v_number, yard, number, rfl, r_yard, r_number, hQ⟩ := h
    rfl
  · obtain ⟨v_yard, v_number, yard, number, rfl, r_yard, r_number, hQ⟩ := h
    obtain rfl : v_number = V.int number := r_number
    have tk : Takes (cxOf (L2.CX P w) P w K mg base N__law_changed "_law_changed" (defScope s__law_changed) (He.ga K "_law_changed") cdv A outer s H E) (fun cls d _ H => E cls d H) := takes_of rfl rfl rfl rfl
    refine ⟨_, (by exact (pss_cons (ps_set (i := 2) sc__law_changed.nd rfl (Or.inl rfl) (pe_op op_cat (pe_callTy call_list_of rfl T.f_list (by decide +kernel) (pa_cons (pv 0) pa_nil)) (pe_lst (pa_cons pe_int pa_nil))))
          (pss_cons (ps_set (i := 3) sc__law_changed.nd rfl (Or.inl rfl) (pe_op op_fdivW (pv 1) pe_int))
          (pss_cons (ps_for (passes_of rfl) rfl (pi_range1 rfl T.f_range (pa_cons (pe_op op_mod (pv 1) pe_int) pa_nil)) (pg_name (i := 4) sc__law_changed.nd rfl (Or.inl rfl)) (pss_cons (ps_set (i := 5) sc__law_changed.nd rfl (Or.inl rfl) (pe_op op_mod (pv 3) pe_int))
          (pss_cons (ps_set (i := 6) sc__law_changed.nd rfl (Or.inl rfl) (pe_op op_mod (pe_op op_fdivW (pv 3) pe_int) (pe_callB call_len_seq rfl T.f_len PySem.boot_len (pa_cons (pv 2) pa_nil))))
          (pss_cons (ps_set (i := 3) sc__law_changed.nd rfl (Or.inl rfl) (pe_op op_fdivW (pe_op op_fdivW (pv 3) pe_int) (pe_callB call_len_seq rfl T.f_len PySem.boot_len (pa_cons (pv 2) pa_nil))))
          (Evl.pss_cut (ps_if (pt_cmpR op_eq (pv 5) pe_int (nomark _)) (pss_one (ps_asg (pe_op op_add (pe_ix ix_list (pv 2) (pv 6) (fun _ _ => rfl)) pe_int) (pg_sub (pv 2) (pv 6) set_list))) pss_nil)
          (Evl.pss_cut (ps_if (pt_cmpR op_eq (pv 5) pe_int (nomark _)) (pss_one (ps_asg (pe_callB (call_max2 rfl) rfl T.f_max (by decide +kernel) (pa_cons pe_int (pa_cons (pe_op op_sub (pe_ix ix_list (pv 2) (pv 6) (fun _ _ => rfl)) pe_int) pa_nil))) (pg_sub (pv 2) (pv 6) set_list))) pss_nil)
          (Evl.pss_cut (ps_if (pt_cmpR op_eq (pv 5) pe_int (nomark _)) (pss_one (ps_asg pe_int (pg_sub (pv 2) (pv 6) set_list))) pss_nil)
          (Evl.pss_cut (ps_if (pt_cmpR op_eq (pv 5) pe_int (nomark _)) (pss_one (ps_set (i := 2) sc__law_changed.nd rfl (Or.inl rfl) (pe_op op_cat (pe_listRev rfl rfl T.f_list rfl T.f_reversed (pe_slice sl_list (pv 2) po_none (po_some (pv 6)))) (pe_slice sl_list (pv 2) (po_some (pv 6)) po_none)))) pss_nil)
          (pss_one (ps_if (pt_cmpR op_eq (pv 5) pe_int (nomark _)) (pss_one (ps_expr (pe_bm PySem.F.plainAttrs_list PySem.F.slot_list_append PySem.F.type_list_append mt_append (pv 2) (pa_cons (pe_op op_mod (pv 3) pe_int) pa_nil)))) pss_nil))))))))))
          (pss_one (ps_ret (pe_callS G__law_trimmed (hr.mono (by decide)) rfl T.g__law_trimmed kp__law_trimmed b__law_trimmed (fun σ => passAt tk σ) (pa_cons (pv 2) pa_nil)))))))), ?_⟩
    unfold m__law_changed at hQ
    first | with_reducible refine st_n ?_ | skip
    refine st_seq ?_
    refine s_asgI (b := false) ?_ (Same.refl _) (Same.refl _) hQ ?_
    · exact (g_catI (g_listI (g_var (a := yard) (Rp.mono (Same.refl _) r_yard) (Same.refl _))) (g_lstK (a_cons g_int a_nil) (Nat.le_of_ble_eq_true rfl)))
    intro other p6 F2 H3 nx1 e04 o5 nw7 hQ
    replace r_yard := Rp.mono nx1.ff r_yard
    have hF8 := nx1.fh
    first | with_reducible refine st_n ?_ | skip
    refine st_seq ?_
    refine s_asg ?_ hF8 e04 hQ ?_
    · exact (g_sc (F' := H3) (g_divL (by decide +kernel) (g_var (a := number) rfl (Same.refl _)) g_int))
    intro rest v13 F10 H11 nx9 e012 r14 hQ
    replace r_yard := Rp.mono nx9.ff r_yard
    replace o5 := o5.nx0 nx9
    have hF15 := nx9.fh
    obtain rfl : v13 = V.int rest := r14
    first | with_reducible refine st_n ?_ | skip
    refine st_seq ?_
    refine s_for ?_ hF15 e012 hQ ?_
    · exact (i_rng1 (g_sc (F' := H11) (g_modL (by decide +kernel) (g_var (a := number) rfl (Same.refl _)) g_int)))
    intro xs20 J21 F17 H18 nx16 e019 ok22 hQ
    replace r_yard := Rp.mono nx16.ff r_yard
    replace o5 := o5.nx0 nx16
    have hF23 := nx16.fh
    replace hQ := wp_bdi hQ
    refine for_S ok22 (fun (st : Int × (List Int)) σ28 H27 => match st with | (rest, other) => ∃ (F24 : Hp) (p29 : Addr) (j32 : Option V) (j33 : Option V) (j34 : Option V), σ28 = [some v_yard, some (.int number), some (.ref p29), some (.int rest), j34, j32, j33] ∧ Nx (fun q => q = p6 ∨ False) F17 H18 F24 H27 ∧ Same H H27 ∧ Own K H false F24 H27 p29 other ∧ ((p29 = p6 ∨ False) ∨ H18 p29 = none)) ?hku174 ?h0u174 hQ ?turnu174 ?doneu174
    case hku174 =>
      intro st σ9 H27 hI
      obtain ⟨rest, other⟩ := st
      obtain ⟨F24, p29, j32, j33, j34, rfl, nL25, e026, o30, ho31⟩ := hI
      exact nL25.ff.trans nL25.fh
    case h0u174 =>
      exact ⟨_, _, _, _, _, rfl, (Nx.refl' hF23), e019, o5, (.inl (.inl rfl))⟩
    case turnu174 =>
      intro k l38 st v39 σ9 H27 H40 hI e41 rx42 hQ
      obtain ⟨rest, other⟩ := st
      obtain ⟨F24, p29, j32, j33, j34, rfl, nL25, e026, o30, ho31⟩ := hI
      have r_yard := Rp.mono nL25.ff r_yard
      have hF35 := nL25.fh
      have nA36 := nL25
      have via45 : ∀ q, q = p29 → (fun q => q = p6 ∨ False) q ∨ H18 q = none := fun q z => by rw [z]; exact ho31
      have nx43 : Nx0 F24 H27 (mix F24 H27 H40) H40 := Nx.mk' hF35 e41
      have e046 := e026.trans e41
      replace r_yard := Rp.mono nx43.ff r_yard
      replace o30 := o30.nx0 nx43
      replace nA36 := nA36.step0 nx43
      have hF47 := nx43.fh
      refine gn ?_
      obtain rfl : v39 = V.int k := rx42
      first | with_reducible refine st_n ?_ | skip
      refine st_seq ?_
      refine s_asg ?_ hF47 e046 hQ ?_
      · exact (g_sc (F' := H40) (g_modL (by decide +kernel) (g_var (a := rest) rfl (Same.refl _)) g_int))
      intro way v53 F50 H51 nx49 e052 r54 hQ
      replace r_yard := Rp.mono nx49.ff r_yard
      replace o30 := o30.nx0 nx49
      replace nA36 := nA36.step0 nx49
      have hF55 := nx49.fh
      obtain rfl : v53 = V.int way := r54
      first | with_reducible refine st_n ?_ | skip
      refine st_seq ?_
      refine s_asg ?_ hF55 e052 hQ ?_
      · exact (g_sc (F' := H51) (g_mod (g_divL (by decide +kernel) (g_var (a := rest) rfl (Same.refl _)) g_int) (g_len (g_var (a := other) (o30.rep hF55) (Same.refl _)) (Same.refl _))))
      intro at_ v60 F57 H58 nx56 e059 r61 hQ
      replace r_yard := Rp.mono nx56.ff r_yard
      replace o30 := o30.nx0 nx56
      replace nA36 := nA36.step0 nx56
      have hF62 := nx56.fh
      obtain rfl : v60 = V.int at_ := r61
      first | with_reducible refine st_n ?_ | skip
      refine st_seq ?_
      refine s_asg ?_ hF62 e059 hQ ?_
      · exact (g_sc (F' := H58) (g_div (g_divL (by decide +kernel) (g_var (a := rest) rfl (Same.refl _)) g_int) (g_len (g_var (a := other) (o30.rep hF62) (Same.refl _)) (Same.refl _))))
      intro rest v67 F64 H65 nx63 e066 r68 hQ
      replace r_yard := Rp.mono nx63.ff r_yard
      replace o30 := o30.nx0 nx63
      replace nA36 := nA36.step0 nx63
      have hF69 := nx63.fh
      obtain rfl : v67 = V.int rest := r68
      first | with_reducible refine st_n ?_ | skip
      replace hQ := wp_bdi hQ
      refine s_cutW (I := fun (other : (List Int)) σ78 H77 => ∃ (F74 : Hp), σ78 = [some v_yard, some (.int number), some (.ref p29), some (.int rest), some (.int k), some (.int way), some (.int at_)] ∧ Nx (fun q => q = p29 ∨ False) F64 H65 F74 H77 ∧ Same H H77 ∧ Own K H false F74 H77 p29 other) (hQ := hQ) ?_ ?_
      · intro hQ
        have nA81 : Nx (fun q => q = p29 ∨ False) F64 H65 F64 H65 := Nx.refl' hF69
        refine s_if ?_ hF69 e066 hQ ?_ ?_
        · exact (t_test (F := H65) (g_eq (g_var (a := way) rfl (Same.refl _)) g_int))
        · intro F71 H72 nx70 e073 hQ
          replace hQ := if_t hQ
          replace r_yard := Rp.mono nx70.ff r_yard
          replace o30 := o30.nx0 nx70
          replace nA36 := nA36.step0 nx70
          replace nA81 := nA81.step0 nx70
          have hF82 := nx70.fh
          first | with_reducible refine st_n ?_ | skip
          refine s_set (m := R.bd (idx other at_) fun (t84 : Int) => .ok (t84 + (1 : Int))) (mi := .ok at_) ?ha o30 ?he ?hi hF82 e073 hQ ?_
          case ha => exact at_var rfl
          case he => exact (g_sc (F' := H72) (g_i0 (g_idx (g_var (a := other) (o30.rep hF82) (Same.refl _)) (g_var (a := at_) rfl (Same.refl _)) (Same.refl _)) g_int))
          case hi => exact (g_var (a := at_) rfl (Same.refl _))
          intro other F87 H88 nx86 e089 o2 hQ
          replace r_yard := Rp.mono nx86.ff r_yard
          replace nA36 := nA36.step nx86 via45
          replace nA81 := nA81.step nx86 (fun q z => .inl (.inl z))
          have hF90 := nx86.fh
          replace o30 := o2
          exact ⟨other, ⟨_, rfl, nA81, e089, o30⟩, hQ⟩
        intro F71 H72 nx70 e073 hQ
        replace hQ := if_f hQ
        refine st_next ?_
        replace r_yard := Rp.mono nx70.ff r_yard
        replace o30 := o30.nx0 nx70
        replace nA36 := nA36.step0 nx70
        replace nA81 := nA81.step0 nx70
        have hF83 := nx70.fh
        exact ⟨other, ⟨_, rfl, nA81, e073, o30⟩, hQ⟩
      rintro other σ9 H77 hI hQ
      obtain ⟨F74, rfl, nL75, e076, o79⟩ := hI
      have r_yard := Rp.mono nL75.ff r_yard
      have hF80 := nL75.fh
      have nA36 := nA36.step nL75 (fun q => fun z => Or.elim z (fun z => (via45 _ z)) (fun z => z.elim))
      first | with_reducible refine st_n ?_ | skip
      replace hQ := wp_bdi hQ
      refine s_cutW (I := fun (other : (List Int)) σ99 H98 => ∃ (F95 : Hp), σ99 = [some v_yard, some (.int number), some (.ref p29), some (.int rest), some (.int k), some (.int way), some (.int at_)] ∧ Nx (fun q => q = p29 ∨ False) F74 H77 F95 H98 ∧ Same H H98 ∧ Own K H false F95 H98 p29 other) (hQ := hQ) ?_ ?_
      · intro hQ
        have nA102 : Nx (fun q => q = p29 ∨ False) F74 H77 F74 H77 := Nx.refl' hF80
        refine s_if ?_ hF80 e076 hQ ?_ ?_
        · exact (t_test (F := H77) (g_eq (g_var (a := way) rfl (Same.refl _)) g_int))
        · intro F92 H93 nx91 e094 hQ
          replace hQ := if_t hQ
          replace r_yard := Rp.mono nx91.ff r_yard
          replace o79 := o79.nx0 nx91
          replace nA36 := nA36.step0 nx91
          replace nA102 := nA102.step0 nx91
          have hF103 := nx91.fh
          first | with_reducible refine st_n ?_ | skip
          refine s_set (m := R.bd (R.bd (idx other at_) fun (t105 : Int) => .ok (t105 - (1 : Int))) fun (t106 : Int) => .ok (if t106 > (0 : Int) then t106 else (0 : Int))) (mi := .ok at_) ?ha o79 ?he ?hi hF103 e094 hQ ?_
          case ha => exact at_var rfl
          case he => exact (g_sc (F' := H93) (g_max2 g_int (g_i0 (g_idx (g_var (a := other) (o79.rep hF103) (Same.refl _)) (g_var (a := at_) rfl (Same.refl _)) (Same.refl _)) g_int)))
          case hi => exact (g_var (a := at_) rfl (Same.refl _))
          intro other F109 H110 nx108 e0111 o2 hQ
          replace r_yard := Rp.mono nx108.ff r_yard
          replace nA36 := nA36.step nx108 via45
          replace nA102 := nA102.step nx108 (fun q z => .inl (.inl z))
          have hF112 := nx108.fh
          replace o79 := o2
          exact ⟨other, ⟨_, rfl, nA102, e0111, o79⟩, hQ⟩
        intro F92 H93 nx91 e094 hQ
        replace hQ := if_f hQ
        refine st_next ?_
        replace r_yard := Rp.mono nx91.ff r_yard
        replace o79 := o79.nx0 nx91
        replace nA36 := nA36.step0 nx91
        replace nA102 := nA102.step0 nx91
        have hF104 := nx91.fh
        exact ⟨other, ⟨_, rfl, nA102, e094, o79⟩, hQ⟩
      rintro other σ9 H98 hI hQ
      obtain ⟨F95, rfl, nL96, e097, o100⟩ := hI
      have r_yard := Rp.mono nL96.ff r_yard
      have hF101 := nL96.fh
      have nA36 := nA36.step nL96 (fun q => fun z => Or.elim z (fun z => (via45 _ z)) (fun z => z.elim))
      first | with_reducible refine st_n ?_ | skip
      replace hQ := wp_bdi hQ
      refine s_cutW (I := fun (other : (List Int)) σ121 H120 => ∃ (F117 : Hp), σ121 = [some v_yard, some (.int number), some (.ref p29), some (.int rest), some (.int k), some (.int way), some (.int at_)] ∧ Nx (fun q => q = p29 ∨ False) F95 H98 F117 H120 ∧ Same H H120 ∧ Own K H false F117 H120 p29 other) (hQ := hQ) ?_ ?_
      · intro hQ
        have nA124 : Nx (fun q => q = p29 ∨ False) F95 H98 F95 H98 := Nx.refl' hF101
        refine s_if ?_ hF101 e097 hQ ?_ ?_
        · exact (t_test (F := H98) (g_eq (g_var (a := way) rfl (Same.refl _)) g_int))
        · intro F114 H115 nx113 e0116 hQ
          replace hQ := if_t hQ
          replace r_yard := Rp.mono nx113.ff r_yard
          replace o100 := o100.nx0 nx113
          replace nA36 := nA36.step0 nx113
          replace nA124 := nA124.step0 nx113
          have hF125 := nx113.fh
          first | with_reducible refine st_n ?_ | skip
          refine s_set (m := .ok (0 : Int)) (mi := .ok at_) ?ha o100 ?he ?hi hF125 e0116 hQ ?_
          case ha => exact at_var rfl
          case he => exact (g_sc (F' := H115) g_int)
          case hi => exact (g_var (a := at_) rfl (Same.refl _))
          intro other F128 H129 nx127 e0130 o2 hQ
          replace r_yard := Rp.mono nx127.ff r_yard
          replace nA36 := nA36.step nx127 via45
          replace nA124 := nA124.step nx127 (fun q z => .inl (.inl z))
          have hF131 := nx127.fh
          replace o100 := o2
          exact ⟨other, ⟨_, rfl, nA124, e0130, o100⟩, hQ⟩
        intro F114 H115 nx113 e0116 hQ
        replace hQ := if_f hQ
        refine st_next ?_
        replace r_yard := Rp.mono nx113.ff r_yard
        replace o100 := o100.nx0 nx113
        replace nA36 := nA36.step0 nx113
        replace nA124 := nA124.step0 nx113
        have hF126 := nx113.fh
        exact ⟨other, ⟨_, rfl, nA124, e0116, o100⟩, hQ⟩
      rintro other σ9 H120 hI hQ
      obtain ⟨F117, rfl, nL118, e0119, o122⟩ := hI
      have r_yard := Rp.mono nL118.ff r_yard
      have hF123 := nL118.fh
      have nA36 := nA36.step nL118 (fun q => fun z => Or.elim z (fun z => (via45 _ z)) (fun z => z.elim))
      first | with_reducible refine st_n ?_ | skip
      replace hQ := wp_bdi hQ
      refine s_cutW (I := fun (other : (List Int)) σ140 H139 => ∃ (F136 : Hp) (p141 : Addr), σ140 = [some v_yard, some (.int number), some (.ref p141), some (.int rest), some (.int k), some (.int way), some (.int at_)] ∧ Nx (fun q => q = p29 ∨ False) F117 H120 F136 H139 ∧ Same H H139 ∧ Own K H false F136 H139 p141 other ∧ ((p141 = p29 ∨ False) ∨ H120 p141 = none)) (hQ := hQ) ?_ ?_
      · intro hQ
        have nA146 : Nx (fun q => q = p29 ∨ False) F117 H120 F117 H120 := Nx.refl' hF123
        refine s_if ?_ hF123 e0119 hQ ?_ ?_
        · exact (t_test (F := H120) (g_eq (g_var (a := way) rfl (Same.refl _)) g_int))
        · intro F133 H134 nx132 e0135 hQ
          replace hQ := if_t hQ
          replace r_yard := Rp.mono nx132.ff r_yard
          replace o122 := o122.nx0 nx132
          replace nA36 := nA36.step0 nx132
          replace nA146 := nA146.step0 nx132
          have hF147 := nx132.fh
          first | with_reducible refine st_n ?_ | skip
          refine s_asgI (b := false) ?_ hF147 e0135 hQ ?_
          · exact (g_catI (g_listRevI (g_cutI (g_var (a := other) (o122.rep hF147) (Same.refl _)) o_no (o_some (F := H134) (g_var (a := at_) rfl (Same.refl _))))) (g_cutI (g_var (a := other) (o122.rep hF147) (Same.refl _)) (o_some (F := H134) (g_var (a := at_) rfl (Same.refl _))) o_no))
          intro other p154 F150 H151 nx149 e0152 o153 nw155 hQ
          have zp154_nA36 := none_of_new nA36 nw155
          have zp154_nA146 := none_of_new nA146 nw155
          replace r_yard := Rp.mono nx149.ff r_yard
          replace nA36 := nA36.step0 nx149
          replace nA146 := nA146.step0 nx149
          have hF156 := nx149.fh
          exact ⟨other, ⟨_, _, rfl, nA146, e0152, o153, (.inr zp154_nA146)⟩, hQ⟩
        intro F133 H134 nx132 e0135 hQ
        replace hQ := if_f hQ
        refine st_next ?_
        replace r_yard := Rp.mono nx132.ff r_yard
        replace o122 := o122.nx0 nx132
        replace nA36 := nA36.step0 nx132
        replace nA146 := nA146.step0 nx132
        have hF148 := nx132.fh
        exact ⟨other, ⟨_, _, rfl, nA146, e0135, o122, (.inl (.inl rfl))⟩, hQ⟩
      rintro other σ9 H139 hI hQ
      obtain ⟨F136, p141, rfl, nL137, e0138, o142, ho143⟩ := hI
      have r_yard := Rp.mono nL137.ff r_yard
      have hF144 := nL137.fh
      have via145 := via_of nA36 ho143 (fun q z h => (fun h => Or.elim h (fun h => (via45 _ (z.trans h))) (fun h => h.elim)) h)
      have nA36 := nA36.step nL137 (fun q => fun z => Or.elim z (fun z => (via45 _ z)) (fun z => z.elim))
      first | with_reducible refine st_n ?_ | skip
      refine s_if ?_ hF144 e0138 hQ ?_ ?_
      · exact (t_test (F := H139) (g_eq (g_var (a := way) rfl (Same.refl _)) g_int))
      · intro F158 H159 nx157 e0160 hQ
        replace hQ := if_t hQ
        replace r_yard := Rp.mono nx157.ff r_yard
        replace o142 := o142.nx0 nx157
        replace nA36 := nA36.step0 nx157
        have hF161 := nx157.fh
        first | with_reducible refine st_n ?_ | skip
        refine s_app (m := .ok (rest % (3 : Int))) ?ha o142 ?he hF161 e0160 hQ ?_
        case ha => exact at_var rfl
        case he => exact (g_sc (F' := H159) (g_modL (by decide +kernel) (g_var (a := rest) rfl (Same.refl _)) g_int))
        intro other F164 H165 nx163 e0166 o2 hQ
        replace r_yard := Rp.mono nx163.ff r_yard
        replace nA36 := nA36.step nx163 via145
        have hF167 := nx163.fh
        replace o142 := o2
        exact ⟨(rest, other), ⟨_, _, _, _, _, rfl, nA36, e0166, o142, (via145 _ rfl)⟩, hQ⟩
      intro F158 H159 nx157 e0160 hQ
      replace hQ := if_f hQ
      refine st_next ?_
      replace r_yard := Rp.mono nx157.ff r_yard
      replace o142 := o142.nx0 nx157
      replace nA36 := nA36.step0 nx157
      have hF162 := nx157.fh
      exact ⟨(rest, other), ⟨_, _, _, _, _, rfl, nA36, e0160, o142, (via145 _ rfl)⟩, hQ⟩
    case doneu174 =>
      intro st σ9 H27 hI hQ
      obtain ⟨rest, other⟩ := st
      obtain ⟨F24, p29, j32, j33, j34, rfl, nL25, e026, o30, ho31⟩ := hI
      have r_yard := Rp.mono nL25.ff r_yard
      have hF35 := nL25.fh
      first | with_reducible refine st_n ?_ | skip
      refine s_ret ?_ e026 hQ (fun a h => h)
      exact (g_call1 (ma := .ok other) (g_var (a := other) (o30.rep hF35) (Same.refl _)))

abbrev N__law_planned : List Str := ["yard", "plan", "left", "pit"]
theorem sc__law_planned : FnScope N__law_planned ["yard", "plan"] (defScope s__law_planned) := ⟨rfl, rfl, rfl, by decide +kernel, rfl, by decide +kernel, by decide +kernel⟩
theorem ok__law_planned (T : Hd K mg) : ∃ fd, PySem.W.keepIn K (.ref (He.ga K "_law_planned")) = true ∧ Binds K fd ["yard", "plan"] [] ∧ FnOk P w K mg base (L2.CX P w) 3 (He.ga K "_law_planned") fd ["yard", "plan"] (sp2 K m__law_planned) := by
  obtain ⟨fd, F⟩ := T.d__law_planned
  obtain ⟨fd__law_behind, kp__law_behind, b__law_behind, G__law_behind⟩ := ok__law_behind (P := P) (w := w) (base := base) T
  obtain ⟨fd__law_whole, kp__law_whole, b__law_whole, G__law_whole⟩ := ok__law_whole (P := P) (w := w) (base := base) T
  refine ⟨fd, F.kp, F.bindsN fun _ _ _ _ _ _ us hl => match us, hl with | [_, _], _ => rfl, ?_⟩
  refine F.ok sc__law_planned (fun vs H Q E h => ?_) (fun cdv A outer s H vs Q E hr h => ?_)
  · obtain ⟨v_yard, v_plan, yard, plan, rfl, r_yard, r_plan, hQ⟩ := h
    rfl
  · obtain ⟨v_yard, v_plan, yard, plan, rfl, r_yard, r_plan, hQ⟩ := h
    have tk : Takes (cxOf (L2.CX P w) P w K mg base N__law_planned "_law_planned" (defScope s__law_planned) (He.ga K "_law_planned") cdv A outer s H E) (fun cls d _ H => E cls d H) := takes_of rfl rfl rfl rfl
    refine ⟨_, (by exact (pss_cons (ps_set (i := 2) sc__law_planned.nd rfl (Or.inl rfl) (pe_callTy call_list_of rfl T.f_list (by decide +kernel) (pa_cons (pv 0) pa_nil)))
          (pss_cons (ps_for (passes_of rfl) rfl (pi_list (pv 1)) (pg_name (i := 3) sc__law_planned.nd rfl (Or.inl rfl)) (pss_cons (ps_if (PW.pt (pw_or (pt_not (pt_val (pe_callS G__law_whole (hr.mono (by decide)) rfl T.g__law_whole kp__law_whole b__law_whole (fun σ => passAt tk σ) (pa_cons (pv 3) pa_nil)))) (pw_or (pt_cmpR op_lt (pv 3) pe_int (nomark _)) (pw_or (pt_cmpR op_gt (pv 3) (pe_callB call_len_seq rfl T.f_len PySem.boot_len (pa_cons (pv 2) pa_nil)) (nomark _)) (pw_or1 (pt_cmpR (op_neP hr.units) (pe_ix ix_list (pv 2) (pe_op op_sub (pv 3) pe_int) (fun _ _ => rfl)) (pv 3) (nomark _))))))) (pss_one (ps_ret pe_bl)) pss_nil)
          (pss_one (ps_set (i := 2) sc__law_planned.nd rfl (Or.inl rfl) (pe_callS G__law_behind (hr.mono (by decide)) rfl T.g__law_behind kp__law_behind b__law_behind (fun σ => passAt tk σ) (pa_cons (pv 2) (pa_cons (pv 3) pa_nil)))))))
          (pss_one (ps_ret (pe_cmpR (op_eqP hr.units) (pv 2) (pe_lst pa_nil) (nomark _))))))), ?_⟩
    unfold m__law_planned at hQ
    first | with_reducible refine st_n ?_ | skip
    refine st_seq ?_
    refine s_asg ?_ (Same.refl _) (Same.refl _) hQ ?_
    · exact (g_listI (g_var (a := yard) (Rp.mono (Same.refl _) r_yard) (Same.refl _)))
    intro left v5 F2 H3 nx1 e04 r6 hQ
    replace r_yard := Rp.mono nx1.ff r_yard
    replace r_plan := Rp.mono nx1.ff r_plan
    have hF7 := nx1.fh
    first | with_reducible refine st_n ?_ | skip
    refine st_seq ?_
    refine s_for ?_ hF7 e04 hQ ?_
    · exact (i_list (g_dyL (m := .ok plan) (g_var (a := plan) r_plan hF7)) hF7)
    intro xs12 J13 F9 H10 nx8 e011 ok14 hQ
    replace r_yard := Rp.mono nx8.ff r_yard
    replace r_plan := Rp.mono nx8.ff r_plan
    replace r6 := Rp.mono nx8.ff r6
    have hF15 := nx8.fh
    replace hQ := wp_bdi hQ
    refine for_Rd ok14 (fun (left : (List Int)) σ20 H19 => ∃ (F16 : Hp) (v21 : V) (j23 : Option V), σ20 = [some v_yard, some v_plan, some v21, j23] ∧ Nx (fun _ => False) F9 H10 F16 H19 ∧ Same H H19 ∧ Rp.rep K F16 v21 left) ?hku64 ?h0u64 hQ ?doneu64 ?turnu64
    case hku64 =>
      intro left σ9 H19 hI
      obtain ⟨F16, v21, j23, rfl, nL17, e018, r22⟩ := hI
      exact nL17.ff.trans nL17.fh
    case h0u64 =>
      exact ⟨_, _, _, rfl, (Nx.refl' hF15), e011, r6⟩
    case turnu64 =>
      intro pit l27 left v28 σ9 H19 H29 hI e30 rx31 hd37 hQ
      obtain ⟨F16, v21, j23, rfl, nL17, e018, r22⟩ := hI
      have r_yard := Rp.mono nL17.ff r_yard
      have r_plan := Rp.mono nL17.ff r_plan
      have hF24 := nL17.fh
      have nA25 := nL17
      have nx32 : Nx0 F16 H19 (mix F16 H19 H29) H29 := Nx.mk' hF24 e30
      have e034 := e018.trans e30
      replace r_yard := Rp.mono nx32.ff r_yard
      replace r_plan := Rp.mono nx32.ff r_plan
      replace r22 := Rp.mono nx32.ff r22
      replace nA25 := nA25.step0 nx32
      have hF35 := nx32.fh
      refine gn ?_
      have r36 := (Rp.mono (mix_ff nL17.ff) rx31)
      first | with_reducible refine st_n ?_ | skip
      refine st_seq ?_
      refine s_if ?_ hF35 e034 hQ ?_ ?_
      · exact (t_or (t_not (t_B (F := H29) (g_call1 (ma := .ok pit) (g_var (a := pit) (Rp.mono hF35 r36) (Same.refl _))))) (t_or (t_test (F := H29) (g_b0 (g_unD (m := .ok pit) (g_var (a := pit) (Rp.mono hF35 r36) (Same.refl _))) g_int)) (t_or (t_test (F := H29) (g_b0 (g_unD (m := .ok pit) (g_var (a := pit) (Rp.mono hF35 r36) (Same.refl _))) (g_len (g_var (a := left) (Rp.mono hF35 r22) (Same.refl _)) (Same.refl _)))) (t_test (F := H29) (g_neDy (g_dy (g_idx (g_var (a := left) (Rp.mono hF35 r22) (Same.refl _)) (g_i0 (g_unD (m := .ok pit) (g_var (a := pit) (Rp.mono hF35 r36) (Same.refl _))) g_int) (Same.refl _))) (g_var (a := pit) (Rp.mono hF35 r36) (Same.refl _)) (Same.refl _))))))
      · intro F49 H50 nx48 e051 hQ
        replace hQ := if_t hQ
        replace r_yard := Rp.mono nx48.ff r_yard
        replace r_plan := Rp.mono nx48.ff r_plan
        replace r22 := Rp.mono nx48.ff r22
        replace r36 := Rp.mono nx48.ff r36
        replace nA25 := nA25.step0 nx48
        have hF52 := nx48.fh
        first | with_reducible refine st_n ?_ | skip
        refine s_ret ?_ e051 hQ (fun a h => h)
        exact (g_sc (F' := H50) g_bl)
      intro F49 H50 nx48 e051 hQ
      replace hQ := if_f hQ
      refine st_next ?_
      replace r_yard := Rp.mono nx48.ff r_yard
      replace r_plan := Rp.mono nx48.ff r_plan
      replace r22 := Rp.mono nx48.ff r22
      replace r36 := Rp.mono nx48.ff r36
      replace nA25 := nA25.step0 nx48
      have hF53 := nx48.fh
      first | with_reducible refine st_n ?_ | skip
      refine s_asg ?_ hF53 e051 hQ ?_
      · exact (g_call2 (ma := .ok left) (mb := (unD pit : R Int)) (g_var (a := left) (Rp.mono hF53 r22) (Same.refl _)) (g_unD (m := .ok pit) (g_var (a := pit) (Rp.mono hF53 r36) (Same.refl _))))
      intro left v59 F55 H56 nx54 e057 r60 hQ
      replace r_yard := Rp.mono nx54.ff r_yard
      replace r_plan := Rp.mono nx54.ff r_plan
      replace r36 := Rp.mono nx54.ff r36
      replace nA25 := nA25.step0 nx54
      have hF61 := nx54.fh
      exact ⟨left, ⟨_, _, _, rfl, nA25, e057, r60⟩, hQ⟩
    case doneu64 =>
      intro left σ9 H19 hI hQ
      replace hQ := flk_go hQ
      obtain ⟨F16, v21, j23, rfl, nL17, e018, r22⟩ := hI
      have r_yard := Rp.mono nL17.ff r_yard
      have r_plan := Rp.mono nL17.ff r_plan
      have hF24 := nL17.fh
      first | with_reducible refine st_n ?_ | skip
      refine s_ret ?_ e018 hQ (fun a h => h)
      exact (g_sc (F' := H19) (g_eqD (g_var (a := left) (Rp.mono hF24 r22) (Same.refl _)) (g_lstK a_nil (Nat.le_of_ble_eq_true rfl)) (Same.refl _)))

abbrev N__law_held : List Str := ["yard", "pit"]
theorem sc__law_held : FnScope N__law_held ["yard", "pit"] (defScope s__law_held) := ⟨rfl, rfl, rfl, by decide +kernel, rfl, by decide +kernel, by decide +kernel⟩
theorem ok__law_held (T : Hd K mg) : ∃ fd, PySem.W.keepIn K (.ref (He.ga K "_law_held")) = true ∧ Binds K fd ["yard", "pit"] [] ∧ FnOk P w K mg base (L2.CX P w) 1 (He.ga K "_law_held") fd ["yard", "pit"] (sp2 K m__law_held) := by
  obtain ⟨fd, F⟩ := T.d__law_held
  refine ⟨fd, F.kp, F.bindsN fun _ _ _ _ _ _ us hl => match us, hl with | [_, _], _ => rfl, ?_⟩
  refine F.ok sc__law_held (fun vs H Q E h => ?_) (fun cdv A outer s H vs Q E hr h => ?_)
  · obtain ⟨v_yard, v_pit, yard, pit, rfl, r_yard, r_pit, hQ⟩ := h
    rfl
  · obtain ⟨v_yard, v_pit, yard, pit, rfl, r_yard, r_pit, hQ⟩ := h
    obtain rfl : v_pit = V.int pit := r_pit
    have tk : Takes (cxOf (L2.CX P w) P w K mg base N__law_held "_law_held" (defScope s__law_held) (He.ga K "_law_held") cdv A outer s H E) (fun cls d _ H => E cls d H) := takes_of rfl rfl rfl rfl
    refine ⟨_, (by exact (pss_cons (ps_if (pt_cmpR op_le (pv 1) (pe_callB call_len_seq rfl T.f_len PySem.boot_len (pa_cons (pv 0) pa_nil)) (nomark _)) (pss_one (ps_ret (pe_ix ix_list (pv 0) (pe_op op_sub (pv 1) pe_int) (fun _ _ => rfl)))) pss_nil)
          (pss_one (ps_ret pe_int)))), ?_⟩
    unfold m__law_held at hQ
    first | with_reducible refine st_n ?_ | skip
    refine st_seq ?_
    refine s_if ?_ (Same.refl _) (Same.refl _) hQ ?_ ?_
    · exact (t_test (F := H) (g_b0 (g_var (a := pit) rfl (Same.refl _)) (g_len (g_var (a := yard) (Rp.mono (Same.refl _) r_yard) (Same.refl _)) (Same.refl _))))
    · intro F2 H3 nx1 e04 hQ
      replace hQ := if_t hQ
      replace r_yard := Rp.mono nx1.ff r_yard
      have hF5 := nx1.fh
      first | with_reducible refine st_n ?_ | skip
      refine s_ret ?_ e04 hQ (fun a h => h)
      exact (g_sc (F' := H3) (g_idx (g_var (a := yard) (Rp.mono hF5 r_yard) (Same.refl _)) (g_i0 (g_var (a := pit) rfl (Same.refl _)) g_int) (Same.refl _)))
    intro F2 H3 nx1 e04 hQ
    replace hQ := if_f hQ
    refine st_next ?_
    replace r_yard := Rp.mono nx1.ff r_yard
    have hF6 := nx1.fh
    first | with_reducible refine st_n ?_ | skip
    refine s_ret ?_ e04 hQ (fun a h => h)
    exact (g_sc (F' := H3) g_int)

abbrev N__law_barred : List Str := ["yard", "due", "pit", "held", "nearer"]
theorem sc__law_barred : FnScope N__law_barred ["yard", "due", "pit", "held"] (defScope s__law_barred) := ⟨rfl, rfl, rfl, by decide +kernel, rfl, by decide +kernel, by decide +kernel⟩
theorem ok__law_barred (T : Hd K mg) : ∃ fd, PySem.W.keepIn K (.ref (He.ga K "_law_barred")) = true ∧ Binds K fd ["yard", "due", "pit", "held"] [] ∧ FnOk P w K mg base (L2.CX P w) 2 (He.ga K "_law_barred") fd ["yard", "due", "pit", "held"] (sp4 K m__law_barred) := by
  obtain ⟨fd, F⟩ := T.d__law_barred
  obtain ⟨fd__law_held, kp__law_held, b__law_held, G__law_held⟩ := ok__law_held (P := P) (w := w) (base := base) T
  obtain ⟨fd__law_whole, kp__law_whole, b__law_whole, G__law_whole⟩ := ok__law_whole (P := P) (w := w) (base := base) T
  refine ⟨fd, F.kp, F.bindsN fun _ _ _ _ _ _ us hl => match us, hl with | [_, _, _, _], _ => rfl, ?_⟩
  refine F.ok sc__law_barred (fun vs H Q E h => ?_) (fun cdv A outer s H vs Q E hr h => ?_)
  · obtain ⟨v_yard, v_due, v_pit, v_held, yard, due, pit, held, rfl, r_yard, r_due, r_pit, r_held, hQ⟩ := h
    rfl
  · obtain ⟨v_yard, v_due, v_pit, v_held, yard, due, pit, held, rfl, r_yard, r_due, r_pit, r_held, hQ⟩ := h
    obtain rfl : v_pit = V.int pit := r_pit
    obtain rfl : v_held = V.int held := r_held
    have tk : Takes (cxOf (L2.CX P w) P w K mg base N__law_barred "_law_barred" (defScope s__law_barred) (He.ga K "_law_barred") cdv A outer s H E) (fun cls d _ H => E cls d H) := takes_of rfl rfl rfl rfl
    refine ⟨_, (by exact (pss_cons (ps_if (PW.pt (pw_or (pt_not (pt_val (pe_callS G__law_whole (hr.mono (by decide)) rfl T.g__law_whole kp__law_whole b__law_whole (fun σ => passAt tk σ) (pa_cons (pv 2) pa_nil)))) (pw_or (pt_not (pt_val (pe_callS G__law_whole (hr.mono (by decide)) rfl T.g__law_whole kp__law_whole b__law_whole (fun σ => passAt tk σ) (pa_cons (pv 3) pa_nil)))) (pw_or (pt_cmpR op_lt (pv 2) pe_int (nomark _)) (pw_or1 (pt_cmpR op_gt (pv 2) (pe_op op_add (pe_callB call_len_seq rfl T.f_len PySem.boot_len (pa_cons (pv 0) pa_nil)) (pe_callB call_len_seq rfl T.f_len PySem.boot_len (pa_cons (pv 1) pa_nil))) (nomark _))))))) (pss_one (ps_ret pe_bl)) pss_nil)
          (pss_cons (ps_for (passes_of rfl) rfl (pi_range2 rfl T.f_range (pa_cons pe_int (pa_cons (pv 2) pa_nil))) (pg_name (i := 4) sc__law_barred.nd rfl (Or.inl rfl)) (pss_one (ps_if (pt_cmpR op_ne (pe_callS G__law_held (hr.mono (by decide)) rfl T.g__law_held kp__law_held b__law_held (fun σ => passAt tk σ) (pa_cons (pv 0) (pa_cons (pv 4) pa_nil))) (pe_callS G__law_held (hr.mono (by decide)) rfl T.g__law_held kp__law_held b__law_held (fun σ => passAt tk σ) (pa_cons (pv 1) (pa_cons (pv 4) pa_nil))) (nomark _)) (pss_one (ps_ret pe_bl)) pss_nil)))
          (pss_one (ps_ret (pe_and (pe_cmpR op_eq (pv 3) (pe_callS G__law_held (hr.mono (by decide)) rfl T.g__law_held kp__law_held b__law_held (fun σ => passAt tk σ) (pa_cons (pv 1) (pa_cons (pv 2) pa_nil))) (nomark _)) (pe_one (pe_cmpR op_ne (pv 3) (pe_callS G__law_held (hr.mono (by decide)) rfl T.g__law_held kp__law_held b__law_held (fun σ => passAt tk σ) (pa_cons (pv 0) (pa_cons (pv 2) pa_nil))) (nomark _))))))))), ?_⟩
    unfold m__law_barred at hQ
    first | with_reducible refine st_n ?_ | skip
    refine st_seq ?_
    refine s_if ?_ (Same.refl _) (Same.refl _) hQ ?_ ?_
    · exact (t_or (t_not (t_B (F := H) (g_call1 (ma := .ok (DyN.dy pit)) (g_dy (g_var (a := pit) rfl (Same.refl _)))))) (t_orP (t_not (t_B (F := H) (g_call1 (ma := .ok (DyN.dy held)) (g_dy (g_var (a := held) rfl (Same.refl _)))))) (t_orP (t_test (F := H) (g_b0 (g_var (a := pit) rfl (Same.refl _)) g_int)) (t_test (F := H) (g_b0 (g_var (a := pit) rfl (Same.refl _)) (g_i0 (g_len (g_var (a := yard) (Rp.mono (Same.refl _) r_yard) (Same.refl _)) (Same.refl _)) (g_len (g_var (a := due) (Rp.mono (Same.refl _) r_due) (Same.refl _)) (Same.refl _))))))))
    · intro F6 H7 nx5 e08 hQ
      replace hQ := if_t hQ
      replace r_yard := Rp.mono nx5.ff r_yard
      replace r_due := Rp.mono nx5.ff r_due
      have hF9 := nx5.fh
      first | with_reducible refine st_n ?_ | skip
      refine s_ret ?_ e08 hQ (fun a h => h)
      exact (g_sc (F' := H7) g_bl)
    intro F6 H7 nx5 e08 hQ
    replace hQ := if_f hQ
    refine st_next ?_
    replace r_yard := Rp.mono nx5.ff r_yard
    replace r_due := Rp.mono nx5.ff r_due
    have hF10 := nx5.fh
    first | with_reducible refine st_n ?_ | skip
    refine st_seq ?_
    refine s_for ?_ hF10 e08 hQ ?_
    · exact (i_rng2 (g_sc (F' := H7) g_int) (g_sc (F' := H7) (g_var (a := pit) rfl (Same.refl _))))
    intro xs15 J16 F12 H13 nx11 e014 ok17 hQ
    replace r_yard := Rp.mono nx11.ff r_yard
    replace r_due := Rp.mono nx11.ff r_due
    have hF18 := nx11.fh
    replace hQ := wp_bdi hQ
    refine for_Rd ok17 (fun (_ : Unit) σ23 H22 => ∃ (F19 : Hp) (j24 : Option V), σ23 = [some v_yard, some v_due, some (.int pit), some (.int held), j24] ∧ Nx (fun _ => False) F12 H13 F19 H22 ∧ Same H H22) ?hku51 ?h0u51 hQ ?doneu51 ?turnu51
    case hku51 =>
      intro st σ9 H22 hI
      obtain ⟨F19, j24, rfl, nL20, e021⟩ := hI
      exact nL20.ff.trans nL20.fh
    case h0u51 =>
      exact ⟨_, _, rfl, (Nx.refl' hF18), e014⟩
    case turnu51 =>
      intro nearer l28 st v29 σ9 H22 H30 hI e31 rx32 hd37 hQ
      obtain ⟨F19, j24, rfl, nL20, e021⟩ := hI
      have r_yard := Rp.mono nL20.ff r_yard
      have r_due := Rp.mono nL20.ff r_due
      have hF25 := nL20.fh
      have nA26 := nL20
      have nx33 : Nx0 F19 H22 (mix F19 H22 H30) H30 := Nx.mk' hF25 e31
      have e035 := e021.trans e31
      replace r_yard := Rp.mono nx33.ff r_yard
      replace r_due := Rp.mono nx33.ff r_due
      replace nA26 := nA26.step0 nx33
      have hF36 := nx33.fh
      refine gn ?_
      obtain rfl : v29 = V.int nearer := rx32
      first | with_reducible refine st_n ?_ | skip
      refine s_if ?_ hF36 e035 hQ ?_ ?_
      · exact (t_test (F := H30) (g_ne (g_call2 (ma := .ok yard) (mb := .ok nearer) (g_var (a := yard) (Rp.mono hF36 r_yard) (Same.refl _)) (g_var (a := nearer) rfl (Same.refl _))) (g_call2 (ma := .ok due) (mb := .ok nearer) (g_var (a := due) (Rp.mono hF36 r_due) (Same.refl _)) (g_var (a := nearer) rfl (Same.refl _)))))
      · intro F41 H42 nx40 e043 hQ
        replace hQ := if_t hQ
        replace r_yard := Rp.mono nx40.ff r_yard
        replace r_due := Rp.mono nx40.ff r_due
        replace nA26 := nA26.step0 nx40
        have hF44 := nx40.fh
        first | with_reducible refine st_n ?_ | skip
        refine s_ret ?_ e043 hQ (fun a h => h)
        exact (g_sc (F' := H42) g_bl)
      intro F41 H42 nx40 e043 hQ
      replace hQ := if_f hQ
      refine st_next ?_
      replace r_yard := Rp.mono nx40.ff r_yard
      replace r_due := Rp.mono nx40.ff r_due
      replace nA26 := nA26.step0 nx40
      have hF45 := nx40.fh
      exact ⟨(), ⟨_, _, rfl, nA26, e043⟩, hQ⟩
    case doneu51 =>
      intro st σ9 H22 hI hQ
      replace hQ := flk_go hQ
      obtain ⟨F19, j24, rfl, nL20, e021⟩ := hI
      have r_yard := Rp.mono nL20.ff r_yard
      have r_due := Rp.mono nL20.ff r_due
      have hF25 := nL20.fh
      first | with_reducible refine st_n ?_ | skip
      refine s_ret ?_ e021 hQ (fun a h => h)
      exact (g_sc (F' := H22) (g_andV (g_eq (g_var (a := held) rfl (Same.refl _)) (g_call2 (ma := .ok due) (mb := .ok pit) (g_var (a := due) (Rp.mono hF25 r_due) (Same.refl _)) (g_var (a := pit) rfl (Same.refl _)))) (g_ne (g_var (a := held) rfl (Same.refl _)) (g_call2 (ma := .ok yard) (mb := .ok pit) (g_var (a := yard) (Rp.mono hF25 r_yard) (Same.refl _)) (g_var (a := pit) rfl (Same.refl _))))))

abbrev N__law_right : List Str := ["yard", "due", "handed", "found", "kept"]
theorem sc__law_right : FnScope N__law_right ["yard"] (defScope s__law_right) := ⟨rfl, rfl, rfl, by decide +kernel, rfl, by decide +kernel, by decide +kernel⟩
theorem ok__law_right (T : Hd K mg) : ∃ fd, PySem.W.keepIn K (.ref (He.ga K "_law_right")) = true ∧ Binds K fd ["yard"] [] ∧ FnOk P w K mg base (L2.CX P w) 4 (He.ga K "_law_right") fd ["yard"] (sp1 K m__law_right) := by
  obtain ⟨fd, F⟩ := T.d__law_right
  obtain ⟨fd__law_barred, kp__law_barred, b__law_barred, G__law_barred⟩ := ok__law_barred (P := P) (w := w) (base := base) T
  obtain ⟨fd__law_home, kp__law_home, b__law_home, G__law_home⟩ := ok__law_home (P := P) (w := w) (base := base) T
  obtain ⟨fd__law_planned, kp__law_planned, b__law_planned, G__law_planned⟩ := ok__law_planned (P := P) (w := w) (base := base) T
  obtain ⟨fd_brought_home, kp_brought_home, b_brought_home, G_brought_home⟩ := ok_brought_home (P := P) (w := w) (base := base) T
  refine ⟨fd, F.kp, F.bindsN fun _ _ _ _ _ _ us hl => match us, hl with | [_], _ => rfl, ?_⟩
  refine F.ok sc__law_right (fun vs H Q E h => ?_) (fun cdv A outer s H vs Q E hr h => ?_)
  · obtain ⟨v_yard, yard, rfl, r_yard, hQ⟩ := h
    rfl
  · obtain ⟨v_yard, yard, rfl, r_yard, hQ⟩ := h
    have tk : Takes (cxOf (L2.CX P w) P w K mg base N__law_right "_law_right" (defScope s__law_right) (He.ga K "_law_right") cdv A outer s H E) (fun cls d _ H => E cls d H) := takes_of rfl rfl rfl rfl
    refine ⟨_, (by exact (pss_cons (ps_set (i := 1) sc__law_right.nd rfl (Or.inl rfl) (pe_callS G__law_home (hr.mono (by decide)) rfl T.g__law_home kp__law_home b__law_home (fun σ => passAt tk σ) (pa_cons (pe_callB (cr_sum rfl) rfl T.f_sum (by decide +kernel) (pa_cons (pv 0) pa_nil)) pa_nil)))
          (pss_cons (ps_set (i := 2) sc__law_right.nd rfl (Or.inl rfl) (pe_callTy call_list_of rfl T.f_list (by decide +kernel) (pa_cons (pv 0) pa_nil)))
          (pss_cons (ps_set (i := 3) sc__law_right.nd rfl (Or.inl rfl) (pe_callS G_brought_home (hr.mono (by decide)) rfl T.g_brought_home kp_brought_home b_brought_home (fun σ => passAt tk σ) (pa_cons (pv 2) pa_nil)))
          (pss_cons (ps_if (PW.pt (pw_or (pt_cmpR (op_neP hr.units) (pv 2) (pv 0) (nomark _)) (pw_or1 (pt_not (pt_val (pe_callB call_isi rfl T.f_isinstance (by decide +kernel) (pa_cons (pv 3) (pa_cons (pe_bltn (v := .ty "tuple") rfl T.f_tuple (by rfl) rfl) pa_nil)))))))) (pss_one (ps_ret pe_bl)) pss_nil)
          (pss_cons (ps_if (pt_cmpR (op_neP hr.units) (pv 0) (pv 1) (nomark _)) (pss_one (ps_ret (pe_and (pe_cmpR op_eq (pe_callB call_len_seq rfl T.f_len PySem.boot_len (pa_cons (pv 3) pa_nil)) pe_int (nomark _)) (pe_and (pe_cmpR (op_eqP hr.units) (pe_ix ix_any (pv 3) pe_int (fun _ _ => rfl)) pe_str (nomark _)) (pe_one (pe_callS G__law_barred (hr.mono (by decide)) rfl T.g__law_barred kp__law_barred b__law_barred (fun σ => passAt tk σ) (pa_cons (pv 0) (pa_cons (pv 1) (pa_cons (pe_ix ix_any (pv 3) pe_int (fun _ _ => rfl)) (pa_cons (pe_ix ix_any (pv 3) pe_int (fun _ _ => rfl)) pa_nil)))))))))) pss_nil)
          (pss_cons (ps_if (PW.pt (pw_or (pt_cmpR op_ne (pe_callB call_len_seq rfl T.f_len PySem.boot_len (pa_cons (pv 3) pa_nil)) pe_int (nomark _)) (pw_or (pt_cmpR (op_neP hr.units) (pe_ix ix_any (pv 3) pe_int (fun _ _ => rfl)) pe_str (nomark _)) (pw_or1 (pt_not (pt_val (pe_callB call_isi rfl T.f_isinstance (by decide +kernel) (pa_cons (pe_ix ix_any (pv 3) pe_int (fun _ _ => rfl)) (pa_cons (pe_bltn (v := .ty "list") rfl T.f_list (by rfl) rfl) pa_nil))))))))) (pss_one (ps_ret pe_bl)) pss_nil)
          (pss_cons (ps_if (PW.pt (pw_or (pt_cmpR op_ne (pe_callB call_len_seq rfl T.f_len PySem.boot_len (pa_cons (pe_ix ix_any (pv 3) pe_int (fun _ _ => rfl)) pa_nil)) (pe_callB (cr_sum rfl) rfl T.f_sum (by decide +kernel) (pa_cons (pv 0) pa_nil)) (nomark _)) (pw_or1 (pt_not (pt_val (pe_callS G__law_planned (hr.mono (by decide)) rfl T.g__law_planned kp__law_planned b__law_planned (fun σ => passAt tk σ) (pa_cons (pv 0) (pa_cons (pe_ix ix_any (pv 3) pe_int (fun _ _ => rfl)) pa_nil)))))))) (pss_one (ps_ret pe_bl)) pss_nil)
          (pss_cons (ps_set (i := 4) sc__law_right.nd rfl (Or.inl rfl) (pe_callTy call_list_of rfl T.f_list (by decide +kernel) (pa_cons (pe_ix ix_any (pv 3) pe_int (fun _ _ => rfl)) pa_nil)))
          (pss_cons (ps_expr (pe_bm PySem.F.plainAttrs_list PySem.F.slot_list_append PySem.F.type_list_append mt_append (pe_ix ix_any (pv 3) pe_int (fun _ _ => rfl)) (pa_cons pe_int pa_nil)))
          (pss_one (ps_ret (pe_cmpR (op_eqP hr.units) (pe_callS G_brought_home (hr.mono (by decide)) rfl T.g_brought_home kp_brought_home b_brought_home (fun σ => passAt tk σ) (pa_cons (pv 2) pa_nil)) (pe_tup (pa_cons pe_str (pa_cons (pv 4) pa_nil))) (nomark _)))))))))))))), ?_⟩
    unfold m__law_right at hQ
    first | with_reducible refine st_n ?_ | skip
    refine st_seq ?_
    refine s_asg ?_ (Same.refl _) (Same.refl _) hQ ?_
    · exact (g_call1 (ma := .ok yard.sum) (g_sum (g_var (a := yard) (Rp.mono (Same.refl _) r_yard) (Same.refl _)) (Same.refl _)))
    intro due v5 F2 H3 nx1 e04 r6 hQ
    replace r_yard := Rp.mono nx1.ff r_yard
    have hF7 := nx1.fh
    first | with_reducible refine st_n ?_ | skip
    refine st_seq ?_
    refine s_asg ?_ hF7 e04 hQ ?_
    · exact (g_listI (g_var (a := yard) (Rp.mono hF7 r_yard) (Same.refl _)))
    intro handed v12 F9 H10 nx8 e011 r13 hQ
    replace r_yard := Rp.mono nx8.ff r_yard
    replace r6 := Rp.mono nx8.ff r6
    have hF14 := nx8.fh
    first | with_reducible refine st_n ?_ | skip
    refine st_seq ?_
    refine s_asgT ?_ hF14 e011 hQ ?_
    · exact (g_call1 (ma := .ok handed) (g_var (a := handed) (Rp.mono hF14 r13) (Same.refl _)))
    intro found v23 F20 H21 G24 nx19 e022 L25 hn26 hQ
    replace r_yard := Rp.mono nx19.ff r_yard
    replace r6 := Rp.mono nx19.ff r6
    replace r13 := Rp.mono nx19.ff r13
    have hF27 := nx19.fh
    first | with_reducible refine st_n ?_ | skip
    refine st_seq ?_
    refine s_if ?_ hF27 e022 hQ ?_ ?_
    · exact (t_orP (t_test (F := H21) (g_neD (g_var (a := handed) (Rp.mono hF27 r13) (Same.refl _)) (g_var (a := yard) (Rp.mono hF27 r_yard) (Same.refl _)) (Same.refl _))) (t_not (t_B (F := H21) (g_isiDy (k := 4) (n := "tuple") (g_var (a := found) L25.see (Same.refl _)) (Same.refl _)))))
    · intro F29 H30 nx28 e031 hQ
      replace hQ := if_t hQ
      replace r_yard := Rp.mono nx28.ff r_yard
      replace r6 := Rp.mono nx28.ff r6
      replace r13 := Rp.mono nx28.ff r13
      replace L25 := L25.nx0 nx28
      have hF32 := nx28.fh
      first | with_reducible refine st_n ?_ | skip
      refine s_ret ?_ e031 hQ (fun a h => h)
      exact (g_sc (F' := H30) g_bl)
    intro F29 H30 nx28 e031 hQ
    replace hQ := if_f hQ
    refine st_next ?_
    replace r_yard := Rp.mono nx28.ff r_yard
    replace r6 := Rp.mono nx28.ff r6
    replace r13 := Rp.mono nx28.ff r13
    replace L25 := L25.nx0 nx28
    have hF33 := nx28.fh
    first | with_reducible refine st_n ?_ | skip
    refine st_seq ?_
    refine s_if ?_ hF33 e031 hQ ?_ ?_
    · exact (t_test (F := H30) (g_neD (g_var (a := yard) (Rp.mono hF33 r_yard) (Same.refl _)) (g_var (a := due) (Rp.mono hF33 r6) (Same.refl _)) (Same.refl _)))
    · intro F35 H36 nx34 e037 hQ
      replace hQ := if_t hQ
      replace r_yard := Rp.mono nx34.ff r_yard
      replace r6 := Rp.mono nx34.ff r6
      replace r13 := Rp.mono nx34.ff r13
      replace L25 := L25.nx0 nx34
      have hF38 := nx34.fh
      first | with_reducible refine st_n ?_ | skip
      refine s_ret ?_ e037 hQ (fun a h => h)
      exact (g_sc (F' := H36) (g_andV (g_eq (g_lenDy (g_var (a := found) L25.see (Same.refl _)) (Same.refl _)) g_int) (g_andV (g_eqDy (g_idxDy (g_var (a := found) L25.see (Same.refl _)) g_int (Same.refl _)) (g_dy g_str) (Same.refl _)) (g_call4 (ma := .ok yard) (mb := .ok due) (mc := R.bd (dyIdx found (1 : Int)) fun (t42 : Dy) => (unD t42 : R Int)) (md := R.bd (dyIdx found (2 : Int)) fun (t43 : Dy) => (unD t43 : R Int)) (g_var (a := yard) (Rp.mono hF38 r_yard) (Same.refl _)) (g_var (a := due) (Rp.mono hF38 r6) (Same.refl _)) (g_unD (g_idxDy (g_var (a := found) L25.see (Same.refl _)) g_int (Same.refl _))) (g_unD (g_idxDy (g_var (a := found) L25.see (Same.refl _)) g_int (Same.refl _)))))))
    intro F35 H36 nx34 e037 hQ
    replace hQ := if_f hQ
    refine st_next ?_
    replace r_yard := Rp.mono nx34.ff r_yard
    replace r6 := Rp.mono nx34.ff r6
    replace r13 := Rp.mono nx34.ff r13
    replace L25 := L25.nx0 nx34
    have hF39 := nx34.fh
    first | with_reducible refine st_n ?_ | skip
    refine st_seq ?_
    refine s_if ?_ hF39 e037 hQ ?_ ?_
    · exact (t_or (t_test (F := H36) (g_ne (g_lenDy (g_var (a := found) L25.see (Same.refl _)) (Same.refl _)) g_int)) (t_or (t_test (F := H36) (g_neDy (g_idxDy (g_var (a := found) L25.see (Same.refl _)) g_int (Same.refl _)) (g_dy g_str) (Same.refl _))) (t_not (t_B (F := H36) (g_isiDy (k := 3) (n := "list") (g_idxDy (g_var (a := found) L25.see (Same.refl _)) g_int (Same.refl _)) (Same.refl _))))))
    · intro F55 H56 nx54 e057 hQ
      replace hQ := if_t hQ
      replace r_yard := Rp.mono nx54.ff r_yard
      replace r6 := Rp.mono nx54.ff r6
      replace r13 := Rp.mono nx54.ff r13
      replace L25 := L25.nx0 nx54
      have hF58 := nx54.fh
      first | with_reducible refine st_n ?_ | skip
      refine s_ret ?_ e057 hQ (fun a h => h)
      exact (g_sc (F' := H56) g_bl)
    intro F55 H56 nx54 e057 hQ
    replace hQ := if_f hQ
    refine st_next ?_
    replace r_yard := Rp.mono nx54.ff r_yard
    replace r6 := Rp.mono nx54.ff r6
    replace r13 := Rp.mono nx54.ff r13
    replace L25 := L25.nx0 nx54
    have hF59 := nx54.fh
    first | with_reducible refine st_n ?_ | skip
    refine st_seq ?_
    refine s_if ?_ hF59 e057 hQ ?_ ?_
    · exact (t_or (t_test (F := H56) (g_ne (g_lenDy (g_idxDy (g_var (a := found) L25.see (Same.refl _)) g_int (Same.refl _)) (Same.refl _)) (g_sum (g_var (a := yard) (Rp.mono hF59 r_yard) (Same.refl _)) (Same.refl _)))) (t_not (t_B (F := H56) (g_call2 (ma := .ok yard) (mb := dyIdx found (1 : Int)) (g_var (a := yard) (Rp.mono hF59 r_yard) (Same.refl _)) (g_idxDy (g_var (a := found) L25.see (Same.refl _)) g_int (Same.refl _))))))
    · intro F66 H67 nx65 e068 hQ
      replace hQ := if_t hQ
      replace r_yard := Rp.mono nx65.ff r_yard
      replace r6 := Rp.mono nx65.ff r6
      replace r13 := Rp.mono nx65.ff r13
      replace L25 := L25.nx0 nx65
      have hF69 := nx65.fh
      first | with_reducible refine st_n ?_ | skip
      refine s_ret ?_ e068 hQ (fun a h => h)
      exact (g_sc (F' := H67) g_bl)
    intro F66 H67 nx65 e068 hQ
    replace hQ := if_f hQ
    refine st_next ?_
    replace r_yard := Rp.mono nx65.ff r_yard
    replace r6 := Rp.mono nx65.ff r6
    replace r13 := Rp.mono nx65.ff r13
    replace L25 := L25.nx0 nx65
    have hF70 := nx65.fh
    first | with_reducible refine st_n ?_ | skip
    refine st_seq ?_
    refine s_asg ?_ hF70 e068 hQ ?_
    · exact (g_listI (g_unD (g_idxDy (g_var (a := found) L25.see (Same.refl _)) g_int (Same.refl _))))
    intro kept v77 F72 H73 nx71 e074 r78 hQ
    replace r_yard := Rp.mono nx71.ff r_yard
    replace r6 := Rp.mono nx71.ff r6
    replace r13 := Rp.mono nx71.ff r13
    replace L25 := L25.nx0 nx71
    have hF79 := nx71.fh
    first | with_reducible refine st_n ?_ | skip
    refine st_seq ?_
    refine s_appDie (m := R.bd (dyIdx found (1 : Int)) fun (t80 : Dy) => (unD t80 : R (List Int))) (me := .ok (1 : Int)) L25 ?ha ?he hF79 e074 hQ ?_
    case ha => exact (g_unD (g_idxDy (g_var (a := found) L25.rep L25.gh) (g_sc (F' := H73) g_int) L25.gh))
    case he => exact g_int
    intro p85 F82 H83 nx81 e084 hne86 hQ
    replace r_yard := Rp.mono nx81.ff r_yard
    replace r6 := Rp.mono nx81.ff r6
    replace r13 := Rp.mono nx81.ff r13
    replace r78 := Rp.mono nx81.ff r78
    have hF88 := nx81.fh
    first | with_reducible refine st_n ?_ | skip
    refine s_ret ?_ e084 hQ (fun a h => h)
    exact (g_sc (F' := H83) (g_eqDy (g_call1 (ma := .ok handed) (g_var (a := handed) (Rp.mono hF88 r13) (Same.refl _))) (g_dy (g_pair g_str (g_var (a := kept) (Rp.mono hF88 r78) (Same.refl _)))) (Same.refl _)))

abbrev N_law : List Str := ["script", "one", "other", "yard"]
theorem sc_law : FnScope N_law ["script"] (defScope s_law) := ⟨rfl, rfl, rfl, by decide +kernel, rfl, by decide +kernel, by decide +kernel⟩
theorem ok_law (T : Hd K mg) {fd : FuncData} (F : FunD K "law" "law" (defArgs s_law) (defBody s_law) (defScope s_law) [] [] (He.ga K "law") fd) : FnOk P w K mg base (L2.CX P w) 5 (He.ga K "law") fd ["script"] (sp1 K m_law) := by
  obtain ⟨fd__law_changed, kp__law_changed, b__law_changed, G__law_changed⟩ := ok__law_changed (P := P) (w := w) (base := base) T
  obtain ⟨fd__law_home, kp__law_home, b__law_home, G__law_home⟩ := ok__law_home (P := P) (w := w) (base := base) T
  obtain ⟨fd__law_right, kp__law_right, b__law_right, G__law_right⟩ := ok__law_right (P := P) (w := w) (base := base) T
  obtain ⟨fd__law_sums, kp__law_sums, b__law_sums, G__law_sums⟩ := ok__law_sums (P := P) (w := w) (base := base) T
  refine F.ok sc_law (fun vs H Q E h => ?_) (fun cdv A outer s H vs Q E hr h => ?_)
  · obtain ⟨v_script, script, rfl, r_script, hQ⟩ := h
    rfl
  · obtain ⟨v_script, script, rfl, r_script, hQ⟩ := h
    have tk : Takes (cxOf (L2.CX P w) P w K mg base N_law "law" (defScope s_law) (He.ga K "law") cdv A outer s H E) (fun cls d _ H => E cls d H) := takes_of rfl rfl rfl rfl
    refine ⟨_, (by exact (pss_cons (ps_asg (pe_callS G__law_sums (hr.mono (by decide)) rfl T.g__law_sums kp__law_sums b__law_sums (fun σ => passAt tk σ) (pa_cons (pv 0) pa_nil)) (pg_lst rfl (pgs_cons (pg_name (i := 1) sc_law.nd rfl (Or.inl rfl)) (pgs_cons (pg_name (i := 2) sc_law.nd rfl (Or.inl rfl)) pgs_nil))))
          (pss_cons (ps_set (i := 3) sc_law.nd rfl (Or.inl rfl) (pe_callS G__law_home (hr.mono (by decide)) rfl T.g__law_home kp__law_home b__law_home (fun σ => passAt tk σ) (pa_cons (pe_op op_mod (pv 1) pe_int) pa_nil)))
          (pss_one (ps_ret (pe_and (pe_callS G__law_right (hr.mono (by decide)) rfl T.g__law_right kp__law_right b__law_right (fun σ => passAt tk σ) (pa_cons (pv 3) pa_nil)) (pe_one (pe_callS G__law_right (hr.mono (by decide)) rfl T.g__law_right kp__law_right b__law_right (fun σ => passAt tk σ) (pa_cons (pe_callS G__law_changed (hr.mono (by decide)) rfl T.g__law_changed kp__law_changed b__law_changed (fun σ => passAt tk σ) (pa_cons (pv 3) (pa_cons (pv 2) pa_nil))) pa_nil))))))))), ?_⟩
    unfold m_law at hQ
    first | with_reducible refine st_n ?_ | skip
    refine st_seq ?_
    refine s_unpL2 (m := m__law_sums script) ?_ (Same.refl _) (Same.refl _) hQ ?_
    · exact (g_call1 (ma := .ok script) (g_var (a := script) (Rp.mono (Same.refl _) r_script) (Same.refl _)))
    intro one other F2 H3 nx1 e04 hQ
    replace r_script := Rp.mono nx1.ff r_script
    have hF5 := nx1.fh
    first | with_reducible refine st_n ?_ | skip
    refine st_seq ?_
    refine s_asg ?_ hF5 e04 hQ ?_
    · exact (g_call1 (ma := .ok (one % (91 : Int))) (g_modL (by decide +kernel) (g_var (a := one) rfl (Same.refl _)) g_int))
    intro yard v10 F7 H8 nx6 e09 r11 hQ
    replace r_script := Rp.mono nx6.ff r_script
    have hF12 := nx6.fh
    first | with_reducible refine st_n ?_ | skip
    refine s_ret ?_ e09 hQ (fun a h => h)
    exact (g_sc (F' := H8) (g_andV (g_call1 (ma := .ok yard) (g_var (a := yard) (Rp.mono hF12 r11) (Same.refl _))) (g_call1 (ma := m__law_changed yard other) (g_call2 (ma := .ok yard) (mb := .ok other) (g_var (a := yard) (Rp.mono hF12 r11) (Same.refl _)) (g_var (a := other) rfl (Same.refl _))))))

end
end G

set_option Elab.async false
set_option linter.all false
set_option maxRecDepth 100000
set_option maxHeartbeats 4000000
set_option exponentiation.threshold 10000
namespace G
open PySem L2
/-! seeds left behind k pits; what the pits hold -/
def lf : Nat → Int → Int
  | 0, x => x
  | k + 1, x => lf k x * ((k : Int) + 1) / ((k : Int) + 2)
def hh (x : Int) (k : Nat) : Int := lf k x * ((k : Int) + 1) % ((k : Int) + 2)
theorem lf_nn : ∀ (k : Nat) {x : Int}, 0 ≤ x → 0 ≤ lf k x
  | 0, x, h => h
  | k + 1, x, h => Int.ediv_nonneg (Int.mul_nonneg (lf_nn k h) (by omega)) (by omega)
theorem lf_step {s n : Int} (h : 0 ≤ s) (hn : 0 ≤ n) : s * n / (n + 1) ≤ s := by
  have h2 : s * n ≤ s * (n + 1) := Int.mul_le_mul_of_nonneg_left (by omega) h
  have h3 := Int.ediv_le_ediv (show 0 < n + 1 by omega) h2
  rw [Int.mul_ediv_cancel _ (by omega)] at h3
  exact h3
theorem lf_lt {s n : Int} (h : 0 < s) (hn : 0 ≤ n) : s * n / (n + 1) < s := by
  rw [Int.ediv_lt_iff_lt_mul (by omega), Int.mul_add]
  omega
theorem lf_dec {x : Int} (h : 0 ≤ x) : ∀ (k d : Nat), lf (k + d) x ≤ lf k x
  | k, 0 => Int.le_refl _
  | k, d + 1 => by
    have h1 := lf_dec h k d
    have h2 : lf (k + d + 1) x ≤ lf (k + d) x := by
      show lf (k + d) x * (((k + d : Nat) : Int) + 1) / (((k + d : Nat) : Int) + 2) ≤ _
      have := lf_step (s := lf (k + d) x) (n := ((k + d : Nat) : Int) + 1) (lf_nn _ h) (by omega)
      rw [show ((k + d : Nat) : Int) + 1 + 1 = ((k + d : Nat) : Int) + 2 by omega] at this
      exact this
    rw [show k + (d + 1) = k + d + 1 by omega]
    omega
theorem hh_bd {x : Int} (k : Nat) : 0 ≤ hh x k ∧ hh x k ≤ (k : Int) + 1 := by
  unfold hh
  have h1 := Int.emod_nonneg (lf k x * ((k : Int) + 1)) (show (k : Int) + 2 ≠ 0 by omega)
  have h2 := Int.emod_lt_of_pos (lf k x * ((k : Int) + 1)) (show 0 < (k : Int) + 2 by omega)
  omega
def fp (x : Int) (n : Nat) : List Int := (List.range n).map (hh x)
theorem fp_len {x : Int} {n : Nat} : (fp x n).length = n := by unfold fp; simp
theorem fp_get {x : Int} {n k : Nat} (h : k < n) : (fp x n)[k]? = some (hh x k) := by
  unfold fp
  rw [List.getElem?_map, List.getElem?_range h]
  rfl
theorem fp_succ (x : Int) (n : Nat) : fp x (n + 1) = fp x n ++ [hh x n] := by
  unfold fp
  rw [List.range_succ, List.map_append]
  rfl
end G

set_option Elab.async false
set_option linter.all false
set_option maxRecDepth 100000
set_option maxHeartbeats 4000000
namespace G
open PySem L2
/-! one seed more, one seed less -/
theorem lf_rec (x : Int) (k : Nat) : ((k : Int) + 1) * lf k x = ((k : Int) + 2) * lf (k + 1) x + hh x k := by
  have := Int.mul_ediv_add_emod (lf k x * ((k : Int) + 1)) ((k : Int) + 2)
  show ((k : Int) + 1) * lf k x = ((k : Int) + 2) * (lf k x * ((k : Int) + 1) / ((k : Int) + 2)) + lf k x * ((k : Int) + 1) % ((k : Int) + 2)
  rw [Int.mul_comm ((k : Int) + 1)]
  omega
theorem fp_sum (x : Int) : ∀ n : Nat, (fp x n).sum = x - ((n : Int) + 1) * lf n x
  | 0 => by
    show (0 : Int) = x - (0 + 1) * x
    omega
  | n + 1 => by
    rw [fp_succ, List.sum_append, fp_sum x n]
    have := lf_rec x n
    simp only [List.sum_cons, List.sum_nil]
    rw [show (((n + 1 : Nat) : Int) + 1) = (n : Int) + 2 by omega]
    omega
theorem lf_pred {x : Int} : ∀ k : Nat, lf k x = lf k (x - 1) ∨ lf k x = lf k (x - 1) + 1
  | 0 => .inr (by show x = x - 1 + 1; omega)
  | k + 1 => by
    have h1 := lf_rec x k
    have h2 := lf_rec (x - 1) k
    have b1 := hh_bd (x := x) k
    have b2 := hh_bd (x := x - 1) k
    rcases lf_pred (x := x) k with h | h
    · left
      show lf k x * ((k : Int) + 1) / ((k : Int) + 2) = lf k (x - 1) * ((k : Int) + 1) / ((k : Int) + 2)
      rw [h]
    · rw [h, Int.mul_add] at h1
      have h3 : ((k : Int) + 2) * (lf (k + 1) x - lf (k + 1) (x - 1)) = (k : Int) + 1 + hh (x - 1) k - hh x k := by
        rw [Int.mul_sub]
        omega
      have d0 : ¬ (lf (k + 1) x - lf (k + 1) (x - 1) ≤ -1) := fun z => by
        have := Int.mul_le_mul_of_nonneg_left z (show (0 : Int) ≤ (k : Int) + 2 by omega)
        omega
      have d1 : ¬ (2 ≤ lf (k + 1) x - lf (k + 1) (x - 1)) := fun z => by
        have := Int.mul_le_mul_of_nonneg_left z (show (0 : Int) ≤ (k : Int) + 2 by omega)
        omega
      omega
/-- up to K one seed more goes on, behind it none -/
theorem hh_pred {x : Int} (h : 1 ≤ x) {n : Nat} (hn : lf n x = 0) : ∃ K : Nat, K < n ∧ (∀ k, k < K → hh x k = hh (x - 1) k - 1) ∧ hh (x - 1) K = 0 ∧ hh x K = (K : Int) + 1 ∧ ∀ k, K < k → hh x k = hh (x - 1) k := by
  have h0 : ∀ k, 0 ≤ lf k (x - 1) := fun k => lf_nn k (by omega)
  -- the first place where nothing more goes on
  have ex : ∃ m : Nat, m ≤ n ∧ lf m x = lf m (x - 1) ∧ ∀ j, j < m → lf j x = lf j (x - 1) + 1 := by
    have key : ∀ m : Nat, (∃ i : Nat, i ≤ m ∧ lf i x = lf i (x - 1) ∧ ∀ j, j < i → lf j x = lf j (x - 1) + 1) ∨ ∀ j, j ≤ m → lf j x = lf j (x - 1) + 1 := by
      intro m
      induction m with
      | zero =>
        rcases lf_pred (x := x) 0 with q | q
        · exact .inl ⟨0, by omega, q, fun j hj => by omega⟩
        · exact .inr fun j hj => by rw [show j = 0 by omega]; exact q
      | succ m ih =>
        rcases ih with ⟨i, a, b, c⟩ | ih
        · exact .inl ⟨i, by omega, b, c⟩
        · rcases lf_pred (x := x) (m + 1) with q | q
          · exact .inl ⟨m + 1, by omega, q, fun j hj => ih j (by omega)⟩
          · exact .inr fun j hj => by
              by_cases c : j = m + 1
              · rw [c]; exact q
              · exact ih j (by omega)
    rcases key n with ⟨i, a, b, c⟩ | q
    · exact ⟨i, a, b, c⟩
    · have a := q n (Nat.le_refl _)
      have b := h0 n
      omega
  obtain ⟨m, hm, e, hj⟩ := ex
  have m1 : 0 < m := by
    by_cases c : m = 0
    · subst c
      have : x = x - 1 := e
      omega
    · omega
  have same : ∀ d : Nat, lf (m + d) x = lf (m + d) (x - 1) := by
    intro d
    induction d with
    | zero => exact e
    | succ d ih =>
      show lf (m + d) x * _ / _ = lf (m + d) (x - 1) * _ / _
      rw [ih]
  have K1 := lf_rec x (m - 1)
  have K2 := lf_rec (x - 1) (m - 1)
  have b1 := hh_bd (x := x) (m - 1)
  have b2 := hh_bd (x := x - 1) (m - 1)
  have q := hj (m - 1) (by omega)
  rw [show m - 1 + 1 = m by omega] at K1 K2
  rw [e, q, Int.mul_add] at K1
  have hK : hh x (m - 1) = hh (x - 1) (m - 1) + ((m - 1 : Nat) : Int) + 1 := by omega
  refine ⟨m - 1, by omega, fun k hk => ?_, by omega, by omega, fun k hk => ?_⟩
  · have a1 := lf_rec x k
    have a2 := lf_rec (x - 1) k
    rw [hj k (by omega), hj (k + 1) (by omega), Int.mul_add, Int.mul_add] at a1
    omega
  · unfold hh
    have := same (k - m)
    rw [show m + (k - m) = k by omega] at this
    rw [this]
end G

set_option Elab.async false
set_option linter.all false
set_option maxRecDepth 100000
set_option maxHeartbeats 4000000
namespace G
open PySem L2
theorem idx_end {l : List Int} {x : Int} (h : l[l.length - 1]? = some x) : idx l (-1) = .ok x := idx_last (by rw [List.getLast?_eq_getElem?]; exact h)
theorem ne_last {l : List Int} (h : 0 < l.length) : ∃ x, l[l.length - 1]? = some x := ⟨_, List.getElem?_eq_getElem (by omega)⟩
/-- T is l without the noughts at its end -/
def Trm (l T : List Int) : Prop := ∃ n : Nat, n ≤ l.length ∧ T = l.take n ∧ (∀ x, 0 < n → l[n - 1]? = some x → x ≠ 0) ∧ ∀ (i : Nat) (x : Int), n ≤ i → l[i]? = some x → x = 0
theorem trm_uni {l T U : List Int} (h : Trm l T) (g : Trm l U) : T = U := by
  obtain ⟨n, h1, h2, h3, h4⟩ := h
  obtain ⟨m, g1, g2, g3, g4⟩ := g
  have : n = m := by
    rcases Nat.lt_trichotomy n m with c | c | c
    · have q : l[m - 1]? = some (l[m - 1]'(by omega)) := List.getElem?_eq_getElem (by omega)
      exact absurd (h4 (m - 1) _ (by omega) q) (g3 _ (by omega) q)
    · exact c
    · have q : l[n - 1]? = some (l[n - 1]'(by omega)) := List.getElem?_eq_getElem (by omega)
      exact absurd (g4 (n - 1) _ (by omega) q) (h3 _ (by omega) q)
  rw [h2, g2, this]
/-- what the sowing makes, not yet trimmed -/
def raw (l : List Int) (p : Int) : List Int := (l.take (p - 1).toNat).map (· + 1) ++ [0] ++ l.drop p.toNat
theorem raw_len {l : List Int} {p : Int} (h1 : 1 ≤ p) (h2 : p ≤ l.length) : (raw l p).length = l.length := by
  unfold raw
  simp
  omega
theorem near_ok {l : List Int} {p : Int} (h : l.length ≤ 100000) (h1 : 1 ≤ p) (h2 : p ≤ l.length) :
    compR (cut l none (some (p - (1 : Int)))) (fun (seeds : Int) => .ok true) (fun (seeds : Int) => .ok (seeds + (1 : Int))) = .ok ((l.take (p - 1).toNat).map (· + 1)) := by
  rw [cut_take (by omega) (by omega)]
  exact compR_ok (by simp; unfold lim; omega) fun x _ => rfl
theorem trm_len {l T : List Int} (h : Trm l T) : T.length ≤ l.length := by
  obtain ⟨n, h1, rfl, _⟩ := h
  simp
  omega
theorem raw_fp {x : Int} {n K : Nat} (hK : K < n) (h1 : ∀ k, k < K → hh x k = hh (x - 1) k - 1) (h2 : hh (x - 1) K = 0) (h3 : ∀ k, K < k → hh x k = hh (x - 1) k) : raw (fp x n) ((K : Int) + 1) = fp (x - 1) n := by
  have hl : (raw (fp x n) ((K : Int) + 1)).length = n := by rw [raw_len (by omega) (by rw [fp_len]; omega), fp_len]
  apply List.ext_getElem?
  intro j
  by_cases c : j < n
  · rw [fp_get c]
    unfold raw
    rw [show ((K : Int) + 1 - 1).toNat = K by omega, show ((K : Int) + 1).toNat = K + 1 by omega]
    have lt : ((fp x n).take K).length = K := by rw [List.length_take, fp_len]; omega
    have lm : (((fp x n).take K).map (· + 1)).length = K := by rw [List.length_map, lt]
    have la : (((fp x n).take K).map (· + 1) ++ [0]).length = K + 1 := by rw [List.length_append, lm]; rfl
    by_cases c1 : j < K
    · rw [List.getElem?_append_left (by rw [la]; omega), List.getElem?_append_left (by rw [lm]; exact c1), List.getElem?_map, List.getElem?_take, if_pos c1, fp_get c]
      have := h1 j c1
      simp only [Option.map_some]
      congr 1
      omega
    · by_cases c2 : j = K
      · subst c2
        rw [List.getElem?_append_left (by rw [la]; omega), List.getElem?_append_right (by rw [lm]; omega), lm, h2]
        simp
      · rw [List.getElem?_append_right (by rw [la]; omega), la, List.getElem?_drop, ← h3 j (by omega), ← fp_get (x := x) c]
        congr 1
        omega
  · rw [List.getElem?_eq_none (by omega), List.getElem?_eq_none (by rw [fp_len]; omega)]
/-- the yard of a number, with noughts behind it -/
theorem trm_fp {y : Int} (h : 0 ≤ y) {n m : Nat} (hm : m ≤ n) (h1 : lf m y = 0) (h2 : ∀ j, j < m → 0 < lf j y) : Trm (fp y n) (fp y m) := by
  refine ⟨m, by rw [fp_len]; exact hm, ?_, fun x hx e => ?_, fun i x hi e => ?_⟩
  · apply List.ext_getElem?
    intro j
    rw [List.getElem?_take]
    by_cases c : j < m
    · rw [if_pos c, fp_get c, fp_get (by omega)]
    · rw [if_neg c, List.getElem?_eq_none (by rw [fp_len]; omega)]
  · rw [fp_get (by omega)] at e
    cases e
    have a := h2 (m - 1) (by omega)
    have r := lf_rec y (m - 1)
    rw [show m - 1 + 1 = m by omega, h1] at r
    have : 0 < (((m - 1 : Nat) : Int) + 1) * lf (m - 1) y := Int.mul_pos (by omega) a
    omega
  · have c : i < n := by
      have := (List.getElem?_eq_some_iff.mp e).1
      rw [fp_len] at this
      exact this
    rw [fp_get c] at e
    cases e
    have a1 := lf_dec h m (i - m)
    rw [show m + (i - m) = i by omega, h1] at a1
    have a2 := lf_nn i h
    unfold hh
    rw [show lf i y = 0 by omega]
    simp
theorem fp_mem {x : Int} {n : Nat} {y : Int} (h : y ∈ fp x n) : ∃ k : Nat, k < n ∧ y = hh x k := by
  unfold fp at h
  obtain ⟨k, h1, rfl⟩ := List.mem_map.mp h
  exact ⟨k, List.mem_range.mp h1, rfl⟩
end G

set_option Elab.async false
set_option linter.all false
set_option maxRecDepth 100000
set_option maxHeartbeats 4000000
namespace G
open PySem L2
theorem pop_ok {L : List Int} (hl : L.length < fuel) :
    Ok (whileS (fun (behind : (List Int)) => if (decide ((0 : Int) < (behind.length : Int))) = true then R.bd (idx behind (-(1 : Int))) fun (t27 : Int) => .ok (decide (t27 = (0 : Int))) else .ok false) (fun (behind : (List Int)) =>
    R.bd (popR behind) fun (behind : List Int) =>
  .ok behind) fuel L) (Trm L) := by
  refine ok_whileS (fun s => s.length ≤ L.length ∧ s = L.take s.length ∧ ∀ (i : Nat) (x : Int), s.length ≤ i → L[i]? = some x → x = 0) (fun s => s.length) _ fuel L ⟨by omega, by simp, fun i x h1 h2 => by rw [List.getElem?_eq_none h1] at h2; cases h2⟩ hl ?_
  intro s ⟨g1, g2, g3⟩
  have hg : ∀ i, i < s.length → s[i]? = L[i]? := fun i hi => by
    have : (L.take s.length)[i]? = L[i]? := by rw [List.getElem?_take, if_pos hi]
    rw [← g2] at this
    exact this
  by_cases c : 0 < s.length
  · obtain ⟨x, hx⟩ := ne_last c
    rw [if_pos (decide_eq_true (show (0 : Int) < (s.length : Int) by omega)), idx_end hx]
    refine ok_ret ?_
    by_cases c2 : x = 0
    · rw [if_pos (decide_eq_true c2), popR_ok c]
      refine ok_ret ⟨⟨by simp; omega, ?_, fun i y h1 h2 => ?_⟩, by simp; omega⟩
      · rw [List.length_dropLast, List.dropLast_eq_take]
        have : (L.take s.length).take (s.length - 1) = L.take (s.length - 1) := by rw [List.take_take, Nat.min_eq_left (by omega)]
        rw [← this, ← g2]
      · rw [List.length_dropLast] at h1
        by_cases c3 : i = s.length - 1
        · subst c3
          rw [← hg _ (by omega), hx] at h2
          cases h2
          exact c2
        · exact g3 i y (by omega) h2
    · rw [if_neg (by rw [decide_eq_false c2]; decide)]
      exact ⟨s.length, g1, g2, fun y _ hy => by rw [← hg _ (by omega), hx] at hy; cases hy; exact c2, g3⟩
  · rw [if_neg (by rw [decide_eq_false (by omega)]; decide)]
    refine ok_ret ?_
    rw [if_neg (by decide)]
    exact ⟨s.length, g1, g2, fun y h _ => by omega, g3⟩
/-! ### yards -/
def YD (l : List Int) : Prop := l.length ≤ 200 ∧ (∀ x, l[l.length - 1]? = some x → x ≠ 0) ∧ (∀ x ∈ l, 0 ≤ x) ∧ l.sum ≤ 10000
theorem first_ok {l : List Int} (h1 : l.length ≤ 200) (h2 : ∀ x, l[l.length - 1]? = some x → x ≠ 0) :
    (if (decide ((200 : Int) < (l.length : Int))) = true then R.ok true else if (decide ((0 : Int) < (l.length : Int))) = true then R.bd (idx l (-(1 : Int))) fun (t1 : Int) => .ok (decide (t1 = (0 : Int))) else .ok false) = .ok false := by
  apply ok_is
  rw [decide_eq_false (show ¬ (200 : Int) < (l.length : Int) by omega)]
  refine ok_it (fun z => absurd z (by decide)) fun _ => ?_
  refine ok_if (fun c => ?_) fun _ => ok_ret rfl
  obtain ⟨x, hx⟩ := ne_last (l := l) (by omega)
  rw [idx_end hx]
  exact ok_ret (decide_eq_false (h2 x hx))
theorem neg_ok : ∀ {l : List Int}, (∀ x ∈ l, 0 ≤ x) → forS (fun (seeds : Int) (_ : Unit) => R.bd (.ok (decide (seeds < (0 : Int)))) fun (b41 : Bool) => if b41 = true then (R.er (.own .BadYard)) else (.ok ())) l () = .ok ()
  | [], _ => rfl
  | x :: l, h => by
    have h1 := h x (by simp)
    unfold forS
    rw [bd_ok, decide_eq_false (by omega)]
    exact neg_ok fun y hy => h y (by simp [hy])
theorem neg_no : ∀ {l : List Int}, (∃ x ∈ l, x < 0) → forS (fun (seeds : Int) (_ : Unit) => R.bd (.ok (decide (seeds < (0 : Int)))) fun (b41 : Bool) => if b41 = true then (R.er (.own .BadYard)) else (.ok ())) l () = .er (.own .BadYard)
  | [], ⟨x, h, _⟩ => by cases h
  | y :: l, ⟨x, h, hx⟩ => by
    unfold forS
    by_cases c : y < 0
    · rw [bd_ok, decide_eq_true c]
      rfl
    · rw [bd_ok, decide_eq_false c]
      refine neg_no ⟨x, ?_, hx⟩
      rcases List.mem_cons.mp h with e | e
      · exact absurd (e ▸ hx) c
      · exact e
theorem ask_ok {l : List Int} (h : YD l) : m_ask_yard l = .ok () := by
  obtain ⟨h1, h2, h3, h4⟩ := h
  unfold m_ask_yard
  rw [first_ok h1 h2, bd_ok, if_neg (by decide), bd_ok, neg_ok h3, bd_ok, bd_ok, decide_eq_false (by omega)]
  rfl
theorem ask_long {l : List Int} (h : 200 < l.length) : m_ask_yard l = .er (.own .BadYard) := by
  unfold m_ask_yard
  rw [decide_eq_true (show (200 : Int) < (l.length : Int) by omega)]
  rfl
theorem ask_nought {l : List Int} (h : l[l.length - 1]? = some 0) : m_ask_yard l = .er (.own .BadYard) := by
  by_cases c : 200 < l.length
  · exact ask_long c
  · have hl := (List.getElem?_eq_some_iff.mp h).1
    unfold m_ask_yard
    rw [decide_eq_false (show ¬ (200 : Int) < (l.length : Int) by omega), if_neg (by decide), decide_eq_true (show (0 : Int) < (l.length : Int) by omega), if_pos rfl, idx_end h]
    rfl
theorem ask_neg {l : List Int} (h1 : l.length ≤ 200) (h2 : ∀ x, l[l.length - 1]? = some x → x ≠ 0) (h3 : ∃ x ∈ l, x < 0) : m_ask_yard l = .er (.own .BadYard) := by
  unfold m_ask_yard
  rw [first_ok h1 h2, bd_ok, if_neg (by decide), bd_ok, neg_no h3]
  rfl
theorem ask_sum {l : List Int} (h1 : l.length ≤ 200) (h2 : ∀ x, l[l.length - 1]? = some x → x ≠ 0) (h3 : ∀ x ∈ l, 0 ≤ x) (h4 : 10000 < l.sum) : m_ask_yard l = .er (.own .BadYard) := by
  unfold m_ask_yard
  rw [first_ok h1 h2, bd_ok, if_neg (by decide), bd_ok, neg_ok h3, bd_ok, bd_ok, decide_eq_true h4]
  rfl
theorem emptied_ok {l : List Int} {p : Int} (h : l.length ≤ 200) (h1 : 1 ≤ p) (h2 : p ≤ l.length) : Ok (m_pit_emptied l p) (Trm (raw l p)) := by
  unfold m_pit_emptied
  rw [near_ok (by omega) h1 h2, bd_ok, gd_pos (by simp; unfold lim; omega), bd_ok, cut_drop (by omega) h2, gd_pos (by simp; unfold lim; omega), bd_ok]
  exact ok_bd (pop_ok (L := raw l p) (by rw [raw_len h1 h2]; rw [fuel_eq]; omega)) fun T hT => ok_st (ok_ret hT)
theorem lf_mono {x y : Int} (h : x ≤ y) : ∀ k : Nat, lf k x ≤ lf k y := by
  have key : ∀ (d : Nat) (x : Int) (k : Nat), lf k x ≤ lf k (x + d) := by
    intro d
    induction d with
    | zero => intro x k; simp
    | succ d ih =>
      intro x k
      have h1 := ih x k
      have h2 := lf_pred (x := x + ((d + 1 : Nat) : Int)) k
      rw [show x + ((d + 1 : Nat) : Int) - 1 = x + (d : Int) by omega] at h2
      omega
  intro k
  have := key (y - x).toNat x k
  rw [show x + ((y - x).toNat : Int) = y by omega] at this
  exact this
theorem lf_200 : lf 200 10000 = 0 := by decide +kernel
theorem yard_200 {x : Int} {n : Nat} (h0 : 0 ≤ x) (hx : x ≤ 10000) (h2 : ∀ j, j < n → 0 < lf j x) : n ≤ 200 := by
  by_cases c : n ≤ 200
  · exact c
  · have a := h2 200 (by omega)
    have b := lf_mono hx 200
    rw [lf_200] at b
    omega
theorem fp_last {x : Int} {n : Nat} (h1 : lf n x = 0) (h2 : ∀ j, j < n → 0 < lf j x) : ∀ y, (fp x n)[(fp x n).length - 1]? = some y → y ≠ 0 := by
  intro y hy
  rw [fp_len] at hy
  by_cases c : n = 0
  · subst c
    cases hy
  · rw [fp_get (by omega)] at hy
    cases hy
    have a := h2 (n - 1) (by omega)
    have r := lf_rec x (n - 1)
    rw [show n - 1 + 1 = n by omega, h1] at r
    have : 0 < (((n - 1 : Nat) : Int) + 1) * lf (n - 1) x := Int.mul_pos (by omega) a
    omega
theorem fp_YD {x : Int} {n : Nat} (h0 : 0 ≤ x) (hx : x ≤ 10000) (h1 : lf n x = 0) (h2 : ∀ j, j < n → 0 < lf j x) : YD (fp x n) := by
  refine ⟨by rw [fp_len]; exact yard_200 h0 hx h2, fp_last h1 h2, fun y hy => ?_, by rw [fp_sum, h1]; omega⟩
  obtain ⟨k, _, rfl⟩ := fp_mem hy
  exact (hh_bd k).1
end G

set_option Elab.async false
set_option linter.all false
set_option maxRecDepth 100000
set_option maxHeartbeats 4000000
set_option exponentiation.threshold 10000
namespace G
open PySem L2
theorem yard_ok {x : Int} (h0 : 0 ≤ x) (h1 : x ≤ 10000) : ∃ n : Nat, m_home_yard x = .ok (fp x n) ∧ lf n x = 0 ∧ (∀ j, j < n → 0 < lf j x) ∧ (n : Int) ≤ x := by
  have key : Ok (m_home_yard x) fun l => ∃ n : Nat, l = fp x n ∧ lf n x = 0 ∧ (∀ j, j < n → 0 < lf j x) ∧ (n : Int) ≤ x := by
    unfold m_home_yard
    rw [decide_eq_false (show ¬ x < 0 by omega), decide_eq_false (show ¬ 10000 < x by omega)]
    refine ok_st (ok_it (fun z => absurd z (by decide)) fun _ => ok_st (ok_st ?_))
    refine ok_bd (ok_whileS (fun (s : Int × List Int) => ∃ n : Nat, s.2 = fp x n ∧ s.1 = lf n x ∧ (n : Int) + s.1 ≤ x ∧ ∀ j, j < n → 0 < lf j x) (fun s => s.1.toNat) (fun s => ∃ n : Nat, s.2 = fp x n ∧ lf n x = 0 ∧ (∀ j, j < n → 0 < lf j x) ∧ (n : Int) ≤ x) fuel (x, []) ⟨0, rfl, rfl, by simp, fun j hj => by omega⟩ (by rw [fuel_eq]; show x.toNat < _; omega) ?_) fun s hs => ?_
    · rintro ⟨s, yard⟩ ⟨n, a0, a1, a2, a3⟩
      have b0 : yard = fp x n := a0
      have b1 : s = lf n x := a1
      have b2 : (n : Int) + s ≤ x := a2
      clear a0 a1 a2
      have s0 : 0 ≤ s := by rw [b1]; exact lf_nn _ h0
      have hl : yard.length = n := by rw [b0, fp_len]
      refine ok_ret ?_
      by_cases c : 0 < s
      · rw [if_pos (decide_eq_true c)]
        show Ok (R.bd (R.ok ((yard.length : Int) + 1)) _) _
        refine ok_st ?_
        rw [hl]
        have hm : mulR ((n : Int) + 1) s = .ok (((n : Int) + 1) * s) := mulR_ok (w := 14) (v := 14) (by omega) (by omega) s0 (by omega) (by omega) (by omega) (by omega)
        rw [hm, bd_ok, modR_ok (by omega), bd_ok, appR_ok (by unfold lim; omega), bd_ok, bd_ok, divR_ok (w := 15) (by omega) (by omega) (by omega) (by omega), bd_ok]
        have hlt := lf_lt (s := s) (n := (n : Int) + 1) c (by omega)
        have hn : 0 ≤ s * ((n : Int) + 1) / ((n : Int) + 1 + 1) := Int.ediv_nonneg (Int.mul_nonneg s0 (by omega)) (by omega)
        rw [Int.mul_comm ((n : Int) + 1) s]
        refine ok_ret ⟨⟨n + 1, ?_, ?_, ?_, fun j hj => ?_⟩, ?_⟩
        · show yard ++ [s * ((n : Int) + 1) % ((n : Int) + 1 + 1)] = fp x (n + 1)
          rw [fp_succ, b0, b1]
          rfl
        · show s * ((n : Int) + 1) / ((n : Int) + 1 + 1) = lf n x * ((n : Int) + 1) / ((n : Int) + 2)
          rw [← b1, show (n : Int) + 1 + 1 = (n : Int) + 2 by omega]
        · show ((n + 1 : Nat) : Int) + s * ((n : Int) + 1) / ((n : Int) + 1 + 1) ≤ x
          omega
        · by_cases c2 : j = n
          · rw [c2, ← b1]; exact c
          · exact a3 j (by omega)
        · show (s * ((n : Int) + 1) / ((n : Int) + 1 + 1)).toNat < s.toNat
          omega
      · rw [if_neg (by rw [decide_eq_false c]; decide)]
        exact ⟨n, b0, by omega, a3, by omega⟩
    · obtain ⟨s, yard⟩ := s
      exact ok_st (ok_ret hs)
  obtain ⟨l, e, n, rfl, h⟩ := key
  exact ⟨n, e, h⟩
end G

set_option Elab.async false
set_option linter.all false
set_option maxRecDepth 100000
set_option maxHeartbeats 4000000
namespace G
open PySem L2
theorem fullp_ok {x : Int} {n K : Nat} (hK : K < n) (h1 : ∀ k, k < K → hh x k ≠ (k : Int) + 1) (h2 : hh x K = (K : Int) + 1) : m_first_full (fp x n) = .ok (some ((K : Int) + 1)) := by
  apply ok_is
  unfold m_first_full
  refine ok_st (ok_bd (ok_forR (fun i _ => i ≤ K) (fun _ => False) (fun r => r = some ((K : Int) + 1)) (by omega) ?_) fun f hf => ?_)
  · rintro i ⟨a, b⟩ s hy hi
    obtain ⟨ha, hb⟩ := enumL_at hy
    have ha' : a = (i : Int) := ha
    have hl : i < n := by
      have := (List.getElem?_eq_some_iff.mp hb).1
      rw [fp_len] at this
      exact this
    rw [fp_get hl] at hb
    have hb' : b = hh x i := by cases hb; rfl
    subst ha' hb'
    by_cases c : i = K
    · subst c
      simp (disch := first | assumption | omega | (simp only [List.length_append, List.length_cons, List.length_nil, List.length_map, List.length_take, List.length_drop, List.length_replicate, List.length_set, rngL_len, enumL_len, lim_eq]; omega)) only [if_true, if_false, decide_true, decide_false, Bool.false_eq_true, Bool.true_eq_false, bd_ok, bd_er, bd_bad, ifT, ifF, dT, dF, Bool.not_true, Bool.not_false, Bool.true_and, Bool.and_true, Bool.false_and, Bool.and_false, Bool.true_or, Bool.or_true, Bool.false_or, Bool.or_false, modR_ok, gd_pos, Option.isNone, Option.isSome, flk, unO, h2]
      exact ok_ret rfl
    · simp (disch := first | assumption | omega | (simp only [List.length_append, List.length_cons, List.length_nil, List.length_map, List.length_take, List.length_drop, List.length_replicate, List.length_set, rngL_len, enumL_len, lim_eq]; omega)) only [if_true, if_false, decide_true, decide_false, Bool.false_eq_true, Bool.true_eq_false, bd_ok, bd_er, bd_bad, ifT, ifF, dT, dF, Bool.not_true, Bool.not_false, Bool.true_and, Bool.and_true, Bool.false_and, Bool.and_false, Bool.true_or, Bool.or_true, Bool.false_or, Bool.or_false, modR_ok, gd_pos, Option.isNone, Option.isSome, flk, unO, h1 i (by omega)]
      exact ok_ret (show i + 1 ≤ K by omega)
  · rw [enumL_len, fp_len] at hf
    cases f with
    | go s =>
      rcases hf with h | h
      · omega
      · exact h.elim
    | brk s => exact hf.elim
    | ret r => exact ok_ret hf
/-- one sowing of the first full pit: the yard of one seed less -/
theorem less_ok {x : Int} (h0 : 1 ≤ x) (hx : x ≤ 10000) {n : Nat} (h1 : lf n x = 0) (h2 : ∀ j, j < n → 0 < lf j x) :
    ∃ (p : Int) (m : Nat), m_first_full (fp x n) = .ok (some p) ∧ 1 ≤ p ∧ p ≤ n ∧ (fp x n)[(p - 1).toNat]? = some p ∧ m_pit_emptied (fp x n) p = .ok (fp (x - 1) m) ∧ Trm (raw (fp x n) p) (fp (x - 1) m) ∧ m_home_yard (x - 1) = .ok (fp (x - 1) m) ∧ lf m (x - 1) = 0 ∧ (∀ j, j < m → 0 < lf j (x - 1)) ∧ (m : Int) ≤ x - 1 := by
  obtain ⟨K, hK, a1, a2, a3, a4⟩ := hh_pred h0 h1
  obtain ⟨m, m0, m1, m2, m3⟩ := yard_ok (x := x - 1) (by omega) (by omega)
  have hf := fullp_ok (x := x) (n := n) (K := K) hK (fun k hk => by have := hh_bd (x := x - 1) k; have := a1 k hk; omega) a3
  have hn := yard_200 (by omega) hx h2
  have hmn : m ≤ n := by
    by_cases c : m ≤ n
    · exact c
    · have p := m2 n (by omega)
      rcases lf_pred (x := x) n with q | q <;> omega
  obtain ⟨T, eT, hT⟩ := emptied_ok (l := fp x n) (p := (K : Int) + 1) (by rw [fp_len]; omega) (by omega) (by rw [fp_len]; omega)
  have hT' := hT
  rw [raw_fp hK a1 a2 a4] at hT
  have := trm_uni hT (trm_fp (y := x - 1) (by omega) hmn m1 m2)
  subst this
  exact ⟨(K : Int) + 1, m, hf, by omega, by omega, by rw [show ((K : Int) + 1 - 1).toNat = K by omega, fp_get hK, a3], eT, hT', m0, m1, m2, m3⟩
end G

set_option Elab.async false
set_option linter.all false
set_option maxRecDepth 100000
set_option maxHeartbeats 4000000
set_option exponentiation.threshold 10000
namespace G
open PySem L2
/-- a row of sowings of full pits that brings all home, each pit the nearest full one -/
inductive Pln : List Int → List (Option Int) → Prop
  | nil : Pln [] []
  | cons {l T : List Int} {p : Int} {r : List (Option Int)} : 1 ≤ p → p ≤ l.length → l[(p - 1).toNat]? = some p → Trm (raw l p) T → l.length ≤ 200 → Pln T r → Pln l (some p :: r)
theorem plan_ok {x : Int} (h0 : 0 ≤ x) (hx : x ≤ 10000) {n : Nat} (h1 : lf n x = 0) (h2 : ∀ j, j < n → 0 < lf j x) : Ok (m_homeward_plan (fp x n)) fun pl => (pl.length : Int) = x ∧ Pln (fp x n) pl := by
  unfold m_homeward_plan
  first | refine ok_eq (gd_pos (by decide)) (ok_st ?_) | refine ok_st (ok_st ?_)
  refine ok_bd (ok_whileS (fun (s : List Int × List (Option Int)) => ∃ m : Nat, (s.2.length : Int) ≤ x ∧ s.1 = fp (x - s.2.length) m ∧ lf m (x - s.2.length) = 0 ∧ (∀ j, j < m → 0 < lf j (x - s.2.length)) ∧ ∀ r, Pln s.1 r → Pln (fp x n) (s.2 ++ r)) (fun s => (x - s.2.length).toNat) (fun s => (s.2.length : Int) = x ∧ Pln (fp x n) s.2) fuel _
    ⟨n, by show ((0 : Nat) : Int) ≤ x; omega, by show fp x n = fp (x - ((0 : Nat) : Int)) n; rw [show x - ((0 : Nat) : Int) = x by omega], by show lf n (x - ((0 : Nat) : Int)) = 0; rw [show x - ((0 : Nat) : Int) = x by omega]; exact h1, by show ∀ j, j < n → 0 < lf j (x - ((0 : Nat) : Int)); rw [show x - ((0 : Nat) : Int) = x by omega]; exact h2, fun r hr => hr⟩ (by rw [fuel_eq]; show (x - ((0 : Nat) : Int)).toNat < _; omega) ?_) ?_
  · rintro ⟨l, pl⟩ ⟨m, a0, a1, a2, a3, a4⟩
    have a0 : (pl.length : Int) ≤ x := a0
    have a1 : l = fp (x - pl.length) m := a1
    have a2 : lf m (x - pl.length) = 0 := a2
    have a3 : ∀ j, j < m → 0 < lf j (x - pl.length) := a3
    have a4 : ∀ r, Pln l r → Pln (fp x n) (pl ++ r) := a4
    subst a1
    refine ok_ret ?_
    have hsum : (fp (x - pl.length) m).sum = x - pl.length := by rw [fp_sum, a2]; omega
    by_cases c : 0 < m
    · rw [dT (show (0 : Int) < ((fp (x - pl.length) m).length : Int) by rw [fp_len]; omega), ifT]
      have c2 : 1 ≤ x - pl.length := by
        by_cases c3 : 1 ≤ x - pl.length
        · exact c3
        · have : x - pl.length = 0 := by omega
          have z := a3 0 c
          rw [this] at z
          exact absurd z (by decide)
      obtain ⟨p, k, f1, p1, p2, p3, f2, tr, f3, g1, g2, g3⟩ := less_ok c2 (by omega) a2 a3
      have hm := yard_200 (x := x - pl.length) (by omega) (by omega) a3
      have e1 : appR pl (some p) = .ok (pl ++ [some p]) := appR_ok (by unfold lim; omega)
      have e2 : idx (pl ++ [some p]) (-(1 : Int)) = .ok (some p) := idx_last (by simp)
      simp only [if_true, if_false, decide_true, decide_false, Bool.false_eq_true, Bool.true_eq_false, bd_ok, bd_er, bd_bad, ifT, ifF, Bool.not_true, Bool.not_false, Bool.true_and, Bool.and_true, Bool.false_and, Bool.and_false, Bool.true_or, Bool.or_true, Bool.false_or, Bool.or_false, Option.isNone, Option.isSome, flk, unO, f1, e1, e2, f2]
      refine ok_ret ⟨⟨k, ?_, ?_, ?_, ?_, fun r hr => ?_⟩, ?_⟩
      · show ((pl ++ [some p]).length : Int) ≤ x
        simp
        omega
      · show fp (x - pl.length - 1) k = fp (x - ((pl ++ [some p]).length : Int)) k
        congr 1
        simp
        omega
      · show lf k (x - ((pl ++ [some p]).length : Int)) = 0
        rw [show x - ((pl ++ [some p]).length : Int) = x - pl.length - 1 by simp; omega]
        exact g1
      · show ∀ j, j < k → 0 < lf j (x - ((pl ++ [some p]).length : Int))
        rw [show x - ((pl ++ [some p]).length : Int) = x - pl.length - 1 by simp; omega]
        exact g2
      · show Pln (fp x n) (pl ++ [some p] ++ r)
        rw [List.append_assoc]
        exact a4 _ (.cons p1 (by rw [fp_len]; exact p2) p3 tr (by rw [fp_len]; exact hm) hr)
      · show (x - ((pl ++ [some p]).length : Int)).toNat < (x - (pl.length : Int)).toNat
        simp
        omega
    · have : m = 0 := by omega
      subst this
      rw [dF (by simp [fp_len]), ifF]
      refine ⟨?_, ?_⟩
      · show (pl.length : Int) = x
        have : (fp (x - pl.length) 0).sum = 0 := rfl
        omega
      · have := a4 [] .nil
        rw [List.append_nil] at this
        exact this
  · rintro ⟨l, pl⟩ h
    exact ok_ret h
/-- where the yard is not the due one -/
theorem bar_ok {l d : List Int} (hl : l.length ≤ 200) (hd : d.length ≤ 200) (e1 : m_ask_yard l = .ok ()) (e2 : m_home_yard l.sum = .ok d) (ne : l ≠ d) :
    ∃ p : Nat, p ≤ l.length ∧ p ≤ d.length ∧ (p < l.length ∨ p < d.length) ∧ (∀ j, j < p → l[j]? = d[j]?) ∧ l[p]? ≠ d[p]? ∧ m_brought_home l = .ok (DyN.dy (T3.mk ("barred" : Str) ((p : Int) + 1) (d[p]?.getD 0))) := by
  have key : Ok (m_brought_home l) fun r => ∃ p : Nat, p ≤ l.length ∧ p ≤ d.length ∧ (p < l.length ∨ p < d.length) ∧ (∀ j, j < p → l[j]? = d[j]?) ∧ l[p]? ≠ d[p]? ∧ r = DyN.dy (T3.mk ("barred" : Str) ((p : Int) + 1) (d[p]?.getD 0)) := by
    unfold m_brought_home
    rw [e1, bd_ok, e2, bd_ok, dF ne, bd_ok, ifF, bd_ok]
    refine ok_bd (ok_whileS (fun (p : Int) => 0 ≤ p ∧ p ≤ l.length ∧ p ≤ d.length ∧ ∀ j : Nat, (j : Int) < p → l[j]? = d[j]?) (fun p => (l.length - p).toNat) (fun (p : Int) => 0 ≤ p ∧ p ≤ l.length ∧ p ≤ d.length ∧ (∀ j : Nat, (j : Int) < p → l[j]? = d[j]?) ∧ l[p.toNat]? ≠ d[p.toNat]?) fuel (0 : Int) ⟨by omega, by omega, by omega, fun j hj => by omega⟩ (by rw [fuel_eq]; omega) ?_) ?_
    · intro p ⟨p0, p1, p2, p3⟩
      obtain ⟨k, rfl⟩ : ∃ k : Nat, p = (k : Int) := ⟨p.toNat, by omega⟩
      have differ : l[k]? ≠ d[k]? → (0 : Int) ≤ (k : Int) ∧ (k : Int) ≤ l.length ∧ (k : Int) ≤ d.length ∧ (∀ j : Nat, (j : Int) < (k : Int) → l[j]? = d[j]?) ∧ l[((k : Int)).toNat]? ≠ d[((k : Int)).toNat]? := fun h => ⟨p0, p1, p2, p3, by simpa using h⟩
      by_cases c1 : (k : Int) < l.length
      · by_cases c2 : (k : Int) < d.length
        · have g1 := List.getElem?_eq_getElem (l := l) (i := k) (by omega)
          have g2 := List.getElem?_eq_getElem (l := d) (i := k) (by omega)
          generalize l[k] = a at g1
          generalize d[k] = b at g2
          simp (disch := first | assumption | omega | (simp only [List.length_append, List.length_cons, List.length_nil, List.length_map, List.length_take, List.length_drop, List.length_replicate, List.length_set, rngL_len, enumL_len, lim_eq]; omega)) only [if_true, if_false, decide_true, decide_false, Bool.false_eq_true, Bool.true_eq_false, bd_ok, bd_er, bd_bad, ifT, ifF, dT, dF, Bool.not_true, Bool.not_false, Bool.true_and, Bool.and_true, Bool.false_and, Bool.and_false, Bool.true_or, Bool.or_true, Bool.false_or, Bool.or_false, modR_ok, gd_pos, Option.isNone, Option.isSome, flk, unO, idx_nat g1, idx_nat g2]
          by_cases c3 : a = b
          · subst c3
            simp (disch := first | assumption | omega | (simp only [List.length_append, List.length_cons, List.length_nil, List.length_map, List.length_take, List.length_drop, List.length_replicate, List.length_set, rngL_len, enumL_len, lim_eq]; omega)) only [if_true, if_false, decide_true, decide_false, Bool.false_eq_true, Bool.true_eq_false, bd_ok, bd_er, bd_bad, ifT, ifF, dT, dF, Bool.not_true, Bool.not_false, Bool.true_and, Bool.and_true, Bool.false_and, Bool.and_false, Bool.true_or, Bool.or_true, Bool.false_or, Bool.or_false, modR_ok, gd_pos, Option.isNone, Option.isSome, flk, unO]
            refine ok_ret ?_
            rw [if_pos rfl]
            refine ok_ret ⟨⟨by omega, by omega, by omega, fun j hj => ?_⟩, by omega⟩
            by_cases c4 : j = k
            · rw [c4, g1, g2]
            · exact p3 j (by omega)
          · rw [dF c3]
            refine ok_ret ?_
            rw [if_neg (by decide)]
            exact differ (by rw [g1, g2]; simpa using c3)
        · simp (disch := first | assumption | omega | (simp only [List.length_append, List.length_cons, List.length_nil, List.length_map, List.length_take, List.length_drop, List.length_replicate, List.length_set, rngL_len, enumL_len, lim_eq]; omega)) only [if_true, if_false, decide_true, decide_false, Bool.false_eq_true, Bool.true_eq_false, bd_ok, bd_er, bd_bad, ifT, ifF, dT, dF, Bool.not_true, Bool.not_false, Bool.true_and, Bool.and_true, Bool.false_and, Bool.and_false, Bool.true_or, Bool.or_true, Bool.false_or, Bool.or_false, modR_ok, gd_pos, Option.isNone, Option.isSome, flk, unO]
          refine ok_ret ?_
          rw [if_neg (by decide)]
          exact differ (by rw [List.getElem?_eq_none (l := d) (by omega)]; simp; omega)
      · simp (disch := first | assumption | omega | (simp only [List.length_append, List.length_cons, List.length_nil, List.length_map, List.length_take, List.length_drop, List.length_replicate, List.length_set, rngL_len, enumL_len, lim_eq]; omega)) only [if_true, if_false, decide_true, decide_false, Bool.false_eq_true, Bool.true_eq_false, bd_ok, bd_er, bd_bad, ifT, ifF, dT, dF, Bool.not_true, Bool.not_false, Bool.true_and, Bool.and_true, Bool.false_and, Bool.and_false, Bool.true_or, Bool.or_true, Bool.false_or, Bool.or_false, modR_ok, gd_pos, Option.isNone, Option.isSome, flk, unO]
        refine ok_ret ?_
        rw [if_neg (by decide)]
        by_cases c2 : (k : Int) < d.length
        · exact differ (by rw [List.getElem?_eq_none (l := l) (by omega)]; simp; omega)
        · exfalso
          apply ne
          apply List.ext_getElem?
          intro j
          by_cases c4 : (j : Int) < k
          · exact p3 j c4
          · rw [List.getElem?_eq_none (by omega), List.getElem?_eq_none (by omega)]
    · intro p ⟨p0, p1, p2, p3, p4⟩
      obtain ⟨k, rfl⟩ : ∃ k : Nat, p = (k : Int) := ⟨p.toNat, by omega⟩
      rw [show ((k : Int)).toNat = k by omega] at p4
      have alt : k < l.length ∨ k < d.length := by
        by_cases c : k < l.length
        · exact .inl c
        · by_cases c2 : k < d.length
          · exact .inr c2
          · rw [List.getElem?_eq_none (by omega), List.getElem?_eq_none (by omega)] at p4
            exact absurd rfl p4
      by_cases c : (k : Int) < d.length
      · have g2 := List.getElem?_eq_getElem (l := d) (i := k) (by omega)
        simp (disch := first | assumption | omega | (simp only [List.length_append, List.length_cons, List.length_nil, List.length_map, List.length_take, List.length_drop, List.length_replicate, List.length_set, rngL_len, enumL_len, lim_eq]; omega)) only [if_true, if_false, decide_true, decide_false, Bool.false_eq_true, Bool.true_eq_false, bd_ok, bd_er, bd_bad, ifT, ifF, dT, dF, Bool.not_true, Bool.not_false, Bool.true_and, Bool.and_true, Bool.false_and, Bool.and_false, Bool.true_or, Bool.or_true, Bool.false_or, Bool.or_false, modR_ok, gd_pos, Option.isNone, Option.isSome, flk, unO, idx_nat g2]
        exact ok_ret ⟨k, by omega, by omega, alt, fun j hj => p3 j (by omega), p4, by rw [g2]; rfl⟩
      · simp (disch := first | assumption | omega | (simp only [List.length_append, List.length_cons, List.length_nil, List.length_map, List.length_take, List.length_drop, List.length_replicate, List.length_set, rngL_len, enumL_len, lim_eq]; omega)) only [if_true, if_false, decide_true, decide_false, Bool.false_eq_true, Bool.true_eq_false, bd_ok, bd_er, bd_bad, ifT, ifF, dT, dF, Bool.not_true, Bool.not_false, Bool.true_and, Bool.and_true, Bool.false_and, Bool.and_false, Bool.true_or, Bool.or_true, Bool.false_or, Bool.or_false, modR_ok, gd_pos, Option.isNone, Option.isSome, flk, unO]
        exact ok_ret ⟨k, by omega, by omega, alt, fun j hj => p3 j (by omega), p4, by rw [List.getElem?_eq_none (l := d) (by omega)]; rfl⟩
  obtain ⟨r, e, p, a, b, c, d1, d2, rfl⟩ := key
  exact ⟨p, a, b, c, d1, d2, e⟩
end G

set_option Elab.async false
set_option linter.all false
set_option maxRecDepth 100000
set_option maxHeartbeats 4000000
namespace G
open PySem L2
theorem trimmed_ok {L : List Int} (hl : L.length < fuel) : Ok (m__law_trimmed L) (Trm L) := by
  unfold m__law_trimmed
  refine ok_st ?_
  refine ok_bd (ok_whileS (fun (m : Int) => 0 ≤ m ∧ m ≤ L.length ∧ ∀ (i : Nat) (x : Int), m.toNat ≤ i → L[i]? = some x → x = 0) (fun (m : Int) => m.toNat) (fun (m : Int) => 0 ≤ m ∧ m ≤ L.length ∧ (∀ (i : Nat) (x : Int), m.toNat ≤ i → L[i]? = some x → x = 0) ∧ ∀ x, 0 < m.toNat → L[m.toNat - 1]? = some x → x ≠ 0) fuel (L.length : Int) ⟨by omega, by omega, fun i x h1 h2 => by rw [List.getElem?_eq_none (by omega)] at h2; cases h2⟩ (by omega) ?_) ?_
  · intro m ⟨g0, g1, g3⟩
    by_cases c : 0 < m
    · have hx : L[(m - 1).toNat]? = some (L[(m - 1).toNat]'(by omega)) := List.getElem?_eq_getElem (by omega)
      generalize L[(m - 1).toNat]'(by omega) = x at hx
      rw [if_pos (decide_eq_true c), idx_ok (by omega) hx]
      refine ok_ret ?_
      by_cases c2 : x = 0
      · rw [if_pos (decide_eq_true c2)]
        refine ok_ret ⟨⟨by omega, by omega, fun i y h1 h2 => ?_⟩, by omega⟩
        by_cases c3 : i = (m - 1).toNat
        · subst c3
          rw [hx] at h2
          cases h2
          exact c2
        · exact g3 i y (by omega) h2
      · rw [if_neg (by rw [decide_eq_false c2]; decide)]
        exact ⟨g0, g1, g3, fun y _ hy => by rw [show m.toNat - 1 = (m - 1).toNat by omega, hx] at hy; cases hy; exact c2⟩
    · rw [if_neg (by rw [decide_eq_false c]; decide)]
      refine ok_ret ?_
      rw [if_neg (by decide)]
      exact ⟨g0, g1, g3, fun y h _ => by omega⟩
  · intro m ⟨g0, g1, g3, g4⟩
    refine ok_st (ok_ret ?_)
    rw [cut_take g0 g1]
    exact ⟨m.toNat, by omega, rfl, g4, g3⟩
theorem behind_ok {l : List Int} {p : Int} (h : l.length ≤ 100000) (h1 : 1 ≤ p) (h2 : p ≤ l.length) : Ok (m__law_behind l p) (Trm (raw l p)) := by
  unfold m__law_behind
  rw [near_ok h h1 h2, bd_ok, gd_pos (by simp; unfold lim; omega), bd_ok, cut_drop (by omega) h2, gd_pos (by simp; unfold lim; omega), bd_ok]
  exact ok_bd (trimmed_ok (L := raw l p) (by rw [raw_len h1 h2]; rw [fuel_eq]; omega)) fun T hT => ok_ret hT
end G

set_option Elab.async false
set_option linter.all false
set_option maxRecDepth 100000
set_option maxHeartbeats 4000000
set_option exponentiation.threshold 10000
namespace G
open PySem L2
/-! ### the due yard, one seed behind the other -/
/-- where one seed more falls -/
theorem one_more {x : Int} (h0 : 0 ≤ x) (hx : x < 10000) {n : Nat} (h1 : lf n x = 0) (h2 : ∀ j, j < n → 0 < lf j x) :
    ∃ K : Nat, K ≤ n ∧ (∀ k, k < K → hh (x + 1) k = hh x k - 1 ∧ 0 < hh x k) ∧ hh x K = 0 ∧ hh (x + 1) K = (K : Int) + 1 ∧ (∀ k, K < k → hh (x + 1) k = hh x k) ∧
      ∀ N, N = (if K < n then n else n + 1) → lf N (x + 1) = 0 ∧ ∀ j, j < N → 0 < lf j (x + 1) := by
  have pr : ∀ k, lf k (x + 1) = lf k x ∨ lf k (x + 1) = lf k x + 1 := fun k => by
    have := lf_pred (x := x + 1) k
    rw [show x + 1 - 1 = x by omega] at this
    exact this
  obtain ⟨m, _, m1, _, _⟩ := yard_ok (x := x + 1) (by omega) (by omega)
  obtain ⟨K, hK, a1, a2, a3, a4⟩ := hh_pred (x := x + 1) (by omega) m1
  rw [show x + 1 - 1 = x by omega] at a1 a2 a4
  have zr : ∀ i, n ≤ i → hh x i = 0 ∧ lf i x = 0 := fun i hi => by
    have q1 := lf_dec h0 n (i - n)
    rw [show n + (i - n) = i by omega, h1] at q1
    have q2 := lf_nn i h0
    refine ⟨?_, by omega⟩
    unfold hh
    rw [show lf i x = 0 by omega]
    simp
  have ps : ∀ k, k < K → 0 < hh x k := fun k hk => by
    have := a1 k hk
    have b := hh_bd (x := x + 1) k
    omega
  have hKn : K ≤ n := by
    by_cases c : K ≤ n
    · exact c
    · have := ps n (by omega)
      have := (zr n (Nat.le_refl _)).1
      omega
  -- nothing more goes on behind K
  have r1 := lf_rec (x + 1) K
  have r2 := lf_rec x K
  have d : lf K (x + 1) = lf K x + 1 ∧ lf (K + 1) (x + 1) = lf (K + 1) x := by
    rcases pr K with p | p <;> rcases pr (K + 1) with q | q
    · rw [p, q] at r1; omega
    · rw [p, q, Int.mul_add] at r1; omega
    · exact ⟨p, q⟩
    · rw [p, q, Int.mul_add, Int.mul_add] at r1; omega
  have later : ∀ j, lf (K + 1 + j) (x + 1) = lf (K + 1 + j) x := by
    intro j
    induction j with
    | zero => exact d.2
    | succ j ih =>
      show lf (K + 1 + j) (x + 1) * (((K + 1 + j : Nat) : Int) + 1) / (((K + 1 + j : Nat) : Int) + 2) = lf (K + 1 + j) x * (((K + 1 + j : Nat) : Int) + 1) / (((K + 1 + j : Nat) : Int) + 2)
      rw [ih]
  have more : ∀ j, j < n → 0 < lf j (x + 1) := fun j hj => by
    have := h2 j hj
    rcases pr j with p | p <;> omega
  refine ⟨K, hKn, fun k hk => ⟨a1 k hk, ps k hk⟩, a2, a3, a4, fun N hN => ?_⟩
  by_cases c : K < n
  · rw [if_pos c] at hN
    subst hN
    refine ⟨?_, more⟩
    have := later (N - (K + 1))
    rw [show K + 1 + (N - (K + 1)) = N by omega] at this
    rw [this]
    exact h1
  · rw [if_neg c] at hN
    subst hN
    have e : K = n := by omega
    subst e
    refine ⟨by rw [d.2]; exact (zr (K + 1) (by omega)).2, fun j hj => ?_⟩
    by_cases cj : j = K
    · rw [cj, d.1, h1]
      decide
    · exact more j (by omega)
def yd (x : Int) (n p : Nat) : List Int := (List.range n).map fun k => if k < p then hh x k - 1 else hh x k
theorem yd_len {x : Int} {n p : Nat} : (yd x n p).length = n := by unfold yd; simp
theorem yd_get {x : Int} {n p k : Nat} (h : k < n) : (yd x n p)[k]? = some (if k < p then hh x k - 1 else hh x k) := by
  unfold yd
  rw [List.getElem?_map, List.getElem?_range h]
  rfl
theorem home_ok {x : Int} (h0 : 0 ≤ x) (hx : x ≤ 10000) : ∃ n : Nat, m__law_home x = .ok (fp x n) ∧ lf n x = 0 ∧ ∀ j, j < n → 0 < lf j x := by
  have key : Ok (m__law_home x) fun l => ∃ n : Nat, l = fp x n ∧ lf n x = 0 ∧ ∀ j, j < n → 0 < lf j x := by
    unfold m__law_home
    rw [bd_ok, rng1_ok h0 (by omega), bd_ok]
    refine ok_bd (ok_forS (fun i (l : List Int) => ∃ n : Nat, l = fp (i : Int) n ∧ lf n (i : Int) = 0 ∧ ∀ j, j < n → 0 < lf j (i : Int)) ⟨0, rfl, rfl, fun j hj => by omega⟩ ?_) ?_
    · rintro i t l ht ⟨n, rfl, n1, n2⟩
      obtain ⟨_, t2⟩ := rngL_at ht
      have hi : (i : Int) < 10000 := by omega
      have n200 := yard_200 (by omega) (by omega) n2
      obtain ⟨K, k0, k1, k2, k3, k4, k5⟩ := one_more (by omega) hi n1 n2
      rw [bd_ok]
      refine ok_bd (ok_whileS (fun (z : Int × List Int) => ∃ p : Nat, p ≤ K ∧ z = ((p : Int), yd (i : Int) n p)) (fun z => K - z.1.toNat) (fun z => z = ((K : Int), yd (i : Int) n K)) fuel _ ⟨0, by omega, ?_⟩ (by rw [fuel_eq]; show K - _ < _; omega) ?_) ?_
      · show ((0 : Int), fp (i : Int) n) = (((0 : Nat) : Int), yd (i : Int) n 0)
        rfl
      · rintro z ⟨p, p1, rfl⟩
        show Ok (if (decide ((p : Int) < ((yd (i : Int) n p).length : Int))) = true then R.bd (idx (yd (i : Int) n p) (p : Int)) fun (t53 : Int) => .ok (decide ((0 : Int) < t53)) else .ok false) _
        rw [yd_len]
        by_cases c : p < n
        · rw [dT (show (p : Int) < (n : Int) by omega), ifT, idx_nat (yd_get c), if_neg (show ¬ p < p by omega), bd_ok]
          refine ok_ret ?_
          by_cases c2 : p = K
          · subst c2
            rw [dF (show ¬ 0 < hh (i : Int) p by omega)]
            rfl
          · rw [dT (k1 p (by omega)).2, if_pos rfl]
            show Ok (R.bd (R.bd (R.bd (idx (yd (i : Int) n p) (p : Int)) _) _) _) _
            rw [idx_nat (yd_get c), if_neg (show ¬ p < p by omega), bd_ok, bd_ok, setR_ok (by omega) (by rw [yd_len]; omega), bd_ok, bd_ok]
            refine ok_ret ⟨⟨p + 1, by omega, ?_⟩, ?_⟩
            · show ((p : Int) + 1, (yd (i : Int) n p).set ((p : Int)).toNat (hh (i : Int) p - 1)) = _
              congr 1
              apply List.ext_getElem?
              intro j
              rw [show ((p : Int)).toNat = p by omega, List.getElem?_set, yd_len]
              by_cases cj : j < n
              · rw [yd_get cj, yd_get cj]
                by_cases e : p = j
                · subst e
                  rw [if_pos rfl, if_pos c, if_pos (by omega)]
                · rw [if_neg e]
                  by_cases e2 : j < p
                  · rw [if_pos e2, if_pos (by omega)]
                  · rw [if_neg e2, if_neg (by omega)]
              · rw [List.getElem?_eq_none (by rw [yd_len]; omega), List.getElem?_eq_none (by rw [yd_len]; omega)]
                rw [if_neg (by omega)]
            · show K - ((p : Int) + 1).toNat < K - ((p : Int)).toNat
              omega
        · rw [dF (show ¬ (p : Int) < (n : Int) by omega), ifF]
          refine ok_ret ?_
          have : p = K := by omega
          subst this
          rfl
      · rintro z rfl
        have fin : ∀ L : List Int, L.length = (if K < n then n else n + 1) → (∀ j, j ≠ K → L[j]? = (yd (i : Int) n K)[j]?) → L.set K ((K : Int) + 1) = fp ((i : Int) + 1) (if K < n then n else n + 1) := by
          intro L e1 e2
          apply List.ext_getElem?
          intro j
          have KL : K < (if K < n then n else n + 1) := by split <;> omega
          rw [List.getElem?_set, e1]
          by_cases e : K = j
          · subst e
            rw [if_pos rfl, if_pos KL, fp_get KL, k3]
          · rw [if_neg e, e2 j (fun z => e z.symm)]
            by_cases cj : j < n
            · rw [yd_get cj, fp_get (by split <;> omega)]
              by_cases c2 : j < K
              · rw [if_pos c2, (k1 j c2).1]
              · rw [if_neg c2, k4 j (by omega)]
            · rw [List.getElem?_eq_none (by rw [yd_len]; omega), List.getElem?_eq_none (by rw [fp_len]; split <;> omega)]
        have done : ∃ m : Nat, fp ((i : Int) + 1) (if K < n then n else n + 1) = fp ((i + 1 : Nat) : Int) m ∧ lf m ((i + 1 : Nat) : Int) = 0 ∧ ∀ j, j < m → 0 < lf j ((i + 1 : Nat) : Int) := by
          have := k5 _ rfl
          exact ⟨_, rfl, this⟩
        show Ok (R.bd (R.bd (.ok (decide ((K : Int) = ((yd (i : Int) n K).length : Int)))) _) _) _
        rw [bd_ok, yd_len]
        by_cases c : K = n
        · rw [dT (show (K : Int) = (n : Int) by omega), ifT, appR_ok (by rw [yd_len]; unfold lim; omega), bd_ok, bd_ok, setR_ok (by omega) (by simp [yd_len]; omega), bd_ok]
          refine ok_ret ?_
          rw [show ((K : Int)).toNat = K by omega, fin _ (by rw [if_neg (by omega)]; simp [yd_len]) (fun j hj => by
            rw [List.getElem?_append, yd_len]
            by_cases cj : j < n
            · rw [if_pos cj]
            · rw [if_neg cj, List.getElem?_eq_none (l := yd (i : Int) n K) (by rw [yd_len]; omega)]
              exact List.getElem?_eq_none (by simp; omega))]
          exact done
        · rw [dF (show ¬ (K : Int) = (n : Int) by omega), ifF, bd_ok, setR_ok (by omega) (by rw [yd_len]; omega), bd_ok]
          refine ok_ret ?_
          rw [show ((K : Int)).toNat = K by omega, fin _ (by rw [if_pos (by omega), yd_len]) (fun j hj => rfl)]
          exact done
    · rintro l ⟨n, e, n1, n2⟩
      rw [rngL_len, show (((x - 0).toNat : Nat) : Int) = x by omega] at *
      exact ok_ret ⟨n, e, n1, n2⟩
  obtain ⟨l, e, n, rfl, n1, n2⟩ := key
  exact ⟨n, e, n1, n2⟩
/-! ### a plan that brings all home -/
theorem whole_int (p : Int) : m__law_whole (DyN.dy p) = .ok true := by unfold m__law_whole; rfl
theorem planned_loop {l : List Int} {pl : List (Option Int)} (h : Pln l pl) : ∃ ps : List Int, pl = ps.map some ∧ forR (ρ := Bool) (fun (pit : Dy) (left : (List Int)) => 
    R.bd (R.bd (R.bd (m__law_whole pit) fun (t38 : Bool) => .ok (!t38)) fun (t47 : Bool) => if t47 = true then .ok true else R.bd (R.bd (unD pit : R Int) fun (t39 : Int) => .ok (decide (t39 < (1 : Int)))) fun (t46 : Bool) => if t46 = true then .ok true else R.bd (R.bd (unD pit : R Int) fun (t40 : Int) => .ok (decide ((left.length : Int) < t40))) fun (t45 : Bool) => if t45 = true then .ok true else R.bd (R.bd (R.bd (R.bd (unD pit : R Int) fun (t41 : Int) => .ok (t41 - (1 : Int))) fun (t42 : Int) => idx left t42) fun (t43 : Int) => .ok (DyN.dy t43)) fun (t44 : Dy) => R.bd (eqDy t44 pit) fun c => .ok (!c)) fun (b62 : Bool) => if b62 = true then
    (R.bd (.ok false) fun (r : Bool) => .ok (.ret r))
  else
    (R.bd (R.bd (unD pit : R Int) fun (t58 : Int) => m__law_behind left t58) fun (left : List Int) =>
  .ok (.go left))) (ps.map DyN.dy) l = .ok (.go []) := by
  induction h with
  | nil => exact ⟨[], rfl, rfl⟩
  | @cons l T p r p1 p2 p3 tr hl _ ih =>
    obtain ⟨ps, rfl, e⟩ := ih
    refine ⟨p :: ps, rfl, ?_⟩
    obtain ⟨T2, e2, tr2⟩ := behind_ok (l := l) (by omega) p1 p2
    have := trm_uni tr tr2
    subst this
    have eq : eqDy (DyN.dy p) (DyN.dy p) = .ok true := by rw [eqDy_same (by decide), dT rfl]
    rw [List.map_cons]
    unfold forR
    rw [whole_int, bd_ok, bd_ok, Bool.not_true, ifF, unD_dy, bd_ok, bd_ok, dF (by omega), ifF, bd_ok, bd_ok, dF (by omega), ifF, bd_ok, bd_ok, idx_ok (by omega) p3, bd_ok, bd_ok, eq, bd_ok, Bool.not_true, bd_ok, ifF, bd_ok, e2, bd_ok, bd_ok]
    exact e
/-! ### a yard changed -/
theorem sum_set' : ∀ (l : List Int) (i : Nat) (x a : Int), l[i]? = some x → (l.set i a).sum = l.sum - x + a
  | [], _, _, _, h => by simp at h
  | y :: l, 0, x, a, h => by
    have : y = x := by simpa using h
    rw [List.set_cons_zero, List.sum_cons, List.sum_cons]
    omega
  | y :: l, i + 1, x, a, h => by
    rw [List.set_cons_succ, List.sum_cons, List.sum_cons, sum_set' l i x a (by simpa using h)]
    omega
theorem take_le {l : List Int} (h : ∀ x ∈ l, 0 ≤ x) (n : Nat) : (l.take n).sum ≤ l.sum := by
  have e : (l.take n).sum + (l.drop n).sum = l.sum := by rw [← List.sum_append, List.take_append_drop]
  have := sum_nn (xs := l.drop n) fun x hx => h x (List.mem_of_mem_drop hx)
  omega
def Chg (L S : Int) (l : List Int) : Prop := 1 ≤ l.length ∧ (l.length : Int) ≤ L ∧ l.sum ≤ S ∧ ∀ x ∈ l, 0 ≤ x
theorem chg_set {L S a x : Int} {l : List Int} {i : Nat} (h : Chg L S l) (hx : l[i]? = some x) (ha : 0 ≤ a) (hs : a ≤ x + 1) : Chg L (S + 1) (l.set i a) := by
  obtain ⟨h1, h2, h3, h4⟩ := h
  refine ⟨by simpa using h1, by simpa using h2, by rw [sum_set' _ _ _ _ hx]; omega, fun y hy => ?_⟩
  rcases List.mem_or_eq_of_mem_set hy with q | q
  · exact h4 y q
  · omega
theorem chg_up {L S L' S' : Int} {l : List Int} (h : Chg L S l) (a : L ≤ L') (b : S ≤ S') : Chg L' S' l := ⟨h.1, by have := h.2.1; omega, by have := h.2.2.1; omega, h.2.2.2⟩
theorem changed_ok {l : List Int} {z : Int} (h1 : l.length ≤ 200) (h1' : l.length ≤ 190) (h2 : ∀ x ∈ l, 0 ≤ x) (h3 : l.sum ≤ 9000) : Ok (m__law_changed l z) YD := by
  unfold m__law_changed
  rw [gd_pos (by simp; unfold lim; omega), bd_ok, bd_ok, rng1_ok (by omega) (by omega), bd_ok]
  refine ok_bd (ok_forS (fun i (w : Int × List Int) => Chg (191 + i) (9000 + 5 * i) w.2) ?_ ?_) ?_
  · refine ⟨by show 1 ≤ (l ++ [0]).length; simp, by show ((l ++ [0]).length : Int) ≤ _; simp; omega, by show (l ++ [0]).sum ≤ _; rw [List.sum_append]; simp; omega, fun x hx => ?_⟩
    rcases List.mem_append.mp hx with q | q
    · exact h2 x q
    · have : x = 0 := by simpa using q
      omega
  · rintro i t ⟨rest, o⟩ ht ho
    obtain ⟨t1, t2⟩ := rngL_at ht
    have i3 : i < 4 := by omega
    have ho : Chg (191 + i) (9000 + 5 * i) o := ho
    obtain ⟨a1, a2, a3, a4⟩ := id ho
    have p0 := Int.emod_nonneg (rest / 5) (show (o.length : Int) ≠ 0 by omega)
    have p1 := Int.emod_lt_of_pos (rest / 5) (show (0 : Int) < (o.length : Int) by omega)
    show Ok (R.bd (.ok (rest % (5 : Int))) _) _
    rw [bd_ok, modR_ok (by omega), bd_ok, divR_ok (w := 10) (by omega) (by omega) (by omega) (by omega), bd_ok]
    generalize hp : (rest / 5) % (o.length : Int) = p at p0 p1
    have st : ∀ {S : Int} {o : List Int}, Chg (191 + i) S o → p < (o.length : Int) → Ok (R.bd (idx o p) fun (t84 : Int) => .ok t84) fun x => o[p.toNat]? = some x ∧ 0 ≤ x := by
      intro S o ho hlt
      rw [idx_at p0 hlt, bd_ok]
      exact ok_ret ⟨List.getElem?_eq_getElem _, ho.2.2.2 _ (List.getElem_mem _)⟩
    have ix : ∀ {S : Int} {o : List Int}, Chg (191 + i) S o → p < (o.length : Int) → ∃ x, idx o p = .ok x ∧ o[p.toNat]? = some x ∧ 0 ≤ x := by
      intro S o ho hlt
      exact ⟨_, idx_at p0 hlt, List.getElem?_eq_getElem _, ho.2.2.2 _ (List.getElem_mem _)⟩
    rw [bd_ok]
    refine ok_bd (P := fun o' => Chg (191 + i) (9000 + 5 * i + 1) o' ∧ o'.length = o.length) (ok_if (fun _ => ?_) fun _ => ok_ret ⟨chg_up ho (by omega) (by omega), rfl⟩) ?_
    · obtain ⟨x, e1, e2, e3⟩ := ix ho p1
      rw [e1, bd_ok, bd_ok, setR_ok p0 p1, bd_ok]
      exact ok_ret ⟨chg_set ho e2 (by omega) (by omega), by simp⟩
    rintro o1 ⟨ho1, l1⟩
    rw [bd_ok]
    refine ok_bd (P := fun o' => Chg (191 + i) (9000 + 5 * i + 2) o' ∧ o'.length = o.length) (ok_if (fun _ => ?_) fun _ => ok_ret ⟨chg_up ho1 (by omega) (by omega), l1⟩) ?_
    · obtain ⟨x, e1, e2, e3⟩ := ix ho1 (by omega)
      rw [e1, bd_ok, bd_ok, bd_ok, setR_ok p0 (by omega), bd_ok]
      exact ok_ret ⟨chg_up (chg_set ho1 e2 (by split <;> omega) (by split <;> omega)) (by omega) (by omega), by simp [l1]⟩
    rintro o2 ⟨ho2, l2⟩
    rw [bd_ok]
    refine ok_bd (P := fun o' => Chg (191 + i) (9000 + 5 * i + 3) o' ∧ o'.length = o.length) (ok_if (fun _ => ?_) fun _ => ok_ret ⟨chg_up ho2 (by omega) (by omega), l2⟩) ?_
    · obtain ⟨x, e1, e2, e3⟩ := ix ho2 (by omega)
      rw [setR_ok p0 (by omega), bd_ok]
      exact ok_ret ⟨chg_up (chg_set ho2 e2 (by omega) (by omega)) (by omega) (by omega), by simp [l2]⟩
    rintro o3 ⟨ho3, l3⟩
    rw [bd_ok]
    refine ok_bd (P := fun o' => Chg (191 + i) (9000 + 5 * i + 3) o') (ok_if (fun _ => ?_) fun _ => ok_ret ho3) ?_
    · obtain ⟨b1, b2, b3, b4⟩ := ho3
      rw [cut_take p0 (by omega), cut_drop p0 (by omega), gd_pos (by simp; unfold lim; omega), bd_ok]
      refine ok_ret ⟨by simp; omega, by simp; omega, ?_, fun x hx => ?_⟩
      · rw [List.sum_append, List.sum_reverse, ← List.sum_append, List.take_append_drop]
        exact b3
      · rcases List.mem_append.mp hx with q | q
        · exact b4 x (List.mem_of_mem_take (List.mem_reverse.mp q))
        · exact b4 x (List.mem_of_mem_drop q)
    rintro o4 ⟨b1, b2, b3, b4⟩
    rw [bd_ok]
    have fin : Chg (191 + ((i + 1 : Nat) : Int)) (9000 + 5 * ((i + 1 : Nat) : Int)) o4 := ⟨b1, by omega, by omega, b4⟩
    refine ok_if (fun _ => ?_) fun _ => ok_ret fin
    rw [appR_ok (by unfold lim; omega), bd_ok]
    refine ok_ret ⟨by show 1 ≤ (o4 ++ [_]).length; simp, by show ((o4 ++ [_]).length : Int) ≤ _; simp; omega, by show (o4 ++ [_]).sum ≤ _; rw [List.sum_append]; simp; omega, fun x hx => ?_⟩
    rcases List.mem_append.mp hx with q | q
    · exact b4 x q
    · have := List.mem_singleton.mp q
      omega
  · rintro ⟨rest, o⟩ ho
    have hz : (rngL 0 (z % 4)).length ≤ 3 := by rw [rngL_len]; omega
    obtain ⟨b1, b2, b3, b4⟩ := ho
    show Ok (R.bd (m__law_trimmed o) _) _
    have b2 : (o.length : Int) ≤ 191 + ((rngL 0 (z % 4)).length : Int) := b2
    have b3 : o.sum ≤ 9000 + 5 * ((rngL 0 (z % 4)).length : Int) := b3
    refine ok_bd (trimmed_ok (by rw [fuel_eq]; omega)) fun T hT => ok_ret ?_
    obtain ⟨n, n1, rfl, n2, n3⟩ := hT
    refine ⟨by rw [List.length_take]; omega, fun x hx => ?_, fun x hx => b4 x (List.mem_of_mem_take hx), by have := take_le (l := o) b4 n; omega⟩
    rw [List.length_take, Nat.min_eq_left n1, List.getElem?_take] at hx
    by_cases c : n - 1 < n
    · rw [if_pos c] at hx
      exact n2 x (by omega) hx
    · rw [if_neg c] at hx
      cases hx
/-! ### the law -/
theorem min_uni {x : Int} {n m : Nat} (h1 : lf n x = 0) (h2 : ∀ j, j < n → 0 < lf j x) (g1 : lf m x = 0) (g2 : ∀ j, j < m → 0 < lf j x) : n = m := by
  rcases Nat.lt_trichotomy n m with c | c | c
  · have := g2 n c; omega
  · exact c
  · have := h2 m c; omega
theorem dy_some (w : Str) (ps : List Int) : (DyN.dy (w, ps.map some) : Dy) = DyN.dy (w, ps) := by
  show Dy.tup [.str w, .lst ((ps.map some).map DyN.dy)] = Dy.tup [.str w, .lst (ps.map DyN.dy)]
  rw [List.map_map]
  rfl
theorem len_ints (l : List Int) : dyLen (DyN.dy l) = .ok (l.length : Int) := by
  show R.bd (.ok (l.map DyN.dy)) (fun l => .ok (l.length : Int)) = _
  rw [bd_ok, List.length_map]
theorem word_same (w : Str) : eqDy (DyN.dy w) (DyN.dy w) = .ok true := by rw [eqDy_same (by decide), dT rfl]
theorem held_ok {l : List Int} {i : Nat} : m__law_held l ((i : Int) + 1) = .ok (l[i]?.getD 0) := by
  unfold m__law_held
  by_cases c : i < l.length
  · rw [dT (show (i : Int) + 1 ≤ (l.length : Int) by omega), bd_ok, ifT, show (i : Int) + 1 - 1 = (i : Int) by omega, idx_nat (List.getElem?_eq_getElem c), List.getElem?_eq_getElem c]
    rfl
  · rw [dF (show ¬ (i : Int) + 1 ≤ (l.length : Int) by omega), bd_ok, ifF, List.getElem?_eq_none (by omega)]
    rfl
theorem nn_zero : ∀ {l : List Int}, (∀ x ∈ l, 0 ≤ x) → l.sum = 0 → ∀ x ∈ l, x = 0
  | y :: l, h, e, x, hx => by
    have s := sum_nn (xs := l) fun z hz => h z (List.mem_cons_of_mem _ hz)
    have h0 := h y List.mem_cons_self
    rw [List.sum_cons] at e
    rcases List.mem_cons.mp hx with q | q
    · omega
    · exact nn_zero (fun z hz => h z (List.mem_cons_of_mem _ hz)) (by omega) x q
/-- of two yards of as many seeds none is the beginning of the other -/
theorem not_head {l d : List Int} (hl : ∀ x ∈ l, 0 ≤ x) (tl : ∀ x, l[l.length - 1]? = some x → x ≠ 0) (e : l.sum = d.sum) (p : Nat) (hp : p = d.length) (lt : p < l.length) (a : ∀ j, j < p → l[j]? = d[j]?) : False := by
  have ed : l.take p = d := by
    apply List.ext_getElem?
    intro j
    rw [List.getElem?_take]
    by_cases c : j < p
    · rw [if_pos c, a j c]
    · rw [if_neg c, List.getElem?_eq_none (by omega)]
  have es : (l.take p).sum + (l.drop p).sum = l.sum := by rw [← List.sum_append, List.take_append_drop]
  have z := nn_zero (l := l.drop p) (fun x hx => hl x (List.mem_of_mem_drop hx)) (by rw [ed] at es; omega)
  have g := List.getElem?_eq_getElem (l := l) (i := l.length - 1) (by omega)
  refine tl _ g (z _ ?_)
  refine List.mem_of_getElem? (i := l.length - 1 - p) ?_
  rw [List.getElem?_drop, show p + (l.length - 1 - p) = l.length - 1 by omega]
  exact g
theorem right_ok {l : List Int} (h : YD l) : m__law_right l = .ok true := by
  obtain ⟨y1, y2, y3, y4⟩ := id h
  have s0 : 0 ≤ l.sum := sum_nn (xs := l) y3
  obtain ⟨n, e1, n1, n2⟩ := home_ok s0 y4
  obtain ⟨m, e2, m1, m2, m3⟩ := yard_ok s0 y4
  have := min_uni n1 n2 m1 m2
  subst this
  have n200 := yard_200 s0 y4 n2
  have dd := fp_YD s0 y4 n1 n2
  refine ok_is ?_
  unfold m__law_right
  rw [e1, bd_ok, bd_ok]
  by_cases c : l = fp l.sum n
  · -- the due yard
    obtain ⟨pl, e3, len, pln⟩ := plan_ok s0 y4 n1 n2
    rw [← c] at e3 pln
    obtain ⟨ps, rfl, loop⟩ := planned_loop pln
    rw [List.length_map] at len
    have b : m_brought_home l = .ok (DyN.dy (("home" : Str), ps)) := by
      unfold m_brought_home
      rw [ask_ok h, bd_ok, e2, bd_ok, dT c, bd_ok, ifT, e3, bd_ok, bd_ok, dy_some, bd_ok]
    have pd : m__law_planned l (DyN.dy ps) = .ok true := by
      unfold m__law_planned
      rw [bd_ok]
      show R.bd (.ok (ps.map DyN.dy)) _ = _
      rw [bd_ok, loop, bd_ok]
      rfl
    have i0 : dyIdx (DyN.dy (("home" : Str), ps)) 0 = .ok (DyN.dy ("home" : Str)) := rfl
    have i1 : dyIdx (DyN.dy (("home" : Str), ps)) 1 = .ok (DyN.dy ps) := rfl
    have l2 : dyLen (DyN.dy (("home" : Str), ps)) = .ok 2 := rfl
    have k4 : dyIs 4 (DyN.dy (("home" : Str), ps)) = true := rfl
    have k3 : dyIs 3 (DyN.dy ps) = true := rfl
    have sm : eqDy (DyN.dy (("home" : Str), ps)) (DyN.dy (("home" : Str), ps)) = .ok true := by rw [eqDy_same (by decide), dT rfl]
    rw [b, bd_ok, dT rfl, k4, bd_ok]
    refine ok_it (fun z => by cases z) fun _ => ?_
    rw [dT c, bd_ok, Bool.not_true, ifF, l2, bd_ok, dT (show (2 : Int) = 2 from rfl), bd_ok, Bool.not_true, ifF, i0, bd_ok, word_same, bd_ok, bd_ok, Bool.not_true, ifF, i1, bd_ok, k3, bd_ok, bd_ok, Bool.not_true, ifF]
    simp only [if_true, if_false, decide_true, decide_false, Bool.false_eq_true, Bool.true_eq_false, bd_ok, bd_er, bd_bad, ifT, ifF, Bool.not_true, Bool.not_false, Bool.true_and, Bool.and_true, Bool.false_and, Bool.and_false, Bool.true_or, Bool.or_true, Bool.false_or, Bool.or_false, Option.isNone, Option.isSome, flk, unO, len_ints, pd, unD_dy, dT len, gd_pos (show ps.length < lim by unfold lim; omega), sm]
    exact ok_ret rfl
  · -- another one
    have hs : (fp l.sum n).sum = l.sum := by rw [fp_sum, n1]; omega
    obtain ⟨p, p1, p2, p3, p4, p5, e3⟩ := bar_ok (l := l) (d := fp l.sum n) y1 (by rw [fp_len]; exact n200) (ask_ok h) e2 c
    have c1 : p < l.length := by
      by_cases z : p < l.length
      · exact z
      · exact absurd (not_head (l := fp l.sum n) (d := l) dd.2.2.1 dd.2.1 hs p (by omega) (by omega) fun j hj => (p4 j hj).symm) id
    have c2 : p < (fp l.sum n).length := by
      by_cases z : p < (fp l.sum n).length
      · exact z
      · exact absurd (not_head (l := l) (d := fp l.sum n) y3 y2 hs.symm p (by omega) (by omega) fun j hj => p4 j hj) id
    generalize hd : fp l.sum n = d at *
    have hv : l[p]?.getD 0 ≠ d[p]?.getD 0 := by
      rw [List.getElem?_eq_getElem c1, List.getElem?_eq_getElem c2] at p5 ⊢
      intro z
      exact p5 (congrArg some z)
    have i0 : ∀ a b : Int, dyIdx (DyN.dy (T3.mk ("barred" : Str) a b)) 0 = .ok (DyN.dy ("barred" : Str)) := fun _ _ => rfl
    have i1 : ∀ a b : Int, dyIdx (DyN.dy (T3.mk ("barred" : Str) a b)) 1 = .ok (DyN.dy a) := fun _ _ => rfl
    have i2 : ∀ a b : Int, dyIdx (DyN.dy (T3.mk ("barred" : Str) a b)) 2 = .ok (DyN.dy b) := fun _ _ => rfl
    have l3 : ∀ a b : Int, dyLen (DyN.dy (T3.mk ("barred" : Str) a b)) = .ok 3 := fun _ _ => rfl
    have k4 : ∀ a b : Int, dyIs 4 (DyN.dy (T3.mk ("barred" : Str) a b)) = true := fun _ _ => rfl
    rw [e3, bd_ok, dT rfl, k4, bd_ok]
    refine ok_it (fun z => by cases z) fun _ => ?_
    rw [dF c, bd_ok, Bool.not_false, ifT, l3, bd_ok, dT (show (3 : Int) = 3 from rfl), bd_ok, ifT, i0, bd_ok, word_same, bd_ok, ifT, i1, bd_ok, unD_dy, bd_ok, i2, bd_ok, unD_dy, bd_ok]
    have br : m__law_barred l d ((p : Int) + 1) (d[p]?.getD 0) = .ok true := by
      refine ok_is ?_
      unfold m__law_barred
      rw [whole_int, bd_ok, bd_ok, Bool.not_true, ifF, whole_int, bd_ok, bd_ok, dF (show ¬ (p : Int) + 1 < 1 by omega), dF (show ¬ (l.length : Int) + (d.length : Int) < (p : Int) + 1 by omega), bd_ok]
      refine ok_it (fun z => by cases z) fun _ => ?_
      rw [rng2_ok (by omega) (by omega) (by omega) (by omega), bd_ok]
      refine ok_forA (fun x hx => ?_) ?_
      · obtain ⟨i, hi⟩ := List.mem_iff_getElem?.mp hx
        obtain ⟨x1, x2⟩ := rngL_at hi
        have : x = (i : Int) + 1 := by omega
        subst this
        rw [held_ok, bd_ok, held_ok, bd_ok, p4 i (by omega), dT rfl, bd_ok]
        exact ok_ret rfl
      · show Ok (R.bd (R.bd (R.bd (m__law_held d ((p : Int) + 1)) _) _) _) _
        rw [held_ok, bd_ok, dT rfl, bd_ok, ifT, held_ok, bd_ok, dF (fun z => hv z.symm), bd_ok]
        exact ok_ret rfl
    rw [br]
    exact ok_ret rfl
theorem sums_ok (ns : List Int) (hl : ns.length ≤ 63) : Ok (m__law_sums ⟨ns⟩) fun l => l.length = 2 := by
  unfold m__law_sums
  have hz : ((Scr.mk ns).l.length : Int) ≤ 63 := by show (ns.length : Int) ≤ 63; omega
  refine ok_st (ok_eq (rng1_ok (by omega) (by omega)) ?_)
  refine ok_bd (ok_forS (fun i (l : List Int) => l.length = 2) rfl ?_) ?_
  · intro i x l hx hL
    obtain ⟨rfl, hx2⟩ := rngL_at hx
    have m0 : 0 ≤ (0 + (i : Int)) % 2 := by omega
    have m1 : (0 + (i : Int)) % 2 < 2 := by omega
    have hx3 : 0 + (i : Int) < (ns.length : Int) := hx2
    rw [idx_at (xs := l) m0 (by omega), idx_at (xs := (Scr.mk ns).l) (i := 0 + (i : Int)) (by omega) hx2]
    simp (disch := first | assumption | omega | (simp only [List.length_append, List.length_cons, List.length_nil, List.length_map, List.length_take, List.length_drop, List.length_replicate, List.length_set, rngL_len, enumL_len, lim_eq]; omega)) only [if_true, if_false, decide_true, decide_false, Bool.false_eq_true, Bool.true_eq_false, bd_ok, bd_er, bd_bad, ifT, ifF, dT, dF, Bool.not_true, Bool.not_false, Bool.true_and, Bool.and_true, Bool.false_and, Bool.and_false, Bool.true_or, Bool.or_true, Bool.false_or, Bool.or_false, modR_ok, gd_pos, Option.isNone, Option.isSome, flk, unO, setR_ok (xs := l) m0 (show (0 + (i : Int)) % 2 < l.length by omega)]
    exact ok_ret (by simp [hL])
  · intro l hL
    exact ok_st (ok_ret hL)
theorem law_true (ns : List Int) (hl : ns.length ≤ 63) (hb : ∀ k ∈ ns, Builtin.Int.intBits k ≤ 1048576) : m_law ⟨ns⟩ = .ok true := by
  obtain ⟨l, e, h2⟩ := sums_ok ns hl
  match l, h2, e with
  | [one, other], _, e =>
    have elst : lst2 [one, other] = .ok (one, other) := rfl
    refine ok_is ?_
    unfold m_law
    rw [e, bd_ok, elst]
    refine ok_st ?_
    show Ok (R.bd (m__law_home (one % (91 : Int))) _) _
    obtain ⟨n, e1, n1, n2⟩ := home_ok (x := one % 91) (by omega) (by omega)
    obtain ⟨m, _, m1, m2, m3⟩ := yard_ok (x := one % 91) (by omega) (by omega)
    have := min_uni n1 n2 m1 m2
    subst this
    have dd := fp_YD (x := one % 91) (by omega) (by omega) n1 n2
    have hs : (fp (one % 91) n).sum = one % 91 := by rw [fp_sum, n1]; omega
    rw [e1, bd_ok, right_ok dd, bd_ok, ifT]
    refine ok_bd (P := fun b => b = true) (ok_bd (changed_ok (by rw [fp_len]; omega) (by rw [fp_len]; omega) dd.2.2.1 (by omega)) fun o ho => ok_of (right_ok ho) rfl) fun b hb => ok_ret hb
end G

set_option Elab.async false
set_option linter.all false
set_option maxRecDepth 100000
set_option maxHeartbeats 4000000
namespace G
open PySem PySem.Spec PyProof.Rows L2
abbrev Rr : PySem.W.OpenRow := PySem.W.OpenLaw.row PySem.Challenge.rw_sowring_k49_brought_home
abbrev hk : PySem.W.Hook := hookG 5 fa fn bx
def ob (s : PySem.W.SharedT) : He.AlD := obsGG 5 fa fn bx (HandSHeadRun.getT s)
theorem ob_eq (s : PySem.W.SharedT) : ob s = hk.obs s.abs := obsGG_eq (HandSHeadRun.getT_eq s)
theorem run (w : World) : HandSHeadRun.RunEq Rr (PySem.W.view Rr.prog [26]) hk ob 30000 ((["_wall", "SowError", "BadCount", "BadYard", "PITS_OF_A_YARD", "SEEDS_OF_A_YARD", "ask_yard", "pit_emptied", "home_yard", "first_full", "homeward_plan", "brought_home", "_law_whole", "_law_row", "_law_trimmed", "_law_behind", "_law_home", "_law_sums", "_law_changed", "_law_planned", "_law_held", "_law_barred", "_law_right"] : List PySem.Str)) w := by
  intro os
  kernel_rfl
theorem hd_of {K : PySem.W.Frag} {h : Heap} {mg : Str → Option Value} (X : K.In h) (G : h.Ns mainGlobals mg) (c : SaysG fa fn bx K) : Hd K mg where
  g_ask_yard := He.glo_ok X G (c.d.fact 0 (f := .glo "ask_yard") rfl)
  g_pit_emptied := He.glo_ok X G (c.d.fact 1 (f := .glo "pit_emptied") rfl)
  g_home_yard := He.glo_ok X G (c.d.fact 2 (f := .glo "home_yard") rfl)
  g_first_full := He.glo_ok X G (c.d.fact 3 (f := .glo "first_full") rfl)
  g_homeward_plan := He.glo_ok X G (c.d.fact 4 (f := .glo "homeward_plan") rfl)
  g_brought_home := He.glo_ok X G (c.d.fact 5 (f := .glo "brought_home") rfl)
  g__law_whole := He.glo_ok X G (c.d.fact 6 (f := .glo "_law_whole") rfl)
  g__law_trimmed := He.glo_ok X G (c.d.fact 7 (f := .glo "_law_trimmed") rfl)
  g__law_behind := He.glo_ok X G (c.d.fact 8 (f := .glo "_law_behind") rfl)
  g__law_home := He.glo_ok X G (c.d.fact 9 (f := .glo "_law_home") rfl)
  g__law_sums := He.glo_ok X G (c.d.fact 10 (f := .glo "_law_sums") rfl)
  g__law_changed := He.glo_ok X G (c.d.fact 11 (f := .glo "_law_changed") rfl)
  g__law_planned := He.glo_ok X G (c.d.fact 12 (f := .glo "_law_planned") rfl)
  g__law_held := He.glo_ok X G (c.d.fact 13 (f := .glo "_law_held") rfl)
  g__law_barred := He.glo_ok X G (c.d.fact 14 (f := .glo "_law_barred") rfl)
  g__law_right := He.glo_ok X G (c.d.fact 15 (f := .glo "_law_right") rfl)
  g_law := He.glo_ok X G (c.d.fact 16 (f := .glo "law") rfl)
  d_ask_yard := c.d.def_ 0 (d := d_ask_yard) rfl
  d_pit_emptied := c.d.def_ 1 (d := d_pit_emptied) rfl
  d_home_yard := c.d.def_ 2 (d := d_home_yard) rfl
  d_first_full := c.d.def_ 3 (d := d_first_full) rfl
  d_homeward_plan := c.d.def_ 4 (d := d_homeward_plan) rfl
  d_brought_home := c.d.def_ 5 (d := d_brought_home) rfl
  d__law_whole := c.d.def_ 6 (d := d__law_whole) rfl
  d__law_trimmed := c.d.def_ 7 (d := d__law_trimmed) rfl
  d__law_behind := c.d.def_ 8 (d := d__law_behind) rfl
  d__law_home := c.d.def_ 9 (d := d__law_home) rfl
  d__law_sums := c.d.def_ 10 (d := d__law_sums) rfl
  d__law_changed := c.d.def_ 11 (d := d__law_changed) rfl
  d__law_planned := c.d.def_ 12 (d := d__law_planned) rfl
  d__law_held := c.d.def_ 13 (d := d__law_held) rfl
  d__law_barred := c.d.def_ 14 (d := d__law_barred) rfl
  d__law_right := c.d.def_ 15 (d := d__law_right) rfl
  d_law := c.d.def_ 16 (d := d_law) rfl
  f_bool := He.free_ok X G (c.d.fact 17 (f := .free "bool") rfl)
  f_enumerate := He.free_ok X G (c.d.fact 18 (f := .free "enumerate") rfl)
  f_int := He.free_ok X G (c.d.fact 19 (f := .free "int") rfl)
  f_isinstance := He.free_ok X G (c.d.fact 20 (f := .free "isinstance") rfl)
  f_len := He.free_ok X G (c.d.fact 21 (f := .free "len") rfl)
  f_list := He.free_ok X G (c.d.fact 22 (f := .free "list") rfl)
  f_max := He.free_ok X G (c.d.fact 23 (f := .free "max") rfl)
  f_range := He.free_ok X G (c.d.fact 24 (f := .free "range") rfl)
  f_reversed := He.free_ok X G (c.d.fact 25 (f := .free "reversed") rfl)
  f_sum := He.free_ok X G (c.d.fact 26 (f := .free "sum") rfl)
  f_tuple := He.free_ok X G (c.d.fact 27 (f := .free "tuple") rfl)
  c_PITS_OF_A_YARD := He.int_ok X G (c.d.fact 28 rfl)
  c_SEEDS_OF_A_YARD := He.int_ok X G (c.d.fact 29 rfl)
  g_SowError := He.glo_ok X G (c.d.fact 30 (f := .glo "SowError") rfl)
  k_SowError := kn_ok (c := .SowError) (c.d.fact 30 rfl)
  x_SowError := exc_ok (c.d.fact 31 rfl)
  g_BadCount := He.glo_ok X G (c.d.fact 32 (f := .glo "BadCount") rfl)
  k_BadCount := kn_ok (c := .BadCount) (c.d.fact 32 rfl)
  x_BadCount := exc_ok (c.d.fact 33 rfl)
  g_BadYard := He.glo_ok X G (c.d.fact 34 (f := .glo "BadYard") rfl)
  k_BadYard := kn_ok (c := .BadYard) (c.d.fact 34 rfl)
  x_BadYard := exc_ok (c.d.fact 35 rfl)
  cfs := fun d hd => cf_of (List.all_eq_true.mp (c.b) d hd)
  cf_SowError := cf_of (List.all_eq_true.mp (c.b) .SowError (by decide))
  cf_BadCount := cf_of (List.all_eq_true.mp (c.b) .BadCount (by decide))
  cf_BadYard := cf_of (List.all_eq_true.mp (c.b) .BadYard (by decide))
end G
open PySem PySem.W PySem.Calls PyProof.Rows
set_option maxRecDepth 100000 in
set_option maxHeartbeats 0 in
theorem PySem.Challenge.cw_sowring_k49_brought_home_holds : PySem.Challenge.rw_sowring_k49_brought_home.Holds := by
  w_on; o_law
  refine HandSHeadRun.head_any (r := OpenLaw.row PySem.Challenge.rw_sowring_k49_brought_home) (q := view (OpenLaw.row PySem.Challenge.rw_sowring_k49_brought_home).prog [26]) (H := G.hk) (ob := G.ob) (M := 30000) (loose := ((["_wall", "SowError", "BadCount", "BadYard", "PITS_OF_A_YARD", "SEEDS_OF_A_YARD", "ask_yard", "pit_emptied", "home_yard", "first_full", "homeward_plan", "brought_home", "_law_whole", "_law_row", "_law_trimmed", "_law_behind", "_law_home", "_law_sums", "_law_changed", "_law_planned", "_law_held", "_law_barred", "_law_right"] : List PySem.Str))) (d := HandSHeadRun.topDef (OpenLaw.row PySem.Challenge.rw_sowring_k49_brought_home).prog 26) (kwd := []) G.ob_eq
    (by kernel_rfl) (fun s => by kernel_rfl) G.run (by kernel_rfl) (by kernel_rfl) (by kernel_rfl) (by rfl) (by first | assumption | decide +kernel) (by decide +kernel) ⟨rfl, rfl, rfl, rfl, rfl, by decide +kernel⟩ ?hw ?hc
  case hw => w_witness2
  case hc =>
    refine G.walk_ofW (l := PySem.Challenge.rw_sowring_k49_brought_home) (n := 63) (k := 5) (x := "script") (CX := fun w => L2.CX PySem.Challenge.rw_sowring_k49_brought_home.prog w) rfl (by decide) (by kernel_rfl) ⟨rfl, by decide, by decide⟩ ?F ?C
    case C =>
      intro w H s e s' h
      obtain ⟨_, _, _, _, _, _, _, _, _, _, _, _, z⟩ := h
      exact z
    case F =>
      intro w mg fa h Y G' hmg0
      obtain ⟨K, KX, c⟩ := Y
      have hmg : mg ("law" : PySem.Str) = some (.ref fa) := by
        have e : (HandSHeadRun.topDef (OpenLaw.row PySem.Challenge.rw_sowring_k49_brought_home).prog 26).name = ("law" : PySem.Str) := by kernel_rfl
        rw [← e]
        exact hmg0
      have T : G.Hd K mg := G.hd_of KX G' c
      have e := hmg.symm.trans T.g_law
      cases e
      obtain ⟨fd, F⟩ := T.d_law
      have b := L2.FunD.bindsA (ps := ["script"]) F fun _ _ _ _ _ _ us hl => match us, hl with | [_], _ => rfl
      exact ⟨K, fd, G.sp1 K G.m_law, KX, fun s v => b s [v] rfl, fun H a ns hl hb hS => ⟨_, ⟨ns⟩, rfl, ⟨a, rfl, hS⟩, by
        rw [G.law_true ns hl hb]
        exact fun v' H' _ r => r⟩, fun base _ _ => G.ok_law T F⟩
