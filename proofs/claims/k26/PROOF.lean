import PyProof.Rows.All
import Wide.All
import OpenK.AllK
import Wide.FinOn
import PyProof.EqAt
import PyProof.EqKinds
import PyProof.TupleCall
import KE.KStateDown
import Lean
import HandS.ForMost
import HandS.Exc
import HandS.TryOnly
import HandS.ExcOwn
import HandS.ExcIs
import HandS.ExcValue
import HandS.IsInst
import HandS.More
import HandS.Wide
import HandS.Words
import HandS.WordsExc
import HandS.WordsList
import HandS.Defaults
import HandS.Evl
import HandS.Head0
import HandS.Head1
import HandS.Head2
import HandS.HeadEnd
import HandS.HeadHook1
import HandS.HeadHook2
import KE.DataEq
import KE.KExcMore
import KE.KExcIs
import HandS.EndBits
import HandS.Sort
import KE.SortData
import KE.DataMinMax
import KE.DataCmp
import HandS.Deep
import HandS.Rev
import KE.KDictList
import HandS.Dict
import HandS.TupLen
import HandS.Conv
import KE.KDictSum
import KE.KDictDisplayH
import KE.GoesMore
import KE.GoesEnum
import KE.DatumOrd
import HandS.SortKw
import HandS.ExcInit
import HandS.ExcField
import HandS.Text
import HandS.FStr
import HandS.Codes
import KE.GoesRaise
import HandS.TupAny
import PySem.Challenge.RW_sowring_k26_whole_way_or_bar
set_option Elab.async false
set_option linter.all false
set_option maxRecDepth 100000
set_option maxHeartbeats 2000000
/-! G: outcomes, what a value tells, what an expression evaluates to. -/
namespace G
open PySem PySem.Spec PyProof.Rows L2

/-! ### outcomes -/
inductive Cn where
  | SowError | BadBoard | BadPit | BadPits | BadCount | NoSeeds | BadPlan | Unlike | TooLong | TooMany | BadLine | BadRow | BadYard | NoDeed | BadText
  deriving DecidableEq, Repr
def Cn.nm : Cn → Str
  | .SowError => "SowError" | .BadBoard => "BadBoard" | .BadPit => "BadPit" | .BadPits => "BadPits" | .BadCount => "BadCount" | .NoSeeds => "NoSeeds"
  | .BadPlan => "BadPlan" | .Unlike => "Unlike" | .TooLong => "TooLong" | .TooMany => "TooMany" | .BadLine => "BadLine" | .BadRow => "BadRow"
  | .BadYard => "BadYard" | .NoDeed => "NoDeed" | .BadText => "BadText"
inductive Er where
  | own (c : Cn)
  | plan (n : Int)
  deriving DecidableEq, Repr
inductive R (α : Type) where
  | ok (a : α)
  | er (e : Er)
  | bad
  deriving DecidableEq, Repr
def R.bd {α β : Type} (m : R α) (f : α → R β) : R β := match m with
  | .ok a => f a
  | .er e => .er e
  | .bad => .bad
def Wp {α : Type} (m : R α) (k : α → Prop) (e : Er → Prop) : Prop := match m with
  | .ok a => k a
  | .er c => e c
  | .bad => False
section
variable {α β γ : Type} {m : R α} {f : α → R β} {k : β → Prop} {e e' : Er → Prop}
theorem wp_bd : Wp (R.bd m f) k e = Wp m (fun a => Wp (f a) k e) e := by cases m <;> rfl
theorem wp_mono {k k' : α → Prop} (h : Wp m k e) (hk : ∀ a, m = .ok a → k a → k' a) (he : ∀ c, m = .er c → e c → e' c) : Wp m k' e' := by
  cases m with
  | ok a => exact hk a rfl h
  | er c => exact he c rfl h
  | bad => exact h
theorem bd_ok {a : α} : R.bd (.ok a) f = f a := rfl
theorem bd_er {c : Er} : R.bd (.er c) f = .er c := rfl
theorem bd_bad : R.bd .bad f = .bad := rfl
theorem bd_assoc {g : β → R γ} : R.bd (R.bd m f) g = R.bd m fun a => R.bd (f a) g := by cases m <;> rfl
theorem bd_id {m : R α} : R.bd m (fun a => .ok a) = m := by cases m <;> rfl
end
/-- nothing is raised, or it is not promised -/
def R.nx {α : Type} (m : R α) : R α := match m with
  | .ok a => .ok a
  | _ => .bad
/-! ### heaps -/
/-- a tuple never changes: it is seen from everywhere -/
def tupB : Option HO → Bool
  | some (.tup _) => true
  | _ => false
def dif (H0 H : Hp) : Hp := fun b => if tupB (H b) = true then H b else if (H0 b).isSome = true then none else H b
def mix (F H H' : Hp) : Hp := fun b => if (H b).isSome = true then (if tupB (H b) = true then H b else F b) else H' b
theorem dif_some {H0 H : Hp} {b : Addr} {o : HO} (h : dif H0 H b = some o) : (H0 b = none ∨ tupB (some o) = true) ∧ H b = some o := by
  unfold dif at h
  split at h
  · rename_i c
    rw [h] at c
    exact ⟨.inr c, h⟩
  · split at h
    · cases h
    · rename_i c
      refine ⟨.inl ?_, h⟩
      cases q : H0 b with
      | none => rfl
      | some u => rw [q] at c; exact absurd rfl c
theorem dif_of {H0 H : Hp} {b : Addr} {o : HO} (h0 : H0 b = none) (h : H b = some o) : dif H0 H b = some o := by
  unfold dif
  rw [h0]
  split <;> exact h
theorem dif_tup {H0 H : Hp} {b : Addr} {o : HO} (h0 : tupB (some o) = true) (h : H b = some o) : dif H0 H b = some o := by
  unfold dif
  rw [h, if_pos h0]
theorem dif_of' {H0 H : Hp} {b : Addr} {o : HO} (h0 : H0 b = none ∨ tupB (some o) = true) (h : H b = some o) : dif H0 H b = some o := h0.elim (fun z => dif_of z h) fun z => dif_tup z h
theorem mix_new {F H H' : Hp} {p : Addr} (h : H p = none) : mix F H H' p = H' p := by
  unfold mix
  rw [h]
  rfl
theorem mix_tup {F H H' : Hp} {p : Addr} {o : HO} (h : H p = some o) (ho : tupB (some o) = true) : mix F H H' p = some o := by
  unfold mix
  rw [h, if_pos (show (some o).isSome = true from rfl), if_pos ho]
theorem mix_old {F H H' : Hp} {p : Addr} {o : HO} (h : H p = some o) (ho : tupB (some o) = false := by rfl) : mix F H H' p = F p := by
  unfold mix
  rw [h, if_pos (show (some o).isSome = true from rfl), if_neg (by rw [ho]; decide)]
theorem mix_cases {F H H' : Hp} {p : Addr} {o : HO} (h : mix F H H' p = some o) : (H p = none ∧ H' p = some o) ∨ (H p = some o ∧ tupB (some o) = true) ∨ (∃ u, H p = some u ∧ tupB (some u) = false ∧ F p = some o) := by
  cases q : H p with
  | none => rw [mix_new q] at h; exact .inl ⟨rfl, h⟩
  | some u =>
    cases z : tupB (some u) with
    | true => rw [mix_tup q z] at h; cases h; exact .inr (.inl ⟨rfl, z⟩)
    | false => rw [mix_old q z] at h; exact .inr (.inr ⟨u, rfl, z, h⟩)
theorem same_mix {F H H' : Hp} (hF : Same F H) : Same F (mix F H H') := fun b o q => by
  have h := hF b o q
  cases z : tupB (some o) with
  | true => exact mix_tup h z
  | false => rw [mix_old h z]; exact q
theorem mix_same {F H H' : Hp} (hF : Same F H) (e : Same H H') : Same (mix F H H') H' := fun b o q => by
  rcases mix_cases q with ⟨_, h⟩ | ⟨h, _⟩ | ⟨_, _, _, h⟩
  · exact h
  · exact e b o h
  · exact e b o (hF b o h)
theorem mix_mono {F H H' H2 : Hp} (e : Same H' H2) : Same (mix F H H') (mix F H H2) := fun b o q => by
  rcases mix_cases q with ⟨h, h2⟩ | ⟨h, z⟩ | ⟨u, h, z, h2⟩
  · rw [mix_new h]; exact e b o h2
  · exact mix_tup h z
  · rw [mix_old h z]; exact h2
/-- the new part of a later heap lies in the mix -/
theorem dif_mix {F H H1 H' : Hp} (e : Same H H1) (e1 : Same H1 H') : Same (dif H1 H') (mix F H H') := fun b o q => by
  obtain ⟨h1, h2⟩ := dif_some q
  cases z : H b with
  | none => rw [mix_new z]; exact h2
  | some u =>
    rcases h1 with h1 | h1
    · rw [Same.free e h1] at z; cases z
    · have := (e.trans e1) b u z
      rw [h2] at this
      cases this
      exact mix_tup z h1
theorem dif_mono {H0 H H' : Hp} (e : Same H H') : Same (dif H0 H) (dif H0 H') := fun b o q => by
  obtain ⟨h1, h2⟩ := dif_some q
  exact dif_of' h1 (e b o h2)
theorem dif_le {H0 H : Hp} : Same (dif H0 H) H := fun b o q => (dif_some q).2
/-- what is new since H1 is new since H0 -/
theorem dif_back {H0 H1 H' : Hp} (e : Same H0 H1) : Same (dif H1 H') (dif H0 H') := fun b o q => by
  obtain ⟨h1, h2⟩ := dif_some q
  exact dif_of' (h1.elim (fun z => .inl (Same.free e z)) .inr) h2
theorem mix_dif {H0 F H H' : Hp} (e0 : Same H0 H) (hF : Same F H) (e : Same H H') : Same (mix (dif H0 F) H H') (dif H0 (mix F H H')) := fun b o q => by
  rcases mix_cases q with ⟨h, h2⟩ | ⟨h, z⟩ | ⟨u, h, z, h2⟩
  · exact dif_of (Same.free e0 h) (by rw [mix_new h]; exact h2)
  · exact dif_tup z (mix_tup h z)
  · obtain ⟨h3, h4⟩ := dif_some h2
    exact dif_of' h3 (same_mix hF b o h4)
/-! ### what a value tells -/
class Rp (α : Type) where
  rep : PySem.W.Frag → Hp → V → α → Prop
  mono : ∀ {K : PySem.W.Frag} {H H' : Hp} {v : V} {a : α}, Same H H' → rep K H v a → rep K H' v a
inductive All2 {α β : Type} (F : α → β → Prop) : List α → List β → Prop
  | nil : All2 F [] []
  | cons {a : α} {b : β} {l : List α} {l' : List β} : F a b → All2 F l l' → All2 F (a :: l) (b :: l')
section
variable {α β : Type} {F F' : α → β → Prop}
theorem All2.mono (h : ∀ a b, F a b → F' a b) : ∀ {l : List α} {l' : List β}, All2 F l l' → All2 F' l l'
  | _, _, .nil => .nil
  | _, _, .cons r t => .cons (h _ _ r) (All2.mono h t)
theorem All2.length : ∀ {l : List α} {l' : List β}, All2 F l l' → l.length = l'.length
  | _, _, .nil => rfl
  | _, _, .cons r t => by simp [All2.length t]
theorem All2.get : ∀ {l : List α} {l' : List β} {i : Nat} {b : β}, All2 F l l' → l'[i]? = some b → ∃ a, l[i]? = some a ∧ F a b
  | _, _, _, _, .nil, e => by simp at e
  | _, _, 0, _, .cons r t, e => by
    simp at e
    subst e
    exact ⟨_, rfl, r⟩
  | _, _, i + 1, b, .cons r t, e => by
    obtain ⟨a, h1, h2⟩ := All2.get (i := i) (b := b) t (by simpa using e)
    exact ⟨a, by simpa using h1, h2⟩
theorem All2.getL : ∀ {l : List α} {l' : List β} {i : Nat} {a : α}, All2 F l l' → l[i]? = some a → ∃ b, l'[i]? = some b ∧ F a b
  | _, _, _, _, .nil, e => by simp at e
  | _, _, 0, _, .cons r t, e => by
    simp at e
    subst e
    exact ⟨_, rfl, r⟩
  | _, _, i + 1, b, .cons r t, e => by
    obtain ⟨a, h1, h2⟩ := All2.getL (i := i) (a := b) t (by simpa using e)
    exact ⟨a, by simpa using h1, h2⟩
theorem All2.set {a : α} {b : β} (r : F a b) : ∀ {l : List α} {l' : List β} (i : Nat), All2 F l l' → All2 F (l.set i a) (l'.set i b)
  | _, _, _, .nil => .nil
  | _, _, 0, .cons _ t => .cons r t
  | _, _, i + 1, .cons q t => .cons q (All2.set r i t)
theorem All2.append : ∀ {l m : List α} {l' m' : List β}, All2 F l l' → All2 F m m' → All2 F (l ++ m) (l' ++ m')
  | _, _, _, _, .nil, s => s
  | _, _, _, _, .cons r t, s => .cons r (All2.append t s)
theorem All2.take : ∀ {l : List α} {l' : List β} (n : Nat), All2 F l l' → All2 F (l.take n) (l'.take n)
  | _, _, 0, _ => by simp; exact .nil
  | _, _, _ + 1, .nil => .nil
  | _, _, n + 1, .cons r t => .cons r (All2.take n t)
theorem All2.drop : ∀ {l : List α} {l' : List β} (n : Nat), All2 F l l' → All2 F (l.drop n) (l'.drop n)
  | _, _, 0, r => r
  | _, _, _ + 1, .nil => .nil
  | _, _, n + 1, .cons r t => All2.drop n t
theorem All2.dropLast : ∀ {l : List α} {l' : List β}, All2 F l l' → All2 F l.dropLast l'.dropLast := fun {l l'} h => by
  rw [List.dropLast_eq_take, List.dropLast_eq_take, h.length]
  exact h.take _
theorem All2.eraseIdx : ∀ {l : List α} {l' : List β} (i : Nat), All2 F l l' → All2 F (l.eraseIdx i) (l'.eraseIdx i)
  | _, _, _, .nil => .nil
  | _, _, 0, .cons _ t => t
  | _, _, i + 1, .cons q t => .cons q (All2.eraseIdx i t)
theorem All2.reverse : ∀ {l : List α} {l' : List β}, All2 F l l' → All2 F l.reverse l'.reverse
  | _, _, .nil => .nil
  | _, _, .cons r t => by
    rw [List.reverse_cons, List.reverse_cons]
    exact All2.append (All2.reverse t) (.cons r .nil)
theorem All2.rep {a : α} {b : β} (r : F a b) : ∀ n : Nat, All2 F (List.replicate n a) (List.replicate n b)
  | 0 => .nil
  | n + 1 => .cons r (All2.rep r n)
theorem All2.map (enc : β → α) (h : ∀ a b, F a b ↔ a = enc b) : ∀ {l : List α} {l' : List β}, All2 F l l' → l = l'.map enc
  | _, _, .nil => rfl
  | _, _, .cons r t => by rw [(h _ _).mp r, All2.map enc h t]; rfl
theorem All2.ofMap (enc : β → α) (h : ∀ b, F (enc b) b) : ∀ l' : List β, All2 F (l'.map enc) l'
  | [] => .nil
  | b :: t => .cons (h b) (All2.ofMap enc h t)
end
instance : Rp Int where
  rep _ _ v n := v = .int n
  mono _ h := h
instance : Rp Bool where
  rep _ _ v n := v = .bl n
  mono _ h := h
instance : Rp Str where
  rep _ _ v n := v = .str n
  mono _ h := h
instance : Rp Unit where
  rep _ _ v _ := v = .non
  mono _ h := h
instance {α : Type} [Rp α] : Rp (Option α) where
  rep K H v o := match o with
    | none => v = .non
    | some a => v ≠ .non ∧ Rp.rep K H v a
  mono {K H H' v a} e h := by
    cases a with
    | none => exact h
    | some a => exact ⟨h.1, Rp.mono e h.2⟩
instance {α : Type} [Rp α] : Rp (List α) where
  rep K H v xs := ∃ p vs, v = .ref p ∧ H p = some (.lst vs) ∧ All2 (Rp.rep K H) vs xs
  mono {K H H' v a} e h := by
    obtain ⟨p, vs, e1, e2, e3⟩ := h
    exact ⟨p, vs, e1, e p _ e2, e3.mono fun _ _ r => Rp.mono e r⟩
/-- the script: a list that is read alone -/
structure Scr where
  l : List Int
instance : Rp Scr where
  rep K H v s := ∃ p, v = .ref p ∧ SqL K H p (s.l.map V.int)
  mono {K H H' v a} e h := by
    obtain ⟨p, e1, e2⟩ := h
    exact ⟨p, e1, e.seq e2⟩
theorem same_seqT {K : PySem.W.Frag} {H H' : Hp} {a : Addr} {xs : List V} (e : Same H H') (h : SqT K H a xs) : SqT K H' a xs := by
  rcases h with (h | ⟨o, h⟩) | h
  · exact .inl (.inl (e _ _ h))
  · exact .inl (.inr ⟨o, e _ _ h⟩)
  · exact .inr h
instance {α β : Type} [Rp α] [Rp β] : Rp (α × β) where
  rep K H v t := ∃ p x y, v = .ref p ∧ H p = some (.tup [x, y]) ∧ Rp.rep K H x t.1 ∧ Rp.rep K H y t.2
  mono {K H H' v a} e h := by
    obtain ⟨p, x, y, e1, e2, e3, e4⟩ := h
    exact ⟨p, x, y, e1, e p _ e2, Rp.mono e e3, Rp.mono e e4⟩
/-- a triple -/
structure T3 (α β γ : Type) where
  a : α
  b : β
  c : γ
  deriving DecidableEq, Repr
instance {α β γ : Type} [Rp α] [Rp β] [Rp γ] : Rp (T3 α β γ) where
  rep K H v t := ∃ p x y z, v = .ref p ∧ H p = some (.tup [x, y, z]) ∧ Rp.rep K H x t.a ∧ Rp.rep K H y t.b ∧ Rp.rep K H z t.c
  mono {K H H' v a} e h := by
    obtain ⟨p, x, y, z, e1, e2, e3, e4, e5⟩ := h
    exact ⟨p, x, y, z, e1, e p _ e2, Rp.mono e e3, Rp.mono e e4, Rp.mono e e5⟩
/-- a tuple of any length of one kind -/
structure Tu (α : Type) where
  l : List α
  deriving DecidableEq, Repr
instance {α : Type} [Rp α] : Rp (Tu α) where
  rep K H v t := ∃ p vs, v = .ref p ∧ H p = some (.tup vs) ∧ All2 (Rp.rep K H) vs t.l
  mono {K H H' v a} e h := by
    obtain ⟨p, vs, e1, e2, e3⟩ := h
    exact ⟨p, vs, e1, e p _ e2, e3.mono fun _ _ r => Rp.mono e r⟩
theorem rep_ints {K : PySem.W.Frag} {H : Hp} {vs : List V} {ns : List Int} (h : All2 (Rp.rep K H) vs ns) : vs = ns.map V.int := h.map V.int fun _ _ => Iff.rfl
theorem rep_bools {K : PySem.W.Frag} {H : Hp} {vs : List V} {ns : List Bool} (h : All2 (Rp.rep K H) vs ns) : vs = ns.map V.bl := h.map V.bl fun _ _ => Iff.rfl
theorem rep_strs {K : PySem.W.Frag} {H : Hp} {vs : List V} {ns : List Str} (h : All2 (Rp.rep K H) vs ns) : vs = ns.map V.str := h.map V.str fun _ _ => Iff.rfl
theorem ints_rep {K : PySem.W.Frag} {H : Hp} (ns : List Int) : All2 (Rp.rep K H) (ns.map V.int) ns := All2.ofMap V.int (fun _ => rfl) ns
/-- a value that is not None -/
class NN (α : Type) [Rp α] where
  nn : ∀ {K : PySem.W.Frag} {H : Hp} {v : V} {a : α}, Rp.rep K H v a → v ≠ .non
instance : NN Int := ⟨fun h => by rw [show _ = V.int _ from h]; intro q; cases q⟩
instance : NN Bool := ⟨fun h => by rw [show _ = V.bl _ from h]; intro q; cases q⟩
instance : NN Str := ⟨fun h => by rw [show _ = V.str _ from h]; intro q; cases q⟩
instance {α : Type} [Rp α] : NN (List α) := ⟨fun ⟨_, _, h, _⟩ => by rw [h]; intro q; cases q⟩
instance {α β : Type} [Rp α] [Rp β] : NN (α × β) := ⟨fun ⟨_, _, _, h, _⟩ => by rw [h]; intro q; cases q⟩
instance {α β γ : Type} [Rp α] [Rp β] [Rp γ] : NN (T3 α β γ) := ⟨fun ⟨_, _, _, _, h, _⟩ => by rw [h]; intro q; cases q⟩
instance {α : Type} [Rp α] : NN (Tu α) := ⟨fun ⟨_, _, h, _⟩ => by rw [h]; intro q; cases q⟩

/-! ### what an expression evaluates to -/
/-- what is wished of an error behind H0 -/
def EE (K : PySem.W.Frag) (E : XK) (H0 : Hp) : Er → Prop
  | .own c => ∀ H', Same H0 H' → E (.ref (He.ga K c.nm)) none H'
  | .plan n => ∀ d H', Same H0 H' → H0 d = none → (∃ m, H' d = some (.xd [("at", .int n), ("words", .str m)])) → E (.ref (He.ga K "BadPlan")) (some d) H'
theorem EE.mono {K : PySem.W.Frag} {E : XK} {H0 H1 : Hp} (e : Same H0 H1) {c : Er} (h : EE K E H0 c) : EE K E H1 c := by
  cases c with
  | own c => exact fun H' q => h H' (e.trans q)
  | plan n => exact fun d H' q hd hm => h d H' (e.trans q) (e.free hd) hm
def Gr {α : Type} [Rp α] (K : PySem.W.Frag) (E : XK) (te : TE) (σ : L2.St) (F H : Hp) (m : R α) : Prop :=
  ∀ H1, Same H H1 → ∀ Q : VK, Wp m (fun a => ∀ v H2, Same H1 H2 → Rp.rep K (mix F H H2) v a → Q v H2) (EE K E H1) → te σ H1 Q
def GrT (K : PySem.W.Frag) (E : XK) (t : TT) (σ : L2.St) (H : Hp) (m : R Bool) : Prop :=
  ∀ H1, Same H H1 → ∀ Q : Bool → Hp → Prop, Wp m (fun b => ∀ H2, Same H1 H2 → Q b H2) (EE K E H1) → t σ H1 Q
section
variable {K : PySem.W.Frag} {E : XK} {σ : L2.St} {F H : Hp} {ta tb te : TE} {t u : TT} {α β γ δ : Type} [Rp α] [Rp β] [Rp γ] [Rp δ]
/-- two in a row -/
theorem gr_seq {ma : R α} {f : α → R β} {Q : VK} {H1 : Hp} (ha : Gr K E ta σ F H ma) (e : Same H H1) (hq : Wp (R.bd ma f) (fun b => ∀ v H2, Same H1 H2 → Rp.rep K (mix F H H2) v b → Q v H2) (EE K E H1))
    {Q' : VK} (h : ∀ a v H2, Same H1 H2 → Rp.rep K (mix F H H2) v a → Wp (f a) (fun b => ∀ v H3, Same H2 H3 → Rp.rep K (mix F H H3) v b → Q v H3) (EE K E H2) → Q' v H2) : ta σ H1 Q' := by
  refine ha H1 e Q' ?_
  rw [wp_bd] at hq
  exact wp_mono hq (fun a _ ka v H2 e2 r => h a v H2 e2 r (wp_mono ka (fun b _ kb v H3 e3 r3 => kb v H3 (e2.trans e3) r3) fun c _ z => z.mono e2)) fun c _ z => z
theorem gr_seqT {ma : R Bool} {f : Bool → R β} {Q : VK} {H1 : Hp} (ha : GrT K E t σ H ma) (e : Same H H1) (hq : Wp (R.bd ma f) (fun b => ∀ v H2, Same H1 H2 → Rp.rep K (mix F H H2) v b → Q v H2) (EE K E H1))
    {Q' : Bool → Hp → Prop} (h : ∀ a H2, Same H1 H2 → Wp (f a) (fun b => ∀ v H3, Same H2 H3 → Rp.rep K (mix F H H3) v b → Q v H3) (EE K E H2) → Q' a H2) : t σ H1 Q' := by
  refine ha H1 e Q' ?_
  rw [wp_bd] at hq
  exact wp_mono hq (fun a _ ka H2 e2 => h a H2 e2 (wp_mono ka (fun b _ kb v H3 e3 r3 => kb v H3 (e2.trans e3) r3) fun c _ z => z.mono e2)) fun c _ z => z
theorem g_var {i : Nat} {v : V} {a : α} (r : Rp.rep K F v a) (hF : Same F H) (h : σ[i]? = some (some v) := by rfl) : Gr K E (tVar i) σ F H (.ok a) :=
  fun H1 e Q hq => ⟨v, h, hq v H1 (Same.refl _) (Rp.mono (same_mix hF) r)⟩
theorem g_c {v : V} {a : α} (r : ∀ H', Rp.rep K H' v a) : Gr K E (tC v) σ F H (.ok a) := fun H1 e Q hq => hq v H1 (Same.refl _) (r _)
theorem g_int {n : Int} : Gr K E (tC (.int n)) σ F H (.ok n) := g_c fun _ => rfl
theorem g_bl {n : Bool} : Gr K E (tC (.bl n)) σ F H (.ok n) := g_c fun _ => rfl
theorem g_str {n : Str} : Gr K E (tC (.str n)) σ F H (.ok n) := g_c fun _ => rfl
theorem g_unit : Gr K E (tC .non) σ F H (.ok ()) := g_c fun _ => rfl
theorem g_non : Gr K E (tC .non) σ F H (.ok (none : Option α)) := g_c fun _ => rfl
/-- ints, bools, texts tell the same over any heap -/
class Sc (α : Type) [Rp α] where
  enc : α → V
  inj : ∀ {a b : α}, enc a = enc b → a = b
  is : ∀ {K : PySem.W.Frag} {H : Hp} {v : V} {a : α}, Rp.rep K H v a ↔ v = enc a
  sc : ∀ a b : α, scal (enc a) (enc b) = true
  flat : ∀ a : α, flatV (enc a) = true
instance : Sc Int := ⟨V.int, fun h => V.int.inj h, Iff.rfl, fun _ _ => rfl, fun _ => rfl⟩
instance : Sc Bool := ⟨V.bl, fun h => V.bl.inj h, Iff.rfl, fun _ _ => rfl, fun _ => rfl⟩
instance : Sc Str := ⟨V.str, fun h => V.str.inj h, Iff.rfl, fun _ _ => rfl, fun _ => rfl⟩
theorem g_sc [Sc α] {F' : Hp} {m : R α} (h : Gr K E te σ F' H m) : Gr K E te σ F H m := fun H1 e Q hq =>
  h H1 e Q (wp_mono hq (fun a _ k v H2 e2 r => k v H2 e2 (Sc.is.mpr (Sc.is.mp r))) fun _ _ z => z)
theorem g_some [NN α] {m : R α} (h : Gr K E te σ F H m) : Gr K E te σ F H (R.bd m fun a => .ok (some a)) := fun H1 e Q hq =>
  h H1 e Q (by rw [wp_bd] at hq; exact wp_mono hq (fun a _ k v H2 e2 r => k v H2 e2 ⟨NN.nn r, r⟩) fun _ _ z => z)
/-- a value that may be None, known not to be -/
def unO {α : Type} (o : Option α) : R α := match o with
  | some a => .ok a
  | none => .bad
theorem g_un {m : R (Option α)} (h : Gr K E te σ F H m) : Gr K E te σ F H (R.bd m unO) := fun H1 e Q hq =>
  h H1 e Q (by
    rw [wp_bd] at hq
    refine wp_mono hq (fun a _ k v H2 e2 r => ?_) fun _ _ z => z
    cases a with
    | none => exact k.elim
    | some a => exact k v H2 e2 r.2)
/-! operators -/
theorem g_i0 {f : Int → Int → Int} {ma mb : R Int} (ha : Gr K E ta σ F H ma) (hb : Gr K E tb σ F H mb) : Gr K E (tOp (rI0 fun i j => .int (f i j)) ta tb) σ F H (R.bd ma fun a => R.bd mb fun b => .ok (f a b)) := fun H1 e Q hq =>
  gr_seq ha e hq fun a v H2 e2 r hq2 => gr_seq hb (e.trans e2) hq2 fun b w H3 e3 r3 hq3 => ⟨a, b, r, r3, hq3 _ H3 (Same.refl _) rfl⟩
theorem g_b0 {f : Int → Int → Bool} {ma mb : R Int} (ha : Gr K E ta σ F H ma) (hb : Gr K E tb σ F H mb) : Gr K E (tOp (rI0 fun i j => .bl (f i j)) ta tb) σ F H (R.bd ma fun a => R.bd mb fun b => .ok (f a b)) := fun H1 e Q hq =>
  gr_seq ha e hq fun a v H2 e2 r hq2 => gr_seq hb (e.trans e2) hq2 fun b w H3 e3 r3 hq3 => ⟨a, b, r, r3, hq3 _ H3 (Same.refl _) rfl⟩
open Classical in
noncomputable def gd {α : Type} (c : Prop) (m : R α) : R α := if c then m else .bad
theorem gd_pos {α : Type} {c : Prop} {m : R α} (h : c) : gd c m = m := if_pos h
theorem g_iC {C : Int → Int → Prop} [∀ a b, Decidable (C a b)] {f : Int → Int → Int} {ma mb : R Int} (ha : Gr K E ta σ F H ma) (hb : Gr K E tb σ F H mb) :
    Gr K E (tOp (rI C fun i j => .int (f i j)) ta tb) σ F H (R.bd ma fun a => R.bd mb fun b => gd (C a b) (.ok (f a b))) := fun H1 e Q hq =>
  gr_seq ha e hq fun a v H2 e2 r hq2 => gr_seq hb (e.trans e2) hq2 fun b w H3 e3 r3 hq3 => by
    unfold gd at hq3
    split at hq3
    · rename_i c
      exact ⟨a, b, r, r3, c, hq3 _ H3 (Same.refl _) rfl⟩
    · exact hq3.elim
/-- .. with a condition that is known -/
theorem g_iK {C : Int → Int → Prop} {f : Int → Int → Int} {ma : R Int} {b : Int} (hc : ∀ a, C a b) (ha : Gr K E ta σ F H ma) (hb : Gr K E tb σ F H (.ok b)) :
    Gr K E (tOp (rI C fun i j => .int (f i j)) ta tb) σ F H (R.bd ma fun a => .ok (f a b)) := fun H1 e Q hq =>
  gr_seq ha e hq fun a v H2 e2 r hq2 => hb H2 (e.trans e2) _ fun w H3 e3 r3 => ⟨a, b, r, r3, hc a, hq2 _ H3 e3 rfl⟩
/-- * of two factors of together less than 134 million bits -/
def CMulV (i j : Int) : Prop := i.natAbs.log2 + j.natAbs.log2 < 134000000
theorem CMulV.ok {i j : Int} (h : CMulV i j) : IntMulOk i j := by
  have b : ∀ x : Int, Builtin.Int.intBits x ≤ x.natAbs.log2 + 1 := fun x => by
    unfold Builtin.Int.intBits
    split <;> omega
  have h1 := b i
  have h2 := b j
  have h3 : i.natAbs.log2 + j.natAbs.log2 < 134000000 := h
  have e : bitsLine = 134217728 := by decide
  unfold IntMulOk
  intro z
  rw [Bool.and_eq_true] at z
  have z3 := of_decide_eq_true (show decide _ = true from z.2)
  rw [e] at z3
  omega
theorem op_mulV {X : Cx} : OpR X (binaryOp .Mult) (rI CMulV fun i j => .int (i * j)) := opI fun _ _ _ _ _ _ _ hc q => mul_int q hc.ok
theorem wide_mulV {i j : Int} {a b : Nat} (ha : i.natAbs < 2 ^ a) (hb : j.natAbs < 2 ^ b) (h0 : 0 < a) (h1 : 0 < b) (h : a + b ≤ 134000000) : CMulV i j := by
  have x := PySem.Flt.log2_lt_of h0 ha
  have y := PySem.Flt.log2_lt_of h1 hb
  unfold CMulV
  omega
instance {a b : Int} : Decidable (CMulV a b) := by unfold CMulV; exact inferInstance
instance {a b : Int} : Decidable (CDivW a b) := by unfold CDivW; exact inferInstance
noncomputable def mulR (a b : Int) : R Int := gd (CMulV a b) (.ok (a * b))
noncomputable def divR (a b : Int) : R Int := gd (CDivW a b) (.ok (a / b))
noncomputable def modR (a b : Int) : R Int := gd (0 < b) (.ok (a % b))
noncomputable def shrR (a b : Int) : R Int := gd (0 ≤ b) (.ok (a / 2 ^ b.toNat))
theorem g_mul {ma mb : R Int} (ha : Gr K E ta σ F H ma) (hb : Gr K E tb σ F H mb) : Gr K E (tOp (rI CMulV fun i j => .int (i * j)) ta tb) σ F H (R.bd ma fun a => R.bd mb fun b => mulR a b) := g_iC ha hb
theorem g_div {ma mb : R Int} (ha : Gr K E ta σ F H ma) (hb : Gr K E tb σ F H mb) : Gr K E (tOp (rI CDivW fun i j => .int (i / j)) ta tb) σ F H (R.bd ma fun a => R.bd mb fun b => divR a b) := g_iC ha hb
theorem g_mod {ma mb : R Int} (ha : Gr K E ta σ F H ma) (hb : Gr K E tb σ F H mb) : Gr K E (tOp (rI (fun _ j => 0 < j) fun i j => .int (i % j)) ta tb) σ F H (R.bd ma fun a => R.bd mb fun b => modR a b) := g_iC ha hb
theorem g_shr {ma mb : R Int} (ha : Gr K E ta σ F H ma) (hb : Gr K E tb σ F H mb) : Gr K E (tOp (rI (fun _ j => 0 ≤ j) fun i j => .int (i / 2 ^ j.toNat)) ta tb) σ F H (R.bd ma fun a => R.bd mb fun b => shrR a b) := g_iC ha hb
/-- a written factor -/
theorem g_mulL {ma : R Int} {b : Int} (hc : -(2 ^ 64) < b ∧ b < 2 ^ 64) (ha : Gr K E ta σ F H ma) (hb : Gr K E tb σ F H (.ok b)) : Gr K E (tOp (rI CMul fun i j => .int (i * j)) ta tb) σ F H (R.bd ma fun a => .ok (a * b)) := g_iK (fun _ => .inr hc) ha hb
theorem g_mulF {mb : R Int} {a : Int} (hc : -(2 ^ 64) < a ∧ a < 2 ^ 64) (ha : Gr K E ta σ F H (.ok a)) (hb : Gr K E tb σ F H mb) : Gr K E (tOp (rI CMul fun i j => .int (i * j)) ta tb) σ F H (R.bd mb fun b => .ok (a * b)) := fun H1 e Q hq =>
  ha H1 e _ fun v H2 e2 r2 => gr_seq hb (e.trans e2) (wp_mono hq (fun b _ kb v H3 e3 r3 => kb v H3 (e2.trans e3) r3) fun c _ z => z.mono e2) fun b w H3 e3 r3 hq3 => ⟨a, b, r2, r3, .inl hc, hq3 _ H3 (Same.refl _) rfl⟩
theorem g_divL {ma : R Int} {b : Int} (hc : 0 < b ∧ b.natAbs.log2 < 9000) (ha : Gr K E ta σ F H ma) (hb : Gr K E tb σ F H (.ok b)) : Gr K E (tOp (rI CDivW fun i j => .int (i / j)) ta tb) σ F H (R.bd ma fun a => .ok (a / b)) := g_iK (fun _ => hc) ha hb
theorem g_modL {ma : R Int} {b : Int} (hc : 0 < b) (ha : Gr K E ta σ F H ma) (hb : Gr K E tb σ F H (.ok b)) : Gr K E (tOp (rI (fun _ j => 0 < j) fun i j => .int (i % j)) ta tb) σ F H (R.bd ma fun a => .ok (a % b)) := g_iK (fun _ => hc) ha hb
theorem g_pow {a : Int} {n : Nat} (hc : n ≤ 1000000 ∧ a.natAbs < 2 ^ 64) : Gr K E (tOp (rI CPow fun i j => .int (i ^ j.toNat)) (tC (.int a)) (tC (.int n))) σ F H (.ok (a ^ n)) := fun H1 e Q hq =>
  ⟨a, n, rfl, rfl, ⟨by omega, by omega, hc.2⟩, hq _ H1 (Same.refl _) rfl⟩
theorem g_neg {ma : R Int} (ha : Gr K E ta σ F H ma) : Gr K E (tUn (rU fun i => .int (-i)) ta) σ F H (R.bd ma fun a => .ok (-a)) := fun H1 e Q hq =>
  gr_seq ha e hq fun a v H2 e2 r hq2 => ⟨a, r, hq2 _ H2 (Same.refl _) rfl⟩
theorem g_eq [Sc α] [DecidableEq α] {ma mb : R α} (ha : Gr K E ta σ F H ma) (hb : Gr K E tb σ F H mb) : Gr K E (tOp rEq ta tb) σ F H (R.bd ma fun a => R.bd mb fun b => .ok (decide (a = b))) := fun H1 e Q hq =>
  gr_seq ha e hq fun a v H2 e2 r hq2 => gr_seq hb (e.trans e2) hq2 fun b w H3 e3 r3 hq3 => by
    have h1 := Sc.is.mp r
    have h2 := Sc.is.mp r3
    subst h1 h2
    refine ⟨Sc.sc a b, ?_⟩
    have e : decide (Sc.enc a = Sc.enc b) = decide (a = b) := decide_eq_decide.mpr ⟨Sc.inj, fun q => by rw [q]⟩
    rw [e]
    exact hq3 _ H3 (Same.refl _) rfl
theorem g_ne [Sc α] [DecidableEq α] {ma mb : R α} (ha : Gr K E ta σ F H ma) (hb : Gr K E tb σ F H mb) : Gr K E (tOp rNe ta tb) σ F H (R.bd ma fun a => R.bd mb fun b => .ok (!decide (a = b))) := fun H1 e Q hq =>
  gr_seq ha e hq fun a v H2 e2 r hq2 => gr_seq hb (e.trans e2) hq2 fun b w H3 e3 r3 hq3 => by
    have h1 := Sc.is.mp r
    have h2 := Sc.is.mp r3
    subst h1 h2
    refine ⟨Sc.sc a b, ?_⟩
    have e : decide (Sc.enc a = Sc.enc b) = decide (a = b) := decide_eq_decide.mpr ⟨Sc.inj, fun q => by rw [q]⟩
    rw [e]
    exact hq3 _ H3 (Same.refl _) rfl
theorem g_isN [NN α] {ma : R (Option α)} (ha : Gr K E ta σ F H ma) : Gr K E (tIsN ta) σ F H (R.bd ma fun a => .ok a.isNone) := fun H1 e Q hq =>
  gr_seq ha e hq fun a v H2 e2 r hq2 => by
    show Q (.bl (decide (v = .non))) H2
    cases a with
    | none =>
      have r' : v = .non := r
      rw [decide_eq_true r']
      exact hq2 _ H2 (Same.refl _) rfl
    | some a =>
      rw [decide_eq_false r.1]
      exact hq2 _ H2 (Same.refl _) rfl
theorem g_notN [NN α] {ma : R (Option α)} (ha : Gr K E ta σ F H ma) : Gr K E (tNotN ta) σ F H (R.bd ma fun a => .ok a.isSome) := fun H1 e Q hq =>
  gr_seq ha e hq fun a v H2 e2 r hq2 => by
    show Q (.bl (!decide (v = .non))) H2
    cases a with
    | none =>
      have r' : v = .non := r
      rw [decide_eq_true r']
      exact hq2 _ H2 (Same.refl _) rfl
    | some a =>
      rw [decide_eq_false r.1]
      exact hq2 _ H2 (Same.refl _) rfl
/-! tests -/
theorem t_test {ma : R Bool} (ha : Gr K E ta σ F H ma) : GrT K E (tTest ta) σ H ma := fun H1 e Q hq =>
  ha H1 e _ (wp_mono hq (fun a _ k v H2 e2 r => ⟨a, r, k H2 e2⟩) fun _ _ z => z)
theorem t_B {ma : R Bool} (ha : Gr K E ta σ F H ma) : GrT K E (tB ta) σ H ma := fun H1 e Q hq =>
  ha H1 e _ (wp_mono hq (fun a _ k v H2 e2 r => ⟨a, r, k H2 e2⟩) fun _ _ z => z)
theorem t_not {ma : R Bool} (ha : GrT K E t σ H ma) : GrT K E (tNot t) σ H (R.bd ma fun b => .ok (!b)) := fun H1 e Q hq =>
  ha H1 e _ (by rw [wp_bd] at hq; exact hq)
theorem t_and {ma mb : R Bool} (ha : GrT K E t σ H ma) (hb : GrT K E u σ H mb) : GrT K E (tAnd t u) σ H (R.bd ma fun b => if b = true then mb else .ok false) := fun H1 e Q hq =>
  ha H1 e _ (by
    rw [wp_bd] at hq
    refine wp_mono hq (fun a _ k H2 e2 => ?_) fun _ _ z => z
    cases a with
    | true => exact hb H2 (e.trans e2) _ (wp_mono k (fun b _ kb H3 e3 => kb H3 (e2.trans e3)) fun c _ z => z.mono e2)
    | false => exact k H2 e2)
theorem t_or {ma mb : R Bool} (ha : GrT K E t σ H ma) (hb : GrT K E u σ H mb) : GrT K E (tOr t u) σ H (R.bd ma fun b => if b = true then .ok true else mb) := fun H1 e Q hq =>
  ha H1 e _ (by
    rw [wp_bd] at hq
    refine wp_mono hq (fun a _ k H2 e2 => ?_) fun _ _ z => z
    cases a with
    | true => exact k H2 e2
    | false => exact hb H2 (e.trans e2) _ (wp_mono k (fun b _ kb H3 e3 => kb H3 (e2.trans e3)) fun c _ z => z.mono e2))
/-- .. where the second can't fail -/
theorem t_andP {ma : R Bool} {b : Bool} (ha : GrT K E t σ H ma) (hb : GrT K E u σ H (.ok b)) : GrT K E (tAnd t u) σ H (R.bd ma fun a => .ok (a && b)) := fun H1 e Q hq =>
  t_and ha hb H1 e Q (by
    rw [wp_bd] at hq ⊢
    refine wp_mono hq (fun a _ k => ?_) fun _ _ z => z
    cases a with
    | true => exact k
    | false => exact k)
theorem t_orP {ma : R Bool} {b : Bool} (ha : GrT K E t σ H ma) (hb : GrT K E u σ H (.ok b)) : GrT K E (tOr t u) σ H (R.bd ma fun a => .ok (a || b)) := fun H1 e Q hq =>
  t_or ha hb H1 e Q (by
    rw [wp_bd] at hq ⊢
    refine wp_mono hq (fun a _ k => ?_) fun _ _ z => z
    cases a with
    | true => exact k
    | false => exact k)
/-! .. as values -/
theorem g_notV {ma : R Bool} (ha : Gr K E ta σ F H ma) : Gr K E (tNotV ta) σ F H (R.bd ma fun b => .ok (!b)) := fun H1 e Q hq =>
  gr_seq ha e hq fun a v H2 e2 r hq2 => ⟨a, r, hq2 _ H2 (Same.refl _) rfl⟩
theorem g_andV {ma mb : R Bool} (ha : Gr K E ta σ F H ma) (hb : Gr K E tb σ F H mb) : Gr K E (tAndV ta tb) σ F H (R.bd ma fun b => if b = true then mb else .ok false) := fun H1 e Q hq =>
  gr_seq ha e hq fun a v H2 e2 r hq2 => ⟨a, r, by
    cases a with
    | true => exact hb H2 (e.trans e2) _ hq2
    | false => exact hq2 _ H2 (Same.refl _) rfl⟩
theorem g_orV {ma mb : R Bool} (ha : Gr K E ta σ F H ma) (hb : Gr K E tb σ F H mb) : Gr K E (tOrV ta tb) σ F H (R.bd ma fun b => if b = true then .ok true else mb) := fun H1 e Q hq =>
  gr_seq ha e hq fun a v H2 e2 r hq2 => ⟨a, r, by
    cases a with
    | true => exact hq2 _ H2 (Same.refl _) rfl
    | false => exact hb H2 (e.trans e2) _ hq2⟩
theorem g_andVP {ma : R Bool} {b : Bool} (ha : Gr K E ta σ F H ma) (hb : Gr K E tb σ F H (.ok b)) : Gr K E (tAndV ta tb) σ F H (R.bd ma fun a => .ok (a && b)) := fun H1 e Q hq =>
  g_andV ha hb H1 e Q (by
    rw [wp_bd] at hq ⊢
    refine wp_mono hq (fun a _ k => ?_) fun _ _ z => z
    cases a with
    | true => exact k
    | false => exact k)
theorem g_orVP {ma : R Bool} {b : Bool} (ha : Gr K E ta σ F H ma) (hb : Gr K E tb σ F H (.ok b)) : Gr K E (tOrV ta tb) σ F H (R.bd ma fun a => .ok (a || b)) := fun H1 e Q hq =>
  g_orV ha hb H1 e Q (by
    rw [wp_bd] at hq ⊢
    refine wp_mono hq (fun a _ k => ?_) fun _ _ z => z
    cases a with
    | true => exact k
    | false => exact k)
theorem g_if {mc : R Bool} {ma mb : R α} (hc : GrT K E t σ H mc) (ha : Gr K E ta σ F H ma) (hb : Gr K E tb σ F H mb) : Gr K E (tIf t ta tb) σ F H (R.bd mc fun b => if b = true then ma else mb) := fun H1 e Q hq =>
  gr_seqT hc e hq fun a H2 e2 hq2 => by
    cases a with
    | true => exact ha H2 (e.trans e2) _ hq2
    | false => exact hb H2 (e.trans e2) _ hq2
end
end G

set_option Elab.async false
set_option linter.all false
set_option maxRecDepth 100000
set_option maxHeartbeats 2000000
/-! G: lists, tuples, calls of built-ins, comprehensions. -/
namespace G
open PySem PySem.Spec PyProof.Rows L2
/-- lists made here are no longer than this -/
def lim : Nat := 10000000
theorem lim_line {n : Nat} (h : n ≤ lim) : n ≤ sizeLine := Nat.le_trans h (by decide)
theorem lim_line' {n : Nat} (h : n < lim) : n < sizeLine := Nat.lt_of_lt_of_le h (by decide)
section
variable {K : PySem.W.Frag} {E : XK} {σ : L2.St} {F H : Hp} {ta tb te tl : TE} {t u : TT} {α β γ δ ρ : Type} [Rp α] [Rp β] [Rp γ] [Rp δ] [Rp ρ]
/-! ### arguments in a row -/
inductive Rs : List (Σ α : Type, Rp α) → Type 1
  | nil : Rs []
def GrA (K : PySem.W.Frag) (E : XK) (ta : TA) (σ : L2.St) (F H : Hp) (m : R (List α)) : Prop :=
  ∀ H1, Same H H1 → ∀ Q : List V → Hp → Prop, Wp m (fun as => ∀ vs H2, Same H1 H2 → All2 (Rp.rep K (mix F H H2)) vs as → Q vs H2) (EE K E H1) → ta σ H1 Q
theorem a_nil : GrA K E tNil σ F H (.ok ([] : List α)) := fun H1 e Q hq => hq [] H1 (Same.refl _) .nil
theorem a_cons {tr : TA} {m : R α} {mr : R (List α)} (h : Gr K E ta σ F H m) (hr : GrA K E tr σ F H mr) : GrA K E (tCons ta tr) σ F H (R.bd m fun a => R.bd mr fun as => .ok (a :: as)) := fun H1 e Q hq =>
  h H1 e _ (by
    rw [wp_bd] at hq
    refine wp_mono hq (fun a _ k v H2 e2 r => ?_) fun _ _ z => z
    refine hr H2 (e.trans e2) _ ?_
    rw [wp_bd] at k
    exact wp_mono k (fun as _ k2 vs H3 e3 r3 => k2 (v :: vs) H3 (e2.trans e3) (.cons (Rp.mono (mix_mono e3) r) r3)) fun c _ z => z.mono e2)
/-- a list display -/
theorem g_lst {t : TA} {m : R (List α)} (h : GrA K E t σ F H m) : Gr K E (tLst t) σ F H (R.bd m fun as => gd (as.length ≤ lim) (.ok as)) := fun H1 e Q hq =>
  h H1 e _ (by
    rw [wp_bd] at hq
    refine wp_mono hq (fun as _ k vs H2 e2 r => ?_) fun _ _ z => z
    unfold gd at k
    split at k
    · rename_i c
      refine ⟨lim_line (by rw [r.length]; exact c), fun p hp => k _ _ (e2.trans (fun b o q => by rw [upd_ne (ne_of_none q hp)]; exact q)) ?_⟩
      have hn : H p = none := Same.free (e.trans e2) hp
      refine ⟨p, vs, rfl, by rw [mix_new hn]; exact upd_same, r.mono fun _ _ x => Rp.mono (mix_mono fun b o q => by rw [upd_ne (ne_of_none q hp)]; exact q) x⟩
    · exact k.elim)
/-- .. short, its items known -/
theorem g_lstK {t : TA} {as : List α} (h : GrA K E t σ F H (.ok as)) (hl : as.length ≤ lim := by decide) : Gr K E (tLst t) σ F H (.ok as) := fun H1 e Q hq =>
  g_lst h H1 e Q (by rw [wp_bd]; show Wp (gd _ _) _ _; rw [gd_pos hl]; exact hq)
theorem same_upd {H : Hp} {p : Addr} {o : HO} (hp : H p = none) : Same H (upd H p o) := fun b u q => by rw [upd_ne (ne_of_none q hp)]; exact q
theorem g_pair {ma : R α} {mb : R β} (ha : Gr K E ta σ F H ma) (hb : Gr K E tb σ F H mb) : Gr K E (tTup (tCons ta (tCons tb tNil))) σ F H (R.bd ma fun a => R.bd mb fun b => .ok (a, b)) := fun H1 e Q hq =>
  gr_seq ha e hq fun a v H2 e2 r hq2 => gr_seq hb (e.trans e2) hq2 fun b w H3 e3 r3 hq3 => by
    refine ⟨by show 2 ≤ sizeLine; decide, fun p hp => hq3 _ _ (same_upd hp) ?_⟩
    have hn : H p = none := Same.free (e.trans (e2.trans e3)) hp
    exact ⟨p, v, w, rfl, by rw [mix_new hn]; exact upd_same, Rp.mono (mix_mono (e3.trans (same_upd hp))) r, Rp.mono (mix_mono (same_upd hp)) r3⟩
theorem g_tri {tc : TE} {ma : R α} {mb : R β} {mc : R γ} (ha : Gr K E ta σ F H ma) (hb : Gr K E tb σ F H mb) (hc : Gr K E tc σ F H mc) :
    Gr K E (tTup (tCons ta (tCons tb (tCons tc tNil)))) σ F H (R.bd ma fun a => R.bd mb fun b => R.bd mc fun c => .ok (T3.mk a b c)) := fun H1 e Q hq =>
  gr_seq ha e hq fun a v H2 e2 r hq2 => gr_seq hb (e.trans e2) hq2 fun b w H3 e3 r3 hq3 => gr_seq hc (e.trans (e2.trans e3)) hq3 fun c z H4 e4 r4 hq4 => by
    refine ⟨by show 3 ≤ sizeLine; decide, fun p hp => hq4 _ _ (same_upd hp) ?_⟩
    have hn : H p = none := Same.free (e.trans (e2.trans (e3.trans e4))) hp
    exact ⟨p, v, w, z, rfl, by rw [mix_new hn]; exact upd_same, Rp.mono (mix_mono (e3.trans (e4.trans (same_upd hp)))) r, Rp.mono (mix_mono (e4.trans (same_upd hp))) r3, Rp.mono (mix_mono (same_upd hp)) r4⟩
/-! ### items -/
def idx {α : Type} (xs : List α) (i : Int) : R α := match atI xs i with
  | some a => .ok a
  | none => .bad
theorem all2_atI {P : V → α → Prop} {vs : List V} {xs : List α} {i : Int} {a : α} (h : All2 P vs xs) (e : atI xs i = some a) : ∃ v, atI vs i = some v ∧ P v a := by
  unfold atI at e ⊢
  rw [h.length]
  cases q : ixN xs.length i with
  | none => rw [q] at e; cases e
  | some j =>
    rw [q] at e
    exact h.get e
theorem g_idx {ma : R (List α)} {mi : R Int} (ha : Gr K E ta σ F H ma) (hi : Gr K E tb σ F H mi) (hF : Same F H) : Gr K E (tOp (rIxL K) ta tb) σ F H (R.bd ma fun a => R.bd mi fun i => idx a i) := fun H1 e Q hq =>
  gr_seq ha e hq fun xs v H2 e2 r hq2 => gr_seq hi (e.trans e2) hq2 fun i w H3 e3 r3 hq3 => by
    obtain ⟨p, vs, rfl, hp, hv⟩ := r
    have r3' : w = .int i := r3
    subst r3'
    unfold idx at hq3
    cases q : atI xs i with
    | none => rw [q] at hq3; exact hq3.elim
    | some a =>
      rw [q] at hq3
      obtain ⟨x, hx, rx⟩ := all2_atI hv q
      refine ⟨p, vs, i, x, rfl, rfl, SqL.of (e3 p _ (mix_same hF (e.trans e2) p _ hp)), hx, hq3 x H3 (Same.refl _) (Rp.mono (mix_mono e3) rx)⟩
theorem g_idxT {ma : R (Tu α)} {mi : R Int} (ha : Gr K E ta σ F H ma) (hi : Gr K E tb σ F H mi) (hF : Same F H) : Gr K E (tOp (rIxT K) ta tb) σ F H (R.bd ma fun a => R.bd mi fun i => idx a.l i) := fun H1 e Q hq =>
  gr_seq ha e hq fun xs v H2 e2 r hq2 => gr_seq hi (e.trans e2) hq2 fun i w H3 e3 r3 hq3 => by
    obtain ⟨p, vs, rfl, hp, hv⟩ := r
    have r3' : w = .int i := r3
    subst r3'
    unfold idx at hq3
    cases q : atI xs.l i with
    | none => rw [q] at hq3; exact hq3.elim
    | some a =>
      rw [q] at hq3
      obtain ⟨x, hx, rx⟩ := all2_atI hv q
      refine ⟨p, vs, i, x, rfl, rfl, SqT.of (e3 p _ (mix_same hF (e.trans e2) p _ hp)), hx, hq3 x H3 (Same.refl _) (Rp.mono (mix_mono e3) rx)⟩
theorem atI_map {α β : Type} {f : α → β} {xs : List α} {i : Int} {a : α} (h : atI xs i = some a) : atI (xs.map f) i = some (f a) := by
  unfold atI at h ⊢
  rw [List.length_map]
  cases q : ixN xs.length i with
  | none => rw [q] at h; cases h
  | some j =>
    rw [q] at h
    show (xs.map f)[j]? = some (f a)
    rw [List.getElem?_map, show xs[j]? = some a from h]
    rfl
/-- the script's -/
theorem g_idxS {ma : R Scr} {mi : R Int} (ha : Gr K E ta σ F H ma) (hi : Gr K E tb σ F H mi) (hF : Same F H) : Gr K E (tOp (rIxL K) ta tb) σ F H (R.bd ma fun a => R.bd mi fun i => idx a.l i) := fun H1 e Q hq =>
  gr_seq ha e hq fun xs v H2 e2 r hq2 => gr_seq hi (e.trans e2) hq2 fun i w H3 e3 r3 hq3 => by
    obtain ⟨p, rfl, hp⟩ := r
    have r3' : w = .int i := r3
    subst r3'
    unfold idx at hq3
    cases q : atI xs.l i with
    | none => rw [q] at hq3; exact hq3.elim
    | some a =>
      rw [q] at hq3
      exact ⟨p, _, i, _, rfl, rfl, e3.seq ((mix_same hF (e.trans e2)).seq hp), atI_map q, hq3 _ H3 (Same.refl _) rfl⟩
theorem g_fst {m : R (α × β)} (h : Gr K E ta σ F H m) (hF : Same F H) : Gr K E (tOp (rIxT K) ta (tC (.int 0))) σ F H (R.bd m fun p => .ok p.1) := fun H1 e Q hq =>
  gr_seq h e hq fun a v H2 e2 r hq2 => by
    obtain ⟨p, x, y, rfl, hp, r1, r2⟩ := r
    exact ⟨p, _, 0, x, rfl, rfl, SqT.of (mix_same hF (e.trans e2) p _ hp), rfl, hq2 x H2 (Same.refl _) r1⟩
theorem g_snd {m : R (α × β)} (h : Gr K E ta σ F H m) (hF : Same F H) : Gr K E (tOp (rIxT K) ta (tC (.int 1))) σ F H (R.bd m fun p => .ok p.2) := fun H1 e Q hq =>
  gr_seq h e hq fun a v H2 e2 r hq2 => by
    obtain ⟨p, x, y, rfl, hp, r1, r2⟩ := r
    exact ⟨p, _, 1, y, rfl, rfl, SqT.of (mix_same hF (e.trans e2) p _ hp), rfl, hq2 y H2 (Same.refl _) r2⟩
theorem g_t3a {m : R (T3 α β γ)} (h : Gr K E ta σ F H m) (hF : Same F H) : Gr K E (tOp (rIxT K) ta (tC (.int 0))) σ F H (R.bd m fun p => .ok p.a) := fun H1 e Q hq =>
  gr_seq h e hq fun a v H2 e2 r hq2 => by
    obtain ⟨p, x, y, z, rfl, hp, r1, r2, r3⟩ := r
    exact ⟨p, _, 0, x, rfl, rfl, SqT.of (mix_same hF (e.trans e2) p _ hp), rfl, hq2 x H2 (Same.refl _) r1⟩
theorem g_t3b {m : R (T3 α β γ)} (h : Gr K E ta σ F H m) (hF : Same F H) : Gr K E (tOp (rIxT K) ta (tC (.int 1))) σ F H (R.bd m fun p => .ok p.b) := fun H1 e Q hq =>
  gr_seq h e hq fun a v H2 e2 r hq2 => by
    obtain ⟨p, x, y, z, rfl, hp, r1, r2, r3⟩ := r
    exact ⟨p, _, 1, y, rfl, rfl, SqT.of (mix_same hF (e.trans e2) p _ hp), rfl, hq2 y H2 (Same.refl _) r2⟩
theorem g_t3c {m : R (T3 α β γ)} (h : Gr K E ta σ F H m) (hF : Same F H) : Gr K E (tOp (rIxT K) ta (tC (.int 2))) σ F H (R.bd m fun p => .ok p.c) := fun H1 e Q hq =>
  gr_seq h e hq fun a v H2 e2 r hq2 => by
    obtain ⟨p, x, y, z, rfl, hp, r1, r2, r3⟩ := r
    exact ⟨p, _, 2, z, rfl, rfl, SqT.of (mix_same hF (e.trans e2) p _ hp), rfl, hq2 z H2 (Same.refl _) r3⟩
/-! ### slices: xs[a:b] -/
def GrO (K : PySem.W.Frag) (E : XK) (to : TO) (σ : L2.St) (H : Hp) (m : R (Option Int)) : Prop :=
  ∀ H1, Same H H1 → ∀ Q : Option Int → Hp → Prop, Wp m (fun o => ∀ H2, Same H1 H2 → Q o H2) (EE K E H1) → to σ H1 Q
theorem o_no : GrO K E tNoPart σ H (.ok none) := fun H1 e Q hq => hq H1 (Same.refl _)
theorem o_some {m : R Int} (h : Gr K E ta σ F H m) : GrO K E (tPart ta) σ H (R.bd m fun i => .ok (some i)) := fun H1 e Q hq =>
  h H1 e _ (by rw [wp_bd] at hq; exact wp_mono hq (fun i _ k v H2 e2 r => ⟨i, r, k H2 e2⟩) fun _ _ z => z)
def cut {α : Type} (xs : List α) (lo hi : Option Int) : List α := (xs.drop (HT.sIx xs.length 0 lo)).take (HT.sIx xs.length xs.length hi - HT.sIx xs.length 0 lo)
theorem all2_cut {P : V → α → Prop} {vs : List V} {xs : List α} {lo hi : Option Int} (h : All2 P vs xs) : All2 P (cutV vs lo hi) (cut xs lo hi) := by
  unfold cutV cut
  rw [h.length]
  exact (h.drop _).take _
theorem gro_seq {mo : R (Option Int)} {to : TO} {f : Option Int → R β} {Q : VK} {H1 : Hp} (ha : GrO K E to σ H mo) (e : Same H H1) (hq : Wp (R.bd mo f) (fun b => ∀ v H2, Same H1 H2 → Rp.rep K (mix F H H2) v b → Q v H2) (EE K E H1))
    {Q' : Option Int → Hp → Prop} (h : ∀ a H2, Same H1 H2 → Wp (f a) (fun b => ∀ v H3, Same H2 H3 → Rp.rep K (mix F H H3) v b → Q v H3) (EE K E H2) → Q' a H2) : to σ H1 Q' := by
  refine ha H1 e Q' ?_
  rw [wp_bd] at hq
  exact wp_mono hq (fun a _ ka H2 e2 => h a H2 e2 (wp_mono ka (fun b _ kb v H3 e3 r3 => kb v H3 (e2.trans e3) r3) fun c _ z => z.mono e2)) fun c _ z => z
theorem g_cut {tlo thi : TO} {m : R (List α)} {mlo mhi : R (Option Int)} (h : Gr K E ta σ F H m) (hlo : GrO K E tlo σ H mlo) (hhi : GrO K E thi σ H mhi) (hF : Same F H) :
    Gr K E (tSl (rSlL K) ta tlo thi) σ F H (R.bd m fun xs => R.bd mlo fun lo => R.bd mhi fun hi => .ok (cut xs lo hi)) := fun H1 e Q hq =>
  gr_seq h e hq fun xs v H2 e2 r hq2 => gro_seq hlo (e.trans e2) hq2 fun lo H3 e3 hq3 => gro_seq hhi (e.trans (e2.trans e3)) hq3 fun hi H4 e4 hq4 => by
    obtain ⟨p, vs, rfl, hp, hv⟩ := r
    refine ⟨p, vs, rfl, SqL.of (e4 p _ (e3 p _ (mix_same hF (e.trans e2) p _ hp))), fun l hl => hq4 _ _ (same_upd hl) ?_⟩
    have hn : H l = none := Same.free (e.trans (e2.trans (e3.trans e4))) hl
    exact ⟨l, _, rfl, by rw [mix_new hn]; exact upd_same, all2_cut (hv.mono fun _ _ x => Rp.mono (mix_mono (e3.trans (e4.trans (same_upd hl)))) x)⟩
/-! ### +, * of lists -/
theorem g_cat {ma mb : R (List α)} (ha : Gr K E ta σ F H ma) (hb : Gr K E tb σ F H mb) (hF : Same F H) : Gr K E (tOp rCat ta tb) σ F H (R.bd ma fun a => R.bd mb fun b => gd (a.length + b.length ≤ lim) (.ok (a ++ b))) := fun H1 e Q hq =>
  gr_seq ha e hq fun a v H2 e2 r hq2 => gr_seq hb (e.trans e2) hq2 fun b w H3 e3 r3 hq3 => by
    obtain ⟨p, vs, rfl, hp, hv⟩ := r
    obtain ⟨q, ws, rfl, hq', hw⟩ := r3
    unfold gd at hq3
    split at hq3
    · rename_i c
      refine ⟨p, q, vs, ws, rfl, rfl, e3 p _ (mix_same hF (e.trans e2) p _ hp), mix_same hF (e.trans (e2.trans e3)) q _ hq', lim_line (by rw [hv.length, hw.length]; exact c), fun l hl => hq3 _ _ (same_upd hl) ?_⟩
      have hn : H l = none := Same.free (e.trans (e2.trans e3)) hl
      exact ⟨l, _, rfl, by rw [mix_new hn]; exact upd_same, (hv.mono fun _ _ x => Rp.mono (mix_mono (e3.trans (same_upd hl))) x).append (hw.mono fun _ _ x => Rp.mono (mix_mono (same_upd hl)) x)⟩
    · exact hq3.elim
theorem all2_rep {P : V → α → Prop} {vs : List V} {xs : List α} (h : All2 P vs xs) : ∀ n : Nat, All2 P (List.replicate n vs).flatten (List.replicate n xs).flatten
  | 0 => .nil
  | n + 1 => by
    rw [List.replicate_succ, List.replicate_succ, List.flatten_cons, List.flatten_cons]
    exact h.append (all2_rep h n)
noncomputable def repR {α : Type} (xs : List α) (k : Int) : R (List α) := gd (-(2 ^ 62) ≤ k ∧ k < 2 ^ 62 ∧ xs.length * k.toNat ≤ lim) (.ok (List.replicate k.toNat xs).flatten)
theorem g_rep {ma : R (List α)} {mb : R Int} (ha : Gr K E ta σ F H ma) (hb : Gr K E tb σ F H mb) (hF : Same F H) : Gr K E (tOp rRep ta tb) σ F H (R.bd ma fun a => R.bd mb fun b => repR a b) := fun H1 e Q hq =>
  gr_seq ha e hq fun a v H2 e2 r hq2 => gr_seq hb (e.trans e2) hq2 fun b w H3 e3 r3 hq3 => by
    obtain ⟨p, vs, rfl, hp, hv⟩ := r
    have r3' : w = .int b := r3
    subst r3'
    unfold repR gd at hq3
    split at hq3
    · rename_i c
      refine ⟨p, b, vs, rfl, rfl, e3 p _ (mix_same hF (e.trans e2) p _ hp), by omega, by omega, lim_line (by rw [hv.length]; exact c.2.2), fun l hl => hq3 _ _ (same_upd hl) ?_⟩
      have hn : H l = none := Same.free (e.trans (e2.trans e3)) hl
      exact ⟨l, _, rfl, by rw [mix_new hn]; exact upd_same, all2_rep (hv.mono fun _ _ x => Rp.mono (mix_mono (e3.trans (same_upd hl))) x) _⟩
    · exact hq3.elim
/-! ### built-ins -/
abbrev rLen (K : PySem.W.Frag) : List V → Hp → VK → Prop := fun xs H Q => ∃ p ys, xs = [.ref p] ∧ (SqL K H p ys ∨ SqT K H p ys) ∧ Q (.int ys.length) H
theorem g_len {m : R (List α)} (h : Gr K E ta σ F H m) (hF : Same F H) : Gr K E (tCB (rLen K) (tCons ta tNil)) σ F H (R.bd m fun xs => .ok (xs.length : Int)) := fun H1 e Q hq =>
  gr_seq h e hq fun xs v H2 e2 r hq2 => by
    obtain ⟨p, vs, rfl, hp, hv⟩ := r
    refine ⟨p, vs, rfl, .inl (SqL.of (mix_same hF (e.trans e2) p _ hp)), ?_⟩
    rw [hv.length]
    exact hq2 _ H2 (Same.refl _) rfl
theorem g_lenT {m : R (Tu α)} (h : Gr K E ta σ F H m) (hF : Same F H) : Gr K E (tCB (rLen K) (tCons ta tNil)) σ F H (R.bd m fun xs => .ok (xs.l.length : Int)) := fun H1 e Q hq =>
  gr_seq h e hq fun xs v H2 e2 r hq2 => by
    obtain ⟨p, vs, rfl, hp, hv⟩ := r
    refine ⟨p, vs, rfl, .inr (SqT.of (mix_same hF (e.trans e2) p _ hp)), ?_⟩
    rw [hv.length]
    exact hq2 _ H2 (Same.refl _) rfl
theorem g_lenS {m : R Scr} (h : Gr K E ta σ F H m) (hF : Same F H) : Gr K E (tCB (rLen K) (tCons ta tNil)) σ F H (R.bd m fun xs => .ok (xs.l.length : Int)) := fun H1 e Q hq =>
  gr_seq h e hq fun xs v H2 e2 r hq2 => by
    obtain ⟨p, rfl, hp⟩ := r
    refine ⟨p, _, rfl, .inl ((mix_same hF (e.trans e2)).seq hp), ?_⟩
    rw [List.length_map]
    exact hq2 _ H2 (Same.refl _) rfl
theorem g_len2 {m : R (α × β)} (h : Gr K E ta σ F H m) (hF : Same F H) : Gr K E (tCB (rLen K) (tCons ta tNil)) σ F H (R.bd m fun _ => .ok (2 : Int)) := fun H1 e Q hq =>
  gr_seq h e hq fun xs v H2 e2 r hq2 => by
    obtain ⟨p, x, y, rfl, hp, _⟩ := r
    exact ⟨p, _, rfl, .inr (SqT.of (mix_same hF (e.trans e2) p _ hp)), hq2 _ H2 (Same.refl _) rfl⟩
theorem g_len3 {m : R (T3 α β γ)} (h : Gr K E ta σ F H m) (hF : Same F H) : Gr K E (tCB (rLen K) (tCons ta tNil)) σ F H (R.bd m fun _ => .ok (3 : Int)) := fun H1 e Q hq =>
  gr_seq h e hq fun xs v H2 e2 r hq2 => by
    obtain ⟨p, x, y, z, rfl, hp, _⟩ := r
    exact ⟨p, _, rfl, .inr (SqT.of (mix_same hF (e.trans e2) p _ hp)), hq2 _ H2 (Same.refl _) rfl⟩
abbrev rListOf (K : PySem.W.Frag) : List V → Hp → VK → Prop := fun xs H Q => ∃ p ys, xs = [.ref p] ∧ (SqL K H p ys ∨ SqT K H p ys) ∧ ∀ l, H l = none → Q (.ref l) (upd H l (.lst ys))
theorem g_list {m : R (List α)} (h : Gr K E ta σ F H m) (hF : Same F H) : Gr K E (tCB (rListOf K) (tCons ta tNil)) σ F H m := fun H1 e Q hq =>
  gr_seq h e (by rw [bd_id]; exact hq) fun xs v H2 e2 r hq2 => by
    obtain ⟨p, vs, rfl, hp, hv⟩ := r
    refine ⟨p, vs, rfl, .inl (SqL.of (mix_same hF (e.trans e2) p _ hp)), fun l hl => hq2 _ _ (same_upd hl) ?_⟩
    have hn : H l = none := Same.free (e.trans e2) hl
    exact ⟨l, _, rfl, by rw [mix_new hn]; exact upd_same, hv.mono fun _ _ x => Rp.mono (mix_mono (same_upd hl)) x⟩
theorem g_listT {m : R (Tu α)} (h : Gr K E ta σ F H m) (hF : Same F H) : Gr K E (tCB (rListOf K) (tCons ta tNil)) σ F H (R.bd m fun t => .ok t.l) := fun H1 e Q hq =>
  gr_seq h e hq fun xs v H2 e2 r hq2 => by
    obtain ⟨p, vs, rfl, hp, hv⟩ := r
    refine ⟨p, vs, rfl, .inr (SqT.of (mix_same hF (e.trans e2) p _ hp)), fun l hl => hq2 _ _ (same_upd hl) ?_⟩
    have hn : H l = none := Same.free (e.trans e2) hl
    exact ⟨l, _, rfl, by rw [mix_new hn]; exact upd_same, hv.mono fun _ _ x => Rp.mono (mix_mono (same_upd hl)) x⟩
abbrev rTupOf (K : PySem.W.Frag) : List V → Hp → VK → Prop := fun xs H Q => ∃ p ys, xs = [.ref p] ∧ ((SqL K H p ys ∧ ∀ l, H l = none → Q (.ref l) (upd H l (.tup ys))) ∨ (SqT K H p ys ∧ Q (.ref p) H))
theorem g_tuple {m : R (List α)} (h : Gr K E ta σ F H m) (hF : Same F H) : Gr K E (tCB (rTupOf K) (tCons ta tNil)) σ F H (R.bd m fun l => .ok (Tu.mk l)) := fun H1 e Q hq =>
  gr_seq h e hq fun xs v H2 e2 r hq2 => by
    obtain ⟨p, vs, rfl, hp, hv⟩ := r
    refine ⟨p, vs, rfl, .inl ⟨SqL.of (mix_same hF (e.trans e2) p _ hp), fun l hl => hq2 _ _ (same_upd hl) ?_⟩⟩
    have hn : H l = none := Same.free (e.trans e2) hl
    exact ⟨l, _, rfl, by rw [mix_new hn]; exact upd_same, hv.mono fun _ _ x => Rp.mono (mix_mono (same_upd hl)) x⟩
theorem g_sum {m : R (List Int)} (h : Gr K E ta σ F H m) (hF : Same F H) : Gr K E (tCB (rSum K) (tCons ta tNil)) σ F H (R.bd m fun l => .ok l.sum) := fun H1 e Q hq =>
  gr_seq h e hq fun xs v H2 e2 r hq2 => by
    obtain ⟨p, vs, rfl, hp, hv⟩ := r
    have := rep_ints hv
    subst this
    exact ⟨p, xs, rfl, SqL.of (mix_same hF (e.trans e2) p _ hp), hq2 _ H2 (Same.refl _) rfl⟩
def minR (xs : List Int) : R Int := match xs.min? with
  | some a => .ok a
  | none => .bad
def maxR (xs : List Int) : R Int := match xs.max? with
  | some a => .ok a
  | none => .bad
theorem min_of {xs : List Int} {m : Int} (h1 : m ∈ xs) (h2 : ∀ y, y ∈ xs → m ≤ y) : xs.min? = some m := List.min?_eq_some_iff.mpr ⟨h1, h2⟩
theorem max_of {xs : List Int} {m : Int} (h1 : m ∈ xs) (h2 : ∀ y, y ∈ xs → y ≤ m) : xs.max? = some m := List.max?_eq_some_iff.mpr ⟨h1, h2⟩
theorem g_min {m : R (List Int)} (h : Gr K E ta σ F H m) (hF : Same F H) : Gr K E (tCB (rMin K) (tCons ta tNil)) σ F H (R.bd m minR) := fun H1 e Q hq =>
  gr_seq h e hq fun xs v H2 e2 r hq2 => by
    obtain ⟨p, vs, rfl, hp, hv⟩ := r
    have := rep_ints hv
    subst this
    refine ⟨p, xs, rfl, SqL.of (mix_same hF (e.trans e2) p _ hp), ?_, fun m h1 h2 => ?_⟩
    · cases xs with
      | nil => exact hq2.elim
      | cons a l => exact Nat.succ_pos _
    · unfold minR at hq2
      rw [min_of h1 h2] at hq2
      exact hq2 _ H2 (Same.refl _) rfl
theorem g_max {m : R (List Int)} (h : Gr K E ta σ F H m) (hF : Same F H) : Gr K E (tCB (rMax K) (tCons ta tNil)) σ F H (R.bd m maxR) := fun H1 e Q hq =>
  gr_seq h e hq fun xs v H2 e2 r hq2 => by
    obtain ⟨p, vs, rfl, hp, hv⟩ := r
    have := rep_ints hv
    subst this
    refine ⟨p, xs, rfl, SqL.of (mix_same hF (e.trans e2) p _ hp), ?_, fun m h1 h2 => ?_⟩
    · cases xs with
      | nil => exact hq2.elim
      | cons a l => exact Nat.succ_pos _
    · unfold maxR at hq2
      rw [max_of h1 h2] at hq2
      exact hq2 _ H2 (Same.refl _) rfl
theorem g_all {m : R (List Bool)} (h : Gr K E ta σ F H m) (hF : Same F H) : Gr K E (tCB (rAll K) (tCons ta tNil)) σ F H (R.bd m fun l => .ok (l.all id)) := fun H1 e Q hq =>
  gr_seq h e hq fun xs v H2 e2 r hq2 => by
    obtain ⟨p, vs, rfl, hp, hv⟩ := r
    have := rep_bools hv
    subst this
    exact ⟨p, xs, rfl, SqL.of (mix_same hF (e.trans e2) p _ hp), hq2 _ H2 (Same.refl _) rfl⟩
theorem g_any {m : R (List Bool)} (h : Gr K E ta σ F H m) (hF : Same F H) : Gr K E (tCB (rAny K) (tCons ta tNil)) σ F H (R.bd m fun l => .ok (l.any id)) := fun H1 e Q hq =>
  gr_seq h e hq fun xs v H2 e2 r hq2 => by
    obtain ⟨p, vs, rfl, hp, hv⟩ := r
    have := rep_bools hv
    subst this
    exact ⟨p, xs, rfl, SqL.of (mix_same hF (e.trans e2) p _ hp), hq2 _ H2 (Same.refl _) rfl⟩
abbrev rAbs : List V → Hp → VK → Prop := fun xs H Q => ∃ i, xs = [.int i] ∧ Q (.int (if i < 0 then -i else i)) H
theorem g_abs {m : R Int} (h : Gr K E ta σ F H m) : Gr K E (tCB rAbs (tCons ta tNil)) σ F H (R.bd m fun i => .ok (if i < 0 then -i else i)) := fun H1 e Q hq =>
  gr_seq h e hq fun i v H2 e2 r hq2 => ⟨i, by rw [show v = V.int i from r], hq2 _ H2 (Same.refl _) rfl⟩
abbrev rInt1 : List V → Hp → VK → Prop := fun xs H Q => (∃ i, xs = [.int i] ∧ Q (.int i) H) ∨ ∃ k, xs = [.bl k] ∧ Q (.int (if k then 1 else 0)) H
theorem g_intB {m : R Bool} (h : Gr K E ta σ F H m) : Gr K E (tCB rInt1 (tCons ta tNil)) σ F H (R.bd m fun b => .ok (if b = true then (1 : Int) else 0)) := fun H1 e Q hq =>
  gr_seq h e hq fun i v H2 e2 r hq2 => .inr ⟨i, by rw [show v = V.bl i from r], hq2 _ H2 (Same.refl _) rfl⟩
abbrev rMin2 : List V → Hp → VK → Prop := fun xs H Q => ∃ i j, xs = [.int i, .int j] ∧ Q (.int (if j < i then j else i)) H
theorem g_min2 {ma mb : R Int} (ha : Gr K E ta σ F H ma) (hb : Gr K E tb σ F H mb) : Gr K E (tCB rMin2 (tCons ta (tCons tb tNil))) σ F H (R.bd ma fun i => R.bd mb fun j => .ok (if j < i then j else i)) := fun H1 e Q hq =>
  gr_seq ha e hq fun i v H2 e2 r hq2 => gr_seq hb (e.trans e2) hq2 fun j w H3 e3 r3 hq3 => ⟨i, j, by rw [show v = V.int i from r, show w = V.int j from r3], hq3 _ H3 (Same.refl _) rfl⟩
abbrev rMax2 : List V → Hp → VK → Prop := fun xs H Q => ∃ i j, xs = [.int i, .int j] ∧ Q (.int (if j > i then j else i)) H
theorem g_max2 {ma mb : R Int} (ha : Gr K E ta σ F H ma) (hb : Gr K E tb σ F H mb) : Gr K E (tCB rMax2 (tCons ta (tCons tb tNil))) σ F H (R.bd ma fun i => R.bd mb fun j => .ok (if j > i then j else i)) := fun H1 e Q hq =>
  gr_seq ha e hq fun i v H2 e2 r hq2 => gr_seq hb (e.trans e2) hq2 fun j w H3 e3 r3 hq3 => ⟨i, j, by rw [show v = V.int i from r, show w = V.int j from r3], hq3 _ H3 (Same.refl _) rfl⟩
/-! ### x in xs -/
theorem g_in [Sc α] [DecidableEq α] {neg : Bool} {ma : R α} {mb : R (List α)} (ha : Gr K E ta σ F H ma) (hb : Gr K E tb σ F H mb) (hF : Same F H) (hv : ∀ (a b : α), eqV (Sc.enc a) (Sc.enc b) = decide (a = b)) :
    Gr K E (tOp (rIn K neg) ta tb) σ F H (R.bd ma fun a => R.bd mb fun b => .ok (if neg = true then !decide (a ∈ b) else decide (a ∈ b))) := fun H1 e Q hq =>
  gr_seq ha e hq fun a v H2 e2 r hq2 => gr_seq hb (e.trans e2) hq2 fun b w H3 e3 r3 hq3 => by
    obtain ⟨p, vs, rfl, hp, hw⟩ := r3
    have h1 := Sc.is.mp r
    subst h1
    have h2 : vs = b.map Sc.enc := hw.map Sc.enc fun _ _ => Sc.is
    subst h2
    have h3 : inV (Sc.enc a) (b.map Sc.enc) = decide (a ∈ b) := by
      unfold inV
      rw [List.any_map]
      induction b with
      | nil => rfl
      | cons x l ih =>
        rw [List.any_cons]
        have : (List.any l ((fun y => eqV y (Sc.enc a)) ∘ Sc.enc)) = decide (a ∈ l) := by
          clear ih hq3 hq2 hq hw hp hb ha
          induction l with
          | nil => rfl
          | cons y l ih =>
            rw [List.any_cons, ih]
            show (eqV (Sc.enc y) (Sc.enc a) || _) = _
            rw [hv]
            by_cases c : a = y
            · subst c; simp
            · have c' : ¬ y = a := fun q => c q.symm
              simp [c, c']
        rw [this]
        show (eqV (Sc.enc x) (Sc.enc a) || _) = _
        rw [hv]
        by_cases c : a = x
        · subst c; simp
        · have c' : ¬ x = a := fun q => c q.symm
          simp [c, c']
    refine ⟨p, _, rfl, .inl (SqL.of (mix_same hF (e.trans (e2.trans e3)) p _ hp)), Sc.flat a, ?_, ?_⟩
    · rw [List.all_map]
      exact List.all_eq_true.mpr fun x _ => Sc.flat x
    · rw [h3]
      exact hq3 _ H3 (Same.refl _) rfl
theorem eqV_int (a b : Int) : eqV (Sc.enc a) (Sc.enc b) = decide (a = b) := by
  show eqV (V.int a) (V.int b) = decide (a = b)
  simp only [eqV]
  exact Bool.beq_eq_decide_eq a b
/-! ### == of lists, tuples -/
def rEqP (K : PySem.W.Frag) : R2 := fun x y H Q => ∃ d e, Dp K H x d ∧ Dp K H y e ∧ d.plain = true ∧ e.plain = true ∧ min d.depth e.depth ≤ 64 ∧ Q (.bl (PyData.eqv d e)) H
def rNeP (K : PySem.W.Frag) : R2 := fun x y H Q => ∃ d e, Dp K H x d ∧ Dp K H y e ∧ d.plain = true ∧ e.plain = true ∧ min d.depth e.depth ≤ 64 ∧ Q (.bl (!PyData.eqv d e)) H
theorem op_eqP {X : Cx} (hu : X.A.units + 64 < cLine) : OpR X (compareOp .Eq) (rEqP X.K) := by
  intro pins s σ H x y v u Q I rx ry h
  obtain ⟨d, e, hd, he, sd, se, hm, q⟩ := h
  obtain ⟨as, r1⟩ := Dp.reads I d x v hd rx
  obtain ⟨bs, r2⟩ := Dp.reads I e y u he ry
  exact SeqAt.eq_plain r1 r2 sd se (by omega) ⟨.bl _, H, I, rfl, q⟩
theorem op_neP {X : Cx} (hu : X.A.units + 64 < cLine) : OpR X (compareOp .NotEq) (rNeP X.K) := by
  intro pins s σ H x y v u Q I rx ry h
  obtain ⟨d, e, hd, he, sd, se, hm, q⟩ := h
  obtain ⟨as, r1⟩ := Dp.reads I d x v hd rx
  obtain ⟨bs, r2⟩ := Dp.reads I e y u he ry
  exact SeqAt.ne_plain r1 r2 sd se (by omega) ⟨.bl _, H, I, rfl, q⟩
def rInP (K : PySem.W.Frag) (neg : Bool) : R2 := fun x y H Q => ∃ d ds, Dp K H x d ∧ (Dp K H y (.list ds) ∨ Dp K H y (.tuple ds)) ∧ d.plain = true ∧ PyData.plainAll ds = true ∧ min (PyData.depthAll ds) d.depth ≤ 62 ∧
  Q (.bl (if neg then !(ds.any fun z => PyData.eqv z d) else ds.any fun z => PyData.eqv z d)) H
theorem op_inP {X : Cx} (hu : X.A.units + 64 < cLine) : OpR X (compareOp .In) (rInP X.K false) := by
  intro pins s σ H x y v u Q I rx ry h
  obtain ⟨d, ds, hd, he, sd, se, hm, q⟩ := h
  obtain ⟨as, r1⟩ := Dp.reads I d x v hd rx
  rcases he with he | he
  · obtain ⟨bs, r2⟩ := Dp.reads I _ y u he ry
    exact SeqAt.in_list_data r2 r1 se sd (by omega) ⟨.bl _, H, I, rfl, q⟩
  · obtain ⟨bs, r2⟩ := Dp.reads I _ y u he ry
    exact SeqAt.in_tuple_data r2 r1 se sd (by omega) ⟨.bl _, H, I, rfl, q⟩
theorem op_notInP {X : Cx} (hu : X.A.units + 64 < cLine) : OpR X (compareOp .NotIn) (rInP X.K true) := by
  intro pins s σ H x y v u Q I rx ry h
  obtain ⟨d, ds, hd, he, sd, se, hm, q⟩ := h
  obtain ⟨as, r1⟩ := Dp.reads I d x v hd rx
  rcases he with he | he
  · obtain ⟨bs, r2⟩ := Dp.reads I _ y u he ry
    exact SeqAt.notIn_list_data r2 r1 se sd (by omega) ⟨.bl _, H, I, rfl, q⟩
  · obtain ⟨bs, r2⟩ := Dp.reads I _ y u he ry
    exact SeqAt.notIn_tuple_data r2 r1 se sd (by omega) ⟨.bl _, H, I, rfl, q⟩
class De (α : Type) [Rp α] where
  toD : α → PyData
  dp : ∀ {K : PySem.W.Frag} {H : Hp} {v : V} {a : α}, Rp.rep K H v a → Dp K H v (toD a)
  lay : ∀ a : α, (toD a).plain = true
  dep : Nat
  deep : ∀ a : α, (toD a).depth ≤ dep
  eqv : ∀ a b : α, PyData.eqv (toD a) (toD b) = true ↔ a = b
instance : De Int := ⟨.int, fun {K H v a} h => by rw [show v = V.int a from h]; exact .int a, fun _ => rfl, 0, fun _ => Nat.le_of_eq (by simp [PyData.depth]), fun a b => by simp [PyData.eqv]⟩
instance : De Str := ⟨.str, fun {K H v a} h => by rw [show v = V.str a from h]; exact .str a, fun _ => rfl, 0, fun _ => Nat.le_of_eq (by simp [PyData.depth]), fun a b => by simp [PyData.eqv]⟩
instance : De Bool := ⟨.bool, fun {K H v a} h => by rw [show v = V.bl a from h]; exact .bl a, fun _ => rfl, 0, fun _ => Nat.le_of_eq (by simp [PyData.depth]), fun a b => by simp [PyData.eqv]⟩
theorem dpAll_of [De α] {K : PySem.W.Frag} {H : Hp} : ∀ {vs : List V} {xs : List α}, All2 (Rp.rep K H) vs xs → DpAll K H vs (xs.map De.toD)
  | _, _, .nil => .nil
  | _, _, .cons r t => .cons (De.dp r) (dpAll_of t)
theorem layAll [De α] : ∀ xs : List α, PyData.plainAll (xs.map De.toD) = true
  | [] => rfl
  | x :: r => by
    show (PyData.plain (De.toD x) && PyData.plainAll (r.map De.toD)) = true
    rw [De.lay, layAll r] <;> rfl
theorem deepAll [De α] : ∀ xs : List α, PyData.depthAll (xs.map De.toD) ≤ De.dep α
  | [] => by simp [PyData.depthAll]
  | x :: r => by
    have h1 := De.deep x
    have h2 := deepAll r
    simp only [List.map_cons, PyData.depthAll]
    omega
theorem eqvAll [De α] : ∀ xs ys : List α, PyData.eqvAll (xs.map De.toD) (ys.map De.toD) = true ↔ xs = ys
  | [], [] => by simp [PyData.eqvAll]
  | x :: r, [] => by simp [PyData.eqvAll]
  | [], y :: r => by simp [PyData.eqvAll]
  | x :: r, y :: s => by
    simp only [List.map_cons, PyData.eqvAll, Bool.and_eq_true, De.eqv, eqvAll r s, List.cons.injEq]
instance {α : Type} [Rp α] [De α] : De (List α) := ⟨fun xs => .list (xs.map De.toD), fun {K H v a} h => by
    obtain ⟨p, vs, rfl, hp, hv⟩ := h
    exact .lst (SqL.of hp) (dpAll_of hv), fun xs => layAll xs, De.dep α + 1, fun xs => by
    have := deepAll xs
    simp only [PyData.depth]
    omega, fun a b => by
    simp only [PyData.eqv]
    exact eqvAll a b⟩
instance {α : Type} [Rp α] [De α] : De (Tu α) := ⟨fun xs => .tuple (xs.l.map De.toD), fun {K H v a} h => by
    obtain ⟨p, vs, rfl, hp, hv⟩ := h
    exact .tup (SqT.of hp) (dpAll_of hv), fun xs => layAll xs.l, De.dep α + 1, fun xs => by
    have := deepAll xs.l
    simp only [PyData.depth]
    omega, fun a b => by
    simp only [PyData.eqv]
    rw [eqvAll a.l b.l]
    cases a; cases b; simp⟩
instance {α β : Type} [Rp α] [Rp β] [De α] [De β] : De (α × β) := ⟨fun t => .tuple [De.toD t.1, De.toD t.2], fun {K H v a} h => by
    obtain ⟨p, x, y, rfl, hp, h1, h2⟩ := h
    exact .tup (SqT.of hp) (.cons (De.dp h1) (.cons (De.dp h2) .nil)), fun t => by
    show (PyData.plain (De.toD t.1) && (PyData.plain (De.toD t.2) && true)) = true
    rw [De.lay, De.lay] <;> rfl, max (De.dep α) (De.dep β) + 1, fun t => by
    have h1 := De.deep t.1
    have h2 := De.deep t.2
    simp only [PyData.depth, PyData.depthAll]
    omega, fun a b => by
    simp only [PyData.eqv, PyData.eqvAll, Bool.and_true, Bool.and_eq_true, De.eqv]
    exact ⟨fun h => Prod.ext h.1 h.2, fun h => by rw [h]; exact ⟨rfl, rfl⟩⟩⟩
instance {α β γ : Type} [Rp α] [Rp β] [Rp γ] [De α] [De β] [De γ] : De (T3 α β γ) := ⟨fun t => .tuple [De.toD t.a, De.toD t.b, De.toD t.c], fun {K H v a} h => by
    obtain ⟨p, x, y, z, rfl, hp, h1, h2, h3⟩ := h
    exact .tup (SqT.of hp) (.cons (De.dp h1) (.cons (De.dp h2) (.cons (De.dp h3) .nil))), fun t => by
    show (PyData.plain (De.toD t.a) && (PyData.plain (De.toD t.b) && (PyData.plain (De.toD t.c) && true))) = true
    rw [De.lay, De.lay, De.lay] <;> rfl, max (De.dep α) (max (De.dep β) (De.dep γ)) + 1, fun t => by
    have h1 := De.deep t.a
    have h2 := De.deep t.b
    have h3 := De.deep t.c
    simp only [PyData.depth, PyData.depthAll]
    omega, fun a b => by
    simp only [PyData.eqv, PyData.eqvAll, Bool.and_true, Bool.and_eq_true, De.eqv]
    cases a; cases b; simp⟩
theorem eqv_dec [De α] [DecidableEq α] (a b : α) : PyData.eqv (De.toD a) (De.toD b) = decide (a = b) := by
  by_cases c : a = b
  · rw [decide_eq_true c]
    exact (De.eqv a b).mpr c
  · rw [decide_eq_false c]
    exact Bool.eq_false_iff.mpr fun q => c ((De.eqv a b).mp q)
theorem g_eqD [De α] [DecidableEq α] {ma mb : R α} (ha : Gr K E ta σ F H ma) (hb : Gr K E tb σ F H mb) (hF : Same F H) (hd : De.dep α ≤ 64 := by decide) : Gr K E (tOp (rEqP K) ta tb) σ F H (R.bd ma fun a => R.bd mb fun b => .ok (decide (a = b))) := fun H1 e Q hq =>
  gr_seq ha e hq fun a v H2 e2 r hq2 => gr_seq hb (e.trans e2) hq2 fun b w H3 e3 r3 hq3 => by
    refine ⟨_, _, De.dp (Rp.mono ((mix_same hF (e.trans e2)).trans e3) r), De.dp (Rp.mono (mix_same hF (e.trans (e2.trans e3))) r3), De.lay a, De.lay b, by have := De.deep a; omega, ?_⟩
    rw [eqv_dec]
    exact hq3 _ H3 (Same.refl _) rfl
theorem g_neD [De α] [DecidableEq α] {ma mb : R α} (ha : Gr K E ta σ F H ma) (hb : Gr K E tb σ F H mb) (hF : Same F H) (hd : De.dep α ≤ 64 := by decide) : Gr K E (tOp (rNeP K) ta tb) σ F H (R.bd ma fun a => R.bd mb fun b => .ok (!decide (a = b))) := fun H1 e Q hq =>
  gr_seq ha e hq fun a v H2 e2 r hq2 => gr_seq hb (e.trans e2) hq2 fun b w H3 e3 r3 hq3 => by
    refine ⟨_, _, De.dp (Rp.mono ((mix_same hF (e.trans e2)).trans e3) r), De.dp (Rp.mono (mix_same hF (e.trans (e2.trans e3))) r3), De.lay a, De.lay b, by have := De.deep a; omega, ?_⟩
    rw [eqv_dec]
    exact hq3 _ H3 (Same.refl _) rfl
theorem plainAll_map [De α] (b : List α) : PyData.plainAll (b.map De.toD) = true := layAll b
def inL {α : Type} [DecidableEq α] (a : α) (b : List α) : Bool := decide (a ∈ b)
theorem any_dec [De α] [DecidableEq α] (a : α) : ∀ b : List α, ((b.map De.toD).any fun z => PyData.eqv z (De.toD a)) = inL a b
  | [] => rfl
  | x :: l => by
    rw [List.map_cons, List.any_cons, any_dec a l, eqv_dec]
    unfold inL
    by_cases c : a = x
    · subst c; simp
    · have c' : ¬ x = a := fun q => c q.symm
      simp [c, c']
theorem g_inD [De α] [DecidableEq α] {neg : Bool} {ma : R α} {mb : R (List α)} (ha : Gr K E ta σ F H ma) (hb : Gr K E tb σ F H mb) (hF : Same F H) (hd : De.dep α ≤ 60 := by decide) :
    Gr K E (tOp (rInP K neg) ta tb) σ F H (R.bd ma fun a => R.bd mb fun b => .ok (if neg = true then !inL a b else inL a b)) := fun H1 e Q hq =>
  gr_seq ha e hq fun a v H2 e2 r hq2 => gr_seq hb (e.trans e2) hq2 fun b w H3 e3 r3 hq3 => by
    refine ⟨_, _, De.dp (Rp.mono ((mix_same hF (e.trans e2)).trans e3) r), .inl (De.dp (α := List α) (Rp.mono (mix_same hF (e.trans (e2.trans e3))) r3)), De.lay a, plainAll_map b, by have := De.deep a; omega, ?_⟩
    rw [any_dec]
    exact hq3 _ H3 (Same.refl _) rfl
theorem g_inDT [De α] [DecidableEq α] {neg : Bool} {ma : R α} {mb : R (Tu α)} (ha : Gr K E ta σ F H ma) (hb : Gr K E tb σ F H mb) (hF : Same F H) (hd : De.dep α ≤ 60 := by decide) :
    Gr K E (tOp (rInP K neg) ta tb) σ F H (R.bd ma fun a => R.bd mb fun b => .ok (if neg = true then !inL a b.l else inL a b.l)) := fun H1 e Q hq =>
  gr_seq ha e hq fun a v H2 e2 r hq2 => gr_seq hb (e.trans e2) hq2 fun b w H3 e3 r3 hq3 => by
    refine ⟨_, _, De.dp (Rp.mono ((mix_same hF (e.trans e2)).trans e3) r), .inr (De.dp (α := Tu α) (Rp.mono (mix_same hF (e.trans (e2.trans e3))) r3)), De.lay a, plainAll_map b.l, by have := De.deep a; omega, ?_⟩
    rw [any_dec]
    exact hq3 _ H3 (Same.refl _) rfl
/-! ### isinstance of built-in classes: the kind is known -/
class Ty (α : Type) [Rp α] where
  ty : String
  is : ∀ {K : PySem.W.Frag} {H : Hp} {v : V} {a : α}, Rp.rep K H v a → TyX K H v (.type ty)
instance : Ty Int := ⟨"int", fun {K H v a} h => by rw [show v = V.int a from h]; exact .base (.int a)⟩
instance : Ty Bool := ⟨"bool", fun {K H v a} h => by rw [show v = V.bl a from h]; exact .base (.bl a)⟩
instance : Ty Str := ⟨"str", fun {K H v a} h => by rw [show v = V.str a from h]; exact .base (.str a)⟩
instance : Ty Unit := ⟨"NoneType", fun {K H v a} h => by rw [show v = V.non from h]; exact .base .non⟩
instance {α : Type} [Rp α] : Ty (List α) := ⟨"list", fun {K H v a} ⟨_, _, h, hp, _⟩ => by rw [h]; exact .base (.lst hp)⟩
instance {α : Type} [Rp α] : Ty (Tu α) := ⟨"tuple", fun {K H v a} ⟨_, _, h, hp, _⟩ => by rw [h]; exact .base (.tup hp)⟩
instance {α β : Type} [Rp α] [Rp β] : Ty (α × β) := ⟨"tuple", fun {K H v a} ⟨_, _, _, h, hp, _⟩ => by rw [h]; exact .base (.tup hp)⟩
instance {α β γ : Type} [Rp α] [Rp β] [Rp γ] : Ty (T3 α β γ) := ⟨"tuple", fun {K H v a} ⟨_, _, _, _, h, hp, _⟩ => by rw [h]; exact .base (.tup hp)⟩
theorem g_isi [Ty α] {m : R α} {n : String} {b : Bool} (h : Gr K E ta σ F H m) (hF : Same F H) (hk : kitB (Ty.ty α) n = some b := by decide +kernel) : Gr K E (tCB (rIsi K) (tCons ta (tCons (tC (.ty n)) tNil))) σ F H (R.bd m fun _ => .ok b) := fun H1 e Q hq =>
  gr_seq h e hq fun a v H2 e2 r hq2 => ⟨v, _, _, _, b, rfl, .ty n, Ty.is (Rp.mono (mix_same hF (e.trans e2)) r), kit_ty hk, hq2 _ H2 (Same.refl _) rfl⟩
def isiR {α : Type} (b b0 : Bool) : Option α → Bool
  | some _ => b
  | none => b0
/-- .. of what may be None -/
theorem g_isiO [Ty α] {m : R (Option α)} {n : String} {b b0 : Bool} (h : Gr K E ta σ F H m) (hF : Same F H) (hk : kitB (Ty.ty α) n = some b := by decide +kernel) (h0 : kitB "NoneType" n = some b0 := by decide +kernel) :
    Gr K E (tCB (rIsi K) (tCons ta (tCons (tC (.ty n)) tNil))) σ F H (R.bd m fun o => .ok (isiR b b0 o)) := fun H1 e Q hq =>
  gr_seq h e hq fun a v H2 e2 r hq2 => by
    cases a with
    | none => exact ⟨v, _, _, _, b0, rfl, .ty n, Ty.is (α := Unit) (K := K) (a := ()) (show v = .non from r), kit_ty h0, hq2 _ H2 (Same.refl _) rfl⟩
    | some a => exact ⟨v, _, _, _, b, rfl, .ty n, Ty.is (Rp.mono (mix_same hF (e.trans e2)) r.2), kit_ty hk, hq2 _ H2 (Same.refl _) rfl⟩
/-! ### calls of the program's defs. N: what is told is new -/
abbrev KN (K : PySem.W.Frag) (H : Hp) (Q : VK) : ρ → Prop := fun r => ∀ v' H', Same H H' → Rp.rep K (dif H H') v' r → Q v' H'
def sp0 (K : PySem.W.Frag) (f : R ρ) : Sp := fun vs H Q E => vs = [] ∧ Wp f (KN K H Q) (EE K E H)
def sp1 (K : PySem.W.Frag) (f : α → R ρ) : Sp := fun vs H Q E => ∃ v a, vs = [v] ∧ Rp.rep K H v a ∧ Wp (f a) (KN K H Q) (EE K E H)
def sp2 (K : PySem.W.Frag) (f : α → β → R ρ) : Sp := fun vs H Q E => ∃ v w a b, vs = [v, w] ∧ Rp.rep K H v a ∧ Rp.rep K H w b ∧ Wp (f a b) (KN K H Q) (EE K E H)
def sp3 (K : PySem.W.Frag) (f : α → β → γ → R ρ) : Sp := fun vs H Q E => ∃ v w x a b c, vs = [v, w, x] ∧ Rp.rep K H v a ∧ Rp.rep K H w b ∧ Rp.rep K H x c ∧ Wp (f a b c) (KN K H Q) (EE K E H)
def sp4 (K : PySem.W.Frag) (f : α → β → γ → δ → R ρ) : Sp := fun vs H Q E => ∃ v w x y a b c d, vs = [v, w, x, y] ∧ Rp.rep K H v a ∧ Rp.rep K H w b ∧ Rp.rep K H x c ∧ Rp.rep K H y d ∧ Wp (f a b c d) (KN K H Q) (EE K E H)
variable {Ex : L2.St → XK}
/-- arguments over the whole heap, in a row -/
theorem gr_arg {ma : R α} {f : α → R ρ} {Q : VK} {H1 : Hp} (ha : Gr K E ta σ H H ma) (e : Same H H1) (hq : Wp (R.bd ma f) (fun b => ∀ v H2, Same H1 H2 → Rp.rep K (mix F H H2) v b → Q v H2) (EE K E H1))
    {Q' : VK} (h : ∀ a v H2, Same H1 H2 → Rp.rep K H2 v a → Wp (f a) (fun b => ∀ v H3, Same H2 H3 → Rp.rep K (mix F H H3) v b → Q v H3) (EE K E H2) → Q' v H2) : ta σ H1 Q' := by
  refine ha H1 e Q' ?_
  rw [wp_bd] at hq
  exact wp_mono hq (fun a _ ka v H2 e2 r => h a v H2 e2 (Rp.mono (mix_same (Same.refl _) (e.trans e2)) r) (wp_mono ka (fun b _ kb v H3 e3 r3 => kb v H3 (e2.trans e3) r3) fun c _ z => z.mono e2)) fun c _ z => z
theorem g_call1 {f : α → R ρ} {ma : R α} (ha : Gr K E ta σ H H ma) (hE : Ex σ = E := by rfl) : Gr K E (tCallS (sp1 K f) Ex (tCons ta tNil)) σ F H (R.bd ma f) := by
  subst hE
  exact fun H1 e Q hq =>
  gr_arg ha e hq fun a v H2 e2 r hq2 => ⟨v, a, rfl, r, wp_mono hq2 (fun b _ k v' H3 e3 r3 => k v' H3 e3 (Rp.mono (dif_mix (e.trans e2) e3) r3)) fun c _ z => z⟩
theorem g_call2 {f : α → β → R ρ} {ma : R α} {mb : R β} (ha : Gr K E ta σ H H ma) (hb : Gr K E tb σ H H mb) (hE : Ex σ = E := by rfl) : Gr K E (tCallS (sp2 K f) Ex (tCons ta (tCons tb tNil))) σ F H (R.bd ma fun a => R.bd mb fun b => f a b) := by
  subst hE
  exact fun H1 e Q hq =>
  gr_arg ha e hq fun a v H2 e2 r hq2 => gr_arg hb (e.trans e2) hq2 fun b w H3 e3 r3 hq3 => ⟨v, w, a, b, rfl, Rp.mono e3 r, r3, wp_mono hq3 (fun b _ k v' H4 e4 r4 => k v' H4 e4 (Rp.mono (dif_mix (e.trans (e2.trans e3)) e4) r4)) fun c _ z => z⟩
theorem g_call3 {tc : TE} {f : α → β → γ → R ρ} {ma : R α} {mb : R β} {mc : R γ} (ha : Gr K E ta σ H H ma) (hb : Gr K E tb σ H H mb) (hc : Gr K E tc σ H H mc) (hE : Ex σ = E := by rfl) :
    Gr K E (tCallS (sp3 K f) Ex (tCons ta (tCons tb (tCons tc tNil)))) σ F H (R.bd ma fun a => R.bd mb fun b => R.bd mc fun c => f a b c) := by
  subst hE
  exact fun H1 e Q hq =>
  gr_arg ha e hq fun a v H2 e2 r hq2 => gr_arg hb (e.trans e2) hq2 fun b w H3 e3 r3 hq3 => gr_arg hc (e.trans (e2.trans e3)) hq3 fun c x H4 e4 r4 hq4 =>
    ⟨v, w, x, a, b, c, rfl, Rp.mono (e3.trans e4) r, Rp.mono e4 r3, r4, wp_mono hq4 (fun b _ k v' H5 e5 r5 => k v' H5 e5 (Rp.mono (dif_mix (e.trans (e2.trans (e3.trans e4))) e5) r5)) fun c _ z => z⟩
theorem g_call4 {tc td : TE} {f : α → β → γ → δ → R ρ} {ma : R α} {mb : R β} {mc : R γ} {md : R δ} (ha : Gr K E ta σ H H ma) (hb : Gr K E tb σ H H mb) (hc : Gr K E tc σ H H mc) (hd : Gr K E td σ H H md) (hE : Ex σ = E := by rfl) :
    Gr K E (tCallS (sp4 K f) Ex (tCons ta (tCons tb (tCons tc (tCons td tNil))))) σ F H (R.bd ma fun a => R.bd mb fun b => R.bd mc fun c => R.bd md fun d => f a b c d) := by
  subst hE
  exact fun H1 e Q hq =>
  gr_arg ha e hq fun a v H2 e2 r hq2 => gr_arg hb (e.trans e2) hq2 fun b w H3 e3 r3 hq3 => gr_arg hc (e.trans (e2.trans e3)) hq3 fun c x H4 e4 r4 hq4 => gr_arg hd (e.trans (e2.trans (e3.trans e4))) hq4 fun d y H5 e5 r5 hq5 =>
    ⟨v, w, x, y, a, b, c, d, rfl, Rp.mono (e3.trans (e4.trans e5)) r, Rp.mono (e4.trans e5) r3, Rp.mono e5 r4, r5, wp_mono hq5 (fun b _ k v' H6 e6 r6 => k v' H6 e6 (Rp.mono (dif_mix (e.trans (e2.trans (e3.trans (e4.trans e5)))) e6) r6)) fun c _ z => z⟩
end
end G

set_option Elab.async false
set_option linter.all false
set_option maxRecDepth 100000
set_option maxHeartbeats 2000000
/-! G: statements, loops, comprehensions. -/
namespace G
open PySem PySem.Spec PyProof.Rows L2
/-- a later pair of heaps (the frozen one, the whole); the list at p may have changed -/
structure Nx (p : Addr → Prop) (F H F' H' : Hp) : Prop where
  ff : Same F F'
  hh : ∀ b o, ¬ p b → H b = some o → H' b = some o
  fh : Same F' H'
  own : ∀ b o, tupB (some o) = false → H b = some o → F b = none → F' b = none
  th : ∀ b o, H b = some o → ∃ o', H' b = some o' ∧ tupB (some o') = tupB (some o)
abbrev Nx0 (F H F' H' : Hp) : Prop := Nx (fun _ => False) F H F' H'
theorem Nx.same {F H F' H' : Hp} (n : Nx0 F H F' H') : Same H H' := fun b o h => n.hh b o (fun z => z) h
theorem Nx.mk' {F H H' : Hp} (hF : Same F H) (e : Same H H') : Nx0 F H (mix F H H') H' :=
  ⟨same_mix hF, fun b o _ h => e b o h, mix_same hF e, fun b o z h n => by rw [mix_old h z]; exact n, fun b o h => ⟨o, e b o h, rfl⟩⟩
theorem Nx.rf {F H : Hp} (hF : Same F H) : Nx0 F H F H := ⟨Same.refl _, fun _ _ _ h => h, hF, fun _ _ _ _ n => n, fun b o h => ⟨o, h, rfl⟩⟩
/-- the element base of a list of ours: everything frozen, or what is new of it -/
def Bs (H0 F : Hp) : Bool → Hp
  | true => dif H0 F
  | false => F
theorem bs_ff {H0 F F' : Hp} (e : Same F F') : ∀ {b : Bool}, Same (Bs H0 F b) (Bs H0 F' b)
  | true => dif_mono e
  | false => e
theorem bs_le {H0 F : Hp} : ∀ {b : Bool}, Same (Bs H0 F b) F
  | true => dif_le
  | false => Same.refl _
theorem bs_mix {H0 F H H' : Hp} (e0 : Same H0 H) (hF : Same F H) (e : Same H H') : ∀ {b : Bool}, Same (mix (Bs H0 F b) H H') (Bs H0 (mix F H H') b)
  | true => mix_dif e0 hF e
  | false => Same.refl _
theorem del_same {H : Hp} {p : Addr} {o : HO} : Same (delH H p) (upd H p o) := fun b u h => by
  unfold delH at h
  split at h
  · cases h
  · rename_i c
    rw [upd_ne c]
    exact h
/-- a thing of one object that changes, its parts frozen -/
class Cel (τ : Type) [Rp τ] where
  cel : PySem.W.Frag → Hp → HO → τ → Prop
  nt : ∀ {K : PySem.W.Frag} {B : Hp} {o : HO} {x : τ}, cel K B o x → tupB (some o) = false
  mono : ∀ {K : PySem.W.Frag} {B B' : Hp} {o : HO} {x : τ}, Same B B' → cel K B o x → cel K B' o x
  rep : ∀ {K : PySem.W.Frag} {H : Hp} {p : Addr} {o : HO} {x : τ}, H p = some o → cel K H o x → Rp.rep K H (.ref p) x
instance {α : Type} [Rp α] : Cel (List α) := ⟨fun K B o xs => ∃ vs, o = .lst vs ∧ All2 (Rp.rep K B) vs xs, fun ⟨_, h, _⟩ => by rw [h]; rfl, fun e ⟨vs, h, r⟩ => ⟨vs, h, r.mono fun _ _ x => Rp.mono e x⟩, fun {K H p o x} h ⟨vs, h1, r⟩ => ⟨p, vs, rfl, by rw [h, h1], r⟩⟩
/-- a list of ours at p: not frozen, not of the entry -/
structure Own {τ : Type} [Rp τ] [Cel τ] (K : PySem.W.Frag) (H0 : Hp) (b : Bool) (F H : Hp) (p : Addr) (x : τ) : Prop where
  h0 : H0 p = none
  f : F p = none
  at_ : ∃ o, H p = some o ∧ Cel.cel K (Bs H0 F b) o x
section
variable {K : PySem.W.Frag} {E : XK} {σ : L2.St} {H0 F H F' H' : Hp} {ta tb te tl to ti : TE} {t u : TT} {tu tw tz : TS} {α β γ δ ρ S : Type} [Rp α] [Rp β] [Rp γ] [Rp δ] [Rp ρ] {D : Ends} {b : Bool} {P : Addr → Prop}
variable {τ : Type} [Rp τ] [Cel τ]
theorem Own.nx {p : Addr} {x : τ} (o : Own K H0 b F H p x) (n : Nx P F H F' H') (hp : ¬ P p) : Own K H0 b F' H' p x := by
  obtain ⟨h0, f, u, h, r⟩ := o
  exact ⟨h0, n.own p _ (Cel.nt r) h f, u, n.hh p _ hp h, Cel.mono (bs_ff n.ff) r⟩
theorem Own.nx0 {p : Addr} {x : τ} (o : Own K H0 b F H p x) (n : Nx0 F H F' H') : Own K H0 b F' H' p x := o.nx n fun z => z
theorem Own.there {p : Addr} {x : τ} (o : Own K H0 b F H p x) : ∃ u, H p = some u := let ⟨_, h, _⟩ := o.at_; ⟨_, h⟩
/-- it may be read -/
theorem Own.rep {p : Addr} {x : τ} (o : Own K H0 b F H p x) (hF : Same F H) : Rp.rep K H (.ref p) x := by
  obtain ⟨h0, f, u, h, r⟩ := o
  exact Cel.rep h (Cel.mono (bs_le.trans hF) r)
/-- it is told: all of it new -/
theorem Own.rep0 {p : Addr} {x : τ} (o : Own K H0 true F H p x) (hF : Same F H) : Rp.rep K (dif H0 H) (.ref p) x := by
  obtain ⟨h0, f, u, h, r⟩ := o
  exact Cel.rep (dif_of h0 h) (Cel.mono (dif_mono hF) r)
theorem Own.lst {p : Addr} {xs : List α} (o : Own K H0 b F H p xs) : H0 p = none ∧ F p = none ∧ ∃ vs, H p = some (.lst vs) ∧ All2 (Rp.rep K (Bs H0 F b)) vs xs := by
  obtain ⟨h0, f, u, h, vs, rfl, r⟩ := o
  exact ⟨h0, f, vs, h, r⟩
theorem Own.of {p : Addr} {xs : List α} {vs : List V} (h0 : H0 p = none) (f : F p = none) (h : H p = some (.lst vs)) (r : All2 (Rp.rep K (Bs H0 F b)) vs xs) : Own K H0 b F H p xs := ⟨h0, f, _, h, vs, rfl, r⟩
theorem Own.repS [Sc α] {p : Addr} {xs : List α} (o : Own K H0 b F H p xs) : Rp.rep K (dif H0 H) (.ref p) xs := by
  obtain ⟨h0, f, vs, h, r⟩ := o.lst
  exact ⟨p, vs, rfl, dif_of h0 h, r.mono fun _ _ x => Sc.is.mpr (Sc.is.mp x)⟩
/-- it is frozen -/
theorem Own.frz {p : Addr} {x : τ} (o : Own K H0 b F H p x) (hF : Same F H) : ∃ F', Same F F' ∧ Same F' H ∧ (∀ q, q ≠ p → F' q = F q) ∧ Rp.rep K F' (.ref p) x ∧ (b = true → Rp.rep K (dif H0 F') (.ref p) x) := by
  obtain ⟨h0, f, u, h, r⟩ := o
  refine ⟨upd F p u, same_upd f, fun x o q => ?_, fun q hq => upd_ne hq, Cel.rep upd_same (Cel.mono (bs_le.trans (same_upd f)) r), fun hb => ?_⟩
  · unfold upd at q
    split at q
    · rename_i c
      rw [c, h]
      exact q
    · exact hF x o q
  · subst hb
    exact Cel.rep (dif_of h0 upd_same) (Cel.mono (dif_mono (same_upd f)) r)
theorem Own.frzS [Sc α] {p : Addr} {xs : List α} (o : Own K H0 b F H p xs) (hF : Same F H) : ∃ F', Same F F' ∧ Same F' H ∧ (∀ q, q ≠ p → F' q = F q) ∧ Rp.rep K (dif H0 F') (.ref p) xs := by
  obtain ⟨F', h1, h2, h3, h4, h5⟩ := o.frz hF
  obtain ⟨q, vs, e, h, r⟩ := h4
  cases e
  exact ⟨F', h1, h2, h3, p, vs, rfl, dif_of o.h0 h, r.mono fun _ _ x => Sc.is.mpr (Sc.is.mp x)⟩
theorem Own.fz {p q : Addr} {x : τ} (o : Own K H0 b F H q x) (hf : Same F F') (h : ∀ q, q ≠ p → F' q = F q) (ne : q ≠ p) : Own K H0 b F' H q x := by
  obtain ⟨h0, f, u, hh, r⟩ := o
  exact ⟨h0, by rw [h q ne]; exact f, u, hh, Cel.mono (bs_ff hf) r⟩
/-! ### assignments -/
theorem s_asg {i : Nat} {m : R α} {k : α → R β} {kk : β → Prop} (he : Gr K E te σ F H m) (hF : Same F H) (e0 : Same H0 H) (hQ : Wp (R.bd m k) kk (EE K E H0))
    (c : ∀ a v F' H', Nx0 F H F' H' → Same H0 H' → Rp.rep K F' v a → Wp (k a) kk (EE K E H0) → D.nx (σ.set i (some v)) H') : tAsg te (gName i) D σ H := by
  refine he H (Same.refl _) _ ?_
  rw [wp_bd] at hQ
  exact wp_mono hQ (fun a _ q v H2 e2 r => c a v _ H2 (Nx.mk' hF e2) (e0.trans e2) r q) fun c _ z => z.mono e0
/-- what is told is new -/
theorem s_asgN {i : Nat} {m : R α} {k : α → R β} {kk : β → Prop} (he : Gr K E te σ (dif H0 F) H m) (hF : Same F H) (e0 : Same H0 H) (hQ : Wp (R.bd m k) kk (EE K E H0))
    (c : ∀ a v F' H', Nx0 F H F' H' → Same H0 H' → Rp.rep K (dif H0 F') v a → Wp (k a) kk (EE K E H0) → D.nx (σ.set i (some v)) H') : tAsg te (gName i) D σ H := by
  refine he H (Same.refl _) _ ?_
  rw [wp_bd] at hQ
  exact wp_mono hQ (fun a _ q v H2 e2 r => c a v _ H2 (Nx.mk' hF e2) (e0.trans e2) (Rp.mono (mix_dif e0 hF e2) r) q) fun c _ z => z.mono e0
abbrev nil0 : Hp := fun _ => none
/-- a new list of ints (bools, texts) that becomes ours -/
theorem s_asgO [Sc α] {i : Nat} {m : R (List α)} {k : List α → R β} {kk : β → Prop} (he : Gr K E te σ nil0 H m) (hF : Same F H) (e0 : Same H0 H) (hQ : Wp (R.bd m k) kk (EE K E H0))
    (c : ∀ a p F' H', Nx0 F H F' H' → Same H0 H' → Own K H0 b F' H' p a → (∀ q, (∃ u, H q = some u) → q ≠ p) → Wp (k a) kk (EE K E H0) → D.nx (σ.set i (some (.ref p))) H') : tAsg te (gName i) D σ H := by
  refine he H (Same.refl _) _ ?_
  rw [wp_bd] at hQ
  refine wp_mono hQ (fun a _ q v H2 e2 r => ?_) fun c _ z => z.mono e0
  obtain ⟨p, vs, rfl, hp, hv⟩ := r
  have hn : H p = none := by
    cases z : H p with
    | none => rfl
    | some u =>
      rcases mix_cases hp with ⟨h, _⟩ | ⟨h, t⟩ | ⟨_, _, _, h⟩
      · rw [z] at h; cases h
      · cases t
      · cases h
  have hp2 : H2 p = some (.lst vs) := by
    rw [mix_new hn] at hp
    exact hp
  refine c a p (delH (mix F H H2) p) H2 ⟨fun x o h => ?_, fun x o _ h => e2 x o h, fun x o h => ?_, fun x o z h n => ?_, fun x o h => ⟨o, e2 x o h, rfl⟩⟩ (e0.trans e2) (Own.of (Same.free e0 hn) delH_same hp2 (hv.mono fun _ _ x => Sc.is.mpr (Sc.is.mp x))) (fun z ⟨u, hu⟩ e => by rw [e, hn] at hu; cases hu) q
  · have : x ≠ p := fun z => by
      rw [z] at h
      have := hF p o h
      rw [hn] at this
      cases this
    rw [delH_ne this]
    exact same_mix hF x o h
  · unfold delH at h
    split at h
    · cases h
    · exact mix_same hF e2 x o h
  · unfold delH
    split
    · rfl
    · rw [mix_old h z]
      exact n
/-- a written list of ours: [e, ..] -/
theorem s_asgL {i : Nat} {tr : TA} {m : R (List α)} {k : List α → R β} {kk : β → Prop} (he : GrA K E tr σ (Bs H0 F b) H m) (hF : Same F H) (e0 : Same H0 H) (hQ : Wp (R.bd (R.bd m fun as => gd (as.length ≤ lim) (.ok as)) k) kk (EE K E H0))
    (c : ∀ a p F' H', Nx0 F H F' H' → Same H0 H' → Own K H0 b F' H' p a → (∀ q, (∃ u, H q = some u) → q ≠ p) → Wp (k a) kk (EE K E H0) → D.nx (σ.set i (some (.ref p))) H') : tAsg (tLst tr) (gName i) D σ H := by
  refine he H (Same.refl _) _ ?_
  rw [bd_assoc, wp_bd] at hQ
  refine wp_mono hQ (fun as _ q vs H2 e2 r => ?_) fun c _ z => z.mono e0
  unfold gd at q
  split at q
  · rename_i cl
    refine ⟨lim_line (by rw [r.length]; exact cl), fun p hp => ?_⟩
    have hn : H p = none := Same.free e2 hp
    refine c as p (mix F H H2) (upd H2 p (.lst vs)) ⟨same_mix hF, fun x o _ h => same_upd hp x o (e2 x o h), (mix_same hF e2).trans (same_upd hp), fun x o z h n => by rw [mix_old h z]; exact n, fun x o h => ⟨o, same_upd hp x o (e2 x o h), rfl⟩⟩
      (e0.trans (e2.trans (same_upd hp))) (Own.of (Same.free e0 hn) (by rw [mix_new hn]; exact hp) upd_same (r.mono fun _ _ x => Rp.mono (bs_mix e0 hF e2) x)) (fun z ⟨u, hu⟩ e => by rw [e, hn] at hu; cases hu) q
  · exact q.elim
/-! ### changes of a list of ours -/
/-- the expression tells the list at p, changing nothing -/
def At (te : TE) (σ : L2.St) (H : Hp) (p : Addr) : Prop := ∀ H1, Same H H1 → ∀ Q : VK, Q (.ref p) H1 → te σ H1 Q
theorem at_var {i : Nat} {p : Addr} (h : σ[i]? = some (some (.ref p))) : At (tVar i) σ H p := fun H1 _ Q q => ⟨_, h, q⟩
noncomputable def appR {α : Type} (xs : List α) (a : α) : R (List α) := gd (xs.length < lim) (.ok (xs ++ [a]))
theorem nx_upd {H2 : Hp} {p : Addr} {o o' : HO} (hF : Same F H) (e2 : Same H H2) (hp : H p = some o) (hf : F p = none) (ho : tupB (some o) = false := by rfl) (ho' : tupB (some o') = false := by rfl) : Nx (fun q => q = p) F H (mix F H H2) (upd H2 p o') :=
  ⟨same_mix hF, fun x o n h => by rw [upd_ne n]; exact e2 x o h, fun x o h => by
    have : x ≠ p := fun z => by
      rw [z, mix_old hp ho, hf] at h
      cases h
    rw [upd_ne this]
    exact mix_same hF e2 x o h, fun x o z h n => by rw [mix_old h z]; exact n, fun x u h => by
    by_cases c : x = p
    · rw [c] at h ⊢; rw [hp] at h; cases h; exact ⟨_, upd_same, by rw [ho, ho']⟩
    · rw [upd_ne c]; exact ⟨_, e2 x u h, rfl⟩⟩
theorem e0_upd {H2 : Hp} {p : Addr} {o' : HO} (e0 : Same H0 H) (e2 : Same H H2) (h0 : H0 p = none) : Same H0 (upd H2 p o') := fun x o h => by
  have : x ≠ p := fun z => by rw [z, h0] at h; cases h
  rw [upd_ne this]
  exact e2 x o (e0 x o h)
theorem s_app {p : Addr} {xs : List α} {m : R α} {k : List α → R β} {kk : β → Prop} (ha : At to σ H p) (o : Own K H0 b F H p xs) (he : Gr K E te σ (Bs H0 F b) H m) (hF : Same F H) (e0 : Same H0 H) (hQ : Wp (R.bd (R.bd m fun a => appR xs a) k) kk (EE K E H0))
    (c : ∀ xs' F' H', Nx (fun q => q = p) F H F' H' → Same H0 H' → Own K H0 b F' H' p xs' → Wp (k xs') kk (EE K E H0) → D.nx σ H') : tDrop (tBM K "list" rAppend to (tCons te tNil)) D σ H := by
  obtain ⟨h0, f, vs, hp, r⟩ := o.lst
  refine ha H (Same.refl _) _ ⟨.inl ⟨rfl, _, SqL.of hp⟩, ?_⟩
  refine he H (Same.refl _) _ ?_
  rw [bd_assoc, wp_bd] at hQ
  refine wp_mono hQ (fun a _ q v H2 e2 rv => ?_) fun c _ z => z.mono e0
  unfold appR gd at q
  split at q
  · rename_i cl
    refine ⟨p, vs, v, rfl, rfl, e2 p _ hp, lim_line' (by rw [r.length]; exact cl), ?_⟩
    exact c _ (mix F H H2) _ (nx_upd hF e2 hp f) (e0_upd e0 e2 h0) (Own.of h0 (by rw [mix_old hp]; exact f) upd_same ((r.mono fun _ _ x => Rp.mono (bs_ff (same_mix hF)) x).append (.cons (Rp.mono (bs_mix e0 hF e2) rv) .nil))) q
  · exact q.elim
def setR {α : Type} (xs : List α) (i : Int) (a : α) : R (List α) := match ixN xs.length i with
  | some j => .ok (xs.set j a)
  | none => .bad
theorem s_set {p : Addr} {xs : List α} {m : R α} {mi : R Int} {k : List α → R β} {kk : β → Prop} (ha : At to σ H p) (o : Own K H0 b F H p xs) (he : Gr K E te σ (Bs H0 F b) H m) (hi : Gr K E ti σ H H mi) (hF : Same F H) (e0 : Same H0 H)
    (hQ : Wp (R.bd (R.bd m fun a => R.bd mi fun i => setR xs i a) k) kk (EE K E H0))
    (c : ∀ xs' F' H', Nx (fun q => q = p) F H F' H' → Same H0 H' → Own K H0 b F' H' p xs' → Wp (k xs') kk (EE K E H0) → D.nx σ H') : tAsg te (gSub to ti rSetL) D σ H := by
  obtain ⟨h0, f, vs, hp, r⟩ := o.lst
  refine he H (Same.refl _) _ ?_
  rw [bd_assoc, wp_bd] at hQ
  refine wp_mono hQ (fun a _ q v H2 e2 rv => ?_) fun c _ z => z.mono e0
  refine ha H2 e2 _ ?_
  refine hi H2 e2 _ ?_
  rw [bd_assoc, wp_bd] at q
  refine wp_mono q (fun i _ q w H3 e3 ri => ?_) fun c _ z => z.mono (e0.trans e2)
  have ri' : w = .int i := ri
  subst ri'
  unfold setR at q
  rw [← r.length] at q
  cases j : ixN vs.length i with
  | none => rw [j] at q; exact q.elim
  | some j' =>
    rw [j] at q
    have e3' := e2.trans e3
    refine ⟨p, vs, i, j', rfl, rfl, e3 p _ (e2 p _ hp), j, ?_⟩
    exact c _ (mix F H H3) _ (nx_upd hF e3' hp f) (e0_upd e0 e3' h0) (Own.of h0 (by rw [mix_old hp]; exact f) upd_same ((r.mono fun _ _ x => Rp.mono (bs_ff (same_mix hF)) x).set (Rp.mono ((mix_mono e3).trans (bs_mix e0 hF e3')) rv) _)) q
/-- xs[i] op= e, ints -/
theorem s_augS {p : Addr} {xs : List Int} {m mi : R Int} {f : Int → Int → Int} {k : List Int → R β} {kk : β → Prop} (ha : At to σ H p) (o : Own K H0 b F H p xs) (hi : Gr K E ti σ H H mi) (he : Gr K E te σ H H m) (hF : Same F H) (e0 : Same H0 H)
    (hQ : Wp (R.bd (R.bd mi fun i => R.bd (idx xs i) fun x => R.bd m fun a => setR xs i (f x a)) k) kk (EE K E H0))
    (c : ∀ xs' F' H', Nx (fun q => q = p) F H F' H' → Same H0 H' → Own K H0 b F' H' p xs' → Wp (k xs') kk (EE K E H0) → D.nx σ H') : tAugS to ti te (rIxL K) (ipI f) rSetL D σ H := by
  obtain ⟨h0, fr, vs, hp, r⟩ := o.lst
  refine ha H (Same.refl _) _ ?_
  refine hi H (Same.refl _) _ ?_
  rw [bd_assoc, wp_bd] at hQ
  refine wp_mono hQ (fun i _ q w H2 e2 ri => ?_) fun c _ z => z.mono e0
  have ri' : w = .int i := ri
  subst ri'
  rw [bd_assoc] at q
  have ei := rep_ints r
  subst ei
  unfold idx at q
  cases jx : atI xs i with
  | none => rw [jx] at q; exact q.elim
  | some x =>
    rw [jx] at q
    refine ⟨p, _, i, _, rfl, rfl, SqL.of (e2 p _ hp), atI_map jx, ?_⟩
    refine he H2 e2 _ ?_
    rw [bd_ok, bd_assoc, wp_bd] at q
    refine wp_mono q (fun a _ q w2 H3 e3 ra => ?_) fun c _ z => z.mono (e0.trans e2)
    have ra' : w2 = .int a := ra
    subst ra'
    refine ⟨x, a, rfl, rfl, ?_⟩
    unfold setR at q
    cases j : ixN xs.length i with
    | none => rw [j] at q; exact q.elim
    | some j' =>
      rw [j] at q
      have e3' := e2.trans e3
      refine ⟨p, _, i, j', rfl, rfl, e3 p _ (e2 p _ hp), by rw [List.length_map]; exact j, ?_⟩
      rw [← List.map_set]
      exact c _ (mix F H H3) _ (nx_upd hF e3' hp fr) (e0_upd e0 e3' h0) (Own.of h0 (by rw [mix_old hp]; exact fr) upd_same (ints_rep _)) q
/-- x op= e, ints -/
theorem s_aug {i : Nat} {x : Int} {m : R Int} {f : Int → Int → Int} {k : Int → R β} {kk : β → Prop} (hx : σ[i]? = some (some (.int x))) (he : Gr K E te σ H H m) (hF : Same F H) (e0 : Same H0 H) (hQ : Wp (R.bd (R.bd m fun a => .ok (f x a)) k) kk (EE K E H0))
    (c : ∀ a F' H', Nx0 F H F' H' → Same H0 H' → Wp (k a) kk (EE K E H0) → D.nx (σ.set i (some (.int a))) H') : tAug i te (ipI f) D σ H := by
  refine ⟨_, hx, he H (Same.refl _) _ ?_⟩
  rw [bd_assoc, wp_bd] at hQ
  refine wp_mono hQ (fun a _ q v H2 e2 r => ?_) fun c _ z => z.mono e0
  have r' : v = .int a := r
  subst r'
  exact ⟨x, a, rfl, rfl, c _ _ H2 (Nx.mk' hF e2) (e0.trans e2) q⟩
def popR {α : Type} (xs : List α) : R (List α) := match xs with
  | [] => .bad
  | _ => .ok xs.dropLast
/-- xs.pop(), what is told is dropped -/
theorem s_pop {p : Addr} {xs : List α} {k : List α → R β} {kk : β → Prop} (ha : At to σ H p) (o : Own K H0 b F H p xs) (hF : Same F H) (e0 : Same H0 H) (hQ : Wp (R.bd (popR xs) k) kk (EE K E H0))
    (c : ∀ xs' F' H', Nx (fun q => q = p) F H F' H' → Same H0 H' → Own K H0 b F' H' p xs' → Wp (k xs') kk (EE K E H0) → D.nx σ H') : tDrop (tBM0 K "list" rPop to) D σ H := by
  obtain ⟨h0, f, vs, hp, r⟩ := o.lst
  refine ha H (Same.refl _) _ ⟨.inl ⟨rfl, _, SqL.of hp⟩, ?_⟩
  cases xs with
  | nil => exact hQ.elim
  | cons x l =>
    have hl := r.length
    have : ∃ y, vs[vs.length - 1]? = some y := ⟨vs[vs.length - 1]'(by rw [hl]; simp), List.getElem?_eq_getElem _⟩
    obtain ⟨y, hy⟩ := this
    refine ⟨p, vs, y, rfl, rfl, hp, hy, ?_⟩
    have n := nx_upd (o' := .lst vs.dropLast) hF (Same.refl H) hp f
    exact c _ _ _ n (e0_upd e0 (Same.refl _) h0) (Own.of h0 (by rw [mix_old hp]; exact f) upd_same (r.mono fun _ _ x => Rp.mono (bs_ff n.ff) x).dropLast) hQ
/-- an expression whose value is dropped -/
theorem s_drop {m : R α} {k : α → R β} {kk : β → Prop} (he : Gr K E te σ F H m) (hF : Same F H) (e0 : Same H0 H) (hQ : Wp (R.bd m k) kk (EE K E H0))
    (c : ∀ a F' H', Nx0 F H F' H' → Same H0 H' → Wp (k a) kk (EE K E H0) → D.nx σ H') : tDrop te D σ H := by
  refine he H (Same.refl _) _ ?_
  rw [wp_bd] at hQ
  exact wp_mono hQ (fun a _ q v H2 e2 r => c a _ H2 (Nx.mk' hF e2) (e0.trans e2) q) fun c _ z => z.mono e0
/-! ### unpacking -/
theorem s_unp {i j : Nat} {m : R (α × β)} {k : α × β → R γ} {kk : γ → Prop} (he : Gr K E te σ F H m) (hF : Same F H) (e0 : Same H0 H) (hQ : Wp (R.bd m k) kk (EE K E H0))
    (c : ∀ a b v w F' H', Nx0 F H F' H' → Same H0 H' → Rp.rep K F' v a → Rp.rep K F' w b → Wp (k (a, b)) kk (EE K E H0) → D.nx ((σ.set i (some v)).set j (some w)) H') : tAsg te (gTup K 2 (gCons (gName i) (gCons (gName j) gNil))) D σ H := by
  refine he H (Same.refl _) _ ?_
  rw [wp_bd] at hQ
  refine wp_mono hQ (fun a _ q v H2 e2 r => ?_) fun c _ z => z.mono e0
  obtain ⟨p, x, y, rfl, hp, r1, r2⟩ := r
  exact ⟨p, _, rfl, SqT.of (mix_same hF e2 p _ hp), rfl, x, _, rfl, y, _, rfl, rfl, c a.1 a.2 x y _ H2 (Nx.mk' hF e2) (e0.trans e2) r1 r2 q⟩
theorem s_unpN {i j : Nat} {m : R (α × β)} {k : α × β → R γ} {kk : γ → Prop} (he : Gr K E te σ (dif H0 F) H m) (hF : Same F H) (e0 : Same H0 H) (hQ : Wp (R.bd m k) kk (EE K E H0))
    (c : ∀ a b v w F' H', Nx0 F H F' H' → Same H0 H' → Rp.rep K (dif H0 F') v a → Rp.rep K (dif H0 F') w b → Wp (k (a, b)) kk (EE K E H0) → D.nx ((σ.set i (some v)).set j (some w)) H') : tAsg te (gTup K 2 (gCons (gName i) (gCons (gName j) gNil))) D σ H := by
  refine he H (Same.refl _) _ ?_
  rw [wp_bd] at hQ
  refine wp_mono hQ (fun a _ q v H2 e2 r => ?_) fun c _ z => z.mono e0
  have r' := Rp.mono (mix_dif e0 hF e2) r
  obtain ⟨p, x, y, rfl, hp, r1, r2⟩ := r'
  exact ⟨p, _, rfl, SqT.of (mix_same hF e2 p _ (dif_le p _ hp)), rfl, x, _, rfl, y, _, rfl, rfl, c a.1 a.2 x y _ H2 (Nx.mk' hF e2) (e0.trans e2) r1 r2 q⟩
/-- a, b = x, y -/
theorem s_par {i j : Nat} {ma : R α} {mb : R β} {k : α → β → R γ} {kk : γ → Prop} (ha : Gr K E ta σ F H ma) (hb : Gr K E tb σ F H mb) (hF : Same F H) (e0 : Same H0 H) (hQ : Wp (R.bd ma fun a => R.bd mb fun b => k a b) kk (EE K E H0))
    (c : ∀ a b v w F' H', Nx0 F H F' H' → Same H0 H' → Rp.rep K F' v a → Rp.rep K F' w b → Wp (k a b) kk (EE K E H0) → D.nx ((σ.set i (some v)).set j (some w)) H') : tPar i j (tCons ta (tCons tb tNil)) D σ H := by
  refine ha H (Same.refl _) _ ?_
  rw [wp_bd] at hQ
  refine wp_mono hQ (fun a _ q v H2 e2 r => ?_) fun c _ z => z.mono e0
  refine hb H2 e2 _ ?_
  rw [wp_bd] at q
  exact wp_mono q (fun b _ q w H3 e3 r3 => ⟨v, w, rfl, c a b v w _ H3 (Nx.mk' hF (e2.trans e3)) (e0.trans (e2.trans e3)) (Rp.mono (mix_mono e3) r) r3 q⟩) fun c _ z => z.mono (e0.trans e2)
/-! ### if, return -/
theorem s_if {m : R Bool} {k : Bool → R β} {kk : β → Prop} (hc : GrT K E t σ H m) (hF : Same F H) (e0 : Same H0 H) (hQ : Wp (R.bd m k) kk (EE K E H0))
    (h1 : ∀ F' H', Nx0 F H F' H' → Same H0 H' → Wp (k true) kk (EE K E H0) → tu D σ H') (h2 : ∀ F' H', Nx0 F H F' H' → Same H0 H' → Wp (k false) kk (EE K E H0) → tw D σ H') : tIfS t tu tw D σ H := by
  refine hc H (Same.refl _) _ ?_
  rw [wp_bd] at hQ
  refine wp_mono hQ (fun b _ q H2 e2 => ?_) fun c _ z => z.mono e0
  cases b with
  | true => exact h1 _ H2 (Nx.mk' hF e2) (e0.trans e2) q
  | false => exact h2 _ H2 (Nx.mk' hF e2) (e0.trans e2) q
theorem mix_new0 {H H' : Hp} (e0 : Same H0 H) (e : Same H H') : Same (mix (dif H0 H) H H') (dif H0 H') := mix_dif e0 (Same.refl _) e |>.trans (dif_mono (mix_same (Same.refl _) e))
theorem s_ret {m : R α} {k : α → R β} {kk : β → Prop} (he : Gr K E te σ (dif H0 H) H m) (e0 : Same H0 H) (hQ : Wp (R.bd m k) kk (EE K E H0)) (hk : ∀ a, Wp (k a) kk (EE K E H0) → KN K H0 D.rt a) : tRet te D σ H := by
  refine he H (Same.refl _) _ ?_
  rw [wp_bd] at hQ
  exact wp_mono hQ (fun a _ q v H2 e2 r => hk a q v H2 (e0.trans e2) (Rp.mono (mix_new0 e0 e2) r)) fun c _ z => z.mono e0
/-! ### a word between -/
theorem s_cut {M : L2.St → Hp → Prop} (h : tu { D with nx := M } σ H) (k : ∀ σ' H', M σ' H' → tz D σ' H') : Evl.tCut tu tz D σ H := ⟨M, h, k⟩
/-! ### loops -/
inductive Fl (S ρ : Type) where
  | go (s : S)
  | brk (s : S)
  | ret (r : ρ)
def forR {α S ρ : Type} (body : α → S → R (Fl S ρ)) : List α → S → R (Fl S ρ)
  | [], s => .ok (.go s)
  | x :: l, s => R.bd (body x s) fun f => match f with
    | .go s' => forR body l s'
    | .brk s' => .ok (.go s')
    | .ret r => .ok (.ret r)
/-- no break, no return -/
def forS {α S : Type} (body : α → S → R S) : List α → S → R S
  | [], s => .ok s
  | x :: l, s => R.bd (body x s) fun s' => forS body l s'
def whileR {S ρ : Type} (c : S → R Bool) (body : S → R (Fl S ρ)) : Nat → S → R (Fl S ρ)
  | 0, _ => .bad
  | n + 1, s => R.bd (c s) fun b => if b = true then R.bd (body s) fun f => match f with
      | .go s' => whileR c body n s'
      | .brk s' => .ok (.go s')
      | .ret r => .ok (.ret r)
    else .ok (.go s)
def whileS {S : Type} (c : S → R Bool) (body : S → R S) : Nat → S → R S
  | 0, _ => .bad
  | n + 1, s => R.bd (c s) fun b => if b = true then R.bd (body s) fun s' => whileS c body n s' else .ok s
/-- the iterator J tells xs, wherever the heap G stands -/
structure ItOk (J : It) (K : PySem.W.Frag) (G : Hp) (xs : List α) : Prop where
  go : ∀ i H', Same G H' → i < xs.length → J.go i H'
  stop : ∀ i H', Same G H' → i = xs.length → J.stop i H'
  yld : ∀ i H' x H'', Same G H' → i < xs.length → J.yld i H' x H'' → Same H' H'' ∧ ∃ a, xs[i]? = some a ∧ Rp.rep K (mix G H' H'') x a
def GrI (K : PySem.W.Frag) (E : XK) (wi : TI) (σ : L2.St) (F H : Hp) (m : R (List α)) : Prop :=
  ∀ H1, Same H H1 → ∀ RR : It → Hp → Prop, Wp m (fun xs => ∀ J H2, Same H1 H2 → ItOk J K (mix F H H2) xs → RR J H2) (EE K E H1) → wi σ H1 RR
theorem s_for {wi : TI} {g : TG} {m : R (List α)} {k : List α → R β} {kk : β → Prop} (hi : GrI K E wi σ F H m) (hF : Same F H) (e0 : Same H0 H) (hQ : Wp (R.bd m k) kk (EE K E H0))
    (c : ∀ xs J F' H', Nx0 F H F' H' → Same H0 H' → ItOk J K F' xs → Wp (k xs) kk (EE K E H0) → ∃ W : Nat → Nat → L2.St → Hp → Prop, (∃ m, W 0 m σ H') ∧ ∀ i m σ H, W i m σ H →
      (J.stop i H ∧ D.nx σ H) ∨ (J.go i H ∧ ∃ N : L2.St → Hp → Prop, (∀ σ' H', N σ' H' → ∃ m', m' < m ∧ W (i + 1) m' σ' H') ∧ ∀ x H', J.yld i H x H' → g x σ H' fun σ2 H2 => tu { D with nx := N, ct := N, bk := D.nx } σ2 H2)) : tFor wi g tu D σ H := by
  refine hi H (Same.refl _) _ ?_
  rw [wp_bd] at hQ
  exact wp_mono hQ (fun xs _ q J H2 e2 ok => c xs J _ H2 (Nx.mk' hF e2) (e0.trans e2) ok q) fun c _ z => z.mono e0
def kF {S ρ β : Type} (kk : Fl S ρ → Prop) (w : S → Prop) : Fl S ρ → Prop
  | .go s' => w s'
  | .brk s' => kk (.go s')
  | .ret r => kk (.ret r)
theorem drop_get {α : Type} {l : List α} {i : Nat} {a : α} (h : l[i]? = some a) : l.drop i = a :: l.drop (i + 1) := by
  obtain ⟨h1, h2⟩ := List.getElem?_eq_some_iff.mp h
  rw [List.drop_eq_getElem_cons h1, h2]
theorem for_R {ρ : Type} {J : It} {G : Hp} {xs : List α} {g : TG} {body : α → S → R (Fl S ρ)} {s0 : S} {kk : Fl S ρ → Prop} {ee : Er → Prop} (ok : ItOk J K G xs) (I : S → L2.St → Hp → Prop) (hk : ∀ s σ' H', I s σ' H' → Same G H') (h0 : I s0 σ H)
    (hQ : Wp (forR body xs s0) kk ee) (turn : ∀ x l s v σ' H' H'', I s σ' H' → Same H' H'' → Rp.rep K (mix G H' H'') v x → Wp (body x s) (kF (β := Unit) kk fun s' => Wp (forR body l s') kk ee) ee →
      g v σ' H'' fun σ2 H2 => tu { D with nx := fun σ3 H3 => ∃ s', I s' σ3 H3 ∧ Wp (forR body l s') kk ee, ct := fun σ3 H3 => ∃ s', I s' σ3 H3 ∧ Wp (forR body l s') kk ee, bk := D.nx } σ2 H2)
    (done : ∀ s σ' H', I s σ' H' → kk (.go s) → D.nx σ' H') : ∃ W : Nat → Nat → L2.St → Hp → Prop, (∃ m, W 0 m σ H) ∧ ∀ i m σ H, W i m σ H →
      (J.stop i H ∧ D.nx σ H) ∨ (J.go i H ∧ ∃ N : L2.St → Hp → Prop, (∀ σ' H', N σ' H' → ∃ m', m' < m ∧ W (i + 1) m' σ' H') ∧ ∀ x H', J.yld i H x H' → g x σ H' fun σ2 H2 => tu { D with nx := N, ct := N, bk := D.nx } σ2 H2) := by
  refine ⟨fun i m σ' H' => m = xs.length - i ∧ i ≤ xs.length ∧ ∃ s, I s σ' H' ∧ Wp (forR body (xs.drop i) s) kk ee, ⟨_, rfl, Nat.zero_le _, s0, h0, hQ⟩, ?_⟩
  rintro i m σ' H' ⟨rfl, hi, s, hI, hq⟩
  have kp := hk s σ' H' hI
  by_cases c : i < xs.length
  · refine .inr ⟨ok.go i H' kp c, fun σ3 H3 => ∃ s', I s' σ3 H3 ∧ Wp (forR body (xs.drop (i + 1)) s') kk ee, fun σ3 H3 h3 => ⟨_, by omega, rfl, c, h3⟩, fun x H'' y => ?_⟩
    obtain ⟨e1, a, ha, r⟩ := ok.yld i H' x H'' kp c y
    rw [drop_get ha] at hq
    refine turn a (xs.drop (i + 1)) s x σ' H' H'' hI e1 r ?_
    have hq2 : Wp (R.bd (body a s) fun f => match f with
      | .go s' => forR body (xs.drop (i + 1)) s'
      | .brk s' => .ok (.go s')
      | .ret r => .ok (.ret r)) kk ee := hq
    rw [wp_bd] at hq2
    refine wp_mono hq2 (fun f _ q => ?_) fun _ _ z => z
    cases f with
    | go s' => exact q
    | brk s' => exact q
    | ret r => exact q
  · have e : i = xs.length := by omega
    refine .inl ⟨ok.stop i H' kp e, done s σ' H' hI ?_⟩
    rw [e, List.drop_length] at hq
    exact hq
theorem for_S {J : It} {G : Hp} {xs : List α} {g : TG} {body : α → S → R S} {s0 : S} {kk : S → Prop} {ee : Er → Prop} (ok : ItOk J K G xs) (I : S → L2.St → Hp → Prop) (hk : ∀ s σ' H', I s σ' H' → Same G H') (h0 : I s0 σ H)
    (hQ : Wp (forS body xs s0) kk ee) (turn : ∀ x l s v σ' H' H'', I s σ' H' → Same H' H'' → Rp.rep K (mix G H' H'') v x → Wp (body x s) (fun s' => Wp (forS body l s') kk ee) ee →
      g v σ' H'' fun σ2 H2 => tu { D with nx := fun σ3 H3 => ∃ s', I s' σ3 H3 ∧ Wp (forS body l s') kk ee, ct := fun σ3 H3 => ∃ s', I s' σ3 H3 ∧ Wp (forS body l s') kk ee, bk := D.nx } σ2 H2)
    (done : ∀ s σ' H', I s σ' H' → kk s → D.nx σ' H') : ∃ W : Nat → Nat → L2.St → Hp → Prop, (∃ m, W 0 m σ H) ∧ ∀ i m σ H, W i m σ H →
      (J.stop i H ∧ D.nx σ H) ∨ (J.go i H ∧ ∃ N : L2.St → Hp → Prop, (∀ σ' H', N σ' H' → ∃ m', m' < m ∧ W (i + 1) m' σ' H') ∧ ∀ x H', J.yld i H x H' → g x σ H' fun σ2 H2 => tu { D with nx := N, ct := N, bk := D.nx } σ2 H2) := by
  refine ⟨fun i m σ' H' => m = xs.length - i ∧ i ≤ xs.length ∧ ∃ s, I s σ' H' ∧ Wp (forS body (xs.drop i) s) kk ee, ⟨_, rfl, Nat.zero_le _, s0, h0, hQ⟩, ?_⟩
  rintro i m σ' H' ⟨rfl, hi, s, hI, hq⟩
  have kp := hk s σ' H' hI
  by_cases c : i < xs.length
  · refine .inr ⟨ok.go i H' kp c, fun σ3 H3 => ∃ s', I s' σ3 H3 ∧ Wp (forS body (xs.drop (i + 1)) s') kk ee, fun σ3 H3 h3 => ⟨_, by omega, rfl, c, h3⟩, fun x H'' y => ?_⟩
    obtain ⟨e1, a, ha, r⟩ := ok.yld i H' x H'' kp c y
    rw [drop_get ha] at hq
    refine turn a (xs.drop (i + 1)) s x σ' H' H'' hI e1 r ?_
    have hq2 : Wp (R.bd (body a s) fun s' => forS body (xs.drop (i + 1)) s') kk ee := hq
    rw [wp_bd] at hq2
    exact hq2
  · have e : i = xs.length := by omega
    refine .inl ⟨ok.stop i H' kp e, done s σ' H' hI ?_⟩
    rw [e, List.drop_length] at hq
    exact hq
/-- while -/
theorem while_R {ρ : Type} {c : S → R Bool} {body : S → R (Fl S ρ)} {n : Nat} {s0 : S} {kk : Fl S ρ → Prop} (I : S → L2.St → Hp → Prop) (h0 : I s0 σ H) (hQ : Wp (whileR c body n s0) kk (EE K E H0))
    (hc : ∀ s σ' H', I s σ' H' → Same H0 H' ∧ GrT K E t σ' H' (c s))
    (hb : ∀ n s σ' H' H1, I s σ' H' → Same H' H1 → Wp (body s) (kF (β := Unit) kk fun s' => Wp (whileR c body n s') kk (EE K E H0)) (EE K E H0) →
      tu { D with nx := fun σ3 H3 => ∃ s', I s' σ3 H3 ∧ Wp (whileR c body n s') kk (EE K E H0), ct := fun σ3 H3 => ∃ s', I s' σ3 H3 ∧ Wp (whileR c body n s') kk (EE K E H0), bk := D.nx } σ' H1)
    (hd : ∀ s σ' H' H1, I s σ' H' → Same H' H1 → kk (.go s) → D.nx σ' H1) : tWhile t tu D σ H := by
  refine ⟨fun n σ' H' => ∃ s, I s σ' H' ∧ Wp (whileR c body n s) kk (EE K E H0), ⟨n, s0, h0, hQ⟩, ?_⟩
  rintro n σ' H' ⟨s, hI, hq⟩
  cases n with
  | zero => exact hq.elim
  | succ n =>
    obtain ⟨e0, gc⟩ := hc s σ' H' hI
    have hq2 : Wp (R.bd (c s) fun b => if b = true then R.bd (body s) fun f => match f with
      | .go s' => whileR c body n s'
      | .brk s' => .ok (.go s')
      | .ret r => .ok (.ret r)
    else .ok (.go s)) kk (EE K E H0) := hq
    refine gc H' (Same.refl _) _ ?_
    rw [wp_bd] at hq2
    refine wp_mono hq2 (fun b _ q H1 e1 => ?_) fun _ _ z => z.mono e0
    cases b with
    | true =>
      refine ⟨_, fun σ3 H3 h3 => ⟨n, Nat.lt_succ_self n, h3⟩, hb n s σ' H' H1 hI e1 ?_⟩
      have q2 : Wp (R.bd (body s) fun f => match f with
        | .go s' => whileR c body n s'
        | .brk s' => .ok (.go s')
        | .ret r => .ok (.ret r)) kk (EE K E H0) := q
      rw [wp_bd] at q2
      refine wp_mono q2 (fun f _ q => ?_) fun _ _ z => z
      cases f with
      | go s' => exact q
      | brk s' => exact q
      | ret r => exact q
    | false => exact hd s σ' H' H1 hI e1 q
theorem while_S {c : S → R Bool} {body : S → R S} {n : Nat} {s0 : S} {kk : S → Prop} (I : S → L2.St → Hp → Prop) (h0 : I s0 σ H) (hQ : Wp (whileS c body n s0) kk (EE K E H0))
    (hc : ∀ s σ' H', I s σ' H' → Same H0 H' ∧ GrT K E t σ' H' (c s))
    (hb : ∀ n s σ' H' H1, I s σ' H' → Same H' H1 → Wp (body s) (fun s' => Wp (whileS c body n s') kk (EE K E H0)) (EE K E H0) →
      tu { D with nx := fun σ3 H3 => ∃ s', I s' σ3 H3 ∧ Wp (whileS c body n s') kk (EE K E H0), ct := fun σ3 H3 => ∃ s', I s' σ3 H3 ∧ Wp (whileS c body n s') kk (EE K E H0), bk := D.nx } σ' H1)
    (hd : ∀ s σ' H' H1, I s σ' H' → Same H' H1 → kk s → D.nx σ' H1) : tWhile t tu D σ H := by
  refine ⟨fun n σ' H' => ∃ s, I s σ' H' ∧ Wp (whileS c body n s) kk (EE K E H0), ⟨n, s0, h0, hQ⟩, ?_⟩
  rintro n σ' H' ⟨s, hI, hq⟩
  cases n with
  | zero => exact hq.elim
  | succ n =>
    obtain ⟨e0, gc⟩ := hc s σ' H' hI
    have hq2 : Wp (R.bd (c s) fun b => if b = true then R.bd (body s) fun s' => whileS c body n s' else .ok s) kk (EE K E H0) := hq
    refine gc H' (Same.refl _) _ ?_
    rw [wp_bd] at hq2
    refine wp_mono hq2 (fun b _ q H1 e1 => ?_) fun _ _ z => z.mono e0
    cases b with
    | true =>
      refine ⟨_, fun σ3 H3 h3 => ⟨n, Nat.lt_succ_self n, h3⟩, hb n s σ' H' H1 hI e1 ?_⟩
      have q2 : Wp (R.bd (body s) fun s' => whileS c body n s') kk (EE K E H0) := q
      rw [wp_bd] at q2
      exact q2
    | false => exact hd s σ' H' H1 hI e1 q
/-! ### what a for walks -/
theorem same_mix0 {G H : Hp} (e : Same G H) : Same G (mix G H H) := same_mix e
theorem i_list {m : R (List α)} (h : Gr K E tl σ F H m) (hF : Same F H) : GrI K E (iList K tl) σ F H m := fun H1 e RR hq =>
  h H1 e _ (wp_mono hq (fun xs _ k v H2 e2 r => by
    obtain ⟨p, vs, rfl, hp, hv⟩ := r
    refine ⟨p, rfl, ⟨vs, SqL.of (mix_same hF (e.trans e2) p _ hp)⟩, k _ H2 e2 ⟨fun i H' s hi => ⟨vs, vs[i]'(by rw [hv.length]; exact hi), SqL.of (s p _ hp), List.getElem?_eq_getElem _⟩, fun i H' s hi => ⟨vs, SqL.of (s p _ hp), by rw [hv.length, hi]; exact Nat.le_refl _⟩, fun i H' x H'' s hi y => ?_⟩⟩
    obtain ⟨e1, y⟩ := y
    subst e1
    obtain ⟨a, ha, ra⟩ := hv.getL (y vs (SqL.of (s p _ hp)))
    exact ⟨Same.refl _, a, ha, Rp.mono (same_mix s) ra⟩) fun _ _ z => z)
theorem i_listS {m : R Scr} (h : Gr K E tl σ F H m) (hF : Same F H) : GrI K E (iList K tl) σ F H (R.bd m fun s => .ok s.l) := fun H1 e RR hq =>
  h H1 e _ (by
    rw [wp_bd] at hq
    refine wp_mono hq (fun xs _ k v H2 e2 r => ?_) fun _ _ z => z
    obtain ⟨p, rfl, hp⟩ := r
    have hl : ∀ {H' : Hp}, Same (mix F H H2) H' → SqL K H' p (xs.l.map V.int) := fun s => s.seq hp
    refine ⟨p, rfl, ⟨_, hl (mix_same hF (e.trans e2))⟩, k _ H2 e2 ⟨fun i H' s hi => ⟨_, .int (xs.l[i]), hl s, by rw [List.getElem?_map, List.getElem?_eq_getElem hi]; rfl⟩, fun i H' s hi => ⟨_, hl s, by rw [List.length_map, hi]; exact Nat.le_refl _⟩, fun i H' x H'' s hi y => ?_⟩⟩
    obtain ⟨e1, y⟩ := y
    subst e1
    have z := y _ (hl s)
    rw [List.getElem?_map] at z
    cases q : xs.l[i]? with
    | none => rw [q] at z; cases z
    | some n =>
      rw [q] at z
      exact ⟨Same.refl _, n, rfl, (Option.some.inj z).symm⟩)
theorem i_tup {m : R (Tu α)} (h : Gr K E tl σ F H m) (hF : Same F H) : GrI K E (iTup K tl) σ F H (R.bd m fun s => .ok s.l) := fun H1 e RR hq =>
  h H1 e _ (by
    rw [wp_bd] at hq
    refine wp_mono hq (fun xs _ k v H2 e2 r => ?_) fun _ _ z => z
    obtain ⟨p, vs, rfl, hp, hv⟩ := r
    refine ⟨p, rfl, ⟨vs, SqT.of (mix_same hF (e.trans e2) p _ hp)⟩, k _ H2 e2 ⟨fun i H' s hi => ⟨vs, vs[i]'(by rw [hv.length]; exact hi), SqT.of (s p _ hp), List.getElem?_eq_getElem _⟩, fun i H' s hi => ⟨vs, SqT.of (s p _ hp), by rw [hv.length, hi]; exact Nat.le_refl _⟩, fun i H' x H'' s hi y => ?_⟩⟩
    obtain ⟨e1, y⟩ := y
    subst e1
    obtain ⟨a, ha, ra⟩ := hv.getL (y vs (SqT.of (s p _ hp)))
    exact ⟨Same.refl _, a, ha, Rp.mono (same_mix s) ra⟩)
/-- lo, lo + 1, .. below hi -/
def rngL (lo hi : Int) : List Int := (List.range (hi - lo).toNat).map fun i : Nat => lo + (i : Int)
theorem rngL_len (lo hi : Int) : (rngL lo hi).length = (hi - lo).toNat := by unfold rngL; simp
theorem rngL_get {lo hi : Int} {i : Nat} (h : i < (hi - lo).toNat) : (rngL lo hi)[i]? = some (lo + (i : Int)) := by
  unfold rngL
  rw [List.getElem?_map, List.getElem?_range h]
  rfl
def rngOk (n : Int) : Prop := -(2 ^ 62) ≤ n ∧ n < 2 ^ 62
instance {n : Int} : Decidable (rngOk n) := by unfold rngOk; exact inferInstance
noncomputable def rng1 (n : Int) : R (List Int) := gd (rngOk n) (.ok (rngL 0 n))
noncomputable def rng2 (a b : Int) : R (List Int) := gd (rngOk a ∧ rngOk b) (.ok (rngL a b))
theorem itr_ok {lo hi : Int} {G : Hp} : ItOk (Itr lo (hi - lo).toNat) K G (rngL lo hi) := by
  refine ⟨fun i H' s hi => ?_, fun i H' s hi => ?_, fun i H' x H'' s hi y => ?_⟩
  · rw [rngL_len] at hi
    exact hi
  · rw [rngL_len] at hi
    exact Nat.le_of_eq hi.symm
  · obtain ⟨e1, y⟩ := y
    subst e1 y
    rw [rngL_len] at hi
    exact ⟨Same.refl _, _, rngL_get hi, rfl⟩
theorem i_rng1 {m : R Int} (h : Gr K E ta σ F H m) : GrI K E (iRng1 (tCons ta tNil)) σ F H (R.bd m rng1) := fun H1 e RR hq =>
  h H1 e _ (by
    rw [wp_bd] at hq
    refine wp_mono hq (fun n _ k v H2 e2 r => ?_) fun _ _ z => z
    have r' : v = .int n := r
    subst r'
    unfold rng1 gd at k
    split at k
    · rename_i c
      refine ⟨n, rfl, c.1, by have := c.2; omega, ?_⟩
      have z := k (Itr 0 (n - 0).toNat) H2 e2 itr_ok
      rw [show (n - 0).toNat = n.toNat by rw [Int.sub_zero]] at z
      exact z
    · exact k.elim)
theorem i_rng2 {ma mb : R Int} (ha : Gr K E ta σ F H ma) (hb : Gr K E tb σ F H mb) : GrI K E (iRng2 (tCons ta (tCons tb tNil))) σ F H (R.bd ma fun a => R.bd mb fun b => rng2 a b) := fun H1 e RR hq =>
  ha H1 e _ (by
    rw [wp_bd] at hq
    refine wp_mono hq (fun n _ k v H2 e2 r => ?_) fun _ _ z => z
    have r' : v = .int n := r
    subst r'
    refine hb H2 (e.trans e2) _ ?_
    rw [wp_bd] at k
    refine wp_mono k (fun n2 _ k v2 H3 e3 r3 => ?_) fun _ _ z => z.mono e2
    have r3' : v2 = .int n2 := r3
    subst r3'
    unfold rng2 gd at k
    split at k
    · rename_i c
      obtain ⟨⟨c1, c2⟩, c3, c4⟩ := c
      exact ⟨n, n2, rfl, ⟨by omega, by omega, by omega, by omega⟩, k _ H3 (e2.trans e3) itr_ok⟩
    · exact k.elim)
/-- hi, hi - 1, .. above lo -/
def rngD (hi lo : Int) : List Int := (List.range (hi - lo).toNat).map fun i : Nat => hi - (i : Int)
noncomputable def rng3D (a b : Int) : R (List Int) := gd (rngOk a ∧ rngOk b) (.ok (rngD a b))
theorem i_rng3D {ma mb : R Int} {tc : TE} (ha : Gr K E ta σ F H ma) (hb : Gr K E tb σ F H mb) (hc : Gr K E tc σ F H (.ok (-1 : Int))) : GrI K E (iRng3 (tCons ta (tCons tb (tCons tc tNil)))) σ F H (R.bd ma fun a => R.bd mb fun b => rng3D a b) := fun H1 e RR hq =>
  ha H1 e _ (by
    rw [wp_bd] at hq
    refine wp_mono hq (fun n _ k v H2 e2 r => ?_) fun _ _ z => z
    have r' : v = .int n := r
    subst r'
    refine hb H2 (e.trans e2) _ ?_
    rw [wp_bd] at k
    refine wp_mono k (fun n2 _ k v2 H3 e3 r3 => ?_) fun _ _ z => z.mono e2
    have r3' : v2 = .int n2 := r3
    subst r3'
    refine hc H3 (e.trans (e2.trans e3)) _ (fun v3 H4 e4 r4 => ?_)
    have r4' : v3 = .int (-1) := r4
    subst r4'
    unfold rng3D gd at k
    split at k
    · rename_i c
      obtain ⟨⟨c1, c2⟩, c3, c4⟩ := c
      refine ⟨n, n2, -1, (n - n2).toNat, rfl, RgC.neg (by omega) (by omega) (by omega) (by omega), k _ H4 (e2.trans (e3.trans e4)) ⟨fun i H' s hi => ?_, fun i H' s hi => ?_, fun i H' x H'' s hi y => ?_⟩⟩
      · unfold rngD at hi
        simp at hi
        show i < (n - n2).toNat
        omega
      · unfold rngD at hi
        simp at hi
        show (n - n2).toNat ≤ i
        omega
      · obtain ⟨e1, y⟩ := y
        subst e1 y
        unfold rngD at hi ⊢
        simp at hi
        refine ⟨Same.refl _, _, by rw [List.getElem?_map, List.getElem?_range (by omega)]; rfl, ?_⟩
        show V.int (n + ((i : Nat) : Int) * (-1)) = V.int (n - ((i : Nat) : Int))
        congr 1
        omega
    · exact k.elim)
/-- enumerate(xs) -/
def enumL {α : Type} (xs : List α) : List (Int × α) := xs.zipIdx.map fun p => ((p.2 : Int), p.1)
theorem enumL_len (xs : List α) : (enumL xs).length = xs.length := by unfold enumL; simp
theorem enumL_get {xs : List α} {i : Nat} {a : α} (h : xs[i]? = some a) : (enumL xs)[i]? = some ((i : Int), a) := by
  unfold enumL
  rw [List.getElem?_map, List.getElem?_zipIdx, h]
  simp
theorem i_enum {m : R (List α)} (h : Gr K E ta σ F H m) (hF : Same F H) : GrI K E (iEnum K (tCons ta tNil)) σ F H (R.bd m fun xs => .ok (enumL xs)) := fun H1 e RR hq =>
  h H1 e _ (by
    rw [wp_bd] at hq
    refine wp_mono hq (fun xs _ k v H2 e2 r => ?_) fun _ _ z => z
    obtain ⟨p, vs, rfl, hp, hv⟩ := r
    refine ⟨p, vs, rfl, SqL.of (mix_same hF (e.trans e2) p _ hp), k _ H2 e2 ⟨fun i H' s hi => ?_, fun i H' s hi => ?_, fun i H' x H'' s hi y => ?_⟩⟩
    · rw [enumL_len] at hi
      exact ⟨vs, vs[i]'(by rw [hv.length]; exact hi), SqL.of (s p _ hp), List.getElem?_eq_getElem _⟩
    · rw [enumL_len] at hi
      exact ⟨vs, SqL.of (s p _ hp), by rw [hv.length, hi]; exact Nat.le_refl _⟩
    · obtain ⟨T, x, rfl, hT, rfl, y⟩ := y
      obtain ⟨a, ha, ra⟩ := hv.getL (y vs (SqL.of (s p _ hp)))
      refine ⟨same_upd hT, _, enumL_get ha, T, _, x, rfl, by rw [mix_new hT]; exact upd_same, rfl, Rp.mono (same_mix s) ra⟩)
/-! ### a list comprehension -/
def compGo {α β : Type} (c : α → R Bool) (f : α → R β) : List α → R (List β)
  | [] => .ok []
  | x :: l => R.bd (c x).nx fun b => if b = true then R.bd (f x).nx fun y => R.bd (compGo c f l) fun ys => .ok (y :: ys) else compGo c f l
noncomputable def compR {α β : Type} (xs : List α) (c : α → R Bool) (f : α → R β) : R (List β) := gd (xs.length ≤ lim) (compGo c f xs)
theorem wp_nx {m : R α} {k : α → Prop} {ee ee' : Er → Prop} (h : Wp m.nx k ee) : Wp m k ee' := by
  cases m with
  | ok a => exact h
  | er c => exact h.elim
  | bad => exact h.elim
abbrev EF : XK := fun _ _ _ => False
theorem t_yes : GrT K E tYes σ H (.ok true) := fun H1 e Q hq => hq H1 (Same.refl _)
theorem cmp_f {H2 Hc : Hp} {Dl : Addr} (hF : Same F H) (hn : H Dl = none) (e : Same H Hc) : Same F (delH (mix F H Hc) Dl) := fun x o h => by
  have : x ≠ Dl := fun z => by rw [z] at h; have := hF _ _ h; rw [hn] at this; cases this
  rw [delH_ne this]
  exact same_mix hF x o h
theorem del_le {H : Hp} {p : Addr} : Same (delH H p) H := fun x o h => by
  unfold delH at h
  split at h
  · cases h
  · exact h
theorem cmp_el {Hc H4 : Hp} {Dl : Addr} {o : HO} (hn : H Dl = none) (hD : ∃ u, Hc Dl = some (.lst u)) (e : Same H Hc) (e4 : Same Hc H4) : Same (mix (delH (mix F H Hc) Dl) Hc H4) (delH (mix F H (upd H4 Dl o)) Dl) := fun x u h => by
  have ne : x ≠ Dl := fun z => by
    obtain ⟨w, hw⟩ := hD
    rw [z, mix_old hw, delH_same] at h
    cases h
  have new : H x = none → Hc x = some u ∨ H4 x = some u → mix F H (upd H4 Dl o) x = some u := fun z q => by
    rw [mix_new z, upd_ne ne]
    exact q.elim (fun q => e4 x u q) fun q => q
  rw [delH_ne ne]
  rcases mix_cases h with ⟨q, h⟩ | ⟨q, t⟩ | ⟨w, q, t, h⟩
  · exact new (Same.free e q) (.inr h)
  · cases z : H x with
    | none => exact new z (.inl q)
    | some y =>
      have := e x y z
      rw [q] at this
      cases this
      exact mix_tup z t
  · rw [delH_ne ne] at h
    rcases mix_cases h with ⟨z, h⟩ | ⟨z, t2⟩ | ⟨y, z, t2, h⟩
    · exact new z (.inl h)
    · exact mix_tup z t2
    · rw [mix_old z t2]
      exact h
theorem cmp_it {H2 H' H'' : Hp} {Dl : Addr} (hn : H Dl = none) (h2 : H2 Dl = none) (hD : ∃ u, H' Dl = some (.lst u)) (e : Same H H2) (e2 : Same H2 H') (e3 : Same H' H'') : Same (mix (mix F H H2) H' H'') (delH (mix F H H'') Dl) := fun x u h => by
  have ne : x ≠ Dl := fun z => by
    obtain ⟨w, hw⟩ := hD
    rw [z, mix_old hw, mix_new hn, h2] at h
    cases h
  have new : H x = none → H'' x = some u → mix F H H'' x = some u := fun z q => by
    rw [mix_new z]
    exact q
  rw [delH_ne ne]
  rcases mix_cases h with ⟨q, h⟩ | ⟨q, t⟩ | ⟨w, q, t, h⟩
  · exact new (Same.free (e.trans e2) q) h
  · cases z : H x with
    | none => exact new z (e3 x u q)
    | some y =>
      have := (e.trans e2) x y z
      rw [q] at this
      cases this
      exact mix_tup z t
  · rcases mix_cases h with ⟨z, h⟩ | ⟨z, t2⟩ | ⟨y, z, t2, h⟩
    · exact new z (e3 x u (e2 x u h))
    · exact mix_tup z t2
    · rw [mix_old z t2]
      exact h
/-- the frozen part, without the list that is made, grows along -/
theorem cmp_go {Hc H4 : Hp} {Dl : Addr} (e4 : Same Hc H4) : Same (delH (mix F H Hc) Dl) (delH (mix F H H4) Dl) := fun x u h => by
  have ne : x ≠ Dl := fun w => by rw [w, delH_same] at h; cases h
  rw [delH_ne ne] at h ⊢
  exact mix_mono e4 x u h
theorem cmp_up {Hc : Hp} {Dl : Addr} {o : HO} (hn : H Dl = none) : Same (delH (mix F H Hc) Dl) (delH (mix F H (upd Hc Dl o)) Dl) := fun x u h => by
  have ne : x ≠ Dl := fun w => by rw [w, delH_same] at h; cases h
  rw [delH_ne ne] at h ⊢
  rcases mix_cases h with ⟨z, h⟩ | ⟨z, t2⟩ | ⟨y, z, t2, h⟩
  · rw [mix_new z, upd_ne ne]; exact h
  · exact mix_tup z t2
  · rw [mix_old z t2]; exact h
theorem g_compG {Fr : Hp} {wi : TI} {g : TG} {tt : TT} {te : TE} {vs : List Nat} {m : R (List α)} {cf : α → R Bool} {f : α → R β} (hres : ∀ H3 Dl acc ys, All2 (Rp.rep K (delH (mix F H H3) Dl)) acc (ys : List β) → All2 (Rp.rep K (mix Fr H H3)) acc ys) (hi : GrI K E wi σ F H m) (hF : Same F H)
    (hel : ∀ x v F2 H2, Same F F2 → Same F2 H2 → Same H H2 → Rp.rep K F2 v x → ∃ σ2, (∀ Q : L2.St → Hp → Prop, Q σ2 H2 → g v (wipe σ vs) H2 Q) ∧ wipe σ2 vs = wipe σ vs ∧ GrT K EF tt σ2 H2 (cf x) ∧ Gr K EF te σ2 F2 H2 (f x)) :
    Gr K E (tLc wi g tt te vs) σ Fr H (R.bd m fun xs => compR xs cf f) := fun H1 e Q hq =>
  hi H1 e _ (by
    rw [wp_bd] at hq
    refine wp_mono hq (fun xs _ k J H2 e2 ok => ?_) fun _ _ z => z
    unfold compR gd at k
    split at k
    · rename_i cl
      intro Dl hD
      have hnD : H Dl = none := Same.free (e.trans e2) hD
      refine ⟨fun i m H' => m = xs.length - i ∧ i ≤ xs.length ∧ Same H2 H' ∧ ∃ acc ys, H' Dl = some (.lst acc) ∧ acc.length ≤ i ∧ All2 (Rp.rep K (delH (mix F H H') Dl)) acc ys ∧
        Wp (compGo cf f (xs.drop i)) (fun zs => ∀ H3, Same H1 H3 → H3 Dl = H3 Dl → ∀ v, Rp.rep K (mix Fr H H3) v (ys ++ zs) → Q v H3) (fun _ => False), ⟨_, rfl, Nat.zero_le _, same_upd hD, [], [], upd_same, Nat.le_refl _, .nil, ?_⟩, ?_⟩
      · rw [List.drop_zero]
        refine wp_mono k (fun zs _ q H3 e3 _ v r => q v H3 e3 r) fun c hc _ => ?_
        exfalso
        have : ∀ l : List α, ∀ c, compGo cf f l ≠ .er c := by
          intro l
          induction l with
          | nil => intro c z; cases z
          | cons x l ih =>
            intro c z
            unfold compGo at z
            cases h1 : cf x with
            | ok b =>
              rw [h1] at z
              have z2 : (if b = true then R.bd (f x).nx fun y => R.bd (compGo cf f l) fun ys => .ok (y :: ys) else compGo cf f l) = .er c := z
              cases b with
              | true =>
                rw [if_pos rfl] at z2
                cases h2 : f x with
                | ok y =>
                  rw [h2] at z2
                  have z3 : (R.bd (compGo cf f l) fun ys => .ok (y :: ys)) = .er c := z2
                  cases h3 : compGo cf f l with
                  | ok ys => rw [h3] at z3; cases z3
                  | er c' => exact ih c' h3
                  | bad => rw [h3] at z3; cases z3
                | er c' => rw [h2] at z2; cases z2
                | bad => rw [h2] at z2; cases z2
              | false =>
                rw [if_neg Bool.false_ne_true] at z2
                exact ih c z2
            | er c' => rw [h1] at z; cases z
            | bad => rw [h1] at z; cases z
        exact this xs c hc
      · rintro i m H' ⟨rfl, hi', sH, acc, ys, hacc, hal, hall, hw⟩
        have hG : Same (mix F H H2) H' := (mix_same hF (e.trans e2)).trans sH
        by_cases ci : i < xs.length
        · refine .inr ⟨ok.go i H' hG ci, _, fun H3 h3 => ⟨xs.length - (i + 1), by omega, h3⟩, fun v H'' y => ?_⟩
          obtain ⟨e1, a, ha, r⟩ := ok.yld i H' v H'' hG ci y
          have hacc2 := e1 _ _ hacc
          have eH : Same H H'' := (e.trans e2).trans (sH.trans e1)
          obtain ⟨σ2, hg, hwp, gt, ge⟩ := hel a v (delH (mix F H H'') Dl) H'' (cmp_f (H2 := H2) hF hnD eH) (del_le.trans (mix_same hF eH)) eH (Rp.mono (cmp_it hnD hD ⟨_, hacc⟩ (e.trans e2) sH e1) r)
          refine hg _ ⟨hwp, gt H'' (Same.refl _) _ ?_⟩
          rw [drop_get ha] at hw
          unfold compGo at hw
          rw [wp_bd] at hw
          refine wp_nx (wp_mono hw (fun b _ q H3 e3 => ?_) fun _ _ z => z)
          have al' : All2 (Rp.rep K (delH (mix F H H3) Dl)) acc ys := hall.mono fun _ _ x => Rp.mono (cmp_go (e1.trans e3)) x
          cases b with
          | true =>
            show te σ2 H3 _
            refine ge H3 e3 _ ?_
            have q2 : Wp (R.bd (f a).nx fun y => R.bd (compGo cf f (xs.drop (i + 1))) fun ys => .ok (y :: ys)) _ _ := q
            rw [wp_bd] at q2
            refine wp_nx (wp_mono q2 (fun y _ q3 w H4 e4 rw4 => ?_) fun _ _ z => z)
            have hacc4 := e4 _ _ (e3 _ _ hacc2)
            refine ⟨acc, hacc4, lim_line' (by omega), rfl, ci, ?_, acc ++ [w], ys ++ [y], upd_same, by rw [List.length_append]; simp; omega, ?_, ?_⟩
            · exact fun x o h => by
                have ne : x ≠ Dl := fun z => by rw [z, hD] at h; cases h
                rw [upd_ne ne]
                exact e4 _ _ (e3 _ _ (e1 _ _ (sH _ _ h)))
            · refine All2.append (al'.mono fun _ _ x => Rp.mono ((cmp_go e4).trans (cmp_up hnD)) x) (.cons (Rp.mono (cmp_el hnD ⟨_, hacc2⟩ eH (e3.trans e4)) rw4) .nil)
            · rw [wp_bd] at q3
              refine wp_mono q3 (fun zs _ q4 H5 e5 _ v5 r5 => ?_) fun _ _ z => z
              refine q4 H5 e5 rfl v5 ?_
              rw [List.append_assoc] at r5
              exact r5
          | false =>
            exact ⟨rfl, ci, fun x o h => e3 _ _ (e1 _ _ (sH _ _ h)), acc, ys, e3 _ _ hacc2, by omega, al', q⟩
        · have ei : i = xs.length := by omega
          refine .inl ⟨ok.stop i H' hG ei, ?_⟩
          rw [ei, List.drop_length] at hw
          have hw2 : ∀ H3, Same H1 H3 → H3 Dl = H3 Dl → ∀ v, Rp.rep K (mix Fr H H3) v (ys ++ []) → Q v H3 := hw
          refine hw2 H' (e2.trans sH) rfl _ ?_
          rw [List.append_nil]
          exact ⟨Dl, acc, rfl, by rw [mix_new hnD]; exact hacc, hres _ _ _ _ hall⟩
    · exact k.elim)
theorem g_comp {wi : TI} {g : TG} {tt : TT} {te : TE} {vs : List Nat} {m : R (List α)} {cf : α → R Bool} {f : α → R β} (hi : GrI K E wi σ F H m) (hF : Same F H)
    (hel : ∀ x v F2 H2, Same F F2 → Same F2 H2 → Same H H2 → Rp.rep K F2 v x → ∃ σ2, (∀ Q : L2.St → Hp → Prop, Q σ2 H2 → g v (wipe σ vs) H2 Q) ∧ wipe σ2 vs = wipe σ vs ∧ GrT K EF tt σ2 H2 (cf x) ∧ Gr K EF te σ2 F2 H2 (f x)) :
    Gr K E (tLc wi g tt te vs) σ F H (R.bd m fun xs => compR xs cf f) := g_compG (fun _ _ _ _ h => h.mono fun _ _ x => Rp.mono del_le x) hi hF hel
/-- .. that tells ints (bools, texts), over anything -/
theorem g_compS [Sc β] {wi : TI} {g : TG} {tt : TT} {te : TE} {vs : List Nat} {m : R (List α)} {cf : α → R Bool} {f : α → R β} (hi : GrI K E wi σ H H m)
    (hel : ∀ x v F2 H2, Same H F2 → Same F2 H2 → Same H H2 → Rp.rep K F2 v x → ∃ σ2, (∀ Q : L2.St → Hp → Prop, Q σ2 H2 → g v (wipe σ vs) H2 Q) ∧ wipe σ2 vs = wipe σ vs ∧ GrT K EF tt σ2 H2 (cf x) ∧ Gr K EF te σ2 F2 H2 (f x)) :
    Gr K E (tLc wi g tt te vs) σ F H (R.bd m fun xs => compR xs cf f) := g_compG (fun _ _ _ _ h => h.mono fun _ _ x => Sc.is.mpr (Sc.is.mp x)) hi (Same.refl _) hel
end
end G

set_option Elab.async false
set_option linter.all false
set_option maxRecDepth 100000
set_option maxHeartbeats 4000000
/-! G: errors that are caught and kept by a name. -/
namespace G
open PySem PySem.Spec PyProof.Rows L2
/-- an error of the class at C that was caught, at a; its own dict d -/
def ExH (C : Addr) (d : Option Addr) (a : Addr) : HO := .ext fun h => ∃ (oe : Obj) (vs : Array Value), h.get? a = some oe ∧ Zc (.ref C) d oe ∧ oe.data = .fields vs
theorem exH_ok {P : Program} {w : World} {H : Hp} {h : Heap} {a C : Addr} {d : Option Addr} {oe : Obj} {vs : Array Value} (e : h.get? a = some oe) (z : Zc (.ref C) d oe) (dt : oe.data = .fields vs) : ObjOk P w H h a (ExH C d a) :=
  ⟨⟨oe, vs, e, z, dt⟩, ⟨oe, e⟩, fun _ _ ⟨o, v, q, r⟩ k => ⟨o, v, k o q, r⟩⟩
section
variable {X : Cx} {pins : List (Addr × Obj)} {σ : L2.St} {H : Hp} {s : Shared}
/-- an object of ours that stood untracked is tracked -/
theorem inv_track {a : Addr} {o : HO} (I : Inv X pins σ H s) (h0 : X.s_0.heap.get? a = none) (na : H a = none) (nL : a ≠ X.env.locals) (nC : ∀ x c, X.env.cells.lookup x = some c → c ≠ a) (nP : ∀ p ∈ X.pn ++ pins, p.1 ≠ a)
    (new : ObjOk X.prog X.w (upd H a o) s.heap a o) : Inv X pins σ (upd H a o) s := by
  have ne0 : ∀ b u, X.s_0.heap.get? b = some u → b ≠ a := fun b u e z => by rw [z, h0] at e; cases e
  refine ⟨I.ok, I.os, I.bare, ⟨I.base.keep, I.base.slot, fun b u e n hx => ?_, I.base.there, fun b xs e => ?_, fun b ob u e => ?_, fun b ps e => ?_⟩, I.loc, I.cell, ?_, fun x c e => ?_, fun p hp => ?_, I.hok.laidN (fun _ _ q => q) na new, I.len⟩
  · rw [upd_ne (ne0 b u e)]
    exact I.base.free b u e n hx
  · have q := I.base.tups b xs e
    rw [upd_ne (ne_of_none q na)]
    exact q
  · have q := I.base.frzs b ob u e
    rw [upd_ne (ne_of_none q na)]
    exact q
  · obtain ⟨m, q⟩ := I.base.tbls b ps e
    exact ⟨m, by rw [upd_ne (ne_of_none q na)]; exact q⟩
  · rw [upd_ne (Ne.symm nL)]
    exact I.free
  · rw [upd_ne (nC x c e)]
    exact I.freeC x c e
  · obtain ⟨e, n, r⟩ := I.pin p hp
    exact ⟨e, by rw [upd_ne (nP p hp)]; exact n, r⟩
theorem inv_suite0 (I : Inv X pins σ H s) (a : Addr) : Inv (X.suite a (X.pn ++ pins)) [] σ H s :=
  ⟨I.ok.suite _ _, I.os, I.bare, I.base, I.loc, I.cell, I.free, I.freeC, fun p hp => I.pin p (by rw [List.append_nil] at hp; exact hp), I.hok, I.len⟩
theorem inv_unsuite0 {a : Addr} {pn' : List (Addr × Obj)} (I : Inv (X.suite a (X.pn ++ pins)) pn' σ H s) (ok : X.Ok) : Inv X pins σ H s :=
  ⟨ok, I.os, I.bare, I.base, I.loc, I.cell, I.free, I.freeC, fun p hp => I.pin p (List.mem_append_left _ hp), I.hok, I.len⟩
end
/-- what the clause 'except x as n' wishes, the error kept in view -/
def wHold (K : PySem.W.Frag) (c : Value) (i : Nat) (ts : TS) (D : Ends) : WX := fun cls d σ H =>
  ∃ C, cls = .ref C ∧ PySem.W.exmOne K cls c = some true ∧ ∀ a, H a = none → ts { nx := fun σ' H' => D.nx (σ'.set i none) H', rt := D.rt, bk := fun σ' H' => D.bk (σ'.set i none) H', ct := fun σ' H' => D.ct (σ'.set i none) H' } (σ.set i (some (.ref a))) (upd H a (ExH C d a))
def tTry (K : PySem.W.Frag) (c : Value) (i : Nat) (tb : WX → TS) (ts : TS) : TS := fun D σ H => tb (wHold K c i ts D) D σ H
section
variable {X : Cx} {x n : Str} {c : Value} {i : Nat} {body suite : List Stmt} {b₀ : Stmt} {np pos pos' : Pos} {tb : WX → TS} {ts : TS}
theorem ps_try_hold (hs : X.stack = X.env :: X.outer) (hf : X.env.frame = some X.env.locals) (hex : X.ex = []) (hN : X.N.Nodup) (hi : X.N[i]? = some n) (hln : X.env.kindOf n = some .local) (hc : Names X x c)
    (hb : ∀ (W : WX) (pn : List (Addr × Obj)) (xe : Value → Shared → Prop), Takes (X.tr pn xe) W → PassesOwn (model X.prog X.w) X.A X.env xe → PSs (X.tr pn xe) body (tb W))
    (hsu : ∀ (a : Addr) (pn : List (Addr × Obj)), PSs (X.suite a pn) (b₀ :: suite) ts) :
    PS X (.Try body [.ExceptHandler (some (.Name x np)) (some n) (b₀ :: suite) pos'] [] [] pos) (tTry X.K c i tb ts) := by
  refine ⟨fun pins s σ H D I h => ?_⟩
  have ok := I.ok
  have hfr : X.A.frames = some (X.env :: X.outer) := by rw [ok.frames, hs]
  have hloc : Loc X.env.scope n := .inl hln
  refine wpAny_Try_except ?_
  refine wpAny_mono ((hb (wHold X.K c i ts D) (X.pn ++ pins) (fun e s₁ => wpAny (model X.prog X.w) X.A (noteFrame e X.env) (fun _ s₂ => wpAny (model X.prog X.w) X.A (setFlight e none) (fun _ s₃ =>
    wpAny (model X.prog X.w) X.A (handleBy e X.env [.ExceptHandler (some (.Name x np)) (some n) (b₀ :: suite) pos']) (SP X pins D) X.xe s₃) X.xe s₂) X.xe s₁) (fun u s' xx => ?_) PassesOwn.looking).run [] s σ H D (I.toTry _) h) (fun f s1 hsp => ?_) (fun e s1 he => he)
  · obtain ⟨a, B, sI, pins', σ', H', cls, d, rfl, J', nb, up, sky, na, os, ag, C, hC, hb1, hyes⟩ := xx
    subst hC
    have J : Inv X pins σ' H' sI := J'.ofTry ok
    have sky' : Sky B (X.env :: X.outer) a (Zc (.ref C) d) X.env.locals s'.heap := by rw [← hs]; exact sky
    show wpAny (model X.prog X.w) X.A (noteFrame (.ref a) X.env) _ _ _
    refine Sky.land Zc.steady hfr hf sky' fun h3 fl3 up3 => ?_
    have J3 : Inv X pins σ' H' { s' with heap := h3 } := J.landed nb fl3.1 (up.trans up3) os ag
    obtain ⟨oe3, vs3, he3, hz3, hd3⟩ := fl3.there
    have notFr : ∀ {h : Heap} {o : Obj} {vs : Array Value}, h.FunFrames B (X.env :: X.outer) → h.get? a = some o → o.data = .fields vs → a ∉ frs (X.env :: X.outer) := fun {h o vs} ff e dd hm => by
      obtain ⟨_, o', e', hnf⟩ := ff.mem hm
      rw [e] at e'; cases e'
      exact hnf _ dd
    have nfr := notFr fl3.2.2.1 he3 hd3
    have nL : a ≠ X.env.locals := fun z => nfr (List.mem_filterMap.mpr ⟨X.env, List.mem_cons_self, by rw [hf, z]⟩)
    have nF : a ∉ X.fs := fun hm => by
      obtain ⟨e, he, q⟩ := List.mem_filterMap.mp hm
      exact nfr (List.mem_filterMap.mpr ⟨e, List.mem_cons_of_mem _ he, q⟩)
    have hBa : B.get? a = none := fl3.2.1
    have nS : a ∉ frs X.stack := by rw [hs]; exact nfr
    have hsI : sI.heap.get? a = none := by
      cases e : sI.heap.get? a with
      | none => rfl
      | some o => have := nb a o e nS; rw [hBa] at this; cases this
    have hs0 : X.s_0.heap.get? a = none := by
      cases e : X.s_0.heap.get? a with
      | none => rfl
      | some o =>
        obtain ⟨o', q⟩ := J.base.there a o e (by rw [hex]; simp)
        rw [hsI] at q; cases q
    have S3 := J3.suite he3 hd3 na nL nF
    refine wpAny_handleBy_cons (codeAny_handlers_test ?_) (by intro q; cases q)
    have LT : PySem.W.Looks (model X.prog X.w) h3 (typeOf (.ref a)) (.ref C) := fun A Q E s k q => wpAny_typeOf_ref (k _ _ he3) (by rw [hz3.1]; exact q)
    have LM := PySem.W.exm_one (M := model X.prog X.w) (J3.kIn) LT hb1
    have test : ∀ {Q : Value → Shared → Prop} {E : Value → Shared → Prop}, Q c { s' with heap := h3 } → wpAny (model X.prog X.w) (X.A.mark (some (.ref a))) (eval (.Name x np) X.env) Q E { s' with heap := h3 } := fun {Q E} q => by
      obtain ⟨hg, hdbg, hm | ⟨hm, hv, hnn⟩⟩ := hc
      · exact ld_glob (X := X.suite a ((a, oe3) :: (X.pn ++ pins))) S3 hg hm q hdbg
      · exact ld_blt (X := X.suite a ((a, oe3) :: (X.pn ++ pins))) S3 hg hm hv q hnn hdbg
    refine test (LM.here ?_)
    refine codeAny_handlers_suite_as ?_
    refine HandSPX.lands_againZ fl3 fun h4 fl4 up4 => ?_
    have J4 : Inv X pins σ' H' { s' with heap := h4 } := J.landed nb fl4.1 ((up.trans up3).trans up4) os ag
    obtain ⟨oe4, vs4, he4, hz4, hd4⟩ := fl4.there
    have T4 : Inv X pins σ' (upd H' a (ExH C d a)) { s' with heap := h4 } := inv_track J4 hs0 na nL (fun y k e z => by
      obtain ⟨v, o, ho, hd⟩ := J4.cell y k e
      rw [z] at ho
      have ho' : h4.get? a = some o := ho
      rw [he4] at ho'
      cases ho'
      rw [hd4] at hd
      cases hd) (fun p hp z => by
      obtain ⟨e, _⟩ := J.pin p hp
      rw [z, hsI] at e
      cases e) (exH_ok he4 hz4 hd4)
    have S4 := inv_suite0 T4 a
    refine store_ok (X := X.suite a (X.pn ++ pins)) (v := .ref a) S4 hN hi hloc rfl (fun s5 S5 => ?_) (.inr hln)
    refine wpAny_mono ((hsu a (X.pn ++ pins)).run [] s5 _ _ _ S5 (hyes a na)) (fun f s6 hsp => ?_) (fun _ _ z => False.elim z)
    have end_ : ∀ {σ6 : L2.St} {H6 : Hp} {Q : Shared → Prop}, Inv (X.suite a (X.pn ++ pins)) [] σ6 H6 s6 → (∀ s7, Inv X pins (σ6.set i none) H6 s7 → Q s7) →
        wpAny (model X.prog X.w) X.A (do bindName X.env n .none; unbindBehindTheSuite X.env n pos') (fun _ s7 => Q s7) X.xe s6 := fun {σ6 H6 Q} S6 hq => gone_ok (inv_unsuite0 S6 ok) hN hi hln hq
    cases f with
    | next =>
      obtain ⟨σ6, H6, S6, q6⟩ := hsp
      exact end_ S6 fun s7 J7 => ⟨_, _, J7, q6⟩
    | brk =>
      obtain ⟨σ6, H6, S6, q6⟩ := hsp
      exact end_ S6 fun s7 J7 => ⟨_, _, J7, q6⟩
    | cont =>
      obtain ⟨σ6, H6, S6, q6⟩ := hsp
      exact end_ S6 fun s7 J7 => ⟨_, _, J7, q6⟩
    | ret u =>
      obtain ⟨v6, σ6, H6, S6, r6, q6⟩ := hsp
      exact end_ S6 fun s7 J7 => ⟨_, _, _, J7, r6, q6⟩
  · cases f with
    | next =>
      obtain ⟨σ', H', J', q⟩ := hsp
      exact wpAny_execs_nil ⟨σ', H', J'.ofTry ok, q⟩
    | brk =>
      obtain ⟨σ', H', J', q⟩ := hsp
      exact ⟨σ', H', J'.ofTry ok, q⟩
    | cont =>
      obtain ⟨σ', H', J', q⟩ := hsp
      exact ⟨σ', H', J'.ofTry ok, q⟩
    | ret u =>
      obtain ⟨v, σ', H', J', r, q⟩ := hsp
      exact ⟨v, σ', H', J'.ofTry ok, r, q⟩
end
/-! ### the classes' facts, by one look at the written part -/
def Er.cn : Er → Cn
  | .own c => c
  | .plan _ => .BadPlan
def allCn : List Cn := [.SowError, .BadBoard, .BadPit, .BadPits, .BadCount, .NoSeeds, .BadPlan, .Unlike, .TooLong, .TooMany, .BadLine, .BadRow, .BadYard, .NoDeed, .BadText]
theorem mem_allCn (c : Cn) : c ∈ allCn := by cases c <;> decide
/-- the module's name of the class is a class -/
def knB (K : PySem.W.Frag) (c : Cn) : Bool := He.eqO (PySem.W.nsIn K mainGlobals c.nm) (some (some (.ref (He.ga K c.nm))))
def isC (c d : Cn) : Bool := decide (d = c) || decide (d = .SowError)
def cfB (K : PySem.W.Frag) (c : Cn) : Bool := knB K c && (
  He.eqO (PySem.W.findIn K (.ref (He.ga K c.nm)) "__getattribute__") (some (some (.builtin "BaseException.__getattribute__"))) && (He.eqO (PySem.W.findIn K (.ref (He.ga K c.nm)) "__getattr__") (some none) &&
  (decide (PySem.W.subIn K (.ref (He.ga K c.nm)) (.type "BaseException") = some true) && (PySem.W.hasDictIn K (He.ga K c.nm) && (He.eqO (PySem.W.findIn K (.ref (He.ga K c.nm)) "__class__") (some (some (.builtin "object.__class__"))) &&
  (He.eqO (PySem.W.specialIn K (.builtin "object.__class__") "__get__") (some (some (.builtin "getset_descriptor.__get__"))) && (decide (PySem.W.takesIn K (.builtin "object.__class__") = some true) && (decide (PySem.W.mroIn K (He.ga K c.nm) (.type "object") = some true) &&
  (decide (PySem.W.kitOne K (.ref (He.ga K c.nm)) (.type "ValueError") = some true) && (allCn.all fun d => !knB K d || (decide (PySem.W.kitOne K (.ref (He.ga K c.nm)) (.ref (He.ga K d.nm)) = some (isC c d)) && decide (PySem.W.kitOne K (.type "NoneType") (.ref (He.ga K d.nm)) = some false))))))))))))
structure Cf (K : PySem.W.Frag) (c : Cn) : Prop where
  kb : knB K c = true
  ex : ExcC K (He.ga K c.nm)
  ve : PySem.W.kitOne K (.ref (He.ga K c.nm)) (.type "ValueError") = some true
  kt : ∀ d, knB K d = true → PySem.W.kitOne K (.ref (He.ga K c.nm)) (.ref (He.ga K d.nm)) = some (isC c d)
  kn : ∀ d, knB K d = true → PySem.W.kitOne K (.type "NoneType") (.ref (He.ga K d.nm)) = some false
theorem cf_of {K : PySem.W.Frag} {c : Cn} (h : cfB K c = true) : Cf K c := by
  unfold cfB at h
  simp only [Bool.and_eq_true] at h
  obtain ⟨h0, h1, h2, h3, h4, h5, h6, h7, h8, h9, h10⟩ := h
  have h11 : ∀ d, knB K d = true → PySem.W.kitOne K (.ref (He.ga K c.nm)) (.ref (He.ga K d.nm)) = some (isC c d) ∧ PySem.W.kitOne K (.type "NoneType") (.ref (He.ga K d.nm)) = some false := fun d hd => by
    have q := List.all_eq_true.mp h10 d (mem_allCn d)
    rw [hd] at q
    have q2 : (decide (PySem.W.kitOne K (.ref (He.ga K c.nm)) (.ref (He.ga K d.nm)) = some (isC c d)) && decide (PySem.W.kitOne K (.type "NoneType") (.ref (He.ga K d.nm)) = some false)) = true := q
    obtain ⟨a, b⟩ := Bool.and_eq_true_iff.mp q2
    exact ⟨of_decide_eq_true a, of_decide_eq_true b⟩
  exact ⟨h0, ⟨He.eqO_ok h1, He.eqO_ok h2, of_decide_eq_true h3, h4, He.eqO_ok h5, He.eqO_ok h6, of_decide_eq_true h7, of_decide_eq_true h8⟩, of_decide_eq_true h9, fun d hd => (h11 d hd).1, fun d hd => (h11 d hd).2⟩
theorem cls_of {K : PySem.W.Frag} {c : Cn} (h : Cf K c) : (PySem.W.clsIn K (He.ga K c.nm)).isSome = true := by
  obtain ⟨cd, hc, _⟩ := PySem.W.any_some h.ex.hd
  rw [hc]
  rfl
/-- a caught error, as a value -/
instance : Rp Er where
  rep K H v e := ∃ a, v = .ref a ∧ Cf K e.cn ∧ match e with
    | .own c => H a = some (ExH (He.ga K c.nm) none a)
    | .plan n => ∃ dd m, H a = some (ExH (He.ga K "BadPlan") (some dd) a) ∧ H dd = some (.xd [("at", .int n), ("words", .str m)])
  mono {K H H' v e} s h := by
    obtain ⟨a, h1, h2, h3⟩ := h
    refine ⟨a, h1, h2, ?_⟩
    cases e with
    | own c => exact s a _ h3
    | plan n =>
      obtain ⟨dd, m, h4, h5⟩ := h3
      exact ⟨dd, m, s a _ h4, s dd _ h5⟩
instance : NN Er := ⟨fun ⟨_, h, _⟩ => by rw [h]; intro q; cases q⟩
/-! ### isinstance of what was caught, or None -/
inductive TyE (K : PySem.W.Frag) (H : Hp) : V → Value → Prop where
  | own {a C : Addr} (h : H a = some (ExH C none a)) (c : ExcC K C) : TyE K H (.ref a) (.ref C)
  | plan {a C dd : Addr} {fs : List (Str × V)} (h : H a = some (ExH C (some dd) a)) (hd : H dd = some (.xd fs)) (hC : (PySem.W.clsIn K C).isSome = true) (c : ExcC K C) : TyE K H (.ref a) (.ref C)
  | non : TyE K H .non (.type "NoneType")
def rIsX (K : PySem.W.Frag) : List V → Hp → VK → Prop := fun xs H Q => ∃ (x c : V) (t u : Value) (b : Bool), xs = [x, c] ∧ ClsV c u ∧ TyE K H x t ∧ PySem.W.kitOne K t u = some b ∧ Q (.bl b) H
def rIsXT (K : PySem.W.Frag) : List V → Hp → VK → Prop := fun xs H Q => ∃ (x : V) (tp : Addr) (cs : List V) (t : Value) (us : List Value) (b : Bool), xs = [x, .ref tp] ∧ H tp = some (.tup cs) ∧ Paired ClsV cs us ∧ TyE K H x t ∧ PySem.W.kitAny K t us = some b ∧ Q (.bl b) H
section
variable {X : Cx} {pins : List (Addr × Obj)} {σ : L2.St} {H : Hp} {s : Shared}
theorem inst_of {a C : Addr} (I : Inv X pins σ H s) (h : H a = some (ExH C none a)) : ∃ oe, PySem.W.InstAt s.heap a oe C none := by
  obtain ⟨⟨oe, vs, e, z, d⟩, _⟩ := (show ObjOk X.prog X.w H s.heap a (ExH C none a) from I.hok a _ h)
  refine ⟨oe, ?_⟩
  obtain ⟨oc, od, oda, osl⟩ := oe
  obtain ⟨h1, h2⟩ := z
  dsimp only at h1 h2 d
  subst h1 h2 d
  exact ⟨e, rfl, rfl, trivial⟩
theorem inst_ofD {a C dd : Addr} {fs : List (Str × V)} (I : Inv X pins σ H s) (h : H a = some (ExH C (some dd) a)) (hd : H dd = some (.xd fs)) :
    ∃ (oe od : Obj) (mA : Str → Option Value), PySem.W.InstAt s.heap a oe C (some od) ∧ (∀ n, PySem.W.lookIn n od = some (mA n)) ∧ ∀ f, RelO (fs.lookup f) (mA f) := by
  obtain ⟨⟨oe, vs, e, z, d⟩, _⟩ := (show ObjOk X.prog X.w H s.heap a (ExH C (some dd) a) from I.hok a _ h)
  obtain ⟨mA, hns, hr⟩ := (show ObjOk X.prog X.w H s.heap dd (.xd fs) from I.hok dd _ hd)
  obtain ⟨od, ho, hl⟩ := lookIn_ns hns
  refine ⟨oe, od, mA, ?_, hl, hr⟩
  obtain ⟨oc, odd, oda, osl⟩ := oe
  obtain ⟨h1, h2⟩ := z
  dsimp only at h1 h2 d
  subst h1 h2 d
  exact ⟨e, rfl, rfl, ho⟩
theorem kit_ofE {x : V} {u t : Value} (I : Inv X pins σ H s) (rx : RelV x u) (ty : TyE X.K H x t) : ∃ P : Heap → Prop, PySem.W.KitX X.K u t P ∧ P s.heap ∧ u ≠ .builtin "__main__.__loader__#opaque" := by
  cases ty with
  | own h c =>
    rename_i a C
    cases rx
    obtain ⟨oe, J⟩ := inst_of I h
    exact ⟨fun h => PySem.W.InstAt h a oe C none, PySem.W.handS_kitx_exc c.hg c.hk c.hs c.hd c.ha c.hn c.ht c.hm, J, fun z => nomatch z⟩
  | plan h hd hC c =>
    rename_i a C dd fs
    cases rx
    obtain ⟨oe, od, mA, J, _, _⟩ := inst_ofD I h hd
    exact ⟨fun h => PySem.W.InstAt h a oe C (some od), PySem.W.kitx_exc hC c.hg c.hk c.hs c.ha c.hn c.ht c.hm, J, fun z => nomatch z⟩
  | non => cases (show u = Value.none from rx); exact ⟨_, PySem.W.kitx_none, True.intro, fun z => nomatch z⟩
theorem call_isX : CallR X (.builtin "isinstance") (rIsX X.K) := by
  intro pins s σ H xs us Q I r h
  obtain ⟨x, c, t, u, b, rfl, k, ty, e, q⟩ := h
  obtain ⟨u1, u2, rfl, r1, r2⟩ := vals2 r
  have e2 := k.eq r2
  subst e2
  obtain ⟨P, Z, p, hx⟩ := kit_ofE I r1 ty
  exact PySem.W.kia_one Z I.kIn p e hx fun tk => ⟨.bl b, H, I.tok tk, rfl, q⟩
theorem call_isXT : CallR X (.builtin "isinstance") (rIsXT X.K) := by
  intro pins s σ H xs us Q I r h
  obtain ⟨x, tp, cs, t, ws, b, rfl, hT, k, ty, e, q⟩ := h
  obtain ⟨u1, u2, rfl, r1, r2⟩ := vals2 r
  cases (show u2 = Value.ref tp from r2)
  obtain ⟨P, Z, p, hx⟩ := kit_ofE I r1 ty
  obtain ⟨_, its, rv, o, h1, h2, n, h3⟩ := (show ObjOk X.prog X.w H s.heap tp (.tup cs) from I.hok tp _ hT)
  have e3 := ClsV.all k rv
  subst e3
  obtain ⟨oc, od, dt, sl⟩ := o
  simp only at h2 h3
  subst h2 h3
  exact PySem.W.kia_tup Z I.kIn p h1 e hx fun tk => ⟨.bl b, H, I.tok tk, rfl, q⟩
/-! ### caught.called() -/
def tMethX (K : PySem.W.Frag) (m : Str) (C : Cn → Prop) (sp : Cn → Sp) (E : L2.St → XK) (ta : TE) : TE := fun σ H Q => ta σ H fun x H1 =>
  ∃ a c, x = .ref a ∧ (H1 a = some (ExH (He.ga K c.nm) none a) ∨ ∃ dd fs, H1 a = some (ExH (He.ga K c.nm) (some dd) a) ∧ H1 dd = some (.xd fs) ∧ fs.lookup m = none) ∧ C c ∧ sp c [.ref a] H1 Q (E σ)
/-- each class of the kind has the method m -/
structure MthX (P : Program) (w : World) (K : PySem.W.Frag) (mg : Str → Option Value) (base : Heap) (CX : CXT) (k : Nat) (m : Str) (C : Cn → Prop) (sp : Cn → Sp) : Prop where
  hg : ∀ c, C c → PySem.W.findIn K (.ref (He.ga K c.nm)) "__getattribute__" = some (some (.builtin "BaseException.__getattribute__")) ∧ PySem.W.findIn K (.ref (He.ga K c.nm)) "__getattr__" = some none
  fn : ∀ c, C c → ∃ f fd ps, PySem.W.findIn K (.ref (He.ga K c.nm)) m = some (some (.ref f)) ∧ PySem.W.isFn K (.ref f) = true ∧ PySem.W.keepIn K (.ref f) = true ∧ Binds K fd ps [] ∧ FnOk P w K mg base CX k f fd ps (sp c)
theorem pe_methX {CX : CXT} {k : Nat} {C : Cn → Prop} {sp : Cn → Sp} {E : L2.St → XK} {m : Str} {o : Expr} {apos pos : Pos} {ta : TE} {pl : Sem Bool} (he : PE X o ta) (M : MthX X.prog X.w X.K X.mg X.base CX k m C sp) (hr : Room k X.A) (hx : ∀ σ, PassesAt CX X σ (E σ))
    (ht : eval (.Call (.Attribute o m apos) [] [] pos) X.env = (do
      let ov ← eval o X.env
      standAt apos.atName
      let (f, first) ← holding [ov] (getMethod ov m pl)
      callWith pos f first (backTo pos (starEach [] X.env)) (backToKw pos (keywordEach [] X.env))) := by rfl) :
    PE X (.Call (.Attribute o m apos) [] [] pos) (tMethX X.K m C sp E ta) := by
  refine ⟨fun pins s σ H Q I h => ?_⟩
  refine PySem.W.methodCall_KW (pl := pl) (thn (he.run pins s σ H _ I h) fun u s1 ⟨x, H1, I1, rx, a, c, ex, ea, hC, q⟩ => ?_) ht
  subst ex
  obtain rfl : u = Value.ref a := rx
  obtain ⟨h1, h2⟩ := M.hg c hC
  obtain ⟨f, fd, ps, h3, h4, h5, h6, F⟩ := M.fn c hC
  obtain ⟨m', fr⟩ := I1.fr
  have key : ∃ oe od, PySem.W.InstAt s1.heap a oe (He.ga X.K c.nm) od ∧ PySem.W.shadowIn od m = some false := by
    rcases ea with ea | ⟨dd, fs, ea, ed, el⟩
    · obtain ⟨oe, J⟩ := inst_of I1 ea
      exact ⟨oe, none, J, rfl⟩
    · obtain ⟨oe, od, mA, J, hl, hr⟩ := inst_ofD I1 ea ed
      refine ⟨oe, some od, J, ?_⟩
      show (PySem.W.lookIn m od).map _ = _
      rw [hl m]
      have r := hr m
      rw [el] at r
      cases e : mA m with
      | none => rfl
      | some u => rw [e] at r; exact r.elim
  obtain ⟨oe, od, J, hsh⟩ := key
  refine PySem.W.method_exc fr I1.ok.mod.kin J h1 h2 h3 h4 hsh ?_
  exact PySem.W.callWith_K0 (first := [.ref a]) I1.kIn h5 (run_fnS (us := [.ref a]) (vs := [.ref a]) F hr h6 (hx σ) I1 (.cons rfl .nil) q)
theorem pget_list : PGet X (rIxL X.K) := by
  intro pins s σ H x y v u Q I rx ry h
  obtain ⟨p, xs, i, z, rfl, rfl, hq, he, q⟩ := h
  cases rx
  obtain ⟨t, rfl⟩ := ry
  obtain ⟨its, r, pl, hz⟩ := I.list hq
  obtain ⟨j, h1, h2, h3, h4, h5⟩ := atI_get he
  obtain ⟨w, ew, rw'⟩ := r.get h2
  have hl := r.length
  have hn := line63
  have fin : EP X pins σ Q w s := ⟨z, H, I, rw', q⟩
  by_cases h0 : 0 ≤ i
  · have hj : i.toNat = j := by
      rw [seqIndex_of h0 h5] at h1
      exact Option.some.inj h1
    exact wpAny_getItem_list pl.isList h0 (by omega) (by rw [hj]; simpa using ew) fin
  · have hj : (i + (its.toArray.size : Int)).toNat = j := by
      rw [seqIndex_neg (by omega) h4] at h1
      rw [List.size_toArray, ← hl]
      exact Option.some.inj h1
    exact wpAny_getItem_list_neg pl.isList (by omega) (by rw [List.size_toArray] <;> omega) (by omega) (by rw [hj]; simpa using ew) fin
/-- in a comprehension's block nothing is raised -/
theorem passF (σ : L2.St) : PassesAt (L2.CX X.prog X.w) X σ (fun _ _ _ => False) := fun _ _ _ _ _ _ h => by
  obtain ⟨_, _, _, _, _, _, _, _, _, _, _, _, z⟩ := h
  exact z.elim
end
/-! ### the same over what is known -/
section
variable {K : PySem.W.Frag} {E : XK} {σ : L2.St} {H0 F H F' H' : Hp} {ta tb te tl to ti : TE} {t u : TT} {tu tw tz : TS} {α β γ δ ρ S : Type} [Rp α] [Rp β] [Rp γ] [Rp δ] [Rp ρ] {D : Ends} {Ex : L2.St → XK}
def isXR (c : Cn) : Option Er → R Bool
  | none => .ok false
  | some (.own d) => .ok (isC d c)
  | some (.plan _) => .ok (isC .BadPlan c)
theorem g_isX {m : R (Option Er)} {c : Cn} (h : Gr K E ta σ F H m) (hF : Same F H) (hk : knB K c = true) (h0 : Cf K c) : Gr K E (tCB (rIsX K) (tCons ta (tCons (tC (.ref (He.ga K c.nm))) tNil))) σ F H (R.bd m (isXR c)) := fun H1 e Q hq =>
  gr_seq h e hq fun o v H2 e2 r hq2 => by
    cases o with
    | none =>
      have r' : v = .non := r
      subst r'
      exact ⟨_, _, _, _, false, rfl, .own _, .non, h0.kn c hk, hq2 _ H2 (Same.refl _) rfl⟩
    | some er =>
      cases er with
      | plan n =>
        obtain ⟨_, a, rfl, cf, dd, m, ha, hd⟩ := r
        exact ⟨_, _, _, _, _, rfl, .own _, .plan (mix_same hF (e.trans e2) a _ ha) (mix_same hF (e.trans e2) dd _ hd) (cls_of cf) cf.ex, cf.kt c hk, hq2 _ H2 (Same.refl _) rfl⟩
      | own d =>
        obtain ⟨_, a, rfl, cf, ha⟩ := r
        exact ⟨_, _, _, _, _, rfl, .own _, .own (mix_same hF (e.trans e2) a _ ha) cf.ex, cf.kt c hk, hq2 _ H2 (Same.refl _) rfl⟩
def isVR : Option Er → R Bool
  | none => .ok false
  | some (.own d) => .ok true
  | some (.plan _) => .ok true
theorem g_isV {m : R (Option Er)} (h : Gr K E ta σ F H m) (hF : Same F H) : Gr K E (tCB (rIsX K) (tCons ta (tCons (tC (.ty "ValueError")) tNil))) σ F H (R.bd m isVR) := fun H1 e Q hq =>
  gr_seq h e hq fun o v H2 e2 r hq2 => by
    cases o with
    | none =>
      have r' : v = .non := r
      subst r'
      exact ⟨_, _, _, _, false, rfl, .ty _, .non, kit_ty (by decide +kernel), hq2 _ H2 (Same.refl _) rfl⟩
    | some er =>
      cases er with
      | plan n =>
        obtain ⟨_, a, rfl, cf, dd, m, ha, hd⟩ := r
        exact ⟨_, _, _, _, _, rfl, .ty _, .plan (mix_same hF (e.trans e2) a _ ha) (mix_same hF (e.trans e2) dd _ hd) (cls_of cf) cf.ex, cf.ve, hq2 _ H2 (Same.refl _) rfl⟩
      | own d =>
        obtain ⟨_, a, rfl, cf, ha⟩ := r
        exact ⟨_, _, _, _, _, rfl, .ty _, .own (mix_same hF (e.trans e2) a _ ha) cf.ex, cf.ve, hq2 _ H2 (Same.refl _) rfl⟩
def tClsL (K : PySem.W.Frag) : List Cn → TA
  | [] => tNil
  | c :: r => tCons (tC (.ref (He.ga K c.nm))) (tClsL K r)
theorem tClsL_ok {cs : List Cn} {Q : List V → Hp → Prop} (h : Q (cs.map fun c => V.ref (He.ga K c.nm)) H) : tClsL K cs σ H Q := by
  induction cs generalizing Q with
  | nil => exact h
  | cons c r ih => exact ih (Q := fun xs H' => Q (V.ref (He.ga K c.nm) :: xs) H') h
def isXTR (cs : List Cn) : Option Er → R Bool
  | none => .ok false
  | some (.own d) => .ok (cs.any fun c => isC d c)
  | some (.plan _) => .ok (cs.any fun c => isC .BadPlan c)
theorem kitAny_none {cs : List Cn} (hk : ∀ c ∈ cs, knB K c = true) (h0 : ∀ c ∈ cs, Cf K c) : PySem.W.kitAny K (.type "NoneType") (cs.map fun c => Value.ref (He.ga K c.nm)) = some false := by
  induction cs with
  | nil => rfl
  | cons c r ih => exact kitAny_cons ((h0 c List.mem_cons_self).kn c (hk c List.mem_cons_self)) (fun _ => ih (fun d hd => hk d (List.mem_cons_of_mem _ hd)) fun d hd => h0 d (List.mem_cons_of_mem _ hd)) (fun z => z)
theorem kitAny_own {cs : List Cn} {d : Cn} (hk : ∀ c ∈ cs, knB K c = true) (hd : Cf K d) : PySem.W.kitAny K (.ref (He.ga K d.nm)) (cs.map fun c => Value.ref (He.ga K c.nm)) = some (cs.any fun c => isC d c) := by
  induction cs with
  | nil => rfl
  | cons c r ih =>
    refine kitAny_cons (hd.kt c (hk c List.mem_cons_self)) (fun z => ?_) (fun z => ?_)
    · rw [List.any_cons, z, Bool.false_or]
      exact ih fun d hd => hk d (List.mem_cons_of_mem _ hd)
    · rw [List.any_cons, z, Bool.true_or]
theorem clsV_all (cs : List Cn) : Paired ClsV (cs.map fun c => V.ref (He.ga K c.nm)) (cs.map fun c => Value.ref (He.ga K c.nm)) := by
  induction cs with
  | nil => exact .nil
  | cons c r ih => exact .cons (.own _) ih
theorem g_isXT {m : R (Option Er)} (cs : List Cn) (h : Gr K E ta σ F H m) (hF : Same F H) (hk : ∀ c ∈ cs, knB K c = true) (h0 : ∀ c ∈ cs, Cf K c) (hl : cs.length ≤ 100) : Gr K E (tCB (rIsXT K) (tCons ta (tCons (tTup (tClsL K cs)) tNil))) σ F H (R.bd m (isXTR cs)) := fun H1 e Q hq =>
  gr_seq h e hq fun o v H2 e2 r hq2 => by
    refine tClsL_ok ⟨by rw [List.length_map]; exact Nat.le_trans hl (by decide), fun p hp => ?_⟩
    cases o with
    | none =>
      have r' : v = .non := r
      subst r'
      exact ⟨_, p, _, _, _, false, rfl, upd_same, clsV_all cs, .non, kitAny_none hk h0, hq2 _ _ (same_upd hp) rfl⟩
    | some er =>
      cases er with
      | plan n =>
        obtain ⟨_, a, rfl, cf, dd, m, ha, hd⟩ := r
        exact ⟨_, p, _, _, _, _, rfl, upd_same, clsV_all cs, .plan (same_upd hp _ _ (mix_same hF (e.trans e2) a _ ha)) (same_upd hp _ _ (mix_same hF (e.trans e2) dd _ hd)) (cls_of cf) cf.ex, kitAny_own hk cf, hq2 _ _ (same_upd hp) rfl⟩
      | own d =>
        obtain ⟨_, a, rfl, cf, ha⟩ := r
        exact ⟨_, p, _, _, _, _, rfl, upd_same, clsV_all cs, .own (same_upd hp _ _ (mix_same hF (e.trans e2) a _ ha)) cf.ex, kitAny_own hk cf, hq2 _ _ (same_upd hp) rfl⟩
/-- the name that called() tells -/
def spCalled (c : Cn) : Sp := fun vs H Q _ => (∃ v, vs = [v]) ∧ Q (.str c.nm) H
def calledR : Option Er → R Str
  | some (.own d) => .ok d.nm
  | some (.plan _) => .ok Cn.BadPlan.nm
  | none => .bad
theorem g_called {m : R (Option Er)} {C : Cn → Prop} (h : Gr K E ta σ F H m) (hF : Same F H) (hC : ∀ c, Cf K c → C c) (hE : Ex σ = E := by rfl) : Gr K E (tMethX K "called" C spCalled Ex ta) σ F H (R.bd m calledR) := by
  subst hE
  exact fun H1 e Q hq =>
  gr_seq h e hq fun o v H2 e2 r hq2 => by
    cases o with
    | none => exact hq2.elim
    | some er =>
      cases er with
      | plan n =>
        obtain ⟨_, a, rfl, cf, dd, m, ha, hd⟩ := r
        exact ⟨a, .BadPlan, rfl, .inr ⟨dd, _, mix_same hF (e.trans e2) a _ ha, mix_same hF (e.trans e2) dd _ hd, rfl⟩, hC .BadPlan cf, ⟨_, rfl⟩, hq2 _ H2 (Same.refl _) rfl⟩
      | own d =>
        obtain ⟨_, a, rfl, cf, ha⟩ := r
        exact ⟨a, d, rfl, .inl <| mix_same hF (e.trans e2) a _ ha, hC d cf, ⟨_, rfl⟩, hq2 _ H2 (Same.refl _) rfl⟩
/-! ### try: .. except SowError as e: .. -/
def catchR {S : Type} (cs : List Cn) (m : R S) (hand : Er → R S) : R S := match m with
  | .ok s => .ok s
  | .er e => if e.cn ∈ cs then hand e else .bad
  | .bad => .bad
theorem s_try {cs : List Cn} {cv : Value} {i : Nat} {ts : TS} {tb : WX → TS} {m : R S} {hand : Er → R S} {k : S → R β} {kk : β → Prop} (hF : Same F H) (e0 : Same H0 H) (hQ : Wp (R.bd (catchR cs m hand) k) kk (EE K E H0))
    (hx : ∀ c ∈ cs, PySem.W.exmOne K (.ref (He.ga K c.nm)) cv = some true) (hcf : ∀ c ∈ cs, Cf K c)
    (hh : ∀ er a F' H', Nx0 F H F' H' → Same H0 H' → Rp.rep K F' (.ref a) (er : Er) → Wp (R.bd (hand er) k) kk (EE K E H0) →
      ts { nx := fun σ' H' => D.nx (σ'.set i none) H', rt := D.rt, bk := fun σ' H' => D.bk (σ'.set i none) H', ct := fun σ' H' => D.ct (σ'.set i none) H' } (σ.set i (some (.ref a))) H')
    (hb : Wp m (fun s => Wp (k s) kk (EE K E H0)) (EE K (WE (wHold K cv i ts D) σ) H) → tb (wHold K cv i ts D) D σ H) : tb (wHold K cv i ts D) D σ H := by
  refine hb ?_
  rw [wp_bd] at hQ
  cases m with
  | ok s => exact hQ
  | bad => exact hQ.elim
  | er er =>
    have hQ2 : Wp (if er.cn ∈ cs then hand er else .bad) (fun a => Wp (k a) kk (EE K E H0)) (EE K E H0) := hQ
    split at hQ2
    · rename_i hc
      have hq3 : Wp (R.bd (hand er) k) kk (EE K E H0) := by rw [wp_bd]; exact hQ2
      cases er with
      | own c =>
        intro H' s
        refine ⟨_, rfl, hx _ hc, fun a ha => ?_⟩
        have hn : H a = none := Same.free s ha
        exact hh (.own c) a _ _ (Nx.mk' hF (s.trans (same_upd ha))) (e0.trans (s.trans (same_upd ha))) ⟨a, rfl, hcf _ hc, by show mix F H _ a = _; rw [mix_new hn]; exact upd_same⟩ hq3
      | plan n =>
        intro d H' s hd ⟨m, hm⟩
        refine ⟨_, rfl, hx _ hc, fun a ha => ?_⟩
        have hn : H a = none := Same.free s ha
        exact hh (.plan n) a _ _ (Nx.mk' hF (s.trans (same_upd ha))) (e0.trans (s.trans (same_upd ha))) ⟨a, rfl, hcf _ hc, d, m, by show mix F H _ a = _; rw [mix_new hn]; exact upd_same, by rw [mix_new hd]; exact same_upd ha _ _ hm⟩ hq3
    · exact hQ2.elim
/-! ### lists of ints (bools, texts): told anew, wherever they stand -/
theorem g_anew [Sc α] {f : List α → List α} (hf : ∀ (p : Addr) (xs : List α) H' (G : Hp), G p = H' p → Rp.rep K H' (.ref p) xs → Rp.rep K G (.ref p) xs) : True := trivial
theorem reps_at [Sc α] {G H' : Hp} {p : Addr} {vs : List V} {xs : List α} (h : G p = some (.lst vs)) (hv : All2 (Rp.rep K H') vs xs) : Rp.rep K G (.ref p) xs := ⟨p, vs, rfl, h, hv.mono fun _ _ x => Sc.is.mpr (Sc.is.mp x)⟩
theorem g_listS [Sc α] {m : R (List α)} (h : Gr K E ta σ H H m) : Gr K E (tCB (rListOf K) (tCons ta tNil)) σ F H m := fun H1 e Q hq =>
  h H1 e _ (wp_mono hq (fun xs _ k v H2 e2 r => by
    obtain ⟨p, vs, rfl, hp, hv⟩ := r
    exact ⟨p, vs, rfl, .inl (SqL.of (mix_same (Same.refl _) (e.trans e2) p _ hp)), fun l hl => k _ _ (e2.trans (same_upd hl)) (reps_at (by rw [mix_new (Same.free (e.trans e2) hl)]; exact upd_same) hv)⟩) fun _ _ z => z)
theorem g_listTS [Sc α] {m : R (Tu α)} (h : Gr K E ta σ H H m) : Gr K E (tCB (rListOf K) (tCons ta tNil)) σ F H (R.bd m fun t => .ok t.l) := fun H1 e Q hq =>
  h H1 e _ (by
    rw [wp_bd] at hq
    refine wp_mono hq (fun xs _ k v H2 e2 r => ?_) fun _ _ z => z
    obtain ⟨p, vs, rfl, hp, hv⟩ := r
    exact ⟨p, vs, rfl, .inr (SqT.of (mix_same (Same.refl _) (e.trans e2) p _ hp)), fun l hl => k _ _ (e2.trans (same_upd hl)) (reps_at (by rw [mix_new (Same.free (e.trans e2) hl)]; exact upd_same) hv)⟩)
theorem g_listSS {m : R Scr} (h : Gr K E ta σ H H m) : Gr K E (tCB (rListOf K) (tCons ta tNil)) σ F H (R.bd m fun t => .ok t.l) := fun H1 e Q hq =>
  h H1 e _ (by
    rw [wp_bd] at hq
    refine wp_mono hq (fun xs _ k v H2 e2 r => ?_) fun _ _ z => z
    obtain ⟨p, rfl, hp⟩ := r
    exact ⟨p, _, rfl, .inl ((mix_same (Same.refl _) (e.trans e2)).seq hp), fun l hl => k _ _ (e2.trans (same_upd hl)) (reps_at (K := K) (H' := H) (by rw [mix_new (Same.free (e.trans e2) hl)]; exact upd_same) (ints_rep _))⟩)
theorem g_tupleS [Sc α] {m : R (List α)} (h : Gr K E ta σ H H m) : Gr K E (tCB (rTupOf K) (tCons ta tNil)) σ F H (R.bd m fun l => .ok (Tu.mk l)) := fun H1 e Q hq =>
  h H1 e _ (by
    rw [wp_bd] at hq
    refine wp_mono hq (fun xs _ k v H2 e2 r => ?_) fun _ _ z => z
    obtain ⟨p, vs, rfl, hp, hv⟩ := r
    exact ⟨p, vs, rfl, .inl ⟨SqL.of (mix_same (Same.refl _) (e.trans e2) p _ hp), fun l hl => k _ _ (e2.trans (same_upd hl)) ⟨l, vs, rfl, by rw [mix_new (Same.free (e.trans e2) hl)]; exact upd_same, hv.mono fun _ _ x => Sc.is.mpr (Sc.is.mp x)⟩⟩⟩)
theorem gro_arg {mo : R (Option Int)} {to : TO} {f : Option Int → R ρ} {Q : VK} {H1 : Hp} (ha : GrO K E to σ H mo) (e : Same H H1) (hq : Wp (R.bd mo f) (fun b => ∀ v H2, Same H1 H2 → Rp.rep K (mix F H H2) v b → Q v H2) (EE K E H1))
    {Q' : Option Int → Hp → Prop} (h : ∀ a H2, Same H1 H2 → Wp (f a) (fun b => ∀ v H3, Same H2 H3 → Rp.rep K (mix F H H3) v b → Q v H3) (EE K E H2) → Q' a H2) : to σ H1 Q' := gro_seq ha e hq h
theorem g_cutS [Sc α] {tlo thi : TO} {m : R (List α)} {mlo mhi : R (Option Int)} (h : Gr K E ta σ H H m) (hlo : GrO K E tlo σ H mlo) (hhi : GrO K E thi σ H mhi) :
    Gr K E (tSl (rSlL K) ta tlo thi) σ F H (R.bd m fun xs => R.bd mlo fun lo => R.bd mhi fun hi => .ok (cut xs lo hi)) := fun H1 e Q hq =>
  gr_arg h e hq fun xs v H2 e2 r hq2 => gro_seq hlo (e.trans e2) hq2 fun lo H3 e3 hq3 => gro_seq hhi (e.trans (e2.trans e3)) hq3 fun hi H4 e4 hq4 => by
    obtain ⟨p, vs, rfl, hp, hv⟩ := r
    exact ⟨p, vs, rfl, SqL.of (e4 p _ (e3 p _ hp)), fun l hl => hq4 _ _ (same_upd hl) (reps_at (by rw [mix_new (Same.free (e.trans (e2.trans (e3.trans e4))) hl)]; exact upd_same) (all2_cut hv))⟩
theorem atI_cutmap {ns : List Int} {lo hi : Option Int} : cutV (ns.map V.int) lo hi = (cut ns lo hi).map V.int := by
  unfold cutV cut
  rw [List.length_map, List.map_take, List.map_drop]
theorem g_cutSS {tlo thi : TO} {m : R Scr} {mlo mhi : R (Option Int)} (h : Gr K E ta σ H H m) (hlo : GrO K E tlo σ H mlo) (hhi : GrO K E thi σ H mhi) :
    Gr K E (tSl (rSlL K) ta tlo thi) σ F H (R.bd m fun xs => R.bd mlo fun lo => R.bd mhi fun hi => .ok (cut xs.l lo hi)) := fun H1 e Q hq =>
  gr_arg h e hq fun xs v H2 e2 r hq2 => gro_seq hlo (e.trans e2) hq2 fun lo H3 e3 hq3 => gro_seq hhi (e.trans (e2.trans e3)) hq3 fun hi H4 e4 hq4 => by
    obtain ⟨p, rfl, hp⟩ := r
    refine ⟨p, _, rfl, (e3.trans e4).seq hp, fun l hl => hq4 _ _ (same_upd hl) ?_⟩
    rw [atI_cutmap]
    exact reps_at (K := K) (H' := H) (by rw [mix_new (Same.free (e.trans (e2.trans (e3.trans e4))) hl)]; exact upd_same) (ints_rep _)
theorem g_catS [Sc α] {ma mb : R (List α)} (ha : Gr K E ta σ H H ma) (hb : Gr K E tb σ H H mb) : Gr K E (tOp rCat ta tb) σ F H (R.bd ma fun a => R.bd mb fun b => gd (a.length + b.length ≤ lim) (.ok (a ++ b))) := fun H1 e Q hq =>
  gr_arg ha e hq fun a v H2 e2 r hq2 => gr_arg hb (e.trans e2) hq2 fun b w H3 e3 r3 hq3 => by
    obtain ⟨p, vs, rfl, hp, hv⟩ := r
    obtain ⟨q, ws, rfl, hq', hw⟩ := r3
    unfold gd at hq3
    split at hq3
    · rename_i c
      refine ⟨p, q, vs, ws, rfl, rfl, e3 p _ hp, hq', lim_line (by rw [hv.length, hw.length]; exact c), fun l hl => hq3 _ _ (same_upd hl) (reps_at (K := K) (H' := H3) (by rw [mix_new (Same.free (e.trans (e2.trans e3)) hl)]; exact upd_same) ((hv.mono fun _ _ x => Rp.mono e3 x).append hw))⟩
    · exact hq3.elim
theorem g_repS [Sc α] {ma : R (List α)} {mb : R Int} (ha : Gr K E ta σ H H ma) (hb : Gr K E tb σ H H mb) : Gr K E (tOp rRep ta tb) σ F H (R.bd ma fun a => R.bd mb fun b => repR a b) := fun H1 e Q hq =>
  gr_arg ha e hq fun a v H2 e2 r hq2 => gr_arg hb (e.trans e2) hq2 fun b w H3 e3 r3 hq3 => by
    obtain ⟨p, vs, rfl, hp, hv⟩ := r
    have r3' : w = .int b := r3
    subst r3'
    unfold repR gd at hq3
    split at hq3
    · rename_i c
      refine ⟨p, b, vs, rfl, rfl, e3 p _ hp, by omega, by omega, lim_line (by rw [hv.length]; exact c.2.2), fun l hl => hq3 _ _ (same_upd hl) (reps_at (K := K) (H' := H2) (by rw [mix_new (Same.free (e.trans (e2.trans e3)) hl)]; exact upd_same) (all2_rep hv _))⟩
    · exact hq3.elim
end
end G

set_option Elab.async false
set_option linter.all false
set_option maxRecDepth 100000
set_option maxHeartbeats 4000000
/-! G: small words for the walks; the head. -/
namespace G
open PySem PySem.Spec PyProof.Rows L2
theorem wp_bdi {α β : Type} {m : R α} {f : α → R β} {k : β → Prop} {e : Er → Prop} (h : Wp (R.bd m f) k e) : Wp m (fun a => Wp (f a) k e) e := by rw [wp_bd] at h; exact h
def flk {S ρ β : Type} (go : S → R β) (ret : ρ → R β) : Fl S ρ → R β
  | .go s => go s
  | .brk s => go s
  | .ret r => ret r
instance (priority := low) {S ρ : Type} : Rp (Fl S ρ) := ⟨fun _ _ _ _ => False, fun _ h => h⟩
theorem flk_go {S ρ β : Type} {go : S → R β} {ret : ρ → R β} {s : S} {k : β → Prop} {e : Er → Prop} (h : Wp (flk go ret (.go s)) k e) : Wp (go s) k e := h
theorem nil_same {H : Hp} : Same nil0 H := fun _ _ h => by cases h
theorem mix_ff {F F' H H' : Hp} (e : Same F F') : Same (mix F H H') (mix F' H H') := fun b o h => by
  cases q : H b with
  | some u =>
    cases z : tupB (some u) with
    | true => rw [mix_tup q z] at h ⊢; exact h
    | false => rw [mix_old q z] at h ⊢; exact e b o h
  | none => rw [mix_new q] at h ⊢; exact h
section
variable {K : PySem.W.Frag} {E : XK} {σ : L2.St} {H0 F H F' H' F1 H1 F2 H2 : Hp} {D : Ends} {tb : TS} {P P2 : Addr → Prop}
theorem Nx.refl' (hF : Same F H) : Nx P F H F H := ⟨Same.refl _, fun _ _ _ h => h, hF, fun _ _ _ _ n => n, fun b o h => ⟨o, h, rfl⟩⟩
theorem Nx.step (a : Nx P F H F1 H1) (b : Nx P2 F1 H1 F2 H2) (h : ∀ q, P2 q → P q ∨ H q = none) : Nx P F H F2 H2 :=
  ⟨a.ff.trans b.ff, fun x o n q => b.hh x o (fun z => by
    rcases h x z with y | y
    · exact n y
    · rw [y] at q; cases q) (a.hh x o n q), b.fh, fun x o z q n => by
    obtain ⟨o', q', t⟩ := a.th x o q
    exact b.own x o' (t.trans z) q' (a.own x o z q n), fun x o q => by
    obtain ⟨o', q', t⟩ := a.th x o q
    obtain ⟨o2, q2, t2⟩ := b.th x o' q'
    exact ⟨o2, q2, t2.trans t⟩⟩
theorem Nx.step0 (a : Nx P F H F1 H1) (b : Nx0 F1 H1 F2 H2) : Nx P F H F2 H2 := a.step b fun _ z => z.elim
/-- the frozen heap grows by a list of ours at p -/
theorem Nx.stepF {p : Addr} (a : Nx P F H F1 H1) (hf : Same F1 F2) (h2 : Same F2 H1) (hn : ∀ q, q ≠ p → F2 q = F1 q) (hp : H p = none) : Nx P F H F2 H1 :=
  ⟨a.ff.trans hf, a.hh, h2, fun x o z q n => by
    have : x ≠ p := fun z => by rw [z, hp] at q; cases q
    rw [hn x this]
    exact a.own x o z q n, a.th⟩
theorem none_of_new {p : Addr} (a : Nx P F H F1 H1) (nw : ∀ q, (∃ u, H1 q = some u) → q ≠ p) : H p = none := by
  cases q : H p with
  | none => rfl
  | some u =>
    obtain ⟨o, h, _⟩ := a.th p u q
    exact absurd rfl (nw p ⟨o, h⟩)
theorem gn {i : Nat} {v : V} (h : tb D (σ.set i (some v)) H) : gName i v σ H (fun σ2 H2 => tb D σ2 H2) := h
theorem gp {α β : Type} [Rp α] [Rp β] {i j : Nat} {v : V} {a : α × β} {G : Hp} (r : Rp.rep K G v a) (hG : Same G H) (h : ∀ x y, Rp.rep K G x a.1 → Rp.rep K G y a.2 → tb D ((σ.set i (some x)).set j (some y)) H) :
    gTup K 2 (gCons (gName i) (gCons (gName j) gNil)) v σ H (fun σ2 H2 => tb D σ2 H2) := by
  obtain ⟨p, x, y, rfl, hp, r1, r2⟩ := r
  exact ⟨p, _, rfl, SqT.of (hG p _ hp), rfl, x, _, rfl, y, _, rfl, rfl, h x y r1 r2⟩
/-- the pair's, for a comprehension's target -/
theorem gpc {α β : Type} [Rp α] [Rp β] {i j : Nat} {v : V} {a : α × β} {G : Hp} {τ : L2.St} (r : Rp.rep K G v a) (hG : Same G H) : ∃ x y, Rp.rep K G x a.1 ∧ Rp.rep K G y a.2 ∧ ∀ Q : L2.St → Hp → Prop, Q ((τ.set i (some x)).set j (some y)) H → gTup K 2 (gCons (gName i) (gCons (gName j) gNil)) v τ H Q := by
  obtain ⟨p, x, y, rfl, hp, r1, r2⟩ := r
  exact ⟨x, y, r1, r2, fun Q q => ⟨p, _, rfl, SqT.of (hG p _ hp), rfl, x, _, rfl, y, _, rfl, rfl, q⟩⟩
end
/-! ### the head: facts by names and one more look -/
def obsG (fa : List He.Fa) (fn : List He.DefD) (bx : PySem.W.Frag → Bool) (K : PySem.W.Frag) : He.AlD := (((fa.all fun f => f.ok K) && fn.all fun d => d.ok K) && bx K, fn.map fun d => He.fnW K d.at_)
def SaysG (fa : List He.Fa) (fn : List He.DefD) (bx : PySem.W.Frag → Bool) (K : PySem.W.Frag) : Prop := obsG fa fn bx K = He.valD fn
def obsGG (n : Nat) (fa : List He.Fa) (fn : List He.DefD) (bx : PySem.W.Frag → Bool) (g : Addr → Option Obj) : He.AlD := obsG fa fn bx (He.frG g (He.asD g n))
def hookG (n : Nat) (fa : List He.Fa) (fn : List He.DefD) (bx : PySem.W.Frag → Bool) : PySem.W.Hook where
  α := He.AlD
  obs := fun s => obsGG n fa fn bx s.heap.get?
  val := fun _ => He.valD fn
  says := fun _ h => ∃ K : PySem.W.Frag, K.In h ∧ SaysG fa fn bx K
  of := fun _ _ e => ⟨_, He.frG_in, e⟩
  keeps := fun _ _ _ ⟨K, hK, c⟩ k => ⟨K, PySem.W.Frag.In.keeps hK k, c⟩
theorem obsGG_eq {n : Nat} {fa : List He.Fa} {fn : List He.DefD} {bx : PySem.W.Frag → Bool} {g : Addr → Option Obj} {s : Shared} (h : ∀ a, g a = s.heap.get? a) : obsGG n fa fn bx g = (hookG n fa fn bx).obs s := by
  have e : g = s.heap.get? := funext h
  rw [e] <;> rfl
section
variable {fa : List He.Fa} {fn : List He.DefD} {bx : PySem.W.Frag → Bool} {K : PySem.W.Frag}
theorem SaysG.d (c : SaysG fa fn bx K) : He.SaysD fa fn K := by
  have h1 : (((fa.all fun f => f.ok K) && fn.all fun d => d.ok K) && bx K) = true := congrArg (fun z : He.AlD => z.1) c
  have h2 : fn.map (fun d => He.fnW K d.at_) = fn.map He.DefD.val := congrArg (fun z : He.AlD => z.2) c
  have h3 := (He.ba h1).1
  show (((fa.all fun f => f.ok K) && fn.all fun d => d.ok K), fn.map fun d => He.fnW K d.at_) = (true, fn.map He.DefD.val)
  rw [h3, h2]
theorem SaysG.b (c : SaysG fa fn bx K) : bx K = true := by
  have h1 : (((fa.all fun f => f.ok K) && fn.all fun d => d.ok K) && bx K) = true := congrArg (fun z : He.AlD => z.1) c
  exact (He.ba h1).2
theorem exc_ok {x : Str} (c : (He.Fa.exc x).ok K = true) : PySem.W.excIn K (He.ga K x) He.veBase "ValueError.__new__" = true ∧ PySem.W.keepIn K (.ref (He.ga K x)) = true ∧ PySem.W.subIn K (.ref (He.ga K x)) (.type "BaseException") = some true ∧ PySem.W.typeIn K (.ref (He.ga K x)) = some (.type "type") := by
  have c2 : (PySem.W.excIn K (He.ga K x) He.veBase "ValueError.__new__" && (PySem.W.keepIn K (.ref (He.ga K x)) && (decide (PySem.W.subIn K (.ref (He.ga K x)) (.type "BaseException") = some true) && decide (PySem.W.typeIn K (.ref (He.ga K x)) = some (.type "type"))))) = true := c
  obtain ⟨h1, h2⟩ := He.ba c2
  obtain ⟨h3, h4⟩ := He.ba h2
  obtain ⟨h5, h6⟩ := He.ba h4
  exact ⟨h1, h3, of_decide_eq_true h5, of_decide_eq_true h6⟩
theorem kn_ok {c : Cn} (h : (He.Fa.glo c.nm).ok K = true) : knB K c = true := h
theorem exm_ok {x y : Str} {b : Bool} (c : (He.Fa.exm x y b).ok K = true) : PySem.W.exmOne K (.ref (He.ga K x)) (.ref (He.ga K y)) = some b := of_decide_eq_true c
theorem meth_ok {x m : Str} (c : (He.Fa.meth x m).ok K = true) : PySem.W.findIn K (.ref (He.ga K x)) m = some (some (.ref (He.ma K (He.ga K x) m))) ∧ PySem.W.isFn K (.ref (He.ma K (He.ga K x) m)) = true ∧ PySem.W.keepIn K (.ref (He.ma K (He.ga K x) m)) = true := by
  have c2 : (He.eqO (PySem.W.findIn K (.ref (He.ga K x)) m) (some (some (.ref (He.ma K (He.ga K x) m)))) && (PySem.W.isFn K (.ref (He.ma K (He.ga K x) m)) && PySem.W.keepIn K (.ref (He.ma K (He.ga K x) m)))) = true := c
  obtain ⟨h1, h2⟩ := He.ba c2
  obtain ⟨h3, h4⟩ := He.ba h2
  exact ⟨He.eqO_ok h1, h3, h4⟩
end
theorem walk_ofW {l : PySem.W.OpenLaw} {n k : Nat} {q : Program} {loose : List Str} {XP : (Str → Option Value) → Heap → Prop} {YP : World → Heap → Prop} {d : DefRec} {CX : World → CXT} {x : Str}
    (hn : l.most = some n) (hn2 : n ≤ sizeLine) (hdf : d.params.defaults = []) (hr : Room k callerA)
    (F : ∀ (w : World) (mg : Str → Option Value) (fa : Addr) (h : Heap), YP w h → h.Ns mainGlobals mg → mg d.name = some (.ref fa) →
      ∃ (K : PySem.W.Frag) (fd : FuncData) (sp : Sp), K.In h ∧ (∀ (s : Shared) (u : Value), BindsTo s fd ⟨[u], []⟩ [(x, u)]) ∧
        (∀ (H : Hp) (a : Addr) (ns : List Int), ns.length ≤ n → (∀ k ∈ ns, Builtin.Int.intBits k ≤ 1048576) → SqL K H a (ns.map V.int) → sp [.ref a] H (fun v _ => v = .bl true) fun _ _ _ => False) ∧
        ∀ base : Heap, K.In base → base.Ns mainGlobals mg → FnOk l.prog w K mg base (CX w) k fa fd [x] sp)
    (hCX : ∀ (w : World) (H : Hp) (s : Shared) (e : Value) (s' : Shared), CX w [] H s (fun _ _ _ => False) e s' → False) :
    PySem.W.WalkO q loose XP YP l.row.toRowW d [] (fun f vs => PySem.call f vs) := by
  refine Att.attach_callB hn hdf fun w s₀ s₁ mg mb fa o pm cd doc a vs ns G Y ho hd hcd hmg hobj hints hlen hbits hg => ?_
  obtain ⟨K, fd, sp, KX, hb, hsp, hF⟩ := F w mg fa _ Y G.T.g hmg
  exact law_call KX G.T.g G.T.b G.T.builtins G.T.nolimit hg hobj hints (Nat.le_trans hlen hn2) hr hF hb (fun H _ hS => hsp H a ns hlen hbits hS) fun H e s' => hCX w H s₁ e s'
section
variable {X : Cx} {K : PySem.W.Frag}
theorem ix_listK (h : X.K = K) : IxR X (rIxL K) := by subst h; exact ix_list
theorem ix_tupK (h : X.K = K) : IxR X (rIxT K) := by subst h; exact ix_tup
theorem sl_listK (h : X.K = K) : SlR X (rSlL K) := by subst h; exact sl_list
theorem op_in_seqK (h : X.K = K) : OpR X (compareOp .In) (rIn K false) := by subst h; exact op_in_seq
theorem op_notIn_seqK (h : X.K = K) : OpR X (compareOp .NotIn) (rIn K true) := by subst h; exact op_notIn_seq
theorem call_len_seqK (h : X.K = K) : CallR X (.builtin "len") (rLen K) := by subst h; exact call_len_seq
theorem call_list_ofK (h : X.K = K) : CallR X (.type "list") (rListOf K) := by subst h; exact call_list_of
theorem call_tuple_ofK (h : X.K = K) : CallR X (.type "tuple") (rTupOf K) := by subst h; exact call_tuple_of
theorem cr_sumK' (h : X.K = K) (hc : X.calm = true) : CallR X (.builtin "sum") (rSum K) := by subst h; exact cr_sum hc
theorem cr_minK' (h : X.K = K) (hc : X.calm = true) : CallR X (.builtin "min") (rMin K) := by subst h; exact cr_min hc
theorem cr_maxK' (h : X.K = K) (hc : X.calm = true) : CallR X (.builtin "max") (rMax K) := by subst h; exact cr_max hc
theorem cr_allK' (h : X.K = K) (hc : X.calm = true) : CallR X (.builtin "all") (rAll K) := by subst h; exact cr_all hc
theorem cr_anyK' (h : X.K = K) (hc : X.calm = true) : CallR X (.builtin "any") (rAny K) := by subst h; exact cr_any hc
theorem call_isiK (h : X.K = K) : CallR X (.builtin "isinstance") (rIsi K) := by subst h; exact call_isi
theorem op_eqPK (h : X.K = K) (hu : X.A.units + 64 < cLine) : OpR X (compareOp .Eq) (rEqP K) := by subst h; exact op_eqP hu
theorem op_nePK (h : X.K = K) (hu : X.A.units + 64 < cLine) : OpR X (compareOp .NotEq) (rNeP K) := by subst h; exact op_neP hu
theorem op_inPK (h : X.K = K) (hu : X.A.units + 64 < cLine) : OpR X (compareOp .In) (rInP K false) := by subst h; exact op_inP hu
theorem op_notInPK (h : X.K = K) (hu : X.A.units + 64 < cLine) : OpR X (compareOp .NotIn) (rInP K true) := by subst h; exact op_notInP hu
end
theorem raise_of {K : PySem.W.Frag} {E : XK} {H0 H : Hp} {α : Type} {k : α → Prop} {c : Cn} (hQ : Wp (.er (.own c)) k (EE K E H0)) (e0 : Same H0 H) : E (.ref (He.ga K c.nm)) none H := hQ H e0
end G
namespace G
open PySem PySem.Spec PyProof.Rows L2
theorem st_seq {t1 t2 : TS} {D : Ends} {σ : L2.St} {H : Hp} (h : t1 { D with nx := t2 D } σ H) : tSeq t1 t2 D σ H := h
theorem st_n {t : TS} {D : Ends} {σ : L2.St} {H : Hp} (h : t D σ H) : ({ D with nx := t D } : Ends).nx σ H := h
theorem st_next {D : Ends} {σ : L2.St} {H : Hp} (h : D.nx σ H) : tNext D σ H := h
theorem if_t {α : Type} {X Y : R α} {k : α → Prop} {e : Er → Prop} (h : Wp (if true = true then X else Y) k e) : Wp X k e := h
theorem if_f {α : Type} {X Y : R α} {k : α → Prop} {e : Er → Prop} (h : Wp (if false = true then X else Y) k e) : Wp Y k e := h
/-- no loop of the program turns as often -/
theorem fuel_ex : Nonempty {n : Nat // n = 10000000} := ⟨⟨_, rfl⟩⟩
noncomputable def fuel : Nat := (Classical.choice fuel_ex).1
theorem fuel_eq : fuel = 10000000 := (Classical.choice fuel_ex).2
section
variable {K : PySem.W.Frag} {E : XK} {σ : L2.St} {H0 F H : Hp} {D : Ends} {tu tz : TS} {t : TT} {α β S ρ : Type} [Rp α] {ta tb' tc : TE}
theorem s_cutW {m : R S} {kq : S → Prop} {ee : Er → Prop} (I : S → L2.St → Hp → Prop) (hQ : Wp m kq ee) (h1 : Wp m kq ee → tu { D with nx := fun σ' H' => ∃ s, I s σ' H' ∧ kq s } σ H) (h2 : ∀ s σ' H', I s σ' H' → kq s → tz D σ' H') : Evl.tCut tu tz D σ H :=
  ⟨_, h1 hQ, fun σ' H' ⟨s, a, b⟩ => h2 s σ' H' a b⟩
theorem for_Rd {J : It} {G : Hp} {xs : List α} {g : TG} {body : α → S → R (Fl S ρ)} {s0 : S} {kk : Fl S ρ → Prop} {ee : Er → Prop} (ok : ItOk J K G xs) (I : S → L2.St → Hp → Prop) (hk : ∀ s σ' H', I s σ' H' → Same G H') (h0 : I s0 σ H)
    (hQ : Wp (forR body xs s0) kk ee) (done : ∀ s σ' H', I s σ' H' → kk (.go s) → D.nx σ' H')
    (turn : ∀ x l s v σ' H' H'', I s σ' H' → Same H' H'' → Rp.rep K (mix G H' H'') v x → (∀ s σ' H', I s σ' H' → kk (.go s) → D.nx σ' H') → Wp (body x s) (kF (β := Unit) kk fun s' => Wp (forR body l s') kk ee) ee →
      g v σ' H'' fun σ2 H2 => tu { D with nx := fun σ3 H3 => ∃ s', I s' σ3 H3 ∧ Wp (forR body l s') kk ee, ct := fun σ3 H3 => ∃ s', I s' σ3 H3 ∧ Wp (forR body l s') kk ee, bk := D.nx } σ2 H2) : ∃ W : Nat → Nat → L2.St → Hp → Prop, (∃ m, W 0 m σ H) ∧ ∀ i m σ H, W i m σ H →
      (J.stop i H ∧ D.nx σ H) ∨ (J.go i H ∧ ∃ N : L2.St → Hp → Prop, (∀ σ' H', N σ' H' → ∃ m', m' < m ∧ W (i + 1) m' σ' H') ∧ ∀ x H', J.yld i H x H' → g x σ H' fun σ2 H2 => tu { D with nx := N, ct := N, bk := D.nx } σ2 H2) :=
  for_R ok I hk h0 hQ (fun x l s v σ' H' H'' a b c d => turn x l s v σ' H' H'' a b c done d) done
theorem while_Rd {c : S → R Bool} {body : S → R (Fl S ρ)} {n : Nat} {s0 : S} {kk : Fl S ρ → Prop} (I : S → L2.St → Hp → Prop) (h0 : I s0 σ H) (hQ : Wp (whileR c body n s0) kk (EE K E H0))
    (hc : ∀ s σ' H', I s σ' H' → Same H0 H' ∧ GrT K E t σ' H' (c s))
    (hd : ∀ s σ' H' H1, I s σ' H' → Same H' H1 → kk (.go s) → D.nx σ' H1)
    (hb : ∀ n s σ' H' H1, I s σ' H' → Same H' H1 → (∀ s σ' H' H1, I s σ' H' → Same H' H1 → kk (.go s) → D.nx σ' H1) → Wp (body s) (kF (β := Unit) kk fun s' => Wp (whileR c body n s') kk (EE K E H0)) (EE K E H0) →
      tu { D with nx := fun σ3 H3 => ∃ s', I s' σ3 H3 ∧ Wp (whileR c body n s') kk (EE K E H0), ct := fun σ3 H3 => ∃ s', I s' σ3 H3 ∧ Wp (whileR c body n s') kk (EE K E H0), bk := D.nx } σ' H1) : tWhile t tu D σ H :=
  while_R I h0 hQ hc (fun n s σ' H' H1 a b d => hb n s σ' H' H1 a b hd d) hd
theorem s_tryW {cs : List Cn} {cv : Value} {i : Nat} {ts : TS} {tb : WX → TS} {m : R S} {hand : Er → R S} {kq : S → Prop} (hF : Same F H) (e0 : Same H0 H) (hQ : Wp (catchR cs m hand) kq (EE K E H0))
    (hx : ∀ c ∈ cs, PySem.W.exmOne K (.ref (He.ga K c.nm)) cv = some true) (hcf : ∀ c ∈ cs, Cf K c)
    (hh : ∀ er a F' H', Nx0 F H F' H' → Same H0 H' → Rp.rep K F' (.ref a) (er : Er) → Wp (hand er) kq (EE K E H0) →
      ts { nx := fun σ' H' => D.nx (σ'.set i none) H', rt := D.rt, bk := fun σ' H' => D.bk (σ'.set i none) H', ct := fun σ' H' => D.ct (σ'.set i none) H' } (σ.set i (some (.ref a))) H')
    (hb : Wp m kq (EE K (WE (wHold K cv i ts D) σ) H) → tb (wHold K cv i ts D) D σ H) : tTry K cv i tb ts D σ H := by
  show tb (wHold K cv i ts D) D σ H
  refine hb ?_
  cases m with
  | ok s => exact hQ
  | bad => exact hQ.elim
  | er er =>
    have hQ2 : Wp (if er.cn ∈ cs then hand er else .bad) kq (EE K E H0) := hQ
    split at hQ2
    · rename_i hc
      cases er with
      | own c =>
        intro H' s
        refine ⟨_, rfl, hx _ hc, fun a ha => ?_⟩
        have hn : H a = none := Same.free s ha
        exact hh (.own c) a _ _ (Nx.mk' hF (s.trans (same_upd ha))) (e0.trans (s.trans (same_upd ha))) ⟨a, rfl, hcf _ hc, by show mix F H _ a = _; rw [mix_new hn]; exact upd_same⟩ hQ2
      | plan n =>
        intro d H' s hd ⟨m, hm⟩
        refine ⟨_, rfl, hx _ hc, fun a ha => ?_⟩
        have hn : H a = none := Same.free s ha
        exact hh (.plan n) a _ _ (Nx.mk' hF (s.trans (same_upd ha))) (e0.trans (s.trans (same_upd ha))) ⟨a, rfl, hcf _ hc, d, m, by show mix F H _ a = _; rw [mix_new hn]; exact upd_same, by rw [mix_new hd]; exact same_upd ha _ _ hm⟩ hQ2
    · exact hQ2.elim
/-- a < b <= c -/
theorem g_chain {f g : Int → Int → Bool} {a b c : Int} (ha : Gr K E ta σ F H (.ok a)) (hb : Gr K E tb' σ F H (.ok b)) (hc : Gr K E tc σ F H (.ok c)) :
    Gr K E (tChain (rI0 fun i j => .bl (f i j)) (rI0 fun i j => .bl (g i j)) ta tb' tc) σ F H (.ok (f a b && g b c)) := fun H1 e Q hq =>
  ha H1 e _ fun v H2 e2 r2 => hb H2 (e.trans e2) _ fun w H3 e3 r3 => ⟨a, b, r2, r3, f a b, rfl, by
    have hq' : ∀ v H2, Same H1 H2 → Rp.rep K (mix F H H2) v (f a b && g b c) → Q v H2 := hq
    cases h : f a b with
    | true =>
      rw [h] at hq'
      exact hc H3 (e.trans (e2.trans e3)) _ fun z H4 e4 r4 => ⟨b, c, r3, r4, hq' _ H4 (e2.trans (e3.trans e4)) rfl⟩
    | false =>
      rw [h] at hq'
      exact hq' _ H3 (e2.trans e3) rfl⟩
end
end G
namespace G
open PySem PySem.Spec PyProof.Rows L2
section
variable {K : PySem.W.Frag} {E : XK} {σ : L2.St} {H0 F H : Hp} {D : Ends} {te : TE} {α β γ : Type} [Rp α] [Rp β] [Rp γ]
/-- a pair that is new, its first part a list that becomes ours -/
theorem s_asgP0 [Sc α] [Sc β] {i : Nat} {m : R (List α × β)} {k : List α × β → R γ} {kk : γ → Prop} (he : Gr K E te σ nil0 H m) (hF : Same F H) (e0 : Same H0 H) (hQ : Wp (R.bd m k) kk (EE K E H0))
    (c : ∀ a b q p F' H', Nx0 F H F' H' → Same H0 H' → Own K H0 false F' H' p a → (∀ z, (∃ u, H z = some u) → z ≠ p) → F' q = some (.tup [.ref p, Sc.enc b]) → Wp (k (a, b)) kk (EE K E H0) → D.nx (σ.set i (some (.ref q))) H') : tAsg te (gName i) D σ H := by
  refine he H (Same.refl _) _ ?_
  rw [wp_bd] at hQ
  refine wp_mono hQ (fun a _ z v H2 e2 r => ?_) fun c _ z => z.mono e0
  obtain ⟨q, x, y, rfl, hq, ⟨p, vs, rfl, hp, hv⟩, r2⟩ := r
  have h2 := Sc.is.mp r2
  subst h2
  have pn : H p = none ∧ H2 p = some (.lst vs) := by
    rcases mix_cases hp with z | ⟨_, z⟩ | ⟨_, _, _, z⟩
    · exact z
    · cases z
    · cases z
  obtain ⟨hpn, hp2⟩ := pn
  have hq2 := mix_same nil_same e2 _ _ hq
  have qp : q ≠ p := fun z => by rw [z, hp2] at hq2; cases hq2
  refine c a.1 a.2 q p (delH (mix F H H2) p) H2 ⟨fun x o h => ?_, fun x o _ h => e2 x o h, fun x o h => ?_, fun x o t h n => ?_, fun x o h => ⟨o, e2 x o h, rfl⟩⟩ (e0.trans e2) (Own.of (Same.free e0 hpn) delH_same hp2 (hv.mono fun _ _ x => Sc.is.mpr (Sc.is.mp x))) (fun z ⟨u, hu⟩ e => by rw [e, hpn] at hu; cases hu) (by rw [delH_ne qp]; exact mix_ff nil_same _ _ hq) z
  · have : x ≠ p := fun z => by
      rw [z] at h
      have := hF p o h
      rw [hpn] at this
      cases this
    rw [delH_ne this]
    exact same_mix hF x o h
  · unfold delH at h
    split at h
    · cases h
    · exact mix_same hF e2 x o h
  · unfold delH
    split
    · rfl
    · rw [mix_old h t]
      exact n
theorem at_fst {i : Nat} {p q : Addr} {y : V} (h : σ[i]? = some (some (.ref q))) (ht : H q = some (.tup [.ref p, y])) : At (tOp (rIxT K) (tVar i) (tC (.int 0))) σ H p := fun H1 e Q z => ⟨_, h, q, _, 0, _, rfl, rfl, SqT.of (e _ _ ht), rfl, z⟩
theorem own_pair [Sc β] {q p : Addr} {a : List α} {b : β} {fl : Bool} (ht : F q = some (.tup [.ref p, Sc.enc b])) (o : Own K H0 fl F H p a) (hF : Same F H) : Rp.rep K H (.ref q) (a, b) :=
  ⟨q, _, _, rfl, hF _ _ ht, o.rep hF, Sc.is.mpr rfl⟩
end
end G

set_option Elab.async false
set_option linter.all false
set_option maxRecDepth 100000
set_option maxHeartbeats 4000000
/-! G: more forms. -/
namespace G
open PySem PySem.Spec PyProof.Rows L2
section
variable {X : Cx} {K : PySem.W.Frag} {E : XK} {σ : L2.St} {H0 F H : Hp} {ta tb : TE}
theorem cr_range1 : CallR X (.type "range") (fun vs H Q => ∃ j, vs = [V.int j] ∧ ∀ p, H p = none → Q (.ref p) (upd H p (.rng 0 j))) := by
  intro pins s σ H vs us Q I r h
  obtain ⟨j, rfl, q⟩ := h
  obtain ⟨u, rfl, rj⟩ := vals1 r
  obtain ⟨t, rfl⟩ := rj
  refine call_range_1 ⟨.ref s.heap.objs.size, upd H s.heap.objs.size (.rng 0 j), I.laid (t' := _) (fun b o e => Heap.get?_push_of_some _ e) (Nat.le_refl _) ?_, rfl, q _ (I.hok.fresh (Nat.le_refl _))⟩
  exact ⟨_, _, _, Heap.get?_push_size _ rfl⟩
abbrev rRg1 : List V → Hp → VK → Prop := fun vs H Q => ∃ j, vs = [V.int j] ∧ ∀ p, H p = none → Q (.ref p) (upd H p (.rng 0 j))
abbrev rInRg : R2 := fun x y H Q => ∃ i a lo hi, x = V.int i ∧ y = V.ref a ∧ H a = some (.rng lo hi) ∧ Q (.bl (decide (lo ≤ i ∧ i < hi))) H
abbrev rNotInRg : R2 := fun x y H Q => ∃ i a lo hi, x = V.int i ∧ y = V.ref a ∧ H a = some (.rng lo hi) ∧ Q (.bl (!decide (lo ≤ i ∧ i < hi))) H
theorem op_notIn_rng : OpR X (compareOp .NotIn) rNotInRg := by
  intro pins s σ H x y v u Q I rx ry h
  obtain ⟨i, a, lo, hi, rfl, rfl, ha, q⟩ := h
  obtain ⟨k, rfl⟩ := rx
  obtain rfl : u = Value.ref a := ry
  obtain ⟨t1, t2, t3, ho⟩ := I.hok a _ ha
  show wpAny _ _ (do return Value.bool (!(← contains (Value.ref a) (Value.int i k)))) _ _ s
  refine wpAny_bind (wpAny_contains_slot (T := "range") ⟨_, ho, rfl⟩ F.slot_range_contains (call_meets F.slot_range_contains ⟨_, ho, rfl⟩ F.entry_range_contains (F.args_range_contains_2 _ _) (q_contains a lo hi i t1 t2 t3 k)
    ⟨ho, wpAny_truthy_bool (wpAny_pure ⟨.bl _, H, I, rfl, ?_⟩)⟩))
  rw [place1]
  exact q
/-- x in range(n) -/
theorem g_inRg {ma mb : R Int} (ha : Gr K E ta σ H H ma) (hb : Gr K E tb σ H H mb) : Gr K E (tOp rInRg ta (tCB rRg1 (tCons tb tNil))) σ F H (R.bd ma fun i => R.bd mb fun j => .ok (decide (0 ≤ i ∧ i < j))) := fun H1 e Q hq =>
  gr_seq (g_sc (F' := H) ha) e hq fun i v H2 e2 r hq2 => gr_seq (g_sc (F' := H) hb) (e.trans e2) hq2 fun j w H3 e3 r3 hq3 => by
    have r' : v = .int i := r
    have r3' : w = .int j := r3
    subst r'; subst r3'
    exact ⟨j, rfl, fun p hp => ⟨i, p, 0, j, rfl, rfl, upd_same, hq3 _ _ (same_upd hp) rfl⟩⟩
theorem g_notInRg {ma mb : R Int} (ha : Gr K E ta σ H H ma) (hb : Gr K E tb σ H H mb) : Gr K E (tOp rNotInRg ta (tCB rRg1 (tCons tb tNil))) σ F H (R.bd ma fun i => R.bd mb fun j => .ok (!decide (0 ≤ i ∧ i < j))) := fun H1 e Q hq =>
  gr_seq (g_sc (F' := H) ha) e hq fun i v H2 e2 r hq2 => gr_seq (g_sc (F' := H) hb) (e.trans e2) hq2 fun j w H3 e3 r3 hq3 => by
    have r' : v = .int i := r
    have r3' : w = .int j := r3
    subst r'; subst r3'
    exact ⟨j, rfl, fun p hp => ⟨i, p, 0, j, rfl, rfl, upd_same, hq3 _ _ (same_upd hp) rfl⟩⟩
/-! ### functions that may tell what they were handed -/
variable {α β γ δ ρ : Type} [Rp α] [Rp β] [Rp γ] [Rp δ] [Rp ρ] {D : Ends} {te tc td : TE} {Gz : Hp} {Ex : L2.St → XK}
abbrev KS (K : PySem.W.Frag) (Gz H : Hp) (Q : VK) : ρ → Prop := fun r => ∀ v' H', Same H H' → Rp.rep K (mix Gz H H') v' r → Q v' H'
theorem mix_back {F1 H1 H2 : Hp} (hF : Same F1 H1) (e0 : Same H0 H1) (e2 : Same H1 H2) (n : Nx (fun _ => False) Gz H0 F1 H1) : Same (mix F1 H1 H2) (mix Gz H0 H2) := fun b o h => by
  rcases mix_cases h with ⟨z, h⟩ | ⟨z, t⟩ | ⟨u, z, t, h⟩
  · rw [mix_new (Same.free e0 z)]
    exact h
  · cases z0 : H0 b with
    | none => rw [mix_new z0]; exact e2 b o z
    | some u0 =>
      have := e0 b u0 z0
      rw [z] at this
      cases this
      exact mix_tup z0 t
  · cases z0 : H0 b with
    | none => rw [mix_new z0]; exact e2 b o (hF b o h)
    | some u0 =>
      have := e0 b u0 z0
      rw [z] at this
      cases this
      rw [mix_old z0 t]
      cases g : Gz b with
      | none =>
        have := n.own b u t z0 g
        rw [this] at h
        cases h
      | some o1 =>
        have := n.ff b o1 g
        rw [this] at h
        exact h
theorem s_retS {m : R α} {k : α → R β} {kk : β → Prop} (he : Gr K E te σ F H m) (hF : Same F H) (e0 : Same H0 H) (n : Nx (fun _ => False) Gz H0 F H) (hQ : Wp (R.bd m k) kk (EE K E H0)) (hk : ∀ a, Wp (k a) kk (EE K E H0) → KS K Gz H0 D.rt a) : tRet te D σ H := by
  refine he H (Same.refl _) _ ?_
  rw [wp_bd] at hQ
  exact wp_mono hQ (fun a _ q v H2 e2 r => hk a q v H2 (e0.trans e2) (Rp.mono (mix_back hF e0 e2 n) r)) fun c _ z => z.mono e0
theorem mix_mix {F H H2 H3 : Hp} (e : Same H H2) (e3 : Same H2 H3) : Same (mix (mix F H H2) H2 H3) (mix F H H3) := fun b o h => by
  rcases mix_cases h with ⟨z, h⟩ | ⟨z, t⟩ | ⟨u, z, t, h⟩
  · rw [mix_new (Same.free e z)]
    exact h
  · cases z0 : H b with
    | none => rw [mix_new z0]; exact e3 b o z
    | some u0 =>
      have := e b u0 z0
      rw [z] at this
      cases this
      exact mix_tup z0 t
  · exact mix_mono e3 b o h
def spS1 (K : PySem.W.Frag) (f : α → R ρ) : Sp := fun vs H Q E => ∃ v a Gz, vs = [v] ∧ Same Gz H ∧ Rp.rep K Gz v a ∧ Wp (f a) (KS K Gz H Q) (EE K E H)
def spS2 (K : PySem.W.Frag) (f : α → β → R ρ) : Sp := fun vs H Q E => ∃ v w a b Gz, vs = [v, w] ∧ Same Gz H ∧ Rp.rep K Gz v a ∧ Rp.rep K Gz w b ∧ Wp (f a b) (KS K Gz H Q) (EE K E H)
def spS3 (K : PySem.W.Frag) (f : α → β → γ → R ρ) : Sp := fun vs H Q E => ∃ v w x a b c Gz, vs = [v, w, x] ∧ Same Gz H ∧ Rp.rep K Gz v a ∧ Rp.rep K Gz w b ∧ Rp.rep K Gz x c ∧ Wp (f a b c) (KS K Gz H Q) (EE K E H)
theorem g_callS1 {f : α → R ρ} {ma : R α} (ha : Gr K E ta σ F H ma) (hF : Same F H) (hE : Ex σ = E := by rfl) : Gr K E (tCallS (spS1 K f) Ex (tCons ta tNil)) σ F H (R.bd ma f) := by
  subst hE
  exact fun H1 e Q hq =>
  gr_seq ha e hq fun a v H2 e2 r hq2 => ⟨v, a, mix F H H2, rfl, mix_same hF (e.trans e2), r, wp_mono hq2 (fun b _ k v' H3 e3 r3 => k v' H3 e3 (Rp.mono (mix_mix (e.trans e2) e3) r3)) fun c _ z => z⟩
theorem g_callS2 {f : α → β → R ρ} {ma : R α} {mb : R β} (ha : Gr K E ta σ F H ma) (hb : Gr K E tb σ F H mb) (hF : Same F H) (hE : Ex σ = E := by rfl) : Gr K E (tCallS (spS2 K f) Ex (tCons ta (tCons tb tNil))) σ F H (R.bd ma fun a => R.bd mb fun b => f a b) := by
  subst hE
  exact fun H1 e Q hq =>
  gr_seq ha e hq fun a v H2 e2 r hq2 => gr_seq hb (e.trans e2) hq2 fun b w H3 e3 r3 hq3 => ⟨v, w, a, b, mix F H H3, rfl, mix_same hF (e.trans (e2.trans e3)), Rp.mono (mix_mono e3) r, r3, wp_mono hq3 (fun b _ k v' H4 e4 r4 => k v' H4 e4 (Rp.mono (mix_mix (e.trans (e2.trans e3)) e4) r4)) fun c _ z => z⟩
theorem g_callS3 {f : α → β → γ → R ρ} {ma : R α} {mb : R β} {mc : R γ} (ha : Gr K E ta σ F H ma) (hb : Gr K E tb σ F H mb) (hc : Gr K E tc σ F H mc) (hF : Same F H) (hE : Ex σ = E := by rfl) :
    Gr K E (tCallS (spS3 K f) Ex (tCons ta (tCons tb (tCons tc tNil)))) σ F H (R.bd ma fun a => R.bd mb fun b => R.bd mc fun c => f a b c) := by
  subst hE
  exact fun H1 e Q hq =>
  gr_seq ha e hq fun a v H2 e2 r hq2 => gr_seq hb (e.trans e2) hq2 fun b w H3 e3 r3 hq3 => gr_seq hc (e.trans (e2.trans e3)) hq3 fun c x H4 e4 r4 hq4 =>
    ⟨v, w, x, a, b, c, mix F H H4, rfl, mix_same hF (e.trans (e2.trans (e3.trans e4))), Rp.mono ((mix_mono e3).trans (mix_mono e4)) r, Rp.mono (mix_mono e4) r3, r4, wp_mono hq4 (fun b _ k v' H5 e5 r5 => k v' H5 e5 (Rp.mono (mix_mix (e.trans (e2.trans (e3.trans e4))) e5) r5)) fun c _ z => z⟩
/-! ### a list and the script -/
abbrev rCatL (K : PySem.W.Frag) : R2 := fun x y H Q => ∃ l b xs zs, x = .ref l ∧ y = .ref b ∧ SqL K H l xs ∧ SqL K H b zs ∧ xs.length + zs.length ≤ sizeLine ∧ ∀ p, H p = none → Q (.ref p) (upd H p (.lst (xs ++ zs)))
theorem op_catL : OpR X (binaryOp .Add) (rCatL X.K) := by
  intro pins s σ H x y v u Q I rx ry h
  obtain ⟨l, b, xs, zs, rfl, rfl, hH, hB, hz, q⟩ := h
  cases rx
  cases ry
  obtain ⟨its, r, ⟨⟨cls, dd, data, sl⟩, n, ho, hc, hdd, hd⟩, _⟩ := I.list hH
  obtain ⟨its2, r2, ⟨⟨cls2, dd2, data2, sl2⟩, n2, ho2, hc2, hdd2, hd2⟩, _⟩ := I.list hB
  simp only at hc hd hc2 hd2 hdd hdd2
  subst hc hd hc2 hd2 hdd hdd2
  have e : its.toArray ++ its2.toArray = (its ++ its2).toArray := by simp
  have hsz : its.toArray.size + its2.toArray.size ≤ sizeLine := by
    rw [List.size_toArray, List.size_toArray, ← r.length, ← r2.length]
    exact hz
  refine concat_meets ⟨_, ho, rfl⟩ ⟨_, ho2, rfl⟩ noFill_list_add seq_list_add PySem.F.slot_list_add PySem.F.entry_list_add (PySem.F.args_list_add_2 _ _) (list_addW l b its.toArray its2.toArray n n2 none none sl sl2 hsz) ⟨ho, ho2, ?_⟩
  rw [e]
  exact ⟨.ref _, _, I.lnew (t' := s.toks) (r.append r2) (by rw [List.length_append]; omega), rfl, q _ I.fresh⟩
theorem g_catScr {ma : R (List Int)} {mb : R Scr} (ha : Gr K E ta σ H H ma) (hb : Gr K E tb σ H H mb) : Gr K E (tOp (rCatL K) ta tb) σ F H (R.bd ma fun a => R.bd mb fun b => gd (a.length + b.l.length ≤ lim) (.ok (a ++ b.l))) := fun H1 e Q hq =>
  gr_arg ha e hq fun a v H2 e2 r hq2 => gr_arg hb (e.trans e2) hq2 fun b w H3 e3 r3 hq3 => by
    obtain ⟨p, vs, rfl, hp, hv⟩ := r
    obtain ⟨p2, rfl, hp2⟩ := r3
    have hv' := rep_ints hv
    subst hv'
    unfold gd at hq3
    split at hq3
    · rename_i c
      refine ⟨p, p2, _, _, rfl, rfl, SqL.of (e3 p _ hp), hp2, lim_line (by rw [List.length_map, List.length_map]; exact c), fun l hl => ?_⟩
      refine hq3 _ _ (same_upd hl) ⟨l, (a ++ b.l).map V.int, rfl, ?_, ints_rep _⟩
      rw [mix_new (Same.free (e.trans (e2.trans e3)) hl), List.map_append]
      exact upd_same
    · exact hq3.elim
/-! ### xs.count(y), xs.index(y) -/
theorem cnt_eqU {x : V} : ∀ {xs : List V} {us : List Value}, Vals xs us → xs.all flatV = true → us.countP (eqU x) = xs.countP fun y => eqV y x
  | _, _, .nil, _ => rfl
  | y :: xs, u :: us, .cons r t, f => by
    rw [List.all_cons, Bool.and_eq_true] at f
    rw [List.countP_cons, List.countP_cons, eqU_of r f.1, cnt_eqU t f.2]
def rCntV (K : PySem.W.Frag) : V → List V → Hp → VK → Prop := fun x xs H Q => ∃ p ys y, x = .ref p ∧ xs = [y] ∧ SqL K H p ys ∧ flatV y = true ∧ ys.all flatV = true ∧ Q (.int ((ys.countP fun z => eqV z y : Nat) : Int)) H
theorem mt_countV : MtR X "list.count" (rCntV X.K) := by
  intro pins s σ H x xs v us Q I rx rxs h
  obtain ⟨p, ys, y, rfl, rfl, hs, fy, fys, q⟩ := h
  cases rx
  obtain ⟨u, rfl, ru⟩ := rxs.one
  obtain ⟨its, rv, ⟨⟨cls, dd, data, sl⟩, n, ho, hc, hdn, hd⟩, hlen⟩ := I.list hs
  simp only at hc hd
  subst hc hd
  refine call_meets PySem.F.slot_list_count ⟨_, ho, rfl⟩ PySem.F.entry_list_count (PySem.F.args_list_count_2 _ _)
    (SeqAt.list_countAt p its.toArray n dd sl u (eqU y)) ⟨ho, fun w hw => mem_eqAt ru fy rv fys w (by simpa using hw), ?_⟩
  have ec : its.toArray.toList.countP (eqU y) = ys.countP fun z => eqV z y := by simpa using cnt_eqU rv fys
  refine ⟨.int ((ys.countP fun z => eqV z y : Nat) : Int), H, I.tok _, ⟨s.toks, ?_⟩, q⟩
  show Value.int ((its.toArray.toList.countP (eqU y) : Nat) : Int) s.toks = Value.int _ s.toks
  rw [ec]
theorem eqV_bl (a b : Bool) : eqV (Sc.enc a) (Sc.enc b) = decide (a = b) := by
  show eqV (V.bl a) (V.bl b) = decide (a = b)
  simp only [eqV]
  exact Bool.beq_eq_decide_eq a b
theorem g_count [Sc α] [DecidableEq α] {ma : R (List α)} {mb : R α} (ha : Gr K E ta σ H H ma) (hb : Gr K E tb σ H H mb) (hv : ∀ (a b : α), eqV (Sc.enc a) (Sc.enc b) = decide (a = b)) :
    Gr K E (tBM K "list" (rCntV K) ta (tCons tb tNil)) σ F H (R.bd ma fun xs => R.bd mb fun y => .ok ((xs.count y : Nat) : Int)) := fun H1 e Q hq =>
  gr_arg ha e hq fun xs v H2 e2 r hq2 => by
    obtain ⟨p, vs, rfl, hp, hw⟩ := r
    have h2 : vs = xs.map Sc.enc := hw.map Sc.enc fun _ _ => Sc.is
    subst h2
    refine ⟨.inl ⟨rfl, _, SqL.of hp⟩, ?_⟩
    refine gr_arg hb (e.trans e2) hq2 fun y w H3 e3 r3 hq3 => ?_
    have h3 := Sc.is.mp r3
    subst h3
    refine ⟨p, _, _, rfl, rfl, SqL.of (e3 p _ hp), Sc.flat y, ?_, ?_⟩
    · rw [List.all_map]
      exact List.all_eq_true.mpr fun x _ => Sc.flat x
    · have : ((xs.map Sc.enc).countP fun z => eqV z (Sc.enc y)) = xs.count y := by
        rw [List.countP_map]
        unfold List.count
        congr 1
        funext z
        show eqV (Sc.enc z) (Sc.enc y) = (z == y)
        rw [hv]
        rfl
      rw [this]
      exact hq3 _ H3 (Same.refl _) rfl
def indexR {α : Type} [DecidableEq α] (xs : List α) (y : α) : R Int := match xs.findIdx? (fun z => decide (z = y)) with
  | some j => .ok (j : Int)
  | none => .bad
theorem g_index [Sc α] [DecidableEq α] {ma : R (List α)} {mb : R α} (ha : Gr K E ta σ H H ma) (hb : Gr K E tb σ H H mb) (hv : ∀ (a b : α), eqV (Sc.enc a) (Sc.enc b) = decide (a = b)) :
    Gr K E (tBM K "list" (rIndex K) ta (tCons tb tNil)) σ F H (R.bd ma fun xs => R.bd mb fun y => indexR xs y) := fun H1 e Q hq =>
  gr_arg ha e hq fun xs v H2 e2 r hq2 => by
    obtain ⟨p, vs, rfl, hp, hw⟩ := r
    have h2 : vs = xs.map Sc.enc := hw.map Sc.enc fun _ _ => Sc.is
    subst h2
    refine ⟨.inl ⟨rfl, _, SqL.of hp⟩, ?_⟩
    refine gr_arg hb (e.trans e2) hq2 fun y w H3 e3 r3 hq3 => ?_
    have h3 := Sc.is.mp r3
    subst h3
    unfold indexR at hq3
    cases hj : xs.findIdx? (fun z => decide (z = y)) with
    | none => rw [hj] at hq3; exact hq3.elim
    | some j =>
      rw [hj] at hq3
      obtain ⟨hl, h1, h2⟩ := List.findIdx?_eq_some_iff_getElem.mp hj
      refine ⟨p, _, _, j, Sc.enc xs[j], rfl, rfl, SqL.of (e3 p _ hp), Sc.flat y, ?_, ?_, ?_, fun m z hm hz => ?_, hq3 _ H3 (Same.refl _) rfl⟩
      · rw [List.all_map]
        exact List.all_eq_true.mpr fun x _ => Sc.flat x
      · rw [List.getElem?_map, List.getElem?_eq_getElem hl]
        rfl
      · rw [hv]
        exact h1
      · rw [List.getElem?_map, List.getElem?_eq_getElem (by omega)] at hz
        cases hz
        rw [hv]
        have := h2 m hm
        simpa using this
theorem g_sumS {m : R Scr} (h : Gr K E ta σ F H m) (hF : Same F H) : Gr K E (tCB (rSum K) (tCons ta tNil)) σ F H (R.bd m fun xs => .ok xs.l.sum) := fun H1 e Q hq =>
  gr_seq h e hq fun xs v H2 e2 r hq2 => by
    obtain ⟨p, rfl, hp⟩ := r
    exact ⟨p, xs.l, rfl, (mix_same hF (e.trans e2)).seq hp, hq2 _ H2 (Same.refl _) rfl⟩
/-! ### a list unpacked to two or three names -/
def lst2 {α : Type} : List α → R (α × α)
  | [a, b] => .ok (a, b)
  | _ => .bad
def lst3 {α : Type} : List α → R (T3 α α α)
  | [a, b, c] => .ok ⟨a, b, c⟩
  | _ => .bad
theorem s_unpL2 [Sc α] {i j : Nat} {m : R (List α)} {k : α × α → R γ} {kk : γ → Prop} (he : Gr K E te σ F H m) (hF : Same F H) (e0 : Same H0 H) (hQ : Wp (R.bd (R.bd m lst2) k) kk (EE K E H0))
    (c : ∀ a b F' H', Nx0 F H F' H' → Same H0 H' → Wp (k (a, b)) kk (EE K E H0) → D.nx ((σ.set i (some (Sc.enc a))).set j (some (Sc.enc b))) H') : tAsg te (gLst K 2 (gCons (gName i) (gCons (gName j) gNil))) D σ H := by
  refine he H (Same.refl _) _ ?_
  rw [bd_assoc, wp_bd] at hQ
  refine wp_mono hQ (fun l _ q v H2 e2 r => ?_) fun c _ z => z.mono e0
  obtain ⟨p, vs, rfl, hp, hw⟩ := r
  have h2 : vs = l.map Sc.enc := hw.map Sc.enc fun _ _ => Sc.is
  subst h2
  match l, q, hp with
  | [a, b], q, hp => exact ⟨p, _, rfl, SqL.of (mix_same hF e2 p _ hp), rfl, _, _, rfl, _, _, rfl, rfl, c a b _ H2 (Nx.mk' hF e2) (e0.trans e2) q⟩
  | [], q, _ => exact q.elim
  | [_], q, _ => exact q.elim
  | _ :: _ :: _ :: _, q, _ => exact q.elim
theorem s_unpL3 [Sc α] {i j l : Nat} {m : R (List α)} {k : T3 α α α → R γ} {kk : γ → Prop} (he : Gr K E te σ F H m) (hF : Same F H) (e0 : Same H0 H) (hQ : Wp (R.bd (R.bd m lst3) k) kk (EE K E H0))
    (c : ∀ a b d F' H', Nx0 F H F' H' → Same H0 H' → Wp (k ⟨a, b, d⟩) kk (EE K E H0) → D.nx (((σ.set i (some (Sc.enc a))).set j (some (Sc.enc b))).set l (some (Sc.enc d))) H') : tAsg te (gLst K 3 (gCons (gName i) (gCons (gName j) (gCons (gName l) gNil)))) D σ H := by
  refine he H (Same.refl _) _ ?_
  rw [bd_assoc, wp_bd] at hQ
  refine wp_mono hQ (fun xs _ q v H2 e2 r => ?_) fun c _ z => z.mono e0
  obtain ⟨p, vs, rfl, hp, hw⟩ := r
  have h2 : vs = xs.map Sc.enc := hw.map Sc.enc fun _ _ => Sc.is
  subst h2
  match xs, q, hp with
  | [a, b, d], q, hp => exact ⟨p, _, rfl, SqL.of (mix_same hF e2 p _ hp), rfl, _, _, rfl, _, _, rfl, _, _, rfl, rfl, c a b d _ H2 (Nx.mk' hF e2) (e0.trans e2) q⟩
  | [], q, _ => exact q.elim
  | [_], q, _ => exact q.elim
  | [_, _], q, _ => exact q.elim
  | _ :: _ :: _ :: _ :: _, q, _ => exact q.elim
end
end G

set_option Elab.async false
set_option linter.all false
set_option maxRecDepth 100000
set_option maxHeartbeats 4000000
/-! G: values of several kinds. -/
namespace G
open PySem PySem.Spec PyProof.Rows L2
/-- data of any kind -/
inductive Dy where
  | non
  | bl (b : Bool)
  | int (n : Int)
  | str (s : Str)
  | lst (l : List Dy)
  | tup (l : List Dy)
mutual
def dyR (H : Hp) : Dy → V → Prop
  | .non, v => v = .non
  | .bl b, v => v = .bl b
  | .int n, v => v = .int n
  | .str s, v => v = .str s
  | .lst l, v => ∃ p vs, v = .ref p ∧ H p = some (.lst vs) ∧ dyRs H l vs
  | .tup l, v => ∃ p vs, v = .ref p ∧ H p = some (.tup vs) ∧ dyRs H l vs
def dyRs (H : Hp) : List Dy → List V → Prop
  | [], vs => vs = []
  | d :: l, vs => ∃ v r, vs = v :: r ∧ dyR H d v ∧ dyRs H l r
end
mutual
theorem dyR_mono {H H' : Hp} (e : Same H H') : ∀ {d : Dy} {v : V}, dyR H d v → dyR H' d v
  | .non, _, h => h
  | .bl _, _, h => h
  | .int _, _, h => h
  | .str _, _, h => h
  | .lst _, _, ⟨p, vs, h1, h2, h3⟩ => ⟨p, vs, h1, e _ _ h2, dyRs_mono e h3⟩
  | .tup _, _, ⟨p, vs, h1, h2, h3⟩ => ⟨p, vs, h1, e _ _ h2, dyRs_mono e h3⟩
theorem dyRs_mono {H H' : Hp} (e : Same H H') : ∀ {l : List Dy} {vs : List V}, dyRs H l vs → dyRs H' l vs
  | [], _, h => h
  | _ :: _, _, ⟨v, r, h1, h2, h3⟩ => ⟨v, r, h1, dyR_mono e h2, dyRs_mono e h3⟩
end
instance : Rp Dy where
  rep _ H v d := dyR H d v
  mono e h := dyR_mono e h
theorem dyRs_all {K : PySem.W.Frag} {H : Hp} : ∀ {l : List Dy} {vs : List V}, dyRs H l vs → All2 (Rp.rep K H) vs l
  | [], _, h => by
    have h' : _ = [] := h
    subst h'
    exact .nil
  | _ :: _, _, ⟨v, r, h1, h2, h3⟩ => by
    subst h1
    exact .cons h2 (dyRs_all h3)
theorem all_dyRs {K : PySem.W.Frag} {H : Hp} : ∀ {l : List Dy} {vs : List V}, All2 (Rp.rep K H) vs l → dyRs H l vs
  | [], _, .nil => rfl
  | _ :: _, _, .cons r t => ⟨_, _, rfl, r, all_dyRs t⟩
/-! True is 1, False is 0 -/
mutual
def Dy.nm : Dy → Dy
  | .non => .non
  | .bl b => .int (if b = true then 1 else 0)
  | .int n => .int n
  | .str s => .str s
  | .lst l => .lst (nms l)
  | .tup l => .tup (nms l)
def nms : List Dy → List Dy
  | [] => []
  | d :: l => d.nm :: nms l
end
mutual
def Dy.dp : Dy → Nat
  | .lst l => dps l + 1
  | .tup l => dps l + 1
  | _ => 0
def dps : List Dy → Nat
  | [] => 0
  | d :: l => max d.dp (dps l)
end
mutual
def Dy.pd : Dy → PyData
  | .non => .none
  | .bl b => .bool b
  | .int n => .int n
  | .str s => .str s
  | .lst l => .list (pds l)
  | .tup l => .tuple (pds l)
def pds : List Dy → List PyData
  | [] => []
  | d :: l => d.pd :: pds l
end
mutual
theorem dy_dp {K : PySem.W.Frag} {H : Hp} : ∀ {d : Dy} {v : V}, dyR H d v → Dp K H v d.pd
  | .non, _, h => by rw [show _ = V.non from h]; exact .non
  | .bl b, _, h => by rw [show _ = V.bl b from h]; exact .bl b
  | .int n, _, h => by rw [show _ = V.int n from h]; exact .int n
  | .str s, _, h => by rw [show _ = V.str s from h]; exact .str s
  | .lst _, _, ⟨p, vs, h1, h2, h3⟩ => by rw [h1]; exact .lst (SqL.of h2) (dys_dp h3)
  | .tup _, _, ⟨p, vs, h1, h2, h3⟩ => by rw [h1]; exact .tup (SqT.of h2) (dys_dp h3)
theorem dys_dp {K : PySem.W.Frag} {H : Hp} : ∀ {l : List Dy} {vs : List V}, dyRs H l vs → DpAll K H vs (pds l)
  | [], _, h => by rw [show _ = [] from h]; exact .nil
  | _ :: _, _, ⟨v, r, h1, h2, h3⟩ => by rw [h1]; exact .cons (dy_dp h2) (dys_dp h3)
end
mutual
theorem dy_lay : ∀ d : Dy, d.pd.plain = true
  | .non => rfl
  | .bl _ => rfl
  | .int _ => rfl
  | .str _ => rfl
  | .lst l => dys_lay l
  | .tup l => dys_lay l
theorem dys_lay : ∀ l : List Dy, PyData.plainAll (pds l) = true
  | [] => rfl
  | d :: l => by
    show (PyData.plain d.pd && PyData.plainAll (pds l)) = true
    rw [dy_lay d, dys_lay l]
    rfl
end
mutual
theorem dy_deep : ∀ d : Dy, d.pd.depth = d.dp
  | .non => by simp [Dy.pd, PyData.depth, Dy.dp]
  | .bl _ => by simp [Dy.pd, PyData.depth, Dy.dp]
  | .int _ => by simp [Dy.pd, PyData.depth, Dy.dp]
  | .str _ => by simp [Dy.pd, PyData.depth, Dy.dp]
  | .lst l => by
    have := dys_deep l
    simp only [Dy.pd, PyData.depth, Dy.dp]
    omega
  | .tup l => by
    have := dys_deep l
    simp only [Dy.pd, PyData.depth, Dy.dp]
    omega
theorem dys_deep : ∀ l : List Dy, PyData.depthAll (pds l) = dps l
  | [] => by simp [pds, PyData.depthAll, dps]
  | d :: l => by
    have h1 := dy_deep d
    have h2 := dys_deep l
    simp only [pds, PyData.depthAll, dps]
    omega
end
mutual
theorem dy_eqv : ∀ a b : Dy, PyData.eqv a.pd b.pd = true ↔ a.nm = b.nm
  | .non, b => by cases b <;> simp [Dy.pd, Dy.nm, PyData.eqv]
  | .bl x, b => by
    cases b with
    | bl y => cases x <;> cases y <;> simp [Dy.pd, Dy.nm, PyData.eqv]
    | _ => simp [Dy.pd, Dy.nm, PyData.eqv]
  | .int x, b => by cases b <;> simp [Dy.pd, Dy.nm, PyData.eqv]
  | .str x, b => by cases b <;> simp [Dy.pd, Dy.nm, PyData.eqv]
  | .lst x, b => by
    cases b with
    | lst y => simp only [Dy.pd, Dy.nm, PyData.eqv, dys_eqv x y, Dy.lst.injEq]
    | _ => simp [Dy.pd, Dy.nm, PyData.eqv]
  | .tup x, b => by
    cases b with
    | tup y => simp only [Dy.pd, Dy.nm, PyData.eqv, dys_eqv x y, Dy.tup.injEq]
    | _ => simp [Dy.pd, Dy.nm, PyData.eqv]
theorem dys_eqv : ∀ a b : List Dy, PyData.eqvAll (pds a) (pds b) = true ↔ nms a = nms b
  | [], [] => by simp [pds, nms, PyData.eqvAll]
  | [], _ :: _ => by simp [pds, nms, PyData.eqvAll]
  | _ :: _, [] => by simp [pds, nms, PyData.eqvAll]
  | x :: r, y :: s => by simp only [pds, nms, PyData.eqvAll, Bool.and_eq_true, dy_eqv x y, dys_eqv r s, List.cons.injEq]
end
open Classical in
noncomputable def eqDy (a b : Dy) : R Bool := gd (min a.dp b.dp ≤ 60) (.ok (decide (a.nm = b.nm)))
/-! ### what is data -/
class DyN (α : Type) [Rp α] where
  dy : α → Dy
  to : ∀ {K : PySem.W.Frag} {H : Hp} {v : V} {a : α}, Rp.rep K H v a → dyR H (dy a) v
  un : Dy → Option α
  of : ∀ {K : PySem.W.Frag} {H : Hp} {v : V} {d : Dy} {a : α}, dyR H d v → un d = some a → Rp.rep K H v a
class DyC (α : Type) [Rp α] [DyN α] where
  un_dy : ∀ a : α, DyN.un (DyN.dy a) = some a
  dep : Nat
  deep : ∀ a : α, (DyN.dy a).dp ≤ dep
  inj : ∀ {a b : α}, (DyN.dy a).nm = (DyN.dy b).nm → a = b
instance : DyN Int := ⟨.int, fun h => h, fun d => match d with | .int n => some n | _ => none, fun {K H v d a} h e => by
  cases d <;> simp at e
  subst e
  exact h⟩
instance : DyC Int := ⟨fun _ => rfl, 0, fun _ => Nat.le_of_eq (by simp [DyN.dy, Dy.dp]), fun h => by simpa [DyN.dy, Dy.nm] using h⟩
instance : DyN Bool := ⟨.bl, fun h => h, fun d => match d with | .bl n => some n | _ => none, fun {K H v d a} h e => by
  cases d <;> simp at e
  subst e
  exact h⟩
instance : DyC Bool := ⟨fun _ => rfl, 0, fun _ => Nat.le_of_eq (by simp [DyN.dy, Dy.dp]), fun {a b} h => by cases a <;> cases b <;> simp [DyN.dy, Dy.nm] at h ⊢⟩
instance : DyN Str := ⟨.str, fun h => h, fun d => match d with | .str n => some n | _ => none, fun {K H v d a} h e => by
  cases d <;> simp at e
  subst e
  exact h⟩
instance : DyC Str := ⟨fun _ => rfl, 0, fun _ => Nat.le_of_eq (by simp [DyN.dy, Dy.dp]), fun h => by simpa [DyN.dy, Dy.nm] using h⟩
instance : DyN Unit := ⟨fun _ => .non, fun h => h, fun d => match d with | .non => some () | _ => none, fun {K H v d a} h e => by
  cases d <;> simp at e
  exact h⟩
instance : DyN Dy := ⟨fun d => d, fun h => h, some, fun {K H v d a} h e => by
  cases e
  exact h⟩
section
variable {α β γ : Type} [Rp α] [Rp β] [Rp γ] [DyN α] [DyN β] [DyN γ]
def unAll (un : Dy → Option α) : List Dy → Option (List α)
  | [] => some []
  | d :: l => match un d, unAll un l with
    | some a, some r => some (a :: r)
    | _, _ => none
theorem to_all {K : PySem.W.Frag} {H : Hp} : ∀ {vs : List V} {xs : List α}, All2 (Rp.rep K H) vs xs → dyRs H (xs.map DyN.dy) vs
  | _, _, .nil => rfl
  | _, _, .cons r t => ⟨_, _, rfl, DyN.to r, to_all t⟩
theorem of_all {K : PySem.W.Frag} {H : Hp} : ∀ {l : List Dy} {vs : List V} {xs : List α}, dyRs H l vs → unAll DyN.un l = some xs → All2 (Rp.rep K H) vs xs
  | [], vs, xs, h, e => by
    rw [show vs = [] from h, show xs = [] by simpa [unAll] using e.symm]
    exact .nil
  | d :: l, vs, xs, ⟨v, r, h1, h2, h3⟩, e => by
    subst h1
    unfold unAll at e
    cases q : (DyN.un d : Option α) with
    | none => rw [q] at e; simp at e
    | some a =>
      cases q2 : unAll (α := α) DyN.un l with
      | none => rw [q, q2] at e; simp at e
      | some t =>
        rw [q, q2] at e
        simp at e
        subst e
        exact .cons (DyN.of h2 q) (of_all h3 q2)
instance : DyN (List α) := ⟨fun xs => .lst (xs.map DyN.dy), fun {K H v a} ⟨p, vs, h1, h2, h3⟩ => ⟨p, vs, h1, h2, to_all h3⟩, fun d => match d with | .lst l => unAll DyN.un l | _ => none, fun {K H v d a} h e => by
  cases d with
  | lst l =>
    obtain ⟨p, vs, h1, h2, h3⟩ := h
    exact ⟨p, vs, h1, h2, of_all h3 e⟩
  | _ => simp at e⟩
instance : DyN (Tu α) := ⟨fun xs => .tup (xs.l.map DyN.dy), fun {K H v a} ⟨p, vs, h1, h2, h3⟩ => ⟨p, vs, h1, h2, to_all h3⟩, fun d => match d with | .tup l => (unAll DyN.un l).map Tu.mk | _ => none, fun {K H v d a} h e => by
  cases d with
  | tup l =>
    obtain ⟨p, vs, h1, h2, h3⟩ := h
    simp only [Option.map_eq_some_iff] at e
    obtain ⟨xs, q, rfl⟩ := e
    exact ⟨p, vs, h1, h2, of_all h3 q⟩
  | _ => simp at e⟩
instance : DyN (α × β) := ⟨fun t => .tup [DyN.dy t.1, DyN.dy t.2], fun {K H v a} ⟨p, x, y, h1, h2, h3, h4⟩ => ⟨p, _, h1, h2, x, _, rfl, DyN.to h3, y, _, rfl, DyN.to h4, rfl⟩, fun d => match d with
  | .tup [a, b] => match DyN.un a, DyN.un b with
    | some x, some y => some (x, y)
    | _, _ => none
  | _ => none, fun {K H v d t} h e => by
  rcases d with _ | _ | _ | _ | _ | l <;> try simp at e
  rcases l with _ | ⟨a, _ | ⟨b, _ | ⟨c, l⟩⟩⟩ <;> try simp at e
  obtain ⟨p, vs, h1, h2, x, r, rfl, h3, y, r2, rfl, h4, h5⟩ := h
  rw [show r2 = [] from h5] at h2
  cases q : (DyN.un a : Option α) with
  | none => rw [q] at e; simp at e
  | some a' =>
    cases q2 : (DyN.un b : Option β) with
    | none => rw [q, q2] at e; simp at e
    | some b' =>
      rw [q, q2] at e
      simp at e
      subst e
      exact ⟨p, x, y, h1, h2, DyN.of h3 q, DyN.of h4 q2⟩⟩
instance : DyN (T3 α β γ) := ⟨fun t => .tup [DyN.dy t.a, DyN.dy t.b, DyN.dy t.c], fun {K H v a} ⟨p, x, y, z, h1, h2, h3, h4, h5⟩ => ⟨p, _, h1, h2, x, _, rfl, DyN.to h3, y, _, rfl, DyN.to h4, z, _, rfl, DyN.to h5, rfl⟩, fun d => match d with
  | .tup [a, b, c] => match DyN.un a, DyN.un b, DyN.un c with
    | some x, some y, some z => some (T3.mk x y z)
    | _, _, _ => none
  | _ => none, fun {K H v d t} h e => by
  rcases d with _ | _ | _ | _ | _ | l <;> try simp at e
  rcases l with _ | ⟨a, _ | ⟨b, _ | ⟨c, _ | ⟨c2, l⟩⟩⟩⟩ <;> try simp at e
  obtain ⟨p, vs, h1, h2, x, r, rfl, h3, y, r2, rfl, h4, z, r3, rfl, h5, h6⟩ := h
  rw [show r3 = [] from h6] at h2
  cases q : (DyN.un a : Option α) with
  | none => rw [q] at e; simp at e
  | some a' =>
    cases q2 : (DyN.un b : Option β) with
    | none => rw [q, q2] at e; simp at e
    | some b' =>
      cases q3 : (DyN.un c : Option γ) with
      | none => rw [q, q2, q3] at e; simp at e
      | some c' =>
        rw [q, q2, q3] at e
        simp at e
        subst e
        exact ⟨p, x, y, z, h1, h2, DyN.of h3 q, DyN.of h4 q2, DyN.of h5 q3⟩⟩
variable [DyC α] [DyC β] [DyC γ]
theorem un_all : ∀ xs : List α, unAll DyN.un (xs.map DyN.dy) = some xs
  | [] => rfl
  | x :: l => by
    simp only [List.map_cons, unAll]
    rw [DyC.un_dy, un_all l]
theorem dps_all : ∀ xs : List α, dps (xs.map DyN.dy) ≤ DyC.dep α
  | [] => by simp [dps]
  | x :: l => by
    have h1 := DyC.deep x
    have h2 := dps_all l
    simp only [List.map_cons, dps]
    omega
theorem inj_all : ∀ {xs ys : List α}, nms (xs.map DyN.dy) = nms (ys.map DyN.dy) → xs = ys
  | [], [], _ => rfl
  | [], _ :: _, h => by simp [nms] at h
  | _ :: _, [], h => by simp [nms] at h
  | x :: l, y :: r, h => by
    simp only [List.map_cons, nms, List.cons.injEq] at h
    rw [DyC.inj h.1, inj_all h.2]
instance : DyC (List α) := ⟨fun a => un_all a, DyC.dep α + 1, fun a => by
  have := dps_all a
  simp only [DyN.dy, Dy.dp]
  omega, fun {a b} h => by
  simp only [DyN.dy, Dy.nm, Dy.lst.injEq] at h
  exact inj_all h⟩
instance : DyC (Tu α) := ⟨fun a => by simp only [DyN.un, DyN.dy, un_all]; rfl, DyC.dep α + 1, fun a => by
  have := dps_all a.l
  simp only [DyN.dy, Dy.dp]
  omega, fun {a b} h => by
  simp only [DyN.dy, Dy.nm, Dy.tup.injEq] at h
  cases a
  cases b
  simp at h ⊢
  exact inj_all h⟩
instance : DyC (α × β) := ⟨fun t => by simp only [DyN.un, DyN.dy, DyC.un_dy], max (DyC.dep α) (DyC.dep β) + 1, fun t => by
  have h1 := DyC.deep t.1
  have h2 := DyC.deep t.2
  simp only [DyN.dy, Dy.dp, dps]
  omega, fun {a b} h => by
  simp only [DyN.dy, Dy.nm, nms, Dy.tup.injEq, List.cons.injEq, and_true] at h
  exact Prod.ext (DyC.inj h.1) (DyC.inj h.2)⟩
instance : DyC (T3 α β γ) := ⟨fun t => by simp only [DyN.un, DyN.dy, DyC.un_dy], max (DyC.dep α) (max (DyC.dep β) (DyC.dep γ)) + 1, fun t => by
  have h1 := DyC.deep t.a
  have h2 := DyC.deep t.b
  have h3 := DyC.deep t.c
  simp only [DyN.dy, Dy.dp, dps]
  omega, fun {a b} h => by
  simp only [DyN.dy, Dy.nm, nms, Dy.tup.injEq, List.cons.injEq, and_true] at h
  cases a
  cases b
  simp at h ⊢
  exact ⟨DyC.inj h.1, DyC.inj h.2.1, DyC.inj h.2.2⟩⟩
end
/-- what may be None -/
instance {α : Type} [Rp α] [NN α] [DyN α] : DyN (Option α) := ⟨fun o => match o with | none => .non | some a => DyN.dy a, fun {K H v a} h => by
  cases a with
  | none => exact h
  | some a => exact DyN.to h.2, fun d => match d with
  | .non => some none
  | d => (DyN.un d).map some, fun {K H v d a} h e => by
  have key : ∀ d : Dy, dyR H d v → (DyN.un d : Option α).map some = some a → Rp.rep K H v a := fun d h e => by
    cases q : (DyN.un d : Option α) with
    | none => rw [q] at e; simp at e
    | some x =>
      rw [q] at e
      simp at e
      subst e
      have r := DyN.of (K := K) h q
      exact ⟨NN.nn r, r⟩
  cases d with
  | non =>
    simp at e
    subst e
    exact h
  | _ => exact key _ h e⟩
open Classical in
theorem eqDy_same {α : Type} [Rp α] [DyN α] [DyC α] [DecidableEq α] (h : DyC.dep α ≤ 60) (a b : α) : eqDy (DyN.dy a) (DyN.dy b) = .ok (decide (a = b)) := by
  unfold eqDy
  rw [gd_pos (by have := DyC.deep a; omega)]
  congr 1
  exact decide_eq_decide.mpr ⟨fun q => DyC.inj q, fun q => by rw [q]⟩
open Classical in
theorem eqDy_ne {a b : Dy} (h : min a.dp b.dp ≤ 60) (hn : a.nm ≠ b.nm) : eqDy a b = .ok false := by
  unfold eqDy
  rw [gd_pos h, decide_eq_false hn]
open Classical in
theorem eqDy_eq {a b : Dy} (h : min a.dp b.dp ≤ 60) (hn : a.nm = b.nm) : eqDy a b = .ok true := by
  unfold eqDy
  rw [gd_pos h, decide_eq_true hn]
def unD {α : Type} [Rp α] [DyN α] (d : Dy) : R α := match DyN.un d with
  | some a => .ok a
  | none => .bad
theorem unD_dy {α : Type} [Rp α] [DyN α] [DyC α] (a : α) : unD (DyN.dy a) = .ok a := by
  unfold unD
  rw [DyC.un_dy]
def dyIs (k : Nat) : Dy → Bool
  | .non => false
  | .bl _ => k == 0 || k == 1
  | .int _ => k == 0
  | .str _ => k == 2
  | .lst _ => k == 3
  | .tup _ => k == 4
def dyTy : Dy → String
  | .non => "NoneType"
  | .bl _ => "bool"
  | .int _ => "int"
  | .str _ => "str"
  | .lst _ => "list"
  | .tup _ => "tuple"
def Dy.isNon : Dy → Bool
  | .non => true
  | _ => false
def dySeq : Dy → R (List Dy)
  | .lst l => .ok l
  | .tup l => .ok l
  | _ => .bad
def dyL : Dy → R (List Dy)
  | .lst l => .ok l
  | _ => .bad
def dyT : Dy → R (List Dy)
  | .tup l => .ok l
  | _ => .bad
def dyLen (d : Dy) : R Int := R.bd (dySeq d) fun l => .ok (l.length : Int)
def dyIdx (d : Dy) (i : Int) : R Dy := R.bd (dySeq d) fun l => idx l i
def rIxA (K : PySem.W.Frag) : R2 := fun x y H Q => rIxL K x y H Q ∨ rIxT K x y H Q
theorem ix_any {X : Cx} : IxR X (rIxA X.K) := fun value slice pins s σ H x y v u Q I rx ry h hs => h.elim (fun h => ix_list value slice pins s σ H x y v u Q I rx ry h hs) (fun h => ix_tup value slice pins s σ H x y v u Q I rx ry h hs)
theorem ix_anyK {X : Cx} {K : PySem.W.Frag} (h : X.K = K) : IxR X (rIxA K) := by subst h; exact ix_any
section
variable {K : PySem.W.Frag} {E : XK} {σ : L2.St} {F H : Hp} {ta tb te tl : TE} {t u : TT} {α β γ δ ρ : Type} [Rp α] [Rp β] [Rp γ] [Rp δ] [Rp ρ]
theorem g_dy [DyN α] {m : R α} (h : Gr K E te σ F H m) : Gr K E te σ F H (R.bd m fun a => .ok (DyN.dy a)) := fun H1 e Q hq =>
  h H1 e Q (by rw [wp_bd] at hq; exact wp_mono hq (fun a _ k v H2 e2 r => k v H2 e2 (DyN.to r)) fun _ _ z => z)
theorem g_unD [DyN α] {m : R Dy} (h : Gr K E te σ F H m) : Gr K E te σ F H (R.bd m fun d => (unD d : R α)) := fun H1 e Q hq =>
  h H1 e Q (by
    rw [wp_bd] at hq
    refine wp_mono hq (fun a _ k v H2 e2 r => ?_) fun _ _ z => z
    unfold unD at k
    cases q : (DyN.un a : Option α) with
    | none => rw [q] at k; exact k.elim
    | some b => rw [q] at k; exact k v H2 e2 (DyN.of r q))
theorem g_nonDy : Gr K E (tC .non) σ F H (.ok Dy.non) := g_c fun _ => rfl
theorem g_isNDy {ma : R Dy} (ha : Gr K E ta σ F H ma) : Gr K E (tIsN ta) σ F H (R.bd ma fun a => .ok a.isNon) := fun H1 e Q hq =>
  gr_seq ha e hq fun a v H2 e2 r hq2 => by
    show Q (.bl (decide (v = .non))) H2
    have : decide (v = .non) = a.isNon := by
      cases a with
      | non => exact decide_eq_true r
      | bl b => exact decide_eq_false fun z => by rw [show v = V.bl b from r] at z; cases z
      | int b => exact decide_eq_false fun z => by rw [show v = V.int b from r] at z; cases z
      | str b => exact decide_eq_false fun z => by rw [show v = V.str b from r] at z; cases z
      | lst l => exact decide_eq_false fun z => by obtain ⟨p, vs, h1, _⟩ := r; rw [h1] at z; cases z
      | tup l => exact decide_eq_false fun z => by obtain ⟨p, vs, h1, _⟩ := r; rw [h1] at z; cases z
    rw [this]
    exact hq2 _ H2 (Same.refl _) rfl
theorem g_notNDy {ma : R Dy} (ha : Gr K E ta σ F H ma) : Gr K E (tNotN ta) σ F H (R.bd ma fun a => .ok (!a.isNon)) := fun H1 e Q hq =>
  gr_seq ha e hq fun a v H2 e2 r hq2 => by
    show Q (.bl (!decide (v = .non))) H2
    have : decide (v = .non) = a.isNon := by
      cases a with
      | non => exact decide_eq_true r
      | bl b => exact decide_eq_false fun z => by rw [show v = V.bl b from r] at z; cases z
      | int b => exact decide_eq_false fun z => by rw [show v = V.int b from r] at z; cases z
      | str b => exact decide_eq_false fun z => by rw [show v = V.str b from r] at z; cases z
      | lst l => exact decide_eq_false fun z => by obtain ⟨p, vs, h1, _⟩ := r; rw [h1] at z; cases z
      | tup l => exact decide_eq_false fun z => by obtain ⟨p, vs, h1, _⟩ := r; rw [h1] at z; cases z
    rw [this]
    exact hq2 _ H2 (Same.refl _) rfl
open Classical in
theorem dy_dec (a b : Dy) : PyData.eqv a.pd b.pd = decide (a.nm = b.nm) := by
  by_cases c : a.nm = b.nm
  · rw [decide_eq_true c]
    exact (dy_eqv a b).mpr c
  · rw [decide_eq_false c]
    exact Bool.eq_false_iff.mpr fun q => c ((dy_eqv a b).mp q)
theorem g_eqDy {ma mb : R Dy} (ha : Gr K E ta σ F H ma) (hb : Gr K E tb σ F H mb) (hF : Same F H) : Gr K E (tOp (rEqP K) ta tb) σ F H (R.bd ma fun a => R.bd mb fun b => eqDy a b) := fun H1 e Q hq =>
  gr_seq ha e hq fun a v H2 e2 r hq2 => gr_seq hb (e.trans e2) hq2 fun b w H3 e3 r3 hq3 => by
    unfold eqDy gd at hq3
    split at hq3
    · rename_i c
      refine ⟨_, _, dy_dp (dyR_mono ((mix_same hF (e.trans e2)).trans e3) r), dy_dp (dyR_mono (mix_same hF (e.trans (e2.trans e3))) r3), dy_lay a, dy_lay b, by rw [dy_deep, dy_deep]; omega, ?_⟩
      rw [dy_dec]
      exact hq3 _ H3 (Same.refl _) rfl
    · exact hq3.elim
theorem g_neDy {ma mb : R Dy} (ha : Gr K E ta σ F H ma) (hb : Gr K E tb σ F H mb) (hF : Same F H) : Gr K E (tOp (rNeP K) ta tb) σ F H (R.bd ma fun a => R.bd mb fun b => R.bd (eqDy a b) fun c => .ok (!c)) := fun H1 e Q hq =>
  gr_seq ha e hq fun a v H2 e2 r hq2 => gr_seq hb (e.trans e2) hq2 fun b w H3 e3 r3 hq3 => by
    unfold eqDy gd at hq3
    split at hq3
    · rename_i c
      refine ⟨_, _, dy_dp (dyR_mono ((mix_same hF (e.trans e2)).trans e3) r), dy_dp (dyR_mono (mix_same hF (e.trans (e2.trans e3))) r3), dy_lay a, dy_lay b, by rw [dy_deep, dy_deep]; omega, ?_⟩
      rw [dy_dec]
      exact hq3 _ H3 (Same.refl _) rfl
    · exact hq3.elim
theorem dy_tyX {d : Dy} {v : V} (h : dyR H d v) : TyX K H v (.type (dyTy d)) := by
  cases d with
  | non => rw [show v = V.non from h]; exact .base .non
  | bl b => rw [show v = V.bl b from h]; exact .base (.bl b)
  | int b => rw [show v = V.int b from h]; exact .base (.int b)
  | str b => rw [show v = V.str b from h]; exact .base (.str b)
  | lst l => obtain ⟨p, vs, h1, h2, _⟩ := h; rw [h1]; exact .base (.lst h2)
  | tup l => obtain ⟨p, vs, h1, h2, _⟩ := h; rw [h1]; exact .base (.tup h2)
def kdN : Nat → String
  | 0 => "int"
  | 1 => "bool"
  | 2 => "str"
  | 3 => "list"
  | _ => "tuple"
theorem kit_dy (d : Dy) (k : Nat) (hk : k < 5) : kitB (dyTy d) (kdN k) = some (dyIs k d) := by
  match k, hk with
  | 0, _ => cases d <;> simp only [dyTy, kdN, dyIs] <;> decide +kernel
  | 1, _ => cases d <;> simp only [dyTy, kdN, dyIs] <;> decide +kernel
  | 2, _ => cases d <;> simp only [dyTy, kdN, dyIs] <;> decide +kernel
  | 3, _ => cases d <;> simp only [dyTy, kdN, dyIs] <;> decide +kernel
  | 4, _ => cases d <;> simp only [dyTy, kdN, dyIs] <;> decide +kernel
theorem g_isiDy {m : R Dy} {k : Nat} {n : String} (h : Gr K E ta σ F H m) (hF : Same F H) (hk : k < 5 := by decide) (hn : kdN k = n := by rfl) : Gr K E (tCB (rIsi K) (tCons ta (tCons (tC (.ty n)) tNil))) σ F H (R.bd m fun d => .ok (dyIs k d)) := by
  subst hn
  exact fun H1 e Q hq => gr_seq h e hq fun a v H2 e2 r hq2 => ⟨v, _, _, _, _, rfl, .ty _, dy_tyX (dyR_mono (mix_same hF (e.trans e2)) r), kit_ty (kit_dy a k hk), hq2 _ H2 (Same.refl _) rfl⟩
theorem g_lenDy {m : R Dy} (h : Gr K E ta σ F H m) (hF : Same F H) : Gr K E (tCB (rLen K) (tCons ta tNil)) σ F H (R.bd m dyLen) := fun H1 e Q hq =>
  gr_seq h e hq fun d v H2 e2 r hq2 => by
    have key : ∀ (l : List Dy) (vs : List V), dyRs (mix F H H2) l vs → vs.length = l.length := fun l vs z => (dyRs_all (K := K) z).length
    cases d with
    | lst l =>
      obtain ⟨p, vs, rfl, hp, hv⟩ := r
      refine ⟨p, vs, rfl, .inl (SqL.of (mix_same hF (e.trans e2) p _ hp)), ?_⟩
      rw [key _ _ hv]
      exact hq2 _ H2 (Same.refl _) rfl
    | tup l =>
      obtain ⟨p, vs, rfl, hp, hv⟩ := r
      refine ⟨p, vs, rfl, .inr (SqT.of (mix_same hF (e.trans e2) p _ hp)), ?_⟩
      rw [key _ _ hv]
      exact hq2 _ H2 (Same.refl _) rfl
    | _ => exact hq2.elim
theorem g_idxDy {ma : R Dy} {mi : R Int} (ha : Gr K E ta σ F H ma) (hi : Gr K E tb σ F H mi) (hF : Same F H) : Gr K E (tOp (rIxA K) ta tb) σ F H (R.bd ma fun a => R.bd mi fun i => dyIdx a i) := fun H1 e Q hq =>
  gr_seq ha e hq fun d v H2 e2 r hq2 => gr_seq hi (e.trans e2) hq2 fun i w H3 e3 r3 hq3 => by
    have r3' : w = .int i := r3
    subst r3'
    have key : ∀ (l : List Dy) (vs : List V), dyRs (mix F H H2) l vs → Wp (idx l i) (fun b => ∀ v H4, Same H3 H4 → Rp.rep K (mix F H H4) v b → Q v H4) (EE K E H3) → ∃ z, atI vs i = some z ∧ Q z H3 := fun l vs hv hw => by
      unfold idx at hw
      cases q : atI l i with
      | none => rw [q] at hw; exact hw.elim
      | some a =>
        rw [q] at hw
        obtain ⟨x, hx, rx⟩ := all2_atI (dyRs_all (K := K) hv) q
        exact ⟨x, hx, hw x H3 (Same.refl _) (Rp.mono (mix_mono e3) rx)⟩
    cases d with
    | lst l =>
      obtain ⟨p, vs, rfl, hp, hv⟩ := r
      obtain ⟨z, h1, h2⟩ := key _ _ hv hq3
      exact .inl ⟨p, vs, i, z, rfl, rfl, SqL.of (e3 p _ (mix_same hF (e.trans e2) p _ hp)), h1, h2⟩
    | tup l =>
      obtain ⟨p, vs, rfl, hp, hv⟩ := r
      obtain ⟨z, h1, h2⟩ := key _ _ hv hq3
      exact .inr ⟨p, vs, i, z, rfl, rfl, SqT.of (e3 p _ (mix_same hF (e.trans e2) p _ hp)), h1, h2⟩
    | _ => exact hq3.elim
/-- as a list, as a tuple (told anew by nobody: the same value) -/
theorem g_dyL {m : R Dy} (h : Gr K E ta σ F H m) : Gr K E ta σ F H (R.bd m dyL) := fun H1 e Q hq =>
  h H1 e Q (by
    rw [wp_bd] at hq
    refine wp_mono hq (fun d _ k v H2 e2 r => ?_) fun _ _ z => z
    cases d with
    | lst l =>
      obtain ⟨p, vs, rfl, hp, hv⟩ := r
      exact k _ H2 e2 ⟨p, vs, rfl, hp, dyRs_all hv⟩
    | _ => exact k.elim)
theorem g_dyT {m : R Dy} (h : Gr K E ta σ F H m) : Gr K E ta σ F H (R.bd m fun d => R.bd (dyT d) fun l => .ok (Tu.mk l)) := fun H1 e Q hq =>
  h H1 e Q (by
    rw [wp_bd] at hq
    refine wp_mono hq (fun d _ k v H2 e2 r => ?_) fun _ _ z => z
    cases d with
    | tup l =>
      obtain ⟨p, vs, rfl, hp, hv⟩ := r
      exact k _ H2 e2 ⟨p, vs, rfl, hp, dyRs_all hv⟩
    | _ => exact k.elim)
/-- a part of a tuple that isn't all of it -/
noncomputable def cutT {α : Type} (xs : List α) (lo hi : Option Int) : R (List α) := gd (¬ (HT.sIx xs.length 0 lo = 0 ∧ HT.sIx xs.length xs.length hi = xs.length)) (.ok (cut xs lo hi))
theorem g_cutT {tlo thi : TO} {m : R (Tu α)} {mlo mhi : R (Option Int)} (h : Gr K E ta σ F H m) (hlo : GrO K E tlo σ H mlo) (hhi : GrO K E thi σ H mhi) (hF : Same F H) :
    Gr K E (tSl (rSlT K) ta tlo thi) σ F H (R.bd m fun xs => R.bd mlo fun lo => R.bd mhi fun hi => R.bd (cutT xs.l lo hi) fun l => .ok (Tu.mk l)) := fun H1 e Q hq =>
  gr_seq h e hq fun xs v H2 e2 r hq2 => gro_seq hlo (e.trans e2) hq2 fun lo H3 e3 hq3 => gro_seq hhi (e.trans (e2.trans e3)) hq3 fun hi H4 e4 hq4 => by
    obtain ⟨p, vs, rfl, hp, hv⟩ := r
    unfold cutT gd at hq4
    split at hq4
    · rename_i c
      refine ⟨p, vs, rfl, SqT.of (e4 p _ (e3 p _ (mix_same hF (e.trans e2) p _ hp))), by rw [hv.length]; exact c, fun l hl => hq4 _ _ (same_upd hl) ?_⟩
      have hn : H l = none := Same.free (e.trans (e2.trans (e3.trans e4))) hl
      exact ⟨l, _, rfl, by rw [mix_new hn]; exact upd_same, all2_cut (hv.mono fun _ _ x => Rp.mono (mix_mono (e3.trans (e4.trans (same_upd hl)))) x)⟩
    · exact hq4.elim
/-- a tuple display of one kind -/
theorem g_tuD {t : TA} {m : R (List α)} (h : GrA K E t σ F H m) : Gr K E (tTup t) σ F H (R.bd m fun as => gd (as.length ≤ lim) (.ok (Tu.mk as))) := fun H1 e Q hq =>
  h H1 e _ (by
    rw [wp_bd] at hq
    refine wp_mono hq (fun as _ k vs H2 e2 r => ?_) fun _ _ z => z
    unfold gd at k
    split at k
    · rename_i c
      refine ⟨lim_line (by rw [r.length]; exact c), fun p hp => k _ _ (e2.trans (same_upd hp)) ?_⟩
      have hn : H p = none := Same.free (e.trans e2) hp
      exact ⟨p, vs, rfl, by rw [mix_new hn]; exact upd_same, r.mono fun _ _ x => Rp.mono (mix_mono (same_upd hp)) x⟩
    · exact k.elim)
theorem g_tuK {t : TA} {as : List α} (h : GrA K E t σ F H (.ok as)) (hl : as.length ≤ lim := by decide) : Gr K E (tTup t) σ F H (.ok (Tu.mk as)) := fun H1 e Q hq =>
  g_tuD h H1 e Q (by rw [wp_bd]; show Wp (gd _ _) _ _; rw [gd_pos hl]; exact hq)
theorem eqV_str (a b : Str) : eqV (Sc.enc a) (Sc.enc b) = decide (a = b) := by
  show eqV (V.str a) (V.str b) = decide (a = b)
  simp only [eqV]
  exact Bool.beq_eq_decide_eq a b
end
theorem sl_tupK {X : Cx} {K : PySem.W.Frag} (h : X.K = K) : SlR X (rSlT K) := by subst h; exact sl_tup
end G

set_option Elab.async false
set_option linter.all false
set_option maxRecDepth 100000
set_option maxHeartbeats 4000000
/-! G: order: <, min, max, sorted; longer calls. -/
namespace G
open PySem PySem.Spec PyProof.Rows L2
/-- data in order -/
class Od (α : Type) [Rp α] [De α] where
  lt : α → α → Bool
  alike : ∀ a b : α, W.alike (De.toD a) (De.toD b) = true
  nn : ∀ a : α, De.toD a ≠ .none
  lt_eq : ∀ a b : α, W.dataLt (De.toD a) (De.toD b) = lt a b
  nt : ∀ a : α, (∀ xs, De.toD a ≠ .tuple xs) ∨ ∃ xs, De.toD a = .tuple xs
instance : Od Int := ⟨fun a b => decide (a < b), fun _ _ => rfl, (fun _ z => by cases z), fun a b => W.dataLt_int a b, (fun _ => .inl fun _ z => by cases z)⟩
/-- the first place that differs -/
def ltL {α : Type} [DecidableEq α] (lt : α → α → Bool) : List α → List α → Bool
  | [], [] => false
  | [], _ :: _ => true
  | _ :: _, [] => false
  | x :: xs, y :: ys => if x = y then ltL lt xs ys else lt x y
section
variable {α β γ : Type} [Rp α] [Rp β] [Rp γ] [De α] [De β] [De γ] [Od α] [Od β] [Od γ] [DecidableEq α] [DecidableEq β] [DecidableEq γ]
theorem alike_all : ∀ xs ys : List α, W.alikeAll (xs.map De.toD) (ys.map De.toD) = true
  | [], _ => by simp [W.alikeAll]
  | _ :: _, [] => by simp [W.alikeAll]
  | x :: xs, y :: ys => by
    simp only [List.map_cons, W.alikeAll, Bool.and_eq_true]
    exact ⟨Od.alike x y, alike_all xs ys⟩
theorem toks_nil : W.keyToksAll [] = [.inl 0] := by simp [W.keyToksAll]
theorem rows_lt : ∀ xs ys : List α, PyProof.Rows.lexLt itemOrd (W.keyToksAll (xs.map De.toD)) (W.keyToksAll (ys.map De.toD)) = ltL Od.lt xs ys
  | [], [] => by
    simp only [List.map_nil, W.keyToksAll, ltL]
    decide
  | [], y :: ys => by
    simp only [List.map_nil, List.map_cons, W.keyToksAll, ltL]
    exact (W.lex_atom (by decide) _ _).trans ((W.lex_one _ _).trans (by decide))
  | x :: xs, [] => by
    simp only [List.map_nil, List.map_cons, W.keyToksAll, ltL]
    exact (W.lex_atom (by decide) _ _).trans ((W.lex_one _ _).trans (by decide))
  | x :: xs, y :: ys => by
    simp only [List.map_cons]
    rw [W.dataLt_cons (Od.alike x y), rows_lt xs ys, eqv_dec, Od.lt_eq]
    show _ = if x = y then ltL Od.lt xs ys else Od.lt x y
    by_cases c : x = y
    · rw [if_pos (decide_eq_true c), if_pos c]
    · rw [if_neg (by rw [decide_eq_false c]; decide), if_neg c]
instance : Od (List α) := ⟨ltL Od.lt, fun a b => by
    show W.alike (.list _) (.list _) = true
    simp only [W.alike]
    exact alike_all a b, (fun _ z => by cases z), fun a b => by
    show W.dataLt (.list _) (.list _) = _
    rw [W.dataLt_list]
    exact rows_lt a b, (fun _ => .inl fun _ z => by cases z)⟩
instance : Od (Tu α) := ⟨fun a b => ltL Od.lt a.l b.l, fun a b => by
    show W.alike (.tuple _) (.tuple _) = true
    simp only [W.alike]
    exact alike_all a.l b.l, (fun _ z => by cases z), fun a b => by
    show W.dataLt (.tuple _) (.tuple _) = _
    rw [W.dataLt_tuple]
    exact rows_lt a.l b.l, fun a => .inr ⟨_, rfl⟩⟩
def ltP (a b : α × β) : Bool := if a.1 = b.1 then (if a.2 = b.2 then false else Od.lt a.2 b.2) else Od.lt a.1 b.1
instance : Od (α × β) := ⟨ltP, fun a b => by
    show W.alike (.tuple _) (.tuple _) = true
    simp only [W.alike, W.alikeAll, Bool.and_eq_true, and_true]
    exact ⟨Od.alike _ _, Od.alike _ _⟩, (fun _ z => by cases z), fun a b => by
    show W.dataLt (.tuple [_, _]) (.tuple [_, _]) = _
    rw [W.dataLt_pair (Od.alike _ _) (Od.alike _ _), eqv_dec, eqv_dec, Od.lt_eq, Od.lt_eq]
    unfold ltP
    by_cases c : a.1 = b.1 <;> by_cases c2 : a.2 = b.2 <;> simp [c, c2], fun a => .inr ⟨_, rfl⟩⟩
end
theorem none_back {P : Addr → Prop} {F H F1 H1 : Hp} {p : Addr} (a : Nx P F H F1 H1) (h : H1 p = none) : H p = none := by
  cases q : H p with
  | none => rfl
  | some u =>
    obtain ⟨o, ho, _⟩ := a.th p u q
    rw [h] at ho
    cases ho
theorem via_of {P : Addr → Prop} {F H F1 H1 : Hp} {p : Addr} {C : Prop} (a : Nx P F H F1 H1) (ho : C ∨ H1 p = none) (h0 : ∀ q, q = p → C → P q ∨ H q = none) : ∀ q, q = p → P q ∨ H q = none := fun q z => ho.elim (h0 q z) fun h => .inr (by rw [z]; exact none_back a h)
/-! ### <, >, ≤, ≥ -/
def rLtP (K : PySem.W.Frag) : R2 := fun x y H Q => ∃ d e, Dp K H x d ∧ Dp K H y e ∧ W.alike d e = true ∧ d ≠ .none ∧ min d.depth e.depth ≤ 64 ∧ Q (.bl (W.dataLt d e)) H
def rGtP (K : PySem.W.Frag) : R2 := fun x y H Q => ∃ d e, Dp K H x d ∧ Dp K H y e ∧ W.alike d e = true ∧ d ≠ .none ∧ min d.depth e.depth ≤ 64 ∧ Q (.bl (W.dataLt e d)) H
def rLeP (K : PySem.W.Frag) : R2 := fun x y H Q => ∃ d e, Dp K H x d ∧ Dp K H y e ∧ W.alike d e = true ∧ d ≠ .none ∧ min d.depth e.depth ≤ 64 ∧ Q (.bl (!W.dataLt e d)) H
def rGeP (K : PySem.W.Frag) : R2 := fun x y H Q => ∃ d e, Dp K H x d ∧ Dp K H y e ∧ W.alike d e = true ∧ d ≠ .none ∧ min d.depth e.depth ≤ 64 ∧ Q (.bl (!W.dataLt d e)) H
section
variable {X : Cx}
theorem op_ltP (hu : X.A.units + 64 < cLine) : OpR X (compareOp .Lt) (rLtP X.K) := by
  intro pins s σ H x y v u Q I rx ry h
  obtain ⟨d, e, hd, he, sd, se, hm, q⟩ := h
  obtain ⟨as, r1⟩ := Dp.reads I d x v hd rx
  obtain ⟨bs, r2⟩ := Dp.reads I e y u he ry
  exact W.lt_data r1 r2 sd se (by omega) ⟨.bl _, H, I, rfl, q⟩
theorem op_gtP (hu : X.A.units + 64 < cLine) : OpR X (compareOp .Gt) (rGtP X.K) := by
  intro pins s σ H x y v u Q I rx ry h
  obtain ⟨d, e, hd, he, sd, se, hm, q⟩ := h
  obtain ⟨as, r1⟩ := Dp.reads I d x v hd rx
  obtain ⟨bs, r2⟩ := Dp.reads I e y u he ry
  exact W.gt_data r1 r2 sd se (by omega) ⟨.bl _, H, I, rfl, q⟩
theorem op_leP (hu : X.A.units + 64 < cLine) : OpR X (compareOp .LtE) (rLeP X.K) := by
  intro pins s σ H x y v u Q I rx ry h
  obtain ⟨d, e, hd, he, sd, se, hm, q⟩ := h
  obtain ⟨as, r1⟩ := Dp.reads I d x v hd rx
  obtain ⟨bs, r2⟩ := Dp.reads I e y u he ry
  exact W.le_data r1 r2 sd se (by omega) ⟨.bl _, H, I, rfl, q⟩
theorem op_geP (hu : X.A.units + 64 < cLine) : OpR X (compareOp .GtE) (rGeP X.K) := by
  intro pins s σ H x y v u Q I rx ry h
  obtain ⟨d, e, hd, he, sd, se, hm, q⟩ := h
  obtain ⟨as, r1⟩ := Dp.reads I d x v hd rx
  obtain ⟨bs, r2⟩ := Dp.reads I e y u he ry
  exact W.ge_data r1 r2 sd se (by omega) ⟨.bl _, H, I, rfl, q⟩
/-! ### min, max -/
def bestD (lt : PyData → PyData → Bool) (x : PyData) (xs : List PyData) : PyData := xs.foldl (fun a y => if lt y a then y else a) x
def rMinP (K : PySem.W.Frag) : List V → Hp → VK → Prop := fun vs H Q => ∃ (a : Addr) (ys : List V) (d : PyData) (ds : List PyData), vs = [V.ref a] ∧ SqL K H a ys ∧ DpAll K H ys (d :: ds) ∧ W.AlikeAll (d :: ds) ∧ PyData.plainAll (d :: ds) = true ∧ PyData.depthAll (d :: ds) ≤ 60 ∧
  ∀ (i : Nat) (v : V), ys[i]? = some v → (d :: ds)[i]? = some (W.minD d ds) → Q v H
def rMaxP (K : PySem.W.Frag) : List V → Hp → VK → Prop := fun vs H Q => ∃ (a : Addr) (ys : List V) (d : PyData) (ds : List PyData), vs = [V.ref a] ∧ SqL K H a ys ∧ DpAll K H ys (d :: ds) ∧ W.AlikeAll (d :: ds) ∧ PyData.plainAll (d :: ds) = true ∧ PyData.depthAll (d :: ds) ≤ 60 ∧
  ∀ (i : Nat) (v : V), ys[i]? = some v → (d :: ds)[i]? = some (W.maxD d ds) → Q v H
theorem plain_at : ∀ {ds : List PyData} {i : Nat} {d : PyData}, PyData.plainAll ds = true → ds[i]? = some d → d.plain = true
  | [], _, _, _, e => by simp at e
  | x :: l, 0, d, h, e => by
    simp at e
    subst e
    simp only [PyData.plainAll, Bool.and_eq_true] at h
    exact h.1
  | x :: l, i + 1, d, h, e => by
    simp only [PyData.plainAll, Bool.and_eq_true] at h
    exact plain_at (i := i) h.2 (by simpa using e)
theorem readsAll_get {h : Heap} {vs : Array Value} {xs : List PyData} {as : List Addr} (hr : ReadsAll h vs.toList xs as) {i : Nat} {v : Value} (hv : vs[i]? = some v) : ∃ bs d, Reads h v d bs ∧ xs[i]? = some d := by
  obtain ⟨bs, r, hl, _, _⟩ := W.readsAll_atA hr i v hv
  have e := List.getElem?_eq_getElem hl
  rw [List.getD_eq_getElem?_getD, e] at r
  exact ⟨bs, _, r, e⟩
theorem cr_minP (hc : X.calm = true) (hu : X.A.units + 64 < cLine) : CallR X (.builtin "min") (rMinP X.K) := by
  intro pins s σ H vs us Q I r h
  obtain ⟨a, ys, d, ds, rfl, hs, hd, hal, hpl, hdp, q⟩ := h
  obtain ⟨its, rv, hl, hz⟩ := I.list hs
  rw [Vals.ref1 r]
  obtain ⟨as, hr⟩ := Dp.readsAll I _ _ _ hd rv
  refine W.min_list_data (I.ok.hd hc) hl.isList (vs := its.toArray) (by simpa using hr) hal (by omega) fun i v h' tk bs hv hR hk => ?_
  have hv' : its[i]? = some v := by simpa using hv
  obtain ⟨bs2, e, r2, he⟩ := readsAll_get (vs := its.toArray) (by simpa using hr) hv
  have hlen := rv.length
  have hi : i < ys.length := by
    have := (List.getElem?_eq_some_iff.mp hv').1
    omega
  obtain ⟨u, hu1, hu2⟩ := Vals.get (i := i) (x := ys[i]) rv (List.getElem?_eq_getElem hi)
  rw [hv'] at hu1
  cases hu1
  have : e = W.minD d ds := SeqAt.plain_unique e _ v bs2 bs (plain_at hpl he) (W.reads_keeps hk r2) hR
  rw [this] at he
  exact ⟨_, H, I.kept hk, hu2, q i _ (List.getElem?_eq_getElem hi) he⟩
theorem cr_maxP (hc : X.calm = true) (hu : X.A.units + 64 < cLine) : CallR X (.builtin "max") (rMaxP X.K) := by
  intro pins s σ H vs us Q I r h
  obtain ⟨a, ys, d, ds, rfl, hs, hd, hal, hpl, hdp, q⟩ := h
  obtain ⟨its, rv, hl, hz⟩ := I.list hs
  rw [Vals.ref1 r]
  obtain ⟨as, hr⟩ := Dp.readsAll I _ _ _ hd rv
  refine W.max_list_data (I.ok.hd hc) hl.isList (vs := its.toArray) (by simpa using hr) hal (by omega) fun i v h' tk bs hv hR hk => ?_
  have hv' : its[i]? = some v := by simpa using hv
  obtain ⟨bs2, e, r2, he⟩ := readsAll_get (vs := its.toArray) (by simpa using hr) hv
  have hlen := rv.length
  have hi : i < ys.length := by
    have := (List.getElem?_eq_some_iff.mp hv').1
    omega
  obtain ⟨u, hu1, hu2⟩ := Vals.get (i := i) (x := ys[i]) rv (List.getElem?_eq_getElem hi)
  rw [hv'] at hu1
  cases hu1
  have : e = W.maxD d ds := SeqAt.plain_unique e _ v bs2 bs (plain_at hpl he) (W.reads_keeps hk r2) hR
  rw [this] at he
  exact ⟨_, H, I.kept hk, hu2, q i _ (List.getElem?_eq_getElem hi) he⟩
/-! ### sorted -/
def rSortA (α : Type) [Rp α] [De α] [Od α] (K : PySem.W.Frag) : List V → Hp → VK → Prop := fun vs H Q => ∃ (a : Addr) (ps : List (V × α)), vs = [V.ref a] ∧ SqL K H a (ps.map Prod.fst) ∧ (∀ p ∈ ps, Dp K H p.1 (De.toD p.2)) ∧ W.Sortable (ps.map fun p => De.toD p.2) ∧ ps.length ≤ lim ∧ De.dep α ≤ 60 ∧
  ∀ l, H l = none → Q (.ref l) (upd H l (.lst ((ps.mergeSort fun a b => !Od.lt b.2 a.2).map Prod.fst)))
theorem each_of {α : Type} [Rp α] [De α] {pins : List (Addr × Obj)} {σ : L2.St} {H : Hp} {s : Shared} (I : Inv X pins σ H s) : ∀ {ps : List (V × α)} {us : List Value}, Vals (ps.map Prod.fst) us → (∀ p ∈ ps, Dp X.K H p.1 (De.toD p.2)) → W.EachIs (fun (v : Value) (p : V × α) => RelV p.1 v) us ps ∧ W.EachIs (fun (v : Value) (p : V × α) => ∃ as, Reads s.heap v (De.toD p.2) as) us ps
  | [], _, .nil, _ => ⟨.nil, .nil⟩
  | p :: ps, _, .cons r t, h => by
    obtain ⟨a, b⟩ := each_of I t fun q hq => h q (List.mem_cons_of_mem _ hq)
    exact ⟨.cons r a, .cons (Dp.reads I _ _ _ (h p List.mem_cons_self) r) b⟩
theorem vals_each {α : Type} : ∀ {us : List Value} {ps : List (V × α)}, W.EachIs (fun (v : Value) (p : V × α) => RelV p.1 v) us ps → Vals (ps.map Prod.fst) us
  | _, _, .nil => .nil
  | _, _, .cons r t => .cons r (vals_each t)
theorem cr_sortA {α : Type} [Rp α] [De α] [Od α] (hu : X.A.units + 64 < cLine) : CallR X (.builtin "sorted") (rSortA α X.K) := by
  intro pins s σ H vs us Q I r h
  obtain ⟨a, ps, rfl, hs, hd, hk, hL, hdep, q⟩ := h
  obtain ⟨its, rv, hl, hz⟩ := I.list hs
  rw [Vals.ref1 r]
  obtain ⟨e1, e2⟩ := each_of I rv hd
  refine W.sorted_data (enc := fun p : V × α => De.toD p.2) hl.isList e1 e2 (W.AllAlike.of fun b b' => Od.alike _ _) hk (lim_line hL) (fun b _ => by have := De.deep b.2; omega) fun out hlen hE => ?_
  obtain ⟨ep, he'⟩ := PyProof.Rows.sortedAll_at s.heap its out.toArray
  have hsz : ((ps.mergeSort fun a b => !Od.lt b.2 a.2).map Prod.fst).length ≤ sizeLine := by rw [List.length_map, List.length_mergeSort]; exact lim_line hL
  have hcmp : (W.dataLe false fun p : V × α => De.toD p.2) = fun a b => !Od.lt b.2 a.2 := by
    rw [W.dataLe_eq]
    funext a b
    show (!W.dataLt _ _) = _
    rw [Od.lt_eq]
  rw [hcmp] at hE
  exact ⟨.ref _, upd H (s.heap.objs.size + 1) (.lst ((ps.mergeSort fun a b => !Od.lt b.2 a.2).map Prod.fst)), I.laid (t' := s.toks) (fun _ _ => PyProof.Rows.sortedAll_old) (Nat.le_succ _) ⟨hsz, out, ep, vals_each hE, he'⟩, rfl, q _ (I.hok.fresh (Nat.le_succ _))⟩
end
section
variable {K : PySem.W.Frag} {E : XK} {σ : L2.St} {F H : Hp} {ta tb te tl : TE} {t u : TT} {α β γ δ ρ : Type} [Rp α] [Rp β] [Rp γ] [Rp δ] [Rp ρ]
theorem g_ltP [De α] [Od α] {ma mb : R α} (ha : Gr K E ta σ F H ma) (hb : Gr K E tb σ F H mb) (hF : Same F H) (hd : De.dep α ≤ 60 := by decide) : Gr K E (tOp (rLtP K) ta tb) σ F H (R.bd ma fun a => R.bd mb fun b => .ok (Od.lt a b)) := fun H1 e Q hq =>
  gr_seq ha e hq fun a v H2 e2 r hq2 => gr_seq hb (e.trans e2) hq2 fun b w H3 e3 r3 hq3 => by
    refine ⟨_, _, De.dp (Rp.mono ((mix_same hF (e.trans e2)).trans e3) r), De.dp (Rp.mono (mix_same hF (e.trans (e2.trans e3))) r3), Od.alike a b, Od.nn a, by have := De.deep a; omega, ?_⟩
    rw [Od.lt_eq]
    exact hq3 _ H3 (Same.refl _) rfl
theorem g_gtP [De α] [Od α] {ma mb : R α} (ha : Gr K E ta σ F H ma) (hb : Gr K E tb σ F H mb) (hF : Same F H) (hd : De.dep α ≤ 60 := by decide) : Gr K E (tOp (rGtP K) ta tb) σ F H (R.bd ma fun a => R.bd mb fun b => .ok (Od.lt b a)) := fun H1 e Q hq =>
  gr_seq ha e hq fun a v H2 e2 r hq2 => gr_seq hb (e.trans e2) hq2 fun b w H3 e3 r3 hq3 => by
    refine ⟨_, _, De.dp (Rp.mono ((mix_same hF (e.trans e2)).trans e3) r), De.dp (Rp.mono (mix_same hF (e.trans (e2.trans e3))) r3), Od.alike a b, Od.nn a, by have := De.deep a; omega, ?_⟩
    rw [Od.lt_eq]
    exact hq3 _ H3 (Same.refl _) rfl
theorem g_leP [De α] [Od α] {ma mb : R α} (ha : Gr K E ta σ F H ma) (hb : Gr K E tb σ F H mb) (hF : Same F H) (hd : De.dep α ≤ 60 := by decide) : Gr K E (tOp (rLeP K) ta tb) σ F H (R.bd ma fun a => R.bd mb fun b => .ok (!Od.lt b a)) := fun H1 e Q hq =>
  gr_seq ha e hq fun a v H2 e2 r hq2 => gr_seq hb (e.trans e2) hq2 fun b w H3 e3 r3 hq3 => by
    refine ⟨_, _, De.dp (Rp.mono ((mix_same hF (e.trans e2)).trans e3) r), De.dp (Rp.mono (mix_same hF (e.trans (e2.trans e3))) r3), Od.alike a b, Od.nn a, by have := De.deep a; omega, ?_⟩
    rw [Od.lt_eq]
    exact hq3 _ H3 (Same.refl _) rfl
theorem g_geP [De α] [Od α] {ma mb : R α} (ha : Gr K E ta σ F H ma) (hb : Gr K E tb σ F H mb) (hF : Same F H) (hd : De.dep α ≤ 60 := by decide) : Gr K E (tOp (rGeP K) ta tb) σ F H (R.bd ma fun a => R.bd mb fun b => .ok (!Od.lt a b)) := fun H1 e Q hq =>
  gr_seq ha e hq fun a v H2 e2 r hq2 => gr_seq hb (e.trans e2) hq2 fun b w H3 e3 r3 hq3 => by
    refine ⟨_, _, De.dp (Rp.mono ((mix_same hF (e.trans e2)).trans e3) r), De.dp (Rp.mono (mix_same hF (e.trans (e2.trans e3))) r3), Od.alike a b, Od.nn a, by have := De.deep a; omega, ?_⟩
    rw [Od.lt_eq]
    exact hq3 _ H3 (Same.refl _) rfl
def minLR {α : Type} (lt : α → α → Bool) : List α → R α
  | [] => .bad
  | x :: l => .ok (l.foldl (fun a y => if lt y a = true then y else a) x)
def maxLR {α : Type} (lt : α → α → Bool) : List α → R α
  | [] => .bad
  | x :: l => .ok (l.foldl (fun a y => if lt a y = true then y else a) x)
theorem minD_map [De α] [Od α] : ∀ (l : List α) (x : α), W.minD (De.toD x) (l.map De.toD) = De.toD (l.foldl (fun a y => if Od.lt y a = true then y else a) x)
  | [], _ => rfl
  | y :: l, x => by
    unfold W.minD
    rw [List.map_cons, List.foldl_cons, List.foldl_cons, Od.lt_eq]
    by_cases c : Od.lt y x = true
    · rw [if_pos c, if_pos c]; exact minD_map l y
    · rw [if_neg c, if_neg c]; exact minD_map l x
theorem maxD_map [De α] [Od α] : ∀ (l : List α) (x : α), W.maxD (De.toD x) (l.map De.toD) = De.toD (l.foldl (fun a y => if Od.lt a y = true then y else a) x)
  | [], _ => rfl
  | y :: l, x => by
    unfold W.maxD
    rw [List.map_cons, List.foldl_cons, List.foldl_cons, Od.lt_eq]
    by_cases c : Od.lt x y = true
    · rw [if_pos c, if_pos c]; exact maxD_map l y
    · rw [if_neg c, if_neg c]; exact maxD_map l x
theorem toD_inj [De α] {a b : α} (h : De.toD a = De.toD b) : a = b := (De.eqv a b).mp (by rw [h]; exact SeqAt.eqv_refl_plain _ (De.lay b))
theorem alikeAll_map [De α] [Od α] (xs : List α) : W.AlikeAll (xs.map De.toD) := ⟨fun a ha b hb => by
    obtain ⟨x, _, rfl⟩ := List.mem_map.mp ha
    obtain ⟨y, _, rfl⟩ := List.mem_map.mp hb
    exact Od.alike x y, fun a ha => by
    obtain ⟨x, _, rfl⟩ := List.mem_map.mp ha
    exact Od.nn x⟩
theorem g_minP [De α] [Od α] {m : R (List α)} (h : Gr K E ta σ F H m) (hF : Same F H) (hd : De.dep α ≤ 60 := by decide) : Gr K E (tCB (rMinP K) (tCons ta tNil)) σ F H (R.bd m (minLR Od.lt)) := fun H1 e Q hq =>
  gr_seq h e hq fun xs v H2 e2 r hq2 => by
    obtain ⟨p, vs, rfl, hp, hv⟩ := r
    cases xs with
    | nil => exact hq2.elim
    | cons x l =>
      have hv2 := hv.mono fun _ _ z => Rp.mono (mix_same hF (e.trans e2)) z
      refine ⟨p, vs, De.toD x, l.map De.toD, rfl, SqL.of (mix_same hF (e.trans e2) p _ hp), dpAll_of (xs := x :: l) hv2, alikeAll_map (x :: l), plainAll_map (x :: l), by have := deepAll (x :: l); simp only [List.map_cons] at this; omega, fun i w hw hm => ?_⟩
      obtain ⟨a, ha, ra⟩ := hv.getL hw
      have : (De.toD a : PyData) = W.minD (De.toD x) (l.map De.toD) := by
        have z : ((x :: l).map De.toD)[i]? = some (De.toD a) := by rw [List.getElem?_map, ha]; rfl
        rw [List.map_cons, hm] at z
        exact (Option.some.inj z).symm
      rw [minD_map] at this
      have := toD_inj this
      exact hq2 w H2 (Same.refl _) (by rw [← this]; exact ra)
theorem g_maxP [De α] [Od α] {m : R (List α)} (h : Gr K E ta σ F H m) (hF : Same F H) (hd : De.dep α ≤ 60 := by decide) : Gr K E (tCB (rMaxP K) (tCons ta tNil)) σ F H (R.bd m (maxLR Od.lt)) := fun H1 e Q hq =>
  gr_seq h e hq fun xs v H2 e2 r hq2 => by
    obtain ⟨p, vs, rfl, hp, hv⟩ := r
    cases xs with
    | nil => exact hq2.elim
    | cons x l =>
      have hv2 := hv.mono fun _ _ z => Rp.mono (mix_same hF (e.trans e2)) z
      refine ⟨p, vs, De.toD x, l.map De.toD, rfl, SqL.of (mix_same hF (e.trans e2) p _ hp), dpAll_of (xs := x :: l) hv2, alikeAll_map (x :: l), plainAll_map (x :: l), by have := deepAll (x :: l); simp only [List.map_cons] at this; omega, fun i w hw hm => ?_⟩
      obtain ⟨a, ha, ra⟩ := hv.getL hw
      have : (De.toD a : PyData) = W.maxD (De.toD x) (l.map De.toD) := by
        have z : ((x :: l).map De.toD)[i]? = some (De.toD a) := by rw [List.getElem?_map, ha]; rfl
        rw [List.map_cons, hm] at z
        exact (Option.some.inj z).symm
      rw [maxD_map] at this
      have := toD_inj this
      exact hq2 w H2 (Same.refl _) (by rw [← this]; exact ra)
/-! sorted -/
theorem zip_fst : ∀ {vs : List V} {xs : List α}, vs.length = xs.length → (vs.zip xs).map Prod.fst = vs
  | [], [], _ => rfl
  | [], _ :: _, h => by simp at h
  | _ :: _, [], h => by simp at h
  | v :: vs, x :: xs, h => by
    rw [List.zip_cons_cons, List.map_cons, zip_fst (by simpa using h)]
theorem zip_snd : ∀ {vs : List V} {xs : List α}, vs.length = xs.length → (vs.zip xs).map Prod.snd = xs
  | [], [], _ => rfl
  | [], _ :: _, h => by simp at h
  | _ :: _, [], h => by simp at h
  | v :: vs, x :: xs, h => by
    rw [List.zip_cons_cons, List.map_cons, zip_snd (by simpa using h)]
theorem all2_zip {P : V → α → Prop} : ∀ {vs : List V} {xs : List α}, All2 P vs xs → ∀ p ∈ vs.zip xs, P p.1 p.2
  | _, _, .nil, p, h => by simp at h
  | _, _, .cons r t, p, h => by
    rcases List.mem_cons.mp (by simpa using h) with c | c
    · rw [c]; exact r
    · exact all2_zip t p c
theorem zip_all2 {P : V → α → Prop} : ∀ {ps : List (V × α)}, (∀ p ∈ ps, P p.1 p.2) → All2 P (ps.map Prod.fst) (ps.map Prod.snd)
  | [], _ => .nil
  | p :: ps, h => .cons (h p List.mem_cons_self) (zip_all2 fun q hq => h q (List.mem_cons_of_mem _ hq))
/-- may be sorted -/
def okSort [De α] (xs : List α) : Prop := W.Sortable (xs.map De.toD)
noncomputable def sortR [De α] [Od α] (xs : List α) : R (List α) := gd (xs.length ≤ lim ∧ okSort xs) (.ok (xs.mergeSort fun a b => !Od.lt b a))
theorem g_sort [De α] [Od α] {m : R (List α)} (h : Gr K E ta σ F H m) (hF : Same F H) (hd : De.dep α ≤ 60 := by decide) : Gr K E (tCB (rSortA α K) (tCons ta tNil)) σ F H (R.bd m sortR) := fun H1 e Q hq =>
  gr_seq h e hq fun xs v H2 e2 r hq2 => by
    obtain ⟨p, vs, rfl, hp, hv⟩ := r
    unfold sortR gd at hq2
    split at hq2
    · rename_i c
      have hl := hv.length
      have hfst : (vs.zip xs).map Prod.fst = vs := zip_fst hl
      have hsnd : (vs.zip xs).map Prod.snd = xs := zip_snd hl
      have hz := all2_zip hv
      refine ⟨p, vs.zip xs, rfl, by rw [hfst]; exact SqL.of (mix_same hF (e.trans e2) p _ hp), fun q hq => De.dp (Rp.mono (mix_same hF (e.trans e2)) (hz q hq)), ?_, by rw [List.length_zip]; omega, hd, fun l hl => ?_⟩
      · have : (vs.zip xs).map (fun p => (De.toD p.2 : PyData)) = xs.map De.toD := by
          conv => rhs; rw [← hsnd, List.map_map]
          rfl
        rw [this]
        exact c.2
      · refine hq2 _ _ (same_upd hl) ?_
        have hn : H l = none := Same.free (e.trans e2) hl
        refine ⟨l, _, rfl, by rw [mix_new hn]; exact upd_same, ?_⟩
        have e3 : xs.mergeSort (fun a b => !Od.lt b a) = ((vs.zip xs).mergeSort fun a b => !Od.lt b.2 a.2).map Prod.snd := by
          conv => lhs; rw [← hsnd]
          exact (List.map_mergeSort (r := fun a b : V × α => !Od.lt b.2 a.2) (s := fun a b : α => !Od.lt b a) (f := Prod.snd) (fun a _ b _ => rfl)).symm
        rw [e3]
        refine zip_all2 fun q hq => Rp.mono (mix_mono (same_upd hl)) (hz q ?_)
        exact (List.mergeSort_perm _ _).subset hq
    · exact hq2.elim
theorem g_chainM {f g : Int → Int → Bool} {tc : TE} {ma mb mc : R Int} (ha : Gr K E ta σ F H ma) (hb : Gr K E tb σ F H mb) (hc : Gr K E tc σ F H mc) :
    Gr K E (tChain (rI0 fun i j => .bl (f i j)) (rI0 fun i j => .bl (g i j)) ta tb tc) σ F H (R.bd ma fun a => R.bd mb fun b => if f a b = true then R.bd mc fun c => .ok (g b c) else .ok false) := fun H1 e Q hq =>
  gr_seq ha e hq fun a v H2 e2 r hq2 => gr_seq hb (e.trans e2) hq2 fun b w H3 e3 r3 hq3 => by
    refine ⟨a, b, r, r3, f a b, rfl, ?_⟩
    cases q : f a b with
    | true =>
      rw [q] at hq3
      rw [if_pos rfl] at hq3 ⊢
      exact gr_seq hc (e.trans (e2.trans e3)) hq3 fun c z H4 e4 r4 hq4 => ⟨b, c, r3, r4, hq4 _ H4 (Same.refl _) rfl⟩
    | false =>
      rw [q] at hq3
      rw [if_neg (by decide)] at hq3 ⊢
      exact hq3 _ H3 (Same.refl _) rfl
theorem u65 {k : Nat} {A : Around} (r : Room k A) : A.units + 65 < cLine := by have := r.un; omega
/-! ### xs.index(x), nested -/
class DeS (α : Type) [Rp α] [De α] where
  lay0 : ∀ a : α, (De.toD a).canLay0 = true
instance : DeS Int := ⟨fun _ => rfl⟩
instance : DeS Bool := ⟨fun _ => rfl⟩
theorem lay0All [De α] [DeS α] : ∀ xs : List α, PyData.canLayAll0 (xs.map De.toD) = true
  | [] => rfl
  | x :: r => by
    show (PyData.canLay0 (De.toD x) && PyData.canLayAll0 (r.map De.toD)) = true
    rw [DeS.lay0, lay0All r]
    rfl
instance [De α] [DeS α] : DeS (List α) := ⟨fun xs => lay0All xs⟩
instance [De α] [DeS α] : DeS (Tu α) := ⟨fun xs => lay0All xs.l⟩
instance [De α] [De β] [DeS α] [DeS β] : DeS (α × β) := ⟨fun t => by
  show (PyData.canLay0 (De.toD t.1) && (PyData.canLay0 (De.toD t.2) && true)) = true
  rw [DeS.lay0, DeS.lay0]
  rfl⟩
theorem shaped_of [De α] [DeS α] (h : De.dep α ≤ 64) (a : α) : SeqAt.shaped (De.toD a) = true := by
  unfold SeqAt.shaped
  rw [DeS.lay0 a, decide_eq_true (Nat.le_trans (De.deep a) h)]
  rfl
theorem g_indexD [De α] [DeS α] [DecidableEq α] {ma : R (List α)} {mb : R α} (ha : Gr K E ta σ F H ma) (hb : Gr K E tb σ F H mb) (hF : Same F H) (hd : De.dep α ≤ 60 := by decide) : Gr K E (tBM K "list" (rIndexD K) ta (tCons tb tNil)) σ F H (R.bd ma fun a => R.bd mb fun b => indexR a b) := fun H1 e Q hq =>
  ha H1 e _ (by
    rw [wp_bd] at hq
    refine wp_mono hq (fun xs _ k v H2 e2 r => ?_) fun _ _ z => z
    obtain ⟨p, vs, rfl, hp, hv⟩ := r
    refine ⟨.inl ⟨rfl, _, SqL.of (mix_same hF (e.trans e2) p _ hp)⟩, ?_⟩
    refine hb H2 (e.trans e2) _ ?_
    rw [wp_bd] at k
    refine wp_mono k (fun b _ k2 w H3 e3 r3 => ?_) fun _ _ z => z.mono e2
    unfold indexR at k2
    cases q : xs.findIdx? (fun z => decide (z = b)) with
    | none => rw [q] at k2; exact k2.elim
    | some j =>
      rw [q] at k2
      obtain ⟨hj, h1, h2⟩ := List.findIdx?_eq_some_iff_getElem.mp q
      have hL : Rp.rep K H3 (.ref p) xs := Rp.mono e3 (Rp.mono (mix_same hF (e.trans e2)) (⟨p, vs, rfl, hp, hv⟩ : Rp.rep K (mix F H H2) (.ref p) xs))
      refine ⟨p, w, De.toD b, xs.map De.toD, j, De.toD xs[j], rfl, rfl, De.dp hL, De.dp (Rp.mono (mix_same hF (e.trans (e2.trans e3))) r3), shaped_of (α := List α) (by show De.dep α + 1 ≤ 64; omega) xs, shaped_of (by omega) b, by rw [List.getElem?_map, List.getElem?_eq_getElem hj]; rfl, by rw [eqv_dec]; exact h1, fun m z' hm hz => ?_, k2 _ H3 (e2.trans e3) rfl⟩
      rw [List.getElem?_map, List.getElem?_eq_getElem (by omega)] at hz
      cases hz
      rw [eqv_dec]
      have := h2 m hm
      simpa using this)
theorem mt_indexDK {X : Cx} {K : PySem.W.Frag} (h : X.K = K) (hu : X.A.units + 65 < cLine) : MtR X "list.index" (rIndexD K) := by subst h; exact mt_indexD hu
/-! ### what may be None, of ints (bools, texts): over any heap -/
theorem rep_os [Sc α] {F' : Hp} {v : V} {a : Option α} (h : Rp.rep K F v a) : Rp.rep K F' v a := by
  cases a with
  | none => exact h
  | some a => exact ⟨h.1, Sc.is.mpr (Sc.is.mp h.2)⟩
theorem g_os [Sc α] {F' : Hp} {m : R (Option α)} (h : Gr K E te σ F' H m) : Gr K E te σ F H m := fun H1 e Q hq =>
  h H1 e Q (wp_mono hq (fun a _ k v H2 e2 r => k v H2 e2 (rep_os r)) fun _ _ z => z)
/-! ### calls with five -/
variable {Ex : L2.St → XK} {ε : Type} [Rp ε]
def sp5 (K : PySem.W.Frag) (f : α → β → γ → δ → ε → R ρ) : Sp := fun vs H Q E => ∃ v w x y z a b c d g, vs = [v, w, x, y, z] ∧ Rp.rep K H v a ∧ Rp.rep K H w b ∧ Rp.rep K H x c ∧ Rp.rep K H y d ∧ Rp.rep K H z g ∧ Wp (f a b c d g) (KN K H Q) (EE K E H)
theorem g_call5 {tc td te : TE} {f : α → β → γ → δ → ε → R ρ} {ma : R α} {mb : R β} {mc : R γ} {md : R δ} {me : R ε} (ha : Gr K E ta σ H H ma) (hb : Gr K E tb σ H H mb) (hc : Gr K E tc σ H H mc) (hd : Gr K E td σ H H md) (he : Gr K E te σ H H me) (hE : Ex σ = E := by rfl) :
    Gr K E (tCallS (sp5 K f) Ex (tCons ta (tCons tb (tCons tc (tCons td (tCons te tNil)))))) σ F H (R.bd ma fun a => R.bd mb fun b => R.bd mc fun c => R.bd md fun d => R.bd me fun g => f a b c d g) := by
  subst hE
  exact fun H1 e Q hq =>
  gr_arg ha e hq fun a v H2 e2 r hq2 => gr_arg hb (e.trans e2) hq2 fun b w H3 e3 r3 hq3 => gr_arg hc (e.trans (e2.trans e3)) hq3 fun c x H4 e4 r4 hq4 => gr_arg hd (e.trans (e2.trans (e3.trans e4))) hq4 fun d y H5 e5 r5 hq5 => gr_arg he (e.trans (e2.trans (e3.trans (e4.trans e5)))) hq5 fun g z H6 e6 r6 hq6 =>
    ⟨v, w, x, y, z, a, b, c, d, g, rfl, Rp.mono (e3.trans (e4.trans (e5.trans e6))) r, Rp.mono (e4.trans (e5.trans e6)) r3, Rp.mono (e5.trans e6) r4, Rp.mono e6 r5, r6, wp_mono hq6 (fun b _ k v' H7 e7 r7 => k v' H7 e7 (Rp.mono (dif_mix (e.trans (e2.trans (e3.trans (e4.trans (e5.trans e6))))) e7) r7)) fun c _ z => z⟩
def spS4 (K : PySem.W.Frag) (f : α → β → γ → δ → R ρ) : Sp := fun vs H Q E => ∃ v w x y a b c d Gz, vs = [v, w, x, y] ∧ Same Gz H ∧ Rp.rep K Gz v a ∧ Rp.rep K Gz w b ∧ Rp.rep K Gz x c ∧ Rp.rep K Gz y d ∧ Wp (f a b c d) (KS K Gz H Q) (EE K E H)
theorem g_callS4 {tc td : TE} {f : α → β → γ → δ → R ρ} {ma : R α} {mb : R β} {mc : R γ} {md : R δ} (ha : Gr K E ta σ F H ma) (hb : Gr K E tb σ F H mb) (hc : Gr K E tc σ F H mc) (hd : Gr K E td σ F H md) (hF : Same F H) (hE : Ex σ = E := by rfl) :
    Gr K E (tCallS (spS4 K f) Ex (tCons ta (tCons tb (tCons tc (tCons td tNil))))) σ F H (R.bd ma fun a => R.bd mb fun b => R.bd mc fun c => R.bd md fun d => f a b c d) := by
  subst hE
  exact fun H1 e Q hq =>
  gr_seq ha e hq fun a v H2 e2 r hq2 => gr_seq hb (e.trans e2) hq2 fun b w H3 e3 r3 hq3 => gr_seq hc (e.trans (e2.trans e3)) hq3 fun c x H4 e4 r4 hq4 => gr_seq hd (e.trans (e2.trans (e3.trans e4))) hq4 fun d y H5 e5 r5 hq5 =>
    ⟨v, w, x, y, a, b, c, d, mix F H H5, rfl, mix_same hF (e.trans (e2.trans (e3.trans (e4.trans e5)))), Rp.mono ((mix_mono e3).trans ((mix_mono e4).trans (mix_mono e5))) r, Rp.mono ((mix_mono e4).trans (mix_mono e5)) r3, Rp.mono (mix_mono e5) r4, r5, wp_mono hq5 (fun b _ k v' H6 e6 r6 => k v' H6 e6 (Rp.mono (mix_mix (e.trans (e2.trans (e3.trans (e4.trans e5)))) e6) r6)) fun c _ z => z⟩
end
section
variable {X : Cx} {K : PySem.W.Frag}
theorem op_ltPK (h : X.K = K) (hu : X.A.units + 64 < cLine) : OpR X (compareOp .Lt) (rLtP K) := by subst h; exact op_ltP hu
theorem op_gtPK (h : X.K = K) (hu : X.A.units + 64 < cLine) : OpR X (compareOp .Gt) (rGtP K) := by subst h; exact op_gtP hu
theorem op_lePK (h : X.K = K) (hu : X.A.units + 64 < cLine) : OpR X (compareOp .LtE) (rLeP K) := by subst h; exact op_leP hu
theorem op_gePK (h : X.K = K) (hu : X.A.units + 64 < cLine) : OpR X (compareOp .GtE) (rGeP K) := by subst h; exact op_geP hu
theorem cr_minPK (h : X.K = K) (hc : X.calm = true) (hu : X.A.units + 64 < cLine) : CallR X (.builtin "min") (rMinP K) := by subst h; exact cr_minP hc hu
theorem cr_maxPK (h : X.K = K) (hc : X.calm = true) (hu : X.A.units + 64 < cLine) : CallR X (.builtin "max") (rMaxP K) := by subst h; exact cr_maxP hc hu
theorem cr_sortAK {α : Type} [Rp α] [De α] [Od α] (h : X.K = K) (hu : X.A.units + 64 < cLine) : CallR X (.builtin "sorted") (rSortA α K) := by subst h; exact cr_sortA hu
end
/-! ### try: .. except X: .. without a name -/
def tTryO (K : PySem.W.Frag) (c : Value) (tb : WX → TS) (ts : TS) : TS := fun D σ H => tb (wOnly K c (fun _ _ _ => ts) (fun _ _ _ _ => False) D) D σ H
section
variable {X : Cx} {x : Str} {c : Value} {body suite : List Stmt} {b₀ : Stmt} {np pos pos' : Pos} {tb : WX → TS} {ts : TS}
theorem ps_tryO (hs : X.stack = X.env :: X.outer) (hf : X.env.frame = some X.env.locals) (hc : Names X x c)
    (hb : ∀ (W : WX) (pn : List (Addr × Obj)) (xe : Value → Shared → Prop), Takes (X.tr pn xe) W → PassesOwn (model X.prog X.w) X.A X.env xe → PSs (X.tr pn xe) body (tb W))
    (hsu : ∀ (a : Addr) (pn : List (Addr × Obj)), PSs (X.suite a pn) (b₀ :: suite) ts) :
    PS X (.Try body [.ExceptHandler (some (.Name x np)) none (b₀ :: suite) pos'] [] [] pos) (tTryO X.K c tb ts) :=
  ps_try_only (Wout := fun _ _ _ _ => False) (ts := fun _ _ _ => ts) hs hf hc (fun _ _ ⟨_, _, _, _, _, _, _, _, _, _, _, _, _, _, _, _, w⟩ => w.elim) hb fun a oe _ _ pn _ _ => hsu a ((a, oe) :: pn)
end
section
variable {K : PySem.W.Frag} {E : XK} {σ : L2.St} {H0 F H : Hp} {D : Ends} {S : Type}
theorem s_tryO {cs : List Cn} {cv : Value} {ts : TS} {tb : WX → TS} {m : R S} {hand : Er → R S} {kq : S → Prop} (hF : Same F H) (e0 : Same H0 H) (hQ : Wp (catchR cs m hand) kq (EE K E H0))
    (hx : ∀ c ∈ cs, PySem.W.exmOne K (.ref (He.ga K c.nm)) cv = some true)
    (hh : ∀ er F' H', Nx0 F H F' H' → Same H0 H' → Wp (hand er) kq (EE K E H0) → ts D σ H')
    (hb : Wp m kq (EE K (WE (wOnly K cv (fun _ _ _ => ts) (fun _ _ _ _ => False) D) σ) H) → tb (wOnly K cv (fun _ _ _ => ts) (fun _ _ _ _ => False) D) D σ H) : tTryO K cv tb ts D σ H := by
  show tb _ D σ H
  refine hb ?_
  cases m with
  | ok s => exact hQ
  | bad => exact hQ.elim
  | er er =>
    have hQ2 : Wp (if er.cn ∈ cs then hand er else .bad) kq (EE K E H0) := hQ
    split at hQ2
    · rename_i hc
      cases er with
      | own c =>
        intro H' s
        exact ⟨true, hx _ hc, fun _ a ha => hh (.own c) _ _ (Nx.mk' hF s) (e0.trans s) hQ2, fun z => by cases z⟩
      | plan n =>
        intro d H' s hd _
        exact ⟨true, hx _ hc, fun _ a ha => hh (.plan n) _ _ (Nx.mk' hF s) (e0.trans s) hQ2, fun z => by cases z⟩
    · exact hQ2.elim
end
end G

set_option Elab.async false
set_option linter.all false
set_option maxRecDepth 100000
set_option maxHeartbeats 4000000
/-! G: list(reversed(xs)). -/
namespace G
open PySem PySem.Spec PyProof.Rows L2
section
variable {prog : Program} {w : World} {A : Around} {E : Value → Shared → Prop} {s : Shared} {it l S : Addr} {items : Array Value}
abbrev bk (items : Array Value) : Nat → Value → Prop := fun i v => items[items.size - 1 - i]? = some v
/-- an empty list takes what the iterator tells -/
theorem ext_rev {Z : Result → Shared → Prop} (hh : A.handled = none) (h1 : s.heap.IsRevIter it l ((items.size : Int) - 1)) (h2 : s.heap.IsList l items) (ne : l ≠ it) (hn : items.size ≤ sizeLine) (si : S ≠ it) (sl : S ≠ l) (res : Value) (c : Nat)
    (hS : s.heap.get? S = some { cls := .type "list", data := .seq #[] c })
    (k : ∀ h' tk a' c', (∀ b o, b ≠ S → b ≠ it → s.heap.get? b = some o → h'.get? b = some o) → h'.get? S = some { cls := .type "list", dict := none, data := .seq a' c', slots := #[] } → ItemsOf (bk items) a' items.size → Z (.ok (.ret res)) { s with heap := h', toks := tk }) :
    wpAny (model prog w) A.in1 (Builtin.List.listExtendWith (.ref S) (.ref it) res) (fun fin s' => match fin with | .done f => Z (.ok f) s' | .again c' => c'.quiet = true ∧ codeAny (model prog w) A c' Z s') (fun e s' => Z (.error e) s') s := by
  have W := (Walks.listRev (prog := prog) (w := w) (A := A.in1) hh it l ne items).toS
  have out : S ∉ [it, l] := by simp only [List.mem_cons, List.not_mem_nil, or_false, not_or]; exact ⟨si, sl⟩
  have ty : s.TypeIs (.ref it) "list_reverseiterator" := h1.typeIs
  have e1 : Builtin.List.listSameRef (.ref S) (.ref it) = false := by simp [Builtin.List.listSameRef, si]
  unfold Builtin.List.listExtendWith
  refine wpAny_bind (wpAny_typeOf ty ?_)
  rw [if_neg (by rw [e1]; decide)]
  refine wpAny_bind (wpAny_pyIter_revIter h1 ?_)
  refine wpAny_bind (wpAny_holding ?_)
  unfold Builtin.List.listLengthHint
  refine wpAny_bind (wpAny_specialOf ty RT.nolen_lri ?_)
  show wpAny _ A.in1 (specialOf (Value.ref it) (Str.ofString "__length_hint__") >>= _) _ _ _
  refine wpAny_bind (wpAny_specialOf ty RT.hint_lri ?_)
  generalize hid : ("list_reverseiterator.__length_hint__" : String) = id0
  wp_delta
  rw [show splitId id0 = some ("list_reverseiterator", "__length_hint__") from by subst hid; decide +kernel]
  subst hid
  refine wpAny_bind (wpAny_isInstance (b := true) ty (by rw [isSubtype_type]; kernel_rfl) ?_)
  refine wpAny_pure ?_
  rw [if_neg (by decide)]
  have e0 : ((items.size : Nat) : Int) - 1 - ((0 : Nat) : Int) = (items.size : Int) - 1 := by omega
  refine wpAny_pure ⟨plainId_quiet F.plain_extend_loop _, codeAny_extend_loopS W hn S out _ items.size 0 _ _ _ rfl (Nat.zero_le _) ⟨Nat.zero_le _, by rw [e0]; exact h1, h2⟩ hS (ItemsOf.nil _) fun s' a' c' hm hS' ha => ?_⟩
  rw [Moved.eq_with hm]
  exact k s'.heap s'.toks a' c' (fun b o b1 b2 e => hm.heap b o (fun m => by
    rcases List.mem_cons.mp m with z | z
    · exact b1 z
    · exact b2 (List.mem_singleton.mp z)) e) hS' ha
theorem list_rev {Q : Value → Shared → Prop} (hh : A.handled = none) (h1 : s.heap.IsRevIter it l ((items.size : Int) - 1)) (h2 : s.heap.IsList l items) (ne : l ≠ it) (hn : items.size ≤ sizeLine)
    (k : ∀ h' tk a' c', (∀ b o, b ≠ it → s.heap.get? b = some o → h'.get? b = some o) → h'.get? s.heap.objs.size = some { cls := .type "list", dict := none, data := .seq a' c', slots := #[] } → ItemsOf (bk items) a' items.size → Q (.ref s.heap.objs.size) { s with heap := h', toks := tk }) :
    wpAny (model prog w) A (call (.type "list") [.ref it]) Q E s := by
  refine callType_codes (Q₁ := fun obj s1 => obj = .ref s.heap.objs.size ∧ s1 = { s with heap := s.heap.push { cls := .type "list", data := .seq #[] } }) PySem.F.called_list (PySem.F.typeCall_list_1 _) PySem.F.entry_list_init (code_list_new _ ⟨rfl, rfl⟩) ?_
  rintro obj s1 ⟨rfl, rfl⟩
  obtain ⟨oi, hoi, _⟩ := id h1
  obtain ⟨ol, hol, _⟩ := id h2
  have si : s.heap.objs.size ≠ it := Nat.ne_of_gt (Heap.lt_size hoi)
  have sl : s.heap.objs.size ≠ l := Nat.ne_of_gt (Heap.lt_size hol)
  have hS : (s.heap.push { cls := .type "list", data := .seq #[] }).get? s.heap.objs.size = some { cls := .type "list", data := .seq #[] } := Heap.get?_push_size _ rfl
  refine ⟨⟨_, hS, rfl⟩, PySem.F.args_list_init_2 _ _, ?_⟩
  generalize hP : s.heap.push { cls := .type "list", data := .seq #[] } = hp at hS
  have h1' : hp.IsRevIter it l ((items.size : Int) - 1) := by rw [← hP]; exact h1.at fun o e => Heap.get?_push_of_some _ e
  have h2' : hp.IsList l items := by rw [← hP]; exact h2.push _
  show wpAny _ _ (do let old ← Builtin.List.listItems (.ref s.heap.objs.size); Builtin.List.listUpdate (.ref s.heap.objs.size) (fun _ => #[]); letGo old.toList.reverse; Builtin.List.listExtendWith (.ref s.heap.objs.size) (.ref it) .none) _ _ _
  refine wpAny_bind ?_
  unfold Builtin.List.listItems
  refine wpAny_bind (wpAny_seqItems hS rfl (wpAny_pure ?_))
  show wpAny _ _ (updateSeq s.heap.objs.size (fun _ => #[]) >>= fun _ => letGo (#[] : Array Value).toList.reverse >>= fun _ => Builtin.List.listExtendWith (.ref s.heap.objs.size) (.ref it) .none) _ _ _
  refine wpAny_bind (wpAny_updateSeq hS rfl ?_)
  have hS2 := Heap.get?_update_self (Obj.mapSeq (fun _ => (#[] : Array Value))) hS rfl
  have oth : ∀ b o, b ≠ s.heap.objs.size → hp.get? b = some o → (hp.update s.heap.objs.size (Obj.mapSeq (fun _ => (#[] : Array Value)))).get? b = some o := fun b o hb e => (Heap.get?_update_other _ _ (Ne.symm hb)).trans e
  refine wpAny_bind (wpAny_letGo ?_)
  obtain ⟨oi2, hoi2, g3, g4⟩ := h1'
  obtain ⟨ol2, hol2, g5, g6⟩ := h2'
  refine ext_rev (A := A.in1) hh ⟨oi2, oth _ _ (Ne.symm si) hoi2, g3, g4⟩ ⟨ol2, oth _ _ (Ne.symm sl) hol2, g5, g6⟩ ne hn si sl .none _ hS2 fun h' tk a' c' hk hS' ha => ?_
  refine ⟨rfl, k h' tk a' c' (fun b o b2 e => ?_) hS' ha⟩
  have bS : b ≠ s.heap.objs.size := Nat.ne_of_lt (Heap.lt_size e)
  refine hk b o bS b2 (oth b o bS ?_)
  rw [← hP]
  exact Heap.get?_push_of_some _ e
end
def tListRev (K : PySem.W.Frag) (te : TE) : TE := fun σ H Q => te σ H fun v H1 => ∃ (a : Addr) (xs : List V), v = .ref a ∧ SqL K H1 a xs ∧ ∀ q, H1 q = none → Q (.ref q) (upd H1 q (.lst xs.reverse))
section
variable {X : Cx}
theorem pe_listRev {e : Expr} {te : TE} {p p2 pos pos2 : Pos} (hc : X.calm = true) (hg : Gl X "list") (hm : X.mg "list" = none) (hg2 : Gl X "reversed") (hm2 : X.mg "reversed" = none) (he : PE X e te)
    (hs : starEach [e] X.env = (false, eval e X.env) :: starEach [] X.env := by rfl) (hs2 : starEach [.Call (.Name "reversed" p2) [e] [] pos2] X.env = (false, eval (.Call (.Name "reversed" p2) [e] [] pos2) X.env) :: starEach [] X.env := by rfl) :
    PE X (.Call (.Name "list" p) [.Call (.Name "reversed" p2) [e] [] pos2] [] pos) (tListRev X.K te) := by
  refine ⟨fun pins s σ H Q I h => ?_⟩
  refine Call_ (ld_blt I hg hm PyProof.Rows.boot_list (PyProof.Rows.callWith_type1 (args_cons (Call_ (ld_blt I hg2 hm2 PyProof.Rows.boot_reversed (PyProof.Rows.callWith_type1 (args_cons (thn (he.run pins s σ H _ I h) fun u s1 ⟨v, H1, I1, r1, q1⟩ => args_nil ?_) hs) hs rfl))) hs2) hs2 rfl))
  obtain ⟨a, xs, ev, hq, q⟩ := q1
  subst ev
  obtain rfl : u = Value.ref a := r1
  obtain ⟨its, rv, p', hz⟩ := I1.list hq
  refine call_reversed_list p'.isList (args_nil ?_)
  have hl := p'.isList
  obtain ⟨ol, hol, _⟩ := id hl
  have ne : a ≠ s1.heap.objs.size := Nat.ne_of_lt (Heap.lt_size hol)
  have hn : its.toArray.size ≤ sizeLine := by rw [List.size_toArray, ← rv.length]; exact hz
  refine list_rev (s := { s1 with heap := s1.heap.push (revObj a ((its.toArray.size : Int) - 1)) }) (I1.ok.hd hc) ⟨_, Heap.get?_push_size _ rfl, rfl, rfl⟩ (hl.push _) ne hn fun h' tk acc c hk hS hi => ?_
  have le : s1.heap.objs.size ≤ (s1.heap.push (revObj a ((its.toArray.size : Int) - 1))).objs.size := by rw [Heap.size_push]; omega
  have kp : ∀ b o, s1.heap.get? b = some o → h'.get? b = some o := fun b o e => hk b o (Nat.ne_of_lt (Heap.lt_size e)) (Heap.get?_push_of_some _ e)
  refine ⟨V.ref _, upd H1 _ (.lst xs.reverse), I1.laid (t' := tk) kp le ⟨by rw [List.length_reverse]; exact hz, acc.toList, c, RT.vals_rev rv hi, ?_⟩, rfl, q _ (I1.hok.fresh le)⟩
  rw [Array.toArray_toList]
  exact hS
end
section
variable {K : PySem.W.Frag} {E : XK} {σ : L2.St} {F H : Hp} {te : TE} {α : Type} [Rp α]
theorem g_listRev {m : R (List α)} (h : Gr K E te σ F H m) (hF : Same F H) : Gr K E (tListRev K te) σ F H (R.bd m fun xs => .ok xs.reverse) := fun H1 e Q hq =>
  gr_seq h e hq fun xs v H2 e2 r hq2 => by
    obtain ⟨p, vs, rfl, hp, hv⟩ := r
    refine ⟨p, vs, rfl, SqL.of (mix_same hF (e.trans e2) p _ hp), fun l hl => hq2 _ _ (same_upd hl) ?_⟩
    have hn : H l = none := Same.free (e.trans e2) hl
    exact ⟨l, _, rfl, by rw [mix_new hn]; exact upd_same, (hv.mono fun _ _ x => Rp.mono (mix_mono (same_upd hl)) x).reverse⟩
theorem g_listRevS [Sc α] {m : R (List α)} (h : Gr K E te σ H H m) : Gr K E (tListRev K te) σ F H (R.bd m fun xs => .ok xs.reverse) := fun H1 e Q hq =>
  h H1 e _ (by
    rw [wp_bd] at hq
    refine wp_mono hq (fun xs _ k v H2 e2 r => ?_) fun _ _ z => z
    obtain ⟨p, vs, rfl, hp, hv⟩ := r
    exact ⟨p, vs, rfl, SqL.of (mix_same (Same.refl _) (e.trans e2) p _ hp), fun l hl => k _ _ (e2.trans (same_upd hl)) (reps_at (by rw [mix_new (Same.free (e.trans e2) hl)]; exact upd_same) hv.reverse)⟩)
end
end G

set_option Elab.async false
set_option linter.all false
set_option maxRecDepth 100000
set_option maxHeartbeats 4000000
/-! G: what rests on tuples alone; dicts whose keys are tuples of ints. -/
namespace G
open PySem PySem.Spec PyProof.Rows L2
/-- what rests on tuples alone tells the same wherever they are seen -/
class Im (α : Type) [Rp α] : Prop where
  mv : ∀ {K : PySem.W.Frag} {F F' : Hp} {v : V} {a : α}, (∀ p xs, F p = some (.tup xs) → F' p = some (.tup xs)) → Rp.rep K F v a → Rp.rep K F' v a
theorem im_all {α : Type} [Rp α] [Im α] {K : PySem.W.Frag} {F F' : Hp} (e : ∀ p xs, F p = some (.tup xs) → F' p = some (.tup xs)) {vs : List V} {xs : List α} (h : All2 (Rp.rep K F) vs xs) : All2 (Rp.rep K F') vs xs := h.mono fun _ _ r => Im.mv e r
instance : Im Int := ⟨fun _ h => h⟩
instance : Im Bool := ⟨fun _ h => h⟩
instance : Im Str := ⟨fun _ h => h⟩
instance : Im Unit := ⟨fun _ h => h⟩
instance {α : Type} [Rp α] [Im α] : Im (Option α) := ⟨fun {K F F' v a} e h => by
  cases a with
  | none => exact h
  | some a => exact ⟨h.1, Im.mv e h.2⟩⟩
instance {α β : Type} [Rp α] [Rp β] [Im α] [Im β] : Im (α × β) := ⟨fun e ⟨p, x, y, h1, h2, h3, h4⟩ => ⟨p, x, y, h1, e _ _ h2, Im.mv e h3, Im.mv e h4⟩⟩
instance {α β γ : Type} [Rp α] [Rp β] [Rp γ] [Im α] [Im β] [Im γ] : Im (T3 α β γ) := ⟨fun e ⟨p, x, y, z, h1, h2, h3, h4, h5⟩ => ⟨p, x, y, z, h1, e _ _ h2, Im.mv e h3, Im.mv e h4, Im.mv e h5⟩⟩
instance {α : Type} [Rp α] [Im α] : Im (Tu α) := ⟨fun e ⟨p, vs, h1, h2, h3⟩ => ⟨p, vs, h1, e _ _ h2, im_all e h3⟩⟩
theorem tup_mix {F H H2 H3 : Hp} (e : Same H H2) (e3 : Same H2 H3) {p : Addr} {xs : List V} (h : H2 p = some (.tup xs)) : mix F H H3 p = some (.tup xs) := by
  cases z : H p with
  | none => rw [mix_new z]; exact e3 _ _ h
  | some u =>
    have := e p u z
    rw [h] at this
    cases this
    exact mix_tup z rfl
theorem tup_le {F H : Hp} (e : Same F H) : ∀ p xs, F p = some (.tup xs) → H p = some (.tup xs) := fun p xs h => e p _ h
section
variable {K : PySem.W.Frag} {E : XK} {σ : L2.St} {H0 F H F' H' : Hp} {ta tb te tl to ti tk tv td : TE} {t u : TT} {α β γ δ ρ : Type} [Rp α] [Rp β] [Rp γ] [Rp δ] [Rp ρ] {D : Ends} {b : Bool}
theorem g_im [Im α] {G : Hp} (hG : Same G H) {m : R α} (h : Gr K E te σ G H m) : Gr K E te σ F H m := fun H1 e Q hq =>
  h H1 e Q (wp_mono hq (fun a _ k v H2 e2 r => k v H2 e2 (Im.mv (fun p xs q => tup_mix (e.trans e2) (Same.refl _) (mix_same hG (e.trans e2) _ _ q)) r)) fun _ _ z => z)
/-- a list of such, made anew -/
theorem reps_atI [Im α] {G H2 H3 : Hp} {p : Addr} {vs : List V} {xs : List α} (hG : Same G H2) (e : Same H H2) (e3 : Same H2 H3) (h : mix F H H3 p = some (.lst vs)) (hv : All2 (Rp.rep K G) vs xs) : Rp.rep K (mix F H H3) (.ref p) xs :=
  ⟨p, vs, rfl, h, im_all (fun q ys z => tup_mix e e3 (hG _ _ z)) hv⟩
theorem g_listI [Im α] {m : R (List α)} (h : Gr K E ta σ H H m) : Gr K E (tCB (rListOf K) (tCons ta tNil)) σ F H m := fun H1 e Q hq =>
  h H1 e _ (wp_mono hq (fun xs _ k v H2 e2 r => by
    obtain ⟨p, vs, rfl, hp, hv⟩ := r
    have s2 := mix_same (Same.refl _) (e.trans e2)
    exact ⟨p, vs, rfl, .inl (SqL.of (s2 p _ hp)), fun l hl => k _ _ (e2.trans (same_upd hl)) (reps_atI s2 (e.trans e2) (same_upd hl) (by rw [mix_new (Same.free (e.trans e2) hl)]; exact upd_same) hv)⟩) fun _ _ z => z)
theorem g_listTI [Im α] {m : R (Tu α)} (h : Gr K E ta σ H H m) : Gr K E (tCB (rListOf K) (tCons ta tNil)) σ F H (R.bd m fun t => .ok t.l) := fun H1 e Q hq =>
  h H1 e _ (by
    rw [wp_bd] at hq
    refine wp_mono hq (fun xs _ k v H2 e2 r => ?_) fun _ _ z => z
    obtain ⟨p, vs, rfl, hp, hv⟩ := r
    have s2 := mix_same (Same.refl _) (e.trans e2)
    exact ⟨p, vs, rfl, .inr (SqT.of (s2 p _ hp)), fun l hl => k _ _ (e2.trans (same_upd hl)) (reps_atI s2 (e.trans e2) (same_upd hl) (by rw [mix_new (Same.free (e.trans e2) hl)]; exact upd_same) hv)⟩)
theorem g_tupleI [Im α] {m : R (List α)} (h : Gr K E ta σ H H m) : Gr K E (tCB (rTupOf K) (tCons ta tNil)) σ F H (R.bd m fun l => .ok (Tu.mk l)) := fun H1 e Q hq =>
  h H1 e _ (by
    rw [wp_bd] at hq
    refine wp_mono hq (fun xs _ k v H2 e2 r => ?_) fun _ _ z => z
    obtain ⟨p, vs, rfl, hp, hv⟩ := r
    have s2 := mix_same (Same.refl _) (e.trans e2)
    exact ⟨p, vs, rfl, .inl ⟨SqL.of (s2 p _ hp), fun l hl => k _ _ (e2.trans (same_upd hl)) ⟨l, vs, rfl, by rw [mix_new (Same.free (e.trans e2) hl)]; exact upd_same, im_all (fun q ys z => tup_mix (e.trans e2) (same_upd hl) (s2 _ _ z)) hv⟩⟩⟩)
theorem g_tupleTI {m : R (Tu α)} (h : Gr K E ta σ F H m) (hF : Same F H) : Gr K E (tCB (rTupOf K) (tCons ta tNil)) σ F H m := fun H1 e Q hq =>
  h H1 e _ (wp_mono hq (fun xs _ k v H2 e2 r => by
    obtain ⟨p, vs, rfl, hp, hv⟩ := r
    exact ⟨p, vs, rfl, .inr ⟨SqT.of (mix_same hF (e.trans e2) p _ hp), k _ H2 e2 ⟨p, vs, rfl, hp, hv⟩⟩⟩) fun _ _ z => z)
theorem g_cutI [Im α] {tlo thi : TO} {m : R (List α)} {mlo mhi : R (Option Int)} (h : Gr K E ta σ H H m) (hlo : GrO K E tlo σ H mlo) (hhi : GrO K E thi σ H mhi) :
    Gr K E (tSl (rSlL K) ta tlo thi) σ F H (R.bd m fun xs => R.bd mlo fun lo => R.bd mhi fun hi => .ok (cut xs lo hi)) := fun H1 e Q hq =>
  gr_arg h e hq fun xs v H2 e2 r hq2 => gro_seq hlo (e.trans e2) hq2 fun lo H3 e3 hq3 => gro_seq hhi (e.trans (e2.trans e3)) hq3 fun hi H4 e4 hq4 => by
    obtain ⟨p, vs, rfl, hp, hv⟩ := r
    exact ⟨p, vs, rfl, SqL.of (e4 p _ (e3 p _ hp)), fun l hl => hq4 _ _ (same_upd hl) (reps_atI (Same.refl _) (e.trans e2) ((e3.trans e4).trans (same_upd hl)) (by rw [mix_new (Same.free (e.trans (e2.trans (e3.trans e4))) hl)]; exact upd_same) (all2_cut hv))⟩
theorem g_catI [Im α] {ma mb : R (List α)} (ha : Gr K E ta σ H H ma) (hb : Gr K E tb σ H H mb) : Gr K E (tOp rCat ta tb) σ F H (R.bd ma fun a => R.bd mb fun b => gd (a.length + b.length ≤ lim) (.ok (a ++ b))) := fun H1 e Q hq =>
  gr_arg ha e hq fun a v H2 e2 r hq2 => gr_arg hb (e.trans e2) hq2 fun b w H3 e3 r3 hq3 => by
    obtain ⟨p, vs, rfl, hp, hv⟩ := r
    obtain ⟨q, ws, rfl, hq', hw⟩ := r3
    unfold gd at hq3
    split at hq3
    · rename_i c
      refine ⟨p, q, vs, ws, rfl, rfl, e3 p _ hp, hq', lim_line (by rw [hv.length, hw.length]; exact c), fun l hl => hq3 _ _ (same_upd hl) (reps_atI (G := H3) (Same.refl _) (e.trans (e2.trans e3)) (same_upd hl) (by rw [mix_new (Same.free (e.trans (e2.trans e3)) hl)]; exact upd_same) ((hv.mono fun _ _ x => Rp.mono e3 x).append hw))⟩
    · exact hq3.elim
theorem g_repI [Im α] {ma : R (List α)} {mb : R Int} (ha : Gr K E ta σ H H ma) (hb : Gr K E tb σ H H mb) : Gr K E (tOp rRep ta tb) σ F H (R.bd ma fun a => R.bd mb fun b => repR a b) := fun H1 e Q hq =>
  gr_arg ha e hq fun a v H2 e2 r hq2 => gr_arg hb (e.trans e2) hq2 fun b w H3 e3 r3 hq3 => by
    obtain ⟨p, vs, rfl, hp, hv⟩ := r
    have r3' : w = .int b := r3
    subst r3'
    unfold repR gd at hq3
    split at hq3
    · rename_i c
      refine ⟨p, b, vs, rfl, rfl, e3 p _ hp, by omega, by omega, lim_line (by rw [hv.length]; exact c.2.2), fun l hl => hq3 _ _ (same_upd hl) (reps_atI (G := H2) (Same.refl _) (e.trans e2) (e3.trans (same_upd hl)) (by rw [mix_new (Same.free (e.trans (e2.trans e3)) hl)]; exact upd_same) (all2_rep hv _))⟩
    · exact hq3.elim
theorem g_listRevI [Im α] {m : R (List α)} (h : Gr K E te σ H H m) : Gr K E (tListRev K te) σ F H (R.bd m fun xs => .ok xs.reverse) := fun H1 e Q hq =>
  h H1 e _ (by
    rw [wp_bd] at hq
    refine wp_mono hq (fun xs _ k v H2 e2 r => ?_) fun _ _ z => z
    obtain ⟨p, vs, rfl, hp, hv⟩ := r
    have s2 := mix_same (Same.refl _) (e.trans e2)
    exact ⟨p, vs, rfl, SqL.of (s2 p _ hp), fun l hl => k _ _ (e2.trans (same_upd hl)) (reps_atI s2 (e.trans e2) (same_upd hl) (by rw [mix_new (Same.free (e.trans e2) hl)]; exact upd_same) hv.reverse)⟩)
/-- a comprehension that tells such, over anything -/
theorem g_compI [Im β] {wi : TI} {g : TG} {tt : TT} {te : TE} {vs : List Nat} {m : R (List α)} {cf : α → R Bool} {f : α → R β} (hi : GrI K E wi σ H H m)
    (hel : ∀ x v F2 H2, Same H F2 → Same F2 H2 → Same H H2 → Rp.rep K F2 v x → ∃ σ2, (∀ Q : L2.St → Hp → Prop, Q σ2 H2 → g v (wipe σ vs) H2 Q) ∧ wipe σ2 vs = wipe σ vs ∧ GrT K EF tt σ2 H2 (cf x) ∧ Gr K EF te σ2 F2 H2 (f x)) :
    Gr K E (tLc wi g tt te vs) σ F H (R.bd m fun xs => compR xs cf f) := g_compG (fun H3 Dl acc ys h => im_all (fun p xs q => by
      rcases mix_cases (del_le _ _ q) with ⟨z, h⟩ | ⟨z, t⟩ | ⟨y, z, t, h⟩
      · rw [mix_new z]; exact h
      · exact mix_tup z t
      · rw [z] at h
        cases h
        cases t) h) hi (Same.refl _) hel
/-! ### lists of such that become ours -/
theorem Own.repI [Im α] {p : Addr} {xs : List α} (o : Own K H0 b F H p xs) (hF : Same F H) : Rp.rep K (dif H0 H) (.ref p) xs := by
  obtain ⟨h0, f, vs, h, r⟩ := o.lst
  exact ⟨p, vs, rfl, dif_of h0 h, im_all (fun q ys z => dif_tup rfl ((bs_le.trans hF) _ _ z)) r⟩
theorem Own.frzI [Im α] {p : Addr} {xs : List α} (o : Own K H0 b F H p xs) (hF : Same F H) : ∃ F', Same F F' ∧ Same F' H ∧ (∀ q, q ≠ p → F' q = F q) ∧ Rp.rep K (dif H0 F') (.ref p) xs := by
  obtain ⟨F', h1, h2, h3, h4, h5⟩ := o.frz hF
  obtain ⟨q, vs, e, h, r⟩ := h4
  cases e
  exact ⟨F', h1, h2, h3, p, vs, rfl, dif_of o.h0 h, im_all (fun q ys z => dif_tup rfl z) r⟩
/-- what is told is new, its one object becomes ours -/
theorem s_asgC {τ : Type} [Rp τ] [Cel τ] {i : Nat} {m : R τ} {k : τ → R β} {kk : β → Prop} (he : Gr K E te σ nil0 H m) (hF : Same F H) (e0 : Same H0 H)
    (hc : ∀ {H2 : Hp} {v : V} {a : τ}, Same H H2 → Rp.rep K (mix nil0 H H2) v a → ∃ p o, v = .ref p ∧ H p = none ∧ H2 p = some o ∧ tupB (some o) = false ∧ Cel.cel K (Bs H0 (delH (mix F H H2) p) b) o a)
    (hQ : Wp (R.bd m k) kk (EE K E H0))
    (c : ∀ a p F' H', Nx0 F H F' H' → Same H0 H' → Own K H0 b F' H' p a → (∀ q, (∃ u, H q = some u) → q ≠ p) → Wp (k a) kk (EE K E H0) → D.nx (σ.set i (some (.ref p))) H') : tAsg te (gName i) D σ H := by
  refine he H (Same.refl _) _ ?_
  rw [wp_bd] at hQ
  refine wp_mono hQ (fun a _ q v H2 e2 r => ?_) fun c _ z => z.mono e0
  obtain ⟨p, o, rfl, hn, hp2, ho, hcel⟩ := hc e2 r
  refine c a p (delH (mix F H H2) p) H2 ⟨fun x o h => ?_, fun x o _ h => e2 x o h, fun x o h => ?_, fun x o z h n => ?_, fun x o h => ⟨o, e2 x o h, rfl⟩⟩ (e0.trans e2) ⟨Same.free e0 hn, delH_same, o, hp2, hcel⟩ (fun z ⟨u, hu⟩ e => by rw [e, hn] at hu; cases hu) q
  · have : x ≠ p := fun z => by
      rw [z] at h
      have := hF p o h
      rw [hn] at this
      cases this
    rw [delH_ne this]
    exact same_mix hF x o h
  · unfold delH at h
    split at h
    · cases h
    · exact mix_same hF e2 x o h
  · unfold delH
    split
    · rfl
    · rw [mix_old h z]
      exact n
theorem tup_bs {H2 : Hp} {p : Addr} (e0 : Same H0 H) (e2 : Same H H2) (hp : ∀ xs, H2 p ≠ some (.tup xs)) : ∀ q ys, mix nil0 H H2 q = some (.tup ys) → Bs H0 (delH (mix F H H2) p) b q = some (.tup ys) := fun q ys z => by
  have h2 := mix_same nil_same e2 _ _ z
  have h3 : delH (mix F H H2) p q = some (.tup ys) := by
    rw [delH_ne (fun w => hp ys (by rw [← w]; exact h2))]
    exact mix_ff nil_same _ _ z
  cases b with
  | true => exact dif_tup rfl h3
  | false => exact h3
theorem lst_new {H2 : Hp} {v : V} {a : List α} [Im α] (e0 : Same H0 H) (e2 : Same H H2) (r : Rp.rep K (mix nil0 H H2) v a) : ∃ p o, v = .ref p ∧ H p = none ∧ H2 p = some o ∧ tupB (some o) = false ∧ Cel.cel K (Bs H0 (delH (mix F H H2) p) b) o a := by
  obtain ⟨p, vs, rfl, hp, hv⟩ := r
  have pn : H p = none ∧ H2 p = some (.lst vs) := by
    rcases mix_cases hp with z | ⟨_, z⟩ | ⟨_, _, _, z⟩
    · exact z
    · cases z
    · cases z
  obtain ⟨hn, hp2⟩ := pn
  exact ⟨p, _, rfl, hn, hp2, rfl, vs, rfl, im_all (tup_bs e0 e2 fun xs z => by rw [hp2] at z; cases z) hv⟩
theorem s_asgI [Im α] {i : Nat} {m : R (List α)} {k : List α → R β} {kk : β → Prop} (he : Gr K E te σ nil0 H m) (hF : Same F H) (e0 : Same H0 H) (hQ : Wp (R.bd m k) kk (EE K E H0))
    (c : ∀ a p F' H', Nx0 F H F' H' → Same H0 H' → Own K H0 b F' H' p a → (∀ q, (∃ u, H q = some u) → q ≠ p) → Wp (k a) kk (EE K E H0) → D.nx (σ.set i (some (.ref p))) H') : tAsg te (gName i) D σ H :=
  s_asgC he hF e0 (fun e2 r => lst_new e0 e2 r) hQ c
end
end G

set_option Elab.async false
set_option linter.all false
set_option maxRecDepth 100000
set_option maxHeartbeats 4000000
/-! G: enumerate of tuples; lists and tuples alike. -/
namespace G
open PySem PySem.Spec PyProof.Rows L2
open Sem (wp)
theorem meets_enum_new {v : Value} {o : Obj} {Hq : Heap → Prop} (B : Begins v o Hq) :
    Meets (Builtin.«enumerate.__new__» ⟨[.type "enumerate", v], []⟩) (fun _ Z s => Hq s.heap ∧ Z (.ok (.ret (.ref (s.heap.push o).objs.size))) { s with heap := (s.heap.push o).push { cls := .type "enumerate", data := .fields #[.none, .bool false, .ref s.heap.objs.size, rawInt 0, .none, .none] } }) :=
  .of_wp fun prog w A Z s hz => by
    obtain ⟨hp, g, d, tk, os⟩ := s; obtain ⟨h1, hz⟩ := hz
    have hsub := sub_enumerate
    have it : ∀ {A' : Around} {E' : Value → Shared → Prop} {Q : Value → Shared → Prop}, Q (.ref hp.objs.size) ⟨hp.push o, g, d, tk, os⟩ → wpAny (model prog w) A' (pyIter v) Q E' ⟨hp, g, d, tk, os⟩ := fun q => B.iter prog w _ _ ⟨hp, g, d, tk, os⟩ _ h1 q
    wp_walk using it
    refine wpAny_stack_any fun st => wpAny_pure ?_
    split
    · rename_i c _ _ _ _ _
      cases (c == Value.type "enumerate")
      all_goals (wp_walk using it; exact ⟨_, rfl, hz⟩)
    · wp_walk using it
      exact ⟨_, rfl, hz⟩
section
variable {prog : Program} {w : World} {A : Around} {E : Value → Shared → Prop} {s : Shared}
theorem call_enum_tup {l : Addr} {items : Array Value} {Q : Value → Shared → Prop} (hL : s.heap.IsTuple l items)
    (k : ∀ h', IsEnum h' (s.heap.objs.size + 1) s.heap.objs.size 0 .none → h'.IsTupleIter s.heap.objs.size l 0 → (∀ b o, s.heap.get? b = some o → h'.get? b = some o) → Q (.ref (s.heap.objs.size + 1)) { s with heap := h' }) :
    wpAny (model prog w) A (call (.type "enumerate") [.ref l]) Q E s := by
  refine callType_new F.called_enumerate (by decide) (F.typeCall_enumerate_1 _) (F.newCall_enumerate_1 _) (fun obj => F.args_object_init_2 obj _) F.entry_enumerate_new (meets_enum_new (begins_tuple l items)) ⟨hL, ?_⟩
  have hz : (s.heap.push { cls := .type "tuple_iterator", data := .fields #[.ref l, .int 0 0] }).objs.size = s.heap.objs.size + 1 := Heap.size_push ..
  show _ ∧ _
  rw [hz]
  have he : IsEnum ((s.heap.push { cls := .type "tuple_iterator", data := .fields #[.ref l, .int 0 0] }).push { cls := .type "enumerate", data := .fields #[.none, .bool false, .ref s.heap.objs.size, rawInt 0, .none, .none] }) (s.heap.objs.size + 1) s.heap.objs.size 0 .none := by
    have q := Heap.get?_push_size (s.heap.push { cls := .type "tuple_iterator", data := .fields #[.ref l, .int 0 0] }) (o := { cls := .type "enumerate", data := .fields #[.none, .bool false, .ref s.heap.objs.size, rawInt 0, .none, .none] }) rfl
    rw [hz] at q
    exact q
  exact ⟨⟨_, he, rfl⟩, k _ he ⟨_, Heap.get?_push_of_some _ (Heap.get?_push_size _ rfl), rfl, rfl⟩ fun b o x => Heap.get?_push_of_some _ (Heap.get?_push_of_some _ x)⟩
end
/-- the turns of enumerate(a tuple) -/
def IteT (K : PySem.W.Frag) (a : Addr) : It :=
  ⟨fun i H => ∃ (xs : List V) (x : V), SqT K H a xs ∧ xs[i]? = some x, fun i H v H' => ∃ T x, v = .ref T ∧ H T = none ∧ H' = upd H T (.tup [.int (i : Nat), x]) ∧ ∀ xs, SqT K H a xs → xs[i]? = some x, fun i H => ∃ xs : List V, SqT K H a xs ∧ xs.length ≤ i⟩
theorem turn_enumT {P : Program} {w : World} {K : PySem.W.Frag} {elts : List Expr} {kk : Nat} {tpos : Pos} (a e it : Addr) :
    Turn P w K (.Tuple elts kk tpos) (IteT K a) [e, it] e (fun i h => (∃ old, IsEnum h e it ((i : Nat) : Int) old) ∧ h.IsTupleIter it a i ∧ e ≠ it ∧ a ≠ e ∧ a ≠ it) where
  mem := by simp
  obj := fun i h st b hb => by
    obtain ⟨⟨old, he⟩, ⟨o, ho, hc, hd⟩, _⟩ := st
    have e' : b = e ∨ b = it := by simpa using hb
    rcases e' with z | z
    · rw [z]; exact ⟨_, he, fun v q => nomatch q⟩
    · rw [z]; exact ⟨o, ho, fun v q => by rw [hd] at q; cases q⟩
  keep := fun i h h' st k => let ⟨⟨old, he⟩, hi, n1, n2, n3⟩ := st; ⟨⟨old, k e (by simp) _ he⟩, hi.at fun o q => k it (by simp) o q, n1, n2, n3⟩
  item := by
    intro X hP hw hK hc i pins s σ H E I hf st hg
    subst hP hw hK
    obtain ⟨⟨old, he⟩, hit, hne, ae, ai⟩ := st
    obtain ⟨xs, x, hq, hx⟩ := hg
    obtain ⟨its, rv, p, hz⟩ := I.tuple hq
    obtain ⟨u, hu, ru⟩ := rv.get hx
    have hel : e < s.heap.objs.size := Heap.lt_size he
    have hil : it < s.heap.objs.size := by obtain ⟨_, q, _⟩ := hit; exact Heap.lt_size q
    have hi : i < its.toArray.size := by rw [List.size_toArray]; exact (List.getElem?_eq_some_iff.mp hu).1
    have hef : e ∉ [it, a] := by simp only [List.mem_cons, List.not_mem_nil, or_false, not_or]; exact ⟨hne, fun z => ae z.symm⟩
    refine wpAny_pyNext_enum_itemD (Draws.tuple (A := X.A.in1) (I.ok.hd hc) it a ai its.toArray) he ⟨hit, p⟩ hi hne hef fun y h' tk hy ho st' hT hsz hk => ?_
    have ey : y = u := by
      have hy' : its[i]? = some y := by simpa using hy
      rw [hu] at hy'
      exact (Option.some.inj hy').symm
    subst ey
    refine ⟨_, rfl, wpAny_letOwnedTupleGo_enum (s := { s with heap := h', toks := tk + 1 }) ho fun h'' he' sb => ?_⟩
    have hT2 : h''.get? s.heap.objs.size = some { cls := .type "tuple", data := .seq #[.int i tk, y] } := (sb.2 _ (Nat.ne_of_gt hel)).trans hT
    have new : ObjOk X.prog X.w (upd H s.heap.objs.size (.tup [.int (i : Nat), x])) h'' s.heap.objs.size (.tup [.int (i : Nat), x]) := ⟨by show 2 ≤ sizeLine; decide, [.int i tk, y], .cons ⟨_, rfl⟩ (.cons ru .nil), ⟨_, hT2, rfl, _, rfl⟩⟩
    have I1 : Inv X pins σ (upd H s.heap.objs.size (.tup [.int (i : Nat), x])) { s with heap := h'', toks := tk + 1 } :=
      I.turnedNew (ch := [e, it]) (fun b ob hb q => (sb.2 b (fun z => hb (by simp [z]))).trans (hk b ob (fun z => hb (by simp [z])) (fun z => hb (by simp [z])) q)) hf (Nat.le_refl _) new
    refine ⟨.ref s.heap.objs.size, _, I1, rfl, ⟨_, x, rfl, I.hok.fresh (Nat.le_refl _), rfl, fun ys hy => by rw [I.tuple_inj hy hq]; exact hx⟩, ⟨⟨y, ?_⟩, st'.1.at fun o q => (sb.2 it (Ne.symm hne)).trans q, hne, ae, ai⟩, fun b hb => ?_⟩
    · rw [show ((i + 1 : Nat) : Int) = (i : Int) + 1 by omega]; exact he'
    · have hb' : b < s.heap.objs.size := by
        have e' : b = e ∨ b = it := by simpa using hb
        rcases e' with z | z
        · rw [z]; exact hel
        · rw [z]; exact hil
      rw [upd_ne (Nat.ne_of_lt hb')]
      exact (hf b hb).1
  done := by
    intro X hP hw hK hc i pins s σ H E I hf st hg
    subst hP hw hK
    obtain ⟨⟨old, he⟩, hit, hne, ae, ai⟩ := st
    obtain ⟨xs, hq, hx⟩ := hg
    obtain ⟨its, rv, p, hz⟩ := I.tuple hq
    obtain ⟨f0, f1, f2, f3, f4, f5⟩ := hf it (by simp)
    have hl := rv.length
    have D := Draws.tuple (prog := X.prog) (w := X.w) (A := X.A.in1) (I.ok.hd hc) it a ai its.toArray
    unfold pyNext
    have hT : s.TypeIs (.ref e) "enumerate" := ⟨_, he, rfl⟩
    refine wpAny_bind (wpAny_attempt (wpAny_callSpecial?_slot (name := Str.ofString "__next__") hT F.slot_enumerate_next (wpAny_call_entry F.slot_enumerate_next hT F.entry_enumerate_next ?_ (F.args_enumerate_next_1 _))))
    show wpAny _ _ (field (.ref e) 2 >>= _) _ _ _
    refine wpAny_bind (wpAny_field he rfl (x := .ref it) rfl ?_)
    refine wpAny_bind (wpAny_nextOf_tuple_end (A := X.A.in1) (I.ok.hd hc) hit (show s.heap.IsTuple a its.toArray from p) (by simp; omega) fun h' x eb hx' => ?_)
    obtain ⟨o, ho, hc⟩ := hx'
    refine wpAny_bind (wpAny_isInstance (T := "StopIteration") (b := true) ⟨o, ho, hc⟩ isSubtype_stop ?_)
    exact wpAny_pure ⟨rfl, I.turned (t' := s.toks) (fun b o hb q => eb b o hb q) f0 f1 f3 f4 f5⟩
  self := fun A i s Q E st h => let ⟨⟨_, he⟩, _⟩ := st; wpAny_pyIter_enum he h
def iEnumA (K : PySem.W.Frag) (ta : TA) : TI := fun σ H R => ta σ H fun vs H1 => ∃ a xs, vs = [.ref a] ∧ ((SqL K H1 a xs ∧ R (Ite K a) H1) ∨ (SqT K H1 a xs ∧ R (IteT K a) H1))
theorem pi_enumA {X : Cx} {e : Expr} {ta : TA} {p pos tpos : Pos} {elts : List Expr} {kk : Nat} (hg : Gl X "enumerate") (hm : X.mg "enumerate" = none) (ha : PA X [e] ta) (hs : starEach [e] X.env = [(false, eval e X.env)] := by rfl) :
    PI X (.Tuple elts kk tpos) (.Call (.Name "enumerate" p) [e] [] pos) (iEnumA X.K ta) := by
  refine ⟨fun pins s σ H R I h => ?_⟩
  refine Call_ (ld_blt I hg hm boot_enumerate (PyProof.Rows.callWith_type1 (thn (ha.run pos pins s σ H _ I h) fun us s1 ⟨vs, H1, I1, r1, q1⟩ => ?_) hs rfl))
  obtain ⟨a, xs, ex, q⟩ := q1
  subst ex
  cases r1 with
  | cons r rr =>
    cases rr
    cases r
    have fp : ∀ b, b = s1.heap.objs.size + 1 ∨ b = s1.heap.objs.size → FpOk X pins H1 b := fun b e' => by
      have hle : s1.heap.objs.size ≤ b := by rcases e' with z | z <;> rw [z] <;> omega
      exact I1.fpOk hle (I1.hok.fresh hle)
    rcases q with ⟨hq, q⟩ | ⟨hq, q⟩
    · obtain ⟨its, rv, p', hz⟩ := I1.list hq
      refine call_enumerate_list p'.isList fun h' he hit hsz hk => wpAny_pyIter_enum he ?_
      have I2 : Inv X pins σ H1 { s1 with heap := h' } := I1.kept (t' := s1.toks) hk
      exact ⟨s1.heap.objs.size + 1, [s1.heap.objs.size + 1, s1.heap.objs.size], _, _, H1, rfl, I2, turn_enum a (s1.heap.objs.size + 1) s1.heap.objs.size, ⟨⟨.none, he⟩, hit, Nat.succ_ne_self _⟩, fun b hb => fp b (by simpa using hb), q⟩
    · obtain ⟨its, rv, p', hz⟩ := I1.tuple hq
      have hlt : a < s1.heap.objs.size := by obtain ⟨o, ho, _⟩ := (show s1.heap.IsTuple a its.toArray from p'); exact Heap.lt_size ho
      refine call_enum_tup p' fun h' he hit hk => wpAny_pyIter_enum he ?_
      have I2 : Inv X pins σ H1 { s1 with heap := h' } := I1.kept (t' := s1.toks) hk
      exact ⟨s1.heap.objs.size + 1, [s1.heap.objs.size + 1, s1.heap.objs.size], _, _, H1, rfl, I2, turn_enumT a (s1.heap.objs.size + 1) s1.heap.objs.size, ⟨⟨.none, he⟩, hit, Nat.succ_ne_self _, Nat.ne_of_lt (Nat.lt_succ_of_lt hlt), Nat.ne_of_lt hlt⟩, fun b hb => fp b (by simpa using hb), q⟩
/-- a list or a tuple -/
structure Sq (α : Type) where
  t : Bool
  l : List α
  deriving DecidableEq
instance {α : Type} [Rp α] : Rp (Sq α) where
  rep K H v s := ∃ p vs, v = .ref p ∧ H p = some (if s.t = true then HO.tup vs else HO.lst vs) ∧ All2 (Rp.rep K H) vs s.l
  mono {K H H' v a} e h := by
    obtain ⟨p, vs, e1, e2, e3⟩ := h
    exact ⟨p, vs, e1, e p _ e2, e3.mono fun _ _ r => Rp.mono e r⟩
theorem sq_cases {α : Type} [Rp α] {K : PySem.W.Frag} {H : Hp} {v : V} {s : Sq α} (h : Rp.rep K H v s) : ∃ p vs, v = .ref p ∧ (H p = some (.lst vs) ∨ H p = some (.tup vs)) ∧ All2 (Rp.rep K H) vs s.l := by
  obtain ⟨p, vs, h1, h2, h3⟩ := h
  refine ⟨p, vs, h1, ?_, h3⟩
  split at h2
  · exact .inr h2
  · exact .inl h2
section
variable {K : PySem.W.Frag} {E : XK} {σ : L2.St} {H0 F H F' H' : Hp} {ta tb te tl : TE} {α β γ : Type} [Rp α] [Rp β] [Rp γ]
theorem g_sqL {m : R (List α)} (h : Gr K E te σ F H m) : Gr K E te σ F H (R.bd m fun l => .ok (Sq.mk false l)) := fun H1 e Q hq =>
  h H1 e Q (by rw [wp_bd] at hq; exact wp_mono hq (fun a _ k v H2 e2 ⟨p, vs, h1, h2, h3⟩ => k v H2 e2 ⟨p, vs, h1, h2, h3⟩) fun _ _ z => z)
theorem g_sqT {m : R (Tu α)} (h : Gr K E te σ F H m) : Gr K E te σ F H (R.bd m fun l => .ok (Sq.mk true l.l)) := fun H1 e Q hq =>
  h H1 e Q (by rw [wp_bd] at hq; exact wp_mono hq (fun a _ k v H2 e2 ⟨p, vs, h1, h2, h3⟩ => k v H2 e2 ⟨p, vs, h1, h2, h3⟩) fun _ _ z => z)
theorem g_lenSq {m : R (Sq α)} (h : Gr K E ta σ F H m) (hF : Same F H) : Gr K E (tCB (rLen K) (tCons ta tNil)) σ F H (R.bd m fun xs => .ok (xs.l.length : Int)) := fun H1 e Q hq =>
  gr_seq h e hq fun xs v H2 e2 r hq2 => by
    obtain ⟨p, vs, rfl, hp, hv⟩ := sq_cases r
    refine ⟨p, vs, rfl, ?_, ?_⟩
    · rcases hp with hp | hp
      · exact .inl (SqL.of (mix_same hF (e.trans e2) p _ hp))
      · exact .inr (SqT.of (mix_same hF (e.trans e2) p _ hp))
    · rw [hv.length]
      exact hq2 _ H2 (Same.refl _) rfl
theorem g_idxSq {ma : R (Sq α)} {mi : R Int} (ha : Gr K E ta σ F H ma) (hi : Gr K E tb σ F H mi) (hF : Same F H) : Gr K E (tOp (rIxA K) ta tb) σ F H (R.bd ma fun a => R.bd mi fun i => idx a.l i) := fun H1 e Q hq =>
  gr_seq ha e hq fun xs v H2 e2 r hq2 => gr_seq hi (e.trans e2) hq2 fun i w H3 e3 r3 hq3 => by
    obtain ⟨p, vs, rfl, hp, hv⟩ := sq_cases r
    have r3' : w = .int i := r3
    subst r3'
    unfold idx at hq3
    cases q : atI xs.l i with
    | none => rw [q] at hq3; exact hq3.elim
    | some a =>
      rw [q] at hq3
      obtain ⟨x, hx, rx⟩ := all2_atI hv q
      have fin := hq3 x H3 (Same.refl _) (Rp.mono (mix_mono e3) rx)
      rcases hp with hp | hp
      · exact .inl ⟨p, vs, i, x, rfl, rfl, SqL.of (e3 p _ (mix_same hF (e.trans e2) p _ hp)), hx, fin⟩
      · exact .inr ⟨p, vs, i, x, rfl, rfl, SqT.of (e3 p _ (mix_same hF (e.trans e2) p _ hp)), hx, fin⟩
theorem g_listSqI [Im α] {m : R (Sq α)} (h : Gr K E ta σ H H m) : Gr K E (tCB (rListOf K) (tCons ta tNil)) σ F H (R.bd m fun t => .ok t.l) := fun H1 e Q hq =>
  h H1 e _ (by
    rw [wp_bd] at hq
    refine wp_mono hq (fun xs _ k v H2 e2 r => ?_) fun _ _ z => z
    obtain ⟨p, vs, rfl, hp, hv⟩ := sq_cases r
    have s2 := mix_same (Same.refl _) (e.trans e2)
    exact ⟨p, vs, rfl, hp.elim (fun hp => .inl (SqL.of (s2 p _ hp))) fun hp => .inr (SqT.of (s2 p _ hp)), fun l hl => k _ _ (e2.trans (same_upd hl)) (reps_atI s2 (e.trans e2) (same_upd hl) (by rw [mix_new (Same.free (e.trans e2) hl)]; exact upd_same) hv)⟩)
theorem g_tupleSqI [Im α] {m : R (Sq α)} (h : Gr K E ta σ H H m) : Gr K E (tCB (rTupOf K) (tCons ta tNil)) σ F H (R.bd m fun t => .ok (Tu.mk t.l)) := fun H1 e Q hq =>
  h H1 e _ (by
    rw [wp_bd] at hq
    refine wp_mono hq (fun xs _ k v H2 e2 r => ?_) fun _ _ z => z
    obtain ⟨p, vs, rfl, hp, hv⟩ := sq_cases r
    have s2 := mix_same (Same.refl _) (e.trans e2)
    have tr : ∀ q ys, mix H H H2 q = some (.tup ys) → ∀ {H3 : Hp}, Same H2 H3 → mix F H H3 q = some (.tup ys) := fun q ys z H3 e3 => tup_mix (e.trans e2) e3 (s2 _ _ z)
    rcases hp with hp | hp
    · exact ⟨p, vs, rfl, .inl ⟨SqL.of (s2 p _ hp), fun l hl => k _ _ (e2.trans (same_upd hl)) ⟨l, vs, rfl, by rw [mix_new (Same.free (e.trans e2) hl)]; exact upd_same, im_all (fun q ys z => tr q ys z (same_upd hl)) hv⟩⟩⟩
    · exact ⟨p, vs, rfl, .inr ⟨SqT.of (s2 p _ hp), k _ H2 e2 ⟨p, vs, rfl, tr _ _ hp (Same.refl _), im_all (fun q ys z => tr q ys z (Same.refl _)) hv⟩⟩⟩)
theorem i_sq {m : R (Sq α)} (h : Gr K E ta σ F H m) (hF : Same F H) : GrI K E (iEnumA K (tCons ta tNil)) σ F H (R.bd m fun xs => .ok (enumL xs.l)) := fun H1 e RR hq =>
  h H1 e _ (by
    rw [wp_bd] at hq
    refine wp_mono hq (fun xs _ k v H2 e2 r => ?_) fun _ _ z => z
    obtain ⟨p, vs, rfl, hp, hv⟩ := sq_cases r
    have end_ : ∀ {i : Nat} {H' H'' : Hp} {x : V}, Same (mix F H H2) H' → i < (enumL xs.l).length → (∃ T y, x = .ref T ∧ H' T = none ∧ H'' = upd H' T (.tup [.int (i : Nat), y]) ∧ vs[i]? = some y) → Same H' H'' ∧ ∃ a, (enumL xs.l)[i]? = some a ∧ Rp.rep K (mix (mix F H H2) H' H'') x a := fun {i H' H'' x} s hi ⟨T, y, ex, hT, eH, hy⟩ => by
      subst ex; subst eH
      obtain ⟨a, ha, ra⟩ := hv.getL hy
      exact ⟨same_upd hT, _, enumL_get ha, T, _, y, rfl, by rw [mix_new hT]; exact upd_same, rfl, Rp.mono (same_mix s) ra⟩
    rcases hp with hp | hp
    · refine ⟨p, vs, rfl, .inl ⟨SqL.of (mix_same hF (e.trans e2) p _ hp), k _ H2 e2 ⟨fun i H' s hi => ?_, fun i H' s hi => ?_, fun i H' x H'' s hi y => ?_⟩⟩⟩
      · rw [enumL_len] at hi
        exact ⟨vs, vs[i]'(by rw [hv.length]; exact hi), SqL.of (s p _ hp), List.getElem?_eq_getElem _⟩
      · rw [enumL_len] at hi
        exact ⟨vs, SqL.of (s p _ hp), by rw [hv.length, hi]; exact Nat.le_refl _⟩
      · obtain ⟨T, z, ex, hT, eH, y⟩ := y
        exact end_ s hi ⟨T, z, ex, hT, eH, y vs (SqL.of (s p _ hp))⟩
    · refine ⟨p, vs, rfl, .inr ⟨SqT.of (mix_same hF (e.trans e2) p _ hp), k _ H2 e2 ⟨fun i H' s hi => ?_, fun i H' s hi => ?_, fun i H' x H'' s hi y => ?_⟩⟩⟩
      · rw [enumL_len] at hi
        exact ⟨vs, vs[i]'(by rw [hv.length]; exact hi), SqT.of (s p _ hp), List.getElem?_eq_getElem _⟩
      · rw [enumL_len] at hi
        exact ⟨vs, SqT.of (s p _ hp), by rw [hv.length, hi]; exact Nat.le_refl _⟩
      · obtain ⟨T, z, ex, hT, eH, y⟩ := y
        exact end_ s hi ⟨T, z, ex, hT, eH, y vs (SqT.of (s p _ hp))⟩)
theorem i_enumTu {m : R (Tu α)} (h : Gr K E ta σ F H m) (hF : Same F H) : GrI K E (iEnumA K (tCons ta tNil)) σ F H (R.bd m fun xs => .ok (enumL xs.l)) := fun H1 e RR hq =>
  i_sq (g_sqT h) hF H1 e RR (by
    rw [wp_bd] at hq
    rw [wp_bd, wp_bd]
    exact wp_mono hq (fun _ _ k => k) fun _ _ z => z)
end
end G

set_option Elab.async false
set_option linter.all false
set_option maxRecDepth 100000
set_option maxHeartbeats 4000000
/-! G: dicts whose keys are tuples of ints. -/
namespace G
open PySem PySem.Spec PyProof.Rows L2
/-- keys and values in the order in which they came -/
structure Dct (β : Type) where
  l : List (List Int × β)
def keyOf (ns : List Int) : List Key := ns.map Sum.inl
theorem keyOf_kV (ns : List Int) : (keyOf ns).map kV = ns.map V.int := by unfold keyOf; rw [List.map_map]; rfl
theorem keyOf_inj {a b : List Int} (h : keyOf a = keyOf b) : a = b := by
  have := congrArg (fun l => l.map fun k : Key => match k with | .inl i => i | .inr _ => 0) h
  simpa [keyOf, List.map_map, Function.comp_def] using this
def getL {β : Type} (l : List (List Int × β)) (k : List Int) : Option β := (l.find? fun e => decide (e.1 = k)).map (·.2)
def putL {β : Type} (l : List (List Int × β)) (k : List Int) (v : β) : List (List Int × β) := if (getL l k).isSome = true then l.map (fun e => if e.1 = k then (e.1, v) else e) else l ++ [(k, v)]
def Dct.get {β : Type} (d : Dct β) (k : Tu Int) : Option β := getL d.l k.l
def Dct.put {β : Type} (d : Dct β) (k : Tu Int) (v : β) : Dct β := ⟨putL d.l k.l v⟩
def Dct.keys {β : Type} (d : Dct β) : List (Tu Int) := d.l.map fun e => Tu.mk e.1
abbrev EntR {β : Type} [Rp β] (K : PySem.W.Frag) (H : Hp) : List Key × V → List Int × β → Prop := fun x e => x.1 = keyOf e.1 ∧ Rp.rep K H x.2 e.2
instance {β : Type} [Rp β] : Rp (Dct β) where
  rep K H v d := ∃ p kvs, v = .ref p ∧ H p = some (.dT kvs) ∧ All2 (EntR K H) kvs d.l
  mono {K H H' v a} e h := by
    obtain ⟨p, kvs, h1, h2, h3⟩ := h
    exact ⟨p, kvs, h1, e p _ h2, h3.mono fun _ _ r => ⟨r.1, Rp.mono e r.2⟩⟩
instance {β : Type} [Rp β] : NN (Dct β) := ⟨fun ⟨_, _, h, _⟩ => by rw [h]; intro q; cases q⟩
instance {β : Type} [Rp β] : Cel (Dct β) := ⟨fun K B o d => ∃ kvs, o = .dT kvs ∧ All2 (EntR K B) kvs d.l, fun ⟨_, h, _⟩ => by rw [h]; rfl, fun e ⟨vs, h, r⟩ => ⟨vs, h, r.mono fun _ _ x => ⟨x.1, Rp.mono e x.2⟩⟩, fun {K H p o x} h ⟨vs, h1, r⟩ => ⟨p, vs, rfl, by rw [h, h1], r⟩⟩
section
variable {K : PySem.W.Frag} {H : Hp} {β : Type} [Rp β]
theorem ent_get (k : List Int) : ∀ {kvs : List (List Key × V)} {l : List (List Int × β)}, All2 (EntR K H) kvs l → (valV kvs (keyOf k)).isSome = (getL l k).isSome ∧ ∀ b, getL l k = some b → ∃ v, valV kvs (keyOf k) = some v ∧ Rp.rep K H v b
  | _, _, .nil => ⟨rfl, fun b h => by cases h⟩
  | x :: kvs, e :: l, .cons r t => by
    obtain ⟨ih1, ih2⟩ := ent_get k t
    by_cases c : e.1 = k
    · have c2 : x.1 = keyOf k := by rw [r.1, c]
      have g : getL (e :: l) k = some e.2 := by unfold getL; rw [List.find?_cons_of_pos (by simpa using c)]; rfl
      rw [valV_pos c2, g]
      exact ⟨rfl, fun b h => ⟨_, rfl, by cases h; exact r.2⟩⟩
    · have c2 : ¬ x.1 = keyOf k := fun z => c (keyOf_inj (by rw [← r.1, z]))
      have g : getL (e :: l) k = getL l k := by unfold getL; rw [List.find?_cons_of_neg (by simpa using c)]
      rw [valV_neg c2, g]
      exact ⟨ih1, ih2⟩
theorem ent_rep {k : List Int} {v : V} {b : β} (rv : Rp.rep K H v b) : ∀ {kvs : List (List Key × V)} {l : List (List Int × β)}, All2 (EntR K H) kvs l → All2 (EntR K H) (kvs.map fun kv => if kv.1 = keyOf k then (kv.1, v) else kv) (l.map fun e => if e.1 = k then (e.1, b) else e)
  | _, _, .nil => .nil
  | x :: kvs, e :: l, .cons r t => by
    rw [List.map_cons, List.map_cons]
    refine .cons ?_ (ent_rep rv t)
    by_cases c : e.1 = k
    · have c2 : x.1 = keyOf k := by rw [r.1, c]
      rw [if_pos c, if_pos c2]
      exact ⟨r.1, rv⟩
    · have c2 : ¬ x.1 = keyOf k := fun z => c (keyOf_inj (by rw [← r.1, z]))
      rw [if_neg c, if_neg c2]
      exact r
theorem ent_put {k : List Int} {v : V} {b : β} (rv : Rp.rep K H v b) {kvs : List (List Key × V)} {l : List (List Int × β)} (h : All2 (EntR K H) kvs l) : All2 (EntR K H) (putK kvs (keyOf k) v) (putL l k b) := by
  unfold putK putL
  rw [valV_any, (ent_get k h).1]
  split
  · exact ent_rep rv h
  · exact h.append (.cons ⟨rfl, rv⟩ .nil)
theorem ent_mono {H' : Hp} (e : Same H H') {kvs : List (List Key × V)} {l : List (List Int × β)} (h : All2 (EntR K H) kvs l) : All2 (EntR K H') kvs l := h.mono fun _ _ r => ⟨r.1, Rp.mono e r.2⟩
theorem ent_keys {H2 : Hp} : ∀ {kvs : List (List Key × V)} {l : List (List Int × β)} {bs : List Addr}, All2 (EntR K H) kvs l → IsKeys H2 kvs bs → All2 (fun b (ns : List Int) => H2 b = some (.tup (ns.map V.int))) bs (l.map Prod.fst)
  | _, _, _, .nil, h => by cases h; exact .nil
  | _, _, _, .cons r t, h => by
    cases h with
    | cons h1 h2 =>
      refine .cons ?_ (ent_keys t h2)
      rw [h1, r.1, keyOf_kV]
end
def getR {β : Type} (d : Dct β) (k : Tu Int) : R β := match d.get k with
  | some b => .ok b
  | none => .bad
noncomputable def putR {β : Type} (d : Dct β) (k : Tu Int) (v : β) : R (Dct β) := gd (d.l.length < lim) (.ok (d.put k v))
/-- {k: v}, the key a tuple -/
def tDisp1 (tk tv : TE) : TE := fun σ H Q => ∀ p, H p = none → tk σ (upd H p (.dT [])) fun x H1 => tv σ H1 fun y H2 => H2 p = some (.dT []) ∧ ∃ b ks, x = .ref b ∧ H2 b = some (.tup (ks.map kV)) ∧ Q (.ref p) (upd H2 p (.dT [(ks, y)]))
theorem pe_disp1 {X : Cx} {pos : Pos} {k v : Expr} {tk tv : TE} (hu : X.A.units + 1 < cLine) (hk : PE X k tk) (hv : PE X v tv) : PE X (.Dict [some k] [v] pos) (tDisp1 tk tv) := by
  refine ⟨fun pins s σ H Q I q => ?_⟩
  have hn := I.hok.fresh (Nat.le_refl s.heap.objs.size)
  have I1 := I.laid (a := s.heap.objs.size) (o := .dT []) (h' := s.heap.push { cls := .type "dict", data := .dict #[] }) (t' := s.toks) (fun _ _ q => Heap.get?_push_of_some _ q) (Nat.le_refl _) (dt_empty s.heap I.big)
  rw [arm_eval_Dict, zip_pairTrees [some k] [v] X.env pos rfl rfl, dictDisplay_pairs (pairTrees [some k] [v] X.env pos) (by simp [pairTrees]) (by simp [pairTrees])]
  refine wpAny_bind (wpAny_standAt (wpAny_bind (wpAny_subDictH (knd := tupleKind (mixKind X.prog X.w)) (Q := fun d s' => wpAny (model X.prog X.w) X.A (pure (Value.ref d)) (EP X pins σ Q) X.xe s') (show X.A.units < cLine by omega) (by simp [pairTrees]) ?_)))
  refine pairTrees_cons_walk (thn (hk.run pins _ σ _ _ I1 (q _ hn)) fun u s1 ⟨x, H1, I2, rx, q1⟩ => thn (hv.run pins s1 σ H1 _ I2 q1) fun w2 s2 ⟨y, H2, I3, ry, e, b, ks, ex, hb, q2⟩ => ?_)
  subst ex
  obtain rfl : u = Value.ref b := rx
  refine pairTrees_nil_walk ?_
  obtain ⟨z, hd, xs, rel, dd⟩ := dt_of I3.hok e
  cases rel
  refine ⟨[(ks, b, w2)], ⟨rfl, rfl, key_of I3.hok hb, trivial⟩, dd, fun h' tk dd' hs => wpAny_pure ⟨.ref s.heap.objs.size, _, ?_, rfl, q2⟩⟩
  obtain ⟨q, es, ep, hq, h2, h3, h4, _, h5⟩ := dd'
  refine d_write (t' := tk) I3 (by rw [e]; exact True.intro) hs ⟨q, hq⟩ ⟨by show 1 ≤ sizeLine; decide, hd, _, Paired.cons ⟨rfl, ?_, ry⟩ .nil, q, es, ep, hq, h2, h3, h4, h5⟩
  rw [upd_ne (ne_of hb e (fun z => nomatch z))]
  exact hb
section
variable {K : PySem.W.Frag} {E : XK} {σ : L2.St} {H0 F H F' H' : Hp} {ta tb te tl to ti tk tv td : TE} {t u : TT} {α β γ δ ρ : Type} [Rp α] [Rp β] [Rp γ] [Rp δ] [Rp ρ] {D : Ends} {b : Bool}
theorem g_dnew : Gr K E tDNewT σ F H (.ok (Dct.mk ([] : List (List Int × β)))) := fun H1 e Q hq p hp => hq _ _ (same_upd hp) ⟨p, [], rfl, by rw [mix_new (Same.free e hp)]; exact upd_same, .nil⟩
theorem g_disp1 [Im β] {mk : R (Tu Int)} {mv : R β} (hk : Gr K E tk σ H H mk) (hv : Gr K E tv σ H H mv) : Gr K E (tDisp1 tk tv) σ F H (R.bd mk fun k => R.bd mv fun v => .ok (Dct.mk [(k.l, v)])) := fun H1 e Q hq p hp => by
  have e1 : Same H (upd H1 p (.dT [])) := e.trans (same_upd hp)
  refine hk _ e1 _ ?_
  rw [wp_bd] at hq
  refine wp_mono hq (fun k _ kk x H2 e2 rk => ?_) fun c _ z => z.mono (same_upd hp)
  obtain ⟨b, vs, rfl, hb, hw⟩ := rk
  have h2 := rep_ints hw
  subst h2
  have hb2 := mix_same (Same.refl _) (e1.trans e2) _ _ hb
  refine hv H2 (e1.trans e2) _ ?_
  rw [wp_bd] at kk
  refine wp_mono kk (fun v _ kv y H3 e3 rv => ?_) fun c _ z => z.mono ((same_upd hp).trans e2)
  have hp3 : H3 p = some (.dT []) := e3 _ _ (e2 _ _ upd_same)
  refine ⟨hp3, b, keyOf k.l, rfl, by rw [keyOf_kV]; exact e3 _ _ hb2, ?_⟩
  have hn : H p = none := Same.free e hp
  have s3 : Same H1 (upd H3 p (.dT [(keyOf k.l, y)])) := fun a o h => by
    have ne : a ≠ p := fun z => by rw [z, hp] at h; cases h
    rw [upd_ne ne]
    exact e3 _ _ (e2 _ _ (same_upd hp _ _ h))
  refine kv _ _ s3 ⟨p, _, rfl, by rw [mix_new hn]; exact upd_same, .cons ⟨rfl, Im.mv (fun q ys z => ?_) rv⟩ .nil⟩
  have z3 := mix_same (Same.refl _) ((e1.trans e2).trans e3) _ _ z
  have s4 : Same H (upd H3 p (.dT [(keyOf k.l, y)])) := e.trans s3
  cases w : H q with
  | none =>
    rw [mix_new w]
    rw [upd_ne (fun c => by rw [c, hp3] at z3; cases z3)]
    exact z3
  | some u =>
    have := ((e1.trans e2).trans e3) q u w
    rw [z3] at this
    cases this
    exact mix_tup w rfl
theorem g_din {ma : R (Tu Int)} {mb : R (Dct β)} (ha : Gr K E ta σ H H ma) (hb : Gr K E tb σ H H mb) : Gr K E (tDIn ta tb) σ F H (R.bd ma fun k => R.bd mb fun d => .ok (d.get k).isSome) := fun H1 e Q hq =>
  gr_arg ha e hq fun k v H2 e2 r hq2 => gr_arg hb (e.trans e2) hq2 fun d w H3 e3 r3 hq3 => by
    obtain ⟨a, vs, rfl, hp, hw⟩ := r
    have h2 := rep_ints hw
    subst h2
    obtain ⟨p, kvs, rfl, hd, hv⟩ := r3
    refine ⟨p, _, rfl, DGet.t (k := keyOf k.l) hd (by rw [keyOf_kV]; exact e3 _ _ hp), ?_⟩
    rw [(ent_get k.l hv).1]
    exact hq3 _ H3 (Same.refl _) rfl
theorem g_dnotin {ma : R (Tu Int)} {mb : R (Dct β)} (ha : Gr K E ta σ H H ma) (hb : Gr K E tb σ H H mb) : Gr K E (tDNotIn ta tb) σ F H (R.bd ma fun k => R.bd mb fun d => .ok (!(d.get k).isSome)) := fun H1 e Q hq =>
  gr_arg ha e hq fun k v H2 e2 r hq2 => gr_arg hb (e.trans e2) hq2 fun d w H3 e3 r3 hq3 => by
    obtain ⟨a, vs, rfl, hp, hw⟩ := r
    have h2 := rep_ints hw
    subst h2
    obtain ⟨p, kvs, rfl, hd, hv⟩ := r3
    refine ⟨p, _, rfl, DGet.t (k := keyOf k.l) hd (by rw [keyOf_kV]; exact e3 _ _ hp), ?_⟩
    rw [(ent_get k.l hv).1]
    exact hq3 _ H3 (Same.refl _) rfl
theorem g_dget {ma : R (Tu Int)} {mb : R (Dct β)} (hb : Gr K E tb σ F H mb) (ha : Gr K E ta σ H H ma) (hF : Same F H) : Gr K E (tDGet tb ta) σ F H (R.bd mb fun d => R.bd ma fun k => getR d k) := fun H1 e Q hq =>
  gr_seq hb e hq fun d w H2 e2 r hq2 => gr_arg ha (e.trans e2) hq2 fun k v H3 e3 r3 hq3 => by
    obtain ⟨a, vs, rfl, hp, hw⟩ := r3
    have h2 := rep_ints hw
    subst h2
    obtain ⟨p, kvs, rfl, hd, hv⟩ := r
    unfold getR Dct.get at hq3
    cases q : getL d.l k.l with
    | none => rw [q] at hq3; exact hq3.elim
    | some x =>
      rw [q] at hq3
      obtain ⟨z, h1, h2⟩ := (ent_get k.l hv).2 x q
      refine ⟨p, z, rfl, ?_, hq3 z H3 (Same.refl _) (Rp.mono (mix_mono e3) h2)⟩
      rw [← h1]
      exact DGet.t (e3 _ _ (mix_same hF (e.trans e2) _ _ hd)) (by rw [keyOf_kV]; exact hp)
theorem g_dlen {m : R (Dct β)} (h : Gr K E ta σ F H m) (hF : Same F H) : Gr K E (tCB rLenT (tCons ta tNil)) σ F H (R.bd m fun d => .ok (d.l.length : Int)) := fun H1 e Q hq =>
  gr_seq h e hq fun d v H2 e2 r hq2 => by
    obtain ⟨p, kvs, rfl, hd, hv⟩ := r
    refine ⟨p, kvs, rfl, mix_same hF (e.trans e2) _ _ hd, ?_⟩
    rw [hv.length]
    exact hq2 _ H2 (Same.refl _) rfl
/-- d[k] = v, d ours -/
theorem s_dput {p : Addr} {d : Dct α} {m : R α} {mk : R (Tu Int)} {k : Dct α → R β} {kk : β → Prop} (ha : At to σ H p) (o : Own K H0 b F H p d) (he : Gr K E te σ (Bs H0 F b) H m) (hi : Gr K E ti σ H H mk) (hF : Same F H) (e0 : Same H0 H)
    (hQ : Wp (R.bd (R.bd m fun a => R.bd mk fun i => putR d i a) k) kk (EE K E H0))
    (c : ∀ d' F' H', Nx (fun q => q = p) F H F' H' → Same H0 H' → Own K H0 b F' H' p d' → Wp (k d') kk (EE K E H0) → D.nx σ H') : sDPut to ti te D σ H := by
  obtain ⟨h0, f, _, hp, kvs, rfl, r⟩ := o
  refine he H (Same.refl _) _ ?_
  rw [bd_assoc, wp_bd] at hQ
  refine wp_mono hQ (fun a _ q v H2 e2 rv => ?_) fun c _ z => z.mono e0
  refine ha H2 e2 _ ?_
  refine hi H2 e2 _ ?_
  rw [bd_assoc, wp_bd] at q
  refine wp_mono q (fun i _ q w H3 e3 ri => ?_) fun c _ z => z.mono (e0.trans e2)
  obtain ⟨bb, vs, rfl, hb, hw⟩ := ri
  have h2 := rep_ints hw
  subst h2
  have e3' := e2.trans e3
  have hb3 := mix_same (Same.refl _) e3' _ _ hb
  unfold putR gd at q
  split at q
  · rename_i cl
    refine ⟨p, _, rfl, DPut.t (k := keyOf i.l) (e3 p _ (e2 p _ hp)) (by rw [keyOf_kV]; exact hb3) (lim_line' (by rw [r.length]; exact cl)), ?_⟩
    exact c _ (mix F H H3) _ (nx_upd hF e3' hp f) (e0_upd e0 e3' h0) ⟨h0, by rw [mix_old hp]; exact f, _, upd_same, _, rfl, ent_put (Rp.mono ((mix_mono e3).trans (bs_mix e0 hF e3')) rv) (ent_mono (bs_ff (same_mix hF)) r)⟩ q
  · exact q.elim
/-! the keys, sorted -/
theorem reads_ints {h : Heap} : ∀ {ns : List Int} {us : List Value} {as : List Addr}, ReadsAll h us (ns.map PyData.int) as → as = []
  | [], _, _, r => by
    have r' : ReadsAll h _ [] _ := r
    cases r'
    rfl
  | n :: ns, _, _, r => by
    have r' : ReadsAll h _ (PyData.int n :: ns.map PyData.int) _ := r
    cases r' with
    | cons h1 h2 =>
      cases h1
      rw [reads_ints h2]
      rfl
theorem ints_reads {h : Heap} : ∀ {ns : List Int} {us : List Value}, Vals (ns.map V.int) us → ReadsAll h us (ns.map PyData.int) []
  | [], _, r => by
    rw [List.map_nil] at r
    cases r
    exact .nil
  | n :: ns, _, r => by
    rw [List.map_cons] at r
    cases r with
    | cons h1 h2 =>
      obtain ⟨t, rfl⟩ := h1
      exact .cons (.int n t) (ints_reads h2)
abbrev encT (q : Addr × List Int) : PyData := .tuple (q.2.map PyData.int)
def rSortD (K : PySem.W.Frag) : List V → Hp → VK → Prop := fun vs H Q => ∃ (d : Addr) (kvs : List (List Key × V)) (ks : List (List Int)), vs = [V.ref d] ∧ H d = some (.dT kvs) ∧ kvs.map Prod.fst = ks.map keyOf ∧ (∀ k ∈ ks, k ≠ []) ∧
  ∀ l (ps : List (Addr × List Int)), H l = none → ps.map Prod.snd = ks → (∀ q ∈ ps, H q.1 = some (.tup (q.2.map V.int))) → Q (.ref l) (upd H l (.lst ((ps.mergeSort (W.dataLe false encT)).map fun q => V.ref q.1)))
theorem keys_pairs {H : Hp} : ∀ {kvs : List (List Key × V)} {xs : List (List Key × Addr × Value)} {ks : List (List Int)}, KT H kvs xs → kvs.map Prod.fst = ks.map keyOf → ∃ ps : List (Addr × List Int), ps.map Prod.snd = ks ∧ ps.map Prod.fst = xs.map (fun x => x.2.1) ∧ ∀ q ∈ ps, H q.1 = some (.tup (q.2.map V.int))
  | _, _, [], r, e => by
    cases r with
    | nil => exact ⟨[], rfl, rfl, fun q hq => by cases hq⟩
    | cons h t => simp at e
  | _, _, k :: ks, r, e => by
    cases r with
    | nil => simp at e
    | @cons p q ps qs h t =>
      rw [List.map_cons, List.map_cons, List.cons.injEq] at e
      obtain ⟨zs, h1, h2, h3⟩ := keys_pairs t e.2
      refine ⟨(q.2.1, k) :: zs, by simp [h1], by simp [h2], fun z hz => ?_⟩
      rcases List.mem_cons.mp hz with c | c
      · subst c
        have := h.2.1
        rw [e.1, keyOf_kV] at this
        exact this
      · exact h3 z c
theorem each_pairs {pins : List (Addr × Obj)} {X : Cx} {σ : L2.St} {H : Hp} {s : Shared} (I : Inv X pins σ H s) : ∀ (ps : List (Addr × List Int)), (∀ q ∈ ps, H q.1 = some (.tup (q.2.map V.int))) → W.EachIs (fun (v : Value) (q : Addr × List Int) => v = .ref q.1) (ps.map fun q => Value.ref q.1) ps ∧ W.EachIs (fun (v : Value) (q : Addr × List Int) => Reads s.heap v (encT q) []) (ps.map fun q => Value.ref q.1) ps
  | [], _ => ⟨.nil, .nil⟩
  | q :: ps, h => by
    obtain ⟨a, b⟩ := each_pairs I ps fun z hz => h z (List.mem_cons_of_mem _ hz)
    refine ⟨.cons rfl a, .cons ?_ b⟩
    obtain ⟨_, its, r, o, h1, h2, n, h3⟩ := (show ObjOk X.prog X.w H s.heap q.1 (.tup (q.2.map V.int)) from I.hok q.1 _ (h q List.mem_cons_self))
    exact .tuple h1 h2 h3 (by simpa using ints_reads r)
theorem each_refs {ps : List (Addr × List Int)} : ∀ {vs : List Value}, W.EachIs (fun (v : Value) (q : Addr × List Int) => v = .ref q.1) vs ps → vs = ps.map fun q => Value.ref q.1 := by
  induction ps with
  | nil => intro vs h; cases h; rfl
  | cons q ps ih => intro vs h; cases h with
    | cons h1 h2 => rw [h1, ih h2]; rfl
theorem vals_refs2 : ∀ ps : List (Addr × List Int), Vals (ps.map fun q => V.ref q.1) (ps.map fun q => Value.ref q.1)
  | [] => .nil
  | _ :: r => .cons rfl (vals_refs2 r)
theorem cr_sortD {X : Cx} (hc : X.calm = true) (hu : X.A.units + 64 < cLine) : CallR X (.builtin "sorted") (rSortD X.K) := by
  intro pins s σ H vs us Q I r h
  obtain ⟨d, kvs, ks, rfl, hd, hk, hne, q⟩ := h
  rw [Vals.ref1 r]
  obtain ⟨z, hs, ys, pr, o, es, ep, ho, hx, hdt, he, hn⟩ := (show ObjOk X.prog X.w H s.heap d (.dT kvs) from I.hok d _ hd)
  have l1 : es.size = ys.length := size_of_entries he
  have l2 : kvs.length = ys.length := Paired.length pr
  obtain ⟨ps, e1, e2, hps⟩ := keys_pairs pr hk
  have lp : ps.length = ys.length := by rw [← List.length_map (f := Prod.fst), e2, List.length_map]
  refine Calls.call_function_entry kind_sorted plain_sorted entry_sorted (args_sorted1 _) ?_
  unfold Builtin.«sorted»
  refine wpAny_bind (m := checkCount "sorted" 1 1 _) (wpAny_pure ?_)
  refine wpAny_bind (W.kdu_collect (A := X.A.in1) (kdl_raw hs hx hdt) (I.ok.hd hc) ho (by omega) fun h' tk acc kp it => ?_)
  have ea : acc.toList = ps.map fun q => Value.ref q.1 := by
    have hl : acc.toList.length = ys.length := by rw [Array.length_toList, it.1]; exact l1
    apply List.ext_getElem?
    intro j
    rw [List.getElem?_map]
    cases hj : acc.toList[j]? with
    | none => rw [List.getElem?_eq_none (by have := List.getElem?_eq_none_iff.mp hj; omega)]; rfl
    | some v =>
      obtain ⟨en, hen, hv⟩ := it.2 j v (by rw [← Array.getElem?_toList]; exact hj)
      have qe := entry_at he j
      rw [hen] at qe
      have hpj := congrArg (fun l => l[j]?) e2
      simp only [List.getElem?_map] at hpj
      cases hb : ys[j]? with
      | none => rw [hb] at qe; cases qe
      | some b =>
        rw [hb] at qe hpj
        have e3 : en = entryOfKey (tupleKind (mixKind X.prog X.w)) b := Option.some.inj qe
        cases hp : ps[j]? with
        | none => rw [hp] at hpj; cases hpj
        | some p =>
          rw [hp] at hpj
          have e4 : p.1 = b.2.1 := by simpa using hpj
          rw [hv, e3]
          show some (Value.ref b.2.1) = some (Value.ref p.1)
          rw [e4]
  have hz : acc.toList.length ≤ sizeLine := by rw [ea, List.length_map]; omega
  refine wpAny_bind (wpAny_newList ?_ hz)
  have I1 : Inv X pins σ H { s with heap := h', toks := tk } := I.kept (t' := tk) kp
  have hat : (h'.push { cls := .type "list", data := .seq acc.toList.toArray }).get? h'.objs.size = some (seqObj "list" acc.toList.toArray 0) := Heap.get?_push_size _ rfl
  have old : ∀ b o, h'.get? b = some o → (h'.push { cls := .type "list", data := .seq acc.toList.toArray }).get? b = some o := fun b o e => Heap.get?_push_of_some _ e
  have I2 : Inv X pins σ H { s with heap := h'.push { cls := .type "list", data := .seq acc.toList.toArray }, toks := tk } := I1.kept (t' := tk) old
  obtain ⟨ec1, ec2⟩ := each_pairs I2 ps hps
  rw [← ea] at ec1 ec2
  refine wpAny_bind (wpAny_holding (wpAny_mono (W.list_sort_data (A := X.A.in1) (s := { s with heap := h'.push { cls := .type "list", data := .seq acc.toList.toArray }, toks := tk }) (Q := fun _ s' => EP X pins σ Q (.ref h'.objs.size) s') (enc := encT) (bs := ps) hat ec1 (ec2.mono fun _ _ w => ⟨[], w, by simp⟩) (W.AllAlike.of fun b b' => by
    show W.alike (.tuple _) (.tuple _) = true
    simp only [W.alike]
    exact W.alike_ints _ _) (.inl fun dd hdd => ?_) (by omega) (fun b hb => ?_) fun out hlen hE => ?_) (fun v s' w => ?_) fun _ _ e => e))
  · obtain ⟨b, hb, rfl⟩ := List.mem_map.mp hdd
    have : b.2 ≠ [] := hne _ (by rw [← e1]; exact List.mem_map.mpr ⟨b, hb, rfl⟩)
    cases w : b.2 with
    | nil => exact absurd w this
    | cons x l => exact ⟨.int x, l.map PyData.int, by show PyData.tuple (b.2.map PyData.int) = _; rw [w]; rfl⟩
  · show X.A.units + 1 + 1 + (PyData.tuple (b.2.map PyData.int)).depth < cLine
    have := W.depth_ints b.2
    simp only [PyData.depth, this]
    omega
  · have eo := each_refs hE
    obtain ⟨c, hc2⟩ := sortedHeap_at (out := List.toArray out) hat
    have kp2 : ∀ b o, h'.get? b = some o → (sortedHeap (h'.push { cls := .type "list", data := .seq acc.toList.toArray }) h'.objs.size acc.toList (List.toArray out)).get? b = some o := fun b o e => by
      have e3 := old b o e
      have lt : b < h'.objs.size := Heap.lt_size e
      rw [sortedHeap_old (Nat.ne_of_lt lt) (Heap.lt_size e3)]
      exact e3
    refine ⟨.ref h'.objs.size, _, I1.laid (t' := tk) (o := .lst ((ps.mergeSort (W.dataLe false encT)).map fun q => V.ref q.1)) kp2 (Nat.le_refl _) ⟨by rw [List.length_map, List.length_mergeSort]; omega, out, c, ?_, hc2⟩, rfl, q _ ps (I1.hok.fresh (Nat.le_refl _)) e1 hps⟩
    rw [eo]
    exact vals_refs2 _
  · exact wpAny_pure ⟨_, rfl, w⟩
end
section
variable {K : PySem.W.Frag} {E : XK} {σ : L2.St} {H0 F H F' H' : Hp} {ta tb te tl to ti tk tv td : TE} {α β γ δ ρ : Type} [Rp α] [Rp β] [Rp γ] [Rp δ] [Rp ρ] {b : Bool}
/-- the keys in the order of tuples -/
noncomputable def keysR {β : Type} (d : Dct β) : R (List (Tu Int)) := gd (d.l.length ≤ lim ∧ ∀ e ∈ d.l, e.1 ≠ []) (.ok (d.keys.mergeSort fun a b => !Od.lt b a))
theorem dataLe_keys : (W.dataLe false encT) = fun (p q : Addr × List Int) => !Od.lt (Tu.mk q.2) (Tu.mk p.2) := by
  rw [W.dataLe_eq]
  funext p q
  show (!W.dataLt _ _) = _
  rw [← Od.lt_eq (Tu.mk q.2) (Tu.mk p.2)]
  rfl
theorem ent_fst {H : Hp} : ∀ {kvs : List (List Key × V)} {l : List (List Int × β)}, All2 (EntR K H) kvs l → kvs.map Prod.fst = (l.map Prod.fst).map keyOf
  | _, _, .nil => rfl
  | _, _, .cons r t => by rw [List.map_cons, List.map_cons, List.map_cons, r.1, ent_fst t]
theorem g_dsort {m : R (Dct β)} (h : Gr K E te σ H H m) : Gr K E (tCB (rSortD K) (tCons te tNil)) σ F H (R.bd m keysR) := fun H1 e Q hq =>
  gr_arg h e hq fun d v H2 e2 r hq2 => by
    obtain ⟨p, kvs, rfl, hp, hv⟩ := r
    unfold keysR gd at hq2
    split at hq2
    · rename_i c
      refine ⟨p, kvs, d.l.map Prod.fst, rfl, hp, ent_fst hv, fun k hk => ?_, fun l ps hl e1 hps => hq2 _ _ (same_upd hl) ?_⟩
      · obtain ⟨x, hx, rfl⟩ := List.mem_map.mp hk
        exact c.2 x hx
      · have hn : H l = none := Same.free (e.trans e2) hl
        refine ⟨l, _, rfl, by rw [mix_new hn]; exact upd_same, ?_⟩
        have ek : d.keys.mergeSort (fun a b => !Od.lt b a) = (ps.mergeSort (W.dataLe false encT)).map fun q => Tu.mk q.2 := by
          rw [dataLe_keys, List.map_mergeSort (r := fun p q : Addr × List Int => !Od.lt (Tu.mk q.2) (Tu.mk p.2)) (s := fun a b : Tu Int => !Od.lt b a) (f := fun q => Tu.mk q.2) (fun a _ b _ => rfl)]
          congr 1
          show d.l.map (fun e => Tu.mk e.1) = _
          have := congrArg (fun z => z.map (Tu.mk (α := Int))) e1
          simp only [List.map_map] at this
          exact this.symm
        rw [ek]
        have key : ∀ zs : List (Addr × List Int), (∀ q ∈ zs, H2 q.1 = some (.tup (q.2.map V.int))) → All2 (Rp.rep K (mix F H (upd H2 l (.lst ((ps.mergeSort (W.dataLe false encT)).map fun q => V.ref q.1))))) (zs.map fun q => V.ref q.1) (zs.map fun q => Tu.mk q.2) := by
          intro zs
          induction zs with
          | nil => exact fun _ => .nil
          | cons z zs ih =>
            intro hz
            exact .cons ⟨z.1, _, rfl, tup_mix (e.trans e2) (same_upd hl) (hz z List.mem_cons_self), ints_rep _⟩ (ih fun q hq => hz q (List.mem_cons_of_mem _ hq))
        exact key _ fun q hq => hps q ((List.mergeSort_perm _ _).subset hq)
    · exact hq2.elim
/-- list(d) -/
theorem g_dkeys {m : R (Dct β)} (h : Gr K E te σ H H m) : Gr K E (tCB (fun xs H Q => ∃ d kvs, xs = [V.ref d] ∧ Rd H d (.dT kvs) ∧ ∀ p bs, H p = none → IsKeys H kvs bs → Q (.ref p) (upd H p (.lst (bs.map V.ref)))) (tCons te tNil)) σ F H (R.bd m fun d => .ok d.keys) := fun H1 e Q hq =>
  gr_arg h e hq fun d v H2 e2 r hq2 => by
    obtain ⟨p, kvs, rfl, hp, hv⟩ := r
    refine ⟨p, kvs, rfl, .inl hp, fun l bs hl hk => hq2 _ _ (same_upd hl) ?_⟩
    have hn : H l = none := Same.free (e.trans e2) hl
    refine ⟨l, _, rfl, by rw [mix_new hn]; exact upd_same, ?_⟩
    have a := ent_keys hv hk
    show All2 _ (bs.map V.ref) (d.l.map fun e => Tu.mk e.1)
    rw [show d.l.map (fun e => Tu.mk e.1) = (d.l.map Prod.fst).map Tu.mk by rw [List.map_map]; rfl]
    have key : ∀ {bs : List Addr} {ls : List (List Int)}, All2 (fun b ns => H2 b = some (.tup (ns.map V.int))) bs ls → All2 (Rp.rep K (mix F H (upd H2 l (.lst (bs.map V.ref))))) (bs.map V.ref) (ls.map Tu.mk) := by
      intro bs ls h
      have gen : ∀ {o : HO} {bs : List Addr} {ls : List (List Int)}, All2 (fun b ns => H2 b = some (.tup (ns.map V.int))) bs ls → All2 (Rp.rep K (mix F H (upd H2 l o))) (bs.map V.ref) (ls.map Tu.mk) := by
        intro o bs ls h
        induction h with
        | nil => exact .nil
        | cons r t ih => exact .cons ⟨_, _, rfl, tup_mix (e.trans e2) (same_upd hl) r, ints_rep _⟩ ih
      exact gen h
    exact key a
end
theorem cr_sortDK {X : Cx} {K : PySem.W.Frag} (h : X.K = K) (hc : X.calm = true) (hu : X.A.units + 64 < cLine) : CallR X (.builtin "sorted") (rSortD K) := by subst h; exact cr_sortD hc hu
/-- a new dict that becomes ours -/
theorem dct_new {K : PySem.W.Frag} {H0 F H H2 : Hp} {β : Type} [Rp β] [Im β] {b : Bool} {v : V} {a : Dct β} (e0 : Same H0 H) (e2 : Same H H2) (r : Rp.rep K (mix nil0 H H2) v a) : ∃ p o, v = .ref p ∧ H p = none ∧ H2 p = some o ∧ tupB (some o) = false ∧ Cel.cel K (Bs H0 (delH (mix F H H2) p) b) o a := by
  obtain ⟨p, kvs, rfl, hp, hv⟩ := r
  have pn : H p = none ∧ H2 p = some (.dT kvs) := by
    rcases mix_cases hp with z | ⟨_, z⟩ | ⟨_, _, _, z⟩
    · exact z
    · cases z
    · cases z
  obtain ⟨hn, hp2⟩ := pn
  exact ⟨p, _, rfl, hn, hp2, rfl, kvs, rfl, hv.mono fun _ _ z => ⟨z.1, Im.mv (tup_bs e0 e2 fun xs w => by rw [hp2] at w; cases w) z.2⟩⟩
theorem s_asgD {K : PySem.W.Frag} {E : XK} {σ : L2.St} {H0 F H : Hp} {te : TE} {α β : Type} [Rp α] [Rp β] [Im α] {D : Ends} {b : Bool} {i : Nat} {m : R (Dct α)} {k : Dct α → R β} {kk : β → Prop} (he : Gr K E te σ nil0 H m) (hF : Same F H) (e0 : Same H0 H) (hQ : Wp (R.bd m k) kk (EE K E H0))
    (c : ∀ a p F' H', Nx0 F H F' H' → Same H0 H' → Own K H0 b F' H' p a → (∀ q, (∃ u, H q = some u) → q ≠ p) → Wp (k a) kk (EE K E H0) → D.nx (σ.set i (some (.ref p))) H') : tAsg te (gName i) D σ H :=
  s_asgC he hF e0 (fun e2 r => dct_new e0 e2 r) hQ c
end G

set_option Elab.async false
set_option linter.all false
set_option maxRecDepth 100000
set_option maxHeartbeats 4000000
/-! G: what a call has told alone is lent to us: its cells G are nobody else's, and it may be changed once. -/
namespace G
open PySem PySem.Spec PyProof.Rows L2
structure Lent {α : Type} [Rp α] (K : PySem.W.Frag) (H0 F H G : Hp) (v : V) (a : α) : Prop where
  rep : Rp.rep K G v a
  gh : Same G H
  gf : ∀ q o, tupB (some o) = false → G q = some o → F q = none ∧ H0 q = none
section
variable {K : PySem.W.Frag} {E : XK} {σ : L2.St} {H0 F H F' H' G G2 : Hp} {ta tb te tl to ti : TE} {α β γ δ ρ S : Type} [Rp α] [Rp β] [Rp γ] [Rp δ] [Rp ρ] {D : Ends} {b : Bool} {P : Addr → Prop} {v : V} {a : α}
theorem Lent.see (l : Lent K H0 F H G v a) : Rp.rep K H v a := Rp.mono l.gh l.rep
theorem Lent.nx (l : Lent K H0 F H G v a) (n : Nx P F H F' H') (hp : ∀ q, P q → G q = none) : Lent K H0 F' H' G v a :=
  ⟨l.rep, fun q o h => n.hh q o (fun z => by rw [hp q z] at h; cases h) (l.gh q o h), fun q o z h => ⟨n.own q o z (l.gh q o h) (l.gf q o z h).1, (l.gf q o z h).2⟩⟩
theorem Lent.nx0 (l : Lent K H0 F H G v a) (n : Nx0 F H F' H') : Lent K H0 F' H' G v a := l.nx n fun _ z => z.elim
theorem Lent.fz {F1 : Hp} {p : Addr} (l : Lent K H0 F H G v a) (f : ∀ q, q ≠ p → F1 q = F q) (hp : G p = none) : Lent K H0 F1 H G v a :=
  ⟨l.rep, l.gh, fun q o z h => ⟨by rw [f q (fun w => by rw [w, hp] at h; cases h)]; exact (l.gf q o z h).1, (l.gf q o z h).2⟩⟩
theorem Lent.new {p : Addr} (l : Lent K H0 F H G v a) (nw : ∀ q, (∃ u, H q = some u) → q ≠ p) : G p = none := by
  cases q : G p with
  | none => rfl
  | some u => exact absurd rfl (nw p ⟨u, l.gh p u q⟩)
theorem Lent.none {p : Addr} (l : Lent K H0 F H G v a) (h : H p = none) : G p = none := by
  cases q : G p with
  | none => rfl
  | some u => rw [l.gh p u q] at h; cases h
theorem own_nl {τ : Type} [Rp τ] [Cel τ] {p : Addr} {x : τ} (o : Own K H0 b F H p x) (h : ∀ q u, H q = some u → tupB (some u) = false → G q = none) : G p = none := by
  obtain ⟨_, _, u, h1, r⟩ := o
  exact h p u h1 (Cel.nt r)
/-- what is told is lent -/
theorem s_asgT {i : Nat} {m : R α} {k : α → R β} {kk : β → Prop} (he : Gr K E te σ nil0 H m) (hF : Same F H) (e0 : Same H0 H) (hQ : Wp (R.bd m k) kk (EE K E H0))
    (c : ∀ a v F' H' G, Nx0 F H F' H' → Same H0 H' → Lent K H0 F' H' G v a → (∀ q u, H q = some u → tupB (some u) = false → G q = none) → Wp (k a) kk (EE K E H0) → D.nx (σ.set i (some v)) H') : tAsg te (gName i) D σ H := by
  refine he H (Same.refl _) _ ?_
  rw [wp_bd] at hQ
  refine wp_mono hQ (fun a _ q v H2 e2 r => ?_) fun c _ z => z.mono e0
  have key : ∀ x o, H x = some o → tupB (some o) = false → mix nil0 H H2 x = none := fun x o h z => by rw [mix_old h z]
  refine c a v F H2 (mix nil0 H H2) ⟨Same.refl _, fun x o _ h => e2 x o h, hF.trans e2, fun _ _ _ _ n => n, fun x o h => ⟨o, e2 x o h, rfl⟩⟩ (e0.trans e2) ⟨r, mix_same nil_same e2, fun x o z h => ?_⟩ key q
  have hn : H x = none := by
    rcases mix_cases h with ⟨z, _⟩ | ⟨_, w⟩ | ⟨_, _, _, w⟩
    · exact z
    · rw [z] at w; cases w
    · cases w
  exact ⟨Same.free hF hn, Same.free e0 hn⟩
theorem nx_del {H2 : Hp} {p : Addr} {vs ws : List V} (hF : Same F H) (e2 : Same H H2) (hp : H2 p = some (.lst vs)) (hf : F p = none) : Nx (fun q => q = p) F H (delH (mix F H H2) p) (upd H2 p (.lst ws)) :=
  ⟨fun x o h => by
    have : x ≠ p := fun z => by rw [z, hf] at h; cases h
    rw [delH_ne this]
    exact same_mix hF x o h, fun x o n h => by rw [upd_ne n]; exact e2 x o h, fun x o h => by
    unfold delH at h
    split at h
    · cases h
    · rename_i c
      rw [upd_ne (by simpa using c)]
      exact mix_same hF e2 x o h, fun x o z h n => by
    unfold delH
    split
    · rfl
    · rw [mix_old h z]; exact n, fun x u h => by
    by_cases c : x = p
    · have h2 := e2 x u h
      rw [c, hp] at h2
      cases h2
      exact ⟨.lst ws, by rw [c]; exact upd_same, rfl⟩
    · rw [upd_ne c]; exact ⟨_, e2 x u h, rfl⟩⟩
/-- x.append(e), x lent or a part of it: afterwards it is gone -/
theorem s_appDie {γ : Type} [Rp γ] {ε : Type} [Rp ε] {m : R (List γ)} {me : R δ} {k : Unit → R β} {kk : β → Prop} {a0 : ε} (l : Lent K H0 F H G v a0) (ht : Gr K E to σ G H m) (he : Gr K E te σ H H me) (hF : Same F H) (e0 : Same H0 H)
    (hQ : Wp (R.bd (R.bd m fun xs => R.bd me fun _ => gd (xs.length < lim) (.ok ())) k) kk (EE K E H0))
    (c : ∀ p F' H', Nx (fun q => q = p) F H F' H' → Same H0 H' → (∀ q, G q = none → (∃ u, H q = some u) → q ≠ p) → Wp (k ()) kk (EE K E H0) → D.nx σ H') : tDrop (tBM K "list" rAppend to (tCons te tNil)) D σ H := by
  refine ht H (Same.refl _) _ ?_
  rw [bd_assoc, wp_bd] at hQ
  refine wp_mono hQ (fun xs _ q v1 H2 e2 r => ?_) fun c _ z => z.mono e0
  obtain ⟨p, vs, rfl, hp, hv⟩ := r
  have hg : (H p = none ∧ G p = none) ∨ G p = some (.lst vs) := by
    rcases mix_cases hp with ⟨z, _⟩ | ⟨_, w⟩ | ⟨_, _, _, w⟩
    · exact .inl ⟨z, l.none z⟩
    · cases w
    · exact .inr w
  have hp2 := mix_same l.gh e2 _ _ hp
  have hf : F p = none := hg.elim (fun z => Same.free hF z.1) fun z => (l.gf p _ rfl z).1
  have h0 : H0 p = none := hg.elim (fun z => Same.free e0 z.1) fun z => (l.gf p _ rfl z).2
  refine ⟨.inl ⟨rfl, _, SqL.of hp2⟩, ?_⟩
  refine he H2 e2 _ ?_
  rw [bd_assoc, wp_bd] at q
  refine wp_mono q (fun a _ q w H3 e3 rv => ?_) fun c _ z => z.mono (e0.trans e2)
  unfold gd at q
  split at q
  · rename_i cl
    refine ⟨p, vs, w, rfl, rfl, e3 p _ hp2, lim_line' (by rw [hv.length]; exact cl), ?_⟩
    exact c p _ _ (nx_del hF (e2.trans e3) (e3 p _ hp2) hf) (e0_upd e0 (e2.trans e3) h0) (fun x z ⟨u, hu⟩ w => by
      rw [w] at z hu
      rcases hg with y | y
      · rw [y.1] at hu; cases hu
      · rw [y] at z; cases z) q
  · exact q.elim
end
section
variable {K : PySem.W.Frag} {H0 F H : Hp} {b : Bool} {β : Type} [Rp β]
theorem rep_some {γ : Type} [Rp γ] [NN γ] {v : V} {a : γ} (r : Rp.rep K F v a) : Rp.rep K F v (some a) := ⟨NN.nn r, r⟩
theorem u1 {k : Nat} {A : Around} (r : Room k A) : A.units + 1 < cLine := by have := r.un; omega
theorem Own.repD [Im β] {p : Addr} {d : Dct β} (o : Own K H0 b F H p d) (hF : Same F H) : Rp.rep K (dif H0 H) (.ref p) d := by
  obtain ⟨h0, f, u, h, kvs, hu, r⟩ := o
  subst hu
  exact ⟨p, kvs, rfl, dif_of h0 h, r.mono fun _ _ z => ⟨z.1, Im.mv (fun q ys z => dif_tup rfl ((bs_le.trans hF) _ _ z)) z.2⟩⟩
theorem Own.frzD [Im β] {p : Addr} {d : Dct β} (o : Own K H0 b F H p d) (hF : Same F H) : ∃ F', Same F F' ∧ Same F' H ∧ (∀ q, q ≠ p → F' q = F q) ∧ Rp.rep K (dif H0 F') (.ref p) d := by
  obtain ⟨F', h1, h2, h3, h4, h5⟩ := o.frz hF
  obtain ⟨q, kvs, e, h, r⟩ := h4
  cases e
  exact ⟨F', h1, h2, h3, p, kvs, rfl, dif_of o.h0 h, r.mono fun _ _ z => ⟨z.1, Im.mv (fun q ys z => dif_tup rfl z) z.2⟩⟩
end
end G

set_option Elab.async false
set_option linter.all false
set_option maxRecDepth 100000
set_option maxHeartbeats 4000000
/-! G: max with a default; pop at a place; pop within an expression. -/
namespace G
open PySem PySem.Spec PyProof.Rows L2
/-! ### max(.., default=) -/
def maxDf (xs : List Int) (d : Int) : Int := match xs with
  | [] => d
  | x :: l => l.foldl (fun a y => if a < y then y else a) x
def rMaxDf (K : PySem.W.Frag) : List V → List V → Hp → VK → Prop := fun vs zs H Q => ∃ (a : Addr) (ns : List Int) (d : Int), vs = [V.ref a] ∧ zs = [V.int d] ∧ SqL K H a (ns.map V.int) ∧ Q (.int (maxDf ns d)) H
theorem cr_maxDf {X : Cx} (hc : X.calm = true) (hu : X.A.units + 64 < cLine) : CallRK X (.builtin "max") [Str.ofString "default"] (rMaxDf X.K) := by
  intro pins s σ H vs zs us ws Q I r r2 h
  obtain ⟨a, ns, d, rfl, rfl, hs, q⟩ := h
  obtain ⟨its, rv, hl, hz⟩ := I.list hs
  rw [Vals.ref1 r]
  cases r2 with
  | cons r3 r4 =>
    cases r4
    obtain ⟨t, rfl⟩ := r3
    show wpAny _ _ (call (.builtin "max") [.ref a] [(Str.ofString "default", .int d t)]) _ _ _
    refine W.max_list_datum_default (α := Int) (xs := ns) (I.ok.hd hc) hl.isList (vs := its.toArray) ⟨[], by
      show ReadsAll s.heap its.toArray.toList (ns.map PyData.int) []
      rw [List.toList_toArray]
      exact ints_reads rv⟩ (by show X.A.units + 1 + 0 < cLine; omega) (fun e h' tk hk => ?_) fun y ys i v h' tk e hi hv hk => ?_
    · subst e
      exact ⟨.int d, H, I.kept hk, ⟨t, rfl⟩, q⟩
    · subst e
      obtain ⟨bs, hR⟩ := hv
      have hR' : Reads h' v (.int (W.maxOf y ys)) bs := hR
      cases hR'
      rename_i t2
      refine ⟨.int (maxDf (y :: ys) d), H, I.kept hk, ⟨t2, ?_⟩, q⟩
      have : W.maxOf y ys = maxDf (y :: ys) d := by
        unfold W.maxOf maxDf
        congr 1
        funext a b
        show (if decide (a < b) = true then b else a) = _
        by_cases c : a < b
        · rw [if_pos (decide_eq_true c), if_pos c]
        · rw [if_neg (by simpa using c), if_neg c]
      rw [this]
section
variable {K : PySem.W.Frag} {E : XK} {σ : L2.St} {H0 F H F' H' : Hp} {ta tb te tl to ti td : TE} {tr : TA} {α β γ δ : Type} [Rp α] [Rp β] [Rp γ] [Rp δ] {D : Ends} {b b' : Bool}
theorem g_maxDf {m : R (List Int)} {md : R Int} (h : Gr K E ta σ H H m) (hd : Gr K E td σ H H md) : Gr K E (tCKw (rMaxDf K) (tCons ta tNil) (tCons td tNil)) σ F H (R.bd m fun xs => R.bd md fun d => .ok (maxDf xs d)) := fun H1 e Q hq =>
  gr_arg h e hq fun xs v H2 e2 r hq2 => gr_arg hd (e.trans e2) hq2 fun d w H3 e3 r3 hq3 => by
    obtain ⟨p, vs, rfl, hp, hv⟩ := r
    have r3' : w = .int d := r3
    subst r3'
    have := rep_ints hv
    subst this
    exact ⟨p, xs, d, rfl, rfl, SqL.of (e3 p _ hp), hq3 _ H3 (Same.refl _) rfl⟩
/-- a value at hand -/
theorem g_con {v : V} {a : α} (r : Rp.rep K F v a) (hF : Same F H) : Gr K E (tC v) σ F H (.ok a) := fun H1 e Q hq => hq _ H1 (Same.refl _) (Rp.mono (same_mix hF) r)
/-! ### pop at a place -/
noncomputable def popAtR {α : Type} (xs : List α) (i : Int) : R (List α) := match seqIndex? i xs.length with
  | some k => gd (-(2 ^ 63) ≤ i ∧ i < 2 ^ 63 ∧ k < xs.length) (.ok (xs.eraseIdx k))
  | none => .bad
theorem all2_erase {A B : Type} {P : A → B → Prop} : ∀ {xs : List A} {ys : List B} (k : Nat), All2 P xs ys → All2 P (xs.eraseIdx k) (ys.eraseIdx k)
  | _, _, _, .nil => by simp; exact .nil
  | _, _, 0, .cons _ t => t
  | _, _, k + 1, .cons r t => .cons r (all2_erase k t)
theorem s_popAt {p : Addr} {xs : List α} {m : R Int} {k : List α → R β} {kk : β → Prop} (ha : At to σ H p) (o : Own K H0 b F H p xs) (he : Gr K E te σ H H m) (hF : Same F H) (e0 : Same H0 H)
    (hQ : Wp (R.bd (R.bd m fun i => popAtR xs i) k) kk (EE K E H0))
    (c : ∀ xs' F' H', Nx (fun q => q = p) F H F' H' → Same H0 H' → Own K H0 b F' H' p xs' → Wp (k xs') kk (EE K E H0) → D.nx σ H') : tDrop (tBM K "list" rPopAt to (tCons te tNil)) D σ H := by
  obtain ⟨h0, f, vs, hp, r⟩ := o.lst
  refine ha H (Same.refl _) _ ⟨.inl ⟨rfl, _, SqL.of hp⟩, ?_⟩
  refine he H (Same.refl _) _ ?_
  rw [bd_assoc, wp_bd] at hQ
  refine wp_mono hQ (fun i _ q v H2 e2 rv => ?_) fun c _ z => z.mono e0
  have rv' : v = .int i := rv
  subst rv'
  have hl := r.length
  cases z : seqIndex? i xs.length with
  | none =>
    have q : Wp (R.bd (popAtR xs i) k) kk (EE K E H0) := q
    unfold popAtR at q
    rw [z] at q
    exact q.elim
  | some j =>
    have q : Wp (R.bd (popAtR xs i) k) kk (EE K E H0) := q
    unfold popAtR at q
    rw [z] at q
    simp only [] at q
    unfold gd at q
    split at q
    · rename_i cl
      obtain ⟨c1, c2, c3⟩ := cl
      refine ⟨p, vs, i, j, vs[j]'(by omega), rfl, rfl, e2 p _ hp, c1, c2, by rw [hl]; exact z, List.getElem?_eq_getElem _, ?_⟩
      exact c _ (mix F H H2) _ (nx_upd hF e2 hp f) (e0_upd e0 e2 h0) (Own.of h0 (by rw [mix_old hp]; exact f) upd_same (all2_erase j (r.mono fun _ _ x => Rp.mono (bs_ff (same_mix hF)) x))) q
    · exact q.elim
/-! ### pop within an expression -/
/-- the last one and the rest -/
def lastR {α : Type} (xs : List α) : R (α × List α) := match xs.getLast? with
  | some a => .ok (a, xs.dropLast)
  | none => .bad
theorem all2_last {A B : Type} {P : A → B → Prop} {xs : List A} {ys : List B} {a : B} (h : All2 P xs ys) (e : ys.getLast? = some a) : ∃ x, xs[xs.length - 1]? = some x ∧ P x a := by
  rw [List.getLast?_eq_getElem?] at e
  have lt := (List.getElem?_eq_some_iff.mp e).1
  have hl := h.length
  have hx := List.getElem?_eq_getElem (l := xs) (i := xs.length - 1) (by omega)
  obtain ⟨y, hy, px⟩ := h.getL hx
  rw [hl, e] at hy
  cases hy
  exact ⟨_, hx, px⟩
/-- what is walked begins with a pop -/
theorem s_popIter {p : Addr} {xs : List α} {sp : Sp} {Ex : L2.St → XK} {g : TG} {tu : TS} {k : α × List α → R β} {kk : β → Prop} (ha : At tl σ H p) (o : Own K H0 b F H p xs) (hF : Same F H) (e0 : Same H0 H) (hQ : Wp (R.bd (lastR xs) k) kk (EE K E H0))
    (c : ∀ a xs' v F' H', Nx (fun q => q = p) F H F' H' → Same H0 H' → Own K H0 b F' H' p xs' → Rp.rep K (Bs H0 F' b) v a → Wp (k (a, xs')) kk (EE K E H0) → tFor (iList K (tCallS sp Ex (tCons (tC v) tr))) g tu D σ H') :
    tFor (iList K (tCallS sp Ex (tCons (tBM0 K "list" rPop tl) tr))) g tu D σ H := by
  obtain ⟨h0, f, vs, hp, r⟩ := o.lst
  show tl σ H _
  refine ha H (Same.refl _) _ ⟨.inl ⟨rfl, _, SqL.of hp⟩, ?_⟩
  unfold lastR at hQ
  cases z : xs.getLast? with
  | none => rw [z] at hQ; exact hQ.elim
  | some a =>
    rw [z] at hQ
    obtain ⟨y, hy, ry⟩ := all2_last r z
    refine ⟨p, vs, y, rfl, rfl, hp, hy, ?_⟩
    have n := nx_upd (o' := .lst vs.dropLast) hF (Same.refl H) hp f
    exact c a _ y _ _ n (e0_upd e0 (Same.refl _) h0) (Own.of h0 (by rw [mix_old hp]; exact f) upd_same (r.mono fun _ _ x => Rp.mono (bs_ff n.ff) x).dropLast) (Rp.mono (bs_ff n.ff) ry) hQ
/-- d[xs.pop()] = v -/
theorem s_dputPop {p q : Addr} {d : Dct α} {xs : List (Tu Int)} {m : R α} {k : List (Tu Int) × Dct α → R β} {kk : β → Prop} (ha : At to σ H p) (hb : At tl σ H q) (o : Own K H0 b F H p d) (ol : Own K H0 b' F H q xs) (ne : p ≠ q) (he : Gr K E te σ (Bs H0 F b) H m) (hF : Same F H) (e0 : Same H0 H)
    (hQ : Wp (R.bd (R.bd m fun a => R.bd (lastR xs) fun z => R.bd (putR d z.1 a) fun d' => .ok (z.2, d')) k) kk (EE K E H0))
    (c : ∀ xs' d' F1 H1 F2 H2, Nx (fun z => z = q) F H F1 H1 → Same H0 H1 → Nx (fun z => z = p) F1 H1 F2 H2 → Same H0 H2 → Own K H0 b' F1 H1 q xs' → Own K H0 b F2 H2 p d' → Wp (k (xs', d')) kk (EE K E H0) → D.nx σ H2) : sDPut to (tBM0 K "list" rPop tl) te D σ H := by
  obtain ⟨h0, f, _, hp, kvs, rfl, r⟩ := o
  obtain ⟨g0, fl, vs, hq, rl⟩ := ol.lst
  refine he H (Same.refl _) _ ?_
  rw [bd_assoc, wp_bd] at hQ
  refine wp_mono hQ (fun a _ w v H2 e2 rv => ?_) fun c _ z => z.mono e0
  refine ha H2 e2 _ ?_
  refine hb H2 e2 _ ⟨.inl ⟨rfl, _, SqL.of (e2 q _ hq)⟩, ?_⟩
  unfold lastR at w
  cases z : xs.getLast? with
  | none => rw [z] at w; exact w.elim
  | some t =>
    rw [z] at w
    obtain ⟨y, hy, ry⟩ := all2_last rl z
    obtain ⟨bb, us, rfl, hbb, hw⟩ := ry
    have h2 := rep_ints hw
    subst h2
    refine ⟨q, vs, _, rfl, rfl, e2 q _ hq, hy, ?_⟩
    have n1 := nx_upd (o' := .lst vs.dropLast) hF e2 hq fl
    have hbH : H bb = some (.tup (t.l.map V.int)) := (bs_le.trans hF) _ _ hbb
    have b1 : (upd H2 q (.lst vs.dropLast)) bb = some (.tup (t.l.map V.int)) := by
      rw [upd_ne (fun z => by rw [z, hq] at hbH; cases hbH)]
      exact e2 _ _ hbH
    have p1 : (upd H2 q (.lst vs.dropLast)) p = some (.dT kvs) := by rw [upd_ne ne]; exact e2 p _ hp
    have w : Wp (R.bd (R.bd (putR d t a) fun d' => .ok (xs.dropLast, d')) k) kk (EE K E H0) := w
    unfold putR gd at w
    split at w
    · rename_i cl
      have e01 := e0_upd (o' := .lst vs.dropLast) e0 e2 g0
      have fp : mix F H H2 p = none := by rw [mix_old hp]; exact f
      have n2 := nx_upd (o' := .dT (putK kvs (keyOf t.l) v)) n1.fh (Same.refl _) p1 fp
      refine ⟨p, _, rfl, DPut.t (k := keyOf t.l) p1 (by rw [keyOf_kV]; exact b1) (lim_line' (by rw [r.length]; exact cl)), ?_⟩
      refine c xs.dropLast _ _ _ _ _ n1 e01 n2 (e0_upd e01 (Same.refl _) h0) (Own.of g0 (by rw [mix_old hq]; exact fl) upd_same (rl.mono fun _ _ x => Rp.mono (bs_ff n1.ff) x).dropLast) ⟨h0, by rw [mix_old p1]; exact fp, _, upd_same, _, rfl, ent_put (Rp.mono ((bs_mix e0 hF e2).trans (bs_ff n2.ff)) rv) (ent_mono ((bs_ff n1.ff).trans (bs_ff n2.ff)) r)⟩ w
    · exact w.elim
end
end G

set_option Elab.async false
set_option linter.all false
set_option maxRecDepth 100000
set_option maxHeartbeats 4000000
/-! G: list(range(n)). -/
namespace G
open PySem PySem.Spec PyProof.Rows L2
section
variable {K : PySem.W.Frag} {E : XK} {σ : L2.St} {F H : Hp} {te : TE}
noncomputable def rngLst (n : Int) : R (List Int) := gd (0 ≤ n ∧ n ≤ 16777216) (.ok (rngL 0 n))
theorem g_listRg {m : R Int} (h : Gr K E te σ H H m) : Gr K E (tLstRg (tRg1 te)) σ F H (R.bd m rngLst) := fun H1 e Q hq =>
  gr_arg h e hq fun n v H2 e2 r hq2 => by
    have r' : v = .int n := r
    subst r'
    unfold rngLst gd at hq2
    split at hq2
    · rename_i c
      refine ⟨n, rfl, RgOk.of_le (by omega) (by omega) (by omega) (by omega), fun l hl => hq2 _ _ (same_upd hl) ?_⟩
      have hn : H l = none := Same.free (e.trans e2) hl
      have : rgV 0 n = (rngL 0 n).map V.int := by unfold rgV rngL; rw [List.map_map]; rfl
      exact ⟨l, _, rfl, by rw [mix_new hn]; exact upd_same, by rw [this]; exact ints_rep _⟩
    · exact hq2.elim
end
section
variable {K : PySem.W.Frag} {E : XK} {σ : L2.St} {H0 F H F' H' : Hp} {α β γ : Type} [Rp α] [Rp β] [Rp γ] {D : Ends}
theorem g_compGG {RR : Hp → V → List β → Prop} {wi : TI} {g : TG} {tt : TT} {te : TE} {vs : List Nat} {m : R (List α)} {cf : α → R Bool} {f : α → R β} (hres : ∀ H3 Dl acc ys, H Dl = none → H3 Dl = some (.lst acc) → All2 (Rp.rep K (delH (mix F H H3) Dl)) acc (ys : List β) → RR H3 (.ref Dl) ys) (hi : GrI K E wi σ F H m) (hF : Same F H)
    (hel : ∀ x v F2 H2, Same F F2 → Same F2 H2 → Same H H2 → Rp.rep K F2 v x → ∃ σ2, (∀ Q : L2.St → Hp → Prop, Q σ2 H2 → g v (wipe σ vs) H2 Q) ∧ wipe σ2 vs = wipe σ vs ∧ GrT K EF tt σ2 H2 (cf x) ∧ Gr K EF te σ2 F2 H2 (f x)) :
    ∀ H1, Same H H1 → ∀ Q : VK, Wp (R.bd m fun xs => compR xs cf f) (fun b => ∀ v H2, Same H1 H2 → RR H2 v b → Q v H2) (EE K E H1) → tLc wi g tt te vs σ H1 Q := fun H1 e Q hq =>
  hi H1 e _ (by
    rw [wp_bd] at hq
    refine wp_mono hq (fun xs _ k J H2 e2 ok => ?_) fun _ _ z => z
    unfold compR gd at k
    split at k
    · rename_i cl
      intro Dl hD
      have hnD : H Dl = none := Same.free (e.trans e2) hD
      refine ⟨fun i m H' => m = xs.length - i ∧ i ≤ xs.length ∧ Same H2 H' ∧ ∃ acc ys, H' Dl = some (.lst acc) ∧ acc.length ≤ i ∧ All2 (Rp.rep K (delH (mix F H H') Dl)) acc ys ∧
        Wp (compGo cf f (xs.drop i)) (fun zs => ∀ H3, Same H1 H3 → H3 Dl = H3 Dl → ∀ v, RR H3 v (ys ++ zs) → Q v H3) (fun _ => False), ⟨_, rfl, Nat.zero_le _, same_upd hD, [], [], upd_same, Nat.le_refl _, .nil, ?_⟩, ?_⟩
      · rw [List.drop_zero]
        refine wp_mono k (fun zs _ q H3 e3 _ v r => q v H3 e3 r) fun c hc _ => ?_
        exfalso
        have : ∀ l : List α, ∀ c, compGo cf f l ≠ .er c := by
          intro l
          induction l with
          | nil => intro c z; cases z
          | cons x l ih =>
            intro c z
            unfold compGo at z
            cases h1 : cf x with
            | ok b =>
              rw [h1] at z
              have z2 : (if b = true then R.bd (f x).nx fun y => R.bd (compGo cf f l) fun ys => .ok (y :: ys) else compGo cf f l) = .er c := z
              cases b with
              | true =>
                rw [if_pos rfl] at z2
                cases h2 : f x with
                | ok y =>
                  rw [h2] at z2
                  have z3 : (R.bd (compGo cf f l) fun ys => .ok (y :: ys)) = .er c := z2
                  cases h3 : compGo cf f l with
                  | ok ys => rw [h3] at z3; cases z3
                  | er c' => exact ih c' h3
                  | bad => rw [h3] at z3; cases z3
                | er c' => rw [h2] at z2; cases z2
                | bad => rw [h2] at z2; cases z2
              | false =>
                rw [if_neg Bool.false_ne_true] at z2
                exact ih c z2
            | er c' => rw [h1] at z; cases z
            | bad => rw [h1] at z; cases z
        exact this xs c hc
      · rintro i m H' ⟨rfl, hi', sH, acc, ys, hacc, hal, hall, hw⟩
        have hG : Same (mix F H H2) H' := (mix_same hF (e.trans e2)).trans sH
        by_cases ci : i < xs.length
        · refine .inr ⟨ok.go i H' hG ci, _, fun H3 h3 => ⟨xs.length - (i + 1), by omega, h3⟩, fun v H'' y => ?_⟩
          obtain ⟨e1, a, ha, r⟩ := ok.yld i H' v H'' hG ci y
          have hacc2 := e1 _ _ hacc
          have eH : Same H H'' := (e.trans e2).trans (sH.trans e1)
          obtain ⟨σ2, hg, hwp, gt, ge⟩ := hel a v (delH (mix F H H'') Dl) H'' (cmp_f (H2 := H2) hF hnD eH) (del_le.trans (mix_same hF eH)) eH (Rp.mono (cmp_it hnD hD ⟨_, hacc⟩ (e.trans e2) sH e1) r)
          refine hg _ ⟨hwp, gt H'' (Same.refl _) _ ?_⟩
          rw [drop_get ha] at hw
          unfold compGo at hw
          rw [wp_bd] at hw
          refine wp_nx (wp_mono hw (fun b _ q H3 e3 => ?_) fun _ _ z => z)
          have al' : All2 (Rp.rep K (delH (mix F H H3) Dl)) acc ys := hall.mono fun _ _ x => Rp.mono (cmp_go (e1.trans e3)) x
          cases b with
          | true =>
            show te σ2 H3 _
            refine ge H3 e3 _ ?_
            have q2 : Wp (R.bd (f a).nx fun y => R.bd (compGo cf f (xs.drop (i + 1))) fun ys => .ok (y :: ys)) _ _ := q
            rw [wp_bd] at q2
            refine wp_nx (wp_mono q2 (fun y _ q3 w H4 e4 rw4 => ?_) fun _ _ z => z)
            have hacc4 := e4 _ _ (e3 _ _ hacc2)
            refine ⟨acc, hacc4, lim_line' (by omega), rfl, ci, ?_, acc ++ [w], ys ++ [y], upd_same, by rw [List.length_append]; simp; omega, ?_, ?_⟩
            · exact fun x o h => by
                have ne : x ≠ Dl := fun z => by rw [z, hD] at h; cases h
                rw [upd_ne ne]
                exact e4 _ _ (e3 _ _ (e1 _ _ (sH _ _ h)))
            · refine All2.append (al'.mono fun _ _ x => Rp.mono ((cmp_go e4).trans (cmp_up hnD)) x) (.cons (Rp.mono (cmp_el hnD ⟨_, hacc2⟩ eH (e3.trans e4)) rw4) .nil)
            · rw [wp_bd] at q3
              refine wp_mono q3 (fun zs _ q4 H5 e5 _ v5 r5 => ?_) fun _ _ z => z
              refine q4 H5 e5 rfl v5 ?_
              rw [List.append_assoc] at r5
              exact r5
          | false =>
            exact ⟨rfl, ci, fun x o h => e3 _ _ (e1 _ _ (sH _ _ h)), acc, ys, e3 _ _ hacc2, by omega, al', q⟩
        · have ei : i = xs.length := by omega
          refine .inl ⟨ok.stop i H' hG ei, ?_⟩
          rw [ei, List.drop_length] at hw
          have hw2 : ∀ H3, Same H1 H3 → H3 Dl = H3 Dl → ∀ v, RR H3 v (ys ++ []) → Q v H3 := hw
          refine hw2 H' (e2.trans sH) rfl _ ?_
          rw [List.append_nil]
          exact hres _ _ _ _ hnD hacc hall
    · exact k.elim)
/-- a comprehension that becomes ours -/
theorem s_asgLc {i : Nat} {wi : TI} {g : TG} {tt : TT} {te : TE} {vs : List Nat} {m : R (List α)} {cf : α → R Bool} {f : α → R β} {k : List β → R γ} {kk : γ → Prop} (hi : GrI K E wi σ F H m) (hF : Same F H)
    (hel : ∀ x v F2 H2, Same F F2 → Same F2 H2 → Same H H2 → Rp.rep K F2 v x → ∃ σ2, (∀ Q : L2.St → Hp → Prop, Q σ2 H2 → g v (wipe σ vs) H2 Q) ∧ wipe σ2 vs = wipe σ vs ∧ GrT K EF tt σ2 H2 (cf x) ∧ Gr K EF te σ2 F2 H2 (f x))
    (e0 : Same H0 H) (hQ : Wp (R.bd (R.bd m fun xs => compR xs cf f) k) kk (EE K E H0))
    (c : ∀ a p F' H', Nx0 F H F' H' → Same H0 H' → Own K H0 false F' H' p a → (∀ q, (∃ u, H q = some u) → q ≠ p) → Wp (k a) kk (EE K E H0) → D.nx (σ.set i (some (.ref p))) H') : tAsg (tLc wi g tt te vs) (gName i) D σ H := by
  have main := g_compGG (RR := fun H3 v ys => ∃ Dl acc, v = .ref Dl ∧ H Dl = none ∧ H3 Dl = some (.lst acc) ∧ All2 (Rp.rep K (delH (mix F H H3) Dl)) acc ys) (fun H3 Dl acc ys a b r => ⟨Dl, acc, rfl, a, b, r⟩) hi hF hel
  refine main H (Same.refl _) _ ?_
  rw [wp_bd] at hQ
  refine wp_mono hQ (fun a _ q v H2 e2 r => ?_) fun c _ z => z.mono e0
  obtain ⟨p, acc, rfl, hn, hp, r⟩ := r
  refine c a p (delH (mix F H H2) p) H2 ⟨fun x o h => ?_, fun x o _ h => e2 x o h, fun x o h => ?_, fun x o z h n => ?_, fun x o h => ⟨o, e2 x o h, rfl⟩⟩ (e0.trans e2) (Own.of (Same.free e0 hn) delH_same hp r) (fun x ⟨u, hu⟩ z => by rw [z, hn] at hu; cases hu) q
  · have : x ≠ p := fun z => by
      rw [z] at h
      have := hF p o h
      rw [hn] at this
      cases this
    rw [delH_ne this]
    exact same_mix hF x o h
  · unfold delH at h
    split at h
    · cases h
    · exact mix_same hF e2 x o h
  · unfold delH
    split
    · rfl
    · rw [mix_old h z]
      exact n
end
end G

set_option Elab.async false
set_option linter.all false
set_option maxRecDepth 100000
set_option maxHeartbeats 4000000
/-! G: xs.extend(ys). -/
namespace G
open PySem PySem.Spec PyProof.Rows L2
section
variable {K : PySem.W.Frag} {E : XK} {σ : L2.St} {D : Ends} {H0 F H : Hp} {b : Bool} {to : TE} {te : TE} {α β : Type} [Rp α] [Rp β]
noncomputable def extR {α : Type} (xs ys : List α) : R (List α) := gd (xs.length + ys.length ≤ lim) (.ok (xs ++ ys))
theorem s_ext {p : Addr} {xs : List α} {m : R (List α)} {k : List α → R β} {kk : β → Prop} (ha : At to σ H p) (o : Own K H0 b F H p xs) (he : Gr K E te σ (Bs H0 F b) H m) (hF : Same F H) (e0 : Same H0 H) (hQ : Wp (R.bd (R.bd m fun a => extR xs a) k) kk (EE K E H0))
    (c : ∀ xs' F' H', Nx (fun q => q = p) F H F' H' → Same H0 H' → Own K H0 b F' H' p xs' → Wp (k xs') kk (EE K E H0) → D.nx σ H') : tDrop (tBM K "list" rExtend to (tCons te tNil)) D σ H := by
  obtain ⟨h0, f, vs, hp, r⟩ := o.lst
  refine ha H (Same.refl _) _ ⟨.inl ⟨rfl, _, SqL.of hp⟩, ?_⟩
  refine he H (Same.refl _) _ ?_
  rw [bd_assoc, wp_bd] at hQ
  refine wp_mono hQ (fun a _ q v H2 e2 rv => ?_) fun c _ z => z.mono e0
  obtain ⟨l, ws, rfl, hl, ra⟩ := rv
  unfold extR gd at q
  split at q
  · rename_i cl
    refine ⟨p, l, vs, ws, rfl, rfl, e2 p _ hp, mix_same (bs_le.trans hF) e2 _ _ hl, lim_line (by rw [r.length, ra.length]; exact cl), ?_⟩
    exact c _ (mix F H H2) _ (nx_upd hF e2 hp f) (e0_upd e0 e2 h0) (Own.of h0 (by rw [mix_old hp]; exact f) upd_same ((r.mono fun _ _ x => Rp.mono (bs_ff (same_mix hF)) x).append (ra.mono fun _ _ x => Rp.mono (bs_mix e0 hF e2) x))) q
  · exact q.elim
end
/-- the names of a comprehension's block, seen from its function -/
def relS (scope sc : Scope) : Scope := { scope with names := scope.names.map fun (n, k) => if (k == .free && sc.kind == .function && sc.names.lookup n == some .cell) then (n, .cell) else (n, k) }
/-- a comprehension in a comprehension -/
theorem blkOk_in {X : Cx} {N : List Str} {sc sc0 scope : Scope} {own : List (Str × Nat)} {s : Shared} {H : Hp} {cl : List (Str × Addr)} {C : Addr} {fp : List Addr} (hN : X.N = N) (hs : X.env.scope = sc) (h : blkC N (relS sc0 sc) scope own = true) : BlkOk (X.blk s H sc0 (compEnvC sc0 cl C X.env) fp).N (X.blk s H sc0 (compEnvC sc0 cl C X.env) fp).env.scope scope own := by
  subst hN
  subst hs
  exact blkOk_by (N := X.N) (sc := relS sc0 X.env.scope) h
end G

set_option Elab.async false
set_option linter.all false
set_option maxRecDepth 100000
set_option maxHeartbeats 4000000
/-! G: BadPlan, an error with a field. -/
namespace G
open PySem PySem.Spec PyProof.Rows L2
def planC (K : PySem.W.Frag) : Addr := He.ga K "BadPlan"
def planI (K : PySem.W.Frag) : Addr := He.ma K (He.ga K "BadPlan") "__init__"
/-- one look at the class BadPlan as it is written -/
def oexB (K : PySem.W.Frag) (C : Addr) : Bool := match K.lookup C with
  | some ⟨.type z, _, .cls cd, sl⟩ => decide (z = "type") && (match cd.mro with
    | .ref C' :: bm => (match sl.toList with
      | [_, _, _, _, some (.builtin n), _] => decide (C' = C) && (decide (n = "ValueError.__new__") && (cd.hasDict && (!cd.hasDel && PySem.HandSPX.refsVE bm)))
      | _ => false)
    | _ => false)
  | _ => false
def planB (K : PySem.W.Frag) : Bool := oexB K (planC K) && (He.eqO (PySem.W.findIn K (.ref (planC K)) "__setattr__") (some (some (.builtin "object.__setattr__"))) &&
  (He.eqO (PySem.W.findIn K (.ref (planC K)) "__init__") (some (some (.ref (planI K)))) && (decide (PySem.W.typeIn K (.ref (planI K)) = some (.type "function")) &&
  (He.eqO (PySem.W.findIn K (.ref (planC K)) "words") (some none) && (He.eqO (PySem.W.findIn K (.ref (planC K)) "at") (some none) &&
  (decide (PySem.W.subIn K (.ref (planC K)) (.type "BaseException") = some true) && (decide (PySem.W.typeIn K (.ref (planC K)) = some (.type "type")) && PySem.W.keepIn K (.ref (planC K)))))))))
structure Pl (K : PySem.W.Frag) : Prop where
  T : OexC K (planC K)
  ini : PySem.W.findIn K (.ref (planC K)) "__init__" = some (some (.ref (planI K)))
  tI : PySem.W.typeIn K (.ref (planI K)) = some (.type "function")
  noW : PySem.W.findIn K (.ref (planC K)) "words" = some none
  noA : PySem.W.findIn K (.ref (planC K)) "at" = some none
theorem oexB_ok {K : PySem.W.Frag} {C : Addr} (q : oexB K C = true) : ∃ nm qn N bs bm sn sub ab col dd k0 k1 k2 k3 k5, K.lookup C = some (excClassObj nm qn C N bs bm true sn sub ab col dd k0 k1 k2 k3 k5 "ValueError.__new__") ∧ PySem.HandSPX.refsVE bm = true := by
  unfold oexB at q
  split at q
  · rename_i z dd cd sl ho
    obtain ⟨q0, q⟩ := Bool.and_eq_true_iff.mp q
    have q0 := of_decide_eq_true q0
    subst q0
    split at q
    · rename_i C' bm hm
      split at q
      · rename_i k0 k1 k2 k3 n k5 hs
        obtain ⟨q1, q⟩ := Bool.and_eq_true_iff.mp q
        obtain ⟨q2, q⟩ := Bool.and_eq_true_iff.mp q
        obtain ⟨q3, q⟩ := Bool.and_eq_true_iff.mp q
        obtain ⟨q4, q5⟩ := Bool.and_eq_true_iff.mp q
        have q2 := of_decide_eq_true q2
        have q3 := of_decide_eq_true q3
        obtain ⟨q5, q6⟩ := Bool.and_eq_true_iff.mp q5
        have hdl : cd.hasDel = false := by simpa using q5
        subst q2 q3
        obtain ⟨nm, bs, mro, ns, qn, hd, sn, sub, ab, col, del⟩ := cd
        dsimp only at hm q4 hdl
        subst hm q4 hdl
        have hsl : sl = #[k0, k1, k2, k3, some (.builtin "ValueError.__new__"), k5] := by
          obtain ⟨l⟩ := sl
          simp only at hs
          rw [hs]
        subst hsl
        exact ⟨nm, qn, ns, bs, bm, sn, sub, ab, col, dd, k0, k1, k2, k3, k5, ho, q6⟩
      · cases q
    · cases q
  · cases q
theorem plan_ok {K : PySem.W.Frag} (h : planB K = true) : Pl K := by
  unfold planB at h
  simp only [Bool.and_eq_true] at h
  obtain ⟨h1, h2, h3, h4, h5, h6, h7, h8, h9⟩ := h
  exact ⟨⟨oexB_ok h1, He.eqO_ok h2, of_decide_eq_true h7, of_decide_eq_true h8, h9⟩, He.eqO_ok h3, of_decide_eq_true h4, He.eqO_ok h5, He.eqO_ok h6⟩
/-- BadPlan.__init__ keeps both -/
def spPlan (K : PySem.W.Frag) : Sp := fun vs H Q _ => ∃ a m n, vs = [.ref a, .str m, .int n] ∧ H a = some (exo a (planC K) none) ∧ ∀ dx, H dx = none → dx ≠ a →
  Q .non (upd (upd (upd H dx (exd dx [("words", .str m)])) a (exo a (planC K) (some dx))) dx (exd dx [("at", .int n), ("words", .str m)]))
/-- raise BadPlan(m, e) -/
def tRaiseP (K : PySem.W.Frag) (m : Str) (te : TE) : L2.St → Hp → XK → Prop := tMkO (planC K) (spPlan K) [] (tCons (tC (.str m)) (tCons te tNil))
section
variable {K : PySem.W.Frag} {E : XK} {σ : L2.St} {H0 F H : Hp} {te : TE} {α β : Type}
theorem raise_plan {m : Str} {me : R Int} {k : α → Prop} {E : XK} (he : Gr K E te σ H H me) (e0 : Same H0 H) (hQ : Wp (R.bd me fun n => (.er (.plan n) : R α)) k (EE K E H0)) : tRaiseP K m te σ H E := by
  show te σ H _
  refine he H (Same.refl _) _ ?_
  rw [wp_bd] at hQ
  refine wp_mono hQ (fun n _ q v H2 e2 r => ?_) fun c _ z => z.mono e0
  have r' : v = .int n := r
  subst r'
  refine ⟨by show 2 ≤ 1000; decide, fun a ha => ⟨a, m, n, rfl, upd_same, fun dx hd ne => ⟨rfl, dx, _, ?_, upd_same, ?_, ?_⟩⟩⟩
  · rw [upd_ne ne.symm, upd_same]
  · rw [upd_ne ne] at hd
    exact hd
  · rw [upd_ne ne] at hd
    refine q dx _ (fun b o h => ?_) (Same.free (e0.trans e2) hd) ⟨m, upd_same⟩
    have h2 := (e0.trans e2) b o h
    have n1 : b ≠ dx := ne_of_none h2 hd
    have n2 : b ≠ a := ne_of_none h2 ha
    rw [upd_ne n1, del_ne n2, upd_ne n1, upd_ne n2, upd_ne n1, upd_ne n2]
    exact h2
/-- e.at of what was caught -/
def tAt (K : PySem.W.Frag) (te : TE) : TE := fun σ H Q => te σ H fun x H1 => ∃ a dd fs v, x = .ref a ∧ H1 a = some (ExH (planC K) (some dd) a) ∧ H1 dd = some (.xd fs) ∧ fs.lookup ("at" : Str) = some v ∧ Q v H1
def atR : Option Er → R Int
  | some (.plan n) => .ok n
  | _ => .bad
theorem g_at {m : R (Option Er)} (h : Gr K E te σ F H m) (hF : Same F H) : Gr K E (tAt K te) σ F H (R.bd m atR) := fun H1 e Q hq =>
  gr_seq h e hq fun o v H2 e2 r hq2 => by
    cases o with
    | none => exact hq2.elim
    | some er =>
      cases er with
      | own d => exact hq2.elim
      | plan n =>
        obtain ⟨_, a, rfl, cf, dd, m, ha, hd⟩ := r
        exact ⟨a, dd, _, _, rfl, mix_same hF (e.trans e2) a _ ha, mix_same hF (e.trans e2) dd _ hd, rfl, hq2 _ H2 (Same.refl _) rfl⟩
end
section
variable {X : Cx} {e : Expr} {te : TE} {pos : Pos}
theorem pe_at (p : Pl X.K) (cf : Cf X.K .BadPlan) (he : PE X e te) (hb : attributeBase e "at" X.env (eval e X.env) = eval e X.env := by rfl) : PE X (.Attribute e "at" pos) (tAt X.K te) := by
  refine ⟨fun pins s σ H Q I h => ?_⟩
  refine attr_of hb (thn (he.run pins s σ H _ I h) fun u s1 ⟨x, H1, I1, rx, a, dd, fs, v, ex, ea, ed, l, q⟩ => ?_)
  subst ex
  obtain rfl : u = Value.ref a := rx
  obtain ⟨oe, od, mA, J, hl, hr⟩ := inst_ofD I1 ea ed
  have r := hr "at"
  rw [l] at r
  obtain ⟨u, hu, ru⟩ := RelO.some_of r
  exact HandSPX.exc_get I1.kIn J cf.ex.hg cf.ex.hk cf.ex.hs (PySem.W.findObj_own cf.ex.hd p.noA rfl (by rw [hl, hu])) (handed_of ru) ⟨v, H1, I1.tok _, ru, q⟩
end
end G

set_option Elab.async false
set_option linter.all false
set_option maxRecDepth 100000
set_option maxHeartbeats 4000000
/-! G: a, b, c = e. -/
namespace G
open PySem PySem.Spec PyProof.Rows L2
section
variable {K : PySem.W.Frag} {E : XK} {σ : L2.St} {H0 F H : Hp} {te : TE} {α β γ δ : Type} [Rp α] [Rp β] [Rp γ] {D : Ends}
theorem s_unp3 {i j l : Nat} {m : R (T3 α β γ)} {k : T3 α β γ → R δ} {kk : δ → Prop} (he : Gr K E te σ F H m) (hF : Same F H) (e0 : Same H0 H) (hQ : Wp (R.bd m k) kk (EE K E H0))
    (c : ∀ a b g v w x F' H', Nx0 F H F' H' → Same H0 H' → Rp.rep K F' v a → Rp.rep K F' w b → Rp.rep K F' x g → Wp (k ⟨a, b, g⟩) kk (EE K E H0) → D.nx (((σ.set i (some v)).set j (some w)).set l (some x)) H') :
    tAsg te (gTup K 3 (gCons (gName i) (gCons (gName j) (gCons (gName l) gNil)))) D σ H := by
  refine he H (Same.refl _) _ ?_
  rw [wp_bd] at hQ
  refine wp_mono hQ (fun a _ q v H2 e2 r => ?_) fun c _ z => z.mono e0
  obtain ⟨p, x, y, z, rfl, hp, r1, r2, r3⟩ := r
  exact ⟨p, _, rfl, SqT.of (mix_same hF e2 p _ hp), rfl, x, _, rfl, y, _, rfl, z, _, rfl, rfl, c a.a a.b a.c x y z _ H2 (Nx.mk' hF e2) (e0.trans e2) r1 r2 r3 q⟩
theorem s_unp3N {i j l : Nat} {m : R (T3 α β γ)} {k : T3 α β γ → R δ} {kk : δ → Prop} (he : Gr K E te σ (dif H0 F) H m) (hF : Same F H) (e0 : Same H0 H) (hQ : Wp (R.bd m k) kk (EE K E H0))
    (c : ∀ a b g v w x F' H', Nx0 F H F' H' → Same H0 H' → Rp.rep K (dif H0 F') v a → Rp.rep K (dif H0 F') w b → Rp.rep K (dif H0 F') x g → Wp (k ⟨a, b, g⟩) kk (EE K E H0) → D.nx (((σ.set i (some v)).set j (some w)).set l (some x)) H') :
    tAsg te (gTup K 3 (gCons (gName i) (gCons (gName j) (gCons (gName l) gNil)))) D σ H := by
  refine he H (Same.refl _) _ ?_
  rw [wp_bd] at hQ
  refine wp_mono hQ (fun a _ q v H2 e2 r => ?_) fun c _ z => z.mono e0
  have r' := Rp.mono (mix_dif e0 hF e2) r
  obtain ⟨p, x, y, z, rfl, hp, r1, r2, r3⟩ := r'
  exact ⟨p, _, rfl, SqT.of (mix_same hF e2 p _ (dif_le p _ hp)), rfl, x, _, rfl, y, _, rfl, z, _, rfl, rfl, c a.a a.b a.c x y z _ H2 (Nx.mk' hF e2) (e0.trans e2) r1 r2 r3 q⟩
end
end G

set_option Elab.async false
set_option linter.all false
set_option maxRecDepth 100000
set_option maxHeartbeats 4000000
/-! G: defs that change what they are handed (in and out). -/
namespace G
open PySem PySem.Spec PyProof.Rows L2
/-- a thing at p that a def is handed to change: not frozen, its parts are -/
structure OwM {τ : Type} [Rp τ] [Cel τ] (K : PySem.W.Frag) (Gz H : Hp) (p : Addr) (x : τ) : Prop where
  f : Gz p = none
  at_ : ∃ o, H p = some o ∧ Cel.cel K Gz o x
section
variable {K : PySem.W.Frag} {E : XK} {σ : L2.St} {H0 F H F' H' Gz Hz : Hp} {te ta to : TE} {t : TT} {tu tw : TS} {α β γ δ ρ S : Type} [Rp α] [Rp β] [Rp γ] [Rp δ] [Rp ρ] {D : Ends} {b : Bool} {P P2 : Addr → Prop} {τ : Type} [Rp τ] [Cel τ] {p : Addr} {x : τ}
theorem Own.owm (o : Own K H0 false F H p x) : OwM K F H p x := ⟨o.f, let ⟨u, h, r⟩ := o.at_; ⟨u, h, r⟩⟩
theorem OwM.own (w : OwM K Gz H p x) (h0 : H0 p = none) : Own K H0 false Gz H p x := ⟨h0, w.f, let ⟨u, h, r⟩ := w.at_; ⟨u, h, r⟩⟩
theorem OwM.del {q : Addr} (w : OwM K Gz H p x) : True := trivial
/-- what stands behind a change -/
theorem Nx.e0 (n : Nx P F H F' H') (e0 : Same H0 H) (hp : ∀ q, P q → H0 q = none) : Same H0 H' := fun q o h => n.hh q o (fun z => by rw [hp q z] at h; cases h) (e0 q o h)
theorem Nx.wk (n : Nx P F H F' H') (h : ∀ q, P q → P2 q) : Nx P2 F H F' H' := ⟨n.ff, fun q o z => n.hh q o fun y => z (h q y), n.fh, n.own, n.th⟩
theorem Nx.tr {F1 H1 : Hp} (a : Nx0 F H F1 H1) (n : Nx P F1 H1 F' H') : Nx P F H F' H' := (a.wk fun _ z => z.elim).step n fun q z => .inl z
theorem Own.nxM (o : Own K H0 false F H p x) (n : Nx P F H F' H') {y : τ} (h : ∃ u, H' p = some u ∧ Cel.cel K F' u y) : Own K H0 false F' H' p y := by
  obtain ⟨h0, f, u, hu, r⟩ := o
  exact ⟨h0, n.own p _ (Cel.nt r) hu f, h⟩
theorem Own.atM (o : Own K H0 false F H p x) : ∃ u, H p = some u ∧ Cel.cel K F u x := o.at_
/-- an expression that changes what J tells, and nothing but P -/
def GrM {α S : Type} [Rp α] (K : PySem.W.Frag) (E : XK) (te : TE) (σ : L2.St) (H0 F H : Hp) (P : Addr → Prop) (J : Hp → Hp → S → Prop) (m : R (α × S)) : Prop :=
  ∀ Q : VK, Wp m (fun z => ∀ v F' H', Nx P F H F' H' → Same H0 H' → J F' H' z.2 → Rp.rep K F' v z.1 → Q v H') (EE K E H0) → te σ H Q
theorem gm_arg {H1 : Hp} {ma : R α} {f : α → R S} {k : S → Prop} (ha : Gr K E ta σ F H ma) (e : Same H H1) (e0 : Same H0 H) (hq : Wp (R.bd ma f) k (EE K E H0)) {Q' : VK}
    (h : ∀ a v H2, Same H1 H2 → Rp.rep K (mix F H H2) v a → Wp (f a) k (EE K E H0) → Q' v H2) : ta σ H1 Q' :=
  ha H1 e Q' (by rw [wp_bd] at hq; exact wp_mono hq (fun a _ ka v H2 e2 r => h a v H2 e2 r ka) fun c _ z => z.mono (e0.trans e))
variable {J : Hp → Hp → S → Prop}
theorem s_asgM {i : Nat} {m : R (α × S)} {k : α × S → R β} {kk : β → Prop} (he : GrM K E te σ H0 F H P J m) (hQ : Wp (R.bd m k) kk (EE K E H0))
    (c : ∀ a s v F' H', Nx P F H F' H' → Same H0 H' → J F' H' s → Rp.rep K F' v a → Wp (k (a, s)) kk (EE K E H0) → D.nx (σ.set i (some v)) H') : tAsg te (gName i) D σ H :=
  he _ (by rw [wp_bd] at hQ; exact wp_mono hQ (fun z _ q v F' H' n e j r => c z.1 z.2 v F' H' n e j r q) fun c _ z => z)
theorem s_dropM {m : R (α × S)} {k : α × S → R β} {kk : β → Prop} (he : GrM K E te σ H0 F H P J m) (hQ : Wp (R.bd m k) kk (EE K E H0))
    (c : ∀ a s F' H', Nx P F H F' H' → Same H0 H' → J F' H' s → Wp (k (a, s)) kk (EE K E H0) → D.nx σ H') : tDrop te D σ H :=
  he _ (by rw [wp_bd] at hQ; exact wp_mono hQ (fun z _ q v F' H' n e j r => c z.1 z.2 F' H' n e j q) fun c _ z => z)
/-- if f(..): -/
theorem s_ifM {m : R (Bool × S)} {k : Bool × S → R β} {kk : β → Prop} (he : GrM K E te σ H0 F H P J m) (hQ : Wp (R.bd m k) kk (EE K E H0))
    (h1 : ∀ s F' H', Nx P F H F' H' → Same H0 H' → J F' H' s → Wp (k (true, s)) kk (EE K E H0) → tu D σ H') (h2 : ∀ s F' H', Nx P F H F' H' → Same H0 H' → J F' H' s → Wp (k (false, s)) kk (EE K E H0) → tw D σ H') : tIfS (tB te) tu tw D σ H :=
  he _ (by
    rw [wp_bd] at hQ
    refine wp_mono hQ (fun z _ q v F' H' n e j r => ⟨z.1, r, ?_⟩) fun c _ z => z
    obtain ⟨b, s⟩ := z
    cases b with
    | true => exact h1 s F' H' n e j q
    | false => exact h2 s F' H' n e j q)
/-- if not f(..): -/
theorem s_ifMn {m : R (Bool × S)} {k : Bool × S → R β} {kk : β → Prop} (he : GrM K E te σ H0 F H P J m) (hQ : Wp (R.bd m k) kk (EE K E H0))
    (h1 : ∀ s F' H', Nx P F H F' H' → Same H0 H' → J F' H' s → Wp (k (false, s)) kk (EE K E H0) → tu D σ H') (h2 : ∀ s F' H', Nx P F H F' H' → Same H0 H' → J F' H' s → Wp (k (true, s)) kk (EE K E H0) → tw D σ H') : tIfS (tNot (tB te)) tu tw D σ H :=
  he _ (by
    rw [wp_bd] at hQ
    refine wp_mono hQ (fun z _ q v F' H' n e j r => ⟨z.1, r, ?_⟩) fun c _ z => z
    obtain ⟨b, s⟩ := z
    cases b with
    | true => exact h2 s F' H' n e j q
    | false => exact h1 s F' H' n e j q)
/-- xs.append(f(..)), xs ours -/
theorem s_appM {p : Addr} {xs : List α} {m : R (α × S)} {k : List α × S → R β} {kk : β → Prop} (ha : At to σ H p) (o : Own K H0 false F H p xs) (he : GrM K E te σ H0 F H P J m) (hp : ¬ P p)
    (hQ : Wp (R.bd (R.bd m fun z => R.bd (appR xs z.1) fun l => .ok (l, z.2)) k) kk (EE K E H0))
    (c : ∀ xs' s F' H' F1 H1, Nx P F H F1 H1 → Same H0 H1 → J F1 H1 s → Nx (fun q => q = p) F1 H1 F' H' → Same H0 H' → Own K H0 false F' H' p xs' → Wp (k (xs', s)) kk (EE K E H0) → D.nx σ H') : tDrop (tBM K "list" rAppend to (tCons te tNil)) D σ H := by
  obtain ⟨h0, f, vs, hp', r⟩ := o.lst
  refine ha H (Same.refl _) _ ⟨.inl ⟨rfl, _, SqL.of hp'⟩, ?_⟩
  refine he _ ?_
  rw [bd_assoc, wp_bd] at hQ
  refine wp_mono hQ (fun z _ q v F1 H1 n e1 j rv => ?_) fun c _ z => z
  rw [bd_assoc, wp_bd] at q
  unfold appR gd at q
  split at q
  · rename_i cl
    have o1 := o.nx n hp
    obtain ⟨_, f1, us, hu, ru⟩ := o1.lst
    have hh := n.hh p _ hp hp'
    rw [hu] at hh
    cases hh
    refine ⟨p, vs, v, rfl, rfl, hu, lim_line' (by rw [ru.length]; exact cl), ?_⟩
    have nn := nx_upd (o' := .lst (vs ++ [v])) n.fh (Same.refl H1) hu f1
    exact c _ z.2 (mix F1 H1 H1) _ F1 H1 n e1 j nn (e0_upd e1 (Same.refl _) h0) (Own.of h0 (by rw [mix_old hu]; exact f1) upd_same ((ru.mono fun _ _ x => Rp.mono (bs_ff nn.ff) x).append (.cons (Rp.mono nn.ff rv) .nil))) q
  · exact q.elim
/-- return e, in a def that changes what it is handed -/
theorem s_retM {m : R α} {k : α → R β} {kk : β → Prop} (he : Gr K E te σ F H m) (hF : Same F H) (e0 : Same H0 H) (n : Nx P Gz Hz F H) (hQ : Wp (R.bd m k) kk (EE K E H0))
    (hk : ∀ a, Wp (k a) kk (EE K E H0) → ∀ v F' H', Nx P Gz Hz F' H' → Nx0 F H F' H' → Rp.rep K F' v a → D.rt v H') : tRet te D σ H := by
  refine he H (Same.refl _) _ ?_
  rw [wp_bd] at hQ
  exact wp_mono hQ (fun a _ q v H2 e2 r => hk a q v _ H2 (n.step0 (Nx.mk' hF e2)) (Nx.mk' hF e2) r) fun c _ z => z.mono e0
theorem delH_none {p q : Addr} (h : H p = none) : delH H q p = none := by
  unfold delH
  split
  · rfl
  · exact h
end
section
variable {K : PySem.W.Frag} {E : XK} {σ : L2.St} {H0 F H : Hp} {ta tb to ti : TE} {α : Type} [Rp α] {b : Bool} {p : Addr}
/-- an item of a list of ours is frozen -/
theorem g_idxO {xs : List α} {mi : R Int} (ha : At to σ H p) (o : Own K H0 b F H p xs) (hi : Gr K E ti σ H H mi) (hF : Same F H) : Gr K E (tOp (rIxL K) to ti) σ F H (R.bd mi fun i => idx xs i) := fun H1 e Q hq => by
  obtain ⟨h0, f, vs, hp, r⟩ := o.lst
  refine ha H1 e _ ?_
  refine gr_seq (F := F) (β := α) (ma := mi) (f := fun i => idx xs i) ?_ e hq fun i w H2 e2 ri hq2 => ?_
  · intro H3 e3 Q3 h3
    refine hi H3 e3 Q3 (wp_mono h3 (fun i _ k v H4 e4 r4 => k v H4 e4 (by
      have r4' : v = .int i := r4
      exact r4')) fun _ _ z => z)
  · have ri' : w = .int i := ri
    subst ri'
    unfold idx at hq2
    cases q : atI xs i with
    | none => rw [q] at hq2; exact hq2.elim
    | some a =>
      rw [q] at hq2
      obtain ⟨x, hx, rx⟩ := all2_atI r q
      exact ⟨p, vs, i, x, rfl, rfl, SqL.of (e2 _ _ (e _ _ hp)), hx, hq2 x H2 (Same.refl _) (Rp.mono (bs_le.trans (same_mix hF)) rx)⟩
theorem g_sortI [De α] [Od α] [Im α] {m : R (List α)} (h : Gr K E ta σ H H m) (hd : De.dep α ≤ 60 := by decide) : Gr K E (tCB (rSortA α K) (tCons ta tNil)) σ F H (R.bd m sortR) := fun H1 e Q hq =>
  gr_arg h e hq fun xs v H2 e2 r hq2 => by
    obtain ⟨p, vs, rfl, hp, hv⟩ := r
    unfold sortR gd at hq2
    split at hq2
    · rename_i c
      have hl := hv.length
      have h1 : (vs.zip xs).map Prod.fst = vs := zip_fst hl
      have h2 : (vs.zip xs).map Prod.snd = xs := zip_snd hl
      have hz := all2_zip hv
      refine ⟨p, vs.zip xs, rfl, by rw [h1]; exact SqL.of hp, fun q hq => De.dp (hz q hq), ?_, by rw [List.length_zip]; omega, hd, fun l hl => ?_⟩
      · have : (vs.zip xs).map (fun p => (De.toD p.2 : PyData)) = xs.map De.toD := by
          conv => rhs; rw [← h2, List.map_map]
          rfl
        rw [this]
        exact c.2
      · refine hq2 _ _ (same_upd hl) ?_
        refine reps_atI (G := H2) (vs := ((vs.zip xs).mergeSort fun a b => !Od.lt b.2 a.2).map Prod.fst) (Same.refl _) (e.trans e2) (same_upd hl) (by rw [mix_new (Same.free (e.trans e2) hl)]; exact upd_same) ?_
        have e3 : xs.mergeSort (fun a b => !Od.lt b a) = ((vs.zip xs).mergeSort fun a b => !Od.lt b.2 a.2).map Prod.snd := by
          conv => lhs; rw [← h2]
          exact (List.map_mergeSort (r := fun a b : V × α => !Od.lt b.2 a.2) (s := fun a b : α => !Od.lt b a) (f := Prod.snd) (fun a _ b _ => rfl)).symm
        rw [e3]
        refine zip_all2 fun q hq => hz q ?_
        exact (List.mergeSort_perm _ _).subset hq
    · exact hq2.elim
end
section
variable {X : Cx} {K : PySem.W.Frag}
theorem pi_listK {tg l : Expr} {tl : TE} (h : X.K = K) (hl : PE X l tl) : PI X tg l (iList K tl) := by subst h; exact pi_list hl
theorem pi_tupK {tg l : Expr} {tl : TE} (h : X.K = K) (hl : PE X l tl) : PI X tg l (iTup K tl) := by subst h; exact pi_tup hl
theorem pi_enumAK {e : Expr} {ta : TA} {p pos tpos : Pos} {elts : List Expr} {kk : Nat} (h : X.K = K) (hg : Gl X "enumerate") (hm : X.mg "enumerate" = none) (ha : PA X [e] ta) (hs : starEach [e] X.env = [(false, eval e X.env)] := by rfl) :
    PI X (.Tuple elts kk tpos) (.Call (.Name "enumerate" p) [e] [] pos) (iEnumA K ta) := by subst h; exact pi_enumA hg hm ha hs
end
section
variable {K : PySem.W.Frag} {E : XK} {σ : L2.St} {F H : Hp} {α β : Type} [Rp α] [Rp β]
/-- a comprehension over anything whose items are made anew -/
theorem g_compH {wi : TI} {g : TG} {tt : TT} {te : TE} {vs : List Nat} {m : R (List α)} {cf : α → R Bool} {f : α → R β} (hi : GrI K E wi σ H H m) (hF : Same F H)
    (hel : ∀ x v F2 H2, Same F F2 → Same F2 H2 → Same H H2 → Rp.rep K H2 v x → ∃ σ2, (∀ Q : L2.St → Hp → Prop, Q σ2 H2 → g v (wipe σ vs) H2 Q) ∧ wipe σ2 vs = wipe σ vs ∧ GrT K EF tt σ2 H2 (cf x) ∧ Gr K EF te σ2 F2 H2 (f x)) :
    Gr K E (tLc wi g tt te vs) σ F H (R.bd m fun xs => compR xs cf f) := fun H1 e Q hq =>
  hi H1 e _ (by
    rw [wp_bd] at hq
    refine wp_mono hq (fun xs _ k J H2 e2 ok => ?_) fun _ _ z => z
    unfold compR gd at k
    split at k
    · rename_i cl
      intro Dl hD
      have hnD : H Dl = none := Same.free (e.trans e2) hD
      refine ⟨fun i m H' => m = xs.length - i ∧ i ≤ xs.length ∧ Same H2 H' ∧ ∃ acc ys, H' Dl = some (.lst acc) ∧ acc.length ≤ i ∧ All2 (Rp.rep K (delH (mix F H H') Dl)) acc ys ∧
        Wp (compGo cf f (xs.drop i)) (fun zs => ∀ H3, Same H1 H3 → H3 Dl = H3 Dl → ∀ v, Rp.rep K (mix F H H3) v (ys ++ zs) → Q v H3) (fun _ => False), ⟨_, rfl, Nat.zero_le _, same_upd hD, [], [], upd_same, Nat.le_refl _, .nil, ?_⟩, ?_⟩
      · rw [List.drop_zero]
        refine wp_mono k (fun zs _ q H3 e3 _ v r => q v H3 e3 r) fun c hc _ => ?_
        exfalso
        have : ∀ l : List α, ∀ c, compGo cf f l ≠ .er c := by
          intro l
          induction l with
          | nil => intro c z; cases z
          | cons x l ih =>
            intro c z
            unfold compGo at z
            cases h1 : cf x with
            | ok b =>
              rw [h1] at z
              have z2 : (if b = true then R.bd (f x).nx fun y => R.bd (compGo cf f l) fun ys => .ok (y :: ys) else compGo cf f l) = .er c := z
              cases b with
              | true =>
                rw [if_pos rfl] at z2
                cases h2 : f x with
                | ok y =>
                  rw [h2] at z2
                  have z3 : (R.bd (compGo cf f l) fun ys => .ok (y :: ys)) = .er c := z2
                  cases h3 : compGo cf f l with
                  | ok ys => rw [h3] at z3; cases z3
                  | er c' => exact ih c' h3
                  | bad => rw [h3] at z3; cases z3
                | er c' => rw [h2] at z2; cases z2
                | bad => rw [h2] at z2; cases z2
              | false =>
                rw [if_neg Bool.false_ne_true] at z2
                exact ih c z2
            | er c' => rw [h1] at z; cases z
            | bad => rw [h1] at z; cases z
        exact this xs c hc
      · rintro i m H' ⟨rfl, hi', sH, acc, ys, hacc, hal, hall, hw⟩
        have hG : Same (mix H H H2) H' := (mix_same (Same.refl _) (e.trans e2)).trans sH
        by_cases ci : i < xs.length
        · refine .inr ⟨ok.go i H' hG ci, _, fun H3 h3 => ⟨xs.length - (i + 1), by omega, h3⟩, fun v H'' y => ?_⟩
          obtain ⟨e1, a, ha, r⟩ := ok.yld i H' v H'' hG ci y
          have hacc2 := e1 _ _ hacc
          have eH : Same H H'' := (e.trans e2).trans (sH.trans e1)
          obtain ⟨σ2, hg, hwp, gt, ge⟩ := hel a v (delH (mix F H H'') Dl) H'' (cmp_f (H2 := H2) hF hnD eH) (del_le.trans (mix_same hF eH)) eH (Rp.mono (mix_same hG e1) r)
          refine hg _ ⟨hwp, gt H'' (Same.refl _) _ ?_⟩
          rw [drop_get ha] at hw
          unfold compGo at hw
          rw [wp_bd] at hw
          refine wp_nx (wp_mono hw (fun b _ q H3 e3 => ?_) fun _ _ z => z)
          have al' : All2 (Rp.rep K (delH (mix F H H3) Dl)) acc ys := hall.mono fun _ _ x => Rp.mono (cmp_go (e1.trans e3)) x
          cases b with
          | true =>
            show te σ2 H3 _
            refine ge H3 e3 _ ?_
            have q2 : Wp (R.bd (f a).nx fun y => R.bd (compGo cf f (xs.drop (i + 1))) fun ys => .ok (y :: ys)) _ _ := q
            rw [wp_bd] at q2
            refine wp_nx (wp_mono q2 (fun y _ q3 w H4 e4 rw4 => ?_) fun _ _ z => z)
            have hacc4 := e4 _ _ (e3 _ _ hacc2)
            refine ⟨acc, hacc4, lim_line' (by omega), rfl, ci, ?_, acc ++ [w], ys ++ [y], upd_same, by rw [List.length_append]; simp; omega, ?_, ?_⟩
            · exact fun x o h => by
                have ne : x ≠ Dl := fun z => by rw [z, hD] at h; cases h
                rw [upd_ne ne]
                exact e4 _ _ (e3 _ _ (e1 _ _ (sH _ _ h)))
            · refine All2.append (al'.mono fun _ _ x => Rp.mono ((cmp_go e4).trans (cmp_up hnD)) x) (.cons (Rp.mono (cmp_el hnD ⟨_, hacc2⟩ eH (e3.trans e4)) rw4) .nil)
            · rw [wp_bd] at q3
              refine wp_mono q3 (fun zs _ q4 H5 e5 _ v5 r5 => ?_) fun _ _ z => z
              refine q4 H5 e5 rfl v5 ?_
              rw [List.append_assoc] at r5
              exact r5
          | false =>
            exact ⟨rfl, ci, fun x o h => e3 _ _ (e1 _ _ (sH _ _ h)), acc, ys, e3 _ _ hacc2, by omega, al', q⟩
        · have ei : i = xs.length := by omega
          refine .inl ⟨ok.stop i H' hG ei, ?_⟩
          rw [ei, List.drop_length] at hw
          have hw2 : ∀ H3, Same H1 H3 → H3 Dl = H3 Dl → ∀ v, Rp.rep K (mix F H H3) v (ys ++ []) → Q v H3 := hw
          refine hw2 H' (e2.trans sH) rfl _ ?_
          rw [List.append_nil]
          exact ⟨Dl, acc, rfl, by rw [mix_new hnD]; exact hacc, hall.mono fun _ _ x => Rp.mono del_le x⟩
    · exact k.elim)
end
end G

set_option Elab.async false
set_option linter.all false
set_option maxRecDepth 100000
set_option maxHeartbeats 4000000
/-! G: ranges with a step. -/
namespace G
open PySem PySem.Spec PyProof.Rows L2
/-- lo, lo + c, .. below hi -/
def rngSn (a b c : Int) : Nat := (Builtin.Range.rangeSize a b c).toNat
def rngS (a b c : Int) : List Int := (List.range (rngSn a b c)).map fun i : Nat => a + (i : Int) * c
def rngSok (a b c : Int) : Prop := 0 ≤ a ∧ a ≤ 1000000 ∧ 0 ≤ b ∧ b ≤ 1000000 ∧ 0 < c ∧ c ≤ 1000
noncomputable def rng3S (a b c : Int) : R (List Int) := gd (rngSok a b c) (.ok (rngS a b c))
theorem rgc_up {a b c : Int} (h : rngSok a b c) : RgC a b c (rngSn a b c) := by
  obtain ⟨h1, h2, h3, h4, h5, h6⟩ := h
  have e : Builtin.Range.rangeSize a b c = ((rngSn a b c : Nat) : Int) := rangeSize_toNat a b c
  have le : rngSn a b c ≤ (b - a).toNat + (a - b).toNat := rangeSize_toNat_le a b c
  have m : ((rngSn a b c : Nat) : Int) * c ≤ 2000000 * 1000 := Int.mul_le_mul (by omega) (by omega) (by omega) (by omega)
  have m0 : 0 ≤ ((rngSn a b c : Nat) : Int) * c := Int.mul_nonneg (by omega) (by omega)
  refine ⟨by omega, by omega, ?_, e⟩
  unfold Builtin.Range.small
  rw [e]
  simp only [Builtin.Range.rangeFitsLong, Bool.and_eq_true, Bool.or_eq_true, decide_eq_true_eq, beq_iff_eq, show c > 0 from h5, if_true]
  omega
section
variable {K : PySem.W.Frag} {E : XK} {σ : L2.St} {F H : Hp} {ta tb tc : TE}
theorem i_rng3S {ma mb : R Int} {c : Int} (ha : Gr K E ta σ F H ma) (hb : Gr K E tb σ F H mb) (hc : Gr K E tc σ F H (.ok c)) : GrI K E (iRng3 (tCons ta (tCons tb (tCons tc tNil)))) σ F H (R.bd ma fun a => R.bd mb fun b => rng3S a b c) := fun H1 e RR hq =>
  ha H1 e _ (by
    rw [wp_bd] at hq
    refine wp_mono hq (fun n _ k v H2 e2 r => ?_) fun _ _ z => z
    have r' : v = .int n := r
    subst r'
    refine hb H2 (e.trans e2) _ ?_
    rw [wp_bd] at k
    refine wp_mono k (fun n2 _ k v2 H3 e3 r3 => ?_) fun _ _ z => z.mono e2
    have r3' : v2 = .int n2 := r3
    subst r3'
    refine hc H3 (e.trans (e2.trans e3)) _ (fun v3 H4 e4 r4 => ?_)
    have r4' : v3 = .int c := r4
    subst r4'
    unfold rng3S gd at k
    split at k
    · rename_i ck
      refine ⟨n, n2, c, rngSn n n2 c, rfl, rgc_up ck, k _ H4 (e2.trans (e3.trans e4)) ⟨fun i H' s hi => ?_, fun i H' s hi => ?_, fun i H' x H'' s hi y => ?_⟩⟩
      · unfold rngS at hi
        simp at hi
        exact hi
      · unfold rngS at hi
        simp at hi
        show rngSn n n2 c ≤ i
        omega
      · obtain ⟨e1, y⟩ := y
        subst e1 y
        unfold rngS at hi ⊢
        simp at hi
        exact ⟨Same.refl _, _, by rw [List.getElem?_map, List.getElem?_range hi]; rfl, rfl⟩
    · exact k.elim)
end
/-! ### list(range(a, b, -1)) -/
def dnV (a : Int) (n : Nat) : List V := (List.range n).map fun i => V.int (a - (i : Nat))
def tRg3D (ta : TA) : L2.St → Hp → (Int → Int → Hp → Prop) → Prop := fun σ H Q => ta σ H fun vs H1 => ∃ i j, vs = [.int i, .int j, .int (-1)] ∧ Q i j H1
def tLstRgD (te : L2.St → Hp → (Int → Int → Hp → Prop) → Prop) : TE := fun σ H Q => te σ H fun a b H1 => RgOk b a ∧ ∀ q, H1 q = none → Q (.ref q) (upd H1 q (.lst (dnV a (a - b).toNat)))
section
variable {X : Cx} {a b c e : Expr} {ta : TA} {te : L2.St → Hp → (Int → Int → Hp → Prop) → Prop}
def PRgD (X : Cx) (e : Expr) (t : L2.St → Hp → (Int → Int → Hp → Prop) → Prop) : Prop :=
  ∀ (pins : List (Addr × Obj)) (s : Shared) (σ : L2.St) (H : Hp) (Q : Int → Int → Hp → Prop), Inv X pins σ H s → t σ H Q →
    wpAny (model X.prog X.w) X.A (eval e X.env) (fun x s' => ∃ r i j t u v H', x = .ref r ∧ IsRange s'.heap r i j (-1) t u v ∧ Inv X pins σ H' s' ∧ Q i j H') X.xe s
theorem prg_3D {p pos : Pos} (hg : Gl X "range") (hm : X.mg "range" = none) (ha : PA X [a, b, c] ta) (hs : starEach [a, b, c] X.env = (false, eval a X.env) :: starEach [b, c] X.env := by rfl)
    (hpl : (backTo pos (starEach [b, c] X.env)).any (·.1) = false := by rfl) : PRgD X (.Call (.Name "range" p) [a, b, c] [] pos) (tRg3D ta) := by
  intro pins s σ H Q I h
  refine Call_ (ld_blt I hg hm boot_range (PyProof.Rows.callWith_type1 (thn (ha.run pos pins s σ H _ I h) fun us s1 ⟨vs, H1, I1, r1, i, j, ev, q⟩ => ?_) hs hpl))
  subst ev
  obtain ⟨u1, us, rfl, ra, r1⟩ : ∃ u us', us = u :: us' ∧ RelV (.int i) u ∧ Vals [.int j, .int (-1)] us' := by cases r1 with | cons r rr => exact ⟨_, _, rfl, r, rr⟩
  obtain ⟨u2, us, rfl, rb, r1⟩ : ∃ u us', us = u :: us' ∧ RelV (.int j) u ∧ Vals [.int (-1)] us' := by cases r1 with | cons r rr => exact ⟨_, _, rfl, r, rr⟩
  obtain ⟨u3, rfl, rc⟩ : ∃ u, us = [u] ∧ RelV (.int (-1)) u := by cases r1 with | cons r rr => cases rr; exact ⟨_, rfl, r⟩
  obtain ⟨t, rfl⟩ := ra
  obtain ⟨t', rfl⟩ := rb
  obtain ⟨t'', rfl⟩ := rc
  refine call_range_3 (by decide) ?_ (.inl (PyProof.noPylong_small (by decide)))
  exact ⟨_, i, j, _, _, _, H1, rfl, IsRange.new .., I1.kept fun b u e => Heap.get?_push_of_some _ e, q⟩
theorem vals_dn {a : Int} {n : Nat} {acc : Array Value} (h : ItemsOf (fun i v => ∃ t, v = .int (a + i * (-1)) t) acc n) : Vals (dnV a n) acc.toList := by
  have e : acc.toList.length = n := by rw [Array.length_toList]; exact h.1
  unfold dnV
  rw [← e]
  refine vals_of_get acc.toList _ fun j u hj => ?_
  obtain ⟨t, rfl⟩ := h.2 j u (by rw [← hj, Array.getElem?_toList])
  exact ⟨t, by congr 1; omega⟩
theorem pe_listRgD {p pos : Pos} (hc : X.calm = true) (hg : Gl X "list") (hm : X.mg "list" = none) (he : PRgD X e te) (na : starEach [e] X.env = (false, eval e X.env) :: starEach [] X.env := by rfl) : PE X (.Call (.Name "list" p) [e] [] pos) (tLstRgD te) := by
  refine ⟨fun pins s σ H Q I h => ?_⟩
  refine Call_ (ld_blt I hg hm boot_list (PyProof.Rows.callWith_type1 (args_cons (thn (he pins s σ H _ I h) fun x s1 ⟨r, i, j, t, u, v, H1, ex, hr, I1, ok, q⟩ => args_nil ?_) na) na))
  subst ex
  obtain ⟨b1, b2, b3, b4, b5⟩ := ok
  refine call_list_range (n := (i - j).toNat) (I1.ok.hd hc) hr (PySem.W.small_down b3 b4 b1 b2) (PySem.W.rangeSize_downNat i j) b5 fun h' tk acc c' hk e' hi => ?_
  refine ⟨.ref s1.heap.objs.size, upd H1 s1.heap.objs.size (.lst (dnV i (i - j).toNat)), I1.laid hk (Nat.le_refl _) (show ObjOk X.prog X.w _ _ _ (.lst (dnV i (i - j).toNat)) from ⟨?_, acc.toList, c', vals_dn hi, ?_⟩), rfl, q _ (I1.hok.fresh (Nat.le_refl _))⟩
  · unfold dnV; rw [List.length_map, List.length_range, sizeLine_eq]; omega
  · rw [Array.toArray_toList]; exact e'
end
section
variable {K : PySem.W.Frag} {E : XK} {σ : L2.St} {F H : Hp} {ta tb tc : TE}
noncomputable def rngLstD (a b : Int) : R (List Int) := gd (0 ≤ a ∧ a ≤ 1000000 ∧ 0 ≤ b ∧ b ≤ 1000000) (.ok (rngD a b))
theorem g_listRgD {ma mb : R Int} (ha : Gr K E ta σ H H ma) (hb : Gr K E tb σ H H mb) (hc : Gr K E tc σ H H (.ok (-1 : Int))) : Gr K E (tLstRgD (tRg3D (tCons ta (tCons tb (tCons tc tNil))))) σ F H (R.bd ma fun a => R.bd mb fun b => rngLstD a b) := fun H1 e Q hq =>
  gr_arg ha e hq fun i v H2 e2 r hq2 => gr_arg hb (e.trans e2) hq2 fun j w H3 e3 r3 hq3 => hc H3 (e.trans (e2.trans e3)) _ fun x H4 e4 r4 => by
    have r' : v = .int i := r
    have r3' : w = .int j := r3
    have r4' : x = .int (-1) := r4
    subst r' r3' r4'
    unfold rngLstD gd at hq3
    split at hq3
    · rename_i c
      refine ⟨i, j, rfl, RgOk.of_le (by omega) (by omega) (by omega) (by omega), fun l hl => hq3 _ _ (e4.trans (same_upd hl)) ?_⟩
      have hn : H l = none := Same.free (e.trans (e2.trans (e3.trans e4))) hl
      have : dnV i (i - j).toNat = (rngD i j).map V.int := by unfold dnV rngD; rw [List.map_map]; rfl
      exact ⟨l, _, rfl, by rw [mix_new hn]; exact upd_same, by rw [this]; exact ints_rep _⟩
    · exact hq3.elim
end
end G

set_option Elab.async false
set_option linter.all false
set_option maxRecDepth 100000
set_option maxHeartbeats 4000000
/-! G: things whose parts lie apart, so that a part can be changed alone. -/
namespace G
open PySem PySem.Spec PyProof.Rows L2
/-- a thing that can change is there -/
def muc (H : Hp) (b : Addr) : Prop := ∃ o, H b = some o ∧ tupB (some o) = false
theorem muc_mono {H H' : Hp} (e : Same H H') {b : Addr} (h : muc H b) : muc H' b := let ⟨o, h1, h2⟩ := h; ⟨o, e b o h1, h2⟩
theorem muc_some {H : Hp} {b : Addr} (h : muc H b) : H b ≠ none := by obtain ⟨o, h, _⟩ := h; rw [h]; intro z; cases z
/-- H' has what H has at S, and its tuples -/
def Agr (S : Addr → Prop) (H H' : Hp) : Prop := ∀ b o, H b = some o → (S b ∨ tupB (some o) = true) → H' b = some o
theorem Agr.same {S : Addr → Prop} {H H' : Hp} (e : Same H H') : Agr S H H' := fun b o h _ => e b o h
theorem Agr.sub {S S' : Addr → Prop} {H H' : Hp} (a : Agr S H H') (h : ∀ b, S' b → S b) : Agr S' H H' := fun b o q z => a b o q (z.imp (h b) id)
class Tr (α : Type) [Rp α] where
  tr : PySem.W.Frag → Hp → (Addr → Prop) → V → α → Prop
  rep : ∀ {K : PySem.W.Frag} {H : Hp} {S : Addr → Prop} {v : V} {a : α}, tr K H S v a → Rp.rep K H v a
  mono : ∀ {K : PySem.W.Frag} {H H' : Hp} {S : Addr → Prop} {v : V} {a : α}, Agr S H H' → tr K H S v a → tr K H' S v a
  cut : ∀ {K : PySem.W.Frag} {H : Hp} {S : Addr → Prop} {v : V} {a : α}, tr K H S v a → tr K H (fun b => S b ∧ muc H b) v a
/-- it has no part that can change -/
class Nc (α : Type) [Rp α] [Tr α] : Prop where
  of : ∀ {K : PySem.W.Frag} {H : Hp} {S : Addr → Prop} {v : V} {a : α}, Rp.rep K H v a → Tr.tr K H S v a
/-- it has one at most -/
class T1 (α : Type) [Rp α] [Tr α] : Prop where
  of : ∀ {K : PySem.W.Frag} {H : Hp} {v : V} {a : α}, Rp.rep K H v a → Tr.tr K H (muc H) v a
/-- what rests on tuples alone -/
def trI {α : Type} [Rp α] [Im α] : Tr α := ⟨fun K H _ v a => Rp.rep K H v a, fun h => h, fun a h => Im.mv (fun p xs q => a p _ q (.inr rfl)) h, fun h => h⟩
instance : Tr Int := trI
instance : Tr Bool := trI
instance : Tr Str := trI
instance : Tr Unit := trI
instance : Tr (Option Int) := trI
instance {α : Type} [Rp α] [Im α] : Tr (Tu α) := trI
instance : Nc Int := ⟨fun h => h⟩
instance : Nc Bool := ⟨fun h => h⟩
instance : Nc Str := ⟨fun h => h⟩
instance : Nc Unit := ⟨fun h => h⟩
instance : Nc (Option Int) := ⟨fun h => h⟩
instance {α : Type} [Rp α] [Im α] : Nc (Tu α) := ⟨fun h => h⟩
instance {α β : Type} [Rp α] [Rp β] [Tr α] [Tr β] : Tr (α × β) where
  tr K H S v t := ∃ p x y S1 S2, v = .ref p ∧ H p = some (.tup [x, y]) ∧ (∀ b, S1 b → S b ∧ ¬ S2 b) ∧ (∀ b, S2 b → S b) ∧ Tr.tr K H S1 x t.1 ∧ Tr.tr K H S2 y t.2
  rep := fun ⟨p, x, y, S1, S2, h1, h2, _, _, h3, h4⟩ => ⟨p, x, y, h1, h2, Tr.rep h3, Tr.rep h4⟩
  mono := fun a ⟨p, x, y, S1, S2, h1, h2, d1, d2, h3, h4⟩ => ⟨p, x, y, S1, S2, h1, a p _ h2 (.inr rfl), d1, d2, Tr.mono (a.sub fun b z => (d1 b z).1) h3, Tr.mono (a.sub d2) h4⟩
  cut := fun ⟨p, x, y, S1, S2, h1, h2, d1, d2, h3, h4⟩ => ⟨p, x, y, _, _, h1, h2, fun b ⟨z, m⟩ => ⟨⟨(d1 b z).1, m⟩, fun w => (d1 b z).2 w.1⟩, fun b ⟨z, m⟩ => ⟨d2 b z, m⟩, Tr.cut h3, Tr.cut h4⟩
instance {α β : Type} [Rp α] [Rp β] [Tr α] [Tr β] [Nc α] [Nc β] : Nc (α × β) := ⟨fun ⟨p, x, y, h1, h2, h3, h4⟩ => ⟨p, x, y, fun _ => False, fun _ => False, h1, h2, fun _ z => z.elim, fun _ z => z.elim, Nc.of h3, Nc.of h4⟩⟩
inductive TrL {α : Type} (T : (Addr → Prop) → V → α → Prop) : (Addr → Prop) → List V → List α → Prop
  | nil {S : Addr → Prop} : TrL T S [] []
  | cons {S S1 S2 : Addr → Prop} {v : V} {a : α} {vs : List V} {as : List α} (h1 : ∀ b, S1 b → S b ∧ ¬ S2 b) (h2 : ∀ b, S2 b → S b) (r : T S1 v a) (t : TrL T S2 vs as) : TrL T S (v :: vs) (a :: as)
section
variable {α : Type} {T T' : (Addr → Prop) → V → α → Prop}
theorem TrL.wk : ∀ {S S' : Addr → Prop} {vs : List V} {as : List α}, (∀ b, S b → S' b) → TrL T S vs as → TrL T S' vs as
  | _, _, _, _, _, .nil => .nil
  | _, _, _, _, h, .cons h1 h2 r t => .cons (fun b z => ⟨h b (h1 b z).1, (h1 b z).2⟩) (fun b z => h b (h2 b z)) r t
theorem TrL.all {F : V → α → Prop} (h : ∀ S v a, T S v a → F v a) : ∀ {S : Addr → Prop} {vs : List V} {as : List α}, TrL T S vs as → All2 F vs as
  | _, _, _, .nil => .nil
  | _, _, _, .cons _ _ r t => .cons (h _ _ _ r) (TrL.all h t)
theorem TrL.mp : ∀ {S : Addr → Prop} {vs : List V} {as : List α}, (∀ S1 v a, (∀ b, S1 b → S b) → T S1 v a → T' S1 v a) → TrL T S vs as → TrL T' S vs as
  | _, _, _, _, .nil => .nil
  | _, _, _, h, .cons h1 h2 r t => .cons h1 h2 (h _ _ _ (fun b z => (h1 b z).1) r) (TrL.mp (fun S1 v a q => h S1 v a fun b z => h2 b (q b z)) t)
theorem TrL.ct {M : Addr → Prop} (h : ∀ S v a, T S v a → T (fun b => S b ∧ M b) v a) : ∀ {S : Addr → Prop} {vs : List V} {as : List α}, TrL T S vs as → TrL T (fun b => S b ∧ M b) vs as
  | _, _, _, .nil => .nil
  | _, _, _, .cons h1 h2 r t => .cons (fun b ⟨z, m⟩ => ⟨⟨(h1 b z).1, m⟩, fun w => (h1 b z).2 w.1⟩) (fun b ⟨z, m⟩ => ⟨h2 b z, m⟩) (h _ _ _ r) (TrL.ct h t)
/-- one more, apart from all -/
theorem TrL.snoc {S2 : Addr → Prop} {v : V} {a : α} : ∀ {S S1 : Addr → Prop} {vs : List V} {as : List α}, TrL T S1 vs as → T S2 v a → (∀ b, S1 b → S b ∧ ¬ S2 b) → (∀ b, S2 b → S b) → TrL T S (vs ++ [v]) (as ++ [a])
  | _, _, _, _, .nil, r, h1, h2 => .cons (S1 := S2) (S2 := fun _ => False) (fun b z => ⟨h2 b z, fun w => w⟩) (fun _ z => z.elim) r .nil
  | S, S1, _, _, .cons (S1 := A1) (S2 := A2) k1 k2 r0 t, r, h1, h2 => .cons (S1 := A1) (S2 := fun b => A2 b ∨ S2 b) (fun b z => ⟨(h1 b (k1 b z).1).1, fun w => w.elim (k1 b z).2 (h1 b (k1 b z).1).2⟩) (fun b z => z.elim (fun w => (h1 b (k2 b w)).1) (h2 b)) r0
      (TrL.snoc t r (fun b z => ⟨.inl z, (h1 b (k2 b z)).2⟩) fun b z => .inr z)
/-- the one at a place, and another put there -/
theorem TrL.at : ∀ {S : Addr → Prop} {vs : List V} {as : List α} {j : Nat} {a : α}, TrL T S vs as → as[j]? = some a → ∃ v S1, vs[j]? = some v ∧ T S1 v a ∧ (∀ b, S1 b → S b) ∧
    ∀ (T' : (Addr → Prop) → V → α → Prop) (a' : α), T' S1 v a' → (∀ S' v a, (∀ b, S' b → S b ∧ ¬ S1 b) → T S' v a → T' S' v a) → TrL T' S vs (as.set j a')
  | _, _, _, _, _, .nil, e => by simp at e
  | S, _, _, 0, a, .cons (S1 := A1) (S2 := A2) h1 h2 r t, e => by
    simp at e
    subst e
    refine ⟨_, A1, rfl, r, fun b z => (h1 b z).1, fun T' a' r' k => ?_⟩
    exact .cons h1 h2 r' (TrL.mp (fun S1 v a q w => k S1 v a (fun b z => ⟨h2 b (q b z), fun y => (h1 b y).2 (q b z)⟩) w) t)
  | S, _, _, j + 1, a, .cons (S1 := A1) (S2 := A2) h1 h2 r t, e => by
    obtain ⟨v, S1, e1, r1, s1, k1⟩ := TrL.at (j := j) t (by simpa using e)
    refine ⟨v, S1, by simpa using e1, r1, fun b z => h2 b (s1 b z), fun T' a' r' k => ?_⟩
    exact .cons h1 h2 (k A1 _ _ (fun b z => ⟨(h1 b z).1, fun y => (h1 b z).2 (s1 b y)⟩) r) (k1 T' a' r' fun S' v a q w => k S' v a (fun b z => ⟨h2 b (q b z).1, (q b z).2⟩) w)
end
instance {α : Type} [Rp α] [Tr α] : Tr (List α) where
  tr K H S v xs := ∃ p vs S1, v = .ref p ∧ H p = some (.lst vs) ∧ S p ∧ (∀ b, S1 b → S b ∧ b ≠ p) ∧ TrL (fun S v a => Tr.tr K H S v a) S1 vs xs
  rep := fun ⟨p, vs, S1, h1, h2, _, _, t⟩ => ⟨p, vs, h1, h2, t.all fun _ _ _ r => Tr.rep r⟩
  mono := fun a ⟨p, vs, S1, h1, h2, h3, h4, t⟩ => ⟨p, vs, S1, h1, a p _ h2 (.inl h3), h3, h4, t.mp fun S2 v x q r => Tr.mono (a.sub fun b z => (h4 b (q b z)).1) r⟩
  cut := fun ⟨p, vs, S1, h1, h2, h3, h4, t⟩ => ⟨p, vs, _, h1, h2, ⟨h3, _, h2, rfl⟩, fun b ⟨z, m⟩ => ⟨⟨(h4 b z).1, m⟩, (h4 b z).2⟩, t.ct fun _ _ _ r => Tr.cut r⟩
theorem trl_nc {α : Type} [Rp α] [Tr α] [Nc α] {K : PySem.W.Frag} {H : Hp} {S : Addr → Prop} : ∀ {vs : List V} {xs : List α}, All2 (Rp.rep K H) vs xs → TrL (fun S v a => Tr.tr K H S v a) S vs xs
  | _, _, .nil => .nil
  | _, _, .cons r t => .cons (S1 := fun _ => False) (S2 := fun _ => False) (fun _ z => z.elim) (fun _ z => z.elim) (Nc.of r) (trl_nc t)
/-- a list of such has one cell -/
theorem tr_leaf {α : Type} [Rp α] [Tr α] [Nc α] {K : PySem.W.Frag} {H : Hp} {S : Addr → Prop} {p : Addr} {vs : List V} {xs : List α} (hp : H p = some (.lst vs)) (h : All2 (Rp.rep K H) vs xs) (hS : S p) : Tr.tr K H S (.ref p) xs :=
  ⟨p, vs, fun _ => False, rfl, hp, hS, fun _ z => z.elim, trl_nc h⟩
instance {α : Type} [Rp α] [Tr α] [Nc α] : T1 (List α) := ⟨fun ⟨p, vs, h1, h2, h3⟩ => by rw [h1]; exact tr_leaf h2 h3 ⟨_, h2, rfl⟩⟩
instance {α β : Type} [Rp α] [Rp β] [Tr α] [Tr β] [T1 α] [Nc β] : T1 (α × β) := ⟨fun {K H v a} ⟨p, x, y, h1, h2, h3, h4⟩ => ⟨p, x, y, muc H, fun _ => False, h1, h2, fun b z => ⟨z, fun w => w⟩, fun _ z => z.elim, T1.of h3, Nc.of h4⟩⟩
instance {α β : Type} [Rp α] [Rp β] [Tr α] [Tr β] [Nc α] [T1 β] : T1 (α × β) := ⟨fun {K H v a} ⟨p, x, y, h1, h2, h3, h4⟩ => ⟨p, x, y, fun _ => False, muc H, h1, h2, fun _ z => z.elim, fun b z => z, Nc.of h3, T1.of h4⟩⟩
/-- told with its parts apart -/
structure Apt (α : Type) where
  l : α
  deriving DecidableEq
instance {α : Type} [Rp α] [Tr α] : Rp (Apt α) where
  rep K H v x := ∃ S, Tr.tr K H S v x.l
  mono e h := let ⟨S, r⟩ := h; ⟨S, Tr.mono (Agr.same e) r⟩
section
variable {K : PySem.W.Frag} {E : XK} {σ : L2.St} {H0 F H F' H' : Hp} {te ta tb to ti : TE} {α β γ δ : Type} [Rp α] [Rp β] [Rp γ] [Rp δ] [Tr α] [Tr β] [Tr γ] {D : Ends} {P : Addr → Prop}
theorem g_apl {m : R (Apt α)} (h : Gr K E te σ F H m) : Gr K E te σ F H (R.bd m fun a => .ok a.l) := fun H1 e Q hq =>
  h H1 e Q (by
    rw [wp_bd] at hq
    exact wp_mono hq (fun a _ k v H2 e2 ⟨S, r⟩ => k v H2 e2 (Tr.rep r)) fun _ _ z => z)
/-! ### what an expression makes anew -/
def NewS (H H2 : Hp) (S : Addr → Prop) : Prop := ∀ b, S b → H b = none ∧ muc H2 b
def GrX (K : PySem.W.Frag) (E : XK) (te : TE) (σ : L2.St) (H : Hp) (m : R α) : Prop :=
  ∀ H1, Same H H1 → ∀ Q : VK, Wp m (fun a => ∀ v H2, Same H1 H2 → (∃ S, Tr.tr K H2 S v a ∧ NewS H H2 S) → Q v H2) (EE K E H1) → te σ H1 Q
theorem newS_mix {H2 : Hp} {S : Addr → Prop} {v : V} {a : α} (e : Same H H2) (r : Tr.tr K H2 S v a) (n : NewS H H2 S) : Tr.tr K (mix F H H2) S v a :=
  Tr.mono (fun b o h z => by
    rcases z with z | z
    · rw [mix_new (n b z).1]; exact h
    · cases q : H b with
      | none => rw [mix_new q]; exact h
      | some u =>
        have := e b u q
        rw [h] at this
        cases this
        exact mix_tup q z) r
theorem gx_apt {m : R α} (h : GrX K E te σ H m) : Gr K E te σ F H (R.bd m fun a => .ok (Apt.mk a)) := fun H1 e Q hq =>
  h H1 e Q (by
    rw [wp_bd] at hq
    exact wp_mono hq (fun a _ k v H2 e2 ⟨S, r, n⟩ => k v H2 e2 ⟨S, newS_mix (e.trans e2) r n⟩) fun _ _ z => z)
theorem gx_nc [Nc α] {m : R α} (h : Gr K E te σ H H m) : GrX K E te σ H m := fun H1 e Q hq =>
  h H1 e Q (wp_mono hq (fun a _ k v H2 e2 r => k v H2 e2 ⟨fun _ => False, Nc.of (Rp.mono (mix_same (Same.refl _) (e.trans e2)) r), fun _ z => z.elim⟩) fun _ _ z => z)
theorem gx_t1 [T1 α] {m : R α} (h : Gr K E te σ nil0 H m) : GrX K E te σ H m := fun H1 e Q hq =>
  h H1 e Q (wp_mono hq (fun a _ k v H2 e2 r => k v H2 e2 (by
    have c := Tr.cut (T1.of r)
    refine ⟨_, Tr.mono (Agr.same (mix_same nil_same (e.trans e2))) c, fun b ⟨⟨o, h, t⟩, _⟩ => ?_⟩
    rcases mix_cases h with ⟨z, w⟩ | ⟨_, w⟩ | ⟨_, _, _, w⟩
    · exact ⟨z, o, w, t⟩
    · rw [t] at w; cases w
    · cases w)) fun _ _ z => z)
theorem gx_pairL [Nc β] {ma : R α} {mb : R β} (ha : GrX K E ta σ H ma) (hb : Gr K E tb σ H H mb) : GrX K E (tTup (tCons ta (tCons tb tNil))) σ H (R.bd ma fun a => R.bd mb fun b => .ok (a, b)) := fun H1 e Q hq =>
  ha H1 e _ (by
    rw [wp_bd] at hq
    refine wp_mono hq (fun a _ k v H2 e2 ⟨S, r, n⟩ => ?_) fun _ _ z => z
    refine hb H2 (e.trans e2) _ ?_
    rw [wp_bd] at k
    refine wp_mono k (fun b _ k w H3 e3 r3 => ?_) fun _ _ z => z.mono e2
    refine ⟨by show 2 ≤ sizeLine; decide, fun p hp => k _ _ (e2.trans (e3.trans (same_upd hp))) ⟨S, ⟨p, v, w, S, fun _ => False, rfl, upd_same, fun b z => ⟨z, fun y => y⟩, fun _ z => z.elim, Tr.mono (Agr.same (e3.trans (same_upd hp))) r, Nc.of (Rp.mono ((mix_same (Same.refl _) (e.trans (e2.trans e3))).trans (same_upd hp)) r3)⟩, fun b z => ⟨(n b z).1, muc_mono (e3.trans (same_upd hp)) (n b z).2⟩⟩⟩)
theorem gx_pairR [Nc α] {ma : R α} {mb : R β} (ha : Gr K E ta σ H H ma) (hb : GrX K E tb σ H mb) : GrX K E (tTup (tCons ta (tCons tb tNil))) σ H (R.bd ma fun a => R.bd mb fun b => .ok (a, b)) := fun H1 e Q hq =>
  ha H1 e _ (by
    rw [wp_bd] at hq
    refine wp_mono hq (fun a _ k v H2 e2 r => ?_) fun _ _ z => z
    refine hb H2 (e.trans e2) _ ?_
    rw [wp_bd] at k
    refine wp_mono k (fun b _ k w H3 e3 ⟨S, r3, n⟩ => ?_) fun _ _ z => z.mono e2
    refine ⟨by show 2 ≤ sizeLine; decide, fun p hp => k _ _ (e2.trans (e3.trans (same_upd hp))) ⟨S, ⟨p, v, w, fun _ => False, S, rfl, upd_same, fun _ z => z.elim, fun b z => z, Nc.of (Rp.mono ((mix_same (Same.refl _) (e.trans e2)).trans (e3.trans (same_upd hp))) r), Tr.mono (Agr.same (same_upd hp)) r3⟩, fun b z => ⟨(n b z).1, muc_mono (same_upd hp) (n b z).2⟩⟩⟩)
theorem gx_pair {ma : R α} {mb : R β} (ha : GrX K E ta σ H ma) (hb : ∀ H2, Same H H2 → GrX K E tb σ H2 mb) : GrX K E (tTup (tCons ta (tCons tb tNil))) σ H (R.bd ma fun a => R.bd mb fun b => .ok (a, b)) := fun H1 e Q hq =>
  ha H1 e _ (by
    rw [wp_bd] at hq
    refine wp_mono hq (fun a _ k v H2 e2 ⟨S, r, n⟩ => ?_) fun _ _ z => z
    refine hb H2 (e.trans e2) H2 (Same.refl _) _ ?_
    rw [wp_bd] at k
    refine wp_mono k (fun b _ k w H3 e3 ⟨S2, r3, n3⟩ => ?_) fun _ _ z => z.mono e2
    refine ⟨by show 2 ≤ sizeLine; decide, fun p hp => k _ _ (e2.trans (e3.trans (same_upd hp))) ⟨fun b => S b ∨ S2 b, ⟨p, v, w, S, S2, rfl, upd_same, fun b z => ⟨.inl z, fun y => muc_some (n b z).2 (n3 b y).1⟩, fun b z => .inr z, Tr.mono (Agr.same (e3.trans (same_upd hp))) r, Tr.mono (Agr.same (same_upd hp)) r3⟩, fun b z => ?_⟩⟩
    rcases z with z | z
    · exact ⟨(n b z).1, muc_mono (e3.trans (same_upd hp)) (n b z).2⟩
    · exact ⟨Same.free (e.trans e2) (n3 b z).1, muc_mono (same_upd hp) (n3 b z).2⟩)
/-- [e] -/
theorem gx_lst1 {m : R α} (h : GrX K E te σ H m) : GrX K E (tLst (tCons te tNil)) σ H (R.bd m fun a => .ok [a]) := fun H1 e Q hq =>
  h H1 e _ (by
    rw [wp_bd] at hq
    refine wp_mono hq (fun a _ k v H2 e2 ⟨S, r, n⟩ => ?_) fun _ _ z => z
    refine ⟨by show 1 ≤ sizeLine; decide, fun p hp => k _ _ (e2.trans (same_upd hp)) ⟨fun b => S b ∨ b = p, ⟨p, [v], S, rfl, upd_same, .inr rfl, fun b z => ⟨.inl z, fun y => by rw [y] at z; exact muc_some (n p z).2 hp⟩, .cons (S1 := S) (S2 := fun _ => False) (fun b z => ⟨z, fun w => w⟩) (fun _ z => z.elim) (Tr.mono (Agr.same (same_upd hp)) r) .nil⟩, fun b z => ?_⟩⟩
    rcases z with z | z
    · exact ⟨(n b z).1, muc_mono (same_upd hp) (n b z).2⟩
    · rw [z]; exact ⟨Same.free (e.trans e2) hp, _, upd_same, rfl⟩)
end
end G

set_option Elab.async false
set_option linter.all false
set_option maxRecDepth 100000
set_option maxHeartbeats 4000000
/-! G: comprehensions that tell parts apart. -/
namespace G
open PySem PySem.Spec PyProof.Rows L2
theorem compGo_ner {α β : Type} {cf : α → R Bool} {f : α → R β} : ∀ (l : List α) (c : Er), compGo cf f l ≠ .er c
  | [], c, z => by cases z
  | x :: l, c, z => by
    unfold compGo at z
    cases h1 : cf x with
    | ok b =>
      rw [h1] at z
      have z2 : (if b = true then R.bd (f x).nx fun y => R.bd (compGo cf f l) fun ys => .ok (y :: ys) else compGo cf f l) = .er c := z
      cases b with
      | true =>
        rw [if_pos rfl] at z2
        cases h2 : f x with
        | ok y =>
          rw [h2] at z2
          have z3 : (R.bd (compGo cf f l) fun ys => .ok (y :: ys)) = .er c := z2
          cases h3 : compGo cf f l with
          | ok ys => rw [h3] at z3; cases z3
          | er c' => exact compGo_ner l c' h3
          | bad => rw [h3] at z3; cases z3
        | er c' => rw [h2] at z2; cases z2
        | bad => rw [h2] at z2; cases z2
      | false =>
        rw [if_neg Bool.false_ne_true] at z2
        exact compGo_ner l c z2
    | er c' => rw [h1] at z; cases z
    | bad => rw [h1] at z; cases z
section
variable {K : PySem.W.Frag} {E : XK} {σ : L2.St} {H : Hp} {α β : Type} [Rp α] [Rp β] [Tr β]
theorem trl_agr {S : Addr → Prop} {H H' : Hp} {vs : List V} {xs : List β} (a : Agr S H H') (t : TrL (fun S v x => Tr.tr K H S v x) S vs xs) : TrL (fun S v x => Tr.tr K H' S v x) S vs xs :=
  t.mp fun S1 v x q r => Tr.mono (a.sub q) r
theorem agr_upd {S : Addr → Prop} {H H' : Hp} {p : Addr} {vs ws : List V} (e : Same H H') (hp : H' p = some (.lst vs)) (n : ∀ b, S b → b ≠ p) : Agr S H (upd H' p (.lst ws)) := fun b o h z => by
  have : b ≠ p := fun w => by
    rcases z with z | z
    · exact n b z w
    · have q := e b o h
      rw [w, hp] at q
      cases q
      cases z
  rw [upd_ne this]
  exact e b o h
/-- a comprehension of new things -/
theorem gx_comp {wi : TI} {g : TG} {tt : TT} {te : TE} {vs : List Nat} {m : R (List α)} {cf : α → R Bool} {f : α → R β} (hi : GrI K E wi σ H H m)
    (hel : ∀ x v H2, Same H H2 → Rp.rep K H2 v x → ∃ σ2, (∀ Q : L2.St → Hp → Prop, Q σ2 H2 → g v (wipe σ vs) H2 Q) ∧ wipe σ2 vs = wipe σ vs ∧ GrT K EF tt σ2 H2 (cf x) ∧ GrX K EF te σ2 H2 (f x)) :
    GrX K E (tLc wi g tt te vs) σ H (R.bd m fun xs => compR xs cf f) := fun H1 e Q hq =>
  hi H1 e _ (by
    rw [wp_bd] at hq
    refine wp_mono hq (fun xs _ k J H2 e2 ok => ?_) fun _ _ z => z
    unfold compR gd at k
    split at k
    · rename_i cl
      intro Dl hD
      have hnD : H Dl = none := Same.free (e.trans e2) hD
      refine ⟨fun i m H' => m = xs.length - i ∧ i ≤ xs.length ∧ Same H2 H' ∧ ∃ acc ys S1, H' Dl = some (.lst acc) ∧ acc.length ≤ i ∧ TrL (fun S v x => Tr.tr K H' S v x) S1 acc (ys : List β) ∧ (∀ b, S1 b → H b = none ∧ b ≠ Dl ∧ muc H' b) ∧
        Wp (compGo cf f (xs.drop i)) (fun zs => ∀ H3, Same H1 H3 → ∀ v, (∃ S, Tr.tr K H3 S v (ys ++ zs) ∧ NewS H H3 S) → Q v H3) (fun _ => False), ⟨_, rfl, Nat.zero_le _, same_upd hD, [], [], fun _ => False, upd_same, Nat.le_refl _, .nil, fun _ z => z.elim, ?_⟩, ?_⟩
      · rw [List.drop_zero]
        exact wp_mono k (fun zs _ q H3 e3 v r => q v H3 e3 r) fun c hc _ => compGo_ner _ _ hc
      · rintro i m H' ⟨rfl, hi', sH, acc, ys, S1, hacc, hal, hall, hS, hw⟩
        have hG : Same (mix H H H2) H' := (mix_same (Same.refl _) (e.trans e2)).trans sH
        by_cases ci : i < xs.length
        · refine .inr ⟨ok.go i H' hG ci, _, fun H3 h3 => ⟨xs.length - (i + 1), by omega, h3⟩, fun v H'' y => ?_⟩
          obtain ⟨e1, a, ha, r⟩ := ok.yld i H' v H'' hG ci y
          have hacc2 := e1 _ _ hacc
          obtain ⟨σ2, hg, hwp, gt, ge⟩ := hel a v H'' ((e.trans e2).trans (sH.trans e1)) (Rp.mono (mix_same hG e1) r)
          refine hg _ ⟨hwp, gt H'' (Same.refl _) _ ?_⟩
          rw [drop_get ha] at hw
          unfold compGo at hw
          rw [wp_bd] at hw
          refine wp_nx (wp_mono hw (fun b _ q H3 e3 => ?_) fun _ _ z => z)
          cases b with
          | true =>
            show te σ2 H3 _
            refine ge H3 e3 _ ?_
            have q2 : Wp (R.bd (f a).nx fun y => R.bd (compGo cf f (xs.drop (i + 1))) fun ys => .ok (y :: ys)) _ _ := q
            rw [wp_bd] at q2
            refine wp_nx (wp_mono q2 (fun y _ q3 w H4 e4 ⟨S2, r2, n2⟩ => ?_) fun _ _ z => z)
            have hacc4 := e4 _ _ (e3 _ _ hacc2)
            have apart : ∀ b, S1 b → ¬ S2 b := fun b z w => muc_some (hS b z).2.2 (Same.free e1 (n2 b w).1)
            have nD : ∀ b, S2 b → b ≠ Dl := fun b w z => by rw [z] at w; have := (n2 Dl w).1; rw [hacc2] at this; cases this
            refine ⟨acc, hacc4, lim_line' (by omega), rfl, ci, ?_, acc ++ [w], ys ++ [y], fun b => S1 b ∨ S2 b, upd_same, by rw [List.length_append]; simp; omega, ?_, ?_, ?_⟩
            · exact fun x o h => by
                have ne : x ≠ Dl := fun z => by rw [z, hD] at h; cases h
                rw [upd_ne ne]
                exact e4 _ _ (e3 _ _ (e1 _ _ (sH _ _ h)))
            · exact (trl_agr (agr_upd (e1.trans (e3.trans e4)) hacc4 fun b z => (hS b z).2.1) hall).snoc (Tr.mono (agr_upd (Same.refl _) hacc4 nD) r2) (fun b z => ⟨.inl z, apart b z⟩) fun b z => .inr z
            · intro b z
              rcases z with z | z
              · obtain ⟨h1, h2, o, h3, h4⟩ := hS b z
                exact ⟨h1, h2, o, by rw [upd_ne h2]; exact e4 _ _ (e3 _ _ (e1 _ _ h3)), h4⟩
              · obtain ⟨h1, o, h3, h4⟩ := n2 b z
                exact ⟨Same.free ((e.trans e2).trans (sH.trans e1)) h1, nD b z, o, by rw [upd_ne (nD b z)]; exact h3, h4⟩
            · rw [wp_bd] at q3
              refine wp_mono q3 (fun zs _ q4 H5 e5 v5 r5 => ?_) fun _ _ z => z
              refine q4 H5 e5 v5 ?_
              rw [List.append_assoc] at r5
              exact r5
          | false =>
            have ee := e1.trans e3
            exact ⟨rfl, ci, fun x o h => ee _ _ (sH _ _ h), acc, ys, S1, ee _ _ hacc, by omega, trl_agr (Agr.same ee) hall, fun b z => ⟨(hS b z).1, (hS b z).2.1, muc_mono ee (hS b z).2.2⟩, q⟩
        · have ei : i = xs.length := by omega
          refine .inl ⟨ok.stop i H' hG ei, ?_⟩
          rw [ei, List.drop_length] at hw
          have hw2 : ∀ H3, Same H1 H3 → ∀ v, (∃ S, Tr.tr K H3 S v (ys ++ []) ∧ NewS H H3 S) → Q v H3 := hw
          refine hw2 H' (e2.trans sH) _ ?_
          rw [List.append_nil]
          refine ⟨fun b => S1 b ∨ b = Dl, ⟨Dl, acc, S1, rfl, hacc, .inr rfl, fun b z => ⟨.inl z, (hS b z).2.1⟩, hall⟩, fun b z => ?_⟩
          rcases z with z | z
          · exact ⟨(hS b z).1, (hS b z).2.2⟩
          · rw [z]; exact ⟨hnD, _, hacc, rfl⟩
    · exact k.elim)
/-- the items of a list of parts apart that pass a test -/
theorem gx_filter [Tr α] {tl : TE} {g : TG} {tt : TT} {te : TE} {vs : List Nat} {m : R (Apt (List α))} {cf : α → R Bool} (hi : Gr K E tl σ nil0 H m)
    (hel : ∀ x v H2, Same H H2 → Rp.rep K H2 v x → ∃ σ2, (∀ Q : L2.St → Hp → Prop, Q σ2 H2 → g v (wipe σ vs) H2 Q) ∧ wipe σ2 vs = wipe σ vs ∧ GrT K EF tt σ2 H2 (cf x) ∧ ∀ H3 (Q : VK), Q v H3 → te σ2 H3 Q) :
    GrX K E (tLc (iList K tl) g tt te vs) σ H (R.bd m fun xs => compR xs.l cf fun x => .ok x) := fun H1 e Q hq =>
  hi H1 e _ (by
    rw [wp_bd] at hq
    refine wp_mono hq (fun ax _ k v0 H2 e2 r0 => ?_) fun _ _ z => z
    obtain ⟨xs⟩ := ax
    obtain ⟨S0, r0⟩ := r0
    obtain ⟨p, us, SA, rfl, hp, hSp, hSA, t0⟩ := Tr.cut r0
    have s2 : Same (mix nil0 H H2) H2 := mix_same nil_same (e.trans e2)
    have nw : ∀ b, muc (mix nil0 H H2) b → H b = none := fun b ⟨o, h, t⟩ => by
      rcases mix_cases h with ⟨z, _⟩ | ⟨_, w⟩ | ⟨_, _, _, w⟩
      · exact z
      · rw [t] at w; cases w
      · cases w
    have hp2 := s2 _ _ hp
    have len : us.length = xs.length := (t0.all (F := fun _ _ => True) fun _ _ _ _ => trivial).length
    refine ⟨p, rfl, ⟨us, SqL.of hp2⟩, ?_⟩
    have k : Wp (compR xs cf fun x => .ok x) _ _ := k
    unfold compR gd at k
    split at k
    · rename_i cl
      intro Dl hD
      have hnD : H Dl = none := Same.free (e.trans e2) hD
      have nD : ∀ b, muc (mix nil0 H H2) b → b ≠ Dl := fun b ⟨o, h, _⟩ z => by have := s2 _ _ h; rw [z, hD] at this; cases this
      refine ⟨fun i m H' => m = xs.length - i ∧ i ≤ xs.length ∧ Same H2 H' ∧ ∃ acc ys S1 S2, H' Dl = some (.lst acc) ∧ acc.length ≤ i ∧ TrL (fun S v x => Tr.tr K H' S v x) S1 acc (ys : List α) ∧ TrL (fun S v x => Tr.tr K H' S v x) S2 (us.drop i) (xs.drop i) ∧
        (∀ b, S1 b → muc (mix nil0 H H2) b ∧ ¬ S2 b) ∧ (∀ b, S2 b → muc (mix nil0 H H2) b) ∧
        Wp (compGo cf (fun x => .ok x) (xs.drop i)) (fun zs => ∀ H3, Same H1 H3 → ∀ v, (∃ S, Tr.tr K H3 S v (ys ++ zs) ∧ NewS H H3 S) → Q v H3) (fun _ => False), ⟨_, rfl, Nat.zero_le _, same_upd hD, [], [], fun _ => False, SA, upd_same, Nat.le_refl _, .nil, ?_, fun _ z => z.elim, fun b z => (hSA b z).1.2, ?_⟩, ?_⟩
      · rw [List.drop_zero, List.drop_zero]
        exact trl_agr (Agr.same (s2.trans (same_upd hD))) t0
      · rw [List.drop_zero]
        exact wp_mono k (fun zs _ q H3 e3 v r => q v H3 e3 r) fun c hc _ => compGo_ner _ _ hc
      · rintro i m H' ⟨rfl, hi', sH, acc, ys, S1, S2, hacc, hal, hall, hrest, h1, h2, hw⟩
        have hp' := sH _ _ hp2
        by_cases ci : i < xs.length
        · have cu : i < us.length := by omega
          refine .inr ⟨⟨us, us[i], SqL.of hp', List.getElem?_eq_getElem cu⟩, _, fun H3 h3 => ⟨xs.length - (i + 1), by omega, h3⟩, fun v H'' y => ?_⟩
          obtain ⟨rfl, y⟩ := y
          have hv := y us (SqL.of hp')
          obtain ⟨a, ha⟩ : ∃ a, xs[i]? = some a := ⟨_, List.getElem?_eq_getElem ci⟩
          rw [drop_get hv, drop_get ha] at hrest
          cases hrest with
          | @cons _ A1 A2 _ _ _ _ k1 k2 r t =>
            obtain ⟨σ2, hg, hwp, gt, ge⟩ := hel a v H'' ((e.trans e2).trans sH) (Tr.rep r)
            refine hg _ ⟨hwp, gt H'' (Same.refl _) _ ?_⟩
            rw [drop_get ha] at hw
            unfold compGo at hw
            rw [wp_bd] at hw
            refine wp_nx (wp_mono hw (fun b _ q H3 e3 => ?_) fun _ _ z => z)
            cases b with
            | true =>
              show te σ2 H3 _
              refine ge H3 _ ?_
              have q2 : Wp (R.bd (R.ok a).nx fun y => R.bd (compGo cf (fun x => .ok x) (xs.drop (i + 1))) fun ys => .ok (y :: ys)) _ _ := q
              have hacc3 := e3 _ _ hacc
              have ag : ∀ S : Addr → Prop, (∀ b, S b → muc (mix nil0 H H2) b) → Agr S H'' (upd H3 Dl (.lst (acc ++ [v]))) := fun S hS => agr_upd e3 hacc3 fun b z => nD b (hS b z)
              refine ⟨acc, hacc3, lim_line' (by omega), rfl, ci, ?_, acc ++ [v], ys ++ [a], fun b => S1 b ∨ A1 b, A2, upd_same, by rw [List.length_append]; simp; omega, ?_, ?_, ?_, ?_, ?_⟩
              · exact fun x o h => by
                  have ne : x ≠ Dl := fun z => by rw [z, hD] at h; cases h
                  rw [upd_ne ne]
                  exact e3 _ _ (sH _ _ h)
              · exact (trl_agr (ag S1 fun b z => (h1 b z).1) hall).snoc (Tr.mono (ag A1 fun b z => h2 b (k1 b z).1) r) (fun b z => ⟨.inl z, fun w => (h1 b z).2 (k1 b w).1⟩) fun b z => .inr z
              · exact trl_agr (ag A2 fun b z => h2 b (k2 b z)) t
              · intro b z
                rcases z with z | z
                · exact ⟨(h1 b z).1, fun w => (h1 b z).2 (k2 b w)⟩
                · exact ⟨h2 b (k1 b z).1, (k1 b z).2⟩
              · exact fun b z => h2 b (k2 b z)
              · have q3 : Wp (R.bd (compGo cf (fun x => .ok x) (xs.drop (i + 1))) fun ys => .ok (a :: ys)) _ _ := q2
                rw [wp_bd] at q3
                refine wp_mono q3 (fun zs _ q4 H5 e5 v5 r5 => ?_) fun _ _ z => z
                refine q4 H5 e5 v5 ?_
                rw [List.append_assoc] at r5
                exact r5
            | false =>
              exact ⟨rfl, ci, fun x o h => e3 _ _ (sH _ _ h), acc, ys, S1, A2, e3 _ _ hacc, by omega, trl_agr (Agr.same e3) hall, trl_agr (Agr.same e3) t, fun b z => ⟨(h1 b z).1, fun w => (h1 b z).2 (k2 b w)⟩, fun b z => h2 b (k2 b z), q⟩
        · have ei : i = xs.length := by omega
          refine .inl ⟨⟨us, SqL.of hp', by omega⟩, ?_⟩
          rw [ei, List.drop_length] at hw
          have hw2 : ∀ H3, Same H1 H3 → ∀ v, (∃ S, Tr.tr K H3 S v (ys ++ []) ∧ NewS H H3 S) → Q v H3 := hw
          refine hw2 H' (e2.trans sH) _ ?_
          rw [List.append_nil]
          refine ⟨fun b => S1 b ∨ b = Dl, ⟨Dl, acc, S1, rfl, hacc, .inr rfl, fun b z => ⟨.inl z, nD b (h1 b z).1⟩, hall⟩, fun b z => ?_⟩
          rcases z with z | z
          · exact ⟨nw b (h1 b z).1, muc_mono (s2.trans sH) (h1 b z).1⟩
          · rw [z]; exact ⟨hnD, _, hacc, rfl⟩
    · exact k.elim)
end
end G

set_option Elab.async false
set_option linter.all false
set_option maxRecDepth 100000
set_option maxHeartbeats 4000000
/-! G: what was told with its parts apart is ours to change, part by part. -/
namespace G
open PySem PySem.Spec PyProof.Rows L2
structure ApO {α : Type} [Rp α] [Tr α] (K : PySem.W.Frag) (H0 F H : Hp) (SS : Addr → Prop) (v : V) (a : α) : Prop where
  ex : ∃ S, Tr.tr K H S v a ∧ ∀ b, S b → SS b ∧ F b = none ∧ H0 b = none ∧ muc H b
/-- F and the tuples of H -/
def tupF (F H : Hp) : Hp := fun b => if tupB (H b) = true then H b else F b
section
variable {K : PySem.W.Frag} {E : XK} {σ : L2.St} {H0 F H F' H' : Hp} {te ta tb to ti : TE} {t : TT} {tu tw : TS} {α β γ δ ρ S : Type} [Rp α] [Rp β] [Rp γ] [Rp δ] [Tr α] [Tr β] [Tr γ] [Tr δ] [Rp ρ] {D : Ends} {P P2 : Addr → Prop} {SS : Addr → Prop} {v : V} {a : α}
theorem tupF_ff (e : Same F H) : Same F (tupF F H) := fun b o h => by
  unfold tupF
  split
  · exact e b o h
  · exact h
theorem tupF_le (e : Same F H) : Same (tupF F H) H := fun b o h => by
  unfold tupF at h
  split at h
  · exact h
  · exact e b o h
theorem tupF_tup {b : Addr} {xs : List V} (h : H b = some (.tup xs)) : tupF F H b = some (.tup xs) := by
  unfold tupF
  rw [h]
  rfl
theorem tupF_none {b : Addr} (h : tupB (H b) = false) (f : F b = none) : tupF F H b = none := by
  unfold tupF
  rw [h]
  exact f
theorem muc_tb {b : Addr} (h : muc H b) : tupB (H b) = false := by obtain ⟨o, h1, h2⟩ := h; rw [h1]; exact h2
theorem nx_tupF {H2 : Hp} (hF : Same F H) (e : Same H H2) : Nx0 F H (tupF F H2) H2 :=
  ⟨tupF_ff (hF.trans e), fun b o _ h => e b o h, tupF_le (hF.trans e), fun b o z h n => tupF_none (by rw [e b o h]; exact z) n, fun b o h => ⟨o, e b o h, rfl⟩⟩
theorem Own.nt {τ : Type} [Rp τ] [Cel τ] {b : Bool} {p : Addr} {x : τ} (o : Own K H0 b F H p x) : tupB (H p) = false := by
  obtain ⟨_, _, u, h, r⟩ := o
  rw [h]
  exact Cel.nt r
theorem ApO.see (o : ApO K H0 F H SS v a) : Rp.rep K H v a := let ⟨_, r, _⟩ := o.ex; Tr.rep r
theorem nx_agr {S : Addr → Prop} (n : Nx P F H F' H') (hp : ∀ q, P q → ¬ S q) (ht : ∀ q, P q → tupB (H q) = false) : Agr S H H' := fun b o h z => by
  refine n.hh b o (fun w => ?_) h
  rcases z with z | z
  · exact hp b w z
  · have := ht b w
    rw [h, z] at this
    cases this
theorem ApO.nx (o : ApO K H0 F H SS v a) (n : Nx P F H F' H') (hp : ∀ q, P q → ¬ SS q) (ht : ∀ q, P q → tupB (H q) = false) : ApO K H0 F' H' SS v a := by
  obtain ⟨S, r, h⟩ := o.ex
  refine ⟨S, Tr.mono (nx_agr n (fun q z w => hp q z (h q w).1) ht) r, fun b z => ?_⟩
  obtain ⟨h1, h2, h3, u, h4, h5⟩ := h b z
  have h6 := n.hh b u (fun w => hp b w h1) h4
  exact ⟨h1, n.own b u h5 h4 h2, h3, u, h6, h5⟩
theorem ApO.nx0 (o : ApO K H0 F H SS v a) (n : Nx0 F H F' H') : ApO K H0 F' H' SS v a := o.nx n (fun _ z => z.elim) fun _ z => z.elim
theorem ApO.fz {F1 : Hp} {p : Addr} (o : ApO K H0 F H SS v a) (f : ∀ q, q ≠ p → F1 q = F q) (ns : ¬ SS p) : ApO K H0 F1 H SS v a := by
  obtain ⟨S, r, h⟩ := o.ex
  refine ⟨S, r, fun b z => ?_⟩
  obtain ⟨h1, h2, h3, h4⟩ := h b z
  exact ⟨h1, by rw [f b (fun w => ns (w ▸ h1))]; exact h2, h3, h4⟩
/-- what is told is ours -/
theorem s_asgAp {i : Nat} {m : R (Apt α)} {k : α → R ρ} {kk : ρ → Prop} (he : Gr K E te σ nil0 H m) (hF : Same F H) (e0 : Same H0 H) (hQ : Wp (R.bd (R.bd m fun a => .ok a.l) k) kk (EE K E H0))
    (c : ∀ a v F' H' SS, Nx0 F H F' H' → Same H0 H' → ApO K H0 F' H' SS v a → (∀ b, SS b → H b = none) → (∀ b, SS b → H' b ≠ none) → Wp (k a) kk (EE K E H0) → D.nx (σ.set i (some v)) H') : tAsg te (gName i) D σ H := by
  refine he H (Same.refl _) _ ?_
  rw [bd_assoc, wp_bd] at hQ
  refine wp_mono hQ (fun a _ q v H2 e2 ⟨S, r⟩ => ?_) fun c _ z => z.mono e0
  have s2 : Same (mix nil0 H H2) H2 := mix_same nil_same e2
  have key : ∀ b, muc (mix nil0 H H2) b → H b = none ∧ muc H2 b := fun b ⟨o, h, t⟩ => by
    rcases mix_cases h with ⟨z, w⟩ | ⟨_, w⟩ | ⟨_, _, _, w⟩
    · exact ⟨z, o, w, t⟩
    · rw [t] at w; cases w
    · cases w
  have n := nx_tupF hF e2
  refine c a.l v _ H2 (fun b => H b = none ∧ muc H2 b) n (e0.trans e2) ⟨_, Tr.mono (Agr.same s2) (Tr.cut r), fun b z => ?_⟩ (fun b z => z.1) (fun b z => muc_some z.2) q
  obtain ⟨h1, h2⟩ := key b z.2
  exact ⟨⟨h1, h2⟩, tupF_none (muc_tb h2) (Same.free hF h1), Same.free e0 h1, h2⟩
/-- a triple, its last part ours -/
theorem s_asgAp3 [Im α] [Im β] {i : Nat} {m : R (T3 α β (Apt γ))} {k : T3 α β γ → R ρ} {kk : ρ → Prop} (he : Gr K E te σ nil0 H m) (hF : Same F H) (e0 : Same H0 H) (hQ : Wp (R.bd (R.bd m fun a => .ok (T3.mk a.a a.b a.c.l)) k) kk (EE K E H0))
    (c : ∀ a b g x y z p F' H' SS, Nx0 F H F' H' → Same H0 H' → F' p = some (.tup [x, y, z]) → Rp.rep K F' x a → Rp.rep K F' y b → ApO K H0 F' H' SS z g → (∀ b, SS b → H b = none) → (∀ b, SS b → H' b ≠ none) → Wp (k ⟨a, b, g⟩) kk (EE K E H0) → D.nx (σ.set i (some (.ref p))) H') : tAsg te (gName i) D σ H := by
  refine he H (Same.refl _) _ ?_
  rw [bd_assoc, wp_bd] at hQ
  refine wp_mono hQ (fun a _ q v H2 e2 r => ?_) fun c _ z => z.mono e0
  obtain ⟨p, x, y, z, rfl, hp, r1, r2, S, r⟩ := r
  have s2 : Same (mix nil0 H H2) H2 := mix_same nil_same e2
  have key : ∀ b, muc (mix nil0 H H2) b → H b = none ∧ muc H2 b := fun b ⟨o, h, t⟩ => by
    rcases mix_cases h with ⟨z, w⟩ | ⟨_, w⟩ | ⟨_, _, _, w⟩
    · exact ⟨z, o, w, t⟩
    · rw [t] at w; cases w
    · cases w
  have tp : ∀ p xs, mix nil0 H H2 p = some (.tup xs) → tupF F H2 p = some (.tup xs) := fun p xs h => tupF_tup (s2 _ _ h)
  refine c a.a a.b a.c.l x y z p _ H2 (fun b => H b = none ∧ muc H2 b) (nx_tupF hF e2) (e0.trans e2) (tp _ _ hp) (Im.mv tp r1) (Im.mv tp r2) ⟨_, Tr.mono (Agr.same s2) (Tr.cut r), fun b z => ?_⟩ (fun b z => z.1) (fun b z => muc_some z.2) q
  obtain ⟨h1, h2⟩ := key b z.2
  exact ⟨⟨h1, h2⟩, tupF_none (muc_tb h2) (Same.free hF h1), Same.free e0 h1, h2⟩
/-- a, b = x, x ours with its parts apart -/
theorem s_unpAp {i j n : Nat} {x : α × β} (o : ApO K H0 F H SS v x) (hv : σ[n]? = some (some v))
    (c : ∀ x1 y1 S1 S2, ApO K H0 F H S1 x1 x.1 → ApO K H0 F H S2 y1 x.2 → (∀ q, S1 q → ¬ S2 q) → (∀ q, S1 q → SS q ∧ H q ≠ none) → (∀ q, S2 q → SS q ∧ H q ≠ none) → D.nx ((σ.set i (some x1)).set j (some y1)) H) : tAsg (tVar n) (gTup K 2 (gCons (gName i) (gCons (gName j) gNil))) D σ H := by
  obtain ⟨S, r, h⟩ := o.ex
  obtain ⟨p, x1, y1, S1, S2, rfl, hp, d1, d2, r1, r2⟩ := r
  refine ⟨_, hv, p, _, rfl, SqT.of hp, rfl, x1, _, rfl, y1, _, rfl, rfl, c x1 y1 S1 S2 ⟨S1, r1, fun b z => ?_⟩ ⟨S2, r2, fun b z => ?_⟩ (fun q z => (d1 q z).2) (fun q z => ⟨(h q (d1 q z).1).1, muc_some (h q (d1 q z).1).2.2.2⟩) fun q z => ⟨(h q (d2 q z)).1, muc_some (h q (d2 q z)).2.2.2⟩⟩
  · obtain ⟨_, h2, h3, h4⟩ := h b (d1 b z).1
    exact ⟨z, h2, h3, h4⟩
  · obtain ⟨_, h2, h3, h4⟩ := h b (d2 b z)
    exact ⟨z, h2, h3, h4⟩
/-! ### a part of it -/
def AtV (te : TE) (σ : L2.St) (H : Hp) (v : V) : Prop := ∀ H1, Same H H1 → ∀ Q : VK, Q v H1 → te σ H1 Q
def AtI (te : TE) (σ : L2.St) (i : Int) : Prop := ∀ H1, ∀ Q : VK, Q (.int i) H1 → te σ H1 Q
theorem ati_c {i : Int} : AtI (tC (.int i)) σ i := fun _ _ q => q
theorem ati_v {n : Nat} {i : Int} (h : σ[n]? = some (some (.int i)) := by rfl) : AtI (tVar n) σ i := fun _ _ q => ⟨_, h, q⟩
theorem atv_v {n : Nat} (h : σ[n]? = some (some v)) : AtV (tVar n) σ H v := fun _ _ _ q => ⟨_, h, q⟩
theorem atv_t3c {n : Nat} {p : Addr} {x y z : V} (h : σ[n]? = some (some (.ref p))) (hF : Same F H) (hp : F p = some (.tup [x, y, z])) : AtV (tOp (rIxT K) (tVar n) (tC (.int 2))) σ H z := fun H1 e Q q => ⟨_, h, p, _, 2, z, rfl, rfl, SqT.of (e _ _ (hF _ _ hp)), rfl, q⟩
def Sub (K : PySem.W.Frag) (to : TE) (σ : L2.St) (H : Hp) (v : V) (a : α) (b : β) (put : β → α) : Prop :=
  ∀ S, Tr.tr K H S v a → ∃ w S1, AtV to σ H w ∧ Tr.tr K H S1 w b ∧ (∀ q, S1 q → S q) ∧ ∀ H' b', Agr (fun z => S z ∧ ¬ S1 z) H H' → Tr.tr K H' S1 w b' → Tr.tr K H' S v (put b')
theorem sub_v (h : AtV to σ H v) : Sub K to σ H v a a id := fun S r => ⟨v, S, h, r, fun _ z => z, fun _ _ _ r => r⟩
theorem sub_fst {b : β × γ} {put : β × γ → α} (s : Sub K to σ H v a b put) : Sub K (tOp (rIxT K) to (tC (.int 0))) σ H v a b.1 (fun x => put (x, b.2)) := fun S r => by
  obtain ⟨w, S1, h1, h2, h3, h4⟩ := s S r
  obtain ⟨p, x, y, A1, A2, rfl, hp, d1, d2, r1, r2⟩ := h2
  refine ⟨x, A1, fun H1 e Q q => h1 H1 e _ ⟨p, _, 0, x, rfl, rfl, SqT.of (e _ _ hp), rfl, q⟩, r1, fun q z => h3 q (d1 q z).1, fun H' b' ag rb => h4 H' _ (ag.sub fun z y => ⟨y.1, fun w => y.2 (d1 z w).1⟩) ⟨p, x, y, A1, A2, rfl, ag p _ hp (.inr rfl), d1, d2, rb, Tr.mono (ag.sub fun z y => ⟨h3 z (d2 z y), fun w => (d1 z w).2 y⟩) r2⟩⟩
theorem sub_snd {b : β × γ} {put : β × γ → α} (s : Sub K to σ H v a b put) : Sub K (tOp (rIxT K) to (tC (.int 1))) σ H v a b.2 (fun x => put (b.1, x)) := fun S r => by
  obtain ⟨w, S1, h1, h2, h3, h4⟩ := s S r
  obtain ⟨p, x, y, A1, A2, rfl, hp, d1, d2, r1, r2⟩ := h2
  refine ⟨y, A2, fun H1 e Q q => h1 H1 e _ ⟨p, _, 1, y, rfl, rfl, SqT.of (e _ _ hp), rfl, q⟩, r2, fun q z => h3 q (d2 q z), fun H' b' ag rb => h4 H' _ (ag.sub fun z y => ⟨y.1, fun w => y.2 (d2 z w)⟩) ⟨p, x, y, A1, A2, rfl, ag p _ hp (.inr rfl), d1, d2, Tr.mono (ag.sub fun z y => ⟨h3 z (d1 z y).1, fun w => (d1 z y).2 w⟩) r1, rb⟩⟩
theorem sub_ix {b : List β} {put : List β → α} {i : Int} {j : Nat} {x : β} (s : Sub K to σ H v a b put) (hi : AtI ti σ i) (hj : ixN b.length i = some j) (hx : b[j]? = some x) : Sub K (tOp (rIxL K) to ti) σ H v a x (fun y => put (b.set j y)) := fun S r => by
  obtain ⟨w, S1, h1, h2, h3, h4⟩ := s S r
  obtain ⟨p, vs, A, rfl, hp, hSp, hA, t⟩ := h2
  have len : vs.length = b.length := (t.all (F := fun _ _ => True) fun _ _ _ _ => trivial).length
  obtain ⟨u, B, e1, r1, s1, k1⟩ := t.at hx
  refine ⟨u, B, fun H1 e Q q => h1 H1 e _ (hi H1 _ ⟨p, vs, i, u, rfl, rfl, SqL.of (e _ _ hp), ?_, q⟩), r1, fun q z => h3 q (hA q (s1 q z)).1, fun H' b' ag rb => h4 H' _ (ag.sub fun z y => ⟨y.1, fun w => y.2 (hA z (s1 z w)).1⟩) ⟨p, vs, A, rfl, ag p _ hp (.inl ⟨h3 p hSp, fun w => (hA p (s1 p w)).2 rfl⟩), hSp, hA, ?_⟩⟩
  · unfold atI
    rw [len, hj]
    exact e1
  · exact k1 (fun S v a => Tr.tr K H' S v a) b' rb fun S' v a q r => Tr.mono (ag.sub fun z y => ⟨h3 z (hA z (q z y).1).1, (q z y).2⟩) r
/-- x.append(e), x a list of ours or a part of a thing of ours -/
theorem s_apF [Nc γ] {ys : List γ} {put : List γ → α} {me : R γ} {k : List γ → R ρ} {kk : ρ → Prop} (o : ApO K H0 F H SS v a) (s : Sub K to σ H v a ys put) (he : Gr K E te σ H H me) (hF : Same F H) (e0 : Same H0 H)
    (hQ : Wp (R.bd (R.bd me fun e => appR ys e) k) kk (EE K E H0))
    (c : ∀ y q F' H', Nx (fun z => z = q) F H F' H' → Same H0 H' → SS q → tupB (H q) = false → ApO K H0 F' H' SS v (put y) → Wp (k y) kk (EE K E H0) → D.nx σ H') : tDrop (tBM K "list" rAppend to (tCons te tNil)) D σ H := by
  obtain ⟨S, r, hS⟩ := o.ex
  obtain ⟨w, S1, h1, h2, h3, h4⟩ := s S r
  obtain ⟨p, vs, A, rfl, hp, hSp, hA, t⟩ := h2
  have sp := hS p (h3 p hSp)
  refine h1 H (Same.refl _) _ ⟨.inl ⟨rfl, _, SqL.of hp⟩, ?_⟩
  refine he H (Same.refl _) _ ?_
  rw [bd_assoc, wp_bd] at hQ
  refine wp_mono hQ (fun e _ q u H2 e2 re => ?_) fun c _ z => z.mono e0
  rw [wp_bd] at q
  have len : vs.length = ys.length := (t.all (F := fun _ _ => True) fun _ _ _ _ => trivial).length
  unfold appR gd at q
  split at q
  · rename_i cl
    have hp2 := e2 _ _ hp
    refine ⟨p, vs, u, rfl, rfl, hp2, lim_line' (by rw [len]; exact cl), ?_⟩
    have ag : Agr (fun z => S z ∧ z ≠ p) H (upd H2 p (.lst (vs ++ [u]))) := agr_upd e2 hp2 fun b z => z.2
    have n := nx_upd (o' := .lst (vs ++ [u])) hF e2 hp sp.2.1
    have re' : Rp.rep K (upd H2 p (.lst (vs ++ [u]))) u e := by
      have r2 : Tr.tr K H2 (fun _ => False) u e := Nc.of (Rp.mono (mix_same (Same.refl _) e2) re)
      exact Tr.rep (Tr.mono (agr_upd (Same.refl _) hp2 fun _ z => z.elim) r2)
    have all : All2 (Rp.rep K (upd H2 p (.lst (vs ++ [u])))) (vs ++ [u]) (ys ++ [e]) := by
      have t2 : TrL (fun (_ : Addr → Prop) v x => Rp.rep K (upd H2 p (.lst (vs ++ [u]))) v x) A vs ys := t.mp fun S1 v x q r => by
        have r2 : Tr.tr K H (fun _ => False) v x := Nc.of (Tr.rep r)
        exact Tr.rep (Tr.mono (agr_upd e2 hp2 fun _ z => z.elim) r2)
      exact All2.append (t2.all (F := Rp.rep K (upd H2 p (.lst (vs ++ [u])))) fun _ _ _ r => r) (.cons re' .nil)
    refine c (ys ++ [e]) p _ _ n (e0_upd e0 e2 sp.2.2.1) sp.1 (by rw [hp]; rfl) ⟨S, h4 _ _ (ag.sub fun z y => ⟨y.1, fun w => y.2 (w ▸ hSp)⟩) (tr_leaf upd_same all hSp), fun b z => ?_⟩ q
    obtain ⟨a1, a2, a3, x, a4, a5⟩ := hS b z
    refine ⟨a1, by rw [mix_old a4 a5]; exact a2, a3, ?_⟩
    by_cases cb : b = p
    · rw [cb]; exact ⟨_, upd_same, rfl⟩
    · exact ⟨x, by rw [upd_ne cb]; exact e2 _ _ a4, a5⟩
  · exact q.elim
/-- x.append(e), x ours: afterwards it is gone -/
theorem s_apDie {xs : List γ} {me : R δ} {k : Unit → R ρ} {kk : ρ → Prop} (o : ApO K H0 F H SS v xs) (hv : AtV to σ H v) (he : Gr K E te σ H H me) (hF : Same F H) (e0 : Same H0 H)
    (hQ : Wp (R.bd (R.bd me fun _ => gd (xs.length < lim) (.ok ())) k) kk (EE K E H0))
    (c : ∀ q F' H', Nx (fun z => z = q) F H F' H' → Same H0 H' → SS q → tupB (H q) = false → Wp (k ()) kk (EE K E H0) → D.nx σ H') : tDrop (tBM K "list" rAppend to (tCons te tNil)) D σ H := by
  obtain ⟨S, r, hS⟩ := o.ex
  obtain ⟨p, vs, A, rfl, hp, hSp, hA, t⟩ := r
  have sp := hS p hSp
  refine hv H (Same.refl _) _ ⟨.inl ⟨rfl, _, SqL.of hp⟩, ?_⟩
  refine he H (Same.refl _) _ ?_
  rw [bd_assoc, wp_bd] at hQ
  refine wp_mono hQ (fun e _ q u H2 e2 re => ?_) fun c _ z => z.mono e0
  have len : vs.length = xs.length := (t.all (F := fun _ _ => True) fun _ _ _ _ => trivial).length
  unfold gd at q
  split at q
  · rename_i cl
    have hp2 := e2 _ _ hp
    refine ⟨p, vs, u, rfl, rfl, hp2, lim_line' (by rw [len]; exact cl), ?_⟩
    exact c p _ _ (nx_upd (o' := .lst (vs ++ [u])) hF e2 hp sp.2.1) (e0_upd e0 e2 sp.2.2.1) sp.1 (by rw [hp]; rfl) q
  · exact q.elim
theorem idx_wp {xs : List γ} {i : Int} {f : γ → R ρ} {kk : ρ → Prop} {ee : Er → Prop} (h : Wp (R.bd (idx xs i) f) kk ee) : ∃ j x, ixN xs.length i = some j ∧ xs[j]? = some x ∧ Wp (f x) kk ee := by
  unfold idx atI at h
  cases q : ixN xs.length i with
  | none => rw [q] at h; exact h.elim
  | some j =>
    rw [q] at h
    cases z : xs[j]? with
    | none =>
      have : (match (some j).bind (fun k => xs[k]?) with | some a => R.ok a | none => R.bad) = (R.bad : R γ) := by show (match xs[j]? with | some a => R.ok a | none => R.bad) = _; rw [z]
      have h2 : Wp (R.bd (match xs[j]? with | some a => R.ok a | none => R.bad) f) kk ee := h
      rw [z] at h2
      exact h2.elim
    | some x =>
      have h2 : Wp (R.bd (match xs[j]? with | some a => R.ok a | none => R.bad) f) kk ee := h
      rw [z] at h2
      exact ⟨j, x, rfl, z, h2⟩
theorem set_wp {xs : List γ} {i : Int} {j : Nat} {y : γ} {f : List γ → R ρ} {kk : ρ → Prop} {ee : Er → Prop} (hj : ixN xs.length i = some j) (h : Wp (R.bd (setR xs i y) f) kk ee) : Wp (f (xs.set j y)) kk ee := by
  unfold setR at h
  rw [hj] at h
  exact h
/-- the region's word: what was changed was ours, or new -/
theorem ap_in {F1 H1 : Hp} {q : Addr} (n : Nx P F H F1 H1) (hq : SS q) (ht : tupB (H1 q) = false) : (SS q ∧ tupB (H q) = false) ∨ H q = none := by
  cases z : H q with
  | none => exact .inr rfl
  | some o =>
    obtain ⟨o', h1, h2⟩ := n.th q o z
    rw [h1] at ht
    exact .inl ⟨hq, by rw [← h2]; exact ht⟩
/-! ### tests that change, one behind another -/
theorem s_ifOrM {S : Type} {J : Hp → Hp → S → Prop} {u : TT} {m : R (Bool × S)} {k : Bool × S → R ρ} {kk : ρ → Prop} (he : GrM K E te σ H0 F H P J m) (hQ : Wp (R.bd m k) kk (EE K E H0))
    (h1 : ∀ s F' H', Nx P F H F' H' → Same H0 H' → J F' H' s → Wp (k (false, s)) kk (EE K E H0) → tu D σ H') (h2 : ∀ s F' H', Nx P F H F' H' → Same H0 H' → J F' H' s → Wp (k (true, s)) kk (EE K E H0) → tIfS u tu tw D σ H') : tIfS (tOr (tNot (tB te)) u) tu tw D σ H :=
  he _ (by
    rw [wp_bd] at hQ
    refine wp_mono hQ (fun z _ q v F' H' n e j r => ⟨z.1, r, ?_⟩) fun c _ z => z
    obtain ⟨b, s⟩ := z
    cases b with
    | true => exact h2 s F' H' n e j q
    | false => exact h1 s F' H' n e j q)
theorem s_ifOrP {u : TT} {m : R Bool} {k : Bool → R ρ} {kk : ρ → Prop} (hc : GrT K E t σ H m) (hF : Same F H) (e0 : Same H0 H) (hQ : Wp (R.bd m k) kk (EE K E H0))
    (h1 : ∀ F' H', Nx0 F H F' H' → Same H0 H' → Wp (k true) kk (EE K E H0) → tu D σ H') (h2 : ∀ F' H', Nx0 F H F' H' → Same H0 H' → Wp (k false) kk (EE K E H0) → tIfS u tu tw D σ H') : tIfS (tOr t u) tu tw D σ H := by
  refine hc H (Same.refl _) _ ?_
  rw [wp_bd] at hQ
  refine wp_mono hQ (fun b _ q H2 e2 => ?_) fun c _ z => z.mono e0
  cases b with
  | true => exact h1 _ H2 (Nx.mk' hF e2) (e0.trans e2) q
  | false => exact h2 _ H2 (Nx.mk' hF e2) (e0.trans e2) q
/-! ### handed to a def -/
open Classical in
noncomputable def delS (S : Addr → Prop) (H : Hp) : Hp := fun b => if S b then none else H b
theorem delS_le {S : Addr → Prop} : Same (delS S H) H := fun b o h => by
  unfold delS at h
  split at h
  · cases h
  · exact h
theorem delS_none {S : Addr → Prop} {b : Addr} (h : S b) : delS S H b = none := if_pos h
theorem same_delS {S : Addr → Prop} (e : Same H0 H) (h : ∀ b, S b → H0 b = none) : Same H0 (delS S H) := fun b o z => by
  unfold delS
  rw [if_neg (fun w => by rw [h b w] at z; cases z)]
  exact e b o z
theorem Nx.wkN (n : Nx P F H F' H') (h : ∀ q, P q → P2 q ∨ H q = none) : Nx P2 F H F' H' :=
  ⟨n.ff, fun q o z w => n.hh q o (fun y => (h q y).elim z fun x => by rw [x] at w; cases w) w, n.fh, n.own, n.th⟩
/-- the def's own view -/
theorem apo_in {S0 : Addr → Prop} (r : Tr.tr K H S0 v a) (h : ∀ b, S0 b → F b = none ∧ muc H b) : ApO K (delS S0 H) F H (fun b => S0 b ∨ H b = none) v a :=
  ⟨S0, r, fun b z => ⟨.inl z, (h b z).1, delS_none z, (h b z).2⟩⟩
/-- the caller's -/
theorem apo_out {H1 : Hp} (o : ApO K H0 F H SS v a) (e : Same H H1) (hF : Same F H) : ∃ S0, Tr.tr K H1 S0 v a ∧ (∀ b, S0 b → mix F H H1 b = none ∧ muc H1 b) ∧ (∀ b, S0 b → SS b ∧ tupB (H b) = false) ∧ ∀ b, S0 b → H0 b = none := by
  obtain ⟨S, r, h⟩ := o.ex
  refine ⟨S, Tr.mono (Agr.same e) r, fun b z => ?_, fun b z => ⟨(h b z).1, muc_tb (h b z).2.2.2⟩, fun b z => (h b z).2.2.1⟩
  obtain ⟨h1, h2, h3, u, h4, h5⟩ := h b z
  exact ⟨by rw [mix_old h4 h5]; exact h2, u, e _ _ h4, h5⟩
end
end G

set_option Elab.async false
set_option linter.all false
set_option maxRecDepth 100000
set_option maxHeartbeats 4000000
/-! G: parts apart, small words. -/
namespace G
open PySem PySem.Spec PyProof.Rows L2
section
variable {K : PySem.W.Frag} {E : XK} {σ : L2.St} {H0 F H F' H' : Hp} {te ta tb : TE} {α β γ δ : Type} [Rp α] [Rp β] [Rp γ] [Rp δ] [Tr α] [Tr γ] [Tr δ] {P : Addr → Prop} {SS S2 : Addr → Prop} {v : V} {a : α}
theorem g_apl3 {m : R (T3 β δ (Apt γ))} (h : Gr K E te σ F H m) : Gr K E te σ F H (R.bd m fun a => .ok (T3.mk a.a a.b a.c.l)) := fun H1 e Q hq =>
  h H1 e Q (by
    rw [wp_bd] at hq
    exact wp_mono hq (fun a _ k v H2 e2 ⟨p, x, y, z, h1, h2, h3, h4, S, r⟩ => k v H2 e2 ⟨p, x, y, z, h1, h2, h3, h4, Tr.rep r⟩) fun _ _ z => z)
theorem gx_lst0 : GrX K E (tLst tNil) σ H (.ok ([] : List α)) := fun H1 e Q hq => by
  refine ⟨by show 0 ≤ sizeLine; decide, fun p hp => hq _ _ (same_upd hp) ⟨fun b => b = p, ⟨p, [], fun _ => False, rfl, upd_same, rfl, fun _ z => z.elim, .nil⟩, fun b z => ?_⟩⟩
  rw [z]
  exact ⟨Same.free e hp, _, upd_same, rfl⟩
/-- (xs, e), xs a list of ours, e new: all new since the entry -/
theorem g_apPairO [Nc δ] {i : Nat} {p : Addr} {b : Bool} {xs : List δ} {mb : R γ} (o : Own K H0 b F H p xs) (hF : Same F H) (e0 : Same H0 H) (hb : GrX K E tb σ H mb) (hv : σ[i]? = some (some (.ref p)) := by rfl) :
    Gr K E (tTup (tCons (tVar i) (tCons tb tNil))) σ (dif H0 H) H (R.bd mb fun y => .ok (Apt.mk (xs, y))) := fun H1 e Q hq => by
  obtain ⟨h0, f, vs, hp, r⟩ := o.lst
  refine ⟨_, hv, hb H1 e _ ?_⟩
  rw [wp_bd] at hq
  refine wp_mono hq (fun y _ k w H2 e2 ⟨S, r2, n⟩ => ?_) fun _ _ z => z
  refine ⟨by show 2 ≤ sizeLine; decide, fun q hq => k _ _ (e2.trans (same_upd hq)) ?_⟩
  have tot := e.trans (e2.trans (same_upd (o := .tup [.ref p, w]) hq))
  have hn : H q = none := Same.free (e.trans e2) hq
  have n0 : ∀ b, S b → H b = none := fun b z => (n b z).1
  have np : ∀ b, S b → b ≠ p := fun b z w => by have := n0 b z; rw [w, hp] at this; cases this
  refine ⟨fun b => b = p ∨ S b, q, .ref p, w, fun b => b = p, S, rfl, by rw [mix_new hn]; exact upd_same, fun b z => ⟨.inl z, fun y => np b y z⟩, fun b z => .inr z, ?_, ?_⟩
  · have hd : mix (dif H0 H) H (upd H2 q (.tup [.ref p, w])) p = some (.lst vs) := by rw [mix_old hp]; exact dif_of h0 hp
    refine tr_leaf hd ?_ rfl
    refine r.mono fun v x rx => ?_
    have r1 : Tr.tr K H (fun _ => False) v x := Nc.of (Rp.mono (bs_le.trans hF) rx)
    exact Tr.rep (Tr.mono (fun b o h z => by
      rcases z with z | z
      · exact z.elim
      · exact mix_tup h z) r1)
  · refine Tr.mono (fun b o h z => ?_) r2
    rcases z with z | z
    · rw [mix_new (n0 b z)]
      exact same_upd hq _ _ h
    · cases c : H b with
      | none => rw [mix_new c]; exact same_upd hq _ _ h
      | some u =>
        have := (e.trans e2) b u c
        rw [h] at this
        cases this
        exact mix_tup c z
theorem ApO.sub (o : ApO K H0 F H SS v a) (h : ∀ b, SS b → S2 b) : ApO K H0 F H S2 v a := by
  obtain ⟨S, r, k⟩ := o.ex
  exact ⟨S, r, fun b z => ⟨h b (k b z).1, (k b z).2⟩⟩
/-- all of it is there -/
theorem al_nx (n : Nx P F H F' H') (l : ∀ b, SS b → H b ≠ none) : ∀ b, SS b → H' b ≠ none := fun b z w => by
  cases q : H b with
  | none => exact l b z q
  | some o =>
    obtain ⟨o', h, _⟩ := n.th b o q
    rw [h] at w
    cases w
theorem ap_no {p : Addr} (h : ∀ b, SS b → H b = none) (t : ∃ u, H p = some u) : ¬ SS p := fun z => by
  obtain ⟨u, hu⟩ := t
  have := h p z
  rw [hu] at this
  cases this
theorem ap_dj (l : ∀ b, S2 b → H b ≠ none) (h : ∀ b, SS b → H b = none) : ∀ b, S2 b → ¬ SS b := fun b z w => l b z (h b w)
theorem ap_nw {p : Addr} (l : ∀ b, SS b → H b ≠ none) (nw : ∀ q, (∃ u, H q = some u) → q ≠ p) : ¬ SS p := fun z => by
  cases q : H p with
  | none => exact l p z q
  | some u => exact nw p ⟨u, q⟩ rfl
end
end G

set_option Elab.async false
set_option linter.all false
set_option maxRecDepth 100000
set_option maxHeartbeats 4000000
/-! G: parts of a triple whose last part is ours. -/
namespace G
open PySem PySem.Spec PyProof.Rows L2
section
variable {K : PySem.W.Frag} {E : XK} {σ : L2.St} {F H : Hp} {α ρ : Type} [Rp α] {x y z : V} {p : Addr} {a : α}
theorem g_tpa {n : Nat} (h : σ[n]? = some (some (.ref p))) (hp : H p = some (.tup [x, y, z])) (r : Rp.rep K F x a) (hF : Same F H) : Gr K E (tOp (rIxT K) (tVar n) (tC (.int 0))) σ F H (.ok a) :=
  fun H1 e Q hq => ⟨_, h, p, _, 0, x, rfl, rfl, SqT.of (e _ _ hp), rfl, hq x H1 (Same.refl _) (Rp.mono (same_mix hF) r)⟩
theorem g_tpb {n : Nat} (h : σ[n]? = some (some (.ref p))) (hp : H p = some (.tup [x, y, z])) (r : Rp.rep K F y a) (hF : Same F H) : Gr K E (tOp (rIxT K) (tVar n) (tC (.int 1))) σ F H (.ok a) :=
  fun H1 e Q hq => ⟨_, h, p, _, 1, y, rfl, rfl, SqT.of (e _ _ hp), rfl, hq y H1 (Same.refl _) (Rp.mono (same_mix hF) r)⟩
theorem g_tpc {n : Nat} (h : σ[n]? = some (some (.ref p))) (hp : H p = some (.tup [x, y, z])) (r : Rp.rep K F z a) (hF : Same F H) : Gr K E (tOp (rIxT K) (tVar n) (tC (.int 2))) σ F H (.ok a) :=
  fun H1 e Q hq => ⟨_, h, p, _, 2, z, rfl, rfl, SqT.of (e _ _ hp), rfl, hq z H1 (Same.refl _) (Rp.mono (same_mix hF) r)⟩
theorem wp_okb {z : α} {k : α → R ρ} {kk : ρ → Prop} {ee : Er → Prop} (h : Wp (R.bd (.ok z) k) kk ee) : Wp (k z) kk ee := h
end
instance : De (Option Int) := ⟨fun o => match o with | none => .none | some i => .int i, fun {K H v a} h => by
    cases a with
    | none =>
      obtain rfl : v = V.non := h
      exact .non
    | some i =>
      obtain rfl : v = V.int i := h.2
      exact .int i, fun a => by cases a <;> rfl, 0, fun a => by cases a <;> simp [PyData.depth], fun a b => by cases a <;> cases b <;> simp [PyData.eqv]⟩
end G

set_option Elab.async false
set_option linter.all false
set_option maxRecDepth 100000
set_option maxHeartbeats 4000000
/-! G: a new thing is appended to a part. -/
namespace G
open PySem PySem.Spec PyProof.Rows L2
section
variable {α : Type} {T : (Addr → Prop) → V → α → Prop}
/-- the one at a place, and a greater one put there -/
theorem TrL.atX : ∀ {S : Addr → Prop} {vs : List V} {as : List α} {j : Nat} {a : α}, TrL T S vs as → as[j]? = some a → ∃ v S1, vs[j]? = some v ∧ T S1 v a ∧ (∀ b, S1 b → S b) ∧
    ∀ (T' : (Addr → Prop) → V → α → Prop) (a' : α) (X : Addr → Prop), (∀ b, X b → ¬ S b) → T' (fun b => S1 b ∨ X b) v a' → (∀ S' v a, (∀ b, S' b → S b ∧ ¬ S1 b) → T S' v a → T' S' v a) → TrL T' (fun b => S b ∨ X b) vs (as.set j a')
  | _, _, _, _, _, .nil, e => by simp at e
  | S, _, _, 0, a, .cons (S1 := A1) (S2 := A2) h1 h2 r t, e => by
    simp at e
    subst e
    refine ⟨_, A1, rfl, r, fun b z => (h1 b z).1, fun T' a' X hX r' k => ?_⟩
    exact .cons (S1 := fun b => A1 b ∨ X b) (S2 := A2) (fun b z => z.elim (fun z => ⟨.inl (h1 b z).1, (h1 b z).2⟩) fun z => ⟨.inr z, fun w => hX b z (h2 b w)⟩) (fun b z => .inl (h2 b z)) r' (TrL.mp (fun S1 v a q w => k S1 v a (fun b z => ⟨h2 b (q b z), fun y => (h1 b y).2 (q b z)⟩) w) t)
  | S, _, _, j + 1, a, .cons (S1 := A1) (S2 := A2) h1 h2 r t, e => by
    obtain ⟨v, S1, e1, r1, s1, k1⟩ := TrL.atX (j := j) t (by simpa using e)
    refine ⟨v, S1, by simpa using e1, r1, fun b z => h2 b (s1 b z), fun T' a' X hX r' k => ?_⟩
    exact .cons (S1 := A1) (S2 := fun b => A2 b ∨ X b) (fun b z => ⟨.inl (h1 b z).1, fun w => w.elim (h1 b z).2 fun w => hX b w (h1 b z).1⟩) (fun b z => z.elim (fun z => .inl (h2 b z)) .inr) (k A1 _ _ (fun b z => ⟨(h1 b z).1, fun y => (h1 b z).2 (s1 b y)⟩) r) (k1 T' a' X (fun b z w => hX b z (h2 b w)) r' fun S' v a q w => k S' v a (fun b z => ⟨h2 b (q b z).1, (q b z).2⟩) w)
end
section
variable {K : PySem.W.Frag} {E : XK} {σ : L2.St} {H0 F H F' H' : Hp} {te ta tb to ti : TE} {t : TT} {tu tw : TS} {α β γ δ ρ : Type} [Rp α] [Rp β] [Rp γ] [Rp δ] [Tr α] [Tr β] [Tr γ] [Tr δ] [Rp ρ] {D : Ends} {P P2 : Addr → Prop} {SS : Addr → Prop} {v : V} {a : α}
def SubX (K : PySem.W.Frag) (to : TE) (σ : L2.St) (H : Hp) (v : V) (a : α) (b : β) (put : β → α) : Prop :=
  ∀ S, Tr.tr K H S v a → ∃ w S1, AtV to σ H w ∧ Tr.tr K H S1 w b ∧ (∀ q, S1 q → S q) ∧ ∀ (H' : Hp) (b' : β) (X : Addr → Prop), (∀ q, X q → ¬ S q) → Agr (fun z => S z ∧ ¬ S1 z) H H' → Tr.tr K H' (fun q => S1 q ∨ X q) w b' → Tr.tr K H' (fun q => S q ∨ X q) v (put b')
theorem subx_v (h : AtV to σ H v) : SubX K to σ H v a a id := fun S r => ⟨v, S, h, r, fun _ z => z, fun _ _ _ _ _ r => r⟩
theorem subx_fst {b : β × γ} {put : β × γ → α} (s : SubX K to σ H v a b put) : SubX K (tOp (rIxT K) to (tC (.int 0))) σ H v a b.1 (fun x => put (x, b.2)) := fun S r => by
  obtain ⟨w, S1, h1, h2, h3, h4⟩ := s S r
  obtain ⟨p, x, y, A1, A2, rfl, hp, d1, d2, r1, r2⟩ := h2
  refine ⟨x, A1, fun H1 e Q q => h1 H1 e _ ⟨p, _, 0, x, rfl, rfl, SqT.of (e _ _ hp), rfl, q⟩, r1, fun q z => h3 q (d1 q z).1, fun H' b' X hX ag rb => h4 H' _ X hX (ag.sub fun z y => ⟨y.1, fun w => y.2 (d1 z w).1⟩) ⟨p, x, y, fun q => A1 q ∨ X q, A2, rfl, ag p _ hp (.inr rfl), fun q z => z.elim (fun z => ⟨.inl (d1 q z).1, (d1 q z).2⟩) (fun z => ⟨.inr z, fun w => hX q z (h3 q (d2 q w))⟩), fun q z => .inl (d2 q z), rb, Tr.mono (ag.sub fun z y => ⟨h3 z (d2 z y), fun w => (d1 z w).2 y⟩) r2⟩⟩
theorem subx_snd {b : β × γ} {put : β × γ → α} (s : SubX K to σ H v a b put) : SubX K (tOp (rIxT K) to (tC (.int 1))) σ H v a b.2 (fun x => put (b.1, x)) := fun S r => by
  obtain ⟨w, S1, h1, h2, h3, h4⟩ := s S r
  obtain ⟨p, x, y, A1, A2, rfl, hp, d1, d2, r1, r2⟩ := h2
  refine ⟨y, A2, fun H1 e Q q => h1 H1 e _ ⟨p, _, 1, y, rfl, rfl, SqT.of (e _ _ hp), rfl, q⟩, r2, fun q z => h3 q (d2 q z), fun H' b' X hX ag rb => h4 H' _ X hX (ag.sub fun z y => ⟨y.1, fun w => y.2 (d2 z w)⟩) ⟨p, x, y, A1, fun q => A2 q ∨ X q, rfl, ag p _ hp (.inr rfl), fun q z => ⟨.inl (d1 q z).1, fun w => w.elim (d1 q z).2 fun w => hX q w (h3 q (d1 q z).1)⟩, fun q z => z.elim (fun z => .inl (d2 q z)) .inr, Tr.mono (ag.sub fun z y => ⟨h3 z (d1 z y).1, fun w => (d1 z y).2 w⟩) r1, rb⟩⟩
theorem subx_ix {b : List β} {put : List β → α} {i : Int} {j : Nat} {x : β} (s : SubX K to σ H v a b put) (hi : AtI ti σ i) (hj : ixN b.length i = some j) (hx : b[j]? = some x) : SubX K (tOp (rIxL K) to ti) σ H v a x (fun y => put (b.set j y)) := fun S r => by
  obtain ⟨w, S1, h1, h2, h3, h4⟩ := s S r
  obtain ⟨p, vs, A, rfl, hp, hSp, hA, t⟩ := h2
  have len : vs.length = b.length := (t.all (F := fun _ _ => True) fun _ _ _ _ => trivial).length
  obtain ⟨u, B, e1, r1, s1, k1⟩ := t.atX hx
  refine ⟨u, B, fun H1 e Q q => h1 H1 e _ (hi H1 _ ⟨p, vs, i, u, rfl, rfl, SqL.of (e _ _ hp), ?_, q⟩), r1, fun q z => h3 q (hA q (s1 q z)).1, fun H' b' X hX ag rb => h4 H' _ X hX (ag.sub fun z y => ⟨y.1, fun w => y.2 (hA z (s1 z w)).1⟩) ⟨p, vs, fun q => A q ∨ X q, rfl, ag p _ hp (.inl ⟨h3 p hSp, fun w => (hA p (s1 p w)).2 rfl⟩), .inl hSp, fun q z => z.elim (fun z => ⟨.inl (hA q z).1, (hA q z).2⟩) (fun z => ⟨.inr z, fun w => hX q z (by rw [w]; exact h3 p hSp)⟩), ?_⟩⟩
  · unfold atI
    rw [len, hj]
    exact e1
  · exact k1 (fun S v a => Tr.tr K H' S v a) b' X (fun q z w => hX q z (h3 q (hA q w).1)) rb fun S' v a q r => Tr.mono (ag.sub fun z y => ⟨h3 z (hA z (q z y).1).1, (q z y).2⟩) r
/-- x.append(e), x a part of a thing of ours, e new -/
theorem s_apN {ys : List γ} {put : List γ → α} {me : R γ} {k : List γ → R ρ} {kk : ρ → Prop} (o : ApO K H0 F H SS v a) (s : SubX K to σ H v a ys put) (he : GrX K E te σ H me) (hN : ∀ b, H b = none → SS b) (hF : Same F H) (e0 : Same H0 H)
    (hQ : Wp (R.bd (R.bd me fun e => appR ys e) k) kk (EE K E H0))
    (c : ∀ y q F' H', Nx (fun z => z = q) F H F' H' → Same H0 H' → SS q → tupB (H q) = false → ApO K H0 F' H' SS v (put y) → Wp (k y) kk (EE K E H0) → D.nx σ H') : tDrop (tBM K "list" rAppend to (tCons te tNil)) D σ H := by
  obtain ⟨S, r, hS⟩ := o.ex
  obtain ⟨w, S1, h1, h2, h3, h4⟩ := s S r
  obtain ⟨p, vs, A, rfl, hp, hSp, hA, t⟩ := h2
  have sp := hS p (h3 p hSp)
  refine h1 H (Same.refl _) _ ⟨.inl ⟨rfl, _, SqL.of hp⟩, ?_⟩
  refine he H (Same.refl _) _ ?_
  rw [bd_assoc, wp_bd] at hQ
  refine wp_mono hQ (fun e _ q u H2 e2 ⟨S2, re, n2⟩ => ?_) fun c _ z => z.mono e0
  rw [wp_bd] at q
  have len : vs.length = ys.length := (t.all (F := fun _ _ => True) fun _ _ _ _ => trivial).length
  unfold appR gd at q
  split at q
  · rename_i cl
    have hp2 := e2 _ _ hp
    refine ⟨p, vs, u, rfl, rfl, hp2, lim_line' (by rw [len]; exact cl), ?_⟩
    have fS : ∀ b, S2 b → ¬ S b := fun b z w => muc_some (hS b w).2.2.2 (n2 b z).1
    have n2p : ∀ b, S2 b → b ≠ p := fun b z w => fS b z (by rw [w]; exact h3 p hSp)
    have ag : Agr (fun z => S z ∧ z ≠ p) H (upd H2 p (.lst (vs ++ [u]))) := agr_upd e2 hp2 fun b z => z.2
    have na := nx_tupF hF e2
    have fp : tupF F H2 p = none := tupF_none (by rw [hp2]; rfl) sp.2.1
    have nb := nx_upd (o' := .lst (vs ++ [u])) na.fh (Same.refl H2) hp2 fp
    have n := na.tr nb
    refine c (ys ++ [e]) p _ _ n (e0_upd e0 e2 sp.2.2.1) sp.1 (by rw [hp]; rfl) ⟨fun b => S b ∨ S2 b, h4 _ _ S2 fS (ag.sub fun z y => ⟨y.1, fun w => y.2 (w ▸ hSp)⟩) ?_, fun b z => ?_⟩ q
    · refine ⟨p, vs ++ [u], fun b => A b ∨ S2 b, rfl, upd_same, .inl hSp, fun b z => z.elim (fun z => ⟨.inl (hA b z).1, (hA b z).2⟩) fun z => ⟨.inr z, n2p b z⟩, ?_⟩
      exact TrL.snoc (trl_agr (agr_upd e2 hp2 fun b z => (hA b z).2) t) (Tr.mono (agr_upd (Same.refl _) hp2 n2p) re) (fun b z => ⟨.inl z, fun w => fS b w (h3 b (hA b z).1)⟩) fun b z => .inr z
    · rcases z with z | z
      · obtain ⟨a1, a2, a3, x, a4, a5⟩ := hS b z
        refine ⟨a1, n.own b x a5 a4 a2, a3, ?_⟩
        by_cases cb : b = p
        · rw [cb]; exact ⟨_, upd_same, rfl⟩
        · exact ⟨x, by rw [upd_ne cb]; exact e2 _ _ a4, a5⟩
      · obtain ⟨z1, o2, z2, z3⟩ := n2 b z
        refine ⟨hN b z1, ?_, Same.free e0 z1, o2, by rw [upd_ne (n2p b z)]; exact z2, z3⟩
        exact nb.own b o2 z3 z2 (tupF_none (by rw [z2]; exact z3) (Same.free hF z1))
  · exact q.elim
theorem ap_all {S0 : Addr → Prop} {F1 H1 : Hp} (hSS : ∀ b, SS b ↔ (S0 b ∨ H b = none)) (n : Nx P F H F1 H1) : ∀ b, H1 b = none → SS b := fun b z => (hSS b).mpr (.inr (none_back n z))
/-- a walk of what is not frozen -/
theorem s_forH {wi : TI} {g : TG} {m : R (List β)} {k : List β → R γ} {kk : γ → Prop} (hi : GrI K E wi σ H H m) (hF : Same F H) (e0 : Same H0 H) (hQ : Wp (R.bd m k) kk (EE K E H0))
    (c : ∀ xs J F' H', Nx0 F H F' H' → Same H0 H' → ItOk J K (mix H H H') xs → Same (mix H H H') H' → Wp (k xs) kk (EE K E H0) → ∃ W : Nat → Nat → L2.St → Hp → Prop, (∃ m, W 0 m σ H') ∧ ∀ i m σ H, W i m σ H →
      (J.stop i H ∧ D.nx σ H) ∨ (J.go i H ∧ ∃ N : L2.St → Hp → Prop, (∀ σ' H', N σ' H' → ∃ m', m' < m ∧ W (i + 1) m' σ' H') ∧ ∀ x H', J.yld i H x H' → g x σ H' fun σ2 H2 => tu { D with nx := N, ct := N, bk := D.nx } σ2 H2)) : tFor wi g tu D σ H := by
  refine hi H (Same.refl _) _ ?_
  rw [wp_bd] at hQ
  exact wp_mono hQ (fun xs _ q J H2 e2 ok => c xs J _ H2 (Nx.mk' hF e2) (e0.trans e2) ok (mix_same (Same.refl _) e2) q) fun c _ z => z.mono e0
end
end G

set_option Elab.async false
set_option linter.all false
set_option maxRecDepth 100000
set_option maxHeartbeats 4000000
/-! G: values of several kinds with their parts apart; lists of things apart, made item by item. -/
namespace G
open PySem PySem.Spec PyProof.Rows L2
mutual
def dyA (H : Hp) : Dy → (Addr → Prop) → V → Prop
  | .non, _, v => v = .non
  | .bl b, _, v => v = .bl b
  | .int n, _, v => v = .int n
  | .str s, _, v => v = .str s
  | .lst l, S, v => ∃ p vs S1, v = .ref p ∧ H p = some (.lst vs) ∧ S p ∧ (∀ b, S1 b → S b ∧ b ≠ p) ∧ dyAs H l S1 vs
  | .tup l, S, v => ∃ p vs, v = .ref p ∧ H p = some (.tup vs) ∧ dyAs H l S vs
def dyAs (H : Hp) : List Dy → (Addr → Prop) → List V → Prop
  | [], _, vs => vs = []
  | d :: l, S, vs => ∃ v r S1 S2, vs = v :: r ∧ (∀ b, S1 b → S b ∧ ¬ S2 b) ∧ (∀ b, S2 b → S b) ∧ dyA H d S1 v ∧ dyAs H l S2 r
end
mutual
theorem dyA_rep {H : Hp} : ∀ {d : Dy} {S : Addr → Prop} {v : V}, dyA H d S v → dyR H d v
  | .non, _, _, h => h
  | .bl _, _, _, h => h
  | .int _, _, _, h => h
  | .str _, _, _, h => h
  | .lst _, _, _, ⟨p, vs, S1, h1, h2, _, _, h3⟩ => ⟨p, vs, h1, h2, dyAs_rep h3⟩
  | .tup _, _, _, ⟨p, vs, h1, h2, h3⟩ => ⟨p, vs, h1, h2, dyAs_rep h3⟩
theorem dyAs_rep {H : Hp} : ∀ {l : List Dy} {S : Addr → Prop} {vs : List V}, dyAs H l S vs → dyRs H l vs
  | [], _, _, h => h
  | _ :: _, _, _, ⟨v, r, S1, S2, h1, _, _, h2, h3⟩ => ⟨v, r, h1, dyA_rep h2, dyAs_rep h3⟩
end
mutual
theorem dyA_mono {H H' : Hp} : ∀ {d : Dy} {S : Addr → Prop} {v : V}, Agr S H H' → dyA H d S v → dyA H' d S v
  | .non, _, _, _, h => h
  | .bl _, _, _, _, h => h
  | .int _, _, _, _, h => h
  | .str _, _, _, _, h => h
  | .lst _, _, _, a, ⟨p, vs, S1, h1, h2, h4, h5, h3⟩ => ⟨p, vs, S1, h1, a p _ h2 (.inl h4), h4, h5, dyAs_mono (a.sub fun b z => (h5 b z).1) h3⟩
  | .tup _, _, _, a, ⟨p, vs, h1, h2, h3⟩ => ⟨p, vs, h1, a p _ h2 (.inr rfl), dyAs_mono a h3⟩
theorem dyAs_mono {H H' : Hp} : ∀ {l : List Dy} {S : Addr → Prop} {vs : List V}, Agr S H H' → dyAs H l S vs → dyAs H' l S vs
  | [], _, _, _, h => h
  | _ :: _, _, _, a, ⟨v, r, S1, S2, h1, d1, d2, h2, h3⟩ => ⟨v, r, S1, S2, h1, d1, d2, dyA_mono (a.sub fun b z => (d1 b z).1) h2, dyAs_mono (a.sub d2) h3⟩
end
mutual
theorem dyA_cut {H : Hp} : ∀ {d : Dy} {S : Addr → Prop} {v : V}, dyA H d S v → dyA H d (fun b => S b ∧ muc H b) v
  | .non, _, _, h => h
  | .bl _, _, _, h => h
  | .int _, _, _, h => h
  | .str _, _, _, h => h
  | .lst _, _, _, ⟨p, vs, S1, h1, h2, h4, h5, h3⟩ => ⟨p, vs, _, h1, h2, ⟨h4, _, h2, rfl⟩, fun b ⟨z, m⟩ => ⟨⟨(h5 b z).1, m⟩, (h5 b z).2⟩, dyAs_cut h3⟩
  | .tup _, _, _, ⟨p, vs, h1, h2, h3⟩ => ⟨p, vs, h1, h2, dyAs_cut h3⟩
theorem dyAs_cut {H : Hp} : ∀ {l : List Dy} {S : Addr → Prop} {vs : List V}, dyAs H l S vs → dyAs H l (fun b => S b ∧ muc H b) vs
  | [], _, _, h => h
  | _ :: _, _, _, ⟨v, r, S1, S2, h1, d1, d2, h2, h3⟩ => ⟨v, r, _, _, h1, fun b ⟨z, m⟩ => ⟨⟨(d1 b z).1, m⟩, fun w => (d1 b z).2 w.1⟩, fun b ⟨z, m⟩ => ⟨d2 b z, m⟩, dyA_cut h2, dyAs_cut h3⟩
end
instance : Tr Dy := ⟨fun _ H S v d => dyA H d S v, fun h => dyA_rep h, fun a h => dyA_mono a h, fun h => dyA_cut h⟩
/-- as a value of any kind, and back -/
class TrD (α : Type) [Rp α] [Tr α] [DyN α] : Prop where
  to : ∀ {K : PySem.W.Frag} {H : Hp} {S : Addr → Prop} {v : V} {a : α}, Tr.tr K H S v a → dyA H (DyN.dy a) S v
  of : ∀ {K : PySem.W.Frag} {H : Hp} {S : Addr → Prop} {v : V} {d : Dy} {a : α}, dyA H d S v → DyN.un d = some a → Tr.tr K H S v a
instance : TrD Int := ⟨fun h => h, fun {K H S v d a} h e => DyN.of (K := K) (dyA_rep h) e⟩
instance : TrD Bool := ⟨fun h => h, fun {K H S v d a} h e => DyN.of (K := K) (dyA_rep h) e⟩
instance : TrD Str := ⟨fun h => h, fun {K H S v d a} h e => DyN.of (K := K) (dyA_rep h) e⟩
instance : TrD Unit := ⟨fun h => h, fun {K H S v d a} h e => DyN.of (K := K) (dyA_rep h) e⟩
instance : TrD Dy := ⟨fun h => h, fun {K H S v d a} h e => by cases e; exact h⟩
section
variable {α β : Type} [Rp α] [Rp β] [Tr α] [Tr β] [DyN α] [DyN β] [TrD α] [TrD β]
theorem trl_to {K : PySem.W.Frag} {H : Hp} : ∀ {S : Addr → Prop} {vs : List V} {xs : List α}, TrL (fun S v x => Tr.tr K H S v x) S vs xs → dyAs H (xs.map DyN.dy) S vs
  | _, _, _, .nil => rfl
  | _, _, _, .cons (S1 := S1) (S2 := S2) h1 h2 r t => ⟨_, _, S1, S2, rfl, h1, h2, TrD.to r, trl_to t⟩
theorem trl_of {K : PySem.W.Frag} {H : Hp} : ∀ {l : List Dy} {S : Addr → Prop} {vs : List V} {xs : List α}, dyAs H l S vs → unAll DyN.un l = some xs → TrL (fun S v x => Tr.tr K H S v x) S vs xs
  | [], S, vs, xs, h, e => by
    rw [show vs = [] from h, show xs = [] by simpa [unAll] using e.symm]
    exact .nil
  | d :: l, S, vs, xs, ⟨v, r, S1, S2, h1, d1, d2, h2, h3⟩, e => by
    subst h1
    unfold unAll at e
    cases q : (DyN.un d : Option α) with
    | none => rw [q] at e; simp at e
    | some a =>
      cases q2 : unAll (α := α) DyN.un l with
      | none => rw [q, q2] at e; simp at e
      | some t =>
        rw [q, q2] at e
        simp at e
        subst e
        exact .cons d1 d2 (TrD.of h2 q) (trl_of h3 q2)
instance : TrD (List α) := ⟨fun {K H S v a} ⟨p, vs, S1, h1, h2, h3, h4, h5⟩ => ⟨p, vs, S1, h1, h2, h3, h4, trl_to h5⟩, fun {K H S v d a} h e => by
  cases d with
  | lst l =>
    obtain ⟨p, vs, S1, h1, h2, h3, h4, h5⟩ := h
    exact ⟨p, vs, S1, h1, h2, h3, h4, trl_of h5 e⟩
  | _ => simp [DyN.un] at e⟩
instance : TrD (α × β) := ⟨fun {K H S v t} ⟨p, x, y, S1, S2, h1, h2, d1, d2, h3, h4⟩ => ⟨p, _, h1, h2, x, _, S1, S2, rfl, d1, d2, TrD.to h3, y, _, S2, fun _ => False, rfl, fun b z => ⟨z, fun w => w⟩, fun _ z => z.elim, TrD.to h4, rfl⟩, fun {K H S v d t} h e => by
  rcases d with _ | _ | _ | _ | _ | l <;> try simp [DyN.un] at e
  rcases l with _ | ⟨a, _ | ⟨b, _ | ⟨c, l⟩⟩⟩ <;> try simp at e
  obtain ⟨p, vs, h1, h2, x, r, S1, S2, rfl, d1, d2, h3, y, r2, S3, S4, rfl, d3, d4, h4, h5⟩ := h
  rw [show r2 = [] from h5] at h2
  cases q : (DyN.un a : Option α) with
  | none => rw [q] at e; simp at e
  | some a' =>
    cases q2 : (DyN.un b : Option β) with
    | none => rw [q, q2] at e; simp at e
    | some b' =>
      rw [q, q2] at e
      simp at e
      subst e
      exact ⟨p, x, y, S1, S3, h1, h2, fun b z => ⟨(d1 b z).1, fun w => (d1 b z).2 (d3 b w).1⟩, fun b z => d2 b (d3 b z).1, TrD.of h3 q, TrD.of h4 q2⟩⟩
end
section
variable {K : PySem.W.Frag} {E : XK} {σ : L2.St} {H0 F H F' H' : Hp} {te ta tb to ti : TE} {α β γ δ ρ : Type} [Rp α] [Rp β] [Rp γ] [Rp δ] [Rp ρ] [Tr α] [Tr β] [Tr γ] {D : Ends} {P : Addr → Prop} {v : V} {a : α} {Sa Sb Sc SS : Addr → Prop}
theorem g_aptDy [DyN α] [TrD α] {m : R (Apt α)} (h : Gr K E te σ F H m) : Gr K E te σ F H (R.bd m fun a => .ok (Apt.mk (DyN.dy a.l))) := fun H1 e Q hq =>
  h H1 e Q (by
    rw [wp_bd] at hq
    exact wp_mono hq (fun a _ k v H2 e2 ⟨S, r⟩ => k v H2 e2 ⟨S, TrD.to r⟩) fun _ _ z => z)
/-- told or not -/
def aptO {α : Type} [Rp α] [DyN α] : Option (Apt α) → Apt Dy
  | none => Apt.mk .non
  | some a => Apt.mk (DyN.dy a.l)
theorem g_aptDyO [DyN α] [TrD α] {m : R (Option (Apt α))} (h : Gr K E te σ F H m) : Gr K E te σ F H (R.bd m fun a => .ok (aptO a)) := fun H1 e Q hq =>
  h H1 e Q (by
    rw [wp_bd] at hq
    refine wp_mono hq (fun a _ k v H2 e2 r => k v H2 e2 ?_) fun _ _ z => z
    cases a with
    | none => exact ⟨fun _ => False, r⟩
    | some a =>
      obtain ⟨_, S, r⟩ := r
      exact ⟨S, TrD.to r⟩)
/-- the value of an option of things apart, for looks -/
theorem g_aplO {m : R (Option (Apt α))} (h : Gr K E te σ F H m) : Gr K E te σ F H (R.bd m fun a => .ok (a.map Apt.l)) := fun H1 e Q hq =>
  h H1 e Q (by
    rw [wp_bd] at hq
    refine wp_mono hq (fun a _ k v H2 e2 r => k v H2 e2 ?_) fun _ _ z => z
    cases a with
    | none => exact r
    | some a =>
      obtain ⟨n, S, r⟩ := r
      exact ⟨n, Tr.rep r⟩)
instance {α : Type} [Rp α] [Tr α] [NN α] : NN (Apt α) := ⟨fun ⟨_, h⟩ => NN.nn (Tr.rep h)⟩
theorem unD_wp [DyN γ] {d : Dy} {f : γ → R ρ} {kk : ρ → Prop} {ee : Er → Prop} (h : Wp (R.bd (unD d) f) kk ee) : ∃ x, DyN.un d = some x ∧ Wp (f x) kk ee := by
  unfold unD at h
  cases q : (DyN.un d : Option γ) with
  | none => rw [q] at h; exact h.elim
  | some x => rw [q] at h; exact ⟨x, rfl, h⟩
theorem ApO.un [DyN α] [TrD α] {d : Dy} {x : α} (o : ApO K H0 F H SS v d) (e : DyN.un d = some x) : ApO K H0 F H SS v x := by
  obtain ⟨S, r, h⟩ := o.ex
  exact ⟨S, TrD.of r e, h⟩
/-! ### frozen things whose parts are known -/
/-- new since the entry, and there -/
def Fp (H0 F : Hp) (S : Addr → Prop) : Prop := ∀ b, S b → H0 b = none ∧ muc F b
theorem fp_ff (w : Fp H0 F Sa) (e : Same F F') : Fp H0 F' Sa := fun b z => ⟨(w b z).1, muc_mono e (w b z).2⟩
theorem ft_N (w : Fp H0 F Sa) (r : Tr.tr K F Sa v a) : Rp.rep K (dif H0 F) v a := Tr.rep (Tr.mono (fun b o h z => by
  rcases z with z | z
  · exact dif_of (w b z).1 h
  · exact dif_tup z h) r)
theorem ft_dj (w : Fp H0 F Sb) (hF : Same F H) (n : ∀ b, Sa b → H b = none) : ∀ b, Sa b → ¬ Sb b := fun b z y => muc_some (muc_mono hF (w b y).2) (n b z)
/-- what is new becomes frozen, its parts known -/
theorem s_asgFT {i : Nat} {m : R α} {k : α → R ρ} {kk : ρ → Prop} (he : GrX K E te σ H m) (hF : Same F H) (e0 : Same H0 H) (hQ : Wp (R.bd m k) kk (EE K E H0))
    (c : ∀ a v F' H' S, Nx0 F H F' H' → Same H0 H' → Tr.tr K F' S v a → Fp H0 F' S → (∀ b, S b → H b = none) → Wp (k a) kk (EE K E H0) → D.nx (σ.set i (some v)) H') : tAsg te (gName i) D σ H := by
  refine he H (Same.refl _) _ ?_
  rw [wp_bd] at hQ
  refine wp_mono hQ (fun a _ q v H2 e2 ⟨S, r, n⟩ => ?_) fun c _ z => z.mono e0
  have sub : Agr S H2 (mix F H H2) := fun b o h z => by
    rcases z with z | z
    · rw [mix_new (n b z).1]; exact h
    · cases w : H b with
      | none => rw [mix_new w]; exact h
      | some u =>
        have := e2 b u w
        rw [h] at this
        cases this
        exact mix_tup w z
  refine c a v (mix F H H2) H2 S (Nx.mk' hF e2) (e0.trans e2) (Tr.mono sub r) (fun b z => ⟨Same.free e0 (n b z).1, ?_⟩) (fun b z => (n b z).1) q
  obtain ⟨h1, o, h2, h3⟩ := n b z
  exact ⟨o, by rw [mix_new h1]; exact h2, h3⟩
open Classical in
/-- what F has of S, and its tuples -/
noncomputable def onS (S : Addr → Prop) (F : Hp) : Hp := fun b => if S b ∨ tupB (F b) = true then F b else none
theorem onS_le {S : Addr → Prop} : Same (onS S F) F := fun b o h => by
  unfold onS at h
  split at h
  · exact h
  · cases h
theorem onS_of {S : Addr → Prop} {b : Addr} {o : HO} (h : F b = some o) (z : S b ∨ tupB (some o) = true) : onS S F b = some o := by
  unfold onS
  rw [if_pos (by rw [h]; exact z)]
  exact h
theorem rep_onS (r : Tr.tr K F Sa v a) : Rp.rep K (onS Sa F) v a := Tr.rep (Tr.mono (fun b o h z => onS_of h z) r)
theorem muc_onS {S : Addr → Prop} {b : Addr} (h : muc (onS S F) b) : S b ∧ muc F b := by
  obtain ⟨o, h1, h2⟩ := h
  unfold onS at h1
  split at h1
  · rename_i c
    rcases c with c | c
    · exact ⟨c, o, h1, h2⟩
    · rw [h1, h2] at c; cases c
  · cases h1
/-- told of parts of one thing, or new -/
theorem s_asgFS [T1 α] {i : Nat} {m : R α} {k : α → R ρ} {kk : ρ → Prop} (w : Fp H0 F Sb) (he : Gr K E te σ (onS Sb F) H m) (hF : Same F H) (e0 : Same H0 H) (hQ : Wp (R.bd m k) kk (EE K E H0))
    (c : ∀ a v F' H' S, Nx0 F H F' H' → Same H0 H' → Tr.tr K F' S v a → Fp H0 F' S → (∀ b, S b → Sb b ∨ H b = none) → Wp (k a) kk (EE K E H0) → D.nx (σ.set i (some v)) H') : tAsg te (gName i) D σ H := by
  refine he H (Same.refl _) _ ?_
  rw [wp_bd] at hQ
  refine wp_mono hQ (fun a _ q v H2 e2 r => ?_) fun c _ z => z.mono e0
  have r2 := Tr.cut (T1.of r)
  have sub : Same (mix (onS Sb F) H H2) (mix F H H2) := fun b o h => by
    rcases mix_cases h with ⟨z, y⟩ | ⟨z, y⟩ | ⟨u, z, y, x⟩
    · rw [mix_new z]; exact y
    · exact mix_tup z y
    · rw [mix_old z y]; exact onS_le _ _ x
  have key : ∀ b, muc (mix (onS Sb F) H H2) b → Sb b ∨ H b = none := fun b ⟨o, h, t⟩ => by
    rcases mix_cases h with ⟨z, _⟩ | ⟨_, y⟩ | ⟨u, z, y, x⟩
    · exact .inr z
    · rw [t] at y; cases y
    · exact .inl (muc_onS ⟨o, x, t⟩).1
  refine c a v (mix F H H2) H2 _ (Nx.mk' hF e2) (e0.trans e2) (Tr.mono (Agr.same sub) r2) (fun b z => ⟨?_, muc_mono sub z.1⟩) (fun b z => key b z.1) q
  rcases key b z.1 with y | y
  · exact (w b y).1
  · exact Same.free e0 y
/-! ### a list of things apart, of ours -/
structure OwT {α : Type} [Rp α] [Tr α] (K : PySem.W.Frag) (H0 F H : Hp) (p : Addr) (S : Addr → Prop) (xs : List α) : Prop where
  h0 : H0 p = none
  f : F p = none
  at_ : ∃ vs, H p = some (.lst vs) ∧ TrL (fun S v x => Tr.tr K F S v x) S vs xs
  w : Fp H0 F S
theorem OwT.nx {p : Addr} {xs : List α} (o : OwT K H0 F H p Sa xs) (n : Nx P F H F' H') (hp : ¬ P p) : OwT K H0 F' H' p Sa xs := by
  obtain ⟨h0, f, ⟨vs, h, r⟩, w⟩ := o
  exact ⟨h0, n.own p _ rfl h f, ⟨vs, n.hh p _ hp h, trl_agr (Agr.same n.ff) r⟩, fp_ff w n.ff⟩
theorem OwT.nx0 {p : Addr} {xs : List α} (o : OwT K H0 F H p Sa xs) (n : Nx0 F H F' H') : OwT K H0 F' H' p Sa xs := o.nx n fun z => z
theorem OwT.there {p : Addr} {xs : List α} (o : OwT K H0 F H p Sa xs) : ∃ u, H p = some u := let ⟨_, _, ⟨_, h, _⟩, _⟩ := o; ⟨_, h⟩
theorem OwT.nt {p : Addr} {xs : List α} (o : OwT K H0 F H p Sa xs) : tupB (H p) = false := by obtain ⟨_, _, ⟨_, h, _⟩, _⟩ := o; rw [h]; rfl
theorem OwT.own {p : Addr} {xs : List α} (o : OwT K H0 F H p Sa xs) : Own K H0 true F H p xs := by
  obtain ⟨h0, f, ⟨vs, h, r⟩, w⟩ := o
  refine Own.of h0 f h ?_
  have r2 : TrL (fun (_ : Addr → Prop) v x => Rp.rep K (dif H0 F) v x) Sa vs xs := r.mp fun S1 v x q t => ft_N (fun b z => w b (q b z)) t
  exact r2.all (F := Rp.rep K (dif H0 F)) fun _ _ _ z => z
theorem OwT.rep {p : Addr} {xs : List α} (o : OwT K H0 F H p Sa xs) (hF : Same F H) : Rp.rep K H (.ref p) xs := o.own.rep hF
theorem OwT.fz {p q : Addr} {xs : List α} (o : OwT K H0 F H q Sa xs) (hf : Same F F') (h : ∀ q, q ≠ p → F' q = F q) (ne : q ≠ p) : OwT K H0 F' H q Sa xs := by
  obtain ⟨h0, f, ⟨vs, h1, r⟩, w⟩ := o
  exact ⟨h0, by rw [h q ne]; exact f, ⟨vs, h1, trl_agr (Agr.same hf) r⟩, fp_ff w hf⟩
theorem g_owT {i : Nat} {p : Addr} {xs : List α} (o : OwT K H0 F H p Sa xs) (hF : Same F H) (h : σ[i]? = some (some (.ref p)) := by rfl) : Gr K E (tVar i) σ (dif H0 H) H (.ok (Apt.mk xs)) := by
  obtain ⟨h0, f, ⟨vs, h1, r⟩, w⟩ := o
  refine g_var (v := .ref p) (a := Apt.mk xs) ⟨fun b => b = p ∨ Sa b, p, vs, Sa, rfl, dif_of h0 h1, .inl rfl, fun b z => ⟨.inr z, fun y => ?_⟩, trl_agr (fun b o h z => ?_) r⟩ dif_le h
  · have := (w b z).2
    rw [y] at this
    exact muc_some this f
  · rcases z with z | z
    · exact dif_of (w b z).1 (hF _ _ h)
    · exact dif_tup z (hF _ _ h)
/-- xs = [] -/
theorem s_asgOT0 {i : Nat} {k : List α → R ρ} {kk : ρ → Prop} (hF : Same F H) (e0 : Same H0 H) (hQ : Wp (R.bd (gd (([] : List α).length ≤ lim) (.ok ([] : List α))) k) kk (EE K E H0))
    (c : ∀ xs p F' H' S, Nx0 F H F' H' → Same H0 H' → OwT K H0 F' H' p S xs → (∀ q, (∃ u, H q = some u) → q ≠ p) → (∀ b, ¬ S b) → Wp (k xs) kk (EE K E H0) → D.nx (σ.set i (some (.ref p))) H') : tAsg (tLst tNil) (gName i) D σ H := by
  rw [gd_pos (show ([] : List α).length ≤ lim from Nat.zero_le _), bd_ok] at hQ
  refine ⟨by show 0 ≤ sizeLine; decide, fun p hp => ?_⟩
  have e2 : Same H (upd H p (.lst [])) := same_upd hp
  have n := nx_tupF hF e2
  have m : delH (tupF F (upd H p (.lst []))) p = tupF F (upd H p (.lst [])) := by
    funext b
    by_cases z : b = p
    · rw [z, delH_same]
      exact (tupF_none (by rw [upd_same]; rfl) (Same.free hF hp)).symm
    · exact delH_ne z
  exact c [] p _ _ (fun _ => False) n (e0.trans e2) ⟨Same.free e0 hp, tupF_none (by rw [upd_same]; rfl) (Same.free hF hp), ⟨[], upd_same, .nil⟩, fun _ z => z.elim⟩ (fun q ⟨u, hu⟩ z => by rw [z, hp] at hu; cases hu) (fun _ z => z) hQ
/-- xs = [x] -/
theorem s_asgOT1 {i j : Nat} {x : α} {k : List α → R ρ} {kk : ρ → Prop} (t : Tr.tr K F Sa v x) (w : Fp H0 F Sa) (hv : σ[j]? = some (some v)) (hF : Same F H) (e0 : Same H0 H) (hQ : Wp (R.bd (gd ([x].length ≤ lim) (.ok [x])) k) kk (EE K E H0))
    (c : ∀ xs p F' H' S, Nx0 F H F' H' → Same H0 H' → OwT K H0 F' H' p S xs → (∀ q, (∃ u, H q = some u) → q ≠ p) → (∀ b, S b → Sa b) → Wp (k xs) kk (EE K E H0) → D.nx (σ.set i (some (.ref p))) H') : tAsg (tLst (tCons (tVar j) tNil)) (gName i) D σ H := by
  rw [gd_pos (show [x].length ≤ lim by show 1 ≤ lim; decide), bd_ok] at hQ
  refine ⟨v, hv, by show 1 ≤ sizeLine; decide, fun p hp => ?_⟩
  have e2 : Same H (upd H p (.lst [v])) := same_upd hp
  have n := nx_tupF hF e2
  exact c [x] p _ _ Sa n (e0.trans e2) ⟨Same.free e0 hp, tupF_none (by rw [upd_same]; rfl) (Same.free hF hp), ⟨[v], upd_same, .cons (S1 := Sa) (S2 := fun _ => False) (fun b z => ⟨z, fun y => y⟩) (fun _ z => z.elim) (Tr.mono (Agr.same n.ff) t) .nil⟩, fp_ff w n.ff⟩ (fun q ⟨u, hu⟩ z => by rw [z, hp] at hu; cases hu) (fun _ z => z) hQ
/-- xs.append(x) -/
theorem s_otPush {p : Addr} {j : Nat} {x : α} {xs : List α} {k : List α → R ρ} {kk : ρ → Prop} (ha : At to σ H p) (o : OwT K H0 F H p Sb xs) (t : Tr.tr K F Sa v x) (w : Fp H0 F Sa) (dj : ∀ b, Sa b → ¬ Sb b) (hv : σ[j]? = some (some v)) (hF : Same F H) (e0 : Same H0 H)
    (hQ : Wp (R.bd (R.bd (.ok x) fun a => appR xs a) k) kk (EE K E H0))
    (c : ∀ xs' F' H' S, Nx (fun q => q = p) F H F' H' → Same H0 H' → OwT K H0 F' H' p S xs' → (∀ b, S b → Sb b ∨ Sa b) → Wp (k xs') kk (EE K E H0) → D.nx σ H') : tDrop (tBM K "list" rAppend to (tCons (tVar j) tNil)) D σ H := by
  obtain ⟨h0, f, ⟨vs, hp, r⟩, w2⟩ := o
  refine ha H (Same.refl _) _ ⟨.inl ⟨rfl, _, SqL.of hp⟩, ?_⟩
  refine ⟨v, hv, ?_⟩
  rw [bd_ok] at hQ
  have len : vs.length = xs.length := (r.all (F := fun _ _ => True) fun _ _ _ _ => trivial).length
  unfold appR gd at hQ
  split at hQ
  · rename_i cl
    refine ⟨p, vs, v, rfl, rfl, hp, lim_line' (by rw [len]; exact cl), ?_⟩
    have n := nx_upd (o' := .lst (vs ++ [v])) hF (Same.refl _) hp f
    refine c (xs ++ [x]) _ _ (fun b => Sb b ∨ Sa b) n (e0_upd e0 (Same.refl _) h0) ⟨h0, n.own p _ rfl hp f, ⟨vs ++ [v], upd_same, ?_⟩, fun b z => z.elim (fun z => fp_ff w2 n.ff b z) fun z => fp_ff w n.ff b z⟩ (fun _ z => z) hQ
    exact TrL.snoc (trl_agr (Agr.same n.ff) r) (Tr.mono (Agr.same n.ff) t) (fun b z => ⟨.inl z, fun y => dj b y z⟩) fun b z => .inr z
  · exact hQ.elim
/-- xs.append(e), e new -/
theorem s_otPushE {p : Addr} {xs : List α} {m : R α} {k : List α → R ρ} {kk : ρ → Prop} (ha : At to σ H p) (o : OwT K H0 F H p Sb xs) (he : GrX K E te σ H m) (hF : Same F H) (e0 : Same H0 H)
    (hQ : Wp (R.bd (R.bd m fun a => appR xs a) k) kk (EE K E H0))
    (c : ∀ xs' F' H' S, Nx (fun q => q = p) F H F' H' → Same H0 H' → OwT K H0 F' H' p S xs' → (∀ b, S b → Sb b ∨ H b = none) → Wp (k xs') kk (EE K E H0) → D.nx σ H') : tDrop (tBM K "list" rAppend to (tCons te tNil)) D σ H := by
  obtain ⟨h0, f, ⟨vs, hp, r⟩, w2⟩ := o
  refine ha H (Same.refl _) _ ⟨.inl ⟨rfl, _, SqL.of hp⟩, ?_⟩
  refine he H (Same.refl _) _ ?_
  rw [bd_assoc, wp_bd] at hQ
  refine wp_mono hQ (fun x _ q u H2 e2 ⟨S, re, n2⟩ => ?_) fun c _ z => z.mono e0
  have len : vs.length = xs.length := (r.all (F := fun _ _ => True) fun _ _ _ _ => trivial).length
  unfold appR gd at q
  split at q
  · rename_i cl
    have hp2 := e2 _ _ hp
    refine ⟨p, vs, u, rfl, rfl, hp2, lim_line' (by rw [len]; exact cl), ?_⟩
    have n := nx_upd (o' := .lst (vs ++ [u])) hF e2 hp f
    have sub : Agr S H2 (mix F H H2) := fun b o h z => by
      rcases z with z | z
      · rw [mix_new (n2 b z).1]; exact h
      · cases w : H b with
        | none => rw [mix_new w]; exact h
        | some u =>
          have := e2 b u w
          rw [h] at this
          cases this
          exact mix_tup w z
    have w : Fp H0 (mix F H H2) S := fun b z => by
      obtain ⟨h1, o, h2, h3⟩ := n2 b z
      exact ⟨Same.free e0 h1, o, by rw [mix_new h1]; exact h2, h3⟩
    have dj : ∀ b, S b → ¬ Sb b := ft_dj w2 hF fun b z => (n2 b z).1
    refine c (xs ++ [x]) _ _ (fun b => Sb b ∨ S b) n (e0_upd e0 e2 h0) ⟨h0, n.own p _ rfl hp f, ⟨vs ++ [u], upd_same, ?_⟩, fun b z => z.elim (fun z => fp_ff w2 n.ff b z) fun z => w b z⟩ (fun b z => z.imp id fun z => (n2 b z).1) q
    exact TrL.snoc (trl_agr (Agr.same n.ff) r) (Tr.mono sub re) (fun b z => ⟨.inl z, fun y => dj b y z⟩) fun b z => .inr z
  · exact q.elim
end
end G

set_option Elab.async false
set_option linter.all false
set_option maxRecDepth 100000
set_option maxHeartbeats 4000000
/-! G: texts. -/
namespace G
open PySem PySem.Spec PyProof.Rows L2
/-- a sign of a text -/
noncomputable def strIdx (s : Str) (i : Int) : R Str := gd (s.length ≤ lim) (match atI s.cps.toList i with
  | some c => .ok ⟨#[c]⟩
  | none => .bad)
noncomputable def strLen (s : Str) : R Int := gd (s.length ≤ lim) (.ok (s.length : Int))
def strIn (x y : Str) : Bool := !(Builtin.Str.occurrences y x 0 y.length 1).isEmpty
noncomputable def intS (s : Str) : R Int := gd (s.length ≤ 640) (match intText? s with
  | some n => .ok n
  | none => .bad)
def numS (n : Int) : Str := Str.ofString (toString n)
noncomputable def strN (n : Int) : R Str := gd (n.natAbs.log2 < 1920) (.ok (numS n))
noncomputable def splitR (a b : Str) : R (List Str) := gd ((b.length == 0) = false ∧ a.length + 2 ≤ lim) (.ok (Txt.split a b))
noncomputable def joinR (s : Str) (xs : List Str) : R Str := gd ((xs.map fun x => x.length).sum + xs.length * s.length ≤ 16777216) (.ok (Txt.join s xs))
noncomputable def catS (a b : Str) : R Str := gd (a.length + b.length ≤ lim) (.ok (a ++ b))
noncomputable def sliceS (s : Str) (lo hi : Option Int) : R Str := gd (s.length ≤ lim) (.ok (cutS s lo hi))
def signs (s : Str) : List Str := s.cps.toList.map fun c => (⟨#[c]⟩ : Str)
section
variable {K : PySem.W.Frag} {E : XK} {σ : L2.St} {H0 F H F' H' : Hp} {te ta tb to ti : TE} {α β γ δ ρ : Type} [Rp α] [Rp β] [Rp γ] [Rp δ] [Rp ρ]
theorem lim_le : ∀ {n : Nat}, n ≤ lim → n ≤ sizeLine := fun {n} h => by
  have : lim ≤ sizeLine := by decide
  omega
theorem g_idxStr {ma : R Str} {mi : R Int} (ha : Gr K E ta σ F H ma) (hi : Gr K E tb σ F H mi) : Gr K E (tOp rIxS ta tb) σ F H (R.bd ma fun a => R.bd mi fun i => strIdx a i) := fun H1 e Q hq =>
  gr_seq ha e hq fun s v H2 e2 r hq2 => gr_seq hi (e.trans e2) hq2 fun i w H3 e3 r3 hq3 => by
    have r : v = .str s := r
    have r3 : w = .int i := r3
    subst r; subst r3
    unfold strIdx gd at hq3
    split at hq3
    · rename_i c
      cases q : atI s.cps.toList i with
      | none => rw [q] at hq3; exact hq3.elim
      | some a =>
        rw [q] at hq3
        exact ⟨s, i, a, rfl, rfl, lim_le c, q, hq3 _ H3 (Same.refl _) rfl⟩
    · exact hq3.elim
theorem g_lenStr {m : R Str} (h : Gr K E ta σ F H m) : Gr K E (tCB (fun xs H Q => ∃ z : Str, xs = [V.str z] ∧ z.length ≤ sizeLine ∧ Q (V.int z.length) H) (tCons ta tNil)) σ F H (R.bd m strLen) := fun H1 e Q hq =>
  gr_seq h e hq fun s v H2 e2 r hq2 => by
    have r : v = .str s := r
    subst r
    unfold strLen gd at hq2
    split at hq2
    · rename_i c
      exact ⟨s, rfl, lim_le c, hq2 _ H2 (Same.refl _) rfl⟩
    · exact hq2.elim
theorem g_strIn {ma mb : R Str} (ha : Gr K E ta σ F H ma) (hb : Gr K E tb σ F H mb) : Gr K E (tOp (fun x y H Q => ∃ i j, x = V.str i ∧ y = V.str j ∧ Q (V.bl !(Builtin.Str.occurrences j i 0 j.length 1).isEmpty) H) ta tb) σ F H (R.bd ma fun a => R.bd mb fun b => .ok (strIn a b)) := fun H1 e Q hq =>
  gr_seq ha e hq fun a v H2 e2 r hq2 => gr_seq hb (e.trans e2) hq2 fun b w H3 e3 r3 hq3 => by
    have r : v = .str a := r
    have r3 : w = .str b := r3
    subst r; subst r3
    exact ⟨a, b, rfl, rfl, hq3 _ H3 (Same.refl _) rfl⟩
theorem g_strNotIn {ma mb : R Str} (ha : Gr K E ta σ F H ma) (hb : Gr K E tb σ F H mb) : Gr K E (tOp (fun x y H Q => ∃ i j, x = V.str i ∧ y = V.str j ∧ Q (V.bl !!(Builtin.Str.occurrences j i 0 j.length 1).isEmpty) H) ta tb) σ F H (R.bd ma fun a => R.bd mb fun b => .ok (!strIn a b)) := fun H1 e Q hq =>
  gr_seq ha e hq fun a v H2 e2 r hq2 => gr_seq hb (e.trans e2) hq2 fun b w H3 e3 r3 hq3 => by
    have r : v = .str a := r
    have r3 : w = .str b := r3
    subst r; subst r3
    exact ⟨a, b, rfl, rfl, hq3 _ H3 (Same.refl _) rfl⟩
theorem g_intStr {m : R Str} (h : Gr K E ta σ F H m) : Gr K E (tCB (fun xs H Q => ∃ a n, xs = [V.str a] ∧ intText? a = some n ∧ a.length ≤ 640 ∧ Q (V.int n) H) (tCons ta tNil)) σ F H (R.bd m intS) := fun H1 e Q hq =>
  gr_seq h e hq fun s v H2 e2 r hq2 => by
    have r : v = .str s := r
    subst r
    unfold intS gd at hq2
    split at hq2
    · rename_i c
      cases q : intText? s with
      | none => rw [q] at hq2; exact hq2.elim
      | some n =>
        rw [q] at hq2
        exact ⟨s, n, rfl, q, c, hq2 _ H2 (Same.refl _) rfl⟩
    · exact hq2.elim
theorem g_strInt {m : R Int} (h : Gr K E ta σ F H m) : Gr K E (tCB (fun xs H Q => ∃ i, xs = [V.int i] ∧ i.natAbs.log2 < 1920 ∧ Q (V.str (Str.ofString (toString i))) H) (tCons ta tNil)) σ F H (R.bd m strN) := fun H1 e Q hq =>
  gr_seq h e hq fun n v H2 e2 r hq2 => by
    have r : v = .int n := r
    subst r
    unfold strN gd at hq2
    split at hq2
    · rename_i c
      exact ⟨n, rfl, c, hq2 _ H2 (Same.refl _) rfl⟩
    · exact hq2.elim
theorem strs_rep {F : Hp} : ∀ ys : List Str, All2 (Rp.rep K F) (ys.map V.str) ys := fun ys => All2.ofMap V.str (fun _ => rfl) ys
theorem g_split {ma mb : R Str} (ha : Gr K E ta σ F H ma) (hb : Gr K E tb σ F H mb) : Gr K E (tM1 (fun x xs H Q => ∃ a b, x = V.str a ∧ xs = [V.str b] ∧ (b.length == 0) = false ∧ a.length + 2 ≤ sizeLine ∧ rNewStrs (Txt.split a b) H Q) ta tb) σ F H (R.bd ma fun a => R.bd mb fun b => splitR a b) := fun H1 e Q hq =>
  gr_seq ha e hq fun a v H2 e2 r hq2 => ⟨⟨a, r⟩, gr_seq hb (e.trans e2) hq2 fun b w H3 e3 r3 hq3 => by
    have r : v = .str a := r
    have r3 : w = .str b := r3
    subst r; subst r3
    unfold splitR gd at hq3
    split at hq3
    · rename_i c
      refine ⟨a, b, rfl, rfl, c.1, lim_le c.2, fun p hp => hq3 _ _ (same_upd hp) ?_⟩
      have hn : H p = none := Same.free (e.trans (e2.trans e3)) hp
      exact ⟨p, _, rfl, by rw [mix_new hn]; exact upd_same, strs_rep _⟩
    · exact hq3.elim⟩
theorem g_join {ma : R Str} {mb : R (List Str)} (ha : Gr K E ta σ H H ma) (hb : Gr K E tb σ H H mb) : Gr K E (tM1 (fun x xs H Q => ∃ a p ys, x = V.str a ∧ xs = [V.ref p] ∧ (SqL K H p (List.map V.str ys) ∨ SqT K H p (List.map V.str ys)) ∧ (List.map (fun x => x.length) ys).sum + ys.length * a.length ≤ 16777216 ∧ Q (V.str (Txt.join a ys)) H) ta tb) σ F H (R.bd ma fun a => R.bd mb fun b => joinR a b) := fun H1 e Q hq =>
  gr_arg ha e hq fun a v H2 e2 r hq2 => ⟨⟨a, r⟩, gr_arg hb (e.trans e2) hq2 fun b w H3 e3 r3 hq3 => by
    have r : v = .str a := r
    subst r
    obtain ⟨p, vs, rfl, hp, hv⟩ := r3
    have h2 := rep_strs hv
    subst h2
    unfold joinR gd at hq3
    split at hq3
    · rename_i c
      exact ⟨a, p, b, rfl, rfl, .inl (SqL.of hp), c, hq3 _ H3 (Same.refl _) rfl⟩
    · exact hq3.elim⟩
theorem g_catStr {ma mb : R Str} (ha : Gr K E ta σ F H ma) (hb : Gr K E tb σ F H mb) : Gr K E (tOp (fun x y H Q => ∃ i j : Str, x = V.str i ∧ y = V.str j ∧ i.length + j.length ≤ sizeLine ∧ Q (V.str (i ++ j)) H) ta tb) σ F H (R.bd ma fun a => R.bd mb fun b => catS a b) := fun H1 e Q hq =>
  gr_seq ha e hq fun a v H2 e2 r hq2 => gr_seq hb (e.trans e2) hq2 fun b w H3 e3 r3 hq3 => by
    have r : v = .str a := r
    have r3 : w = .str b := r3
    subst r; subst r3
    unfold catS gd at hq3
    split at hq3
    · rename_i c
      exact ⟨a, b, rfl, rfl, lim_le c, hq3 _ H3 (Same.refl _) rfl⟩
    · exact hq3.elim
theorem g_sliceStr {tlo thi : TO} {m : R Str} {mlo mhi : R (Option Int)} (h : Gr K E ta σ F H m) (hlo : GrO K E tlo σ H mlo) (hhi : GrO K E thi σ H mhi) :
    Gr K E (tSl rSlS ta tlo thi) σ F H (R.bd m fun xs => R.bd mlo fun lo => R.bd mhi fun hi => sliceS xs lo hi) := fun H1 e Q hq =>
  gr_seq h e hq fun s v H2 e2 r hq2 => gro_seq hlo (e.trans e2) hq2 fun lo H3 e3 hq3 => gro_seq hhi (e.trans (e2.trans e3)) hq3 fun hi H4 e4 hq4 => by
    have r : v = .str s := r
    subst r
    unfold sliceS gd at hq4
    split at hq4
    · rename_i c
      exact ⟨s, rfl, lim_le c, hq4 _ H4 (Same.refl _) rfl⟩
    · exact hq4.elim
theorem i_str {m : R Str} (h : Gr K E te σ F H m) : GrI K E (iStr te) σ F H (R.bd m fun s => .ok (signs s)) := fun H1 e RR hq =>
  h H1 e _ (by
    rw [wp_bd] at hq
    refine wp_mono hq (fun s _ k v H2 e2 r => ?_) fun _ _ z => z
    have r : v = .str s := r
    subst r
    have hl : (signs s).length = s.cps.size := by unfold signs; simp
    refine ⟨s, rfl, k _ H2 e2 ⟨fun i H' s' hi => (by rw [hl] at hi; exact hi), fun i H' s' hi => (by rw [hl] at hi; exact Nat.le_of_eq hi.symm), fun i H' x H'' s' hi y => ?_⟩⟩
    obtain ⟨rfl, c, hc, rfl⟩ := y
    refine ⟨Same.refl _, ⟨#[c]⟩, ?_, rfl⟩
    unfold signs
    rw [List.getElem?_map, Array.getElem?_toList, hc]
    rfl)
end
end G

set_option Elab.async false
set_option linter.all false
set_option maxRecDepth 100000
set_option maxHeartbeats 4000000
/-! G: a list comprehension whose item may raise: the exception goes on through the def around. -/
namespace G
open PySem PySem.Spec PyProof.Rows L2 HandSPX
section
variable {X : Cx} {pins : List (Addr × Obj)} {σ : L2.St} {H : Hp} {s : Shared}
theorem okXe {xe : Value → Shared → Prop} (o : X.Ok) : Cx.Ok { X with xe := xe } :=
  ⟨o.mod, o.kind, o.glob, o.blt, o.above, o.inj, o.has, o.cab, o.hd, o.frames, o.stk, o.exf, o.bs, o.bsz, o.noex, o.exfs, o.funs, o.frf⟩
theorem invXe {xe : Value → Shared → Prop} (I : Inv X pins σ H s) : Inv { X with xe := xe } pins σ H s :=
  ⟨okXe I.ok, I.os, I.bare, I.base, I.loc, I.cell, I.free, I.freeC, I.pin, I.hok, I.len⟩
/-- the block's context: what a call inside lets out is in its air -/
abbrev bxe (X : Cx) (s : Shared) (H : Hp) (sc : Scope) (ce : Env) (fp : List Addr) (E : XK) : Cx :=
  { X.blk s H sc ce fp with xe := fun u s' => ∃ pins σ H1 s1, Inv (X.blk s H sc ce fp) pins σ H1 s1 ∧ L2.CX X.prog X.w X.stack H1 s1 E u s' }
theorem bxe_pass {sc : Scope} {ce : Env} {fp : List Addr} {E : XK} (σ : L2.St) : PassesAt (L2.CX X.prog X.w) (bxe X s H sc ce fp E) σ E := fun pins H1 s1 _ _ I c =>
  ⟨pins, σ, H1, s1, invXe (X := bxe X s H sc ce fp E) (xe := fun _ _ => False) I, c⟩
theorem hide_one {h : Heap} {C b : Addr} {o : Obj} (e : h.get? b = some o) (n : b ≠ C) : (PySem.W.hideAll h [C]).get? b = some o :=
  PySem.W.hideAll_get [C] e fun z => by simp at z; exact n z
theorem of_hide_one {h : Heap} {C b : Addr} {o : Obj} (e : (PySem.W.hideAll h [C]).get? b = some o) : h.get? b = some o ∧ b ≠ C :=
  ⟨PySem.W.of_hideAll [C] e, fun z => by rw [z, PySem.W.hideAll_none [C] (by simp)] at e; cases e⟩
theorem hide_free {h : Heap} {C b : Addr} (n : h.get? b = none) : (PySem.W.hideAll h [C]).get? b = none := by
  cases q : (PySem.W.hideAll h [C]).get? b with
  | none => rfl
  | some o => rw [(of_hide_one q).1] at n; cases n
/-- the block's names let go: the exception is held as it was -/
theorem held_but {B h h' : Heap} {l : List Env} {a C L : Addr} {Z : Obj → Prop} {m m' : Str → Option Value} {oC : Obj} (hC : B.get? C = some oC) (hn : h'.Ns C m') (sb : Heap.SameBut C h h') (x : HeldZ B l a Z L h) : HeldZ (PySem.W.hideAll B [C]) l a Z L h' := by
  obtain ⟨k1, k2, k3, oe, vs, T, oT, ts, he, hz, hd, h1, hnT, hTe, hT, hdT, h3⟩ := x
  have aC : a ≠ C := fun z => by rw [z, hC] at k2; cases k2
  have tC : T ≠ C := fun z => by rw [z, hC] at hnT; cases hnT
  have ff : h'.FunFrames B l := Heap.FunFrames.sameBut sb hn k3
  refine ⟨fun b o e => ?_, hide_free k2, funFrames_none ff fun b hb => hide_free (ff.mem hb).1, oe, vs, T, oT, ts, (sb.2 a aC).trans he, hz, hd, h1, hide_free hnT, hTe, (sb.2 T tC).trans hT, hdT, h3⟩
  obtain ⟨e1, e2⟩ := of_hide_one e
  exact (sb.2 b e2).trans (k1 b o e1)
/-- what a call inside let out leaves the block and is in the air of the def -/
theorem block_out {s3 s' : Shared} {H3 : Hp} {sc : Scope} {ce : Env} {fp : List Addr} {E : XK} {u : Value} {C : Addr} (hst : X.stack = X.env :: X.outer) (hfr : X.env.frame = some X.env.locals) (tk : Takes X (fun cls d _ H => E cls d H))
    (I3 : Inv X pins σ H3 s3) (hC : s3.heap.objs.size ≤ C) (f3 : ∀ b ∈ fp, FpOk X pins H3 b ∧ b < s3.heap.objs.size) (cl : ce.locals = C) (cf : ce.frame = X.env.frame)
    (x : ∃ pins σ H1 s1, Inv (X.blk s3 H3 sc ce fp) pins σ H1 s1 ∧ L2.CX X.prog X.w X.stack H1 s1 E u s') :
    notedBy (model X.prog X.w) X.A ce (CompFails (model X.prog X.w) X.A X.xe ce) u s' := by
  obtain ⟨p5, σ5, H5, s5, I5, a, B, H6, cls, d, rfl, fl, hok, ub, na, os, ag, hE⟩ := x
  have afr : X.A.frames = some (X.env :: X.outer) := by rw [I3.ok.frames, hst]
  have nC : H5 C = none := by have z : H5 ce.locals = none := I5.free; rw [cl] at z; exact z
  have below : ∀ b o, s3.heap.get? b = some o → b ≠ C := fun b o e z => by
    have := Heap.lt_size e
    rw [z] at this
    exact absurd (Nat.lt_of_lt_of_le this hC) (Nat.lt_irrefl _)
  have frC : C ∉ frs X.stack := fun z => by
    obtain ⟨_, o, e, _⟩ := I3.stack.mem z
    exact below _ _ e rfl
  obtain ⟨m, ⟨oC, es, ep, hoC, rC⟩, _⟩ := I5.loc
  have hoC : s5.heap.get? C = some oC := by rw [← cl]; exact hoC
  have hBC : B.get? C = some oC := ub.keep C oC hoC nC frC
  have nsB : B.Ns C m := ⟨oC, es, ep, hBC, rC⟩
  show wpAny _ _ (noteFrame (.ref a) ce) _ _ s'
  rw [noteFrame_env _ cf]
  refine looks_onZ Zc.steady afr hfr (by rw [← hst]; exact fl) fun h7 held7 up7 => ?_
  refine ⟨m, by rw [cl]; exact nsB.keeps held7.1, fun h8 m8 hn8 sb8 => ?_⟩
  rw [cl] at hn8 sb8
  have sb8 : Heap.SameBut C h7 h8 := sb8
  have held8 := held_but (m := m) hBC hn8 sb8 held7
  obtain ⟨oe, vs, T, oT, ts, he, hz, hd, h1, _⟩ := held8.2.2.2
  unfold PySem.passOn
  refine wpAny_bind (wpAny_field he hd h1 ?_)
  rw [if_neg (by simp), cf, hfr]
  refine wpAny_bind (setFlight_onZ held8 fun h9 held9 up9 => wpAny_throw ?_)
  -- in the air of the def
  obtain ⟨G, g1, g2⟩ := restrict h9 fun b => ((PySem.W.hideAll B [C]).get? b).isSome || decide (b ∈ frs X.stack)
  have gB : ∀ b o, B.get? b = some o → b ≠ C → G.get? b = some o := fun b o e n => by
    have e2 := hide_one e n
    rw [g1 b (by simp [e2])]
    exact held9.1 b o e2
  have gF : ∀ b, b ∈ frs X.stack → G.get? b = h9.get? b := fun b hb => g1 b (by simp [hb])
  have og : ∀ b o, G.get? b = some o → h9.get? b = some o ∧ (((PySem.W.hideAll B [C]).get? b).isSome = true ∨ b ∈ frs X.stack) := fun b o e => by
    cases q : (((PySem.W.hideAll B [C]).get? b).isSome || decide (b ∈ frs X.stack)) with
    | true =>
      rw [g1 b q] at e
      exact ⟨e, by simpa [Bool.or_eq_true] using q⟩
    | false => rw [g2 b q] at e; cases e
  have slot : ∀ b o, s3.heap.get? b = some o → b ∈ frs X.stack → b ∉ fp → ∃ sl, G.get? b = some { o with slots := sl } := fun b o e hb hc => by
    have n3 := I3.stkFree b hb
    obtain ⟨_, o9, e9, nf⟩ := I3.stack.mem hb
    rw [e] at e9
    cases e9
    obtain ⟨s1, e1⟩ := I5.base.slot b o e n3 hb hc
    obtain ⟨s2, e2⟩ := ub.slot b _ e1 hb
    obtain ⟨s4, e4⟩ := up7 b _ e2 nf
    have e5 := (sb8.2 b (below b o e)).trans e4
    obtain ⟨s6, e6⟩ := up9 b _ e5 nf
    exact ⟨s6, by rw [gF b hb]; exact e6⟩
  have un : Un (frs X.stack) fp H3 H6 s3.heap G := by
    refine ⟨fun b o e n hb hc => ?_, fun b o e n hb hc => slot b o e hb hc, fun b o e n hc => ?_, fun b o e hc => ?_, fun b xs e => ub.tups b xs (I5.base.tups b xs e), fun b o xs e => ub.frzs b o xs (I5.base.frzs b o xs e), fun b ps e => ?_⟩
    · exact gB b o (ub.keep b o (I5.base.keep b o e n hb hc) (I5.base.free b o e n hc) hb) (below b o e)
    · obtain ⟨o5, e5⟩ := I5.base.there b o e hc
      exact ub.free b o5 e5 (I5.base.free b o e n hc)
    · by_cases hb : b ∈ frs X.stack
      · obtain ⟨sl, q⟩ := slot b o e hb hc
        exact ⟨_, q⟩
      · obtain ⟨o5, e5⟩ := I5.base.there b o e hc
        obtain ⟨o6, e6⟩ := ub.there b o5 e5 hb
        exact ⟨o6, gB b o6 e6 (below b o e)⟩
    · obtain ⟨m1, h1⟩ := I5.base.tbls b ps e
      obtain ⟨m2, h2⟩ := ub.tbls b _ h1
      exact ⟨m1 ++ m2, by rw [h2, Array.append_assoc]⟩
  have n6 : H6 C = none := ub.free C oC hoC nC
  have hokG : HOk X.prog X.w H6 G := fun b o q => (hok b o q).stay (fun c w hc r => gB c w r fun z => by
    rcases hc with hc | hc
    · rw [← hc, z, n6] at q; cases q
    · rw [z, n6] at hc; cases hc) (fun _ r => r) fun _ _ r => r
  have J : Inv X pins σ H6 { s3 with heap := G, gens := s'.gens, drawn := s'.drawn, toks := s'.toks } :=
    I3.call' rfl un hokG ag fun b hb => ⟨(f3 b hb).1.2.2.2.1, (f3 b hb).1.2.1, (f3 b hb).1.2.2.2.2.1, (f3 b hb).1.2.2.2.2.2⟩
  have osE : s'.os = s3.os := os.trans I5.os
  refine tk _ _ ⟨a, PySem.W.hideAll B [C], _, pins, σ, H6, cls, d, rfl, J, fun b o e hb => ?_, Heap.UpToSlots.of_keeps fun b o e => (og b o e).1, .inr (.inr (by rw [hst]; exact held9)), na, osE, ag, hE⟩
  obtain ⟨e1, e2⟩ := og b o e
  rcases e2 with e2 | e2
  · obtain ⟨o2, q⟩ := Option.isSome_iff_exists.mp e2
    have := held9.1 b o2 q
    rw [e1] at this
    cases this
    exact q
  · exact absurd e2 hb
end
/-- the turns of a block, what is in its air noted -/
theorem block_loop {Y : Cx} {tg elt iter : Expr} {ifs : List Expr} {scope : Scope} {pos : Pos} {J : It} {fp : List Addr} {it D : Addr} {tn : Nat → Heap → Prop} {R : Result → Shared → Prop} {σ : L2.St} {vs : List Nat} {g : TG} {tt : TT} {te : TE} {W : Nat → Nat → Hp → Prop} {Qd : Hp → Prop}
    (T : Turn Y.prog Y.w Y.K tg J fp it tn) (calm : Y.calm = true) (hex : Y.ex = fp) (hpn : Y.pn = []) (bad : ∀ u s', Y.xe u s' → notedBy (model Y.prog Y.w) Y.A Y.env (fun e s' => R (.error e) s') u s')
    (good : ∀ s' H', Inv Y [] (wipe σ vs) H' s' → Qd H' → R (.ok .next) s') (pg : PG Y tg g) (pt : PTs Y ifs tt) (pe : PE Y elt te)
    (turn : ∀ i m H, W i m H → (J.stop i H ∧ Qd H) ∨ (J.go i H ∧ ∃ Nx : Hp → Prop, (∀ H', Nx H' → ∃ m', m' < m ∧ W (i + 1) m' H') ∧ ∀ x H', J.yld i H x H' → g x (wipe σ vs) H' fun σ2 H2 => wipe σ2 vs = wipe σ vs ∧ tt σ2 H2 fun b H3 =>
      if b = true then te σ2 H3 fun y H4 => ∃ acc, H4 D = some (.lst acc) ∧ acc.length < sizeLine ∧ Nx (upd H4 D (.lst (acc ++ [y]))) else Nx H3))
    {m0 : Nat} {H0 : Hp} {s0 : Shared} (w0 : W 0 m0 H0) (I0 : Inv Y [] (wipe σ vs) H0 s0) (t0 : tn 0 s0.heap) (n0 : ∀ b ∈ fp, H0 b = none) :
    codeAny (model Y.prog Y.w) Y.A (.compLoop (.ListComp elt [⟨tg, iter, ifs, 0⟩] scope pos) 0 (.ref it) (.ref D) Y.env) R s0 := by
  subst hex
  have fpo : ∀ {τ : L2.St} {H' : Hp} {s' : Shared}, Inv Y [] τ H' s' → (∀ b ∈ Y.ex, H' b = none) → ∀ b ∈ Y.ex, FpOk Y [] H' b := fun I' n b hb =>
    ⟨n b hb, (I'.ok.exf b hb).1, I'.ok.exfs b hb, .inl hb, (I'.ok.exf b hb).2, fun p hp => by rw [hpn] at hp; simp at hp⟩
  let Wd : Nat → Shared → Prop := fun m s' => ∃ i H', W i m H' ∧ Inv Y [] (wipe σ vs) H' s' ∧ tn i s'.heap ∧ ∀ b ∈ Y.ex, H' b = none
  refine compLoop_any Wd (fun m s1 h1 => ?_) m0 ⟨0, H0, w0, I0, t0, n0⟩
  obtain ⟨i, H1, w1, I1, t1, n1⟩ := h1
  obtain ⟨st, q⟩ | ⟨go, Nx, hNx, body⟩ := turn i m H1 w1
  · refine wpAny_mono (T.done Y rfl rfl rfl calm i [] s1 _ H1 (fun _ _ => False) I1 (fpo I1 n1) t1 st) (fun r s2 h => ?_) fun _ _ z => z.elim
    obtain ⟨rfl, I2⟩ := h
    exact good s2 H1 I2 q
  · refine wpAny_mono (T.item Y rfl rfl rfl calm i [] s1 _ H1 (fun _ _ => False) I1 (fpo I1 n1) t1 go) (fun r s2 h => ?_) fun _ _ z => z.elim
    obtain ⟨u, rfl, h⟩ := h
    refine wpAny_mono h (fun _ s3 h => ?_) fun _ _ z => z.elim
    obtain ⟨x, H3, I3, rx, y3, t3, n3⟩ := h
    have pinned := I3.pinned (fpo I3 n3) (T.obj _ _ t3)
    -- behind the turn
    have next : ∀ {s' : Shared} {τ : L2.St} {H' : Hp}, wipe τ vs = wipe σ vs → Inv Y ([] ++ pinsAt Y.ex s3.heap) τ H' s' → Nx H' → ∃ k, k < m ∧ Wd k s' := fun {s' τ H'} hw I' nx => by
      obtain ⟨k, lt, w⟩ := hNx H' nx
      have at_ : ∀ b ∈ Y.ex, ∀ o, s3.heap.get? b = some o → s'.heap.get? b = some o ∧ H' b = none := fun b hb o e => by
        have := I'.pin (b, o) (List.mem_append_right _ (List.mem_append_right _ (mem_pinsAt hb e)))
        exact ⟨this.1, this.2.1⟩
      refine ⟨k, lt, i + 1, H', w, I'.unpinned.weak (by rw [← hw, wipe_length]) (fun j v e => ?_), T.keep _ _ _ t3 (fun b hb o e => (at_ b hb o e).1), fun b hb => ?_⟩
      · rw [← hw] at e
        exact (wipe_some e).1
      · obtain ⟨o, e, _⟩ := T.obj _ _ t3 b hb
        exact (at_ b hb o e).2
    refine wpAny_mono (pg.run _ s3 _ H3 x u _ pinned rx (body x H3 y3)) (fun _ s4 h => ?_) bad
    obtain ⟨σ4, H4, I4, hw, h⟩ := h
    refine wpAny_mono (pt.run _ s4 σ4 H4 _ I4 h) (fun b s5 h => ?_) bad
    obtain ⟨H5, I5, h⟩ := h
    cases b with
    | true =>
      rw [if_pos rfl] at h ⊢
      refine wpAny_mono (pe.run _ s5 σ4 H5 _ I5 h) (fun z s6 h => ?_) bad
      obtain ⟨y, H6, I6, r6, acc, hD, hz, nx⟩ := h
      exact app_ok I6 hD hz r6 fun s7 I7 => next hw I7 nx
    | false =>
      rw [if_neg Bool.false_ne_true] at h ⊢
      exact next hw I5 h
section
variable {X : Cx}
/-- a comprehension whose item may raise -/
theorem lcE_core {pins : List (Addr × Obj)} {s : Shared} {σ : L2.St} {H : Hp} {Q : VK} {elt tg iter : Expr} {ifs : List Expr} {scope : Scope} {own : List (Str × Nat)} {pos pos' : Pos} {wi : TI} {g : TG} {tt : TT} {te : TE} {use : Option (Value → Sem Unit)} {Qf : Value → Shared → Prop} {E : XK}
    (calm : X.calm = true) (nd : X.N.Nodup) (hst : X.stack = X.env :: X.outer) (hfr : X.env.frame = some X.env.locals) (tk : Takes X (fun cls d _ H => E cls d H)) (I : Inv X pins σ H s) (hi : PI X tg iter wi) (ok : BlkOk X.N X.env.scope scope own)
    (hg : ∀ s H C cl fp, PG (bxe X s H scope (compEnvC scope cl C X.env) fp E) tg g) (ht : ∀ s H C cl fp, PTs (bxe X s H scope (compEnvC scope cl C X.env) fp E) ifs tt) (he : ∀ s H C cl fp, PE (bxe X s H scope (compEnvC scope cl C X.env) fp E) elt te)
    (hsw : ∀ x, foldedSetIterable iter X.env x = pure x) (h : tLc wi g tt te (own.map (·.2)) σ H Q)
    (fin : ∀ D C s' m H' (ce : Env), ce.locals = C → Inv X pins σ H' s' → Q (.ref D) H' → s'.heap.Ns C m → FpOk X pins H' C → compEnds (model X.prog X.w) X.A X.xe use Qf (.ref D) ce (.ok .next) s') :
    wpAny (model X.prog X.w) X.A (comprehension (.ListComp elt [⟨tg, iter, ifs, 0⟩] scope pos) scope X.env pos' (newList []) false (eval iter X.env) use) Qf X.xe s := by
  refine comprehension_at (use := use) rfl hsw (closure_ok fun y hy e => I.ok.has _ (ok.free y hy e)) ok.kind (fun y hy e => (ok.uniq y hy).trans (congrArg some e)) ?_
  refine wpAny_mono (hi.run pins s σ H _ I h) (fun xv s1 h1 => wpAny_mono h1 (fun itv s2 h2 => ?_) fun _ _ z => z) fun _ _ z => z
  obtain ⟨it, fp, tn, J, H2, rfl, I2, T, t2, f2, q⟩ := h2
  refine wpAny_newObj_type (newEnv_comp ?_) (Nat.zero_le _)
  obtain ⟨D, eD⟩ : ∃ D, s2.heap.objs.size = D := ⟨_, rfl⟩
  obtain ⟨s3, e3⟩ : ∃ s3 : Shared, ({ s2 with heap := s2.heap.push { cls := .type "list", data := .seq ([] : List Value).toArray } } : Shared) = s3 := ⟨_, rfl⟩
  have p3 : s3.heap = s2.heap.push { cls := .type "list", data := .seq ([] : List Value).toArray } := by rw [← e3]
  obtain ⟨W, ⟨m0, w0⟩, turn⟩ := q D (I2.hok.fresh (Nat.le_of_eq eD))
  have I3 : Inv X pins σ (upd H2 D (.lst [])) s3 := by
    rw [← e3]
    refine I2.laid (t' := s2.toks) (fun _ _ e => Heap.get?_push_of_some _ e) (Nat.le_of_eq eD) ⟨Nat.zero_le _, [], 0, .nil, ?_⟩
    rw [← eD]
    exact Heap.get?_push_size _ rfl
  have lt : ∀ b ∈ fp, b < s2.heap.objs.size := fun b hb => by
    obtain ⟨o, e, _⟩ := T.obj 0 _ t2 b hb
    exact Heap.lt_size e
  have f3 : ∀ b ∈ fp, FpOk X pins (upd H2 D (.lst [])) b ∧ b < s3.heap.objs.size := fun b hb => by
    refine ⟨⟨?_, (f2 b hb).2⟩, by rw [p3, Heap.size_push]; exact Nat.lt_succ_of_lt (lt b hb)⟩
    rw [upd_ne (by rw [← eD]; exact Nat.ne_of_lt (lt b hb))]
    exact (f2 b hb).1
  obtain ⟨H3, eH⟩ : ∃ H3, upd H2 D (.lst []) = H3 := ⟨_, rfl⟩
  rw [eH] at I3 f3 w0
  have Ib := block_start I3 ok nd f3
  obtain ⟨C, eC⟩ : ∃ C, s3.heap.objs.size = C := ⟨_, rfl⟩
  obtain ⟨ce, ec⟩ : ∃ ce, compEnvC scope (cellsFrom (C + 1) scope.names (cloFrom X.env.cells scope.names [])) C X.env = ce := ⟨_, rfl⟩
  obtain ⟨s4, e4⟩ : ∃ s4 : Shared, ({ s3 with heap := pushCells (s3.heap.push { cls := .type "dict", data := .dict #[] }) scope.names } : Shared) = s4 := ⟨_, rfl⟩
  have loc : ce.locals = C := by rw [← ec]; rfl
  have frm : ce.frame = X.env.frame := by rw [← ec]; rfl
  rw [eC, ec, e4] at Ib
  have t4 : tn 0 s4.heap := by
    refine T.keep 0 _ _ t2 fun b _ o e => ?_
    rw [← e4]
    refine pushCells_keeps _ _ _ _ (Heap.get?_push_of_some _ ?_)
    rw [p3]
    exact Heap.get?_push_of_some _ e
  have loop : codeAny (model X.prog X.w) X.A (.compLoop (.ListComp elt [⟨tg, iter, ifs, 0⟩] scope pos) 0 (.ref it) (.ref D) ce) (compEnds (model X.prog X.w) X.A X.xe use Qf (.ref D) ce) s4 := by
    refine block_loop (Y := bxe X s3 H3 scope ce fp E) (Qd := fun H' => Q (.ref D) H') T calm rfl rfl (fun u s' x => ?_) (fun s' H' I' qq => ?_) (by rw [← ec]; exact hg _ _ _ _ _) (by rw [← ec]; exact ht _ _ _ _ _) (by rw [← ec]; exact he _ _ _ _ _) turn w0 (invXe Ib) t4 fun b hb => (f3 b hb).1.1
    · exact block_out hst hfr tk I3 (Nat.le_of_eq eC) f3 loc frm x
    · have back : Inv X pins σ H' s' := I3.call' (ch := fp) I'.os I'.base I'.hok I'.bare fun b hb => ⟨(f3 b hb).1.2.2.2.1, (f3 b hb).1.2.1, (f3 b hb).1.2.2.2.2.1, (f3 b hb).1.2.2.2.2.2⟩
      obtain ⟨m, hn, _⟩ := I'.loc
      have hn : s'.heap.Ns ce.locals m := hn
      have nC : H' ce.locals = none := I'.free
      rw [loc] at hn nC
      exact fin D C s' m H' ce loc back qq hn (I3.fpOk (Nat.le_of_eq eC) nC)
  have start := codeAny_compStart_list loop (T.self X.A 0 _ _ _ t4 loop)
  rw [← e4, ← ec, ← eC, ← e3, ← eD] at start
  exact start
/-- [e for x in xs], e may raise -/
theorem pe_lcE {elt tg iter : Expr} {ifs : List Expr} {scope : Scope} {own : List (Str × Nat)} {pos : Pos} {wi : TI} {g : TG} {tt : TT} {te : TE} {E : XK} (calm : X.calm = true) (hst : X.stack = X.env :: X.outer) (hfr : X.env.frame = some X.env.locals) (tk : Takes X (fun cls d _ H => E cls d H)) (nd : X.N.Nodup)
    (hi : PI X tg iter wi) (ok : BlkOk X.N X.env.scope scope own) (hg : ∀ s H C cl fp, PG (bxe X s H scope (compEnvC scope cl C X.env) fp E) tg g) (ht : ∀ s H C cl fp, PTs (bxe X s H scope (compEnvC scope cl C X.env) fp E) ifs tt)
    (he : ∀ s H C cl fp, (∀ σ, PassesAt (L2.CX X.prog X.w) (bxe X s H scope (compEnvC scope cl C X.env) fp E) σ E) → PE (bxe X s H scope (compEnvC scope cl C X.env) fp E) elt te) (hsw : ∀ x, foldedSetIterable iter X.env x = pure x := by intro _; rfl) :
    PE X (.ListComp elt [⟨tg, iter, ifs, 0⟩] scope pos) (tLc wi g tt te (own.map (·.2))) := by
  constructor
  intro pins s σ H Q I h
  rw [eval_ListComp]
  refine lcE_core (E := E) calm nd hst hfr tk I hi ok hg ht (fun s H C cl fp => he s H C cl fp fun σ => bxe_pass σ) hsw h fun D C s' m H' ce lc J q ns fo => ?_
  refine ⟨m, by rw [lc]; exact ns, fun h'' sb => ?_⟩
  rw [lc] at sb
  exact ⟨.ref D, H', J.turned (t' := s'.toks) (fun b o hb e => (sb.2 b hb).trans e) fo.1 fo.2.1 fo.2.2.2.1 fo.2.2.2.2.1 fo.2.2.2.2.2, rfl, q⟩
/-- y = [e for x in xs] on one line -/
theorem ps_setLcE {i : Nat} {y : Str} {py : Pos} {elt tg iter : Expr} {ifs : List Expr} {scope : Scope} {own : List (Str × Nat)} {pos spos : Pos} {wi : TI} {g : TG} {tt : TT} {te : TE} {E : XK} (calm : X.calm = true) (hst : X.stack = X.env :: X.outer) (hfr : X.env.frame = some X.env.locals) (tk : Takes X (fun cls d _ H => E cls d H)) (nd : X.N.Nodup)
    (hy : X.N[i]? = some y) (hyl : X.env.scope.names.lookup y = some .local) (swp : swapsWith (.ListComp elt [⟨tg, iter, ifs, 0⟩] scope pos) (some (.Name y py)) spos.line X.env = pure true)
    (hi : PI X tg iter wi) (ok : BlkOk X.N X.env.scope scope own) (hg : ∀ s H C cl fp, PG (bxe X s H scope (compEnvC scope cl C X.env) fp E) tg g) (ht : ∀ s H C cl fp, PTs (bxe X s H scope (compEnvC scope cl C X.env) fp E) ifs tt)
    (he : ∀ s H C cl fp, (∀ σ, PassesAt (L2.CX X.prog X.w) (bxe X s H scope (compEnvC scope cl C X.env) fp E) σ E) → PE (bxe X s H scope (compEnvC scope cl C X.env) fp E) elt te) (hsw : ∀ x, foldedSetIterable iter X.env x = pure x := by intro _; rfl) :
    PS X (.Assign [.Name y py] (.ListComp elt [⟨tg, iter, ifs, 0⟩] scope pos) spos) (tAsg (tLc wi g tt te (own.map (·.2))) (gName i)) := by
  constructor
  intro pins s σ H D I h
  rw [exec_Assign_Name_used _ _ _ _ swp]
  have core := lcE_core (pos := pos) (pos' := firstIterPos [⟨tg, iter, ifs, 0⟩] pos) (use := some (assign (.Name y py) X.env)) (Qf := fun _ s' => SP X pins D .next s') (E := E) calm nd hst hfr tk I hi ok hg ht (fun s H C cl fp => he s H C cl fp fun σ => bxe_pass σ) hsw (Q := fun x H1 => gName i x σ H1 D.nx) h fun L C s' m H' ce lc J q ns fo => by
    show wpAny _ _ (assign (.Name y py) X.env (.ref L)) _ _ _
    refine wpAny_assign_Name (store_ok2 (v := V.ref L) J nd hy (.inl hyl) rfl (fun s2 J2 z => ?_) (.inr hyl))
    obtain ⟨a, sb, at_⟩ := z
    have ne : C ≠ a := fun w => by
      rcases at_ with u | u
      · exact fo.2.1 (w.trans u)
      · exact fo.2.2.2.2.1 y a u w.symm
    refine ⟨m, by rw [lc]; exact ns.sameBut sb ne, fun h3 sb3 => ?_⟩
    rw [lc] at sb3
    exact ⟨_, _, J2.turned (t' := s2.toks) (fun b o hb e => (sb3.2 b hb).trans e) fo.1 fo.2.1 fo.2.2.2.1 fo.2.2.2.2.1 fo.2.2.2.2.2, q⟩
  exact wpAny_bind (wpAny_standAt (wpAny_bind (wpAny_bind (wpAny_mono core (fun _ s' z => wpAny_pure (wpAny_pure z)) fun _ _ z => z))))
end
/-! ### what such a comprehension tells -/
def mapGo {α β : Type} (f : α → R β) : List α → R (List β)
  | [] => .ok []
  | x :: l => R.bd (f x) fun y => R.bd (mapGo f l) fun ys => .ok (y :: ys)
/-- [f x for x in xs], f may raise -/
noncomputable def mapE {α β : Type} (xs : List α) (f : α → R β) : R (List β) := gd (xs.length ≤ lim) (mapGo f xs)
section
variable {K : PySem.W.Frag} {E : XK} {σ : L2.St} {H0 F H F' H' : Hp} {α β γ : Type} [Rp α] [Rp β] [Rp γ] {D : Ends}
theorem g_mapG {Fr : Hp} {wi : TI} {g : TG} {te : TE} {vs : List Nat} {m : R (List α)} {f : α → R β} (hres : ∀ H3 Dl acc ys, All2 (Rp.rep K (delH (mix F H H3) Dl)) acc (ys : List β) → All2 (Rp.rep K (mix Fr H H3)) acc ys) (hi : GrI K E wi σ F H m) (hF : Same F H)
    (hel : ∀ x v F2 H2, Same F F2 → Same F2 H2 → Same H H2 → Rp.rep K F2 v x → ∃ σ2, (∀ Q : L2.St → Hp → Prop, Q σ2 H2 → g v (wipe σ vs) H2 Q) ∧ wipe σ2 vs = wipe σ vs ∧ Gr K E te σ2 F2 H2 (f x)) :
    Gr K E (tLc wi g tYes te vs) σ Fr H (R.bd m fun xs => mapE xs f) := fun H1 e Q hq =>
  hi H1 e _ (by
    rw [wp_bd] at hq
    refine wp_mono hq (fun xs _ k J H2 e2 ok => ?_) fun _ _ z => z
    unfold mapE gd at k
    split at k
    · rename_i cl
      intro Dl hD
      have hnD : H Dl = none := Same.free (e.trans e2) hD
      refine ⟨fun i m H' => m = xs.length - i ∧ i ≤ xs.length ∧ Same H2 H' ∧ ∃ acc ys, H' Dl = some (.lst acc) ∧ acc.length ≤ i ∧ All2 (Rp.rep K (delH (mix F H H') Dl)) acc ys ∧
        Wp (mapGo f (xs.drop i)) (fun zs => ∀ H3, Same H1 H3 → H3 Dl = H3 Dl → ∀ v, Rp.rep K (mix Fr H H3) v (ys ++ zs) → Q v H3) (EE K E H1), ⟨_, rfl, Nat.zero_le _, same_upd hD, [], [], upd_same, Nat.le_refl _, .nil, ?_⟩, ?_⟩
      · rw [List.drop_zero]
        exact wp_mono k (fun zs _ q H3 e3 _ v r => q v H3 e3 r) fun c _ z => z
      · rintro i m H' ⟨rfl, hi', sH, acc, ys, hacc, hal, hall, hw⟩
        have hG : Same (mix F H H2) H' := (mix_same hF (e.trans e2)).trans sH
        by_cases ci : i < xs.length
        · refine .inr ⟨ok.go i H' hG ci, _, fun H3 h3 => ⟨xs.length - (i + 1), by omega, h3⟩, fun v H'' y => ?_⟩
          obtain ⟨e1, a, ha, r⟩ := ok.yld i H' v H'' hG ci y
          have hacc2 := e1 _ _ hacc
          have eH : Same H H'' := (e.trans e2).trans (sH.trans e1)
          have e1H : Same H1 H'' := e2.trans (sH.trans e1)
          obtain ⟨σ2, hg, hwp, ge⟩ := hel a v (delH (mix F H H'') Dl) H'' (cmp_f (H2 := H2) hF hnD eH) (del_le.trans (mix_same hF eH)) eH (Rp.mono (cmp_it hnD hD ⟨_, hacc⟩ (e.trans e2) sH e1) r)
          refine hg _ ⟨hwp, ?_⟩
          rw [drop_get ha] at hw
          unfold mapGo at hw
          rw [wp_bd] at hw
          show te σ2 H'' _
          refine ge H'' (Same.refl _) _ (wp_mono hw (fun y _ q3 w H4 e4 rw4 => ?_) fun c _ z => z.mono e1H)
          have hacc4 := e4 _ _ hacc2
          have al' : All2 (Rp.rep K (delH (mix F H H'') Dl)) acc ys := hall.mono fun _ _ x => Rp.mono (cmp_go e1) x
          refine ⟨acc, hacc4, lim_line' (by omega), rfl, ci, ?_, acc ++ [w], ys ++ [y], upd_same, by rw [List.length_append]; simp; omega, ?_, ?_⟩
          · exact fun x o h => by
              have ne : x ≠ Dl := fun z => by rw [z, hD] at h; cases h
              rw [upd_ne ne]
              exact e4 _ _ (e1 _ _ (sH _ _ h))
          · refine All2.append (al'.mono fun _ _ x => Rp.mono ((cmp_go e4).trans (cmp_up hnD)) x) (.cons (Rp.mono (cmp_el hnD ⟨_, hacc2⟩ eH e4) rw4) .nil)
          · rw [wp_bd] at q3
            refine wp_mono q3 (fun zs _ q4 H5 e5 _ v5 r5 => ?_) fun _ _ z => z
            refine q4 H5 e5 rfl v5 ?_
            rw [List.append_assoc] at r5
            exact r5
        · have ei : i = xs.length := by omega
          refine .inl ⟨ok.stop i H' hG ei, ?_⟩
          rw [ei, List.drop_length] at hw
          have hw2 : ∀ H3, Same H1 H3 → H3 Dl = H3 Dl → ∀ v, Rp.rep K (mix Fr H H3) v (ys ++ []) → Q v H3 := hw
          refine hw2 H' (e2.trans sH) rfl _ ?_
          rw [List.append_nil]
          exact ⟨Dl, acc, rfl, by rw [mix_new hnD]; exact hacc, hres _ _ _ _ hall⟩
    · exact k.elim)
theorem g_map {wi : TI} {g : TG} {te : TE} {vs : List Nat} {m : R (List α)} {f : α → R β} (hi : GrI K E wi σ F H m) (hF : Same F H)
    (hel : ∀ x v F2 H2, Same F F2 → Same F2 H2 → Same H H2 → Rp.rep K F2 v x → ∃ σ2, (∀ Q : L2.St → Hp → Prop, Q σ2 H2 → g v (wipe σ vs) H2 Q) ∧ wipe σ2 vs = wipe σ vs ∧ Gr K E te σ2 F2 H2 (f x)) :
    Gr K E (tLc wi g tYes te vs) σ F H (R.bd m fun xs => mapE xs f) := g_mapG (fun _ _ _ _ h => h.mono fun _ _ x => Rp.mono del_le x) hi hF hel
/-- .. that tells ints (bools, texts), over anything -/
theorem g_mapS [Sc β] {wi : TI} {g : TG} {te : TE} {vs : List Nat} {m : R (List α)} {f : α → R β} (hi : GrI K E wi σ H H m)
    (hel : ∀ x v F2 H2, Same H F2 → Same F2 H2 → Same H H2 → Rp.rep K F2 v x → ∃ σ2, (∀ Q : L2.St → Hp → Prop, Q σ2 H2 → g v (wipe σ vs) H2 Q) ∧ wipe σ2 vs = wipe σ vs ∧ Gr K E te σ2 F2 H2 (f x)) :
    Gr K E (tLc wi g tYes te vs) σ F H (R.bd m fun xs => mapE xs f) := g_mapG (fun _ _ _ _ h => h.mono fun _ _ x => Sc.is.mpr (Sc.is.mp x)) hi (Same.refl _) hel
end
end G

set_option Elab.async false
set_option linter.all false
set_option maxRecDepth 100000
set_option maxHeartbeats 4000000
/-! G: called() in an except suite; try .. except .. else; a tuple in front of a tuple. -/
namespace G
open PySem PySem.Spec PyProof.Rows L2 HandSPX
/-! ### a def that raises nothing, wherever it is called -/
structure FnC (P : Program) (w : World) (K : PySem.W.Frag) (mg : Str → Option Value) (base : Heap) (cx : CXT) (f : Addr) (fd : FuncData) (ps : List Str) (sp : Sp) : Prop where
  len : ∀ vs H Q E, sp vs H Q E → vs.length = ps.length
  run : ∀ (A : Around) (outer : List Env) (s : Shared) (H : Hp) (args : Args) (us : List Value) (vs : List V) (Q : VK) (E : XK), A.depth < recursionLimit → Env0 P w K mg base A outer s H → BindsTo s fd args (ps.zip us) → Vals vs us → sp vs H Q E →
    codeAny (model P w) A (.call (.ref f) args) (CR cx outer P w H s Q E) s
/-- the context of its body: whether an exception is handled is not asked -/
abbrev cxC (cx : CXT) (P : Program) (w : World) (K : PySem.W.Frag) (mg : Str → Option Value) (base : Heap) (N : List Str) (qual : Str) (scope : Scope) (f : Addr) (cd : Value) (A : Around) (outer : List Env) (s : Shared) (H : Hp) (E : XK) : Cx :=
  { cxOf cx P w K mg base N qual scope f cd A outer s H E with calm := false }
section
variable {cx : CXT} {P : Program} {w : World} {K : PySem.W.Frag} {mg : Str → Option Value} {base : Heap} {N ps : List Str} {qual : Str} {scope : Scope} {f : Addr} {cd : Value} {A : Around} {outer : List Env} {s s1 : Shared} {H : Hp} {E : XK}
theorem inv_any {σ : L2.St} (e0 : Env0 P w K mg base A outer s H) (I : Inv (cxOf cx P w K mg base N qual scope f cd { A with handled := none } outer s H E) [] σ H s1) : Inv (cxC cx P w K mg base N qual scope f cd A outer s H E) [] σ H s1 :=
  ⟨⟨I.ok.mod, I.ok.kind, I.ok.glob, I.ok.blt, I.ok.above, I.ok.inj, I.ok.has, I.ok.cab, fun z => Bool.noConfusion (show false = true from z), Around.frames_deeper e0.frames, I.ok.stk, I.ok.exf, I.ok.bs, I.ok.bsz, I.ok.noex, I.ok.exfs, I.ok.funs, I.ok.frf⟩,
    I.os, I.bare, I.base, I.loc, I.cell, I.free, I.freeC, I.pin, I.hok, I.len⟩
theorem fn_any {x : Str} {params : Arguments} {body : List Stmt} {dvs : List V} {kws : List (Str × V)} {fd : FuncData} {sp : Sp} (F : FunD K x qual params body scope dvs kws f fd) (S : FnScope N ps scope) (len : ∀ vs H Q E, sp vs H Q E → vs.length = ps.length)
    (hb : ∀ cd A outer s H vs Q E, sp vs H Q E → ∃ t, PSs (cxC cx P w K mg base N qual scope f cd A outer s H E) body t ∧ t { nx := fun _ H' => Q .non H', rt := Q } (L2.start N vs) H) : FnC P w K mg base cx f fd ps sp := by
  obtain ⟨oc, od, dV, kV, doc, pm, an, cdv, ct, osl, rfl, lk, code, _, _⟩ := F.ex
  constructor
  · exact len
  intro A outer s H args us vs Q E dp e0 bt r call
  have kin : K.In s.heap := e0.mod.kin.keeps fun b o e => (e0.bs b o e).1
  have nolim : s.heap.NoLimit := e0.mod.nolimit.keeps fun b o e => (e0.bs b o e).1
  refine codeAny_call_function dp (kin _ _ lk) rfl S.co S.gen rfl (PySem.W.codeRec_of kin code) (bt _ _ _ _ ?_)
  refine wpAny_newFunctionEnv_cells S.kind (fun y hy => (S.par y.1 (List.of_mem_zip hy).1).imp id fun q => ⟨q, PySem.W.cellsFrom_some _ _ _ (.inl q)⟩) fun env he s1 x => ?_
  subst he
  refine ⟨nolim.keeps x.toInCall.keep, codeAny_func ?_⟩
  obtain ⟨t, ht, go⟩ := hb cdv A outer s H vs Q E call
  have e1 : Env0 P w K mg base { A with handled := none } outer s H := ⟨e0.frames, e0.mod, e0.bs, e0.bsz, e0.funs, e0.frf, e0.hok, e0.bare⟩
  have I := inv_any e0 (inv_start (CX := cx) (E := E) S rfl e1 (len _ _ _ _ call) r x)
  have told : ∀ {σ' : L2.St} {H' : Hp} {v : V} {u : Value} {s' : Shared}, Inv (cxC cx P w K mg base N qual scope f cdv A outer s H E) [] σ' H' s' → RelV v u → Q v H' → CE outer P w H s Q u s' :=
    fun J rv q => ⟨_, _, J.os, J.bare, J.base, J.hok, rv, q⟩
  refine wpAny_mono (ht.run [] s1 (L2.start N vs) H _ I go) (fun fl s' h => ?_) fun _ _ h => h
  cases fl with
  | next =>
    obtain ⟨_, _, J, q⟩ := h
    exact told (v := V.non) (u := Value.none) J rfl q
  | ret u =>
    obtain ⟨_, _, _, J, rv, q⟩ := h
    exact told J rv q
  | brk =>
    obtain ⟨_, _, _, q⟩ := h
    exact q.elim
  | cont =>
    obtain ⟨_, _, _, q⟩ := h
    exact q.elim
end
structure MthC (P : Program) (w : World) (K : PySem.W.Frag) (mg : Str → Option Value) (base : Heap) (cx : CXT) (m : Str) (C : Cn → Prop) (sp : Cn → Sp) : Prop where
  hg : ∀ c, C c → PySem.W.findIn K (.ref (He.ga K c.nm)) "__getattribute__" = some (some (.builtin "BaseException.__getattribute__")) ∧ PySem.W.findIn K (.ref (He.ga K c.nm)) "__getattr__" = some none
  fn : ∀ c, C c → ∃ f fd ps, PySem.W.findIn K (.ref (He.ga K c.nm)) m = some (some (.ref f)) ∧ PySem.W.isFn K (.ref f) = true ∧ PySem.W.keepIn K (.ref f) = true ∧ Binds K fd ps [] ∧ FnC P w K mg base cx f fd ps (sp c)
section
variable {X : Cx}
theorem run_any {cx : CXT} {f : Addr} {fd : FuncData} {ps : List Str} {sp : Sp} {E : L2.St → XK} {pins : List (Addr × Obj)} {σ : L2.St} {H : Hp} {s : Shared} {Q : VK} {us : List Value} {vs : List V} (F : FnC X.prog X.w X.K X.mg X.base cx f fd ps sp) (dp : X.A.depth < recursionLimit) (hb : Binds X.K fd ps []) (hx : PassesAt cx X σ (E σ))
    (I : Inv X pins σ H s) (r : Vals vs us) (h : sp vs H Q (E σ)) : wpAny (model X.prog X.w) X.A (call (.ref f) us) (EP X pins σ Q) X.xe s := by
  have b := hb s us I.kIn (by rw [List.append_nil, ← r.length]; exact F.len _ _ _ _ h)
  rw [List.append_nil] at b
  refine wpAny_call (codeAny_mono (F.run X.A X.stack s H ⟨us, []⟩ us vs Q (E σ) dp I.env0 b r h) fun res s' q => ?_)
  match res, q with
  | .error e, q => exact hx pins H s e s' I q
  | .ok (.ret u), q => exact I.after q
  | .ok .next, q => exact False.elim q
  | .ok .brk, q => exact False.elim q
  | .ok .cont, q => exact False.elim q
theorem pe_methC {cx : CXT} {K : PySem.W.Frag} {C : Cn → Prop} {sp : Cn → Sp} {E : L2.St → XK} {m : Str} {o : Expr} {apos pos : Pos} {ta : TE} {pl : Sem Bool} (he : PE X o ta) (M : MthC X.prog X.w K X.mg X.base cx m C sp) (hK : X.K = K) (dp : X.A.depth < recursionLimit) (hx : ∀ σ, PassesAt cx X σ (E σ))
    (ht : eval (.Call (.Attribute o m apos) [] [] pos) X.env = (do
      let ov ← eval o X.env
      standAt apos.atName
      let (f, first) ← holding [ov] (getMethod ov m pl)
      callWith pos f first (backTo pos (starEach [] X.env)) (backToKw pos (keywordEach [] X.env))) := by rfl) :
    PE X (.Call (.Attribute o m apos) [] [] pos) (tMethX K m C sp E ta) := by
  subst hK
  refine ⟨fun pins s σ H Q I h => ?_⟩
  refine PySem.W.methodCall_KW (pl := pl) (thn (he.run pins s σ H _ I h) fun u s1 ⟨x, H1, I1, rx, a, c, ex, ea, hC, q⟩ => ?_) ht
  subst ex
  obtain rfl : u = Value.ref a := rx
  obtain ⟨h1, h2⟩ := M.hg c hC
  obtain ⟨f, fd, ps, h3, h4, h5, h6, F⟩ := M.fn c hC
  obtain ⟨m', fr⟩ := I1.fr
  have key : ∃ oe od, PySem.W.InstAt s1.heap a oe (He.ga X.K c.nm) od ∧ PySem.W.shadowIn od m = some false := by
    rcases ea with ea | ⟨dd, fs, ea, ed, el⟩
    · obtain ⟨oe, J⟩ := inst_of I1 ea
      exact ⟨oe, none, J, rfl⟩
    · obtain ⟨oe, od, mA, J, hl, hr⟩ := inst_ofD I1 ea ed
      refine ⟨oe, some od, J, ?_⟩
      show (PySem.W.lookIn m od).map _ = _
      rw [hl m]
      have r := hr m
      rw [el] at r
      cases e : mA m with
      | none => rfl
      | some u => rw [e] at r; exact r.elim
  obtain ⟨oe, od, J, hsh⟩ := key
  refine PySem.W.method_exc fr I1.ok.mod.kin J h1 h2 h3 h4 hsh ?_
  exact PySem.W.callWith_K0 (first := [.ref a]) I1.kIn h5 (run_any (us := [.ref a]) (vs := [.ref a]) F dp h6 (hx σ) I1 (.cons rfl .nil) q)
/-! ### try .. except X as n .. else -/
variable {x n : Str} {c : Value} {i : Nat} {body suite orelse : List Stmt} {b₀ : Stmt} {np pos pos' : Pos} {tb : WX → TS} {ts u : TS}
def tTryE (K : PySem.W.Frag) (c : Value) (i : Nat) (tb : WX → TS) (ts u : TS) : TS := fun D σ H => tb (wHold K c i ts D) { D with nx := u D } σ H
theorem ps_try_holdE (hs : X.stack = X.env :: X.outer) (hf : X.env.frame = some X.env.locals) (hex : X.ex = []) (hN : X.N.Nodup) (hi : X.N[i]? = some n) (hln : X.env.kindOf n = some .local) (hc : Names X x c)
    (hb : ∀ (W : WX) (pn : List (Addr × Obj)) (xe : Value → Shared → Prop), Takes (X.tr pn xe) W → PassesOwn (model X.prog X.w) X.A X.env xe → PSs (X.tr pn xe) body (tb W))
    (hsu : ∀ (a : Addr) (pn : List (Addr × Obj)), PSs (X.suite a pn) (b₀ :: suite) ts) (ho : PSs X orelse u) :
    PS X (.Try body [.ExceptHandler (some (.Name x np)) (some n) (b₀ :: suite) pos'] orelse [] pos) (tTryE X.K c i tb ts u) := by
  refine ⟨fun pins s σ H D I h => ?_⟩
  have ok := I.ok
  have hfr : X.A.frames = some (X.env :: X.outer) := by rw [ok.frames, hs]
  have hloc : Loc X.env.scope n := .inl hln
  refine wpAny_Try_except ?_
  refine wpAny_mono ((hb (wHold X.K c i ts D) (X.pn ++ pins) (fun e s₁ => wpAny (model X.prog X.w) X.A (noteFrame e X.env) (fun _ s₂ => wpAny (model X.prog X.w) X.A (setFlight e none) (fun _ s₃ =>
    wpAny (model X.prog X.w) X.A (handleBy e X.env [.ExceptHandler (some (.Name x np)) (some n) (b₀ :: suite) pos']) (SP X pins D) X.xe s₃) X.xe s₂) X.xe s₁) (fun u s' xx => ?_) PassesOwn.looking).run [] s σ H { D with nx := u D } (I.toTry _) h) (fun f s1 hsp => ?_) (fun e s1 he => he)
  · obtain ⟨a, B, sI, pins', σ', H', cls, d, rfl, J', nb, up, sky, na, os, ag, C, hC, hb1, hyes⟩ := xx
    subst hC
    have J : Inv X pins σ' H' sI := J'.ofTry ok
    have sky' : Sky B (X.env :: X.outer) a (Zc (.ref C) d) X.env.locals s'.heap := by rw [← hs]; exact sky
    show wpAny (model X.prog X.w) X.A (noteFrame (.ref a) X.env) _ _ _
    refine Sky.land Zc.steady hfr hf sky' fun h3 fl3 up3 => ?_
    have J3 : Inv X pins σ' H' { s' with heap := h3 } := J.landed nb fl3.1 (up.trans up3) os ag
    obtain ⟨oe3, vs3, he3, hz3, hd3⟩ := fl3.there
    have notFr : ∀ {h : Heap} {o : Obj} {vs : Array Value}, h.FunFrames B (X.env :: X.outer) → h.get? a = some o → o.data = .fields vs → a ∉ frs (X.env :: X.outer) := fun {h o vs} ff e dd hm => by
      obtain ⟨_, o', e', hnf⟩ := ff.mem hm
      rw [e] at e'; cases e'
      exact hnf _ dd
    have nfr := notFr fl3.2.2.1 he3 hd3
    have nL : a ≠ X.env.locals := fun z => nfr (List.mem_filterMap.mpr ⟨X.env, List.mem_cons_self, by rw [hf, z]⟩)
    have nF : a ∉ X.fs := fun hm => by
      obtain ⟨e, he, q⟩ := List.mem_filterMap.mp hm
      exact nfr (List.mem_filterMap.mpr ⟨e, List.mem_cons_of_mem _ he, q⟩)
    have hBa : B.get? a = none := fl3.2.1
    have nS : a ∉ frs X.stack := by rw [hs]; exact nfr
    have hsI : sI.heap.get? a = none := by
      cases e : sI.heap.get? a with
      | none => rfl
      | some o => have := nb a o e nS; rw [hBa] at this; cases this
    have hs0 : X.s_0.heap.get? a = none := by
      cases e : X.s_0.heap.get? a with
      | none => rfl
      | some o =>
        obtain ⟨o', q⟩ := J.base.there a o e (by rw [hex]; simp)
        rw [hsI] at q; cases q
    have S3 := J3.suite he3 hd3 na nL nF
    refine wpAny_handleBy_cons (codeAny_handlers_test ?_) (by intro q; cases q)
    have LT : PySem.W.Looks (model X.prog X.w) h3 (typeOf (.ref a)) (.ref C) := fun A Q E s k q => wpAny_typeOf_ref (k _ _ he3) (by rw [hz3.1]; exact q)
    have LM := PySem.W.exm_one (M := model X.prog X.w) (J3.kIn) LT hb1
    have test : ∀ {Q : Value → Shared → Prop} {E : Value → Shared → Prop}, Q c { s' with heap := h3 } → wpAny (model X.prog X.w) (X.A.mark (some (.ref a))) (eval (.Name x np) X.env) Q E { s' with heap := h3 } := fun {Q E} q => by
      obtain ⟨hg, hdbg, hm | ⟨hm, hv, hnn⟩⟩ := hc
      · exact ld_glob (X := X.suite a ((a, oe3) :: (X.pn ++ pins))) S3 hg hm q hdbg
      · exact ld_blt (X := X.suite a ((a, oe3) :: (X.pn ++ pins))) S3 hg hm hv q hnn hdbg
    refine test (LM.here ?_)
    refine codeAny_handlers_suite_as ?_
    refine HandSPX.lands_againZ fl3 fun h4 fl4 up4 => ?_
    have J4 : Inv X pins σ' H' { s' with heap := h4 } := J.landed nb fl4.1 ((up.trans up3).trans up4) os ag
    obtain ⟨oe4, vs4, he4, hz4, hd4⟩ := fl4.there
    have T4 : Inv X pins σ' (upd H' a (ExH C d a)) { s' with heap := h4 } := inv_track J4 hs0 na nL (fun y k e z => by
      obtain ⟨v, o, ho, hd⟩ := J4.cell y k e
      rw [z] at ho
      have ho' : h4.get? a = some o := ho
      rw [he4] at ho'
      cases ho'
      rw [hd4] at hd
      cases hd) (fun p hp z => by
      obtain ⟨e, _⟩ := J.pin p hp
      rw [z, hsI] at e
      cases e) (exH_ok he4 hz4 hd4)
    have S4 := inv_suite0 T4 a
    refine store_ok (X := X.suite a (X.pn ++ pins)) (v := .ref a) S4 hN hi hloc rfl (fun s5 S5 => ?_) (.inr hln)
    refine wpAny_mono ((hsu a (X.pn ++ pins)).run [] s5 _ _ _ S5 (hyes a na)) (fun f s6 hsp => ?_) (fun _ _ z => False.elim z)
    have end_ : ∀ {σ6 : L2.St} {H6 : Hp} {Q : Shared → Prop}, Inv (X.suite a (X.pn ++ pins)) [] σ6 H6 s6 → (∀ s7, Inv X pins (σ6.set i none) H6 s7 → Q s7) →
        wpAny (model X.prog X.w) X.A (do bindName X.env n .none; unbindBehindTheSuite X.env n pos') (fun _ s7 => Q s7) X.xe s6 := fun {σ6 H6 Q} S6 hq => gone_ok (inv_unsuite0 S6 ok) hN hi hln hq
    cases f with
    | next =>
      obtain ⟨σ6, H6, S6, q6⟩ := hsp
      exact end_ S6 fun s7 J7 => ⟨_, _, J7, q6⟩
    | brk =>
      obtain ⟨σ6, H6, S6, q6⟩ := hsp
      exact end_ S6 fun s7 J7 => ⟨_, _, J7, q6⟩
    | cont =>
      obtain ⟨σ6, H6, S6, q6⟩ := hsp
      exact end_ S6 fun s7 J7 => ⟨_, _, J7, q6⟩
    | ret u =>
      obtain ⟨v6, σ6, H6, S6, r6, q6⟩ := hsp
      exact end_ S6 fun s7 J7 => ⟨_, _, _, J7, r6, q6⟩
  · cases f with
    | next =>
      obtain ⟨σ', H', J', q⟩ := hsp
      exact ho.run pins s1 σ' H' D (J'.ofTry ok) q
    | brk =>
      obtain ⟨σ', H', J', q⟩ := hsp
      exact ⟨σ', H', J'.ofTry ok, q⟩
    | cont =>
      obtain ⟨σ', H', J', q⟩ := hsp
      exact ⟨σ', H', J'.ofTry ok, q⟩
    | ret u =>
      obtain ⟨v, σ', H', J', r, q⟩ := hsp
      exact ⟨v, σ', H', J'.ofTry ok, r, q⟩
end
theorem wp_okE {α β : Type} {a : α} {k : α → R β} {kq : β → Prop} {ee e2 : Er → Prop} (h : Wp (.ok a : R α) (fun a => Wp (k a) kq ee) e2) : Wp (k a) kq ee := h
/-- what try .. except .. else tells -/
def elseR {α β : Type} (cs : List Cn) (m : R α) (hand : Er → R β) (k : α → R β) : R β := match m with
  | .ok a => k a
  | .er e => if e.cn ∈ cs then hand e else .bad
  | .bad => .bad
section
variable {K : PySem.W.Frag} {E : XK} {σ : L2.St} {H0 F H F' H' : Hp} {ta tb te tl to ti : TE} {t : TT} {α β γ δ ρ S : Type} [Rp α] [Rp β] [Rp γ] [Rp δ] [Rp ρ] {D : Ends}
theorem s_tryE {cs : List Cn} {cv : Value} {i : Nat} {ts u : TS} {tb : WX → TS} {α β : Type} {m : R α} {hand : Er → R β} {k : α → R β} {kq : β → Prop} (hF : Same F H) (e0 : Same H0 H) (hQ : Wp (elseR cs m hand k) kq (EE K E H0))
    (hx : ∀ c ∈ cs, PySem.W.exmOne K (.ref (He.ga K c.nm)) cv = some true) (hcf : ∀ c ∈ cs, Cf K c)
    (hh : ∀ er a F' H', Nx0 F H F' H' → Same H0 H' → Rp.rep K F' (.ref a) (er : Er) → Wp (hand er) kq (EE K E H0) →
      ts { nx := fun σ' H' => D.nx (σ'.set i none) H', rt := D.rt, bk := fun σ' H' => D.bk (σ'.set i none) H', ct := fun σ' H' => D.ct (σ'.set i none) H' } (σ.set i (some (.ref a))) H')
    (hb : Wp m (fun a => Wp (k a) kq (EE K E H0)) (EE K (WE (wHold K cv i ts D) σ) H) → tb (wHold K cv i ts D) { D with nx := u D } σ H) : tTryE K cv i tb ts u D σ H := by
  refine hb ?_
  cases m with
  | ok a => exact hQ
  | bad => exact hQ.elim
  | er er =>
    have hQ2 : Wp (if er.cn ∈ cs then hand er else .bad) kq (EE K E H0) := hQ
    split at hQ2
    · rename_i hc
      cases er with
      | own c =>
        intro H' s
        refine ⟨_, rfl, hx _ hc, fun a ha => ?_⟩
        have hn : H a = none := Same.free s ha
        exact hh (.own c) a _ _ (Nx.mk' hF (s.trans (same_upd ha))) (e0.trans (s.trans (same_upd ha))) ⟨a, rfl, hcf _ hc, by show mix F H _ a = _; rw [mix_new hn]; exact upd_same⟩ hQ2
      | plan n =>
        intro d H' s hd ⟨m, hm⟩
        refine ⟨_, rfl, hx _ hc, fun a ha => ?_⟩
        have hn : H a = none := Same.free s ha
        exact hh (.plan n) a _ _ (Nx.mk' hF (s.trans (same_upd ha))) (e0.trans (s.trans (same_upd ha))) ⟨a, rfl, hcf _ hc, d, m, by show mix F H _ a = _; rw [mix_new hn]; exact upd_same, by rw [mix_new hd]; exact same_upd ha _ _ hm⟩ hQ2
    · exact hQ2.elim
/-- the rest stands behind both -/
theorem s_tryD {cs : List Cn} {cv : Value} {i : Nat} {ts : TS} {tb : WX → TS} {α β : Type} {m : R α} {hand : Er → R β} {k : α → R β} {kq : β → Prop} (hF : Same F H) (e0 : Same H0 H) (hQ : Wp (elseR cs m hand k) kq (EE K E H0))
    (hx : ∀ c ∈ cs, PySem.W.exmOne K (.ref (He.ga K c.nm)) cv = some true) (hcf : ∀ c ∈ cs, Cf K c)
    (hh : ∀ er a F' H', Nx0 F H F' H' → Same H0 H' → Rp.rep K F' (.ref a) (er : Er) → Wp (hand er) kq (EE K E H0) →
      ts { nx := fun σ' H' => D.nx (σ'.set i none) H', rt := D.rt, bk := fun σ' H' => D.bk (σ'.set i none) H', ct := fun σ' H' => D.ct (σ'.set i none) H' } (σ.set i (some (.ref a))) H')
    (hb : Wp m (fun a => Wp (k a) kq (EE K E H0)) (EE K (WE (wHold K cv i ts D) σ) H) → tb (wHold K cv i ts D) D σ H) : tTry K cv i tb ts D σ H := by
  refine hb ?_
  cases m with
  | ok a => exact hQ
  | bad => exact hQ.elim
  | er er =>
    have hQ2 : Wp (if er.cn ∈ cs then hand er else .bad) kq (EE K E H0) := hQ
    split at hQ2
    · rename_i hc
      cases er with
      | own c =>
        intro H' s
        refine ⟨_, rfl, hx _ hc, fun a ha => ?_⟩
        have hn : H a = none := Same.free s ha
        exact hh (.own c) a _ _ (Nx.mk' hF (s.trans (same_upd ha))) (e0.trans (s.trans (same_upd ha))) ⟨a, rfl, hcf _ hc, by show mix F H _ a = _; rw [mix_new hn]; exact upd_same⟩ hQ2
      | plan n =>
        intro d H' s hd ⟨m, hm⟩
        refine ⟨_, rfl, hx _ hc, fun a ha => ?_⟩
        have hn : H a = none := Same.free s ha
        exact hh (.plan n) a _ _ (Nx.mk' hF (s.trans (same_upd ha))) (e0.trans (s.trans (same_upd ha))) ⟨a, rfl, hcf _ hc, d, m, by show mix F H _ a = _; rw [mix_new hn]; exact upd_same, by rw [mix_new hd]; exact same_upd ha _ _ hm⟩ hQ2
    · exact hQ2.elim
theorem g_calledC {m : R (Option Er)} {C : Cn → Prop} (h : Gr K E ta σ F H m) (hF : Same F H) (hC : ∀ c, Cf K c → C c) : Gr K E (tMethX K "called" C spCalled (fun _ => EF) ta) σ F H (R.bd m calledR) :=
  g_called (Ex := fun _ => E) h hF hC rfl
/-! ### (e,) + a tuple -/
theorem g_cat2 [DyN β] [DyN γ] {ma : R Str} {mb : R (β × γ)} (ha : Gr K E ta σ F H ma) (hb : Gr K E tb σ F H mb) (hF : Same F H) :
    Gr K E (tOp (rCatT K) (tTup (tCons ta tNil)) tb) σ F H (R.bd ma fun a => R.bd mb fun b => .ok (Dy.tup [.str a, DyN.dy b.1, DyN.dy b.2])) := fun H1 e Q hq =>
  gr_seq ha e hq fun a v H2 e2 r hq2 => by
    have r : v = .str a := r
    subst r
    refine ⟨by show 1 ≤ sizeLine; decide, fun p hp => ?_⟩
    have e3 : Same H2 (upd H2 p (.tup [.str a])) := same_upd hp
    refine hb _ (e.trans (e2.trans e3)) _ ?_
    rw [wp_bd] at hq2
    refine wp_mono hq2 (fun b _ k w H4 e4 r4 => ?_) fun _ _ z => z.mono e3
    obtain ⟨q, x, y, rfl, hq4, rx, ry⟩ := r4
    have hq4' := mix_same hF (e.trans (e2.trans (e3.trans e4))) q _ hq4
    refine ⟨p, q, [.str a], [x, y], rfl, rfl, SqT.of (e4 _ _ upd_same), SqT.of hq4', by simp, by show 3 ≤ sizeLine; decide, (fun z => by simp at z), fun _ l hl => k _ _ (e3.trans (e4.trans (same_upd hl))) ?_⟩
    have hn : H l = none := Same.free (e.trans (e2.trans (e3.trans e4))) hl
    have mo : Same (mix F H H4) (mix F H (upd H4 l (.tup [.str a, x, y]))) := mix_mono (same_upd hl)
    have t3 : Rp.rep K (mix F H (upd H4 l (.tup [.str a, x, y]))) (.ref l) (T3.mk a b.1 b.2 : T3 Str β γ) := ⟨l, _, _, _, rfl, by rw [mix_new hn]; exact upd_same, rfl, Rp.mono mo rx, Rp.mono mo ry⟩
    exact DyN.to t3
theorem g_cat3 [DyN β] [DyN γ] [DyN δ] {ma : R Str} {mb : R (T3 β γ δ)} (ha : Gr K E ta σ F H ma) (hb : Gr K E tb σ F H mb) (hF : Same F H) :
    Gr K E (tOp (rCatT K) (tTup (tCons ta tNil)) tb) σ F H (R.bd ma fun a => R.bd mb fun b => .ok (Dy.tup [.str a, DyN.dy b.a, DyN.dy b.b, DyN.dy b.c])) := fun H1 e Q hq =>
  gr_seq ha e hq fun a v H2 e2 r hq2 => by
    have r : v = .str a := r
    subst r
    refine ⟨by show 1 ≤ sizeLine; decide, fun p hp => ?_⟩
    have e3 : Same H2 (upd H2 p (.tup [.str a])) := same_upd hp
    refine hb _ (e.trans (e2.trans e3)) _ ?_
    rw [wp_bd] at hq2
    refine wp_mono hq2 (fun b _ k w H4 e4 r4 => ?_) fun _ _ z => z.mono e3
    obtain ⟨q, x, y, z0, rfl, hq4, rx, ry, rz⟩ := r4
    have hq4' := mix_same hF (e.trans (e2.trans (e3.trans e4))) q _ hq4
    refine ⟨p, q, [.str a], [x, y, z0], rfl, rfl, SqT.of (e4 _ _ upd_same), SqT.of hq4', by simp, by show 4 ≤ sizeLine; decide, (fun z => by simp at z), fun _ l hl => k _ _ (e3.trans (e4.trans (same_upd hl))) ?_⟩
    have hn : H l = none := Same.free (e.trans (e2.trans (e3.trans e4))) hl
    have mo : Same (mix F H H4) (mix F H (upd H4 l (.tup [.str a, x, y, z0]))) := mix_mono (same_upd hl)
    exact ⟨l, _, rfl, by rw [mix_new hn]; exact upd_same, .str a, _, rfl, rfl, x, _, rfl, DyN.to (Rp.mono mo rx), y, _, rfl, DyN.to (Rp.mono mo ry), z0, _, rfl, DyN.to (Rp.mono mo rz), rfl⟩
/-- the first two of three -/
theorem g_cut32 {m : R (T3 β γ δ)} (h : Gr K E te σ F H m) (hF : Same F H) : Gr K E (tSl (rSlT K) te tNoPart (tPart (tC (.int 2)))) σ F H (R.bd m fun t => .ok (t.a, t.b)) := fun H1 e Q hq =>
  h H1 e _ (by
    rw [wp_bd] at hq
    refine wp_mono hq (fun b _ k w H4 e4 r4 => ?_) fun _ _ z => z
    obtain ⟨q, x, y, z0, rfl, hq4, rx, ry, rz⟩ := r4
    have hq4' := mix_same hF (e.trans e4) q _ hq4
    refine ⟨2, rfl, q, [x, y, z0], rfl, SqT.of hq4', (by show ¬ (HT.sIx 3 0 none = 0 ∧ HT.sIx 3 3 (some 2) = 3); decide), fun l hl => k _ _ (e4.trans (same_upd hl)) ?_⟩
    have hn : H l = none := Same.free (e.trans e4) hl
    have mo : Same (mix F H H4) (mix F H (upd H4 l (.tup [x, y]))) := mix_mono (same_upd hl)
    exact ⟨l, x, y, rfl, by rw [mix_new hn]; exact upd_same, Rp.mono mo rx, Rp.mono mo ry⟩)
end
/-! ### a text times a number, both written -/
def rMulStr : V → V → Hp → VK → Prop := fun x y H Q => ∃ a n, x = V.str a ∧ y = V.int n ∧ MulOk a n ∧ Q (V.str (Txt.mul a n)) H
theorem op_mulStr {X : Cx} : OpR X (binaryOp .Mult) rMulStr := fun pins s σ H x y v u Q I rx ry h => by
  obtain ⟨a, n, e1, e2, ok, q⟩ := h
  subst e1 e2
  obtain ⟨t1, e3⟩ := rx
  obtain ⟨t2, e4⟩ := ry
  subst e3 e4
  exact SB.mul ok fun t3 k => ⟨V.str (Txt.mul a n), H, I.tok _, ⟨_, rfl⟩, q⟩
theorem g_mulC {K : PySem.W.Frag} {E : XK} {σ : L2.St} {F H : Hp} {a r : Str} {n : Int} (ok : MulOk a n) (hr : Txt.mul a n = r) : Gr K E (tOp rMulStr (tC (.str a)) (tC (.int n))) σ F H (.ok r) := fun H1 e Q hq =>
  ⟨a, n, rfl, rfl, ok, hq _ H1 (Same.refl _) (by rw [hr]; rfl)⟩
theorem mulOk_c {a : Str} {n : Int} (h1 : (decide (n < -(2 ^ 63 : Int)) || decide (n ≥ 2 ^ 63)) = false) (h2 : ¬ ((a.length : Int) > (2 ^ 63 - 1) / n)) (h3 : Builtin.Str.tooLong (a.length * n.toNat) = false) : MulOk a n := ⟨h1, fun _ _ => h2, fun _ _ => h3⟩
example : MulOk "9" 70 := mulOk_c (by decide +kernel) (by decide +kernel) (by decide +kernel)
example : Txt.mul "9" 7 = "9999999" := by decide +kernel
theorem st_h {t : TS} {D : Ends} {i : Nat} {σ : L2.St} {H : Hp} {rt : VK} {bk ct : L2.St → Hp → Prop} (h : t D (σ.set i none) H) : ({ nx := fun σ' H' => ({ D with nx := t D } : Ends).nx (σ'.set i none) H', rt := rt, bk := bk, ct := ct } : Ends).nx σ H := h
/-! ### a call of no argument -/
theorem pe_callS0 {X : Cx} {CX : CXT} {k : Nat} {f : Addr} {fd : FuncData} {ps : List Str} {sp : Sp} {E : L2.St → XK} {x : Str} {p pos : Pos} (F : FnOk X.prog X.w X.K X.mg X.base CX k f fd ps sp) (hr : Room k X.A) (hg : Gl X x) (hm : X.mg x = some (.ref f)) (hk : PySem.W.keepIn X.K (.ref f) = true) (hb : Binds X.K fd ps [])
    (hx : ∀ σ, PassesAt CX X σ (E σ)) (hdb : (x == ("__debug__" : Str)) = false := by decide) : PE X (.Call (.Name x p) [] [] pos) (tCallS sp E tNil) := by
  constructor
  intro pins s σ H Q I h
  refine wpAny_Call_Name_kw (ld_glob I hg hm ?_ hdb)
  exact PySem.W.callWith_K0 I.kIn hk (run_fnS (us := []) (vs := []) F hr hb (hx σ) I .nil h)
section
variable {K : PySem.W.Frag} {E : XK} {σ : L2.St} {F H : Hp} {ρ : Type} [Rp ρ] {Ex : L2.St → XK}
theorem g_call0 {f : R ρ} (hE : Ex σ = E := by rfl) : Gr K E (tCallS (sp0 K f) Ex tNil) σ F H f := by
  subst hE
  exact fun H1 e Q hq => ⟨rfl, wp_mono hq (fun b _ k v' H3 e3 r3 => k v' H3 e3 (Rp.mono (dif_mix e e3) r3)) fun c _ z => z⟩
end
/-! ### f-strings of ints -/
noncomputable def fJ : List (R Str) → Str → R Str
  | [], acc => .ok acc
  | m :: us, acc => R.bd m fun y => R.bd (catS acc y) fun z => fJ us z
inductive GJ (K : PySem.W.Frag) (E : XK) (σ : L2.St) (F H : Hp) : List TE → List (R Str) → Prop where
  | nil : GJ K E σ F H [] []
  | cons {t : TE} {m : R Str} {ts : List TE} {us : List (R Str)} (h : Gr K E t σ F H m) (r : GJ K E σ F H ts us) : GJ K E σ F H (t :: ts) (m :: us)
section
variable {K : PySem.W.Frag} {E : XK} {σ : L2.St} {F H : Hp} {te : TE}
theorem g_fmt {m : R Int} (h : Gr K E te σ F H m) : Gr K E (tFmt te) σ F H (R.bd m strN) := fun H1 e Q hq =>
  gr_seq h e hq fun i v H2 e2 r hq2 => by
    have r : v = .int i := r
    subst r
    unfold strN gd at hq2
    split at hq2
    · rename_i c
      exact .inr ⟨i, rfl, c, hq2 _ H2 (Same.refl _) rfl⟩
    · exact hq2.elim
theorem gj_run {ts : List TE} {us : List (R Str)} (h : GJ K E σ F H ts us) : ∀ (acc : Str) (H1 : Hp) (Q : Str → Hp → Prop), Same H H1 → Wp (fJ us acc) (fun a => ∀ H2, Same H1 H2 → Q a H2) (EE K E H1) → tJs ts acc σ H1 Q := by
  induction h with
  | nil => exact fun acc H1 Q _ hq => hq H1 (Same.refl _)
  | @cons t m ts us h r ih =>
    intro acc H1 Q e hq
    unfold fJ at hq
    rw [wp_bd] at hq
    refine h H1 e _ (wp_mono hq (fun y _ k v H2 e2 rv => ?_) fun _ _ z => z)
    have rv : v = .str y := rv
    subst rv
    unfold catS gd at k
    split at k
    · rename_i c
      rw [bd_ok] at k
      refine ⟨y, rfl, ?_, ih _ H2 _ (e.trans e2) (wp_mono k (fun a _ q H3 e3 => q H3 (e2.trans e3)) fun _ _ z => z.mono e2)⟩
      rw [TL.len_tl, TL.tl_append, List.length_append, ← TL.len_tl, ← TL.len_tl]
      exact lim_le c
    · exact k.elim
theorem g_joined {ts : List TE} {us : List (R Str)} (h : GJ K E σ F H ts us) : Gr K E (fun σ H Q => tJs ts Str.empty σ H fun out H1 => Q (.str out) H1) σ F H (fJ us Str.empty) := fun H1 e Q hq =>
  gj_run h Str.empty H1 _ e (wp_mono hq (fun a _ k H2 e2 => k (.str a) H2 e2 rfl) fun _ _ z => z)
end
/-! ### zip; a tuple of four -/
section
variable {K : PySem.W.Frag} {E : XK} {σ : L2.St} {F H : Hp} {ta tb tc td : TE} {α β γ δ : Type} [Rp α] [Rp β] [Rp γ] [Rp δ]
theorem i_zip {mx : R (List α)} {my : R (List β)} (hx : Gr K E ta σ F H mx) (hy : Gr K E tb σ F H my) (hF : Same F H) : GrI K E (iZip K (tCons ta (tCons tb tNil))) σ F H (R.bd mx fun xs => R.bd my fun ys => .ok (xs.zip ys)) := fun H1 e RR hq =>
  hx H1 e _ (by
    rw [wp_bd] at hq
    refine wp_mono hq (fun xs _ k v H2 e2 r => ?_) fun _ _ z => z
    rw [wp_bd] at k
    refine hy H2 (e.trans e2) _ (wp_mono k (fun ys _ k w H3 e3 r3 => ?_) fun _ _ z => z.mono e2)
    have r := Rp.mono (mix_mono (F := F) (H := H) e3) r
    obtain ⟨p, vs, rfl, hp, hv⟩ := r
    obtain ⟨q, ws, rfl, hq3, hw⟩ := r3
    have e13 := e.trans (e2.trans e3)
    refine ⟨p, q, vs, ws, rfl, SqL.of (mix_same hF e13 p _ hp), SqL.of (mix_same hF e13 q _ hq3), k _ H3 (e2.trans e3) ⟨fun i H' s hi => ?_, fun i H' s hi => ?_, fun i H' x H'' s hi y => ?_⟩⟩
    · rw [List.length_zip] at hi
      exact ⟨vs, ws, vs[i]'(by rw [hv.length]; omega), ws[i]'(by rw [hw.length]; omega), SqL.of (s p _ hp), SqL.of (s q _ hq3), List.getElem?_eq_getElem _, List.getElem?_eq_getElem _⟩
    · rw [List.length_zip] at hi
      exact ⟨vs, ws, SqL.of (s p _ hp), SqL.of (s q _ hq3), by rw [hv.length, hw.length]; omega⟩
    · obtain ⟨T, x1, x2, rfl, hT, rfl, y1, y2⟩ := y
      obtain ⟨a, ha, ra⟩ := hv.getL (y1 vs (SqL.of (s p _ hp)))
      obtain ⟨b, hb, rb⟩ := hw.getL (y2 ws (SqL.of (s q _ hq3)))
      refine ⟨same_upd hT, (a, b), ?_, T, x1, x2, rfl, by rw [mix_new hT]; exact upd_same, Rp.mono (same_mix s) ra, Rp.mono (same_mix s) rb⟩
      rw [List.getElem?_zip_eq_some]
      exact ⟨ha, hb⟩)
theorem g_tup4 [DyN α] [DyN β] [DyN γ] [DyN δ] {ma : R α} {mb : R β} {mc : R γ} {md : R δ} (ha : Gr K E ta σ F H ma) (hb : Gr K E tb σ F H mb) (hc : Gr K E tc σ F H mc) (hd : Gr K E td σ F H md) :
    Gr K E (tTup (tCons ta (tCons tb (tCons tc (tCons td tNil))))) σ F H (R.bd ma fun a => R.bd mb fun b => R.bd mc fun c => R.bd md fun d => .ok (Dy.tup [DyN.dy a, DyN.dy b, DyN.dy c, DyN.dy d])) := fun H1 e Q hq =>
  gr_seq ha e hq fun a v H2 e2 r hq2 => gr_seq hb (e.trans e2) hq2 fun b w H3 e3 r3 hq3 => gr_seq hc (e.trans (e2.trans e3)) hq3 fun c z H4 e4 r4 hq4 => gr_seq hd (e.trans (e2.trans (e3.trans e4))) hq4 fun d u H5 e5 r5 hq5 => by
    refine ⟨by show 4 ≤ sizeLine; decide, fun p hp => hq5 _ _ (same_upd hp) ?_⟩
    have hn : H p = none := Same.free (e.trans (e2.trans (e3.trans (e4.trans e5)))) hp
    exact ⟨p, _, rfl, by rw [mix_new hn]; exact upd_same, v, _, rfl, DyN.to (Rp.mono (mix_mono (e3.trans (e4.trans (e5.trans (same_upd hp))))) r), w, _, rfl, DyN.to (Rp.mono (mix_mono (e4.trans (e5.trans (same_upd hp)))) r3), z, _, rfl, DyN.to (Rp.mono (mix_mono (e5.trans (same_upd hp))) r4), u, _, rfl, DyN.to (Rp.mono (mix_mono (same_upd hp)) r5), rfl⟩
end
end G

set_option Elab.async false
set_option linter.all false
set_option maxRecDepth 100000
set_option maxHeartbeats 4000000
/-! G: a long top, looked at in parts. -/
namespace G
open PySem PySem.Spec PyProof.Rows L2 PySem.W HandSHeadRun
section
variable {r : OpenRow} {q : Program} {M : Nat} {loose : List PySem.Str} {w : World} {n : Nat} {fa : List He.Fa} {fn f1 f2 : List He.DefD} {bx : PySem.W.Frag → Bool}
/-- what is seen from the globals, step by step -/
def frF (g : Addr → Option Obj) : Nat → List Addr
  | 0 => [mainGlobals]
  | n + 1 => (frF g n).flatMap fun a => match g a with
    | some o => (He.refsD o).filter fun b => !(Nat.beq b mainGlobals)
    | none => []
def asF (g : Addr → Option Obj) : Nat → List Addr
  | 0 => frF g 0
  | n + 1 => asF g n ++ frF g (n + 1)
def obsF (n : Nat) (fa : List He.Fa) (fn : List He.DefD) (bx : PySem.W.Frag → Bool) (g : Addr → Option Obj) : He.AlD := obsG fa fn bx (He.frG g (asF g n))
def hookF (n : Nat) (fa : List He.Fa) (fn : List He.DefD) (bx : PySem.W.Frag → Bool) : PySem.W.Hook where
  α := He.AlD
  obs := fun s => obsF n fa fn bx s.heap.get?
  val := fun _ => He.valD fn
  says := fun _ h => ∃ K : PySem.W.Frag, K.In h ∧ SaysG fa fn bx K
  of := fun _ _ e => ⟨_, He.frG_in, e⟩
  keeps := fun _ _ _ ⟨K, hK, c⟩ k => ⟨K, PySem.W.Frag.In.keeps hK k, c⟩
theorem obsF_eq {g : Addr → Option Obj} {s : Shared} (h : ∀ a, g a = s.heap.get? a) : obsF n fa fn bx g = (hookF n fa fn bx).obs s := by
  have e : g = s.heap.get? := funext h
  rw [e] <;> rfl
/-- the top's run -/
noncomputable abbrev topRun (r : OpenRow) (M : Nat) (w : World) (os : OsState) := HandSHeadRun.endF (HandSHeadRun.stepQ (HandSHeadRun.denQ HandSHeadRun.tabQ) r.prog w) M r.prog w os
def seesFa (r : OpenRow) (M : Nat) (w : World) (n : Nat) (fa : List He.Fa) : Prop := ∀ os : OsState, (topRun r M w os).map (fun s => obsF n fa [] (fun _ => true) (HandSHeadRun.getT s)) = some (He.valD [])
def seesBx (r : OpenRow) (M : Nat) (w : World) (n : Nat) (bx : PySem.W.Frag → Bool) : Prop := ∀ os : OsState, (topRun r M w os).map (fun s => obsF n [] [] bx (HandSHeadRun.getT s)) = some (He.valD [])
def seesFn (r : OpenRow) (M : Nat) (w : World) (n : Nat) (fn : List He.DefD) : Prop := ∀ os : OsState, (topRun r M w os).map (fun s => obsF n [] fn (fun _ => true) (HandSHeadRun.getT s)) = some (He.valD fn)
def seesQ (r : OpenRow) (q : Program) (M : Nat) (loose : List PySem.Str) (w : World) : Prop := ∀ os : OsState, (topRun r M w os).map (fun s => (looksF r.prog (boot_heap w.params) s.abs, seenQ q loose (importedModules r.prog.main.body) (fun s => xlAt q [] s && recOk r.toRowW.records s) s.abs)) = some (true, openGood q loose)
theorem map_some {α β : Type} {o : Option α} {f : α → β} {b : β} (h : o.map f = some b) : ∃ a, o = some a ∧ f a = b := by
  cases o with
  | none => cases h
  | some a => exact ⟨a, rfl, Option.some.inj h⟩
theorem obs_fn {K : PySem.W.Frag} (h : obsG [] fn (fun _ => true) K = He.valD fn) : (fn.all fun d => d.ok K) = true ∧ fn.map (fun d => He.fnW K d.at_) = fn.map He.DefD.val := by
  have h1 : (((([] : List He.Fa).all fun f => f.ok K) && fn.all fun d => d.ok K) && true) = true := congrArg (fun z : He.AlD => z.1) h
  have h2 : fn.map (fun d => He.fnW K d.at_) = fn.map He.DefD.val := congrArg (fun z : He.AlD => z.2) h
  rw [Bool.and_true, List.all_nil, Bool.true_and] at h1
  exact ⟨h1, h2⟩
theorem fn_obs {K : PySem.W.Frag} (h : (fn.all fun d => d.ok K) = true ∧ fn.map (fun d => He.fnW K d.at_) = fn.map He.DefD.val) : obsG [] fn (fun _ => true) K = He.valD fn := by
  show ((((([] : List He.Fa).all fun f => f.ok K) && fn.all fun d => d.ok K) && true), fn.map fun d => He.fnW K d.at_) = (true, fn.map He.DefD.val)
  rw [Bool.and_true, List.all_nil, Bool.true_and, h.1, h.2]
theorem sees_app (a : seesFn r M w n f1) (b : seesFn r M w n f2) : seesFn r M w n (f1 ++ f2) := fun os => by
  obtain ⟨s, e, h1⟩ := map_some (a os)
  obtain ⟨s2, e2, h2⟩ := map_some (b os)
  rw [e] at e2
  cases e2
  rw [e]
  refine congrArg some (fn_obs ?_)
  obtain ⟨a1, a2⟩ := obs_fn h1
  obtain ⟨b1, b2⟩ := obs_fn h2
  exact ⟨by rw [List.all_append, a1, b1]; rfl, by rw [List.map_append, List.map_append, a2, b2]⟩
theorem run_parts (c : seesQ r q M loose w) (a : seesFa r M w n fa) (b : seesBx r M w n bx) (d : seesFn r M w n fn) :
    HandSHeadRun.RunEq r q (hookF n fa fn bx) (fun s => obsF n fa fn bx (HandSHeadRun.getT s)) M loose w := fun os => by
  obtain ⟨s, e, h0⟩ := map_some (c os)
  obtain ⟨s1, e1, h1⟩ := map_some (a os)
  obtain ⟨s2, e2, h2⟩ := map_some (b os)
  obtain ⟨s3, e3, h3⟩ := map_some (d os)
  have e : topRun r M w os = some s := e
  rw [e] at e1 e2 e3
  cases e1; cases e2; cases e3
  show (topRun r M w os).map _ = _
  rw [e]
  refine congrArg some ?_
  have x1 : (((fa.all fun f => f.ok (He.frG (HandSHeadRun.getT s) (asF (HandSHeadRun.getT s) n))) && ([] : List He.DefD).all fun d => d.ok (He.frG (HandSHeadRun.getT s) (asF (HandSHeadRun.getT s) n))) && true) = true := congrArg (fun z : He.AlD => z.1) h1
  have x2 : (((([] : List He.Fa).all fun f => f.ok (He.frG (HandSHeadRun.getT s) (asF (HandSHeadRun.getT s) n))) && ([] : List He.DefD).all fun d => d.ok (He.frG (HandSHeadRun.getT s) (asF (HandSHeadRun.getT s) n))) && bx (He.frG (HandSHeadRun.getT s) (asF (HandSHeadRun.getT s) n))) = true := congrArg (fun z : He.AlD => z.1) h2
  obtain ⟨x3, x4⟩ := obs_fn h3
  rw [Bool.and_true, List.all_nil, Bool.and_true] at x1
  rw [List.all_nil, List.all_nil, Bool.and_self, Bool.true_and] at x2
  have k : obsF n fa fn bx (HandSHeadRun.getT s) = He.valD fn := by
    show (((fa.all fun f => f.ok _) && fn.all fun d => d.ok _) && bx _, fn.map fun d => He.fnW _ d.at_) = (true, fn.map He.DefD.val)
    rw [x1, x3, x2, x4]
    rfl
  have h01 := congrArg Prod.fst h0
  have h02 := congrArg Prod.snd h0
  exact Prod.ext h01 (Prod.ext h02 k)
end
end G

set_option Elab.async false
set_option linter.all false
set_option maxRecDepth 100000
set_option maxHeartbeats 4000000
/-! G: a lent list is changed at a place, and gone; what a name holds gets another name. -/
namespace G
open PySem PySem.Spec PyProof.Rows L2
section
variable {K : PySem.W.Frag} {E : XK} {σ : L2.St} {H0 F H F' H' Gc : Hp} {ta tb te tl to ti : TE} {α β γ δ ρ S : Type} [Rp α] [Rp β] [Rp γ] [Rp δ] [Rp ρ] {D : Ends} {b : Bool} {P : Addr → Prop} {v : V} {a : α}
theorem s_mv {i j : Nat} (hv : σ[j]? = some (some v)) (c : D.nx (σ.set i (some v)) H) : tAsg (tVar j) (gName i) D σ H := ⟨_, hv, c⟩
/-- x[e] = f, x lent: afterwards it is gone -/
theorem s_setDie {i : Nat} {o : Option (List α)} {m : R α} {mi : R Int} {k : List α → R β} {kk : β → Prop} (l : Lent K H0 F H Gc v o) (hv : σ[i]? = some (some v)) (he : Gr K E te σ H H m) (hi : Gr K E ti σ H H mi) (hF : Same F H) (e0 : Same H0 H)
    (hQ : Wp (R.bd (R.bd m fun a => R.bd (unO o) fun xs => setR xs 0 a) k) kk (EE K E H0)) (h0 : mi = .ok 0 := by rfl)
    (c : ∀ xs' p F' H', Nx (fun q => q = p) F H F' H' → Same H0 H' → ∀ (vs : List V), Gc p = some (.lst vs) → H0 p = none → Wp (k xs') kk (EE K E H0) → D.nx σ H') : tAsg te (gSub (tVar i) ti rSetL) D σ H := by
  subst h0
  refine he H (Same.refl _) _ ?_
  rw [bd_assoc, wp_bd] at hQ
  refine wp_mono hQ (fun a _ q v1 H2 e2 rv => ?_) fun c _ z => z.mono e0
  rw [bd_assoc] at q
  cases o with
  | none => exact q.elim
  | some xs =>
    obtain ⟨nv, p, vs, rfl, hp, r⟩ := l.rep
    have hpH := l.gh p _ hp
    have hf := (l.gf p _ rfl hp).1
    have h0 := (l.gf p _ rfl hp).2
    refine ⟨_, hv, ?_⟩
    refine hi H2 e2 _ ?_
    intro w H3 e3 ri
    have ri' : w = .int 0 := ri
    subst ri'
    have q : Wp (R.bd (setR xs 0 a) k) kk (EE K E H0) := q
    unfold setR at q
    rw [← r.length] at q
    cases j : ixN vs.length 0 with
    | none => rw [j] at q; exact q.elim
    | some j' =>
      rw [j] at q
      have e3' := e2.trans e3
      refine ⟨p, vs, 0, j', rfl, rfl, e3 p _ (e2 p _ hpH), j, ?_⟩
      exact c _ p (mix F H H3) _ (nx_upd hF e3' hpH hf) (e0_upd e0 e3' h0) vs hp h0 q
end
end G

set_option Elab.async false
set_option linter.all false
set_option maxRecDepth 100000
set_option maxHeartbeats 4000000
/-! G: books: instances of a class with three lists, that methods change. -/
namespace G
open PySem PySem.Spec PyProof.Rows L2
structure Bk where
  boards : List (List Int)
  deeds : List (T3 Str Int Int)
  gone : List (T3 Str Int Int × List Int)
abbrev bC (K : PySem.W.Frag) : Addr := He.ga K "RingBook"
def bf (pb pd pg : Addr) : List (Str × V) := [("boards", .ref pb), ("deeds", .ref pd), ("gone", .ref pg)]
theorem bf_b {pb pd pg : Addr} : (bf pb pd pg).lookup ("boards" : Str) = some (.ref pb) := by
  unfold bf
  rw [List.lookup_cons_self]
theorem nBD : ¬ (("boards" : Str) = "deeds") := by decide +kernel
theorem nBG : ¬ (("boards" : Str) = "gone") := by decide +kernel
theorem nDG : ¬ (("deeds" : Str) = "gone") := by decide +kernel
theorem lk_ne {a b : Str} {v : V} {r : List (Str × V)} (h : ¬ a = b) : List.lookup a ((b, v) :: r) = List.lookup a r := by
  have : (a == b) = false := beq_eq_false_iff_ne.mpr h
  simp only [List.lookup, this]
theorem bf_d {pb pd pg : Addr} : (bf pb pd pg).lookup ("deeds" : Str) = some (.ref pd) := by
  unfold bf
  rw [lk_ne fun z => nBD z.symm, List.lookup_cons_self]
theorem bf_g {pb pd pg : Addr} : (bf pb pd pg).lookup ("gone" : Str) = some (.ref pg) := by
  unfold bf
  rw [lk_ne fun z => nBG z.symm, lk_ne fun z => nDG z.symm, List.lookup_cons_self]
theorem bf_no {pb pd pg : Addr} {m : Str} (h1 : ¬ m = "boards") (h2 : ¬ m = "deeds") (h3 : ¬ m = "gone") : (bf pb pd pg).lookup m = none := by
  unfold bf
  rw [lk_ne h1, lk_ne h2, lk_ne h3]
  rfl
theorem bf_put {pb pd pg l : Addr} : putF "gone" (.ref l) (bf pb pd pg) = bf pb pd l := by
  unfold bf
  show (if ("boards" : Str) = "gone" then _ else (("boards" : Str), V.ref pb) :: (if ("deeds" : Str) = "gone" then _ else (("deeds" : Str), V.ref pd) :: (if ("gone" : Str) = "gone" then [(("gone" : Str), V.ref l)] else _))) = _
  rw [if_neg nBG, if_neg nDG, if_pos rfl]
theorem bf_new {pb pd pg : Addr} : putF "gone" (.ref pg) (putF "deeds" (.ref pd) (putF "boards" (.ref pb) [])) = bf pb pd pg := by
  show putF "gone" (.ref pg) (if ("boards" : Str) = "deeds" then _ else (("boards" : Str), V.ref pb) :: [(("deeds" : Str), V.ref pd)]) = _
  rw [if_neg nBD]
  show (if ("boards" : Str) = "gone" then _ else (("boards" : Str), V.ref pb) :: (if ("deeds" : Str) = "gone" then _ else (("deeds" : Str), V.ref pd) :: [(("gone" : Str), V.ref pg)])) = _
  rw [if_neg nBG, if_neg nDG]
  rfl
/-- what the class must have -/
structure BkF (K : PySem.W.Frag) : Prop where
  cl : Cls K (bC K)
  nB : NoAttr K (bC K) "boards"
  nD : NoAttr K (bC K) "deeds"
  nG : NoAttr K (bC K) "gone"
instance : Rp Bk where
  rep K H v b := ∃ p dx pb pd pg, v = .ref p ∧ H p = some (.ins (bC K) dx (bf pb pd pg)) ∧ Rp.rep K H (.ref pb) b.boards ∧ Rp.rep K H (.ref pd) b.deeds ∧ Rp.rep K H (.ref pg) b.gone
  mono e := fun ⟨p, dx, pb, pd, pg, h1, h2, h3, h4, h5⟩ => ⟨p, dx, pb, pd, pg, h1, e _ _ h2, Rp.mono e h3, Rp.mono e h4, Rp.mono e h5⟩
instance : NN Bk := ⟨fun ⟨_, _, _, _, _, h, _⟩ => by rw [h]; intro q; cases q⟩
open Classical in
/-- the inner things of a book -/
noncomputable def inn (H : Hp) (S : Addr → Prop) (p pb pd pg : Addr) : Hp := fun q => if tupB (H q) = true then H q else if S q ∧ q ≠ p ∧ q ≠ pb ∧ q ≠ pd ∧ q ≠ pg then H q else none
section
variable {H H' : Hp} {S S' : Addr → Prop} {p pb pd pg : Addr}
theorem inn_le : Same (inn H S p pb pd pg) H := fun b o q => by
  unfold inn at q
  split at q
  · exact q
  · split at q
    · exact q
    · cases q
theorem inn_some {b : Addr} {o : HO} (q : inn H S p pb pd pg b = some o) : H b = some o ∧ (tupB (some o) = true ∨ (S b ∧ b ≠ p ∧ b ≠ pb ∧ b ≠ pd ∧ b ≠ pg)) := by
  refine ⟨inn_le _ _ q, ?_⟩
  have h := inn_le _ _ q
  unfold inn at q
  split at q
  · rename_i c
    rw [h] at c
    exact .inl c
  · split at q
    · rename_i c
      exact .inr c
    · cases q
theorem inn_of {b : Addr} {o : HO} (h : H b = some o) (c : tupB (some o) = true ∨ (S b ∧ b ≠ p ∧ b ≠ pb ∧ b ≠ pd ∧ b ≠ pg)) : inn H S p pb pd pg b = some o := by
  unfold inn
  rcases c with c | c
  · rw [if_pos (by rw [h]; exact c)]
    exact h
  · rw [if_pos c]
    split <;> exact h
/-- the inner things stand when what they are stands -/
theorem inn_to {pg' : Addr} (h : ∀ b o, H b = some o → (tupB (some o) = true ∨ (S b ∧ b ≠ p ∧ b ≠ pb ∧ b ≠ pd ∧ b ≠ pg)) → H' b = some o ∧ (tupB (some o) = true ∨ (S' b ∧ b ≠ pg'))) : Same (inn H S p pb pd pg) (inn H' S' p pb pd pg') := fun b o q => by
  obtain ⟨h1, h2⟩ := inn_some q
  obtain ⟨h3, h4⟩ := h b o h1 h2
  refine inn_of h3 ?_
  rcases h2 with z | z
  · exact .inl z
  · rcases h4 with w | w
    · exact .inl w
    · exact .inr ⟨w.1, z.2.1, z.2.2.1, z.2.2.2.1, w.2⟩
end
/-- the cells of a book -/
structure BkC (K : PySem.W.Frag) (H : Hp) (S : Addr → Prop) (p pb pd pg : Addr) (b : Bk) : Prop where
  hp : ∃ dx, H p = some (.ins (bC K) dx (bf pb pd pg))
  hb : ∃ vs, H pb = some (.lst vs) ∧ All2 (Rp.rep K (inn H S p pb pd pg)) vs b.boards
  hd : ∃ vs, H pd = some (.lst vs) ∧ All2 (Rp.rep K (inn H S p pb pd pg)) vs b.deeds
  hg : ∃ vs, H pg = some (.lst vs) ∧ All2 (Rp.rep K (inn H S p pb pd pg)) vs b.gone
  s : S p ∧ S pb ∧ S pd ∧ S pg
  n : pb ≠ pd ∧ pb ≠ pg ∧ pd ≠ pg
theorem BkC.np {K : PySem.W.Frag} {H : Hp} {S : Addr → Prop} {p pb pd pg : Addr} {b : Bk} (h : BkC K H S p pb pd pg b) : p ≠ pb ∧ p ≠ pd ∧ p ≠ pg := by
  obtain ⟨dx, h1⟩ := h.hp
  obtain ⟨_, h2, _⟩ := h.hb
  obtain ⟨_, h3, _⟩ := h.hd
  obtain ⟨_, h4, _⟩ := h.hg
  refine ⟨fun z => ?_, fun z => ?_, fun z => ?_⟩
  · rw [z, h2] at h1; cases h1
  · rw [z, h3] at h1; cases h1
  · rw [z, h4] at h1; cases h1
theorem BkC.agr {K : PySem.W.Frag} {H H' : Hp} {S : Addr → Prop} {p pb pd pg : Addr} {b : Bk} (h : BkC K H S p pb pd pg b) (a : Agr S H H') : BkC K H' S p pb pd pg b := by
  obtain ⟨⟨dx, h1⟩, ⟨vb, h2, r2⟩, ⟨vd, h3, r3⟩, ⟨vg, h4, r4⟩, s, n⟩ := h
  have e : Same (inn H S p pb pd pg) (inn H' S p pb pd pg) := inn_to fun q o hq c => ⟨a q o hq (c.elim .inr fun z => .inl z.1), c.imp id fun z => ⟨z.1, z.2.2.2.2⟩⟩
  exact ⟨⟨dx, a _ _ h1 (.inl s.1)⟩, ⟨vb, a _ _ h2 (.inl s.2.1), r2.mono fun _ _ r => Rp.mono e r⟩, ⟨vd, a _ _ h3 (.inl s.2.2.1), r3.mono fun _ _ r => Rp.mono e r⟩, ⟨vg, a _ _ h4 (.inl s.2.2.2), r4.mono fun _ _ r => Rp.mono e r⟩, s, n⟩
theorem BkC.cutS {K : PySem.W.Frag} {H : Hp} {S : Addr → Prop} {p pb pd pg : Addr} {b : Bk} (h : BkC K H S p pb pd pg b) : BkC K H (fun q => S q ∧ muc H q) p pb pd pg b := by
  obtain ⟨⟨dx, h1⟩, ⟨vb, h2, r2⟩, ⟨vd, h3, r3⟩, ⟨vg, h4, r4⟩, s, n⟩ := h
  have e : Same (inn H S p pb pd pg) (inn H (fun q => S q ∧ muc H q) p pb pd pg) := inn_to fun q o hq c => ⟨hq, by
    rcases c with c | c
    · exact .inl c
    · cases z : tupB (some o) with
      | true => exact .inl rfl
      | false => exact .inr ⟨⟨c.1, o, hq, z⟩, c.2.2.2.2⟩⟩
  exact ⟨⟨dx, h1⟩, ⟨vb, h2, r2.mono fun _ _ r => Rp.mono e r⟩, ⟨vd, h3, r3.mono fun _ _ r => Rp.mono e r⟩, ⟨vg, h4, r4.mono fun _ _ r => Rp.mono e r⟩, ⟨⟨s.1, _, h1, rfl⟩, ⟨s.2.1, _, h2, rfl⟩, ⟨s.2.2.1, _, h3, rfl⟩, ⟨s.2.2.2, _, h4, rfl⟩⟩, n⟩
theorem BkC.rep {K : PySem.W.Frag} {H : Hp} {S : Addr → Prop} {p pb pd pg : Addr} {b : Bk} (h : BkC K H S p pb pd pg b) : Rp.rep K H (.ref p) b := by
  obtain ⟨⟨dx, h1⟩, ⟨vb, h2, r2⟩, ⟨vd, h3, r3⟩, ⟨vg, h4, r4⟩, s, n⟩ := h
  exact ⟨p, dx, pb, pd, pg, rfl, h1, ⟨pb, vb, rfl, h2, r2.mono fun _ _ r => Rp.mono inn_le r⟩, ⟨pd, vd, rfl, h3, r3.mono fun _ _ r => Rp.mono inn_le r⟩, ⟨pg, vg, rfl, h4, r4.mono fun _ _ r => Rp.mono inn_le r⟩⟩
instance : Tr Bk where
  tr K H S v b := ∃ p pb pd pg, v = .ref p ∧ BkC K H S p pb pd pg b
  rep := fun ⟨p, pb, pd, pg, h1, h2⟩ => by rw [h1]; exact h2.rep
  mono := fun a ⟨p, pb, pd, pg, h1, h2⟩ => ⟨p, pb, pd, pg, h1, h2.agr a⟩
  cut := fun ⟨p, pb, pd, pg, h1, h2⟩ => ⟨p, pb, pd, pg, h1, h2.cutS⟩
/-! ### calls -/
def tMeS (C : Addr) (m : Str) (sp : Sp) (E : L2.St → XK) (ta : TE) (t : TA) : TE := fun σ H Q => ta σ H fun x H1 => ∃ a dx fs, x = .ref a ∧ H1 a = some (.ins C dx fs) ∧ fs.lookup m = none ∧ t σ H1 fun vs H2 => sp (x :: vs) H2 Q (E σ)
theorem pe_meS {X : Cx} {CX : CXT} {k : Nat} {f C : Addr} {fd : FuncData} {ps : List Str} {sp : Sp} {E : L2.St → XK} {m : Str} {pos apos : Pos} {e o : Expr} {es : List Expr} {ta : TE} {t : TA} {pl : Sem Bool} (he : PE X o ta) (c : Cls X.K C) (hm : Meth X.K C m f)
    (F : FnOk X.prog X.w X.K X.mg X.base CX k f fd ps sp) (hr : Room k X.A) (hb : Binds X.K fd ps []) (hx : ∀ σ, PassesAt CX X σ (E σ)) (ha : PA X (e :: es) t)
    (hst : starEach (e :: es) X.env = (false, eval e X.env) :: starEach es X.env := by rfl) (hpl : (backTo pos (starEach es X.env)).any (·.1) = false := by rfl)
    (ht : eval (.Call (.Attribute o m apos) (e :: es) [] pos) X.env = (do
      let ov ← eval o X.env
      standAt apos.atName
      let (f, first) ← holding [ov] (getMethod ov m pl)
      callWith pos f first (backTo pos (starEach (e :: es) X.env)) (backToKw pos (keywordEach [] X.env))) := by rfl) :
    PE X (.Call (.Attribute o m apos) (e :: es) [] pos) (tMeS C m sp E ta t) := by
  refine ⟨fun pins s σ H Q I h => ?_⟩
  refine PySem.W.methodCall_KW (pl := pl) (thn (he.run pins s σ H _ I h) fun u s1 ⟨x, H1, I1, rx, a, dx, fs, ex, ea, l, q⟩ => ?_) ht
  subst ex
  obtain rfl : u = Value.ref a := rx
  refine getmeth_ok I1 ea c hm l ?_
  refine PySem.W.callWith_K (first := [.ref a]) (h₀ := X.base) I.ok.mod.kin hm.kp (thn (ha.run pos pins s1 σ H1 _ I1 q) fun us s2 ⟨vs, H2, I2, r, q2⟩ => ⟨I2.kIn, ?_⟩) hst hpl
  exact run_fnS (us := .ref a :: us) (vs := .ref a :: vs) F hr hb (hx σ) I2 (.cons rfl r) q2
theorem pe_meS0 {X : Cx} {CX : CXT} {k : Nat} {f C : Addr} {fd : FuncData} {ps : List Str} {sp : Sp} {E : L2.St → XK} {m : Str} {pos apos : Pos} {o : Expr} {ta : TE} {pl : Sem Bool} (he : PE X o ta) (c : Cls X.K C) (hm : Meth X.K C m f)
    (F : FnOk X.prog X.w X.K X.mg X.base CX k f fd ps sp) (hr : Room k X.A) (hb : Binds X.K fd ps []) (hx : ∀ σ, PassesAt CX X σ (E σ))
    (ht : eval (.Call (.Attribute o m apos) [] [] pos) X.env = (do
      let ov ← eval o X.env
      standAt apos.atName
      let (f, first) ← holding [ov] (getMethod ov m pl)
      callWith pos f first (backTo pos (starEach [] X.env)) (backToKw pos (keywordEach [] X.env))) := by rfl) :
    PE X (.Call (.Attribute o m apos) [] [] pos) (tMeS C m sp E ta tNil) := by
  refine ⟨fun pins s σ H Q I h => ?_⟩
  refine PySem.W.methodCall_KW (pl := pl) (thn (he.run pins s σ H _ I h) fun u s1 ⟨x, H1, I1, rx, a, dx, fs, ex, ea, l, q⟩ => ?_) ht
  subst ex
  obtain rfl : u = Value.ref a := rx
  refine getmeth_ok I1 ea c hm l ?_
  exact PySem.W.callWith_K0 (first := [.ref a]) I1.kIn hm.kp (run_fnS (us := [.ref a]) (vs := [.ref a]) F hr hb (hx σ) I1 (.cons rfl .nil) q)
def tMkS (C : Addr) (sp : Sp) (E : L2.St → XK) (t : TA) : TE := fun σ H Q => t σ H fun vs H1 => ∀ x dx, H1 x = none → H1 dx = none → dx ≠ x →
  sp (.ref x :: vs) (upd (upd H1 dx (.own x)) x (.ins C dx [])) (fun v H2 => v = .non ∧ Q (.ref x) H2) (E σ)
theorem run_mkS {X : Cx} {CX : CXT} {k : Nat} {f C : Addr} {fd : FuncData} {ps : List Str} {sp : Sp} {E : XK} {pins : List (Addr × Obj)} {σ : L2.St} {H : Hp} {s : Shared} {Q : VK} {us : List Value} {vs : List V} (M : Mk X.K C f) (F : FnOk X.prog X.w X.K X.mg X.base CX k f fd ps sp) (hr : Room (k + 1) X.A) (hb : Binds X.K fd ps [])
    (hx : PassesAt CX X σ E) (I : Inv X pins σ H s) (r : Vals vs us)
    (h : ∀ x dx, H x = none → H dx = none → dx ≠ x → sp (.ref x :: vs) (upd (upd H dx (.own x)) x (.ins C dx [])) (fun v H2 => v = .non ∧ Q (.ref x) H2) E) :
    wpAny (model X.prog X.w) X.A (call (.ref C) us) (EP X pins σ Q) X.xe s := by
  have hq := h (s.heap.objs.size + 1) s.heap.objs.size (I.hok.fresh (Nat.le_succ _)) (I.hok.fresh (Nat.le_refl _)) (Nat.ne_of_lt (Nat.lt_succ_self _))
  have I2 := Inv.made (C := C) I
  have r2 : Vals (V.ref (s.heap.objs.size + 1) :: vs) (Value.ref (s.heap.objs.size + 1) :: us) := .cons rfl r
  have hl : (Value.ref (s.heap.objs.size + 1) :: us ++ []).length = ps.length := by
    have e := r2.length
    rw [F.len _ _ _ _ hq] at e
    rw [List.append_nil]
    exact e.symm
  refine wpAny_call (make_map (f := f) I.kIn M.makes M.init (beq_iff_eq.mp M.fn) (codeAny_mono (F.run _ X.stack _ _ ⟨Value.ref (s.heap.objs.size + 1) :: us, []⟩ (Value.ref (s.heap.objs.size + 1) :: us) _ _ E (hr.make C us [])
    (I2.env0.make C us []) (by have := hb _ (Value.ref (s.heap.objs.size + 1) :: us) I2.kIn hl; rw [List.append_nil] at this; exact this) r2 hq) fun r s' hq' => ?_))
  cases r with
  | error e => exact hx pins _ _ e s' I2 hq'
  | ok fl =>
    cases fl with
    | ret u =>
      obtain ⟨v, H', I3, rv, ev, q3⟩ := I2.after hq'
      subst ev
      exact ⟨rv, ⟨V.ref (s.heap.objs.size + 1), H', I3, rfl, q3⟩⟩
    | next => exact False.elim hq'
    | brk => exact False.elim hq'
    | cont => exact False.elim hq'
theorem pe_mkS {X : Cx} {CX : CXT} {k : Nat} {f C : Addr} {fd : FuncData} {ps : List Str} {sp : Sp} {E : L2.St → XK} {x : Str} {p pos : Pos} {e : Expr} {es : List Expr} {t : TA} (M : Mk X.K C f) (F : FnOk X.prog X.w X.K X.mg X.base CX k f fd ps sp) (hr : Room (k + 1) X.A) (hg : Gl X x) (hm : X.mg x = some (.ref C)) (hb : Binds X.K fd ps []) (hx : ∀ σ, PassesAt CX X σ (E σ))
    (ha : PA X (e :: es) t) (hdb : (x == ("__debug__" : Str)) = false := by decide) (he : starEach (e :: es) X.env = (false, eval e X.env) :: starEach es X.env := by rfl) (hpl : (backTo pos (starEach es X.env)).any (·.1) = false := by rfl) :
    PE X (.Call (.Name x p) (e :: es) [] pos) (tMkS C sp E t) := by
  refine ⟨fun pins s σ H Q I h => ?_⟩
  refine wpAny_Call_Name_kw (ld_glob I hg hm ?_ hdb)
  refine PySem.W.callWith_K (h₀ := X.base) I.ok.mod.kin M.kp (thn (ha.run pos pins s σ H _ I h) fun us s1 ⟨vs, H1, I1, r, q⟩ => ⟨I1.kIn, ?_⟩) he hpl
  exact run_mkS M F hr hb (hx σ) I1 r q
section
variable {K : PySem.W.Frag} {E : XK} {σ : L2.St} {H0 F H F' H' : Hp} {te ta to : TE} {α β ρ : Type} [Rp α] [Rp β] [Rp ρ] {D : Ends} {SS : Addr → Prop} {v : V} {b : Bk} {Ex : L2.St → XK} {nm : Str}
/-! ### fields -/
theorem g_fB {m : R Bk} (X : BkF K) (h : Gr K E to σ F H m) (hF : Same F H) : Gr K E (tFld K to "boards") σ F H (R.bd m fun b => .ok b.boards) := fun H1 e Q hq =>
  h H1 e _ (by
    rw [wp_bd] at hq
    exact wp_mono hq (fun b _ k v H2 e2 r => by
      obtain ⟨p, dx, pb, pd, pg, rfl, hp, r1, r2, r3⟩ := r
      exact ⟨p, _, dx, _, _, rfl, mix_same hF (e.trans e2) _ _ hp, X.cl, X.nB, bf_b, k _ H2 e2 r1⟩) fun _ _ z => z)
theorem g_fD {m : R Bk} (X : BkF K) (h : Gr K E to σ F H m) (hF : Same F H) : Gr K E (tFld K to "deeds") σ F H (R.bd m fun b => .ok b.deeds) := fun H1 e Q hq =>
  h H1 e _ (by
    rw [wp_bd] at hq
    exact wp_mono hq (fun b _ k v H2 e2 r => by
      obtain ⟨p, dx, pb, pd, pg, rfl, hp, r1, r2, r3⟩ := r
      exact ⟨p, _, dx, _, _, rfl, mix_same hF (e.trans e2) _ _ hp, X.cl, X.nD, bf_d, k _ H2 e2 r2⟩) fun _ _ z => z)
theorem g_fG {m : R Bk} (X : BkF K) (h : Gr K E to σ F H m) (hF : Same F H) : Gr K E (tFld K to "gone") σ F H (R.bd m fun b => .ok b.gone) := fun H1 e Q hq =>
  h H1 e _ (by
    rw [wp_bd] at hq
    exact wp_mono hq (fun b _ k v H2 e2 r => by
      obtain ⟨p, dx, pb, pd, pg, rfl, hp, r1, r2, r3⟩ := r
      exact ⟨p, _, dx, _, _, rfl, mix_same hF (e.trans e2) _ _ hp, X.cl, X.nG, bf_g, k _ H2 e2 r3⟩) fun _ _ z => z)
/-! ### methods that look -/
theorem g_me0 {f : Bk → R ρ} {ma : R Bk} (ha : Gr K E ta σ H H ma) (hE : Ex σ = E := by rfl) (h1 : ¬ nm = "boards" := by decide +kernel) (h2 : ¬ nm = "deeds" := by decide +kernel) (h3 : ¬ nm = "gone" := by decide +kernel) : Gr K E (tMeS (bC K) nm (sp1 K f) Ex ta tNil) σ F H (R.bd ma f) := by
  subst hE
  exact fun H1 e Q hq => gr_arg ha e hq fun a v H2 e2 r hq2 => by
    obtain ⟨p, dx, pb, pd, pg, rfl, hp, r1, r2, r3⟩ := id r
    exact ⟨p, dx, _, rfl, hp, bf_no h1 h2 h3, .ref p, a, rfl, r, wp_mono hq2 (fun b _ k v' H3 e3 r3 => k v' H3 e3 (Rp.mono (dif_mix (e.trans e2) e3) r3)) fun c _ z => z⟩
/-! ### methods that change -/
def spBk0 (K : PySem.W.Frag) (f : Bk → R (ρ × Bk)) : Sp := fun vs H Q E => ∃ v b S0 Gz, vs = [v] ∧ Same Gz H ∧ Tr.tr K H S0 v b ∧ (∀ q, S0 q → Gz q = none ∧ muc H q) ∧
  Wp (f b) (fun z => ∀ v' F' H' S', Nx S0 Gz H F' H' → Tr.tr K H' S' v z.2 → (∀ q, S' q → (S0 q ∨ H q = none) ∧ F' q = none ∧ muc H' q) → Rp.rep K F' v' z.1 → Q v' H') (EE K E H)
def spBk1 (K : PySem.W.Frag) (f : Bk → α → R (ρ × Bk)) : Sp := fun vs H Q E => ∃ v w b a S0 Gz, vs = [v, w] ∧ Same Gz H ∧ Tr.tr K H S0 v b ∧ (∀ q, S0 q → Gz q = none ∧ muc H q) ∧ Rp.rep K Gz w a ∧
  Wp (f b a) (fun z => ∀ v' F' H' S', Nx S0 Gz H F' H' → Tr.tr K H' S' v z.2 → (∀ q, S' q → (S0 q ∨ H q = none) ∧ F' q = none ∧ muc H' q) → Rp.rep K F' v' z.1 → Q v' H') (EE K E H)
/-- a book behind a change -/
def BkJ (K : PySem.W.Frag) (H0 H : Hp) (SS : Addr → Prop) (v : V) : Hp → Hp → Bk → Prop := fun F' H' b' => ∃ SS', ApO K H0 F' H' SS' v b' ∧ ∀ q, SS' q → (SS q ∨ H q = none) ∧ H' q ≠ none
theorem bkj_of {S S' : Addr → Prop} {b' : Bk} (e0 : Same H0 H) (hS : ∀ q, S q → SS q ∧ F q = none ∧ H0 q = none ∧ muc H q) (r : Tr.tr K H' S' v b') (h : ∀ q, S' q → (S q ∨ H q = none) ∧ F' q = none ∧ muc H' q) : BkJ K H0 H SS v F' H' b' :=
  ⟨S', ⟨S', r, fun q z => ⟨z, (h q z).2.1, (h q z).1.elim (fun w => (hS q w).2.2.1) fun w => Same.free e0 w, (h q z).2.2⟩⟩, fun q z => ⟨(h q z).1.imp (fun w => (hS q w).1) id, muc_some (h q z).2.2⟩⟩
theorem g_bk0 {f : Bk → R (ρ × Bk)} (A : ApO K H0 F H SS v b) (hv : AtV to σ H v) (hF : Same F H) (e0 : Same H0 H) (hE : Ex σ = E := by rfl) (h1 : ¬ nm = "boards" := by decide +kernel) (h2 : ¬ nm = "deeds" := by decide +kernel) (h3 : ¬ nm = "gone" := by decide +kernel) :
    GrM K E (tMeS (bC K) nm (spBk0 K f) Ex to tNil) σ H0 F H (fun q => (SS q ∧ tupB (H q) = false) ∨ False) (BkJ K H0 H SS v) (f b) := by
  subst hE
  intro Q hq
  refine hv H (Same.refl _) _ ?_
  obtain ⟨S, r, hS⟩ := A.ex
  obtain ⟨p, pb, pd, pg, rfl, c⟩ := id r
  obtain ⟨dx, hp⟩ := c.hp
  exact ⟨p, dx, _, rfl, hp, bf_no h1 h2 h3, .ref p, b, S, F, rfl, hF, r, fun q z => ⟨(hS q z).2.1, (hS q z).2.2.2⟩, wp_mono hq (fun z _ k v' F' H' S' n r' hS' rv => k v' F' H' (n.wk fun q z => .inl ⟨(hS q z).1, muc_tb (hS q z).2.2.2⟩) (n.e0 e0 fun q z => (hS q z).2.2.1) (bkj_of e0 hS r' hS') rv) fun c _ z => z.mono e0⟩
theorem g_bk1 {f : Bk → α → R (ρ × Bk)} {ma : R α} (ha : Gr K E ta σ F H ma) (A : ApO K H0 F H SS v b) (hv : AtV to σ H v) (hF : Same F H) (e0 : Same H0 H) (hE : Ex σ = E := by rfl) (h1 : ¬ nm = "boards" := by decide +kernel) (h2 : ¬ nm = "deeds" := by decide +kernel) (h3 : ¬ nm = "gone" := by decide +kernel) :
    GrM K E (tMeS (bC K) nm (spBk1 K f) Ex to (tCons ta tNil)) σ H0 F H (fun q => (SS q ∧ tupB (H q) = false) ∨ False) (BkJ K H0 H SS v) (R.bd ma fun a => f b a) := by
  subst hE
  intro Q hq
  refine hv H (Same.refl _) _ ?_
  obtain ⟨S, r, hS⟩ := A.ex
  obtain ⟨p, pb, pd, pg, rfl, c⟩ := id r
  obtain ⟨dx, hp⟩ := c.hp
  refine ⟨p, dx, _, rfl, hp, bf_no h1 h2 h3, gm_arg ha (Same.refl _) e0 hq fun a w H1 e1 ra hq => ?_⟩
  have n0 := Nx.mk' hF e1
  refine ⟨.ref p, w, b, a, S, mix F H H1, rfl, mix_same hF e1, Tr.mono (Agr.same e1) r, fun q z => ⟨?_, muc_mono e1 (hS q z).2.2.2⟩, ra, wp_mono hq (fun z _ k v' F' H' S' n r' hS' rv => k v' F' H' ((n0.tr n).wk fun q z => .inl ⟨(hS q z).1, muc_tb (hS q z).2.2.2⟩) (n.e0 (e0.trans e1) fun q z => (hS q z).2.2.1) (bkj_of e0 hS r' fun q z => ⟨(hS' q z).1.imp id fun w => Same.free e1 w, (hS' q z).2⟩) rv) fun c _ z => z.mono (e0.trans e1)⟩
  obtain ⟨u, h4, h5⟩ := (hS q z).2.2.2
  rw [mix_old h4 h5]
  exact (hS q z).2.1
/-! ### a new book -/
def spMk (K : PySem.W.Frag) (f : α → R Bk) : Sp := fun vs H Q E => ∃ x dx w a, vs = [.ref x, w] ∧ H x = some (.ins (bC K) dx []) ∧ Rp.rep K H w a ∧
  Wp (f a) (fun b => ∀ H' S', (∀ q o, H q = some o → q ≠ x → H' q = some o) → Tr.tr K H' S' (.ref x) b → (∀ q, S' q → (q = x ∨ H q = none) ∧ muc H' q) → Q .non H') (EE K E H)
theorem gx_mk {f : α → R Bk} {ma : R α} (ha : Gr K E ta σ H H ma) (hE : Ex σ = E := by rfl) : GrX K E (tMkS (bC K) (spMk K f) Ex (tCons ta tNil)) σ H (R.bd ma f) := by
  subst hE
  intro H1 e Q hq
  refine ha H1 e _ ?_
  rw [wp_bd] at hq
  refine wp_mono hq (fun a _ k v H2 e2 r => ?_) fun c _ z => z
  intro x dx hx hdx ne
  have r2 : Rp.rep K H2 v a := Rp.mono (mix_same (Same.refl _) (e.trans e2)) r
  have eX : Same H2 (upd (upd H2 dx (.own x)) x (.ins (bC K) dx [])) := (same_upd hdx).trans (same_upd (by rw [upd_ne (Ne.symm ne)]; exact hx))
  have k := wp_mono k (fun _ _ z => z) fun c _ z => z
  refine ⟨x, dx, v, a, rfl, upd_same, Rp.mono eX r2, wp_mono k (fun b _ k H' S' h1 h2 h3 => ⟨rfl, k _ H' (fun q o h => ?_) ⟨S', h2, fun q z => ⟨?_, (h3 q z).2⟩⟩⟩) fun c _ z => z.mono (e2.trans eX)⟩
  · have h2' := e2 q o h
    exact h1 q o (eX q o h2') fun z => by rw [z, hx] at h2'; cases h2'
  · rcases (h3 q z).1 with w | w
    · rw [w]
      exact Same.free (e.trans e2) hx
    · exact Same.free (e.trans (e2.trans eX)) w
/-- RingBook(e), told and forgotten -/
theorem g_mkD {f : α → R Bk} {ma : R α} (ha : Gr K E ta σ H H ma) (hE : Ex σ = E := by rfl) : Gr K E (tMkS (bC K) (spMk K f) Ex (tCons ta tNil)) σ F H (R.bd ma f) := fun H1 e Q hq =>
  gx_mk ha hE H1 e Q (wp_mono hq (fun a _ k v H2 e2 ⟨S, r, n⟩ => k v H2 e2 (Tr.rep (newS_mix (e.trans e2) r n))) fun _ _ z => z)
/-- RingBook(e).m(), told nothing -/
theorem g_mk0 {g : α → R Bk} {f : Bk → R (Unit × Bk)} {ma : R α} {Ex2 : L2.St → XK} (ha : Gr K E ta σ H H ma) (hE : Ex σ = E := by rfl) (hE2 : Ex2 σ = E := by rfl) (h1 : ¬ nm = "boards" := by decide +kernel) (h2 : ¬ nm = "deeds" := by decide +kernel) (h3 : ¬ nm = "gone" := by decide +kernel) :
    Gr K E (tMeS (bC K) nm (spBk0 K f) Ex2 (tMkS (bC K) (spMk K g) Ex (tCons ta tNil)) tNil) σ F H (R.bd ma fun a => R.bd (g a) fun b => R.bd (f b) fun z => .ok z.1) := by
  subst hE
  intro H1 e Q hq
  refine ha H1 e _ ?_
  rw [wp_bd] at hq
  refine wp_mono hq (fun a _ k v H2 e2 r => ?_) fun c _ z => z
  intro x dx hx hdx ne
  have r2 : Rp.rep K H2 v a := Rp.mono (mix_same (Same.refl _) (e.trans e2)) r
  have eX : Same H2 (upd (upd H2 dx (.own x)) x (.ins (bC K) dx [])) := (same_upd hdx).trans (same_upd (by rw [upd_ne (Ne.symm ne)]; exact hx))
  have k := wp_bdi k
  refine ⟨x, dx, v, a, rfl, upd_same, Rp.mono eX r2, wp_mono k (fun b _ k H' S' q1 q2 q3 => ⟨rfl, ?_⟩) fun c _ z => z.mono (e2.trans eX)⟩
  have e3 : Same H2 H' := fun q o h => q1 q o (eX q o h) fun z => by rw [z, hx] at h; cases h
  have hS : ∀ q, S' q → H2 q = none := fun q z => (q3 q z).1.elim (fun w => by rw [w]; exact hx) fun w => Same.free eX w
  obtain ⟨p, pb, pd, pg, hp, c⟩ := id q2
  cases hp
  obtain ⟨dx2, hp⟩ := c.hp
  have k := wp_bdi k
  rw [hE2]
  exact ⟨x, dx2, _, rfl, hp, bf_no h1 h2 h3, .ref x, b, S', H2, rfl, e3, q2, fun q z => ⟨hS q z, (q3 q z).2⟩, wp_mono k (fun z _ k v' F' H3 S3 n _ _ rv => k v' H3 (fun q o h => n.hh q o (fun w => by have := hS q w; rw [e2 q o h] at this; cases this) (e3 q o (e2 q o h))) rv) fun c _ z => z.mono (e2.trans e3)⟩
theorem s_asgBk {i : Nat} {m : R Bk} {k : Bk → R ρ} {kk : ρ → Prop} (he : GrX K E te σ H m) (hF : Same F H) (e0 : Same H0 H) (hQ : Wp (R.bd m k) kk (EE K E H0))
    (c : ∀ b v F' H' SS, Nx0 F H F' H' → Same H0 H' → ApO K H0 F' H' SS v b → (∀ q, SS q → H q = none) → (∀ q, SS q → H' q ≠ none) → Wp (k b) kk (EE K E H0) → D.nx (σ.set i (some v)) H') : tAsg te (gName i) D σ H :=
  s_asgAp (gx_apt he) hF e0 (by cases m <;> exact hQ) c
/-! ### what a method leaves -/
theorem nx_bk {S : Addr → Prop} (hF : Same F H) (hh : ∀ q o, ¬ S q → H q = some o → H' q = some o) (hs : ∀ q, S q → F q = none ∧ muc H q ∧ muc H' q) : Nx S F H (tupF F H') H' := by
  have key : ∀ q o, F q = some o → H' q = some o := fun q o h => hh q o (fun z => by rw [(hs q z).1] at h; cases h) (hF q o h)
  refine ⟨fun q o h => ?_, hh, fun q o h => ?_, fun q o t h f => ?_, fun q o h => ?_⟩
  · unfold tupF
    split
    · exact key q o h
    · exact h
  · unfold tupF at h
    split at h
    · exact h
    · exact key q o h
  · refine tupF_none ?_ f
    by_cases z : S q
    · exact muc_tb (hs q z).2.2
    · rw [hh q o z h]; exact t
  · by_cases z : S q
    · obtain ⟨_, ⟨o1, a1, a2⟩, o2, b1, b2⟩ := hs q z
      rw [h] at a1
      cases a1
      exact ⟨o2, b1, b2.trans a2.symm⟩
    · exact ⟨o, hh q o z h, rfl⟩
end
section
variable {K : PySem.W.Frag} {Gz H H3 H4 : Hp} {S0 S' : Addr → Prop} {p pb pd pg pg' : Addr} {b b' : Bk}
theorem bk_inn (C : BkC K H3 S0 p pb pd pg b) (h4 : ∀ q o, H3 q = some o → q ≠ p → q ≠ pb → q ≠ pd → q ≠ pg → H4 q = some o) (hs : ∀ q, S0 q → S' q) (hg' : pg' = pg ∨ H3 pg' = none) : Same (inn H3 S0 p pb pd pg) (inn H4 S' p pb pd pg') := inn_to fun q o hq c => by
  obtain ⟨dx, hp⟩ := C.hp
  obtain ⟨_, hb, _⟩ := C.hb
  obtain ⟨_, hd, _⟩ := C.hd
  obtain ⟨_, hg, _⟩ := C.hg
  rcases c with c | c
  · refine ⟨h4 q o hq (fun z => ?_) (fun z => ?_) (fun z => ?_) (fun z => ?_), .inl c⟩
    · rw [z, hp] at hq; cases hq; cases c
    · rw [z, hb] at hq; cases hq; cases c
    · rw [z, hd] at hq; cases hq; cases c
    · rw [z, hg] at hq; cases hq; cases c
  · refine ⟨h4 q o hq c.2.1 c.2.2.1 c.2.2.2.1 c.2.2.2.2, .inr ⟨hs q c.1, fun z => ?_⟩⟩
    rcases hg' with w | w
    · exact c.2.2.2.2 (z.trans w)
    · rw [z, w] at hq; cases hq
theorem bk_end (e : Same H H3) (hG : Same Gz H) (hS : ∀ q, S0 q → Gz q = none ∧ muc H q) (C : BkC K H3 S0 p pb pd pg b) (C' : BkC K H4 S' p pb pd pg' b') (h4 : ∀ q o, H3 q = some o → q ≠ p → q ≠ pb → q ≠ pd → q ≠ pg → H4 q = some o) (hg4 : muc H4 pg)
    (hs : ∀ q, S' q → S0 q ∨ (H q = none ∧ muc H4 q)) : Nx S0 Gz H (tupF Gz H4) H4 ∧ Tr.tr K H4 S' (.ref p) b' ∧ ∀ q, S' q → (S0 q ∨ H q = none) ∧ tupF Gz H4 q = none ∧ muc H4 q := by
  have key : ∀ q, S0 q → muc H4 q := fun q z => by
    by_cases c1 : q = p
    · obtain ⟨dx, h⟩ := C'.hp
      rw [c1]; exact ⟨_, h, rfl⟩
    by_cases c2 : q = pb
    · obtain ⟨_, h, _⟩ := C'.hb
      rw [c2]; exact ⟨_, h, rfl⟩
    by_cases c3 : q = pd
    · obtain ⟨_, h, _⟩ := C'.hd
      rw [c3]; exact ⟨_, h, rfl⟩
    by_cases c4 : q = pg
    · rw [c4]; exact hg4
    obtain ⟨o, a1, a2⟩ := (hS q z).2
    exact ⟨o, h4 q o (e q o a1) c1 c2 c3 c4, a2⟩
  have n : Nx S0 Gz H (tupF Gz H4) H4 := nx_bk hG (fun q o ns h => h4 q o (e q o h) (fun z => ns (z ▸ C.s.1)) (fun z => ns (z ▸ C.s.2.1)) (fun z => ns (z ▸ C.s.2.2.1)) (fun z => ns (z ▸ C.s.2.2.2))) fun q z => ⟨(hS q z).1, (hS q z).2, key q z⟩
  refine ⟨n, ⟨p, pb, pd, pg', rfl, C'⟩, fun q z => ?_⟩
  rcases hs q z with w | ⟨w, m⟩
  · exact ⟨.inl w, tupF_none (muc_tb (key q w)) (hS q w).1, key q w⟩
  · exact ⟨.inr w, tupF_none (muc_tb m) (Same.free hG w), m⟩
end
noncomputable def popLast {α : Type} (l : List α) : R (α × List α) := match l.getLast? with
  | some a => .ok (a, l.dropLast)
  | none => .bad
noncomputable def m_bk_undo (b : Bk) : R (Unit × Bk) := R.bd (.ok (decide ((b.deeds.length : Int) = 0))) fun c => if c = true then .er (.own .NoDeed) else
  R.bd (popLast b.deeds) fun d => R.bd (popLast b.boards) fun l => gd (b.gone.length < lim) (.ok ((), ⟨l.2, d.2, b.gone ++ [(d.1, l.1)]⟩))
noncomputable def m_bk_redo (b : Bk) : R (Unit × Bk) := R.bd (.ok (decide ((b.gone.length : Int) = 0))) fun c => if c = true then .er (.own .NoDeed) else
  R.bd (popLast b.gone) fun t => gd (b.deeds.length < lim ∧ b.boards.length < lim) (.ok ((), ⟨b.boards ++ [t.1.2], b.deeds ++ [t.1.1], t.2⟩))
/-- where it is refused alone -/
noncomputable def m_bk_undoN (b : Bk) : R Unit := R.bd (.ok (decide ((b.deeds.length : Int) = 0))) fun c => if c = true then .er (.own .NoDeed) else .bad
noncomputable def m_bk_redoN (b : Bk) : R Unit := R.bd (.ok (decide ((b.gone.length : Int) = 0))) fun c => if c = true then .er (.own .NoDeed) else .bad
/-- a deed done: raw -/
def spDone (K : PySem.W.Frag) : Sp := fun vs H Q E => ∃ p dx pb pd pg vb vd xd xm, vs = [.ref p, xd, xm] ∧ H p = some (.ins (bC K) dx (bf pb pd pg)) ∧ H pb = some (.lst vb) ∧ H pd = some (.lst vd) ∧ pb ≠ pd ∧ vb.length < lim ∧ vd.length < lim ∧
  ∀ l, H l = none → Q .non (upd (upd (upd (upd H pd (.lst (vd ++ [xd]))) pb (.lst (vb ++ [xm]))) l (.lst [])) p (.ins (bC K) dx (bf pb pd l)))
noncomputable def m_bk_done (b : Bk) (d : T3 Str Int Int) (l : List Int) : R Bk := gd (b.deeds.length < lim ∧ b.boards.length < lim) (.ok ⟨b.boards ++ [l], b.deeds ++ [d], []⟩)
noncomputable def m_bk_sow (f : List Int → Int → R (List Int × Int)) (b : Bk) (pit : Int) : R (Int × Bk) := R.bd (R.bd (idx b.boards (-1)) fun B => f B pit) fun z =>
  R.bd (R.bd (R.bd (idx b.boards (-1)) fun B => idx B pit) fun x => .ok (T3.mk ("sow" : Str) pit x)) fun d => R.bd (m_bk_done b d z.1) fun c => .ok (z.2, c)
noncomputable def m_bk_back (f : List Int → Int → R (List Int × Int)) (b : Bk) (pit : Int) : R (Int × Bk) := R.bd (R.bd (idx b.boards (-1)) fun B => f B pit) fun z =>
  R.bd (R.bd (R.bd (idx z.1 z.2) fun x => .ok (0 - x)) fun x => .ok (T3.mk ("back" : Str) pit x)) fun d => R.bd (m_bk_done b d z.1) fun c => .ok (z.2, c)
section
variable {K : PySem.W.Frag} {Gz H H3 H5 F' : Hp} {S0 : Addr → Prop} {p pb pd pg l dx : Addr} {b : Bk} {vb vd : List V} {xd xm : V} {d : T3 Str Int Int} {B : List Int}
/-- what is new stands among the inner things -/
theorem inn_new {S' : Addr → Prop} (n : Nx0 nil0 H F' H3) (C : BkC K H3 S0 p pb pd pg b) (hn : ∀ q, (q = p ∨ q = pb ∨ q = pd ∨ q = pg) → H q ≠ none) (hs : ∀ q o, H q = none → H3 q = some o → tupB (some o) = false → S' q) : Same F' (inn H3 S' p pb pd pg) := fun q o h => by
  have h3 := n.fh q o h
  refine inn_of h3 ?_
  cases t : tupB (some o) with
  | true => exact .inl rfl
  | false =>
    have hq : H q = none := by
      cases z : H q with
      | none => rfl
      | some u =>
        exfalso
        have := n.hh q u (fun z => z) z
        rw [h3] at this
        cases this
        have := n.own q o t z rfl
        rw [h] at this
        cases this
    exact .inr ⟨hs q o hq h3 t, fun z => hn q (.inl z) hq, fun z => hn q (.inr (.inl z)) hq, fun z => hn q (.inr (.inr (.inl z))) hq, fun z => hn q (.inr (.inr (.inr z))) hq⟩
/-- behind done_now: H3 with the deed and the board done -/
theorem bk_done (e : Same H H3) (hG : Same Gz H) (hS : ∀ q, S0 q → Gz q = none ∧ muc H q) (C : BkC K H3 S0 p pb pd pg b) (hp : H3 p = some (.ins (bC K) dx (bf pb pd pg))) (hb : H3 pb = some (.lst vb)) (hd : H3 pd = some (.lst vd)) (hl : H3 l = none)
    (rd : Rp.rep K (inn H3 (fun q => S0 q ∨ (H q = none ∧ muc H3 q)) p pb pd pg) xd d) (rb : Rp.rep K (inn H3 (fun q => S0 q ∨ (H q = none ∧ muc H3 q)) p pb pd pg) xm B)
    (h5 : upd (upd (upd (upd H3 pd (.lst (vd ++ [xd]))) pb (.lst (vb ++ [xm]))) l (.lst [])) p (.ins (bC K) dx (bf pb pd l)) = H5) :
    ∃ F' S', Nx S0 Gz H F' H5 ∧ Tr.tr K H5 S' (.ref p) (⟨b.boards ++ [B], b.deeds ++ [d], []⟩ : Bk) ∧ ∀ q, S' q → (S0 q ∨ H q = none) ∧ F' q = none ∧ muc H5 q := by
  obtain ⟨q1, q2, q3⟩ := C.np
  obtain ⟨n1, n2, n3⟩ := C.n
  obtain ⟨vg, hg, rg⟩ := C.hg
  have l1 : l ≠ p := fun z => by rw [z, hp] at hl; cases hl
  have l2 : l ≠ pb := fun z => by rw [z, hb] at hl; cases hl
  have l3 : l ≠ pd := fun z => by rw [z, hd] at hl; cases hl
  have l4 : l ≠ pg := fun z => by rw [z, hg] at hl; cases hl
  have h4 : ∀ q o, H3 q = some o → q ≠ p → q ≠ pb → q ≠ pd → q ≠ pg → H5 q = some o := fun q o h b0 b1 b2 b3 => by
    have : q ≠ l := fun z => by rw [z, hl] at h; cases h
    rw [← h5, upd_ne b0, upd_ne this, upd_ne b1, upd_ne b2]
    exact h
  have gl : H5 l = some (.lst []) := by rw [← h5, upd_ne l1]; exact upd_same
  have gg : H5 pg = some (.lst vg) := by rw [← h5, upd_ne q3.symm, upd_ne l4.symm, upd_ne n2.symm, upd_ne n3.symm]; exact hg
  have gp : H5 p = some (.ins (bC K) dx (bf pb pd l)) := by rw [← h5]; exact upd_same
  have gb : H5 pb = some (.lst (vb ++ [xm])) := by rw [← h5, upd_ne q1.symm, upd_ne l2.symm]; exact upd_same
  have gd_ : H5 pd = some (.lst (vd ++ [xd])) := by rw [← h5, upd_ne q2.symm, upd_ne l3.symm, upd_ne n1.symm]; exact upd_same
  have si := bk_inn (S' := fun q => S0 q ∨ (H q = none ∧ muc H5 q)) (pg' := l) C h4 (fun _ z => .inl z) (.inr hl)
  have muc5 : ∀ q, muc H3 q → q ≠ p → q ≠ pb → q ≠ pd → q ≠ pg → muc H5 q := fun q ⟨o, a, t⟩ c0 c1 c2 c3 => ⟨o, h4 q o a c0 c1 c2 c3, t⟩
  have sn : Same (inn H3 (fun q => S0 q ∨ (H q = none ∧ muc H3 q)) p pb pd pg) (inn H5 (fun q => S0 q ∨ (H q = none ∧ muc H5 q)) p pb pd l) := inn_to fun q o hq c => by
    rcases c with c | c
    · refine ⟨h4 q o hq (fun z => ?_) (fun z => ?_) (fun z => ?_) (fun z => ?_), .inl c⟩
      · rw [z, hp] at hq; cases hq; cases c
      · rw [z, hb] at hq; cases hq; cases c
      · rw [z, hd] at hq; cases hq; cases c
      · rw [z, hg] at hq; cases hq; cases c
    · refine ⟨h4 q o hq c.2.1 c.2.2.1 c.2.2.2.1 c.2.2.2.2, .inr ⟨c.1.imp id fun w => ⟨w.1, muc5 q w.2 c.2.1 c.2.2.1 c.2.2.2.1 c.2.2.2.2⟩, fun z => ?_⟩⟩
      rw [z, hl] at hq; cases hq
  have C5 : BkC K H5 (fun q => S0 q ∨ (H q = none ∧ muc H5 q)) p pb pd l ⟨b.boards ++ [B], b.deeds ++ [d], []⟩ := by
    obtain ⟨vb2, hb2, rb2⟩ := C.hb
    obtain ⟨vd2, hd2, rd2⟩ := C.hd
    rw [hb] at hb2
    rw [hd] at hd2
    cases hb2
    cases hd2
    exact ⟨⟨dx, gp⟩, ⟨_, gb, (rb2.mono fun _ _ r => Rp.mono si r).append (.cons (Rp.mono sn rb) .nil)⟩, ⟨_, gd_, (rd2.mono fun _ _ r => Rp.mono si r).append (.cons (Rp.mono sn rd) .nil)⟩, ⟨_, gl, .nil⟩, ⟨.inl C.s.1, .inl C.s.2.1, .inl C.s.2.2.1, .inr ⟨Same.free e hl, _, gl, rfl⟩⟩, n1, l2.symm, l3.symm⟩
  obtain ⟨nn, tr, hs⟩ := bk_end e hG hS C C5 h4 ⟨_, gg, rfl⟩ fun q z => z
  exact ⟨_, _, nn, tr, hs⟩
end
theorem tcons_gr {α : Type} [Rp α] {K : PySem.W.Frag} {E : XK} {σ : L2.St} {F H0 H : Hp} {te : TE} {ts : TA} {m : R α} {kk : α → Prop} {Q : List V → Hp → Prop} (h : Gr K E te σ F H m) (e0 : Same H0 H) (hQ : Wp m kk (EE K E H0)) (c : ∀ a v H2, Same H H2 → Rp.rep K (mix F H H2) v a → kk a → ts σ H2 fun xs H3 => Q (v :: xs) H3) : tCons te ts σ H Q :=
  h H (Same.refl _) _ (wp_mono hQ (fun a _ k v H2 e2 r => c a v H2 e2 r k) fun c _ z => z.mono e0)
noncomputable def m_bk_init (f : List Int → R Unit) (board : List Int) : R Bk := R.bd (f board) fun _ => .ok ⟨[board], [], []⟩
theorem bf_two {pb pd : Addr} : putF "deeds" (.ref pd) (putF "boards" (.ref pb) []) = ([(("boards" : Str), V.ref pb), (("deeds" : Str), V.ref pd)] : List (Str × V)) := by
  show (if ("boards" : Str) = "deeds" then _ else (("boards" : Str), V.ref pb) :: [(("deeds" : Str), V.ref pd)]) = _
  rw [if_neg nBD]
/-- o.f = [e] -/
theorem s_fldL1 {α : Type} [Rp α] {K : PySem.W.Frag} {E : XK} {σ : L2.St} {F H0 H : Hp} {ta te : TE} {f : Str} {D : Ends} {m : R α} {kk : α → Prop} (h : Gr K E te σ F H m) (e0 : Same H0 H) (hQ : Wp m kk (EE K E H0))
    (c : ∀ a v H2, Same H H2 → Rp.rep K (mix F H H2) v a → kk a → ∀ q, H2 q = none → ta σ (upd H2 q (.lst [v])) fun x H3 => ∃ a C dx fs, x = .ref a ∧ H3 a = some (.ins C dx fs) ∧ Cls K C ∧ NoAttr K C f ∧ fs.length < 1000 ∧ D.nx σ (upd H3 a (.ins C dx (putF f (.ref q) fs)))) : sFld K ta (tLst (tCons te tNil)) f D σ H :=
  h H (Same.refl _) _ (wp_mono hQ (fun a _ k v H2 e2 r => ⟨by show 1 ≤ sizeLine; decide, fun q hq => c a v H2 e2 r k q hq⟩) fun c _ z => z.mono e0)
theorem Nx.bk {P : Addr → Prop} {F H F' H' : Hp} (n : Nx P F H F' H') {q : Addr} (h : H' q = none) : H q = none := by
  cases z : H q with
  | none => rfl
  | some u =>
    obtain ⟨o, w, _⟩ := n.th q u z
    rw [h] at w
    cases w
theorem bk_apart {τ : Type} [Rp τ] [Cel τ] {K : PySem.W.Frag} {H0 F H H' : Hp} {b : Bool} {a : Addr} {x : τ} {SS SS' : Addr → Prop} (o : Own K H0 b F H a x) (d : ¬ SS a) (hs : ∀ q, SS' q → (SS q ∨ H q = none) ∧ H' q ≠ none) : ¬ SS' a := fun z => (hs a z).1.elim d fun y => by
  obtain ⟨u, hu⟩ := o.there
  rw [hu] at y
  cases y
/-- xs.append(ys.pop()), both ours -/
theorem s_appPop {α β : Type} [Rp α] [Rp β] {K : PySem.W.Frag} {E : XK} {σ : L2.St} {H0 F H : Hp} {b : Bool} {D : Ends} {i j : Nat} {p q : Addr} {xs ys : List α} {k : List α × List α → R β} {kk : β → Prop} (hi : σ[i]? = some (some (.ref p))) (hj : σ[j]? = some (some (.ref q))) (o : Own K H0 b F H p xs) (o2 : Own K H0 b F H q ys) (ne : p ≠ q) (hF : Same F H) (e0 : Same H0 H)
    (hQ : Wp (R.bd (R.bd (lastR ys) fun z => R.bd (appR xs z.1) fun l => .ok (l, z.2)) k) kk (EE K E H0))
    (c : ∀ xs' ys' F1 H1 F' H', Nx (fun z => z = q) F H F1 H1 → Same H0 H1 → Own K H0 b F1 H1 q ys' → Nx (fun z => z = p) F1 H1 F' H' → Same H0 H' → Own K H0 b F' H' p xs' → Wp (k (xs', ys')) kk (EE K E H0) → D.nx σ H') : tDrop (tBM K "list" rAppend (tVar i) (tCons (tBM0 K "list" rPop (tVar j)) tNil)) D σ H := by
  obtain ⟨h0, f, vs, hp, r⟩ := o.lst
  obtain ⟨h02, f2, ws, hq, r2⟩ := o2.lst
  refine ⟨_, hi, .inl ⟨rfl, _, SqL.of hp⟩, ?_⟩
  refine ⟨_, hj, .inl ⟨rfl, _, SqL.of hq⟩, ?_⟩
  unfold lastR at hQ
  cases z : ys.getLast? with
  | none => rw [z] at hQ; exact hQ.elim
  | some a =>
    rw [z] at hQ
    obtain ⟨y, hy, ry⟩ := all2_last r2 z
    refine ⟨q, ws, y, rfl, rfl, hq, hy, ?_⟩
    have n1 := nx_upd (o' := .lst ws.dropLast) hF (Same.refl H) hq f2
    have e1 := e0_upd (o' := .lst ws.dropLast) e0 (Same.refl _) h02
    have hp1 : upd H q (.lst ws.dropLast) p = some (.lst vs) := by rw [upd_ne ne]; exact hp
    have hQ : Wp (R.bd (R.bd (appR xs a) fun l => .ok (l, ys.dropLast)) k) kk (EE K E H0) := hQ
    unfold appR gd at hQ
    split at hQ
    · rename_i cl
      refine ⟨p, vs, y, rfl, rfl, hp1, lim_line' (by rw [r.length]; exact cl), ?_⟩
      have o1 := o.nx n1 ne
      have f1 : mix F H H p = none := by rw [mix_old hp]; exact f
      have n2 := nx_upd (o' := .lst (vs ++ [y])) n1.fh (Same.refl _) hp1 f1
      exact c _ _ _ _ _ _ n1 e1 (Own.of h02 (by rw [mix_old hq]; exact f2) upd_same (r2.mono fun _ _ x => Rp.mono (bs_ff n1.ff) x).dropLast) n2 (e0_upd e1 (Same.refl _) h0) (Own.of h0 (by rw [mix_old hp1]; exact f1) upd_same ((r.mono fun _ _ x => Rp.mono (bs_ff (n1.ff.trans n2.ff)) x).append (.cons (Rp.mono (bs_ff (n1.ff.trans n2.ff)) ry) .nil))) hQ
    · exact hQ.elim
theorem apo_bk {α : Type} [Rp α] [Tr α] {K : PySem.W.Frag} {F H : Hp} {S0 : Addr → Prop} {v : V} {a : α} (r : Tr.tr K H S0 v a) (h : ∀ b, S0 b → F b = none ∧ muc H b) : ApO K (delS S0 H) F H S0 v a := by
  obtain ⟨S, t, q⟩ := (apo_in r h).ex
  refine ⟨S, t, fun b z => ⟨(q b z).1.elim id fun w => ?_, (q b z).2⟩⟩
  obtain ⟨o, h1, _⟩ := (q b z).2.2.2
  rw [w] at h1
  cases h1
/-- return f(book, ..), where it is changed -/
theorem s_retMe {α S β : Type} [Rp α] {K : PySem.W.Frag} {E : XK} {σ : L2.St} {H0 F H : Hp} {te : TE} {D : Ends} {P : Addr → Prop} {J : Hp → Hp → S → Prop} {m : R (α × S)} {k : α × S → R β} {kk : β → Prop} (he : GrM K E te σ H0 F H P J m) (hQ : Wp (R.bd m k) kk (EE K E H0))
    (c : ∀ a s v F' H', Nx P F H F' H' → Same H0 H' → J F' H' s → Rp.rep K F' v a → Wp (k (a, s)) kk (EE K E H0) → D.rt v H') : tRet te D σ H :=
  he _ (by rw [wp_bd] at hQ; exact wp_mono hQ (fun z _ q v F' H' n e j r => c z.1 z.2 v F' H' n e j r q) fun c _ z => z)
theorem lin_id {S : Addr → Prop} {H : Hp} (q : Addr) (z : S q) : S q ∨ H q = none := .inl z
/-! ### lists of things of several kinds, told anew -/
section
variable {K : PySem.W.Frag} {E : XK} {σ : L2.St} {H0 F H : Hp} {te ta tb tc to : TE} {α β γ ρ : Type} [Rp α] [Rp β] [Rp γ] [Rp ρ] [Tr α] [Tr β] [Tr γ] {D : Ends} {SS : Addr → Prop} {v : V} {a : α}
theorem gx_dy [DyN α] [TrD α] {m : R α} (h : GrX K E te σ H m) : GrX K E te σ H (R.bd m fun a => .ok (DyN.dy a)) := fun H1 e Q hq =>
  h H1 e Q (by
    rw [wp_bd] at hq
    exact wp_mono hq (fun a _ k v H2 e2 ⟨S, r, n⟩ => k v H2 e2 ⟨S, TrD.to r, n⟩) fun _ _ z => z)
theorem gx_lst3 {ma mb mc : R α} (ha : GrX K E ta σ H ma) (hb : ∀ H2, Same H H2 → GrX K E tb σ H2 mb) (hc : ∀ H2, Same H H2 → GrX K E tc σ H2 mc) : GrX K E (tLst (tCons ta (tCons tb (tCons tc tNil)))) σ H (R.bd ma fun a => R.bd mb fun b => R.bd mc fun c => .ok [a, b, c]) := fun H1 e Q hq =>
  ha H1 e _ (by
    rw [wp_bd] at hq
    refine wp_mono hq (fun a _ k v H2 e2 ⟨S, r, n⟩ => ?_) fun _ _ z => z
    refine hb H2 (e.trans e2) H2 (Same.refl _) _ ?_
    rw [wp_bd] at k
    refine wp_mono k (fun b _ k w H3 e3 ⟨S2, r3, n3⟩ => ?_) fun _ _ z => z.mono e2
    refine hc H3 (e.trans (e2.trans e3)) H3 (Same.refl _) _ ?_
    rw [wp_bd] at k
    refine wp_mono k (fun c _ k x H4 e4 ⟨S3, r4, n4⟩ => ?_) fun _ _ z => z.mono (e2.trans e3)
    refine ⟨by show 3 ≤ sizeLine; decide, fun p hp => k _ _ (e2.trans (e3.trans (e4.trans (same_upd hp)))) ⟨fun b => (S b ∨ S2 b ∨ S3 b) ∨ b = p, ⟨p, [v, w, x], fun b => S b ∨ S2 b ∨ S3 b, rfl, upd_same, .inr rfl, fun b z => ⟨.inl z, ?_⟩, .cons (S1 := S) (S2 := fun b => S2 b ∨ S3 b) (fun b z => ⟨.inl z, fun y => y.elim (fun y => muc_some (n b z).2 (n3 b y).1) fun y => muc_some (muc_mono e3 (n b z).2) (n4 b y).1⟩) (fun _ z => .inr z) (Tr.mono (Agr.same (e3.trans (e4.trans (same_upd hp)))) r) (.cons (S1 := S2) (S2 := S3) (fun b z => ⟨.inl z, fun y => muc_some (n3 b z).2 (n4 b y).1⟩) (fun _ z => .inr z) (Tr.mono (Agr.same (e4.trans (same_upd hp))) r3) (.cons (S1 := S3) (S2 := fun _ => False) (fun b z => ⟨z, fun w => w⟩) (fun _ z => z.elim) (Tr.mono (Agr.same (same_upd hp)) r4) .nil))⟩, fun b z => ?_⟩⟩
    · intro y
      rw [y] at z
      rcases z with z | z | z
      · exact muc_some (muc_mono (e3.trans e4) (n p z).2) hp
      · exact muc_some (muc_mono e4 (n3 p z).2) hp
      · exact muc_some (n4 p z).2 hp
    · rcases z with (z | z | z) | z
      · exact ⟨(n b z).1, muc_mono (e3.trans (e4.trans (same_upd hp))) (n b z).2⟩
      · exact ⟨Same.free (e.trans e2) (n3 b z).1, muc_mono (e4.trans (same_upd hp)) (n3 b z).2⟩
      · exact ⟨Same.free (e.trans (e2.trans e3)) (n4 b z).1, muc_mono (same_upd hp) (n4 b z).2⟩
      · rw [z]; exact ⟨Same.free (e.trans (e2.trans (e3.trans e4))) hp, _, upd_same, rfl⟩)
theorem sub_un [DyN γ] [TrD γ] {d : Dy} {x : γ} {put : Dy → α} (s : Sub K to σ H v a d put) (h : DyN.un d = some x) : Sub K to σ H v a x (fun y => put (DyN.dy y)) := fun S r => by
  obtain ⟨w, S1, h1, h2, h3, h4⟩ := s S r
  exact ⟨w, S1, h1, TrD.of h2 h, h3, fun H' b' ag rb => h4 H' _ ag (TrD.to rb)⟩
theorem s_asgX {i : Nat} {m : R α} {k : α → R ρ} {kk : ρ → Prop} (he : GrX K E te σ H m) (hF : Same F H) (e0 : Same H0 H) (hQ : Wp (R.bd m k) kk (EE K E H0))
    (c : ∀ a v F' H' SS, Nx0 F H F' H' → Same H0 H' → ApO K H0 F' H' SS v a → (∀ q, SS q → H q = none) → (∀ q, SS q → H' q ≠ none) → Wp (k a) kk (EE K E H0) → D.nx (σ.set i (some v)) H') : tAsg te (gName i) D σ H :=
  s_asgAp (gx_apt he) hF e0 (by cases m <;> exact hQ) c
end
/-! ### tests that change a book -/
section
variable {K : PySem.W.Frag} {E : XK} {σ : L2.St} {H0 F H : Hp} {te : TE} {ρ S : Type} [Rp ρ] {D : Ends} {P : Addr → Prop} {J : Hp → Hp → S → Prop} {tu tw : TS}
theorem rne_int {a c : Int} {Q : VK} (h : Q (.bl (!decide (a = c))) H) : rNe (.int a) (.int c) H Q := by
  refine ⟨Sc.sc a c, ?_⟩
  rw [show decide (V.int a = V.int c) = decide (a = c) from decide_eq_decide.mpr ⟨fun z => by injection z, fun z => by rw [z]⟩]
  exact h
theorem gm_notNU {m : R (Unit × S)} (h : GrM K E te σ H0 F H P J m) : GrM K E (tNotN te) σ H0 F H P J (R.bd m fun z => .ok (false, z.2)) := fun Q hq =>
  h _ (by
    rw [wp_bd] at hq
    refine wp_mono hq (fun z _ k v F' H' n e j r => ?_) fun _ _ z => z
    obtain rfl : v = .non := r
    exact k _ F' H' n e j rfl)
theorem gm_neI {i : Nat} {c : Int} {m : R (Int × S)} (h : GrM K E te σ H0 F H P J m) (hi : σ[i]? = some (some (.int c))) : GrM K E (tOp rNe te (tVar i)) σ H0 F H P J (R.bd m fun z => .ok (!decide (z.1 = c), z.2)) := fun Q hq =>
  h _ (by
    rw [wp_bd] at hq
    refine wp_mono hq (fun z _ k v F' H' n e j r => ⟨_, hi, ?_⟩) fun _ _ z => z
    obtain rfl : v = .int z.1 := r
    exact rne_int (k _ F' H' n e j rfl))
theorem s_ifOrMT {u : TT} {m : R (Bool × S)} {k : Bool × S → R ρ} {kk : ρ → Prop} (he : GrM K E te σ H0 F H P J m) (hQ : Wp (R.bd m k) kk (EE K E H0))
    (h1 : ∀ s F' H', Nx P F H F' H' → Same H0 H' → J F' H' s → Wp (k (true, s)) kk (EE K E H0) → tu D σ H') (h2 : ∀ s F' H', Nx P F H F' H' → Same H0 H' → J F' H' s → Wp (k (false, s)) kk (EE K E H0) → tIfS u tu tw D σ H') : tIfS (tOr (tTest te) u) tu tw D σ H :=
  he _ (by
    rw [wp_bd] at hQ
    refine wp_mono hQ (fun z _ q v F' H' n e j r => ⟨z.1, r, ?_⟩) fun c _ z => z
    obtain ⟨b, s⟩ := z
    cases b with
    | true => exact h1 s F' H' n e j q
    | false => exact h2 s F' H' n e j q)
end
/-! ### own lists: clear, two pops at once, a pop unpacked, the length of one of two -/
section
variable {K : PySem.W.Frag} {E : XK} {σ : L2.St} {H0 F H : Hp} {α β ρ : Type} [Rp α] [Rp β] [Rp ρ] {b : Bool} {D : Ends} {ti : TE}
theorem s_clr {i : Nat} {p : Addr} {xs : List α} {k : List α → R ρ} {kk : ρ → Prop} (hi : σ[i]? = some (some (.ref p))) (o : Own K H0 b F H p xs) (hF : Same F H) (e0 : Same H0 H) (hQ : Wp (R.bd (.ok ([] : List α)) k) kk (EE K E H0))
    (c : ∀ xs' F' H', Nx (fun q => q = p) F H F' H' → Same H0 H' → Own K H0 b F' H' p xs' → Wp (k xs') kk (EE K E H0) → D.nx σ H') : tDrop (tBM0 K "list" rClear (tVar i)) D σ H := by
  obtain ⟨h0, f, vs, hp, r⟩ := o.lst
  refine ⟨_, hi, .inl ⟨rfl, _, SqL.of hp⟩, p, vs, rfl, rfl, hp, ?_⟩
  have n := nx_upd (o' := .lst []) hF (Same.refl H) hp f
  exact c [] _ _ n (e0_upd e0 (Same.refl _) h0) (Own.of h0 (by rw [mix_old hp]; exact f) upd_same .nil) hQ
/-- xs.append((ys.pop(), zs.pop())), all ours -/
theorem s_appPop2 {i j l : Nat} {p q r : Addr} {xs : List (α × β)} {ys : List α} {zs : List β} {k : List (α × β) × List α × List β → R ρ} {kk : ρ → Prop} (hi : σ[i]? = some (some (.ref p))) (hj : σ[j]? = some (some (.ref q))) (hl : σ[l]? = some (some (.ref r))) (o : Own K H0 false F H p xs) (o2 : Own K H0 false F H q ys) (o3 : Own K H0 false F H r zs) (pq : p ≠ q) (pr : p ≠ r) (qr : q ≠ r) (hF : Same F H) (e0 : Same H0 H)
    (hQ : Wp (R.bd (R.bd (lastR ys) fun y => R.bd (lastR zs) fun z => R.bd (appR xs (y.1, z.1)) fun l => .ok (l, y.2, z.2)) k) kk (EE K E H0))
    (c : ∀ xs' ys' zs' F' H', Nx (fun z => z = p ∨ z = q ∨ z = r ∨ False) F H F' H' → Same H0 H' → Own K H0 false F' H' p xs' → Own K H0 false F' H' q ys' → Own K H0 false F' H' r zs' → Wp (k (xs', ys', zs')) kk (EE K E H0) → D.nx σ H') :
    tDrop (tBM K "list" rAppend (tVar i) (tCons (tTup (tCons (tBM0 K "list" rPop (tVar j)) (tCons (tBM0 K "list" rPop (tVar l)) tNil))) tNil)) D σ H := by
  obtain ⟨h0, f, vs, hp, rp⟩ := o.lst
  obtain ⟨h02, f2, ws, hq, rq⟩ := o2.lst
  obtain ⟨h03, f3, us, hr, rr⟩ := o3.lst
  refine ⟨_, hi, .inl ⟨rfl, _, SqL.of hp⟩, ?_⟩
  refine ⟨_, hj, .inl ⟨rfl, _, SqL.of hq⟩, ?_⟩
  unfold lastR at hQ
  cases zy : ys.getLast? with
  | none => rw [zy] at hQ; exact hQ.elim
  | some a =>
    rw [zy] at hQ
    cases zz : zs.getLast? with
    | none => rw [zz] at hQ; exact hQ.elim
    | some d =>
      rw [zz] at hQ
      obtain ⟨y, hy, ry⟩ := all2_last rq zy
      obtain ⟨x, hx, rx⟩ := all2_last rr zz
      have hQ : Wp (R.bd (R.bd (appR xs (a, d)) fun l => .ok (l, ys.dropLast, zs.dropLast)) k) kk (EE K E H0) := hQ
      unfold appR gd at hQ
      split at hQ
      · rename_i cl
        refine ⟨q, ws, y, rfl, rfl, hq, hy, ?_⟩
        generalize hH1 : upd H q (.lst ws.dropLast) = H1
        have n1 := nx_upd (o' := .lst ws.dropLast) hF (Same.refl H) hq f2
        rw [hH1] at n1
        have e1 := e0_upd (o' := .lst ws.dropLast) e0 (Same.refl _) h02
        rw [hH1] at e1
        have o1p := o.nx n1 pq
        have o1r := o3.nx n1 qr.symm
        have o1q : Own K H0 false _ H1 q ys.dropLast := Own.of (F := mix F H H) h02 (by rw [mix_old hq]; exact f2) (by rw [← hH1]; exact upd_same) (rq.mono fun _ _ x => Rp.mono (bs_ff n1.ff) x).dropLast
        have hr1 : H1 r = some (.lst us) := by rw [← hH1, upd_ne qr.symm]; exact hr
        refine ⟨_, hl, .inl ⟨rfl, _, SqL.of hr1⟩, r, us, x, rfl, rfl, hr1, hx, ?_⟩
        generalize hH2 : upd H1 r (.lst us.dropLast) = H2
        have n2 := nx_upd (o' := .lst us.dropLast) n1.fh (Same.refl H1) hr1 o1r.f
        rw [hH2] at n2
        have e2 := e0_upd (o' := .lst us.dropLast) e1 (Same.refl _) h03
        rw [hH2] at e2
        have o2p := o1p.nx n2 pr
        have o2q := o1q.nx n2 qr
        have o2r : Own K H0 false _ H2 r zs.dropLast := Own.of (F := mix (mix F H H) H1 H1) h03 (by rw [mix_old hr1]; exact o1r.f) (by rw [← hH2]; exact upd_same) (rr.mono fun _ _ x => Rp.mono (bs_ff (n1.ff.trans n2.ff)) x).dropLast
        refine ⟨by show 2 ≤ sizeLine; decide, fun t ht => ?_⟩
        have e3 : Same H2 (upd H2 t (.tup [y, x])) := same_upd ht
        generalize hH3 : upd H2 t (.tup [y, x]) = H3
        rw [hH3] at e3
        have n3 := Nx.mk' n2.fh e3
        have o3p := o2p.nx0 n3
        have o3q := o2q.nx0 n3
        have o3r := o2r.nx0 n3
        have ht3 : mix (mix (mix F H H) H1 H1) H2 H3 t = some (.tup [y, x]) := by rw [mix_new ht, ← hH3]; exact upd_same
        have ff := n1.ff.trans (n2.ff.trans n3.ff)
        have rt : Rp.rep K (mix (mix (mix F H H) H1 H1) H2 H3) (.ref t) (a, d) := ⟨t, y, x, rfl, ht3, Rp.mono ff ry, Rp.mono ff rx⟩
        obtain ⟨_, f9, vs9, hp3, rp3⟩ := o3p.lst
        refine ⟨p, vs9, .ref t, rfl, rfl, hp3, lim_line' (by rw [rp3.length]; exact cl), ?_⟩
        have n4 := nx_upd (o' := .lst (vs9 ++ [.ref t])) n3.fh (Same.refl H3) hp3 f9
        have e4 := e0_upd (o' := .lst (vs9 ++ [.ref t])) (e2.trans e3) (Same.refl _) h0
        have nn : Nx (fun z => z = p ∨ z = q ∨ z = r ∨ False) F H _ _ := (((n1.wk fun z y => .inr (.inl y)).step n2 fun z y => .inl (.inr (.inr (.inl y)))).step n3 fun _ z => z.elim).step n4 fun z y => .inl (.inl y)
        exact c _ _ _ _ _ nn e4 (Own.of h0 (by rw [mix_old hp3]; exact f9) upd_same ((rp3.mono fun _ _ x => Rp.mono n4.ff x).append (.cons (Rp.mono n4.ff rt) .nil))) (o3q.nx n4 pq.symm) (o3r.nx n4 pr.symm) hQ
      · exact hQ.elim
/-- a, b = ys.pop() -/
theorem s_unpPop {i1 i2 j : Nat} {q : Addr} {ys : List (α × β)} {k : (α × β) × List (α × β) → R ρ} {kk : ρ → Prop} (hj : σ[j]? = some (some (.ref q))) (o : Own K H0 false F H q ys) (hF : Same F H) (e0 : Same H0 H)
    (hQ : Wp (R.bd (lastR ys) k) kk (EE K E H0))
    (c : ∀ a d v w ys' F' H', Nx (fun z => z = q) F H F' H' → Same H0 H' → Own K H0 false F' H' q ys' → Rp.rep K F' v a → Rp.rep K F' w d → Wp (k ((a, d), ys')) kk (EE K E H0) → D.nx ((σ.set i1 (some v)).set i2 (some w)) H') :
    tAsg (tBM0 K "list" rPop (tVar j)) (gTup K 2 (gCons (gName i1) (gCons (gName i2) gNil))) D σ H := by
  obtain ⟨h02, f2, ws, hq, rq⟩ := o.lst
  refine ⟨_, hj, .inl ⟨rfl, _, SqL.of hq⟩, ?_⟩
  unfold lastR at hQ
  cases zy : ys.getLast? with
  | none => rw [zy] at hQ; exact hQ.elim
  | some a =>
    rw [zy] at hQ
    obtain ⟨y, hy, ry⟩ := all2_last rq zy
    have n1 := nx_upd (o' := .lst ws.dropLast) hF (Same.refl H) hq f2
    have e1 := e0_upd (o' := .lst ws.dropLast) e0 (Same.refl _) h02
    obtain ⟨t, xa, xb, rfl, ht, ra, rb⟩ := ry
    have ht2 := n1.fh _ _ (n1.ff _ _ ht)
    exact ⟨q, ws, .ref t, rfl, rfl, hq, hy, t, _, rfl, SqT.of ht2, rfl, xa, _, rfl, xb, _, rfl, rfl, c a.1 a.2 xa xb _ _ _ n1 e1 (Own.of h02 (by rw [mix_old hq]; exact f2) upd_same (rq.mono fun _ _ x => Rp.mono (bs_ff n1.ff) x).dropLast) (Rp.mono n1.ff ra) (Rp.mono n1.ff rb) hQ⟩
/-- len([xs, ys][i]) -/
theorem g_lenIx2 {i j : Nat} {p q : Addr} {xs : List α} {ys : List β} {mi : R Int} (hi : σ[i]? = some (some (.ref p))) (hj : σ[j]? = some (some (.ref q))) (ox : Own K H0 b F H p xs) (oy : Own K H0 b F H q ys) (h : Gr K E ti σ F H mi) :
    Gr K E (tCB (rLen K) (tCons (tOp (rIxL K) (tLst (tCons (tVar i) (tCons (tVar j) tNil))) ti) tNil)) σ F H (R.bd mi fun n => idx [(xs.length : Int), (ys.length : Int)] n) := fun H1 e Q hq => by
  obtain ⟨_, _, vs, hp, rp⟩ := ox.lst
  obtain ⟨_, _, ws, hq', rq⟩ := oy.lst
  refine ⟨_, hi, _, hj, by show 2 ≤ sizeLine; decide, fun l hl => ?_⟩
  have eL := same_upd (o := .lst [V.ref p, V.ref q]) hl
  refine h _ (e.trans eL) _ ?_
  rw [wp_bd] at hq
  refine wp_mono hq (fun n _ k v H2 e2 rn => ?_) fun c _ z => z.mono eL
  obtain rfl : v = .int n := rn
  have hl2 := e2 l (.lst [V.ref p, V.ref q]) upd_same
  unfold idx at k
  cases z : atI [(xs.length : Int), (ys.length : Int)] n with
  | none => rw [z] at k; exact k.elim
  | some m =>
    rw [z] at k
    have e9 : Same H H2 := e.trans (eL.trans e2)
    have hpp := e9 _ _ hp
    have hqq := e9 _ _ hq'
    have fin : ∀ x us, H2 x = some (.lst us) → (us.length : Int) = m → atI [V.ref p, V.ref q] n = some (.ref x) → _ := fun x us hu hm hx =>
      (⟨l, _, n, .ref x, rfl, rfl, SqL.of hl2, hx, x, us, rfl, .inl (SqL.of hu), by rw [hm]; exact k _ H2 (eL.trans e2) rfl⟩ : rIxL K (.ref l) (.int n) H2 fun x H3 => tNil σ H3 fun vs H4 => rLen K (x :: vs) H4 Q)
    have hx : ∀ (A B : V) (a b : Int), (atI [a, b] n = some m) → ((atI [A, B] n = some A ∧ m = a) ∨ (atI [A, B] n = some B ∧ m = b)) := fun A B a b hh => by
      have hh : (ixN 2 n).bind (fun j => [a, b][j]?) = some m := hh
      show ((ixN 2 n).bind (fun j => [A, B][j]?) = some A ∧ m = a) ∨ ((ixN 2 n).bind (fun j => [A, B][j]?) = some B ∧ m = b)
      cases u : ixN 2 n with
      | none => rw [u] at hh; cases hh
      | some k =>
        rw [u] at hh
        match k with
        | 0 => exact .inl ⟨rfl, by injection hh with hh; exact hh.symm⟩
        | 1 => exact .inr ⟨rfl, by injection hh with hh; exact hh.symm⟩
        | k + 2 => simp at hh
    rcases hx (.ref p) (.ref q) _ _ z with ⟨h1, h2⟩ | ⟨h1, h2⟩
    · exact fin p vs hpp (by rw [rp.length, h2]) h1
    · exact fin q ws hqq (by rw [rq.length, h2]) h1
end
/-! ### changes of a book by which a refusal leaves all as it was -/
section
variable {K : PySem.W.Frag} {E : XK} {σ : L2.St} {Hb H0 F H : Hp} {te ta to : TE} {α β ρ S : Type} [Rp α] [Rp β] [Rp ρ] {D : Ends} {P SS : Addr → Prop} {J : Hp → Hp → S → Prop} {v : V} {b : Bk} {Ex : L2.St → XK} {nm : Str}
def GrM2 {α S : Type} [Rp α] (K : PySem.W.Frag) (E : XK) (te : TE) (σ : L2.St) (H0 F H : Hp) (P : Addr → Prop) (J : Hp → Hp → S → Prop) (m : R (α × S)) : Prop :=
  ∀ Q : VK, Wp m (fun z => ∀ v F' H', Nx P F H F' H' → Same H0 H' → J F' H' z.2 → Rp.rep K F' v z.1 → Q v H') (EE K E H) → te σ H Q
theorem gm2_dy [DyN α] {m : R (α × S)} (h : GrM2 K E te σ H0 F H P J m) : GrM2 K E te σ H0 F H P J (R.bd m fun z => .ok (DyN.dy z.1, z.2)) := fun Q hq =>
  h _ (by
    rw [wp_bd] at hq
    exact wp_mono hq (fun z _ k v F' H' n e j r => k v F' H' n e j (DyN.to r)) fun _ _ z => z)
theorem s_asgM2 {i : Nat} {m : R (α × S)} {k : α × S → R β} {kk : β → Prop} (he : GrM2 K E te σ H0 F H P J m) (eb : Same Hb H) (hQ : Wp (R.bd m k) kk (EE K E Hb))
    (c : ∀ a s v F' H', Nx P F H F' H' → Same H0 H' → J F' H' s → Rp.rep K F' v a → Wp (k (a, s)) kk (EE K E Hb) → D.nx (σ.set i (some v)) H') : tAsg te (gName i) D σ H :=
  he _ (by rw [wp_bd] at hQ; exact wp_mono hQ (fun z _ q v F' H' n e j r => c z.1 z.2 v F' H' n e j r q) fun c _ z => z.mono eb)
theorem s_retM2 {m : R (α × S)} {k : α × S → R β} {kk : β → Prop} (he : GrM2 K E te σ H0 F H P J m) (eb : Same Hb H) (hQ : Wp (R.bd m k) kk (EE K E Hb))
    (c : ∀ a s v F' H', Nx P F H F' H' → Same H0 H' → J F' H' s → Rp.rep K F' v a → Wp (k (a, s)) kk (EE K E Hb) → D.rt v H') : tRet te D σ H :=
  he _ (by rw [wp_bd] at hQ; exact wp_mono hQ (fun z _ q v F' H' n e j r => c z.1 z.2 v F' H' n e j r q) fun c _ z => z.mono eb)
theorem g_bk0s {f : Bk → R (ρ × Bk)} (A : ApO K H0 F H SS v b) (hv : AtV to σ H v) (hF : Same F H) (e0 : Same H0 H) (hE : Ex σ = E := by rfl) (h1 : ¬ nm = "boards" := by decide +kernel) (h2 : ¬ nm = "deeds" := by decide +kernel) (h3 : ¬ nm = "gone" := by decide +kernel) :
    GrM2 K E (tMeS (bC K) nm (spBk0 K f) Ex to tNil) σ H0 F H (fun q => (SS q ∧ tupB (H q) = false) ∨ False) (BkJ K H0 H SS v) (f b) := by
  subst hE
  intro Q hq
  refine hv H (Same.refl _) _ ?_
  obtain ⟨S, r, hS⟩ := A.ex
  obtain ⟨p, pb, pd, pg, rfl, c⟩ := id r
  obtain ⟨dx, hp⟩ := c.hp
  exact ⟨p, dx, _, rfl, hp, bf_no h1 h2 h3, .ref p, b, S, F, rfl, hF, r, fun q z => ⟨(hS q z).2.1, (hS q z).2.2.2⟩, wp_mono hq (fun z _ k v' F' H' S' n r' hS' rv => k v' F' H' (n.wk fun q z => .inl ⟨(hS q z).1, muc_tb (hS q z).2.2.2⟩) (n.e0 e0 fun q z => (hS q z).2.2.1) (bkj_of e0 hS r' hS') rv) fun c _ z => z⟩
theorem g_bk1s {f : Bk → α → R (ρ × Bk)} {ma : R α} (ha : Gr K E ta σ F H ma) (A : ApO K H0 F H SS v b) (hv : AtV to σ H v) (hF : Same F H) (e0 : Same H0 H) (hE : Ex σ = E := by rfl) (h1 : ¬ nm = "boards" := by decide +kernel) (h2 : ¬ nm = "deeds" := by decide +kernel) (h3 : ¬ nm = "gone" := by decide +kernel) :
    GrM2 K E (tMeS (bC K) nm (spBk1 K f) Ex to (tCons ta tNil)) σ H0 F H (fun q => (SS q ∧ tupB (H q) = false) ∨ False) (BkJ K H0 H SS v) (R.bd ma fun a => f b a) := by
  subst hE
  intro Q hq
  refine hv H (Same.refl _) _ ?_
  obtain ⟨S, r, hS⟩ := A.ex
  obtain ⟨p, pb, pd, pg, rfl, c⟩ := id r
  obtain ⟨dx, hp⟩ := c.hp
  refine ⟨p, dx, _, rfl, hp, bf_no h1 h2 h3, gm_arg ha (Same.refl _) (Same.refl _) hq fun a w H1 e1 ra hq => ?_⟩
  have n0 := Nx.mk' hF e1
  refine ⟨.ref p, w, b, a, S, mix F H H1, rfl, mix_same hF e1, Tr.mono (Agr.same e1) r, fun q z => ⟨?_, muc_mono e1 (hS q z).2.2.2⟩, ra, wp_mono hq (fun z _ k v' F' H' S' n r' hS' rv => k v' F' H' ((n0.tr n).wk fun q z => .inl ⟨(hS q z).1, muc_tb (hS q z).2.2.2⟩) (n.e0 (e0.trans e1) fun q z => (hS q z).2.2.1) (bkj_of e0 hS r' fun q z => ⟨(hS' q z).1.imp id fun w => Same.free e1 w, (hS' q z).2⟩) rv) fun c _ z => z.mono e1⟩
  obtain ⟨u, h4, h5⟩ := (hS q z).2.2.2
  rw [mix_old h4 h5]
  exact (hS q z).2.1
end
/-! ### a word and a copied list of a told pair, not frozen yet (k26) -/
def pr26 : Dy → R (Str × List Dy)
  | .tup [.str w, .lst l] => .ok (w, l)
  | _ => .bad
/-- the list [w, a] at q, a the copy of a list of any kind -/
structure Raw2 (H0 F H : Hp) (q a : Addr) (w : Str) (l : List Dy) : Prop where
  hq : H q = some (.lst [.str w, .ref a])
  q0 : H0 q = none
  qf : F q = none
  ha : ∃ ws, H a = some (.lst ws) ∧ dyRs H l ws
  a0 : H0 a = none
  af : F a = none
  ne : q ≠ a
section
variable {K : PySem.W.Frag} {E : XK} {σ : L2.St} {H0 F H F' H' : Hp} {te ti to : TE} {α β γ ρ : Type} [Rp α] [Rp β] [Rp γ] [Rp ρ] [Tr α] {D : Ends} {SS : Addr → Prop} {v : V} {q a : Addr} {w : Str} {l : List Dy}
theorem Raw2.nx0 (r : Raw2 H0 F H q a w l) (n : Nx0 F H F' H') : Raw2 H0 F' H' q a w l := by
  obtain ⟨ws, h1, h2⟩ := r.ha
  exact ⟨n.same _ _ r.hq, r.q0, n.own q _ rfl r.hq r.qf, ⟨ws, n.same _ _ h1, dyRs_mono n.same h2⟩, r.a0, n.own a _ rfl h1 r.af, r.ne⟩
theorem s_kept26 {i n : Nat} {told : Dy} {k : Str × List Dy → R ρ} {kk : ρ → Prop} (o : ApO K H0 F H SS v told) (hv : σ[n]? = some (some v)) (hF : Same F H) (e0 : Same H0 H) (hQ : Wp (R.bd (pr26 told) k) kk (EE K E H0))
    (c : ∀ w l q a F' H', Nx0 F H F' H' → Same H0 H' → H q = none → H a = none → Raw2 H0 F' H' q a w l → Wp (k (w, l)) kk (EE K E H0) → D.nx (σ.set i (some (.ref q))) H') :
    tAsg (tLst (tCons (tOp (rIxT K) (tVar n) (tC (.int 0))) (tCons (tCB (rListOf K) (tCons (tOp (rIxT K) (tVar n) (tC (.int 1))) tNil)) tNil))) (gName i) D σ H := by
  obtain ⟨S, r, hS⟩ := o.ex
  have hh : ∃ w l, told = .tup [.str w, .lst l] := by
    unfold pr26 at hQ
    split at hQ
    · exact ⟨_, _, rfl⟩
    · exact hQ.elim
  obtain ⟨w, l, rfl⟩ := hh
  obtain ⟨p, vs, rfl, hp, x, r1, S1, S2, rfl, d1, d2, hx, y, r2, S3, S4, rfl, d3, d4, hy, h9⟩ := id r
  obtain rfl : r2 = [] := h9
  obtain rfl : x = .str w := hx
  obtain ⟨p1, ws, S5, rfl, hp1, _, _, hws⟩ := hy
  refine ⟨_, hv, p, _, 0, .str w, rfl, rfl, SqT.of hp, rfl, _, hv, p, _, 1, .ref p1, rfl, rfl, SqT.of hp, rfl, p1, ws, rfl, .inl (SqL.of hp1), fun a ha => ?_⟩
  have eA := same_upd (o := .lst ws) ha
  refine ⟨by show 2 ≤ sizeLine; decide, fun q hq => ?_⟩
  have qa : q ≠ a := fun z => by rw [z, upd_same] at hq; cases hq
  have eQ := same_upd (o := .lst [.str w, .ref a]) hq
  have hq0 : H q = none := by rw [upd_ne qa] at hq; exact hq
  have e := eA.trans eQ
  have n : Nx0 F H F _ := ⟨Same.refl _, fun b o _ h => e b o h, hF.trans e, fun _ _ _ _ n => n, fun b o h => ⟨o, e b o h, rfl⟩⟩
  exact c w l q a _ _ n (e0.trans e) hq0 ha ⟨upd_same, Same.free e0 hq0, Same.free hF hq0, ⟨ws, by rw [upd_ne qa.symm]; exact upd_same, dyRs_mono e (dyAs_rep hws)⟩, Same.free e0 ha, Same.free hF ha, qa⟩ hQ
/-- the way: its parts are tuples -/
theorem Raw2.way (r : Raw2 H0 F H q a w l) (hF : Same F H) {plan : List (Str × Int)} (h : DyN.un (Dy.lst l) = some plan) : Own K H0 false (tupF F H) H a plan := by
  obtain ⟨ws, h1, h2⟩ := r.ha
  have rr : Rp.rep K H (.ref a) plan := DyN.of (K := K) (d := .lst l) ⟨a, ws, rfl, h1, h2⟩ h
  obtain ⟨a', us, e, h3, h4⟩ := rr
  cases e
  rw [h1] at h3
  cases h3
  refine Own.of r.a0 (tupF_none (by rw [h1]; rfl) r.af) h1 (h4.mono fun x y z => ?_)
  obtain ⟨t, xa, xb, rfl, ht, ra, rb⟩ := z
  exact ⟨t, xa, xb, rfl, tupF_tup ht, ra, rb⟩
theorem Raw2.fin (r : Raw2 H0 F H q a w l) {F2 : Hp} {plan : List (Str × Int)} (f3 : ∀ b, b ≠ a → F2 b = F b) (rp : Rp.rep K F2 (.ref a) plan) : Own K H0 false F2 H q [Dy.str w, DyN.dy plan] :=
  Own.of r.q0 (by rw [f3 q r.ne]; exact r.qf) r.hq (.cons rfl (.cons (DyN.to rp) .nil))
theorem s_setRaw2 {i : Nat} [DyN α] {m : R α} {k : List Dy → R ρ} {kk : ρ → Prop} (r : Raw2 H0 F H q a w l) (hi : σ[i]? = some (some (.ref q))) (he : Gr K E te σ F H m) (hF : Same F H) (e0 : Same H0 H)
    (hQ : Wp (R.bd (R.bd m fun x => .ok [Dy.str w, DyN.dy x]) k) kk (EE K E H0))
    (c : ∀ xs F' H', Nx (fun z => z = q) F H F' H' → Same H0 H' → Own K H0 false F' H' q xs → Wp (k xs) kk (EE K E H0) → D.nx σ H') : tAsg te (gSub (tVar i) (tC (.int 1)) rSetL) D σ H := by
  refine he H (Same.refl _) _ ?_
  rw [bd_assoc, wp_bd] at hQ
  refine wp_mono hQ (fun x _ z v H2 e2 rv => ?_) fun c _ z => z.mono e0
  have hq2 := e2 _ _ r.hq
  refine ⟨_, hi, q, _, 1, 1, rfl, rfl, hq2, rfl, ?_⟩
  have n := nx_upd (o' := .lst [.str w, v]) hF e2 r.hq r.qf
  exact c _ _ _ n (e0_upd e0 e2 r.q0) (Own.of r.q0 (by rw [mix_old r.hq]; exact r.qf) upd_same (.cons rfl (.cons (DyN.to rv) .nil))) z
/-- t[..].append(e), and t is no more -/
theorem s_apDieS {t : α} {ys : List γ} {put : List γ → α} [Tr γ] {me : R β} {k : Unit → R ρ} {kk : ρ → Prop} (o : ApO K H0 F H SS v t) (s : Sub K to σ H v t ys put) (he : Gr K E te σ H H me) (hF : Same F H) (e0 : Same H0 H)
    (hQ : Wp (R.bd (R.bd me fun _ => gd (ys.length < lim) (.ok ())) k) kk (EE K E H0))
    (c : ∀ q F' H', Nx (fun z => z = q) F H F' H' → Same H0 H' → SS q → tupB (H q) = false → Wp (k ()) kk (EE K E H0) → D.nx σ H') : tDrop (tBM K "list" rAppend to (tCons te tNil)) D σ H := by
  obtain ⟨S, r, hS⟩ := o.ex
  obtain ⟨w, S1, h1, h2, h3, h4⟩ := s S r
  obtain ⟨p, vs, A, rfl, hp, hSp, hA, t⟩ := h2
  have sp := hS p (h3 p hSp)
  refine h1 H (Same.refl _) _ ⟨.inl ⟨rfl, _, SqL.of hp⟩, ?_⟩
  refine he H (Same.refl _) _ ?_
  rw [bd_assoc, wp_bd] at hQ
  refine wp_mono hQ (fun e _ q u H2 e2 re => ?_) fun c _ z => z.mono e0
  rw [wp_bd] at q
  have len : vs.length = ys.length := (t.all (F := fun _ _ => True) fun _ _ _ _ => trivial).length
  unfold gd at q
  split at q
  · rename_i cl
    have hp2 := e2 _ _ hp
    exact ⟨p, vs, u, rfl, rfl, hp2, lim_line' (by rw [len]; exact cl), c p _ _ (nx_upd (o' := .lst (vs ++ [u])) hF e2 hp sp.2.1) (e0_upd e0 e2 sp.2.2.1) sp.1 (by rw [hp]; rfl) q⟩
  · exact q.elim
end
end G

set_option Elab.async false
set_option linter.all false
set_option maxRecDepth 100000
set_option maxHeartbeats 2000000
/-! G: plain words for the plain laws. -/
namespace G
open PySem PySem.Spec PyProof.Rows L2
theorem gd_dec {α : Type} {c : Prop} [Decidable c] {m : R α} : gd c m = if c then m else .bad := by
  by_cases h : c
  · rw [gd_pos h, if_pos h]
  · rw [if_neg h]; unfold gd; exact if_neg h
theorem ixN_ok {n : Nat} {i : Int} (h0 : 0 ≤ i) (h1 : i < n) : ixN n i = some i.toNat := by
  unfold ixN
  rw [if_pos h0, if_pos h1]
theorem atI_ok {α : Type} {xs : List α} {i : Int} (h0 : 0 ≤ i) (h1 : i < xs.length) : atI xs i = xs[i.toNat]? := by
  unfold atI
  rw [ixN_ok h0 h1]
  rfl
theorem idx_ok {α : Type} {xs : List α} {i : Int} {a : α} (h0 : 0 ≤ i) (h : xs[i.toNat]? = some a) : idx xs i = .ok a := by
  obtain ⟨h1, h2⟩ := List.getElem?_eq_some_iff.mp h
  unfold idx
  rw [atI_ok h0 (by omega), h]
theorem idx_at {α : Type} {xs : List α} {i : Int} (h0 : 0 ≤ i) (h1 : i < xs.length) : idx xs i = .ok (xs[i.toNat]'(by omega)) := idx_ok h0 (List.getElem?_eq_getElem _)
theorem idx_nat {α : Type} {xs : List α} {i : Nat} {a : α} (h : xs[i]? = some a) : idx xs (i : Int) = .ok a := idx_ok (by omega) (by simpa using h)
theorem idx_last {α : Type} {xs : List α} {a : α} (h : xs.getLast? = some a) : idx xs (-1) = .ok a := by
  cases xs with
  | nil => cases h
  | cons x l =>
    unfold idx atI ixN
    rw [if_neg (by omega), if_pos (by simp; omega)]
    have e : ((-1 : Int) + ((x :: l).length : Int)).toNat = (x :: l).length - 1 := by simp only [List.length_cons]; omega
    rw [e]
    rw [List.getLast?_eq_getElem?] at h
    show (match (some ((x :: l).length - 1)).bind (fun j => (x :: l)[j]?) with | some a => R.ok a | none => .bad) = _
    rw [Option.bind_some, h]
theorem setR_ok {α : Type} {xs : List α} {i : Int} {a : α} (h0 : 0 ≤ i) (h1 : i < xs.length) : setR xs i a = .ok (xs.set i.toNat a) := by
  unfold setR
  rw [ixN_ok h0 h1]
theorem setR_nat {α : Type} {xs : List α} {i : Nat} {a : α} (h1 : i < xs.length) : setR xs (i : Int) a = .ok (xs.set i a) := by
  rw [setR_ok (by omega) (by omega)]
  simp
theorem modR_ok {a b : Int} (h : 0 < b) : modR a b = .ok (a % b) := gd_pos h
theorem divR_ok {a b : Int} {w : Nat} (h : 0 < b) (hb : b < 2 ^ w) (h0 : 0 < w) (h9 : w ≤ 9000) : divR a b = .ok (a / b) := gd_pos (wide_div h (b := w) (by
  have : (b.natAbs : Int) = b := Int.natAbs_of_nonneg (by omega)
  have h2 : ((2 ^ w : Nat) : Int) = (2 : Int) ^ w := by simp
  omega) h0 h9)
theorem natAbs_lt {a : Int} {w : Nat} (h0 : 0 ≤ a) (h : a < 2 ^ w) : a.natAbs < 2 ^ w := by
  have h2 : ((2 ^ w : Nat) : Int) = (2 : Int) ^ w := by simp
  omega
theorem mulR_ok {a b : Int} {w v : Nat} (h0 : 0 ≤ a) (h1 : a < 2 ^ w) (h2 : 0 ≤ b) (h3 : b < 2 ^ v) (h4 : 0 < w) (h5 : 0 < v) (h6 : w + v ≤ 134000000) : mulR a b = .ok (a * b) := gd_pos (wide_mulV (natAbs_lt h0 h1) (natAbs_lt h2 h3) h4 h5 h6)
theorem cut_take {α : Type} {l : List α} {n : Int} (h0 : 0 ≤ n) (h1 : n ≤ l.length) : cut l none (some n) = l.take n.toNat := by
  obtain ⟨k, rfl⟩ : ∃ k : Nat, n = (k : Int) := ⟨n.toNat, by omega⟩
  unfold cut
  rw [HT.sIx_nat, HT.sIx_none, Nat.min_eq_left (by omega)]
  simp
theorem cut_drop {α : Type} {l : List α} {n : Int} (h0 : 0 ≤ n) (h1 : n ≤ l.length) : cut l (some n) none = l.drop n.toNat := by
  obtain ⟨k, rfl⟩ : ∃ k : Nat, n = (k : Int) := ⟨n.toNat, by omega⟩
  unfold cut
  rw [HT.sIx_nat, HT.sIx_none, Nat.min_eq_left (by omega)]
  rw [Int.toNat_natCast, List.take_of_length_le (by simp)]
theorem popR_ok {α : Type} {l : List α} (h : 0 < l.length) : popR l = .ok l.dropLast := by
  cases l with
  | nil => simp at h
  | cons x l => rfl
theorem appR_ok {α : Type} {xs : List α} {a : α} (h : xs.length < lim) : appR xs a = .ok (xs ++ [a]) := gd_pos h
theorem rng1_ok {n : Int} (h0 : 0 ≤ n) (h : n ≤ 1000000000) : rng1 n = .ok (rngL 0 n) := gd_pos ⟨by omega, by omega⟩
theorem rng2_ok {a b : Int} (h0 : 0 ≤ a) (h : a ≤ 1000000000) (h2 : 0 ≤ b) (h3 : b ≤ 1000000000) : rng2 a b = .ok (rngL a b) := gd_pos ⟨⟨by omega, by omega⟩, by omega, by omega⟩
theorem rng3D_ok {a b : Int} (h0 : 0 ≤ a) (h : a ≤ 1000000000) (h2 : 0 ≤ b) (h3 : b ≤ 1000000000) : rng3D a b = .ok (rngD a b) := gd_pos ⟨⟨by omega, by omega⟩, by omega, by omega⟩
theorem rngL_at {lo hi : Int} {i : Nat} {x : Int} (h : (rngL lo hi)[i]? = some x) : x = lo + i ∧ x < hi := by
  have h1 : i < (hi - lo).toNat := by
    have := (List.getElem?_eq_some_iff.mp h).1
    rw [rngL_len] at this
    exact this
  rw [rngL_get h1] at h
  cases h
  exact ⟨rfl, by omega⟩
theorem rngL_nil {lo hi : Int} (h : hi ≤ lo) : rngL lo hi = [] := by
  apply List.eq_nil_of_length_eq_zero
  rw [rngL_len]
  omega
theorem repR_ok {α : Type} {a : α} {k : Int} (h0 : 0 ≤ k) (h : k ≤ 10000000) : repR [a] k = .ok (List.replicate k.toNat a) := by
  unfold repR
  rw [gd_pos ⟨by omega, by omega, by unfold lim; simp; omega⟩]
  congr 1
  generalize k.toNat = n
  induction n with
  | zero => rfl
  | succ n ih => rw [List.replicate_succ, List.flatten_cons, ih]; rfl
theorem repR_neg {α : Type} {xs : List α} {k : Int} (h0 : k ≤ 0) (h : -10000000 ≤ k) : repR xs k = .ok [] := by
  unfold repR
  have : k.toNat = 0 := by omega
  rw [this, gd_pos ⟨by omega, by omega, by simp⟩]
  rfl
theorem catG {α : Type} {xs ys : List α} (h : xs.length + ys.length ≤ lim) : gd (xs.length + ys.length ≤ lim) (.ok (xs ++ ys)) = .ok (xs ++ ys) := gd_pos h
theorem forS_ok {α S : Type} {body : α → S → R S} (I : Nat → S → Prop) : ∀ (xs : List α) (n : Nat) (s : S), I n s → (∀ i x s, xs[i]? = some x → I (n + i) s → ∃ s', body x s = .ok s' ∧ I (n + i + 1) s') → ∃ s', forS body xs s = .ok s' ∧ I (n + xs.length) s'
  | [], n, s, h, _ => ⟨s, rfl, h⟩
  | x :: l, n, s, h, st => by
    obtain ⟨s1, e1, h1⟩ := st 0 x s rfl h
    obtain ⟨s2, e2, h2⟩ := forS_ok I l (n + 1) s1 h1 fun i y s hy hs => by
      have := st (i + 1) y s (by simpa using hy) (by rw [show n + (i + 1) = n + 1 + i by omega]; exact hs)
      rw [show n + (i + 1) + 1 = n + 1 + i + 1 by omega] at this
      exact this
    refine ⟨s2, ?_, by rw [List.length_cons, show n + (l.length + 1) = n + 1 + l.length by omega]; exact h2⟩
    show R.bd (body x s) (fun s' => forS body l s') = _
    rw [e1]
    exact e2
theorem forS_inv {α S : Type} {body : α → S → R S} {xs : List α} {s : S} (I : Nat → S → Prop) (h : I 0 s) (st : ∀ i x s, xs[i]? = some x → I i s → ∃ s', body x s = .ok s' ∧ I (i + 1) s') : ∃ s', forS body xs s = .ok s' ∧ I xs.length s' := by
  obtain ⟨s', e, q⟩ := forS_ok I xs 0 s h fun i x s hx hs => by
    rw [Nat.zero_add] at hs ⊢
    exact st i x s hx hs
  exact ⟨s', e, by rw [Nat.zero_add] at q; exact q⟩
theorem forR_ok {α S ρ : Type} {body : α → S → R (Fl S ρ)} (I : Nat → S → Prop) : ∀ (xs : List α) (n : Nat) (s : S), I n s → (∀ i x s, xs[i]? = some x → I (n + i) s → ∃ s', body x s = .ok (.go s') ∧ I (n + i + 1) s') → ∃ s', forR body xs s = .ok (.go s') ∧ I (n + xs.length) s'
  | [], n, s, h, _ => ⟨s, rfl, h⟩
  | x :: l, n, s, h, st => by
    obtain ⟨s1, e1, h1⟩ := st 0 x s rfl h
    obtain ⟨s2, e2, h2⟩ := forR_ok I l (n + 1) s1 h1 fun i y s hy hs => by
      have := st (i + 1) y s (by simpa using hy) (by rw [show n + (i + 1) = n + 1 + i by omega]; exact hs)
      rw [show n + (i + 1) + 1 = n + 1 + i + 1 by omega] at this
      exact this
    refine ⟨s2, ?_, by rw [List.length_cons, show n + (l.length + 1) = n + 1 + l.length by omega]; exact h2⟩
    unfold forR
    rw [e1]
    exact e2
theorem forR_inv {α S ρ : Type} {body : α → S → R (Fl S ρ)} {xs : List α} {s : S} (I : Nat → S → Prop) (h : I 0 s) (st : ∀ i x s, xs[i]? = some x → I i s → ∃ s', body x s = .ok (.go s') ∧ I (i + 1) s') : ∃ s', forR body xs s = .ok (.go s') ∧ I xs.length s' := by
  obtain ⟨s', e, q⟩ := forR_ok I xs 0 s h fun i x s hx hs => by
    rw [Nat.zero_add] at hs ⊢
    exact st i x s hx hs
  exact ⟨s', e, by rw [Nat.zero_add] at q; exact q⟩
/-- every turn goes on, nothing is carried -/
theorem forR_all {α ρ : Type} {body : α → Unit → R (Fl Unit ρ)} {xs : List α} (st : ∀ x ∈ xs, body x () = .ok (.go ())) : forR body xs () = .ok (.go ()) := by
  obtain ⟨s', e, _⟩ := forR_inv (body := body) (xs := xs) (s := ()) (fun _ _ => True) trivial fun i x s hx _ => ⟨(), st x (List.mem_of_getElem? hx), trivial⟩
  cases s'
  exact e
theorem compGo_ok {α β : Type} {f : α → R β} {g : α → β} : ∀ {xs : List α}, (∀ x ∈ xs, f x = .ok (g x)) → compGo (fun _ => .ok true) f xs = .ok (xs.map g)
  | [], _ => rfl
  | x :: l, h => by
    unfold compGo
    rw [h x (by simp)]
    show R.bd (compGo _ f l) _ = _
    rw [compGo_ok fun y hy => h y (by simp [hy])]
    rfl
theorem compR_ok {α β : Type} {f : α → R β} {g : α → β} {xs : List α} (hl : xs.length ≤ lim) (h : ∀ x ∈ xs, f x = .ok (g x)) : compR xs (fun _ => .ok true) f = .ok (xs.map g) := by
  unfold compR
  rw [gd_pos hl, compGo_ok h]
theorem minR_nn {xs : List Int} (h : xs ≠ []) (hp : ∀ x ∈ xs, 0 ≤ x) : ∃ m, minR xs = .ok m ∧ 0 ≤ m := by
  unfold minR
  cases e : xs.min? with
  | none => exact absurd (List.min?_eq_none_iff.mp e) h
  | some m => exact ⟨m, rfl, hp m (List.min?_eq_some_iff.mp e).1⟩
theorem sum_le {xs : List Int} {b : Int} (h : ∀ x ∈ xs, x ≤ b) : xs.sum ≤ xs.length * b := by
  induction xs with
  | nil => simp
  | cons x l ih =>
    rw [List.sum_cons, List.length_cons]
    have h1 := h x (by simp)
    have h2 := ih fun y hy => h y (by simp [hy])
    have : ((l.length + 1 : Nat) : Int) * b = l.length * b + b := by rw [Int.natCast_add, Int.add_mul]; simp
    omega
theorem sum_nn {xs : List Int} (h : ∀ x ∈ xs, 0 ≤ x) : 0 ≤ xs.sum := by
  induction xs with
  | nil => simp
  | cons x l ih =>
    rw [List.sum_cons]
    have h1 := h x (by simp)
    have h2 := ih fun y hy => h y (by simp [hy])
    omega
theorem emod2 {x p : Int} (h0 : 0 ≤ x) (h1 : x < 2 * p) : x % p = if x < p then x else x - p := by
  by_cases c : x < p
  · rw [if_pos c, Int.emod_eq_of_lt h0 c]
  · rw [if_neg c]
    have : x = (x - p) + p := by omega
    rw [this, Int.add_emod_right, Int.emod_eq_of_lt (by omega) (by omega)]
    omega
theorem ediv_eq {a b q r : Int} (h : a = b * q + r) (h0 : 0 ≤ r) (h1 : r < b) : a / b = q := by
  rw [h, Int.mul_add_ediv_left _ _ (by omega), Int.ediv_eq_zero_of_lt h0 h1]
  omega
/-! ### it ends, and .. -/
def Ok {α : Type} (m : R α) (P : α → Prop) : Prop := ∃ a, m = .ok a ∧ P a
section
variable {α β γ S ρ : Type} {m : R α} {f : α → R β} {P P' : α → Prop} {Q : β → Prop} {a : α} {b : β}
theorem ok_ret (h : P a) : Ok (.ok a) P := ⟨a, rfl, h⟩
theorem ok_bd (h : Ok m P) (k : ∀ a, P a → Ok (f a) Q) : Ok (R.bd m f) Q := by
  obtain ⟨a, rfl, ha⟩ := h
  exact k a ha
theorem ok_eq (e : m = .ok a) (h : Ok (f a) Q) : Ok (R.bd m f) Q := by rw [e]; exact h
theorem ok_st (h : Ok (f a) Q) : Ok (R.bd (.ok a) f) Q := h
theorem ok_of (e : m = .ok a) (h : P a) : Ok m P := ⟨a, e, h⟩
theorem ok_mono (h : Ok m P) (k : ∀ a, P a → P' a) : Ok m P' := let ⟨a, e, q⟩ := h; ⟨a, e, k a q⟩
theorem ok_is (h : Ok m fun x => x = a) : m = .ok a := by
  obtain ⟨x, e, rfl⟩ := h
  exact e
theorem ok_it {c : Bool} {X Y : R α} (h1 : c = true → Ok X P) (h2 : c = false → Ok Y P) : Ok (if c = true then X else Y) P := by
  cases c with
  | true => exact h1 rfl
  | false => exact h2 rfl
theorem ok_if {c : Prop} [Decidable c] {X Y : R α} (h1 : c → Ok X P) (h2 : ¬ c → Ok Y P) : Ok (if decide c = true then X else Y) P := by
  by_cases h : c
  · rw [if_pos (decide_eq_true h)]; exact h1 h
  · rw [if_neg (by rw [decide_eq_false h]; decide)]; exact h2 h
theorem ok_idx {xs : List α} {i : Int} (h0 : 0 ≤ i) (h1 : i < xs.length) (h : ∀ x, xs[i.toNat]? = some x → x ∈ xs → P x) : Ok (idx xs i) P := by
  have e : xs[i.toNat]? = some (xs[i.toNat]'(by omega)) := List.getElem?_eq_getElem _
  exact ⟨_, idx_ok h0 e, h _ e (List.mem_of_getElem? e)⟩
theorem ok_forS {body : α → S → R S} {xs : List α} {s : S} (I : Nat → S → Prop) (h : I 0 s) (st : ∀ i x s, xs[i]? = some x → I i s → Ok (body x s) (I (i + 1))) : Ok (forS body xs s) (I xs.length) := forS_inv I h st
/-- a loop that may tell -/
def FlP (P : S → Prop) (J : S → Prop) (Rr : ρ → Prop) : Fl S ρ → Prop
  | .go s => P s
  | .brk s => J s
  | .ret r => Rr r
theorem ok_forRn {body : α → S → R (Fl S ρ)} (I : Nat → S → Prop) (J : S → Prop) (Rr : ρ → Prop) : ∀ (xs : List α) (n : Nat) (s : S), I n s → (∀ i x s, xs[i]? = some x → I (n + i) s → Ok (body x s) (FlP (I (n + i + 1)) J Rr)) → Ok (forR body xs s) (FlP (fun s => I (n + xs.length) s ∨ J s) (fun _ => False) Rr)
  | [], n, s, h, _ => ⟨_, rfl, .inl h⟩
  | x :: l, n, s, h, st => by
    obtain ⟨f, e1, h1⟩ := st 0 x s rfl h
    unfold forR
    rw [e1, bd_ok]
    cases f with
    | go s1 =>
      have := ok_forRn I J Rr l (n + 1) s1 h1 fun i y s hy hs => by
        have := st (i + 1) y s (by simpa using hy) (by rw [show n + (i + 1) = n + 1 + i by omega]; exact hs)
        rw [show n + (i + 1) + 1 = n + 1 + i + 1 by omega] at this
        exact this
      rw [List.length_cons, show n + (l.length + 1) = n + 1 + l.length by omega]
      exact this
    | brk s1 => exact ⟨_, rfl, .inr h1⟩
    | ret r => exact ⟨_, rfl, h1⟩
theorem ok_forR {body : α → S → R (Fl S ρ)} {xs : List α} {s : S} (I : Nat → S → Prop) (J : S → Prop) (Rr : ρ → Prop) (h : I 0 s) (st : ∀ i x s, xs[i]? = some x → I i s → Ok (body x s) (FlP (I (i + 1)) J Rr)) : Ok (forR body xs s) (FlP (fun s => I xs.length s ∨ J s) (fun _ => False) Rr) := by
  have := ok_forRn I J Rr xs 0 s h fun i x s hx hs => by rw [Nat.zero_add] at hs ⊢; exact st i x s hx hs
  rw [Nat.zero_add] at this
  exact this
/-- all turns go on, nothing is carried -/
theorem ok_forA {body : α → Unit → R (Fl Unit ρ)} {xs : List α} {k : Fl Unit ρ → R β} (st : ∀ x ∈ xs, Ok (body x ()) (fun f => f = .go ())) (h : Ok (k (.go ())) Q) : Ok (R.bd (forR body xs ()) k) Q := by
  rw [forR_all fun x hx => ok_is (st x hx)]
  exact h
theorem ok_whileS {c : S → R Bool} {body : S → R S} (I : S → Prop) (μ : S → Nat) (Dn : S → Prop) : ∀ (n : Nat) (s : S), I s → μ s < n → (∀ s, I s → Ok (c s) fun b => if b = true then Ok (body s) (fun s' => I s' ∧ μ s' < μ s) else Dn s) → Ok (whileS c body n s) Dn
  | 0, s, _, h, _ => by omega
  | n + 1, s, hI, h, st => by
    obtain ⟨b, e, q⟩ := st s hI
    unfold whileS
    rw [e, bd_ok]
    cases b with
    | true =>
      rw [if_pos rfl] at q ⊢
      obtain ⟨s', e2, h2, h3⟩ := q
      rw [e2, bd_ok]
      exact ok_whileS I μ Dn n s' h2 (by omega) st
    | false =>
      rw [if_neg (by decide)] at q ⊢
      exact ⟨s, rfl, q⟩
theorem ok_compR {f : α → R β} {xs : List α} (P : Nat → β → Prop) (hl : xs.length ≤ lim) (h : ∀ i x, xs[i]? = some x → Ok (f x) (P i)) : Ok (compR xs (fun _ => .ok true) f) fun ys => ys.length = xs.length ∧ ∀ i y, ys[i]? = some y → P i y := by
  have key : ∀ (xs : List α) (n : Nat), (∀ i x, xs[i]? = some x → Ok (f x) (P (n + i))) → Ok (compGo (fun _ => .ok true) f xs) fun ys => ys.length = xs.length ∧ ∀ i y, ys[i]? = some y → P (n + i) y := by
    intro xs
    induction xs with
    | nil => exact fun n _ => ⟨[], rfl, rfl, fun i y hy => by simp at hy⟩
    | cons x l ih =>
      intro n h
      obtain ⟨y, e, hy⟩ := h 0 x rfl
      obtain ⟨ys, e2, h2, h3⟩ := ih (n + 1) fun i z hz => by
        have := h (i + 1) z (by simpa using hz)
        rw [show n + (i + 1) = n + 1 + i by omega] at this
        exact this
      refine ⟨y :: ys, ?_, by simp [h2], fun i z hz => ?_⟩
      · unfold compGo
        rw [e]
        show R.bd (compGo _ f l) _ = _
        rw [e2]
        rfl
      · cases i with
        | zero => simp at hz; subst hz; exact hy
        | succ i =>
          have := h3 i z (by simpa using hz)
          rw [show n + 1 + i = n + (i + 1) by omega] at this
          exact this
  have := key xs 0 fun i x hx => by rw [Nat.zero_add]; exact h i x hx
  unfold compR
  rw [gd_pos hl]
  simpa using this
end
/-! ### steps by simp: conditions by omega -/
theorem dT {c : Prop} [Decidable c] (h : c) : decide c = true := decide_eq_true h
theorem dF {c : Prop} [Decidable c] (h : ¬ c) : decide c = false := decide_eq_false h
theorem ifT {α : Type} {a b : α} : (if true = true then a else b) = a := rfl
theorem ifF {α : Type} {a b : α} : (if false = true then a else b) = b := rfl
theorem rngL_mem {lo hi x : Int} : x ∈ rngL lo hi ↔ lo ≤ x ∧ x < hi := by
  constructor
  · intro h
    obtain ⟨i, hi⟩ := List.mem_iff_getElem?.mp h
    obtain ⟨rfl, h2⟩ := rngL_at hi
    omega
  · intro ⟨h1, h2⟩
    apply List.mem_iff_getElem?.mpr
    refine ⟨(x - lo).toNat, ?_⟩
    rw [rngL_get (by omega)]
    congr 1
    omega
theorem compR_true {α : Type} {f : α → R Bool} {xs : List α} (hl : xs.length ≤ lim) (h : ∀ x ∈ xs, f x = .ok true) : compR xs (fun _ => .ok true) f = .ok (xs.map fun _ => true) := compR_ok hl h
theorem all_true {α : Type} {xs : List α} : (xs.map fun _ => true).all id = true := by simp
theorem lim_eq : lim = 10000000 := rfl
theorem forS_er {α : Type} {body : α → Unit → R Unit} {e : Er} : ∀ {xs : List α}, (∀ x ∈ xs, body x () = .ok () ∨ body x () = .er e) → (∃ x ∈ xs, body x () = .er e) → forS body xs () = .er e
  | [], _, ⟨x, h, _⟩ => by cases h
  | y :: l, h, ⟨x, hx, hb⟩ => by
    unfold forS
    rcases h y (by simp) with h1 | h1
    · rw [h1, bd_ok]
      refine forS_er (fun z hz => h z (by simp [hz])) ⟨x, ?_, hb⟩
      rcases List.mem_cons.mp hx with c | c
      · rw [c, h1] at hb
        cases hb
      · exact c
    · rw [h1]
      rfl
theorem enumL_at {α : Type} [Rp α] {xs : List α} {i : Nat} {p : Int × α} (h : (enumL xs)[i]? = some p) : p.1 = i ∧ xs[i]? = some p.2 := by
  have hl : i < xs.length := by
    have := (List.getElem?_eq_some_iff.mp h).1
    rw [enumL_len] at this
    exact this
  rw [enumL_get (List.getElem?_eq_getElem hl)] at h
  cases h
  exact ⟨rfl, List.getElem?_eq_getElem hl⟩
theorem emod_le {x m : Int} (h0 : 0 ≤ x) (hm : 0 < m) : x % m ≤ x := by
  have q1 := Int.mul_ediv_add_emod x m
  have q2 : 0 ≤ m * (x / m) := Int.mul_nonneg (by omega) (Int.ediv_nonneg h0 (by omega))
  omega
theorem compGo_filter {α β : Type} {c : α → R Bool} {p : α → Bool} {f : α → R β} {g : α → β} : ∀ {xs : List α}, (∀ x ∈ xs, c x = .ok (p x)) → (∀ x ∈ xs, p x = true → f x = .ok (g x)) → compGo c f xs = .ok ((xs.filter p).map g)
  | [], _, _ => rfl
  | x :: l, h, h2 => by
    have ih := compGo_filter (xs := l) (fun y hy => h y (by simp [hy])) (fun y hy => h2 y (by simp [hy]))
    unfold compGo
    rw [h x (by simp)]
    show (if p x = true then R.bd (f x).nx fun y => R.bd (compGo c f l) fun ys => .ok (y :: ys) else compGo c f l) = _
    by_cases c : p x = true
    · rw [if_pos c, h2 x (by simp) c, ih, List.filter_cons_of_pos c]
      rfl
    · rw [if_neg c, ih, List.filter_cons_of_neg c]
theorem compR_filter {α β : Type} {c : α → R Bool} {p : α → Bool} {f : α → R β} {g : α → β} {xs : List α} (hl : xs.length ≤ lim) (h : ∀ x ∈ xs, c x = .ok (p x)) (h2 : ∀ x ∈ xs, p x = true → f x = .ok (g x)) : compR xs c f = .ok ((xs.filter p).map g) := by
  unfold compR
  rw [gd_pos hl, compGo_filter h h2]
theorem inL_iff {α : Type} [DecidableEq α] {a : α} {l : List α} : inL a l = true ↔ a ∈ l := by unfold inL; simp
theorem inL_no {α : Type} [DecidableEq α] {a : α} {l : List α} (h : a ∉ l) : inL a l = false := by unfold inL; simp [h]
theorem inL_yes {α : Type} [DecidableEq α] {a : α} {l : List α} (h : a ∈ l) : inL a l = true := by unfold inL; simp [h]
theorem indexR_ok {α : Type} [DecidableEq α] {l : List α} {a : α} {j : Nat} (h : l[j]? = some a) (hn : ∀ i, i < j → l[i]? ≠ some a) : indexR l a = .ok (j : Int) := by
  unfold indexR
  have hj := (List.getElem?_eq_some_iff.mp h).1
  have : l.findIdx? (fun z => decide (z = a)) = some j := by
    rw [List.findIdx?_eq_some_iff_getElem]
    refine ⟨hj, ?_, fun i hi => ?_⟩
    · have := (List.getElem?_eq_some_iff.mp h).2
      simpa using this
    · have e := List.getElem?_eq_getElem (l := l) (i := i) (by omega)
      have := hn i hi
      rw [e] at this
      simpa using this
  rw [this]
theorem ok_whileR {S ρ : Type} {c : S → R Bool} {body : S → R (Fl S ρ)} (I : S → Prop) (μ : S → Nat) (Dn : S → Prop) (Rr : ρ → Prop) : ∀ (n : Nat) (s : S), I s → μ s < n → (∀ s, I s → Ok (c s) fun b => if b = true then Ok (body s) (FlP (fun s' => I s' ∧ μ s' < μ s) Dn Rr) else Dn s) → Ok (whileR c body n s) (FlP Dn (fun _ => False) Rr)
  | 0, s, _, h, _ => by omega
  | n + 1, s, hI, h, st => by
    obtain ⟨b, e, q⟩ := st s hI
    unfold whileR
    rw [e, bd_ok]
    cases b with
    | true =>
      rw [if_pos rfl] at q ⊢
      obtain ⟨f, e2, h2⟩ := q
      rw [e2, bd_ok]
      cases f with
      | go s' =>
        obtain ⟨h3, h4⟩ := h2
        exact ok_whileR I μ Dn Rr n s' h3 (by omega) st
      | brk s' => exact ⟨_, rfl, h2⟩
      | ret r => exact ⟨_, rfl, h2⟩
    | false =>
      rw [if_neg (by decide)] at q ⊢
      exact ⟨_, rfl, q⟩
theorem cut_init {α : Type} (l : List α) : cut l none (some (-1)) = l.dropLast := by
  unfold cut
  have : HT.sIx l.length l.length (some (-1)) = l.length - 1 := by
    show (if (-1 : Int) < 0 then ((-1 : Int) + (l.length : Int)).toNat else min (-1 : Int).toNat l.length) = _
    rw [if_pos (by decide)]
    omega
  rw [this, HT.sIx_none, List.drop_zero, Nat.sub_zero, List.dropLast_eq_take]
theorem cut_tail {α : Type} (l : List α) : cut l (some 1) none = l.drop 1 := by
  unfold cut
  rw [show (1 : Int) = ((1 : Nat) : Int) from rfl, HT.sIx_nat, HT.sIx_none]
  by_cases c : 1 ≤ l.length
  · rw [Nat.min_eq_left c, List.take_of_length_le (by simp)]
  · have : l = [] := List.eq_nil_of_length_eq_zero (by omega)
    rw [this]
    rfl
theorem nodup_lt : ∀ (N : Nat) (ns : List Nat), ns.Nodup → (∀ x ∈ ns, x < N) → ns.length ≤ N
  | 0, ns, _, h => by
    cases ns with
    | nil => simp
    | cons x l => exact absurd (h x List.mem_cons_self) (by omega)
  | N + 1, ns, hn, h => by
    by_cases c : N ∈ ns
    · have := nodup_lt N (ns.erase N) (hn.erase N) fun x hx => by
        obtain ⟨h1, h2⟩ := (List.Nodup.mem_erase_iff hn).mp hx
        have := h x h2
        omega
      rw [List.length_erase_of_mem c] at this
      omega
    · have := nodup_lt N ns hn fun x hx => by
        have h1 := h x hx
        have h2 : x ≠ N := fun z => c (z ▸ hx)
        omega
      omega
end G

set_option Elab.async false
set_option linter.all false
set_option maxRecDepth 100000
set_option maxHeartbeats 4000000
namespace G
open PySem L2
noncomputable section
def m_ask_board (board : List Int) : R Unit :=
  R.bd (.ok ((decide ((board.length : Int) < (2 : Int))) || (decide ((24 : Int) < (board.length : Int))))) fun (b16 : Bool) => if b16 = true then
    (.er (.own .BadBoard))
  else
    (R.bd (R.bd (R.bd (minR board) fun (t7 : Int) => .ok (decide (t7 < (0 : Int)))) fun (t8 : Bool) => .ok (t8 || (decide ((10 ^ 60 : Int) < board.sum)))) fun (b15 : Bool) => if b15 = true then
    (.er (.own .BadBoard))
  else
    (.ok ()))

def m_ask_pit (board : List Int) (pit : Int) : R Unit :=
  R.bd (.ok ((decide (pit < (0 : Int))) || (decide ((board.length : Int) ≤ pit)))) fun (b7 : Bool) => if b7 = true then
    (.er (.own .BadPit))
  else
    (.ok ())

def m_ask_seeds (board : List Int) (pit : Int) : R Unit :=
  R.bd (m_ask_board board) fun (_ : Unit) =>
  R.bd (m_ask_pit board pit) fun (_ : Unit) =>
  R.bd (R.bd (idx board pit) fun (t11 : Int) => .ok (decide (t11 = (0 : Int)))) fun (b18 : Bool) => if b18 = true then
    (.er (.own .NoSeeds))
  else
    (.ok ())

def m_put_round (board : List Int) (pit : Int) (seeds : Int) : R (List Int) :=
  R.bd (.ok (board.length : Int)) fun (pits : Int) =>
  R.bd (compR board (fun (held : Int) => .ok true) (fun (held : Int) => R.bd (divR seeds pits) fun (t23 : Int) => .ok (held + t23))) fun (made : List Int) =>
  R.bd (R.bd (R.bd (modR seeds pits) fun (t25 : Int) => .ok (t25 + (1 : Int))) fun (t26 : Int) => rng2 (1 : Int) t26) fun (t63 : List Int) => R.bd (forS (fun (step : Int) (made : (List Int)) => 
    R.bd (R.bd (modR (pit + step) pits) fun (t60 : Int) => R.bd (idx made t60) fun (t61 : Int) => setR made t60 (t61 + (1 : Int))) fun (made : List Int) =>
  .ok made) t63 made) fun (made : (List Int)) =>
  R.bd (.ok made) fun (r : List Int) => .ok r

def m_sown_plain (board : List Int) (pit : Int) : R ((List Int) × Int) :=
  R.bd (.ok board) fun (emptied : List Int) =>
  R.bd (setR emptied pit (0 : Int)) fun (emptied : List Int) =>
  R.bd (R.bd (R.bd (idx board pit) fun (t14 : Int) => m_put_round emptied pit t14) fun (t17 : List Int) => R.bd (R.bd (R.bd (idx board pit) fun (t15 : Int) => .ok (pit + t15)) fun (t16 : Int) => modR t16 (board.length : Int)) fun (t18 : Int) => .ok (t17, t18)) fun (r : (List Int) × Int) => .ok r

def m_sown (board : List Int) (pit : Int) : R ((List Int) × Int) :=
  R.bd (m_ask_seeds board pit) fun (_ : Unit) =>
  R.bd (m_sown_plain board pit) fun (r : (List Int) × Int) => .ok r

def m_ask_sizes (pits : Int) (seeds : Int) : R Unit :=
  R.bd (.ok ((decide (pits < (2 : Int))) || (decide ((24 : Int) < pits)))) fun (b14 : Bool) => if b14 = true then
    (.er (.own .BadCount))
  else
    (R.bd (.ok ((decide (seeds < (0 : Int))) || (decide ((10 ^ 60 : Int) < seeds)))) fun (b13 : Bool) => if b13 = true then
    (.er (.own .BadCount))
  else
    (.ok ()))

def m_ways_to_lay (pits : Int) (seeds : Int) : R Int :=
  R.bd (.ok (1 : Int)) fun (found : Int) =>
  R.bd (rng2 (1 : Int) pits) fun (t44 : List Int) => R.bd (forS (fun (k : Int) (found : Int) => 
    R.bd (R.bd (mulR found (seeds + k)) fun (t40 : Int) => divR t40 k) fun (found : Int) =>
  .ok found) t44 found) fun (found : Int) =>
  R.bd (.ok found) fun (r : Int) => .ok r

def m_board_count (pits : Int) (seeds : Int) : R Int :=
  R.bd (m_ask_sizes pits seeds) fun (_ : Unit) =>
  R.bd (m_ways_to_lay pits seeds) fun (r : Int) => .ok r

def m_ask_few (board : List Int) : R Unit :=
  R.bd (R.bd (m_board_count (board.length : Int) board.sum) fun (t1 : Int) => .ok (decide ((1000 : Int) < t1))) fun (b8 : Bool) => if b8 = true then
    (.er (.own .TooMany))
  else
    (.ok ())

def m_next_sowings (board : Sq Int) : R (List (Int × (Tu Int))) :=
  R.bd (.ok ([] : List (Int × (Tu Int)))) fun (told : List (Int × (Tu Int))) =>
  R.bd (.ok (enumL board.l)) fun (t59 : List (Int × Int)) => R.bd (forS (fun ((pit, number) : Int × Int) (told : (List (Int × (Tu Int)))) => 
    R.bd (.ok (decide ((0 : Int) < number))) fun (b58 : Bool) => if b58 = true then
    (R.bd (R.bd (R.bd (R.bd (R.bd (m_sown board.l pit) fun (t53 : (List Int) × Int) => .ok t53.1) fun (t54 : List Int) => .ok (Tu.mk t54)) fun (t55 : Tu Int) => .ok (pit, t55)) fun (t56 : Int × (Tu Int)) => appR told t56) fun (told : List (Int × (Tu Int))) =>
  .ok told)
  else
    (.ok told)) t59 told) fun (told : (List (Int × (Tu Int)))) =>
  R.bd (.ok told) fun (r : List (Int × (Tu Int))) => .ok r

def m_plan_back (came : Dct (Option ((Tu Int) × Int))) (board : Tu Int) : R (List (Str × Int)) :=
  R.bd (.ok ([] : List (Str × Int))) fun (plan : List (Str × Int)) =>
  R.bd (whileS (fun ((board, plan) : (Tu Int) × (List (Str × Int))) => R.bd (getR came board) fun (t20 : Option ((Tu Int) × Int)) => .ok t20.isSome) (fun ((board, plan) : (Tu Int) × (List (Str × Int))) =>
    R.bd (R.bd (getR came board) unO) fun ((board, pit) : (Tu Int) × Int) =>
  R.bd (appR plan (("sow" : Str), pit)) fun (plan : List (Str × Int)) =>
  .ok (board, plan)) fuel (board, plan)) fun ((board, plan) : (Tu Int) × (List (Str × Int))) =>
  R.bd (.ok plan.reverse) fun (r : List (Str × Int)) => .ok r

def m_ask_barred (board : List Int) (barred : List Int) : R Unit :=
  R.bd (.ok (-(1 : Int))) fun (last : Int) =>
  R.bd (.ok barred) fun (t57 : List Int) => R.bd (forS (fun (pit : Int) (last : Int) => 
    R.bd (.ok ((decide (pit ≤ last)) || (decide ((board.length : Int) ≤ pit)))) fun (b49 : Bool) => if b49 = true then
    (.er (.own .BadPits))
  else
    (R.bd (.ok pit) fun (last : Int) =>
  .ok last)) t57 last) fun (last : Int) =>
  R.bd (.ok ((decide ((barred.length : Int) = (0 : Int))) || (decide ((barred.length : Int) = (board.length : Int))))) fun (b56 : Bool) => if b56 = true then
    (.er (.own .BadPits))
  else
    (.ok ())

def m_free_sowings (board : Sq Int) (barred : List Int) : R (List (Int × (Tu Int))) :=
  R.bd (R.bd (m_next_sowings board) fun (t9 : List (Int × (Tu Int))) => compR t9 (fun (pair : Int × (Tu Int)) => .ok (!decide (pair.1 ∈ barred))) (fun (pair : Int × (Tu Int)) => .ok pair)) fun (r : List (Int × (Tu Int))) => .ok r

def m_search_free (board : List Int) (barred : List Int) : R (Dct (Option ((Tu Int) × Int))) :=
  R.bd (.ok (Tu.mk board)) fun (first : Tu Int) =>
  R.bd (.ok (Dct.mk [(first.l, (none : Option ((Tu Int) × Int)))])) fun (came : Dct (Option ((Tu Int) × Int))) =>
  R.bd (.ok [first]) fun (line : List (Tu Int)) =>
  R.bd (.ok (0 : Int)) fun (at_ : Int) =>
  R.bd (whileS (fun ((at_, came, line) : Int × (Dct (Option ((Tu Int) × Int))) × (List (Tu Int))) => .ok (decide (at_ < (line.length : Int)))) (fun ((at_, came, line) : Int × (Dct (Option ((Tu Int) × Int))) × (List (Tu Int))) =>
    R.bd (R.bd (R.bd (idx line at_) fun (t49 : Tu Int) => .ok (Sq.mk true t49.l)) fun (t50 : Sq Int) => m_free_sowings t50 barred) fun (t112 : List (Int × (Tu Int))) => R.bd (forS (fun ((pit, behind) : Int × (Tu Int)) ((came, line) : (Dct (Option ((Tu Int) × Int))) × (List (Tu Int))) => 
    R.bd (.ok (!(came.get behind).isSome)) fun (b104 : Bool) => if b104 = true then
    (R.bd (R.bd (R.bd (R.bd (idx line at_) fun (t92 : Tu Int) => .ok (t92, pit)) fun t => .ok (some t)) fun (t93 : Option ((Tu Int) × Int)) => putR came behind t93) fun (came : Dct (Option ((Tu Int) × Int))) =>
  R.bd (appR line behind) fun (line : List (Tu Int)) =>
  .ok (came, line))
  else
    (.ok (came, line))) t112 (came, line)) fun ((came, line) : (Dct (Option ((Tu Int) × Int))) × (List (Tu Int))) =>
  R.bd (.ok (at_ + (1 : Int))) fun (at_ : Int) =>
  .ok (at_, came, line)) fuel (at_, came, line)) fun ((at_, came, line) : Int × (Dct (Option ((Tu Int) × Int))) × (List (Tu Int))) =>
  R.bd (.ok came) fun (r : Dct (Option ((Tu Int) × Int))) => .ok r

def m_way_or_bar (board : List Int) (other : List Int) (barred : List Int) : R (Apt (Dy)) :=
  R.bd (m_ask_board board) fun (_ : Unit) =>
  R.bd (m_ask_board other) fun (_ : Unit) =>
  R.bd (m_ask_barred board barred) fun (_ : Unit) =>
  R.bd (.ok ((!decide ((board.length : Int) = (other.length : Int))) || (!decide (board.sum = other.sum)))) fun (b52 : Bool) => if b52 = true then
    (.er (.own .Unlike))
  else
    (R.bd (m_ask_few board) fun (_ : Unit) =>
  R.bd (m_search_free board barred) fun (came : Dct (Option ((Tu Int) × Int))) =>
  R.bd (.ok ((came.get (Tu.mk other)).isSome)) fun (b51 : Bool) => if b51 = true then
    (R.bd (R.bd (R.bd (R.bd (m_plan_back came (Tu.mk other)) fun (t40 : List (Str × Int)) => .ok (("way" : Str), t40)) fun a41 => .ok (Apt.mk a41)) fun a42 => .ok (Apt.mk (DyN.dy a42.l))) fun (r : Apt (Dy)) => .ok r)
  else
    (R.bd (R.bd (R.bd (R.bd (R.bd (keysR came) fun (t47 : List (Tu Int)) => compR t47 (fun (one : Tu Int) => .ok true) (fun (one : Tu Int) => .ok one.l)) fun (t48 : List (List Int)) => .ok (("barred" : Str), t48)) fun a49 => .ok (Apt.mk a49)) fun a50 => .ok (Apt.mk (DyN.dy a50.l))) fun (r : Apt (Dy)) => .ok r))

def m__law_cell_at (script : Scr) (k : Int) : R Int :=
  R.bd (.ok (decide (k < (script.l.length : Int)))) fun (b8 : Bool) => if b8 = true then
    (R.bd (R.bd (idx script.l k) fun (t7 : Int) => .ok (t7 % (10 ^ 61 : Int))) fun (r : Int) => .ok r)
  else
    (R.bd (.ok (0 : Int)) fun (r : Int) => .ok r)

def m__law_sums (script : Scr) (later : Int) (most : Int) : R (List Int) :=
  R.bd (R.bd (rng1 most) fun (t16 : List Int) => compR t16 (fun (k : Int) => .ok true) (fun (k : Int) => .ok (0 : Int))) fun (sums : List Int) =>
  R.bd (rng2 later (script.l.length : Int)) fun (t72 : List Int) => R.bd (forS (fun (k : Int) (sums : (List Int)) => 
    R.bd (modR (k - later) most) fun (at_ : Int) =>
  R.bd (R.bd (R.bd (R.bd (idx sums at_) fun (t55 : Int) => .ok (t55 * (3 : Int))) fun (t57 : Int) => R.bd (R.bd (idx script.l k) fun (t56 : Int) => .ok (t56 % (10 ^ 61 : Int))) fun (t58 : Int) => .ok (t57 + t58)) fun (t59 : Int) => setR sums at_ t59) fun (sums : List Int) =>
  R.bd (R.bd (R.bd (idx sums at_) fun (t65 : Int) => .ok (t65 % (10 ^ 62 : Int))) fun (t66 : Int) => setR sums at_ t66) fun (sums : List Int) =>
  .ok sums) t72 sums) fun (sums : (List Int)) =>
  R.bd (.ok sums) fun (r : List Int) => .ok r

def m__law_stirred (cell : Int) (j : Int) : R Int :=
  R.bd (.ok (((((cell % (2147483647 : Int)) + ((1009 : Int) * j)) + (7 : Int)) * (48271 : Int)) % (2147483647 : Int))) fun (first : Int) =>
  R.bd (R.bd (R.bd (mulR first first) fun (t8 : Int) => .ok (t8 % (998244353 : Int))) fun (t9 : Int) => .ok (t9 / (8 : Int))) fun (r : Int) => .ok r

def m__law_row (script : Scr) (skip : Int) (many : Int) (base_ : Int) (mixed : Bool) : R (List Int) :=
  R.bd (.ok mixed) fun (b93 : Bool) => if b93 = true then
    (R.bd (m__law_sums script skip (if many > (1 : Int) then many else (1 : Int))) fun (sums : List Int) =>
  R.bd (R.bd (rng1 many) fun (t24 : List Int) => compR t24 (fun (j : Int) => .ok true) (fun (j : Int) => R.bd (R.bd (idx sums j) fun (t22 : Int) => m__law_stirred t22 j) fun (t23 : Int) => modR t23 base_)) fun (r : List Int) => .ok r)
  else
    (R.bd (R.bd (compR (cut script.l (some skip) none) (fun (cell : Int) => .ok true) (fun (cell : Int) => .ok (cell % (10 ^ 61 : Int)))) fun (t37 : List Int) => .ok t37.sum) fun (total : Int) =>
  R.bd (.ok ([] : List Int)) fun (row : List Int) =>
  R.bd (rng1 many) fun (t91 : List Int) => R.bd (forS (fun (j : Int) ((total, row) : Int × (List Int)) => 
    R.bd (R.bd (modR total base_) fun (t82 : Int) => appR row t82) fun (row : List Int) =>
  R.bd (divR total base_) fun (total : Int) =>
  .ok (total, row)) t91 (total, row)) fun ((total, row) : Int × (List Int)) =>
  R.bd (.ok row) fun (r : List Int) => .ok r)

def m__law_sown (board : List Int) (pit : Int) : R ((List Int) × Int) :=
  R.bd (.ok (board.length : Int)) fun (pits : Int) =>
  R.bd (idx board pit) fun (seeds : Int) =>
  R.bd (.ok board) fun (made : List Int) =>
  R.bd (setR made pit (0 : Int)) fun (made : List Int) =>
  R.bd (rng1 pits) fun (t78 : List Int) => R.bd (forS (fun (k : Int) (made : (List Int)) => 
    R.bd (modR ((pit + (1 : Int)) + k) pits) fun (at_ : Int) =>
  R.bd (R.bd (R.bd (R.bd (idx made at_) fun (t65 : Int) => R.bd (divR seeds pits) fun (t66 : Int) => .ok (t65 + t66)) fun (t69 : Int) => R.bd (R.bd (R.bd (modR seeds pits) fun (t67 : Int) => .ok (decide (k < t67))) fun (t68 : Bool) => .ok (if t68 = true then (1 : Int) else 0)) fun (t70 : Int) => .ok (t69 + t70)) fun (t71 : Int) => setR made at_ t71) fun (made : List Int) =>
  .ok made) t78 made) fun (made : (List Int)) =>
  R.bd (R.bd (modR (pit + seeds) pits) fun (t77 : Int) => .ok (made, t77)) fun (r : (List Int) × Int) => .ok r

def m__law_laid (places : List Int) (pits : Int) : R (List Int) :=
  R.bd (R.bd (rng1 pits) fun (t16 : List Int) => compR t16 (fun (pit : Int) => .ok true) (fun (pit : Int) => .ok (0 : Int))) fun (board : List Int) =>
  R.bd (.ok places) fun (t54 : List Int) => R.bd (forS (fun (at_ : Int) (board : (List Int)) => 
    R.bd (R.bd (R.bd (idx board at_) fun (t47 : Int) => .ok (t47 + (1 : Int))) fun (t48 : Int) => setR board at_ t48) fun (board : List Int) =>
  .ok board) t54 board) fun (board : (List Int)) =>
  R.bd (.ok board) fun (r : List Int) => .ok r

def m__law_few (script : Scr) : R (Int × Int) :=
  R.bd (m__law_cell_at script (0 : Int)) fun (cell : Int) =>
  R.bd (.ok ((2 : Int) + ((cell / (4 : Int)) % (4 : Int)))) fun (pits : Int) =>
  R.bd (R.bd (m__law_stirred cell (5 : Int)) fun (t19 : Int) => R.bd (idx [(0 : Int), (0 : Int), (41 : Int), (11 : Int), (7 : Int), (5 : Int)] pits) fun (t20 : Int) => modR t19 t20) fun (seeds : Int) =>
  R.bd (R.bd (.ok (decide ((cell % (4 : Int)) = (1 : Int)))) fun (b52 : Bool) => if b52 = true then
    (R.bd (.ok ((6 : Int) + ((cell / (4 : Int)) % (5 : Int)))) fun (pits : Int) =>
  R.bd (R.bd (m__law_stirred cell (5 : Int)) fun (t48 : Int) => .ok (t48 % (4 : Int))) fun (seeds : Int) =>
  .ok (pits, seeds))
  else
    (.ok (pits, seeds))) fun ((pits, seeds) : Int × Int) =>
  R.bd (.ok (pits, seeds)) fun (r : Int × Int) => .ok r

def m__law_bars (script : Scr) (pits : Int) : R (List Int) :=
  R.bd (m__law_cell_at script (1 : Int)) fun (cell : Int) =>
  R.bd (R.bd (R.bd (R.bd (R.bd (m__law_cell_at script (0 : Int)) fun (t8 : Int) => .ok (t8 / (2 : Int))) fun (t9 : Int) => .ok (t9 % (2 : Int))) fun (t10 : Int) => .ok (decide (t10 = (1 : Int)))) fun (b58 : Bool) => if b58 = true then
    (R.bd (m__law_stirred cell (9 : Int)) fun (cell : Int) =>
  .ok cell)
  else
    (.ok cell)) fun (cell : Int) =>
  R.bd (R.bd (rng1 pits) fun (t45 : List Int) => compR t45 (fun (pit : Int) => R.bd (R.bd (shrR cell pit) fun (t43 : Int) => .ok (t43 % (2 : Int))) fun (t44 : Int) => .ok (decide (t44 = (1 : Int)))) (fun (pit : Int) => .ok pit)) fun (bars : List Int) =>
  R.bd (.ok ((decide (bars = ([] : List Int))) || (decide ((bars.length : Int) = pits)))) fun (b57 : Bool) => if b57 = true then
    (R.bd (R.bd (R.bd (modR (cell / (4096 : Int)) pits) fun (t55 : Int) => .ok (t55 :: ([] : List Int))) fun (t56 : List Int) => gd (t56.length ≤ lim) (.ok t56)) fun (r : List Int) => .ok r)
  else
    (R.bd (.ok bars) fun (r : List Int) => .ok r)

def m__law_behind (board : List Int) (bars : List Int) : R (List (Int × (List Int))) :=
  R.bd (gd (([] : List (Int × (List Int))).length ≤ lim) (.ok ([] : List (Int × (List Int))))) fun (told : List (Int × (List Int))) =>
  R.bd (rng1 (board.length : Int)) fun (t55 : List Int) => R.bd (forS (fun (pit : Int) (told : (List (Int × (List Int)))) => 
    R.bd (R.bd (R.bd (idx board pit) fun (t38 : Int) => .ok (decide ((0 : Int) < t38))) fun (t39 : Bool) => .ok (t39 && (!decide (pit ∈ bars)))) fun (b54 : Bool) => if b54 = true then
    (R.bd (R.bd (R.bd (R.bd (m__law_sown board pit) fun (t50 : (List Int) × Int) => .ok t50.1) fun (t51 : List Int) => .ok (pit, t51)) fun (t52 : Int × (List Int)) => appR told t52) fun (told : List (Int × (List Int))) =>
  .ok told)
  else
    (.ok told)) t55 told) fun (told : (List (Int × (List Int)))) =>
  R.bd (.ok told) fun (r : List (Int × (List Int))) => .ok r

def m__law_led (board : List Int) (plan : List (Str × Int)) (bars : List Int) : R (Option (List Int)) :=
  R.bd (.ok board) fun (here : List Int) =>
  R.bd (.ok (!true)) fun (b70 : Bool) => if b70 = true then
    (R.bd (.ok (none : Option (List Int))) fun (r : Option (List Int)) => .ok r)
  else
    (R.bd (.ok plan) fun (t68 : List (Str × Int)) => R.bd (forR (ρ := (Option (List Int))) (fun (deed : Str × Int) (here : (List Int)) => 
    R.bd (.ok ((!true) || ((!decide ((2 : Int) = (2 : Int))) || ((!decide (deed.1 = ("sow" : Str))) || false)))) fun (b67 : Bool) => if b67 = true then
    (R.bd (.ok (none : Option (List Int))) fun (r : Option (List Int)) => .ok (.ret r))
  else
    (R.bd (if (!true) = true then .ok true else if (!(decide ((0 : Int) ≤ deed.2) && decide (deed.2 < (here.length : Int)))) = true then .ok true else if (decide (deed.2 ∈ bars)) = true then .ok true else R.bd (idx here deed.2) fun (t51 : Int) => .ok (decide (t51 = (0 : Int)))) fun (b66 : Bool) => if b66 = true then
    (R.bd (.ok (none : Option (List Int))) fun (r : Option (List Int)) => .ok (.ret r))
  else
    (R.bd (R.bd (m__law_sown here deed.2) fun (t62 : (List Int) × Int) => .ok t62.1) fun (here : List Int) =>
  .ok (.go here)))) t68 here) (flk (fun (here : (List Int)) =>
  R.bd (.ok (some here)) fun (r : Option (List Int)) => .ok r) fun r => .ok r))

def m__law_shut (boards : List (List Int)) (board : List Int) (other : List Int) (bars : List Int) : R Bool :=
  R.bd (.ok ((!true) || ((!inL board boards) || (inL other boards)))) fun (b170 : Bool) => if b170 = true then
    (R.bd (.ok false) fun (r : Bool) => .ok r)
  else
    (R.bd (.ok (Dct.mk ([] : List (List Int × Bool)))) fun (met : Dct Bool) =>
  R.bd (.ok boards) fun (t168 : List (List Int)) => R.bd (forR (ρ := Bool) (fun (one : List Int) (met : (Dct Bool)) => 
    R.bd (if (!true) = true then .ok true else if (!decide ((one.length : Int) = (board.length : Int))) = true then .ok true else if (!decide (one.sum = board.sum)) = true then .ok true else R.bd (minR one) fun (t45 : Int) => .ok (decide (t45 < (0 : Int)))) fun (b57 : Bool) => if b57 = true then
    (R.bd (.ok false) fun (r : Bool) => .ok (.ret r))
  else
    (R.bd (putR met (Tu.mk one) true) fun (met : Dct Bool) =>
  .ok (.go met))) t168 met) (flk (fun (met : (Dct Bool)) =>
  R.bd (.ok boards) fun (t166 : List (List Int)) => R.bd (forR (ρ := Bool) (fun (one : List Int) (_ : Unit) => 
    R.bd (m__law_behind one bars) fun (t124 : List (Int × (List Int))) => R.bd (forR (ρ := Bool) (fun (pair : Int × (List Int)) (_ : Unit) => 
    R.bd (.ok (!(met.get (Tu.mk pair.2)).isSome)) fun (b123 : Bool) => if b123 = true then
    (R.bd (.ok false) fun (r : Bool) => .ok (.ret r))
  else
    (.ok (.go ()))) t124 ()) (flk (fun (_ : Unit) =>
  .ok (.go ())) fun r => .ok (.ret r))) t166 ()) (flk (fun (_ : Unit) =>
  R.bd (rng1 ((boards.length : Int) - (1 : Int))) fun (t164 : List Int) => R.bd (forR (ρ := Bool) (fun (k : Int) (_ : Unit) => 
    R.bd (R.bd (R.bd (idx boards k) fun (t154 : List Int) => R.bd (idx boards (k + (1 : Int))) fun (t155 : List Int) => .ok (Od.lt t154 t155)) fun (t156 : Bool) => .ok (!t156)) fun (b163 : Bool) => if b163 = true then
    (R.bd (.ok false) fun (r : Bool) => .ok (.ret r))
  else
    (.ok (.go ()))) t164 ()) (flk (fun (_ : Unit) =>
  R.bd (.ok true) fun (r : Bool) => .ok r) fun r => .ok r)) fun r => .ok r)) fun r => .ok r))

def m__law_right (told : Dy) (board : List Int) (other : List Int) (bars : List Int) : R Bool :=
  R.bd (if (!(dyIs 4 told)) = true then .ok true else R.bd (dyLen told) fun (t1 : Int) => .ok (!decide (t1 = (2 : Int)))) fun (b23 : Bool) => if b23 = true then
    (R.bd (.ok false) fun (r : Bool) => .ok r)
  else
    (R.bd (R.bd (dyIdx told (0 : Int)) fun (t8 : Dy) => eqDy t8 (DyN.dy ("way" : Str))) fun (b22 : Bool) => if b22 = true then
    (R.bd (R.bd (R.bd (R.bd (R.bd (dyIdx told (1 : Int)) fun (t15 : Dy) => (unD t15 : R (List (Str × Int)))) fun (t16 : List (Str × Int)) => m__law_led board t16 bars) unO) fun (t17 : List Int) => .ok (decide (t17 = other))) fun (r : Bool) => .ok r)
  else
    (R.bd (R.bd (R.bd (dyIdx told (0 : Int)) fun (t18 : Dy) => eqDy t18 (DyN.dy ("barred" : Str))) fun (t21 : Bool) => if t21 = true then R.bd (R.bd (dyIdx told (1 : Int)) fun (t19 : Dy) => (unD t19 : R (List (List Int)))) fun (t20 : List (List Int)) => m__law_shut t20 board other bars else .ok false) fun (r : Bool) => .ok r))

def m_law (script : Scr) : R Bool :=
  R.bd (m__law_few script) fun ((pits, seeds) : Int × Int) =>
  R.bd (R.bd (R.bd (R.bd (R.bd (m__law_cell_at script (0 : Int)) fun (t14 : Int) => .ok (t14 / (2 : Int))) fun (t15 : Int) => .ok (t15 % (2 : Int))) fun (t16 : Int) => .ok (decide (t16 = (1 : Int)))) fun (t17 : Bool) => m__law_row script (2 : Int) ((2 : Int) * seeds) pits t17) fun (row : List Int) =>
  R.bd (m__law_laid (cut row none (some seeds)) pits) fun (board : List Int) =>
  R.bd (m__law_laid (cut row (some seeds) none) pits) fun (other : List Int) =>
  R.bd (m__law_bars script pits) fun (bars : List Int) =>
  R.bd (R.bd (R.bd (R.bd (m__law_cell_at script (1 : Int)) fun (t42 : Int) => .ok (t42 % (2 : Int))) fun (t43 : Int) => .ok (decide (t43 = (1 : Int)))) fun (b344 : Bool) => if b344 = true then
    (R.bd (.ok board) fun (other : List Int) =>
  R.bd (rng2 (1 : Int) (script.l.length : Int)) fun (t124 : List Int) => R.bd (forS (fun (k : Int) (other : (List Int)) => 
    R.bd (m__law_behind other bars) fun (some_ : List (Int × (List Int))) =>
  R.bd (.ok ((decide ((0 : Int) < (some_.length : Int))) && (decide (k < (12 : Int))))) fun (b123 : Bool) => if b123 = true then
    (R.bd (R.bd (R.bd (R.bd (R.bd (m__law_cell_at script k) fun (t116 : Int) => m__law_stirred t116 k) fun (t117 : Int) => modR t117 (some_.length : Int)) fun (t118 : Int) => idx some_ t118) fun (t119 : Int × (List Int)) => .ok t119.2) fun (other : List Int) =>
  .ok other)
  else
    (.ok other)) t124 other) fun (other : (List Int)) =>
  .ok other)
  else
    (.ok other)) fun (other : (List Int)) =>
  R.bd (.ok [board, other, bars]) fun (handed : List (List Int)) =>
  R.bd (R.bd (R.bd (idx handed (0 : Int)) fun (t146 : List Int) => R.bd (idx handed (1 : Int)) fun (t147 : List Int) => R.bd (idx handed (2 : Int)) fun (t148 : List Int) => m_way_or_bar t146 t147 t148) fun a343 => .ok a343.l) fun (told : Dy) =>
  R.bd (if (!decide (handed = [board, other, bars])) = true then .ok true else R.bd (m__law_right told board other bars) fun (t151 : Bool) => .ok (!t151)) fun (b342 : Bool) => if b342 = true then
    (R.bd (.ok false) fun (r : Bool) => .ok r)
  else
    (R.bd (R.bd (R.bd (R.bd (m__law_cell_at script (1 : Int)) fun (t158 : Int) => .ok (t158 % (2 : Int))) fun (t159 : Int) => .ok (decide (t159 = (1 : Int)))) fun (t161 : Bool) => if t161 = true then R.bd (dyIdx told (0 : Int)) fun (t160 : Dy) => R.bd (eqDy t160 (DyN.dy ("way" : Str))) fun c => .ok (!c) else .ok false) fun (b341 : Bool) => if b341 = true then
    (R.bd (.ok false) fun (r : Bool) => .ok r)
  else
    (R.bd (pr26 told) fun ((w172, l173) : Str × List Dy) =>
  R.bd (R.bd (dyIdx told (0 : Int)) fun (t184 : Dy) => eqDy t184 (DyN.dy ("barred" : Str))) fun (b340 : Bool) => if b340 = true then
    (R.bd (R.bd (R.bd (R.bd (dyIdx told (1 : Int)) fun (t191 : Dy) => (unD t191 : R (List (List Int)))) fun (t200 : List (List Int)) => compR t200 (fun (one : List Int) => .ok true) (fun (one : List Int) => .ok one)) fun (x_ : List (List Int)) => .ok [Dy.str w172, DyN.dy x_]) fun (kept : List Dy) =>
  R.bd (R.bd (R.bd (idx kept (1 : Int)) fun (t207 : Dy) => dyLen t207) fun (t208 : Int) => rng1 t208) fun (t295 : List Int) => R.bd (forR (ρ := Bool) (fun (k : Int) (told : Dy) => 
    R.bd (R.bd (R.bd (dyIdx told (1 : Int)) fun (t238 : Dy) => dyIdx t238 k) fun (t240 : Dy) => R.bd (R.bd (idx kept (1 : Int)) fun (t239 : Dy) => dyIdx t239 k) fun (t241 : Dy) => R.bd (eqDy t240 t241) fun c => .ok (!c)) fun (b266 : Bool) => if b266 = true then
    (R.bd (.ok false) fun (r : Bool) => .ok (.ret r))
  else
    (R.bd (R.bd (unD told : R (Str × (List (List Int)))) fun (u257 : Str × (List (List Int))) => R.bd (idx u257.2 k) fun (x260 : List Int) => R.bd (R.bd (.ok (0 : Int)) fun (e : Int) => appR x260 e) fun (y256 : List Int) => R.bd (setR u257.2 k y256) fun (l263 : List (List Int)) => .ok (DyN.dy (u257.1, l263))) fun (toldN : Dy) =>
  .ok (.go toldN))) t295 told) (flk (fun (told : Dy) =>
  R.bd (unD told : R (Str × List Dy)) fun (u276 : Str × List Dy) => R.bd (R.bd (.ok [(0 : Int)]) fun (_ : List Int) => gd (u276.2.length < lim) (.ok ())) fun (_ : Unit) =>
  R.bd (R.bd (R.bd (idx handed (0 : Int)) fun (t283 : List Int) => R.bd (idx handed (1 : Int)) fun (t284 : List Int) => R.bd (idx handed (2 : Int)) fun (t285 : List Int) => m_way_or_bar t283 t284 t285) fun a286 => .ok a286.l) fun (again : Dy) =>
  R.bd (R.bd (R.bd (R.bd (R.bd (idx kept (0 : Int)) fun (t290 : Dy) => R.bd (idx kept (1 : Int)) fun (t291 : Dy) => .ok (t290, t291)) fun (t292 : Dy × Dy) => .ok (DyN.dy t292)) fun (t293 : Dy) => eqDy again t293) fun (t294 : Bool) => .ok (t294 && (decide (handed = [board, other, bars])))) fun (r : Bool) => .ok r) fun r => .ok r))
  else
    (R.bd (unD (Dy.lst l173) : R (List (Str × Int))) fun (plan297 : List (Str × Int)) => R.bd (.ok [Dy.str w172, DyN.dy plan297]) fun (kept : List Dy) =>
  R.bd (unD told : R (Str × List Dy)) fun (u321 : Str × List Dy) => R.bd (R.bd (.ok [(0 : Int)]) fun (_ : List Int) => gd (u321.2.length < lim) (.ok ())) fun (_ : Unit) =>
  R.bd (R.bd (R.bd (idx handed (0 : Int)) fun (t328 : List Int) => R.bd (idx handed (1 : Int)) fun (t329 : List Int) => R.bd (idx handed (2 : Int)) fun (t330 : List Int) => m_way_or_bar t328 t329 t330) fun a331 => .ok a331.l) fun (again : Dy) =>
  R.bd (R.bd (R.bd (R.bd (R.bd (idx kept (0 : Int)) fun (t335 : Dy) => R.bd (idx kept (1 : Int)) fun (t336 : Dy) => .ok (t335, t336)) fun (t337 : Dy × Dy) => .ok (DyN.dy t337)) fun (t338 : Dy) => eqDy again t338) fun (t339 : Bool) => .ok (t339 && (decide (handed = [board, other, bars])))) fun (r : Bool) => .ok r)))
end
end G

set_option Elab.async false
set_option linter.all false
set_option maxRecDepth 100000
set_option maxHeartbeats 4000000
namespace G
open PySem PySem.Spec PyProof.Rows L2
def top (i : Nat) : Stmt := PySem.Challenge.pw_sowring_k26_whole_way_or_bar.main.body.getD i (.Pass ⟨0, 0, 0, 0⟩)
abbrev s_ask_board : Stmt := top 14
def d_ask_board : He.DefD := ⟨("ask_board", none), "ask_board", "ask_board", defArgs s_ask_board, defBody s_ask_board, defScope s_ask_board, [], []⟩
abbrev s_ask_pit : Stmt := top 15
def d_ask_pit : He.DefD := ⟨("ask_pit", none), "ask_pit", "ask_pit", defArgs s_ask_pit, defBody s_ask_pit, defScope s_ask_pit, [], []⟩
abbrev s_ask_seeds : Stmt := top 16
def d_ask_seeds : He.DefD := ⟨("ask_seeds", none), "ask_seeds", "ask_seeds", defArgs s_ask_seeds, defBody s_ask_seeds, defScope s_ask_seeds, [], []⟩
abbrev s_put_round : Stmt := top 17
def d_put_round : He.DefD := ⟨("put_round", none), "put_round", "put_round", defArgs s_put_round, defBody s_put_round, defScope s_put_round, [], []⟩
abbrev s_sown_plain : Stmt := top 18
def d_sown_plain : He.DefD := ⟨("sown_plain", none), "sown_plain", "sown_plain", defArgs s_sown_plain, defBody s_sown_plain, defScope s_sown_plain, [], []⟩
abbrev s_sown : Stmt := top 19
def d_sown : He.DefD := ⟨("sown", none), "sown", "sown", defArgs s_sown, defBody s_sown, defScope s_sown, [], []⟩
abbrev s_ask_sizes : Stmt := top 21
def d_ask_sizes : He.DefD := ⟨("ask_sizes", none), "ask_sizes", "ask_sizes", defArgs s_ask_sizes, defBody s_ask_sizes, defScope s_ask_sizes, [], []⟩
abbrev s_ways_to_lay : Stmt := top 22
def d_ways_to_lay : He.DefD := ⟨("ways_to_lay", none), "ways_to_lay", "ways_to_lay", defArgs s_ways_to_lay, defBody s_ways_to_lay, defScope s_ways_to_lay, [], []⟩
abbrev s_board_count : Stmt := top 23
def d_board_count : He.DefD := ⟨("board_count", none), "board_count", "board_count", defArgs s_board_count, defBody s_board_count, defScope s_board_count, [], []⟩
abbrev s_ask_few : Stmt := top 26
def d_ask_few : He.DefD := ⟨("ask_few", none), "ask_few", "ask_few", defArgs s_ask_few, defBody s_ask_few, defScope s_ask_few, [], []⟩
abbrev s_next_sowings : Stmt := top 27
def d_next_sowings : He.DefD := ⟨("next_sowings", none), "next_sowings", "next_sowings", defArgs s_next_sowings, defBody s_next_sowings, defScope s_next_sowings, [], []⟩
abbrev s_plan_back : Stmt := top 28
def d_plan_back : He.DefD := ⟨("plan_back", none), "plan_back", "plan_back", defArgs s_plan_back, defBody s_plan_back, defScope s_plan_back, [], []⟩
abbrev s_ask_barred : Stmt := top 30
def d_ask_barred : He.DefD := ⟨("ask_barred", none), "ask_barred", "ask_barred", defArgs s_ask_barred, defBody s_ask_barred, defScope s_ask_barred, [], []⟩
abbrev s_free_sowings : Stmt := top 31
def d_free_sowings : He.DefD := ⟨("free_sowings", none), "free_sowings", "free_sowings", defArgs s_free_sowings, defBody s_free_sowings, defScope s_free_sowings, [], []⟩
abbrev s_search_free : Stmt := top 32
def d_search_free : He.DefD := ⟨("search_free", none), "search_free", "search_free", defArgs s_search_free, defBody s_search_free, defScope s_search_free, [], []⟩
abbrev s_way_or_bar : Stmt := top 33
def d_way_or_bar : He.DefD := ⟨("way_or_bar", none), "way_or_bar", "way_or_bar", defArgs s_way_or_bar, defBody s_way_or_bar, defScope s_way_or_bar, [], []⟩
abbrev s__law_cell_at : Stmt := top 35
def d__law_cell_at : He.DefD := ⟨("_law_cell_at", none), "_law_cell_at", "_law_cell_at", defArgs s__law_cell_at, defBody s__law_cell_at, defScope s__law_cell_at, [], []⟩
abbrev s__law_sums : Stmt := top 36
def d__law_sums : He.DefD := ⟨("_law_sums", none), "_law_sums", "_law_sums", defArgs s__law_sums, defBody s__law_sums, defScope s__law_sums, [], []⟩
abbrev s__law_stirred : Stmt := top 37
def d__law_stirred : He.DefD := ⟨("_law_stirred", none), "_law_stirred", "_law_stirred", defArgs s__law_stirred, defBody s__law_stirred, defScope s__law_stirred, [], []⟩
abbrev s__law_row : Stmt := top 38
def d__law_row : He.DefD := ⟨("_law_row", none), "_law_row", "_law_row", defArgs s__law_row, defBody s__law_row, defScope s__law_row, [], []⟩
abbrev s__law_sown : Stmt := top 39
def d__law_sown : He.DefD := ⟨("_law_sown", none), "_law_sown", "_law_sown", defArgs s__law_sown, defBody s__law_sown, defScope s__law_sown, [], []⟩
abbrev s__law_laid : Stmt := top 40
def d__law_laid : He.DefD := ⟨("_law_laid", none), "_law_laid", "_law_laid", defArgs s__law_laid, defBody s__law_laid, defScope s__law_laid, [], []⟩
abbrev s__law_few : Stmt := top 41
def d__law_few : He.DefD := ⟨("_law_few", none), "_law_few", "_law_few", defArgs s__law_few, defBody s__law_few, defScope s__law_few, [], []⟩
abbrev s__law_bars : Stmt := top 42
def d__law_bars : He.DefD := ⟨("_law_bars", none), "_law_bars", "_law_bars", defArgs s__law_bars, defBody s__law_bars, defScope s__law_bars, [], []⟩
abbrev s__law_behind : Stmt := top 43
def d__law_behind : He.DefD := ⟨("_law_behind", none), "_law_behind", "_law_behind", defArgs s__law_behind, defBody s__law_behind, defScope s__law_behind, [], []⟩
abbrev s__law_led : Stmt := top 44
def d__law_led : He.DefD := ⟨("_law_led", none), "_law_led", "_law_led", defArgs s__law_led, defBody s__law_led, defScope s__law_led, [], []⟩
abbrev s__law_shut : Stmt := top 45
def d__law_shut : He.DefD := ⟨("_law_shut", none), "_law_shut", "_law_shut", defArgs s__law_shut, defBody s__law_shut, defScope s__law_shut, [], []⟩
abbrev s__law_right : Stmt := top 46
def d__law_right : He.DefD := ⟨("_law_right", none), "_law_right", "_law_right", defArgs s__law_right, defBody s__law_right, defScope s__law_right, [], []⟩
abbrev s_law : Stmt := top 47
def d_law : He.DefD := ⟨("law", none), "law", "law", defArgs s_law, defBody s_law, defScope s_law, [], []⟩
abbrev s_cSowError : Stmt := inClass (top 2) 0
def d_cSowError : He.DefD := ⟨("SowError", some "called"), "called", "SowError.called", defArgs s_cSowError, defBody s_cSowError, defScope s_cSowError, [], []⟩
abbrev s_cBadBoard : Stmt := inClass (top 3) 0
def d_cBadBoard : He.DefD := ⟨("BadBoard", some "called"), "called", "BadBoard.called", defArgs s_cBadBoard, defBody s_cBadBoard, defScope s_cBadBoard, [], []⟩
abbrev s_cBadPit : Stmt := inClass (top 4) 0
def d_cBadPit : He.DefD := ⟨("BadPit", some "called"), "called", "BadPit.called", defArgs s_cBadPit, defBody s_cBadPit, defScope s_cBadPit, [], []⟩
abbrev s_cBadPits : Stmt := inClass (top 5) 0
def d_cBadPits : He.DefD := ⟨("BadPits", some "called"), "called", "BadPits.called", defArgs s_cBadPits, defBody s_cBadPits, defScope s_cBadPits, [], []⟩
abbrev s_cBadCount : Stmt := inClass (top 6) 0
def d_cBadCount : He.DefD := ⟨("BadCount", some "called"), "called", "BadCount.called", defArgs s_cBadCount, defBody s_cBadCount, defScope s_cBadCount, [], []⟩
abbrev s_cNoSeeds : Stmt := inClass (top 7) 0
def d_cNoSeeds : He.DefD := ⟨("NoSeeds", some "called"), "called", "NoSeeds.called", defArgs s_cNoSeeds, defBody s_cNoSeeds, defScope s_cNoSeeds, [], []⟩
abbrev s_cUnlike : Stmt := inClass (top 8) 0
def d_cUnlike : He.DefD := ⟨("Unlike", some "called"), "called", "Unlike.called", defArgs s_cUnlike, defBody s_cUnlike, defScope s_cUnlike, [], []⟩
abbrev s_cTooMany : Stmt := inClass (top 9) 0
def d_cTooMany : He.DefD := ⟨("TooMany", some "called"), "called", "TooMany.called", defArgs s_cTooMany, defBody s_cTooMany, defScope s_cTooMany, [], []⟩
def fn : List He.DefD := [d_ask_board, d_ask_pit, d_ask_seeds, d_put_round, d_sown_plain, d_sown, d_ask_sizes, d_ways_to_lay, d_board_count, d_ask_few, d_next_sowings, d_plan_back, d_ask_barred, d_free_sowings, d_search_free, d_way_or_bar, d__law_cell_at, d__law_sums, d__law_stirred, d__law_row, d__law_sown, d__law_laid, d__law_few, d__law_bars, d__law_behind, d__law_led, d__law_shut, d__law_right, d_law]
def fa : List He.Fa := [.glo "ask_board", .glo "ask_pit", .glo "ask_seeds", .glo "put_round", .glo "sown_plain", .glo "sown", .glo "ask_sizes", .glo "ways_to_lay", .glo "board_count", .glo "ask_few", .glo "next_sowings", .glo "plan_back", .glo "ask_barred", .glo "free_sowings", .glo "search_free", .glo "way_or_bar", .glo "_law_cell_at", .glo "_law_sums", .glo "_law_stirred", .glo "_law_row", .glo "_law_sown", .glo "_law_laid", .glo "_law_few", .glo "_law_bars", .glo "_law_behind", .glo "_law_led", .glo "_law_shut", .glo "_law_right", .glo "law", .free "bool", .free "enumerate", .free "int", .free "isinstance", .free "len", .free "list", .free "max", .free "min", .free "range", .free "reversed", .free "sorted", .free "sum", .free "tuple", .int "FEWEST_PITS" (2), .int "MOST_BOARDS" (1000), .int "MOST_PITS" (24), .int "MOST_SEEDS" (10 ^ 60), .glo "SowError", .exc "SowError", .glo "BadBoard", .exc "BadBoard", .glo "BadPit", .exc "BadPit", .glo "BadPits", .exc "BadPits", .glo "BadCount", .exc "BadCount", .glo "NoSeeds", .exc "NoSeeds", .glo "Unlike", .exc "Unlike", .glo "TooMany", .exc "TooMany"]
def bx (K : PySem.W.Frag) : Bool := ([.SowError, .BadBoard, .BadPit, .BadPits, .BadCount, .NoSeeds, .Unlike, .TooMany] : List Cn).all (fun c => cfB K c)
/-- what the top has written -/
structure Hd (K : PySem.W.Frag) (mg : Str → Option Value) : Prop where
  g_ask_board : mg "ask_board" = some (.ref (He.ga K "ask_board"))
  g_ask_pit : mg "ask_pit" = some (.ref (He.ga K "ask_pit"))
  g_ask_seeds : mg "ask_seeds" = some (.ref (He.ga K "ask_seeds"))
  g_put_round : mg "put_round" = some (.ref (He.ga K "put_round"))
  g_sown_plain : mg "sown_plain" = some (.ref (He.ga K "sown_plain"))
  g_sown : mg "sown" = some (.ref (He.ga K "sown"))
  g_ask_sizes : mg "ask_sizes" = some (.ref (He.ga K "ask_sizes"))
  g_ways_to_lay : mg "ways_to_lay" = some (.ref (He.ga K "ways_to_lay"))
  g_board_count : mg "board_count" = some (.ref (He.ga K "board_count"))
  g_ask_few : mg "ask_few" = some (.ref (He.ga K "ask_few"))
  g_next_sowings : mg "next_sowings" = some (.ref (He.ga K "next_sowings"))
  g_plan_back : mg "plan_back" = some (.ref (He.ga K "plan_back"))
  g_ask_barred : mg "ask_barred" = some (.ref (He.ga K "ask_barred"))
  g_free_sowings : mg "free_sowings" = some (.ref (He.ga K "free_sowings"))
  g_search_free : mg "search_free" = some (.ref (He.ga K "search_free"))
  g_way_or_bar : mg "way_or_bar" = some (.ref (He.ga K "way_or_bar"))
  g__law_cell_at : mg "_law_cell_at" = some (.ref (He.ga K "_law_cell_at"))
  g__law_sums : mg "_law_sums" = some (.ref (He.ga K "_law_sums"))
  g__law_stirred : mg "_law_stirred" = some (.ref (He.ga K "_law_stirred"))
  g__law_row : mg "_law_row" = some (.ref (He.ga K "_law_row"))
  g__law_sown : mg "_law_sown" = some (.ref (He.ga K "_law_sown"))
  g__law_laid : mg "_law_laid" = some (.ref (He.ga K "_law_laid"))
  g__law_few : mg "_law_few" = some (.ref (He.ga K "_law_few"))
  g__law_bars : mg "_law_bars" = some (.ref (He.ga K "_law_bars"))
  g__law_behind : mg "_law_behind" = some (.ref (He.ga K "_law_behind"))
  g__law_led : mg "_law_led" = some (.ref (He.ga K "_law_led"))
  g__law_shut : mg "_law_shut" = some (.ref (He.ga K "_law_shut"))
  g__law_right : mg "_law_right" = some (.ref (He.ga K "_law_right"))
  g_law : mg "law" = some (.ref (He.ga K "law"))
  d_ask_board : ∃ fd, FunD K "ask_board" "ask_board" (defArgs s_ask_board) (defBody s_ask_board) (defScope s_ask_board) [] [] (He.ga K "ask_board") fd
  d_ask_pit : ∃ fd, FunD K "ask_pit" "ask_pit" (defArgs s_ask_pit) (defBody s_ask_pit) (defScope s_ask_pit) [] [] (He.ga K "ask_pit") fd
  d_ask_seeds : ∃ fd, FunD K "ask_seeds" "ask_seeds" (defArgs s_ask_seeds) (defBody s_ask_seeds) (defScope s_ask_seeds) [] [] (He.ga K "ask_seeds") fd
  d_put_round : ∃ fd, FunD K "put_round" "put_round" (defArgs s_put_round) (defBody s_put_round) (defScope s_put_round) [] [] (He.ga K "put_round") fd
  d_sown_plain : ∃ fd, FunD K "sown_plain" "sown_plain" (defArgs s_sown_plain) (defBody s_sown_plain) (defScope s_sown_plain) [] [] (He.ga K "sown_plain") fd
  d_sown : ∃ fd, FunD K "sown" "sown" (defArgs s_sown) (defBody s_sown) (defScope s_sown) [] [] (He.ga K "sown") fd
  d_ask_sizes : ∃ fd, FunD K "ask_sizes" "ask_sizes" (defArgs s_ask_sizes) (defBody s_ask_sizes) (defScope s_ask_sizes) [] [] (He.ga K "ask_sizes") fd
  d_ways_to_lay : ∃ fd, FunD K "ways_to_lay" "ways_to_lay" (defArgs s_ways_to_lay) (defBody s_ways_to_lay) (defScope s_ways_to_lay) [] [] (He.ga K "ways_to_lay") fd
  d_board_count : ∃ fd, FunD K "board_count" "board_count" (defArgs s_board_count) (defBody s_board_count) (defScope s_board_count) [] [] (He.ga K "board_count") fd
  d_ask_few : ∃ fd, FunD K "ask_few" "ask_few" (defArgs s_ask_few) (defBody s_ask_few) (defScope s_ask_few) [] [] (He.ga K "ask_few") fd
  d_next_sowings : ∃ fd, FunD K "next_sowings" "next_sowings" (defArgs s_next_sowings) (defBody s_next_sowings) (defScope s_next_sowings) [] [] (He.ga K "next_sowings") fd
  d_plan_back : ∃ fd, FunD K "plan_back" "plan_back" (defArgs s_plan_back) (defBody s_plan_back) (defScope s_plan_back) [] [] (He.ga K "plan_back") fd
  d_ask_barred : ∃ fd, FunD K "ask_barred" "ask_barred" (defArgs s_ask_barred) (defBody s_ask_barred) (defScope s_ask_barred) [] [] (He.ga K "ask_barred") fd
  d_free_sowings : ∃ fd, FunD K "free_sowings" "free_sowings" (defArgs s_free_sowings) (defBody s_free_sowings) (defScope s_free_sowings) [] [] (He.ga K "free_sowings") fd
  d_search_free : ∃ fd, FunD K "search_free" "search_free" (defArgs s_search_free) (defBody s_search_free) (defScope s_search_free) [] [] (He.ga K "search_free") fd
  d_way_or_bar : ∃ fd, FunD K "way_or_bar" "way_or_bar" (defArgs s_way_or_bar) (defBody s_way_or_bar) (defScope s_way_or_bar) [] [] (He.ga K "way_or_bar") fd
  d__law_cell_at : ∃ fd, FunD K "_law_cell_at" "_law_cell_at" (defArgs s__law_cell_at) (defBody s__law_cell_at) (defScope s__law_cell_at) [] [] (He.ga K "_law_cell_at") fd
  d__law_sums : ∃ fd, FunD K "_law_sums" "_law_sums" (defArgs s__law_sums) (defBody s__law_sums) (defScope s__law_sums) [] [] (He.ga K "_law_sums") fd
  d__law_stirred : ∃ fd, FunD K "_law_stirred" "_law_stirred" (defArgs s__law_stirred) (defBody s__law_stirred) (defScope s__law_stirred) [] [] (He.ga K "_law_stirred") fd
  d__law_row : ∃ fd, FunD K "_law_row" "_law_row" (defArgs s__law_row) (defBody s__law_row) (defScope s__law_row) [] [] (He.ga K "_law_row") fd
  d__law_sown : ∃ fd, FunD K "_law_sown" "_law_sown" (defArgs s__law_sown) (defBody s__law_sown) (defScope s__law_sown) [] [] (He.ga K "_law_sown") fd
  d__law_laid : ∃ fd, FunD K "_law_laid" "_law_laid" (defArgs s__law_laid) (defBody s__law_laid) (defScope s__law_laid) [] [] (He.ga K "_law_laid") fd
  d__law_few : ∃ fd, FunD K "_law_few" "_law_few" (defArgs s__law_few) (defBody s__law_few) (defScope s__law_few) [] [] (He.ga K "_law_few") fd
  d__law_bars : ∃ fd, FunD K "_law_bars" "_law_bars" (defArgs s__law_bars) (defBody s__law_bars) (defScope s__law_bars) [] [] (He.ga K "_law_bars") fd
  d__law_behind : ∃ fd, FunD K "_law_behind" "_law_behind" (defArgs s__law_behind) (defBody s__law_behind) (defScope s__law_behind) [] [] (He.ga K "_law_behind") fd
  d__law_led : ∃ fd, FunD K "_law_led" "_law_led" (defArgs s__law_led) (defBody s__law_led) (defScope s__law_led) [] [] (He.ga K "_law_led") fd
  d__law_shut : ∃ fd, FunD K "_law_shut" "_law_shut" (defArgs s__law_shut) (defBody s__law_shut) (defScope s__law_shut) [] [] (He.ga K "_law_shut") fd
  d__law_right : ∃ fd, FunD K "_law_right" "_law_right" (defArgs s__law_right) (defBody s__law_right) (defScope s__law_right) [] [] (He.ga K "_law_right") fd
  d_law : ∃ fd, FunD K "law" "law" (defArgs s_law) (defBody s_law) (defScope s_law) [] [] (He.ga K "law") fd
  f_bool : mg "bool" = none
  f_enumerate : mg "enumerate" = none
  f_int : mg "int" = none
  f_isinstance : mg "isinstance" = none
  f_len : mg "len" = none
  f_list : mg "list" = none
  f_max : mg "max" = none
  f_min : mg "min" = none
  f_range : mg "range" = none
  f_reversed : mg "reversed" = none
  f_sorted : mg "sorted" = none
  f_sum : mg "sum" = none
  f_tuple : mg "tuple" = none
  c_FEWEST_PITS : ∃ t, mg "FEWEST_PITS" = some (.int (2) t)
  c_MOST_BOARDS : ∃ t, mg "MOST_BOARDS" = some (.int (1000) t)
  c_MOST_PITS : ∃ t, mg "MOST_PITS" = some (.int (24) t)
  c_MOST_SEEDS : ∃ t, mg "MOST_SEEDS" = some (.int (10 ^ 60) t)
  g_SowError : mg "SowError" = some (.ref (He.ga K "SowError"))
  k_SowError : knB K .SowError = true
  x_SowError : PySem.W.excIn K (He.ga K "SowError") He.veBase "ValueError.__new__" = true ∧ PySem.W.keepIn K (.ref (He.ga K "SowError")) = true ∧ PySem.W.subIn K (.ref (He.ga K "SowError")) (.type "BaseException") = some true ∧ PySem.W.typeIn K (.ref (He.ga K "SowError")) = some (.type "type")
  g_BadBoard : mg "BadBoard" = some (.ref (He.ga K "BadBoard"))
  k_BadBoard : knB K .BadBoard = true
  x_BadBoard : PySem.W.excIn K (He.ga K "BadBoard") He.veBase "ValueError.__new__" = true ∧ PySem.W.keepIn K (.ref (He.ga K "BadBoard")) = true ∧ PySem.W.subIn K (.ref (He.ga K "BadBoard")) (.type "BaseException") = some true ∧ PySem.W.typeIn K (.ref (He.ga K "BadBoard")) = some (.type "type")
  g_BadPit : mg "BadPit" = some (.ref (He.ga K "BadPit"))
  k_BadPit : knB K .BadPit = true
  x_BadPit : PySem.W.excIn K (He.ga K "BadPit") He.veBase "ValueError.__new__" = true ∧ PySem.W.keepIn K (.ref (He.ga K "BadPit")) = true ∧ PySem.W.subIn K (.ref (He.ga K "BadPit")) (.type "BaseException") = some true ∧ PySem.W.typeIn K (.ref (He.ga K "BadPit")) = some (.type "type")
  g_BadPits : mg "BadPits" = some (.ref (He.ga K "BadPits"))
  k_BadPits : knB K .BadPits = true
  x_BadPits : PySem.W.excIn K (He.ga K "BadPits") He.veBase "ValueError.__new__" = true ∧ PySem.W.keepIn K (.ref (He.ga K "BadPits")) = true ∧ PySem.W.subIn K (.ref (He.ga K "BadPits")) (.type "BaseException") = some true ∧ PySem.W.typeIn K (.ref (He.ga K "BadPits")) = some (.type "type")
  g_BadCount : mg "BadCount" = some (.ref (He.ga K "BadCount"))
  k_BadCount : knB K .BadCount = true
  x_BadCount : PySem.W.excIn K (He.ga K "BadCount") He.veBase "ValueError.__new__" = true ∧ PySem.W.keepIn K (.ref (He.ga K "BadCount")) = true ∧ PySem.W.subIn K (.ref (He.ga K "BadCount")) (.type "BaseException") = some true ∧ PySem.W.typeIn K (.ref (He.ga K "BadCount")) = some (.type "type")
  g_NoSeeds : mg "NoSeeds" = some (.ref (He.ga K "NoSeeds"))
  k_NoSeeds : knB K .NoSeeds = true
  x_NoSeeds : PySem.W.excIn K (He.ga K "NoSeeds") He.veBase "ValueError.__new__" = true ∧ PySem.W.keepIn K (.ref (He.ga K "NoSeeds")) = true ∧ PySem.W.subIn K (.ref (He.ga K "NoSeeds")) (.type "BaseException") = some true ∧ PySem.W.typeIn K (.ref (He.ga K "NoSeeds")) = some (.type "type")
  g_Unlike : mg "Unlike" = some (.ref (He.ga K "Unlike"))
  k_Unlike : knB K .Unlike = true
  x_Unlike : PySem.W.excIn K (He.ga K "Unlike") He.veBase "ValueError.__new__" = true ∧ PySem.W.keepIn K (.ref (He.ga K "Unlike")) = true ∧ PySem.W.subIn K (.ref (He.ga K "Unlike")) (.type "BaseException") = some true ∧ PySem.W.typeIn K (.ref (He.ga K "Unlike")) = some (.type "type")
  g_TooMany : mg "TooMany" = some (.ref (He.ga K "TooMany"))
  k_TooMany : knB K .TooMany = true
  x_TooMany : PySem.W.excIn K (He.ga K "TooMany") He.veBase "ValueError.__new__" = true ∧ PySem.W.keepIn K (.ref (He.ga K "TooMany")) = true ∧ PySem.W.subIn K (.ref (He.ga K "TooMany")) (.type "BaseException") = some true ∧ PySem.W.typeIn K (.ref (He.ga K "TooMany")) = some (.type "type")
  cfs : ∀ c ∈ ([.SowError, .BadBoard, .BadPit, .BadPits, .BadCount, .NoSeeds, .Unlike, .TooMany] : List Cn), Cf K c
  cf_SowError : Cf K .SowError
  cf_BadBoard : Cf K .BadBoard
  cf_BadPit : Cf K .BadPit
  cf_BadPits : Cf K .BadPits
  cf_BadCount : Cf K .BadCount
  cf_NoSeeds : Cf K .NoSeeds
  cf_Unlike : Cf K .Unlike
  cf_TooMany : Cf K .TooMany
section
variable {P : Program} {w : World} {K : PySem.W.Frag} {mg : Str → Option Value} {base : Heap}
abbrev N_ask_board : List Str := ["board"]
theorem sc_ask_board : FnScope N_ask_board ["board"] (defScope s_ask_board) := ⟨rfl, rfl, rfl, by decide +kernel, rfl, by decide +kernel, by decide +kernel⟩
theorem ok_ask_board (T : Hd K mg) : ∃ fd, PySem.W.keepIn K (.ref (He.ga K "ask_board")) = true ∧ Binds K fd ["board"] [] ∧ FnOk P w K mg base (L2.CX P w) 1 (He.ga K "ask_board") fd ["board"] (sp1 K m_ask_board) := by
  obtain ⟨fd, F⟩ := T.d_ask_board
  obtain ⟨t_FEWEST_PITS, c_FEWEST_PITS⟩ := T.c_FEWEST_PITS
  obtain ⟨t_MOST_PITS, c_MOST_PITS⟩ := T.c_MOST_PITS
  obtain ⟨t_MOST_SEEDS, c_MOST_SEEDS⟩ := T.c_MOST_SEEDS
  refine ⟨fd, F.kp, F.bindsN fun _ _ _ _ _ _ us hl => match us, hl with | [_], _ => rfl, ?_⟩
  refine F.ok sc_ask_board (fun vs H Q E h => ?_) (fun cdv A outer s H vs Q E hr h => ?_)
  · obtain ⟨v_board, board, rfl, r_board, hQ⟩ := h
    rfl
  · obtain ⟨v_board, board, rfl, r_board, hQ⟩ := h
    have tk : Takes (cxOf (L2.CX P w) P w K mg base N_ask_board "ask_board" (defScope s_ask_board) (He.ga K "ask_board") cdv A outer s H E) (fun cls d _ H => E cls d H) := takes_of rfl rfl rfl rfl
    refine ⟨_, (by exact (pss_cons (ps_if (PW.pt (pw_or (pt_cmpR op_lt (pe_callB call_len_seq rfl T.f_len PySem.boot_len (pa_cons (pv 0) pa_nil)) (pe_glob (v := .int (2)) rfl c_FEWEST_PITS ⟨_, rfl⟩) (nomark _)) (pw_or1 (pt_cmpR op_gt (pe_callB call_len_seq rfl T.f_len PySem.boot_len (pa_cons (pv 0) pa_nil)) (pe_glob (v := .int (24)) rfl c_MOST_PITS ⟨_, rfl⟩) (nomark _))))) (pss_one (ps_raise rfl tk (pmk_own PySem.F.excBase_ValueError T.x_BadBoard.1 T.g_BadBoard T.x_BadBoard.2.1 (raises_own T.x_BadBoard.2.2.1 T.x_BadBoard.2.2.2) (by exact rfl)))) pss_nil)
          (pss_one (ps_if (PW.pt (pw_or (pt_cmpR op_lt (pe_callB (cr_min rfl) rfl T.f_min (by decide +kernel) (pa_cons (pv 0) pa_nil)) pe_int (nomark _)) (pw_or1 (pt_cmpR op_gt (pe_callB (cr_sum rfl) rfl T.f_sum (by decide +kernel) (pa_cons (pv 0) pa_nil)) (pe_glob (v := .int (10 ^ 60)) rfl c_MOST_SEEDS ⟨_, rfl⟩) (nomark _))))) (pss_one (ps_raise rfl tk (pmk_own PySem.F.excBase_ValueError T.x_BadBoard.1 T.g_BadBoard T.x_BadBoard.2.1 (raises_own T.x_BadBoard.2.2.1 T.x_BadBoard.2.2.2) (by exact rfl)))) pss_nil)))), ?_⟩
    unfold m_ask_board at hQ
    first | with_reducible refine st_n ?_ | skip
    refine st_seq ?_
    refine s_if ?_ (Same.refl _) (Same.refl _) hQ ?_ ?_
    · exact (t_orP (t_test (F := H) (g_b0 (g_len (g_var (a := board) (Rp.mono (Same.refl _) r_board) (Same.refl _)) (Same.refl _)) g_int)) (t_test (F := H) (g_b0 (g_len (g_var (a := board) (Rp.mono (Same.refl _) r_board) (Same.refl _)) (Same.refl _)) g_int)))
    · intro F2 H3 nx1 e04 hQ
      replace hQ := if_t hQ
      replace r_board := Rp.mono nx1.ff r_board
      have hF5 := nx1.fh
      first | with_reducible refine st_n ?_ | skip
      exact raise_of (c := .BadBoard) hQ e04
    intro F2 H3 nx1 e04 hQ
    replace hQ := if_f hQ
    refine st_next ?_
    replace r_board := Rp.mono nx1.ff r_board
    have hF6 := nx1.fh
    first | with_reducible refine st_n ?_ | skip
    refine s_if ?_ hF6 e04 hQ ?_ ?_
    · exact (t_orP (t_test (F := H3) (g_b0 (g_min (g_var (a := board) (Rp.mono hF6 r_board) (Same.refl _)) (Same.refl _)) g_int)) (t_test (F := H3) (g_b0 (g_sum (g_var (a := board) (Rp.mono hF6 r_board) (Same.refl _)) (Same.refl _)) g_int)))
    · intro F10 H11 nx9 e012 hQ
      replace hQ := if_t hQ
      replace r_board := Rp.mono nx9.ff r_board
      have hF13 := nx9.fh
      first | with_reducible refine st_n ?_ | skip
      exact raise_of (c := .BadBoard) hQ e012
    intro F10 H11 nx9 e012 hQ
    replace hQ := if_f hQ
    refine st_next ?_
    replace r_board := Rp.mono nx9.ff r_board
    have hF14 := nx9.fh
    exact hQ V.non H11 e012 rfl

abbrev N_ask_pit : List Str := ["board", "pit"]
theorem sc_ask_pit : FnScope N_ask_pit ["board", "pit"] (defScope s_ask_pit) := ⟨rfl, rfl, rfl, by decide +kernel, rfl, by decide +kernel, by decide +kernel⟩
theorem ok_ask_pit (T : Hd K mg) : ∃ fd, PySem.W.keepIn K (.ref (He.ga K "ask_pit")) = true ∧ Binds K fd ["board", "pit"] [] ∧ FnOk P w K mg base (L2.CX P w) 1 (He.ga K "ask_pit") fd ["board", "pit"] (sp2 K m_ask_pit) := by
  obtain ⟨fd, F⟩ := T.d_ask_pit
  refine ⟨fd, F.kp, F.bindsN fun _ _ _ _ _ _ us hl => match us, hl with | [_, _], _ => rfl, ?_⟩
  refine F.ok sc_ask_pit (fun vs H Q E h => ?_) (fun cdv A outer s H vs Q E hr h => ?_)
  · obtain ⟨v_board, v_pit, board, pit, rfl, r_board, r_pit, hQ⟩ := h
    rfl
  · obtain ⟨v_board, v_pit, board, pit, rfl, r_board, r_pit, hQ⟩ := h
    obtain rfl : v_pit = V.int pit := r_pit
    have tk : Takes (cxOf (L2.CX P w) P w K mg base N_ask_pit "ask_pit" (defScope s_ask_pit) (He.ga K "ask_pit") cdv A outer s H E) (fun cls d _ H => E cls d H) := takes_of rfl rfl rfl rfl
    refine ⟨_, (by exact (pss_one (ps_if (PW.pt (pw_or (pt_cmpR op_lt (pv 1) pe_int (nomark _)) (pw_or1 (pt_cmpR op_ge (pv 1) (pe_callB call_len_seq rfl T.f_len PySem.boot_len (pa_cons (pv 0) pa_nil)) (nomark _))))) (pss_one (ps_raise rfl tk (pmk_own PySem.F.excBase_ValueError T.x_BadPit.1 T.g_BadPit T.x_BadPit.2.1 (raises_own T.x_BadPit.2.2.1 T.x_BadPit.2.2.2) (by exact rfl)))) pss_nil))), ?_⟩
    unfold m_ask_pit at hQ
    first | with_reducible refine st_n ?_ | skip
    refine s_if ?_ (Same.refl _) (Same.refl _) hQ ?_ ?_
    · exact (t_orP (t_test (F := H) (g_b0 (g_var (a := pit) rfl (Same.refl _)) g_int)) (t_test (F := H) (g_b0 (g_var (a := pit) rfl (Same.refl _)) (g_len (g_var (a := board) (Rp.mono (Same.refl _) r_board) (Same.refl _)) (Same.refl _)))))
    · intro F2 H3 nx1 e04 hQ
      replace hQ := if_t hQ
      replace r_board := Rp.mono nx1.ff r_board
      have hF5 := nx1.fh
      first | with_reducible refine st_n ?_ | skip
      exact raise_of (c := .BadPit) hQ e04
    intro F2 H3 nx1 e04 hQ
    replace hQ := if_f hQ
    refine st_next ?_
    replace r_board := Rp.mono nx1.ff r_board
    have hF6 := nx1.fh
    exact hQ V.non H3 e04 rfl

abbrev N_ask_seeds : List Str := ["board", "pit"]
theorem sc_ask_seeds : FnScope N_ask_seeds ["board", "pit"] (defScope s_ask_seeds) := ⟨rfl, rfl, rfl, by decide +kernel, rfl, by decide +kernel, by decide +kernel⟩
theorem ok_ask_seeds (T : Hd K mg) : ∃ fd, PySem.W.keepIn K (.ref (He.ga K "ask_seeds")) = true ∧ Binds K fd ["board", "pit"] [] ∧ FnOk P w K mg base (L2.CX P w) 2 (He.ga K "ask_seeds") fd ["board", "pit"] (sp2 K m_ask_seeds) := by
  obtain ⟨fd, F⟩ := T.d_ask_seeds
  obtain ⟨fd_ask_board, kp_ask_board, b_ask_board, G_ask_board⟩ := ok_ask_board (P := P) (w := w) (base := base) T
  obtain ⟨fd_ask_pit, kp_ask_pit, b_ask_pit, G_ask_pit⟩ := ok_ask_pit (P := P) (w := w) (base := base) T
  refine ⟨fd, F.kp, F.bindsN fun _ _ _ _ _ _ us hl => match us, hl with | [_, _], _ => rfl, ?_⟩
  refine F.ok sc_ask_seeds (fun vs H Q E h => ?_) (fun cdv A outer s H vs Q E hr h => ?_)
  · obtain ⟨v_board, v_pit, board, pit, rfl, r_board, r_pit, hQ⟩ := h
    rfl
  · obtain ⟨v_board, v_pit, board, pit, rfl, r_board, r_pit, hQ⟩ := h
    obtain rfl : v_pit = V.int pit := r_pit
    have tk : Takes (cxOf (L2.CX P w) P w K mg base N_ask_seeds "ask_seeds" (defScope s_ask_seeds) (He.ga K "ask_seeds") cdv A outer s H E) (fun cls d _ H => E cls d H) := takes_of rfl rfl rfl rfl
    refine ⟨_, (by exact (pss_cons (ps_expr (pe_callS G_ask_board (hr.mono (by decide)) rfl T.g_ask_board kp_ask_board b_ask_board (fun σ => passAt tk σ) (pa_cons (pv 0) pa_nil)))
          (pss_cons (ps_expr (pe_callS G_ask_pit (hr.mono (by decide)) rfl T.g_ask_pit kp_ask_pit b_ask_pit (fun σ => passAt tk σ) (pa_cons (pv 0) (pa_cons (pv 1) pa_nil))))
          (pss_one (ps_if (pt_cmpR op_eq (pe_ix ix_list (pv 0) (pv 1) (fun _ _ => rfl)) pe_int (nomark _)) (pss_one (ps_raise rfl tk (pmk_own PySem.F.excBase_ValueError T.x_NoSeeds.1 T.g_NoSeeds T.x_NoSeeds.2.1 (raises_own T.x_NoSeeds.2.2.1 T.x_NoSeeds.2.2.2) (by exact rfl)))) pss_nil))))), ?_⟩
    unfold m_ask_seeds at hQ
    first | with_reducible refine st_n ?_ | skip
    refine st_seq ?_
    refine s_drop ?_ (Same.refl _) (Same.refl _) hQ ?_
    · exact (g_im (Same.refl _) (g_call1 (ma := .ok board) (g_var (a := board) (Rp.mono (Same.refl _) r_board) (Same.refl _))))
    intro _ F2 H3 nx1 e04 hQ
    replace r_board := Rp.mono nx1.ff r_board
    have hF5 := nx1.fh
    first | with_reducible refine st_n ?_ | skip
    refine st_seq ?_
    refine s_drop ?_ hF5 e04 hQ ?_
    · exact (g_im (Same.refl _) (g_call2 (ma := .ok board) (mb := .ok pit) (g_var (a := board) (Rp.mono hF5 r_board) (Same.refl _)) (g_var (a := pit) rfl (Same.refl _))))
    intro _ F7 H8 nx6 e09 hQ
    replace r_board := Rp.mono nx6.ff r_board
    have hF10 := nx6.fh
    first | with_reducible refine st_n ?_ | skip
    refine s_if ?_ hF10 e09 hQ ?_ ?_
    · exact (t_test (F := H8) (g_eq (g_idx (g_var (a := board) (Rp.mono hF10 r_board) (Same.refl _)) (g_var (a := pit) rfl (Same.refl _)) (Same.refl _)) g_int))
    · intro F13 H14 nx12 e015 hQ
      replace hQ := if_t hQ
      replace r_board := Rp.mono nx12.ff r_board
      have hF16 := nx12.fh
      first | with_reducible refine st_n ?_ | skip
      exact raise_of (c := .NoSeeds) hQ e015
    intro F13 H14 nx12 e015 hQ
    replace hQ := if_f hQ
    refine st_next ?_
    replace r_board := Rp.mono nx12.ff r_board
    have hF17 := nx12.fh
    exact hQ V.non H14 e015 rfl

abbrev N_put_round : List Str := ["board", "pit", "seeds", "pits", "made", "step", "held"]
theorem sc_put_round : FnScope N_put_round ["board", "pit", "seeds"] (defScope s_put_round) := ⟨rfl, rfl, rfl, by decide +kernel, rfl, by decide +kernel, by decide +kernel⟩
theorem ok_put_round (T : Hd K mg) : ∃ fd, PySem.W.keepIn K (.ref (He.ga K "put_round")) = true ∧ Binds K fd ["board", "pit", "seeds"] [] ∧ FnOk P w K mg base (L2.CX P w) 1 (He.ga K "put_round") fd ["board", "pit", "seeds"] (sp3 K m_put_round) := by
  obtain ⟨fd, F⟩ := T.d_put_round
  refine ⟨fd, F.kp, F.bindsN fun _ _ _ _ _ _ us hl => match us, hl with | [_, _, _], _ => rfl, ?_⟩
  refine F.ok sc_put_round (fun vs H Q E h => ?_) (fun cdv A outer s H vs Q E hr h => ?_)
  · obtain ⟨v_board, v_pit, v_seeds, board, pit, seeds, rfl, r_board, r_pit, r_seeds, hQ⟩ := h
    rfl
  · obtain ⟨v_board, v_pit, v_seeds, board, pit, seeds, rfl, r_board, r_pit, r_seeds, hQ⟩ := h
    obtain rfl : v_pit = V.int pit := r_pit
    obtain rfl : v_seeds = V.int seeds := r_seeds
    have tk : Takes (cxOf (L2.CX P w) P w K mg base N_put_round "put_round" (defScope s_put_round) (He.ga K "put_round") cdv A outer s H E) (fun cls d _ H => E cls d H) := takes_of rfl rfl rfl rfl
    refine ⟨_, (by exact (pss_cons (ps_set (i := 3) sc_put_round.nd rfl (Or.inr rfl) (pe_callB call_len_seq rfl T.f_len PySem.boot_len (pa_cons (pv 0) pa_nil)))
          (pss_cons (ps_setLc (i := 4) (own := [("held", 6)]) (g := gName 6) (tt := tYes) rfl sc_put_round.nd rfl rfl (sw_true rfl rfl rfl (by decide +kernel)) (pi_list (pv 0)) (blkOk_by (N := N_put_round) (sc := defScope s_put_round) (by decide +kernel)) (fun _ _ _ _ _ => pg_name (i := 6) sc_put_round.nd rfl (Or.inl rfl)) (fun _ _ _ _ _ => pts_nil) (fun _ _ _ _ _ => (pe_op op_add (pv 6) (pe_op op_fdivW (pv 2) (pv 3)))))
          (pss_cons (ps_for (passes_of rfl) rfl (pi_range2 rfl T.f_range (pa_cons pe_int (pa_cons (pe_op op_add (pe_op op_mod (pv 2) (pv 3)) pe_int) pa_nil))) (pg_name (i := 5) sc_put_round.nd rfl (Or.inl rfl)) (pss_one (ps_augS (pv 4) (pe_op op_mod (pe_op op_add (pv 1) (pv 5)) (pv 3)) pget_list pe_int ip_add set_list)))
          (pss_one (ps_ret (pv 4))))))), ?_⟩
    unfold m_put_round at hQ
    first | with_reducible refine st_n ?_ | skip
    refine st_seq ?_
    refine s_asg ?_ (Same.refl _) (Same.refl _) hQ ?_
    · exact (g_sc (F' := H) (g_len (g_var (a := board) (Rp.mono (Same.refl _) r_board) (Same.refl _)) (Same.refl _)))
    intro pits v5 F2 H3 nx1 e04 r6 hQ
    replace r_board := Rp.mono nx1.ff r_board
    have hF7 := nx1.fh
    obtain rfl : v5 = V.int pits := r6
    first | with_reducible refine st_n ?_ | skip
    refine st_seq ?_
    refine s_asgI (b := false) ?_ hF7 e04 hQ ?_
    · exact (g_compI (i_list (g_var (a := board) (Rp.mono hF7 r_board) (Same.refl _)) (Same.refl _)) (fun held v16 F17 H18 f19 h20 hh21 rx22 => by
        obtain rfl : v16 = V.int held := rx22
        exact ⟨_, fun _ q => q, rfl, t_yes, (g_sc (F' := H18) (g_i0 (g_var (a := held) rfl (Same.refl _)) (g_div (g_var (a := seeds) rfl (Same.refl _)) (g_var (a := pits) rfl (Same.refl _)))))⟩))
    intro made p13 F9 H10 nx8 e011 o12 nw14 hQ
    replace r_board := Rp.mono nx8.ff r_board
    have hF24 := nx8.fh
    first | with_reducible refine st_n ?_ | skip
    refine st_seq ?_
    refine s_for ?_ hF24 e011 hQ ?_
    · exact (i_rng2 (g_sc (F' := H10) g_int) (g_sc (F' := H10) (g_i0 (g_mod (g_var (a := seeds) rfl (Same.refl _)) (g_var (a := pits) rfl (Same.refl _))) g_int)))
    intro xs31 J32 F28 H29 nx27 e030 ok33 hQ
    replace r_board := Rp.mono nx27.ff r_board
    replace o12 := o12.nx0 nx27
    have hF35 := nx27.fh
    replace hQ := wp_bdi hQ
    refine for_S ok33 (fun (made : (List Int)) σ40 H39 => ∃ (F36 : Hp) (j42 : Option V), σ40 = [some v_board, some (.int pit), some (.int seeds), some (.int pits), some (.ref p13), j42, none] ∧ Nx (fun q => q = p13 ∨ False) F28 H29 F36 H39 ∧ Same H H39 ∧ Own K H false F36 H39 p13 made) ?hku64 ?h0u64 hQ ?turnu64 ?doneu64
    case hku64 =>
      intro made σ9 H39 hI
      obtain ⟨F36, j42, rfl, nL37, e038, o41⟩ := hI
      exact nL37.ff.trans nL37.fh
    case h0u64 =>
      exact ⟨_, _, rfl, (Nx.refl' hF35), e030, o12⟩
    case turnu64 =>
      intro step l46 made v47 σ9 H39 H48 hI e49 rx50 hQ
      obtain ⟨F36, j42, rfl, nL37, e038, o41⟩ := hI
      have r_board := Rp.mono nL37.ff r_board
      have hF43 := nL37.fh
      have nA44 := nL37
      have nx51 : Nx0 F36 H39 (mix F36 H39 H48) H48 := Nx.mk' hF43 e49
      have e053 := e038.trans e49
      replace r_board := Rp.mono nx51.ff r_board
      replace o41 := o41.nx0 nx51
      replace nA44 := nA44.step0 nx51
      have hF54 := nx51.fh
      refine gn ?_
      obtain rfl : v47 = V.int step := rx50
      first | with_reducible refine st_n ?_ | skip
      refine s_augS (mi := modR (pit + step) pits) (m := .ok (1 : Int)) ?ha o41 ?hi ?he hF54 e053 hQ ?_
      case ha => exact at_var rfl
      case hi => exact (g_mod (g_i0 (g_var (a := pit) rfl (Same.refl _)) (g_var (a := step) rfl (Same.refl _))) (g_var (a := pits) rfl (Same.refl _)))
      case he => exact g_int
      intro made F57 H58 nx56 e059 o2 hQ
      replace r_board := Rp.mono nx56.ff r_board
      replace nA44 := nA44.step nx56 (fun q z => .inl (.inl z))
      have hF62 := nx56.fh
      replace o41 := o2
      exact ⟨made, ⟨_, _, rfl, nA44, e059, o41⟩, hQ⟩
    case doneu64 =>
      intro made σ9 H39 hI hQ
      obtain ⟨F36, j42, rfl, nL37, e038, o41⟩ := hI
      have r_board := Rp.mono nL37.ff r_board
      have hF43 := nL37.fh
      first | with_reducible refine st_n ?_ | skip
      refine s_ret ?_ e038 hQ (fun a h => h)
      exact (g_var (a := made) (o41.repI hF43) dif_le)

abbrev N_sown_plain : List Str := ["board", "pit", "emptied"]
theorem sc_sown_plain : FnScope N_sown_plain ["board", "pit"] (defScope s_sown_plain) := ⟨rfl, rfl, rfl, by decide +kernel, rfl, by decide +kernel, by decide +kernel⟩
theorem ok_sown_plain (T : Hd K mg) : ∃ fd, PySem.W.keepIn K (.ref (He.ga K "sown_plain")) = true ∧ Binds K fd ["board", "pit"] [] ∧ FnOk P w K mg base (L2.CX P w) 2 (He.ga K "sown_plain") fd ["board", "pit"] (sp2 K m_sown_plain) := by
  obtain ⟨fd, F⟩ := T.d_sown_plain
  obtain ⟨fd_put_round, kp_put_round, b_put_round, G_put_round⟩ := ok_put_round (P := P) (w := w) (base := base) T
  refine ⟨fd, F.kp, F.bindsN fun _ _ _ _ _ _ us hl => match us, hl with | [_, _], _ => rfl, ?_⟩
  refine F.ok sc_sown_plain (fun vs H Q E h => ?_) (fun cdv A outer s H vs Q E hr h => ?_)
  · obtain ⟨v_board, v_pit, board, pit, rfl, r_board, r_pit, hQ⟩ := h
    rfl
  · obtain ⟨v_board, v_pit, board, pit, rfl, r_board, r_pit, hQ⟩ := h
    obtain rfl : v_pit = V.int pit := r_pit
    have tk : Takes (cxOf (L2.CX P w) P w K mg base N_sown_plain "sown_plain" (defScope s_sown_plain) (He.ga K "sown_plain") cdv A outer s H E) (fun cls d _ H => E cls d H) := takes_of rfl rfl rfl rfl
    refine ⟨_, (by exact (pss_cons (ps_set (i := 2) sc_sown_plain.nd rfl (Or.inl rfl) (pe_callTy call_list_of rfl T.f_list (by decide +kernel) (pa_cons (pv 0) pa_nil)))
          (pss_cons (ps_asg pe_int (pg_sub (pv 2) (pv 1) set_list))
          (pss_one (ps_ret (pe_tup (pa_cons (pe_callS G_put_round (hr.mono (by decide)) rfl T.g_put_round kp_put_round b_put_round (fun σ => passAt tk σ) (pa_cons (pv 2) (pa_cons (pv 1) (pa_cons (pe_ix ix_list (pv 0) (pv 1) (fun _ _ => rfl)) pa_nil)))) (pa_cons (pe_op op_mod (pe_op op_add (pv 1) (pe_ix ix_list (pv 0) (pv 1) (fun _ _ => rfl))) (pe_callB call_len_seq rfl T.f_len PySem.boot_len (pa_cons (pv 0) pa_nil))) pa_nil)))))))), ?_⟩
    unfold m_sown_plain at hQ
    first | with_reducible refine st_n ?_ | skip
    refine st_seq ?_
    refine s_asgI (b := false) ?_ (Same.refl _) (Same.refl _) hQ ?_
    · exact (g_listI (g_var (a := board) (Rp.mono (Same.refl _) r_board) (Same.refl _)))
    intro emptied p6 F2 H3 nx1 e04 o5 nw7 hQ
    replace r_board := Rp.mono nx1.ff r_board
    have hF8 := nx1.fh
    first | with_reducible refine st_n ?_ | skip
    refine st_seq ?_
    refine s_set (m := .ok (0 : Int)) (mi := .ok pit) ?ha o5 ?he ?hi hF8 e04 hQ ?_
    case ha => exact at_var rfl
    case he => exact (g_sc (F' := H3) g_int)
    case hi => exact (g_var (a := pit) rfl (Same.refl _))
    intro emptied F10 H11 nx9 e012 o2 hQ
    replace r_board := Rp.mono nx9.ff r_board
    have hF13 := nx9.fh
    replace o5 := o2
    first | with_reducible refine st_n ?_ | skip
    refine s_ret ?_ e012 hQ (fun a h => h)
    exact (g_pair (g_call3 (ma := .ok emptied) (mb := .ok pit) (mc := idx board pit) (g_var (a := emptied) (o5.rep hF13) (Same.refl _)) (g_var (a := pit) rfl (Same.refl _)) (g_idx (g_var (a := board) (Rp.mono hF13 r_board) (Same.refl _)) (g_var (a := pit) rfl (Same.refl _)) (Same.refl _))) (g_sc (F' := H11) (g_mod (g_i0 (g_var (a := pit) rfl (Same.refl _)) (g_idx (g_var (a := board) (Rp.mono hF13 r_board) (Same.refl _)) (g_var (a := pit) rfl (Same.refl _)) (Same.refl _))) (g_len (g_var (a := board) (Rp.mono hF13 r_board) (Same.refl _)) (Same.refl _)))))

abbrev N_sown : List Str := ["board", "pit"]
theorem sc_sown : FnScope N_sown ["board", "pit"] (defScope s_sown) := ⟨rfl, rfl, rfl, by decide +kernel, rfl, by decide +kernel, by decide +kernel⟩
theorem ok_sown (T : Hd K mg) : ∃ fd, PySem.W.keepIn K (.ref (He.ga K "sown")) = true ∧ Binds K fd ["board", "pit"] [] ∧ FnOk P w K mg base (L2.CX P w) 3 (He.ga K "sown") fd ["board", "pit"] (sp2 K m_sown) := by
  obtain ⟨fd, F⟩ := T.d_sown
  obtain ⟨fd_ask_seeds, kp_ask_seeds, b_ask_seeds, G_ask_seeds⟩ := ok_ask_seeds (P := P) (w := w) (base := base) T
  obtain ⟨fd_sown_plain, kp_sown_plain, b_sown_plain, G_sown_plain⟩ := ok_sown_plain (P := P) (w := w) (base := base) T
  refine ⟨fd, F.kp, F.bindsN fun _ _ _ _ _ _ us hl => match us, hl with | [_, _], _ => rfl, ?_⟩
  refine F.ok sc_sown (fun vs H Q E h => ?_) (fun cdv A outer s H vs Q E hr h => ?_)
  · obtain ⟨v_board, v_pit, board, pit, rfl, r_board, r_pit, hQ⟩ := h
    rfl
  · obtain ⟨v_board, v_pit, board, pit, rfl, r_board, r_pit, hQ⟩ := h
    obtain rfl : v_pit = V.int pit := r_pit
    have tk : Takes (cxOf (L2.CX P w) P w K mg base N_sown "sown" (defScope s_sown) (He.ga K "sown") cdv A outer s H E) (fun cls d _ H => E cls d H) := takes_of rfl rfl rfl rfl
    refine ⟨_, (by exact (pss_cons (ps_expr (pe_callS G_ask_seeds (hr.mono (by decide)) rfl T.g_ask_seeds kp_ask_seeds b_ask_seeds (fun σ => passAt tk σ) (pa_cons (pv 0) (pa_cons (pv 1) pa_nil))))
          (pss_one (ps_ret (pe_callS G_sown_plain (hr.mono (by decide)) rfl T.g_sown_plain kp_sown_plain b_sown_plain (fun σ => passAt tk σ) (pa_cons (pv 0) (pa_cons (pv 1) pa_nil))))))), ?_⟩
    unfold m_sown at hQ
    first | with_reducible refine st_n ?_ | skip
    refine st_seq ?_
    refine s_drop ?_ (Same.refl _) (Same.refl _) hQ ?_
    · exact (g_im (Same.refl _) (g_call2 (ma := .ok board) (mb := .ok pit) (g_var (a := board) (Rp.mono (Same.refl _) r_board) (Same.refl _)) (g_var (a := pit) rfl (Same.refl _))))
    intro _ F2 H3 nx1 e04 hQ
    replace r_board := Rp.mono nx1.ff r_board
    have hF5 := nx1.fh
    first | with_reducible refine st_n ?_ | skip
    refine s_ret ?_ e04 hQ (fun a h => h)
    exact (g_call2 (ma := .ok board) (mb := .ok pit) (g_var (a := board) (Rp.mono hF5 r_board) (Same.refl _)) (g_var (a := pit) rfl (Same.refl _)))

abbrev N_ask_sizes : List Str := ["pits", "seeds"]
theorem sc_ask_sizes : FnScope N_ask_sizes ["pits", "seeds"] (defScope s_ask_sizes) := ⟨rfl, rfl, rfl, by decide +kernel, rfl, by decide +kernel, by decide +kernel⟩
theorem ok_ask_sizes (T : Hd K mg) : ∃ fd, PySem.W.keepIn K (.ref (He.ga K "ask_sizes")) = true ∧ Binds K fd ["pits", "seeds"] [] ∧ FnOk P w K mg base (L2.CX P w) 1 (He.ga K "ask_sizes") fd ["pits", "seeds"] (sp2 K m_ask_sizes) := by
  obtain ⟨fd, F⟩ := T.d_ask_sizes
  obtain ⟨t_FEWEST_PITS, c_FEWEST_PITS⟩ := T.c_FEWEST_PITS
  obtain ⟨t_MOST_PITS, c_MOST_PITS⟩ := T.c_MOST_PITS
  obtain ⟨t_MOST_SEEDS, c_MOST_SEEDS⟩ := T.c_MOST_SEEDS
  refine ⟨fd, F.kp, F.bindsN fun _ _ _ _ _ _ us hl => match us, hl with | [_, _], _ => rfl, ?_⟩
  refine F.ok sc_ask_sizes (fun vs H Q E h => ?_) (fun cdv A outer s H vs Q E hr h => ?_)
  · obtain ⟨v_pits, v_seeds, pits, seeds, rfl, r_pits, r_seeds, hQ⟩ := h
    rfl
  · obtain ⟨v_pits, v_seeds, pits, seeds, rfl, r_pits, r_seeds, hQ⟩ := h
    obtain rfl : v_pits = V.int pits := r_pits
    obtain rfl : v_seeds = V.int seeds := r_seeds
    have tk : Takes (cxOf (L2.CX P w) P w K mg base N_ask_sizes "ask_sizes" (defScope s_ask_sizes) (He.ga K "ask_sizes") cdv A outer s H E) (fun cls d _ H => E cls d H) := takes_of rfl rfl rfl rfl
    refine ⟨_, (by exact (pss_cons (ps_if (PW.pt (pw_or (pt_cmpR op_lt (pv 0) (pe_glob (v := .int (2)) rfl c_FEWEST_PITS ⟨_, rfl⟩) (nomark _)) (pw_or1 (pt_cmpR op_gt (pv 0) (pe_glob (v := .int (24)) rfl c_MOST_PITS ⟨_, rfl⟩) (nomark _))))) (pss_one (ps_raise rfl tk (pmk_own PySem.F.excBase_ValueError T.x_BadCount.1 T.g_BadCount T.x_BadCount.2.1 (raises_own T.x_BadCount.2.2.1 T.x_BadCount.2.2.2) (by exact rfl)))) pss_nil)
          (pss_one (ps_if (PW.pt (pw_or (pt_cmpR op_lt (pv 1) pe_int (nomark _)) (pw_or1 (pt_cmpR op_gt (pv 1) (pe_glob (v := .int (10 ^ 60)) rfl c_MOST_SEEDS ⟨_, rfl⟩) (nomark _))))) (pss_one (ps_raise rfl tk (pmk_own PySem.F.excBase_ValueError T.x_BadCount.1 T.g_BadCount T.x_BadCount.2.1 (raises_own T.x_BadCount.2.2.1 T.x_BadCount.2.2.2) (by exact rfl)))) pss_nil)))), ?_⟩
    unfold m_ask_sizes at hQ
    first | with_reducible refine st_n ?_ | skip
    refine st_seq ?_
    refine s_if ?_ (Same.refl _) (Same.refl _) hQ ?_ ?_
    · exact (t_orP (t_test (F := H) (g_b0 (g_var (a := pits) rfl (Same.refl _)) g_int)) (t_test (F := H) (g_b0 (g_var (a := pits) rfl (Same.refl _)) g_int)))
    · intro F2 H3 nx1 e04 hQ
      replace hQ := if_t hQ
      have hF5 := nx1.fh
      first | with_reducible refine st_n ?_ | skip
      exact raise_of (c := .BadCount) hQ e04
    intro F2 H3 nx1 e04 hQ
    replace hQ := if_f hQ
    refine st_next ?_
    have hF6 := nx1.fh
    first | with_reducible refine st_n ?_ | skip
    refine s_if ?_ hF6 e04 hQ ?_ ?_
    · exact (t_orP (t_test (F := H3) (g_b0 (g_var (a := seeds) rfl (Same.refl _)) g_int)) (t_test (F := H3) (g_b0 (g_var (a := seeds) rfl (Same.refl _)) g_int)))
    · intro F8 H9 nx7 e010 hQ
      replace hQ := if_t hQ
      have hF11 := nx7.fh
      first | with_reducible refine st_n ?_ | skip
      exact raise_of (c := .BadCount) hQ e010
    intro F8 H9 nx7 e010 hQ
    replace hQ := if_f hQ
    refine st_next ?_
    have hF12 := nx7.fh
    exact hQ V.non H9 e010 rfl

abbrev N_ways_to_lay : List Str := ["pits", "seeds", "found", "k"]
theorem sc_ways_to_lay : FnScope N_ways_to_lay ["pits", "seeds"] (defScope s_ways_to_lay) := ⟨rfl, rfl, rfl, by decide +kernel, rfl, by decide +kernel, by decide +kernel⟩
theorem ok_ways_to_lay (T : Hd K mg) : ∃ fd, PySem.W.keepIn K (.ref (He.ga K "ways_to_lay")) = true ∧ Binds K fd ["pits", "seeds"] [] ∧ FnOk P w K mg base (L2.CX P w) 1 (He.ga K "ways_to_lay") fd ["pits", "seeds"] (sp2 K m_ways_to_lay) := by
  obtain ⟨fd, F⟩ := T.d_ways_to_lay
  refine ⟨fd, F.kp, F.bindsN fun _ _ _ _ _ _ us hl => match us, hl with | [_, _], _ => rfl, ?_⟩
  refine F.ok sc_ways_to_lay (fun vs H Q E h => ?_) (fun cdv A outer s H vs Q E hr h => ?_)
  · obtain ⟨v_pits, v_seeds, pits, seeds, rfl, r_pits, r_seeds, hQ⟩ := h
    rfl
  · obtain ⟨v_pits, v_seeds, pits, seeds, rfl, r_pits, r_seeds, hQ⟩ := h
    obtain rfl : v_pits = V.int pits := r_pits
    obtain rfl : v_seeds = V.int seeds := r_seeds
    have tk : Takes (cxOf (L2.CX P w) P w K mg base N_ways_to_lay "ways_to_lay" (defScope s_ways_to_lay) (He.ga K "ways_to_lay") cdv A outer s H E) (fun cls d _ H => E cls d H) := takes_of rfl rfl rfl rfl
    refine ⟨_, (by exact (pss_cons (ps_set (i := 2) sc_ways_to_lay.nd rfl (Or.inl rfl) pe_int)
          (pss_cons (ps_for (passes_of rfl) rfl (pi_range2 rfl T.f_range (pa_cons pe_int (pa_cons (pv 0) pa_nil))) (pg_name (i := 3) sc_ways_to_lay.nd rfl (Or.inl rfl)) (pss_one (ps_set (i := 2) sc_ways_to_lay.nd rfl (Or.inl rfl) (pe_op op_fdivW (pe_op op_mulV (pv 2) (pe_op op_add (pv 1) (pv 3))) (pv 3)))))
          (pss_one (ps_ret (pv 2)))))), ?_⟩
    unfold m_ways_to_lay at hQ
    first | with_reducible refine st_n ?_ | skip
    refine st_seq ?_
    refine s_asg ?_ (Same.refl _) (Same.refl _) hQ ?_
    · exact (g_sc (F' := H) g_int)
    intro found v5 F2 H3 nx1 e04 r6 hQ
    have hF7 := nx1.fh
    obtain rfl : v5 = V.int found := r6
    first | with_reducible refine st_n ?_ | skip
    refine st_seq ?_
    refine s_for ?_ hF7 e04 hQ ?_
    · exact (i_rng2 (g_sc (F' := H3) g_int) (g_sc (F' := H3) (g_var (a := pits) rfl (Same.refl _))))
    intro xs12 J13 F9 H10 nx8 e011 ok14 hQ
    have hF16 := nx8.fh
    replace hQ := wp_bdi hQ
    refine for_S ok14 (fun (found : Int) σ21 H20 => ∃ (F17 : Hp) (j22 : Option V), σ21 = [some (.int pits), some (.int seeds), some (.int found), j22] ∧ Nx (fun _ => False) F9 H10 F17 H20 ∧ Same H H20) ?hku45 ?h0u45 hQ ?turnu45 ?doneu45
    case hku45 =>
      intro found σ9 H20 hI
      obtain ⟨F17, j22, rfl, nL18, e019⟩ := hI
      exact nL18.ff.trans nL18.fh
    case h0u45 =>
      exact ⟨_, _, rfl, (Nx.refl' hF16), e011⟩
    case turnu45 =>
      intro k l26 found v27 σ9 H20 H28 hI e29 rx30 hQ
      obtain ⟨F17, j22, rfl, nL18, e019⟩ := hI
      have hF23 := nL18.fh
      have nA24 := nL18
      have nx31 : Nx0 F17 H20 (mix F17 H20 H28) H28 := Nx.mk' hF23 e29
      have e033 := e019.trans e29
      replace nA24 := nA24.step0 nx31
      have hF34 := nx31.fh
      refine gn ?_
      obtain rfl : v27 = V.int k := rx30
      first | with_reducible refine st_n ?_ | skip
      refine s_asg ?_ hF34 e033 hQ ?_
      · exact (g_sc (F' := H28) (g_div (g_mul (g_var (a := found) rfl (Same.refl _)) (g_i0 (g_var (a := seeds) rfl (Same.refl _)) (g_var (a := k) rfl (Same.refl _)))) (g_var (a := k) rfl (Same.refl _))))
      intro found v41 F37 H38 nx36 e039 r42 hQ
      replace nA24 := nA24.step0 nx36
      have hF43 := nx36.fh
      obtain rfl : v41 = V.int found := r42
      exact ⟨found, ⟨_, _, rfl, nA24, e039⟩, hQ⟩
    case doneu45 =>
      intro found σ9 H20 hI hQ
      obtain ⟨F17, j22, rfl, nL18, e019⟩ := hI
      have hF23 := nL18.fh
      first | with_reducible refine st_n ?_ | skip
      refine s_ret ?_ e019 hQ (fun a h => h)
      exact (g_var (a := found) rfl dif_le)

abbrev N_board_count : List Str := ["pits", "seeds"]
theorem sc_board_count : FnScope N_board_count ["pits", "seeds"] (defScope s_board_count) := ⟨rfl, rfl, rfl, by decide +kernel, rfl, by decide +kernel, by decide +kernel⟩
theorem ok_board_count (T : Hd K mg) : ∃ fd, PySem.W.keepIn K (.ref (He.ga K "board_count")) = true ∧ Binds K fd ["pits", "seeds"] [] ∧ FnOk P w K mg base (L2.CX P w) 2 (He.ga K "board_count") fd ["pits", "seeds"] (sp2 K m_board_count) := by
  obtain ⟨fd, F⟩ := T.d_board_count
  obtain ⟨fd_ask_sizes, kp_ask_sizes, b_ask_sizes, G_ask_sizes⟩ := ok_ask_sizes (P := P) (w := w) (base := base) T
  obtain ⟨fd_ways_to_lay, kp_ways_to_lay, b_ways_to_lay, G_ways_to_lay⟩ := ok_ways_to_lay (P := P) (w := w) (base := base) T
  refine ⟨fd, F.kp, F.bindsN fun _ _ _ _ _ _ us hl => match us, hl with | [_, _], _ => rfl, ?_⟩
  refine F.ok sc_board_count (fun vs H Q E h => ?_) (fun cdv A outer s H vs Q E hr h => ?_)
  · obtain ⟨v_pits, v_seeds, pits, seeds, rfl, r_pits, r_seeds, hQ⟩ := h
    rfl
  · obtain ⟨v_pits, v_seeds, pits, seeds, rfl, r_pits, r_seeds, hQ⟩ := h
    obtain rfl : v_pits = V.int pits := r_pits
    obtain rfl : v_seeds = V.int seeds := r_seeds
    have tk : Takes (cxOf (L2.CX P w) P w K mg base N_board_count "board_count" (defScope s_board_count) (He.ga K "board_count") cdv A outer s H E) (fun cls d _ H => E cls d H) := takes_of rfl rfl rfl rfl
    refine ⟨_, (by exact (pss_cons (ps_expr (pe_callS G_ask_sizes (hr.mono (by decide)) rfl T.g_ask_sizes kp_ask_sizes b_ask_sizes (fun σ => passAt tk σ) (pa_cons (pv 0) (pa_cons (pv 1) pa_nil))))
          (pss_one (ps_ret (pe_callS G_ways_to_lay (hr.mono (by decide)) rfl T.g_ways_to_lay kp_ways_to_lay b_ways_to_lay (fun σ => passAt tk σ) (pa_cons (pv 0) (pa_cons (pv 1) pa_nil))))))), ?_⟩
    unfold m_board_count at hQ
    first | with_reducible refine st_n ?_ | skip
    refine st_seq ?_
    refine s_drop ?_ (Same.refl _) (Same.refl _) hQ ?_
    · exact (g_im (Same.refl _) (g_call2 (ma := .ok pits) (mb := .ok seeds) (g_var (a := pits) rfl (Same.refl _)) (g_var (a := seeds) rfl (Same.refl _))))
    intro _ F2 H3 nx1 e04 hQ
    have hF5 := nx1.fh
    first | with_reducible refine st_n ?_ | skip
    refine s_ret ?_ e04 hQ (fun a h => h)
    exact (g_sc (F' := H3) (g_call2 (ma := .ok pits) (mb := .ok seeds) (g_var (a := pits) rfl (Same.refl _)) (g_var (a := seeds) rfl (Same.refl _))))

abbrev N_ask_few : List Str := ["board"]
theorem sc_ask_few : FnScope N_ask_few ["board"] (defScope s_ask_few) := ⟨rfl, rfl, rfl, by decide +kernel, rfl, by decide +kernel, by decide +kernel⟩
theorem ok_ask_few (T : Hd K mg) : ∃ fd, PySem.W.keepIn K (.ref (He.ga K "ask_few")) = true ∧ Binds K fd ["board"] [] ∧ FnOk P w K mg base (L2.CX P w) 3 (He.ga K "ask_few") fd ["board"] (sp1 K m_ask_few) := by
  obtain ⟨fd, F⟩ := T.d_ask_few
  obtain ⟨fd_board_count, kp_board_count, b_board_count, G_board_count⟩ := ok_board_count (P := P) (w := w) (base := base) T
  obtain ⟨t_MOST_BOARDS, c_MOST_BOARDS⟩ := T.c_MOST_BOARDS
  refine ⟨fd, F.kp, F.bindsN fun _ _ _ _ _ _ us hl => match us, hl with | [_], _ => rfl, ?_⟩
  refine F.ok sc_ask_few (fun vs H Q E h => ?_) (fun cdv A outer s H vs Q E hr h => ?_)
  · obtain ⟨v_board, board, rfl, r_board, hQ⟩ := h
    rfl
  · obtain ⟨v_board, board, rfl, r_board, hQ⟩ := h
    have tk : Takes (cxOf (L2.CX P w) P w K mg base N_ask_few "ask_few" (defScope s_ask_few) (He.ga K "ask_few") cdv A outer s H E) (fun cls d _ H => E cls d H) := takes_of rfl rfl rfl rfl
    refine ⟨_, (by exact (pss_one (ps_if (pt_cmpR op_gt (pe_callS G_board_count (hr.mono (by decide)) rfl T.g_board_count kp_board_count b_board_count (fun σ => passAt tk σ) (pa_cons (pe_callB call_len_seq rfl T.f_len PySem.boot_len (pa_cons (pv 0) pa_nil)) (pa_cons (pe_callB (cr_sum rfl) rfl T.f_sum (by decide +kernel) (pa_cons (pv 0) pa_nil)) pa_nil))) (pe_glob (v := .int (1000)) rfl c_MOST_BOARDS ⟨_, rfl⟩) (nomark _)) (pss_one (ps_raise rfl tk (pmk_own PySem.F.excBase_ValueError T.x_TooMany.1 T.g_TooMany T.x_TooMany.2.1 (raises_own T.x_TooMany.2.2.1 T.x_TooMany.2.2.2) (by exact rfl)))) pss_nil))), ?_⟩
    unfold m_ask_few at hQ
    first | with_reducible refine st_n ?_ | skip
    refine s_if ?_ (Same.refl _) (Same.refl _) hQ ?_ ?_
    · exact (t_test (F := H) (g_b0 (g_call2 (ma := .ok (board.length : Int)) (mb := .ok board.sum) (g_len (g_var (a := board) (Rp.mono (Same.refl _) r_board) (Same.refl _)) (Same.refl _)) (g_sum (g_var (a := board) (Rp.mono (Same.refl _) r_board) (Same.refl _)) (Same.refl _))) g_int))
    · intro F3 H4 nx2 e05 hQ
      replace hQ := if_t hQ
      replace r_board := Rp.mono nx2.ff r_board
      have hF6 := nx2.fh
      first | with_reducible refine st_n ?_ | skip
      exact raise_of (c := .TooMany) hQ e05
    intro F3 H4 nx2 e05 hQ
    replace hQ := if_f hQ
    refine st_next ?_
    replace r_board := Rp.mono nx2.ff r_board
    have hF7 := nx2.fh
    exact hQ V.non H4 e05 rfl

abbrev N_next_sowings : List Str := ["board", "told", "pit", "number"]
theorem sc_next_sowings : FnScope N_next_sowings ["board"] (defScope s_next_sowings) := ⟨rfl, rfl, rfl, by decide +kernel, rfl, by decide +kernel, by decide +kernel⟩
theorem ok_next_sowings (T : Hd K mg) : ∃ fd, PySem.W.keepIn K (.ref (He.ga K "next_sowings")) = true ∧ Binds K fd ["board"] [] ∧ FnOk P w K mg base (L2.CX P w) 4 (He.ga K "next_sowings") fd ["board"] (sp1 K m_next_sowings) := by
  obtain ⟨fd, F⟩ := T.d_next_sowings
  obtain ⟨fd_sown, kp_sown, b_sown, G_sown⟩ := ok_sown (P := P) (w := w) (base := base) T
  refine ⟨fd, F.kp, F.bindsN fun _ _ _ _ _ _ us hl => match us, hl with | [_], _ => rfl, ?_⟩
  refine F.ok sc_next_sowings (fun vs H Q E h => ?_) (fun cdv A outer s H vs Q E hr h => ?_)
  · obtain ⟨v_board, board, rfl, r_board, hQ⟩ := h
    rfl
  · obtain ⟨v_board, board, rfl, r_board, hQ⟩ := h
    have tk : Takes (cxOf (L2.CX P w) P w K mg base N_next_sowings "next_sowings" (defScope s_next_sowings) (He.ga K "next_sowings") cdv A outer s H E) (fun cls d _ H => E cls d H) := takes_of rfl rfl rfl rfl
    refine ⟨_, (by exact (pss_cons (ps_set (i := 1) sc_next_sowings.nd rfl (Or.inl rfl) (pe_lst pa_nil))
          (pss_cons (ps_for (passes_of rfl) rfl (pi_enumA rfl T.f_enumerate (pa_cons (pv 0) pa_nil)) (pg_tup rfl (pgs_cons (pg_name (i := 2) sc_next_sowings.nd rfl (Or.inl rfl)) (pgs_cons (pg_name (i := 3) sc_next_sowings.nd rfl (Or.inl rfl)) pgs_nil))) (pss_one (ps_if (pt_cmpR op_gt (pv 3) pe_int (nomark _)) (pss_one (ps_expr (pe_bm PySem.F.plainAttrs_list PySem.F.slot_list_append PySem.F.type_list_append mt_append (pv 1) (pa_cons (pe_tup (pa_cons (pv 2) (pa_cons (pe_callTy call_tuple_of rfl T.f_tuple (by decide +kernel) (pa_cons (pe_ix ix_tup (pe_callS G_sown (hr.mono (by decide)) rfl T.g_sown kp_sown b_sown (fun σ => passAt tk σ) (pa_cons (pe_callTy call_list_of rfl T.f_list (by decide +kernel) (pa_cons (pv 0) pa_nil)) (pa_cons (pv 2) pa_nil))) pe_int (fun _ _ => rfl)) pa_nil)) pa_nil))) pa_nil)))) pss_nil)))
          (pss_one (ps_ret (pv 1)))))), ?_⟩
    unfold m_next_sowings at hQ
    first | with_reducible refine st_n ?_ | skip
    refine st_seq ?_
    refine s_asgI (b := false) ?_ (Same.refl _) (Same.refl _) hQ ?_
    · exact (g_lstK a_nil (Nat.le_of_ble_eq_true rfl))
    intro told p6 F2 H3 nx1 e04 o5 nw7 hQ
    replace r_board := Rp.mono nx1.ff r_board
    have hF8 := nx1.fh
    first | with_reducible refine st_n ?_ | skip
    refine st_seq ?_
    refine s_for ?_ hF8 e04 hQ ?_
    · exact (i_sq (g_var (a := board) r_board hF8) hF8)
    intro xs13 J14 F10 H11 nx9 e012 ok15 hQ
    replace r_board := Rp.mono nx9.ff r_board
    replace o5 := o5.nx0 nx9
    have hF17 := nx9.fh
    replace hQ := wp_bdi hQ
    refine for_S ok15 (fun (told : (List (Int × (Tu Int)))) σ22 H21 => ∃ (F18 : Hp) (j24 : Option V) (j25 : Option V), σ22 = [some v_board, some (.ref p6), j24, j25] ∧ Nx (fun q => q = p6 ∨ False) F10 H11 F18 H21 ∧ Same H H21 ∧ Own K H false F18 H21 p6 told) ?hku60 ?h0u60 hQ ?turnu60 ?doneu60
    case hku60 =>
      intro told σ9 H21 hI
      obtain ⟨F18, j24, j25, rfl, nL19, e020, o23⟩ := hI
      exact nL19.ff.trans nL19.fh
    case h0u60 =>
      exact ⟨_, _, _, rfl, (Nx.refl' hF17), e012, o5⟩
    case turnu60 =>
      intro p9 l29 told v30 σ9 H21 H31 hI e32 rx33 hQ
      obtain ⟨pit, number⟩ := p9
      obtain ⟨F18, j24, j25, rfl, nL19, e020, o23⟩ := hI
      have r_board := Rp.mono nL19.ff r_board
      have hF26 := nL19.fh
      have nA27 := nL19
      have nx34 : Nx0 F18 H21 (mix F18 H21 H31) H31 := Nx.mk' hF26 e32
      have e036 := e020.trans e32
      replace r_board := Rp.mono nx34.ff r_board
      replace o23 := o23.nx0 nx34
      replace nA27 := nA27.step0 nx34
      have hF37 := nx34.fh
      refine gp (Rp.mono (mix_ff nL19.ff) rx33) hF37 ?_
      intro y38 y39 r40 r41
      obtain rfl : y38 = V.int pit := r40
      obtain rfl : y39 = V.int number := r41
      first | with_reducible refine st_n ?_ | skip
      refine s_if ?_ hF37 e036 hQ ?_ ?_
      · exact (t_test (F := H31) (g_b0 (g_var (a := number) rfl (Same.refl _)) g_int))
      · intro F44 H45 nx43 e046 hQ
        replace hQ := if_t hQ
        replace r_board := Rp.mono nx43.ff r_board
        replace o23 := o23.nx0 nx43
        replace nA27 := nA27.step0 nx43
        have hF47 := nx43.fh
        first | with_reducible refine st_n ?_ | skip
        refine s_app (m := R.bd (R.bd (R.bd (m_sown board.l pit) fun (t53 : (List Int) × Int) => .ok t53.1) fun (t54 : List Int) => .ok (Tu.mk t54)) fun (t55 : Tu Int) => .ok (pit, t55)) ?ha o23 ?he hF47 e046 hQ ?_
        case ha => exact at_var rfl
        case he => exact (g_im (Same.refl _) (g_pair (g_var (a := pit) rfl (Same.refl _)) (g_tupleI (g_fst (g_call2 (ma := .ok board.l) (mb := .ok pit) (g_listSqI (g_var (a := board) (Rp.mono hF47 r_board) (Same.refl _))) (g_var (a := pit) rfl (Same.refl _))) (Same.refl _)))))
        intro told F50 H51 nx49 e052 o2 hQ
        replace r_board := Rp.mono nx49.ff r_board
        replace nA27 := nA27.step nx49 (fun q z => .inl (.inl z))
        have hF57 := nx49.fh
        replace o23 := o2
        exact ⟨told, ⟨_, _, _, rfl, nA27, e052, o23⟩, hQ⟩
      intro F44 H45 nx43 e046 hQ
      replace hQ := if_f hQ
      refine st_next ?_
      replace r_board := Rp.mono nx43.ff r_board
      replace o23 := o23.nx0 nx43
      replace nA27 := nA27.step0 nx43
      have hF48 := nx43.fh
      exact ⟨told, ⟨_, _, _, rfl, nA27, e046, o23⟩, hQ⟩
    case doneu60 =>
      intro told σ9 H21 hI hQ
      obtain ⟨F18, j24, j25, rfl, nL19, e020, o23⟩ := hI
      have r_board := Rp.mono nL19.ff r_board
      have hF26 := nL19.fh
      first | with_reducible refine st_n ?_ | skip
      refine s_ret ?_ e020 hQ (fun a h => h)
      exact (g_var (a := told) (o23.repI hF26) dif_le)

abbrev N_plan_back : List Str := ["came", "board", "plan", "pit"]
theorem sc_plan_back : FnScope N_plan_back ["came", "board"] (defScope s_plan_back) := ⟨rfl, rfl, rfl, by decide +kernel, rfl, by decide +kernel, by decide +kernel⟩
theorem ok_plan_back (T : Hd K mg) : ∃ fd, PySem.W.keepIn K (.ref (He.ga K "plan_back")) = true ∧ Binds K fd ["came", "board"] [] ∧ FnOk P w K mg base (L2.CX P w) 1 (He.ga K "plan_back") fd ["came", "board"] (sp2 K m_plan_back) := by
  obtain ⟨fd, F⟩ := T.d_plan_back
  refine ⟨fd, F.kp, F.bindsN fun _ _ _ _ _ _ us hl => match us, hl with | [_, _], _ => rfl, ?_⟩
  refine F.ok sc_plan_back (fun vs H Q E h => ?_) (fun cdv A outer s H vs Q E hr h => ?_)
  · obtain ⟨v_came, v_board, came, board, rfl, r_came, r_board, hQ⟩ := h
    rfl
  · obtain ⟨v_came, v_board, came, board, rfl, r_came, r_board, hQ⟩ := h
    have tk : Takes (cxOf (L2.CX P w) P w K mg base N_plan_back "plan_back" (defScope s_plan_back) (He.ga K "plan_back") cdv A outer s H E) (fun cls d _ H => E cls d H) := takes_of rfl rfl rfl rfl
    refine ⟨_, (by exact (pss_cons (ps_set (i := 2) sc_plan_back.nd rfl (Or.inl rfl) (pe_lst pa_nil))
          (pss_cons (ps_while (passes_of rfl) (pt_cmp (pc_notN (pe_dget (u1 hr) (pv 0) (pv 1) (fun _ _ => rfl)))) (pss_cons (ps_asg (pe_dget (u1 hr) (pv 0) (pv 1) (fun _ _ => rfl)) (pg_tup rfl (pgs_cons (pg_name (i := 1) sc_plan_back.nd rfl (Or.inl rfl)) (pgs_cons (pg_name (i := 3) sc_plan_back.nd rfl (Or.inl rfl)) pgs_nil))))
          (pss_one (ps_expr (pe_bm PySem.F.plainAttrs_list PySem.F.slot_list_append PySem.F.type_list_append mt_append (pv 2) (pa_cons (pe_tup (pa_cons pe_str (pa_cons (pv 3) pa_nil))) pa_nil))))))
          (pss_one (ps_ret (pe_listRev rfl rfl T.f_list rfl T.f_reversed (pv 2))))))), ?_⟩
    unfold m_plan_back at hQ
    first | with_reducible refine st_n ?_ | skip
    refine st_seq ?_
    refine s_asgI (b := false) ?_ (Same.refl _) (Same.refl _) hQ ?_
    · exact (g_lstK a_nil (Nat.le_of_ble_eq_true rfl))
    intro plan p6 F2 H3 nx1 e04 o5 nw7 hQ
    replace r_came := Rp.mono nx1.ff r_came
    replace r_board := Rp.mono nx1.ff r_board
    have hF8 := nx1.fh
    first | with_reducible refine st_n ?_ | skip
    refine st_seq ?_
    replace hQ := wp_bdi hQ
    refine while_S (fun (st : (Tu Int) × (List (Str × Int))) σ13 H12 => match st with | (board, plan) => ∃ (F9 : Hp) (v14 : V) (j17 : Option V), σ13 = [some v_came, some v14, some (.ref p6), j17] ∧ Nx (fun q => q = p6 ∨ False) F2 H3 F9 H12 ∧ Same H H12 ∧ Rp.rep K F9 v14 board ∧ Own K H false F9 H12 p6 plan) ?h0u42 hQ ?hcu42 ?hbu42 ?hdu42
    case h0u42 =>
      exact ⟨_, _, _, rfl, (Nx.refl' hF8), e04, r_board, o5⟩
    case hcu42 =>
      intro st σ9 H12 hI
      obtain ⟨board, plan⟩ := st
      obtain ⟨F9, v14, j17, rfl, nL10, e011, r15, o16⟩ := hI
      have r_came := Rp.mono nL10.ff r_came
      have hF18 := nL10.fh
      exact ⟨e011, (t_B (F := H12) (g_notN (g_dget (g_var (a := came) (Rp.mono hF18 r_came) (Same.refl _)) (g_var (a := board) (Rp.mono hF18 r15) (Same.refl _)) (Same.refl _))))⟩
    case hbu42 =>
      intro n9 st σ9 H12 H21 hI e22 hQ
      obtain ⟨board, plan⟩ := st
      obtain ⟨F9, v14, j17, rfl, nL10, e011, r15, o16⟩ := hI
      have r_came := Rp.mono nL10.ff r_came
      have hF18 := nL10.fh
      have nA19 := nL10
      have nx23 : Nx0 F9 H12 (mix F9 H12 H21) H21 := Nx.mk' hF18 e22
      have e024 := e011.trans e22
      replace r_came := Rp.mono nx23.ff r_came
      replace r15 := Rp.mono nx23.ff r15
      replace o16 := o16.nx0 nx23
      replace nA19 := nA19.step0 nx23
      have hF25 := nx23.fh
      first | with_reducible refine st_n ?_ | skip
      refine st_seq ?_
      refine s_unp ?_ hF25 e024 hQ ?_
      · exact (g_un (g_im (Same.refl _) (g_dget (g_var (a := came) (Rp.mono hF25 r_came) (Same.refl _)) (g_var (a := board) (Rp.mono hF25 r15) (Same.refl _)) (Same.refl _))))
      intro board pit v31 v32 F28 H29 nx27 e030 r33 r34 hQ
      replace r_came := Rp.mono nx27.ff r_came
      replace o16 := o16.nx0 nx27
      replace nA19 := nA19.step0 nx27
      have hF35 := nx27.fh
      obtain rfl : v32 = V.int pit := r34
      first | with_reducible refine st_n ?_ | skip
      refine s_app (m := .ok (("sow" : Str), pit)) ?ha o16 ?he hF35 e030 hQ ?_
      case ha => exact at_var rfl
      case he => exact (g_im (Same.refl _) (g_pair g_str (g_var (a := pit) rfl (Same.refl _))))
      intro plan F37 H38 nx36 e039 o2 hQ
      replace r_came := Rp.mono nx36.ff r_came
      replace r33 := Rp.mono nx36.ff r33
      replace nA19 := nA19.step nx36 (fun q z => .inl (.inl z))
      have hF40 := nx36.fh
      replace o16 := o2
      exact ⟨(board, plan), ⟨_, _, _, rfl, nA19, e039, r33, o16⟩, hQ⟩
    case hdu42 =>
      intro st σ9 H12 H21 hI e22 hQ
      obtain ⟨board, plan⟩ := st
      obtain ⟨F9, v14, j17, rfl, nL10, e011, r15, o16⟩ := hI
      have r_came := Rp.mono nL10.ff r_came
      have hF18 := nL10.fh
      have nx23 : Nx0 F9 H12 (mix F9 H12 H21) H21 := Nx.mk' hF18 e22
      have e024 := e011.trans e22
      replace r_came := Rp.mono nx23.ff r_came
      replace r15 := Rp.mono nx23.ff r15
      replace o16 := o16.nx0 nx23
      have hF41 := nx23.fh
      first | with_reducible refine st_n ?_ | skip
      refine s_ret ?_ e024 hQ (fun a h => h)
      exact (g_listRevI (g_var (a := plan) (o16.rep hF41) (Same.refl _)))

abbrev N_ask_barred : List Str := ["board", "barred", "last", "pit"]
theorem sc_ask_barred : FnScope N_ask_barred ["board", "barred"] (defScope s_ask_barred) := ⟨rfl, rfl, rfl, by decide +kernel, rfl, by decide +kernel, by decide +kernel⟩
theorem ok_ask_barred (T : Hd K mg) : ∃ fd, PySem.W.keepIn K (.ref (He.ga K "ask_barred")) = true ∧ Binds K fd ["board", "barred"] [] ∧ FnOk P w K mg base (L2.CX P w) 1 (He.ga K "ask_barred") fd ["board", "barred"] (sp2 K m_ask_barred) := by
  obtain ⟨fd, F⟩ := T.d_ask_barred
  refine ⟨fd, F.kp, F.bindsN fun _ _ _ _ _ _ us hl => match us, hl with | [_, _], _ => rfl, ?_⟩
  refine F.ok sc_ask_barred (fun vs H Q E h => ?_) (fun cdv A outer s H vs Q E hr h => ?_)
  · obtain ⟨v_board, v_barred, board, barred, rfl, r_board, r_barred, hQ⟩ := h
    rfl
  · obtain ⟨v_board, v_barred, board, barred, rfl, r_board, r_barred, hQ⟩ := h
    have tk : Takes (cxOf (L2.CX P w) P w K mg base N_ask_barred "ask_barred" (defScope s_ask_barred) (He.ga K "ask_barred") cdv A outer s H E) (fun cls d _ H => E cls d H) := takes_of rfl rfl rfl rfl
    refine ⟨_, (by exact (pss_cons (ps_set (i := 2) sc_ask_barred.nd rfl (Or.inl rfl) (pe_un un_neg pe_int))
          (pss_cons (ps_for (passes_of rfl) rfl (pi_list (pv 1)) (pg_name (i := 3) sc_ask_barred.nd rfl (Or.inl rfl)) (pss_cons (ps_if (PW.pt (pw_or (pt_cmpR op_le (pv 3) (pv 2) (nomark _)) (pw_or1 (pt_cmpR op_ge (pv 3) (pe_callB call_len_seq rfl T.f_len PySem.boot_len (pa_cons (pv 0) pa_nil)) (nomark _))))) (pss_one (ps_raise rfl tk (pmk_own PySem.F.excBase_ValueError T.x_BadPits.1 T.g_BadPits T.x_BadPits.2.1 (raises_own T.x_BadPits.2.2.1 T.x_BadPits.2.2.2) (by exact rfl)))) pss_nil)
          (pss_one (ps_set (i := 2) sc_ask_barred.nd rfl (Or.inl rfl) (pv 3)))))
          (pss_one (ps_if (PW.pt (pw_or (pt_cmpR op_eq (pe_callB call_len_seq rfl T.f_len PySem.boot_len (pa_cons (pv 1) pa_nil)) pe_int (nomark _)) (pw_or1 (pt_cmpR op_eq (pe_callB call_len_seq rfl T.f_len PySem.boot_len (pa_cons (pv 1) pa_nil)) (pe_callB call_len_seq rfl T.f_len PySem.boot_len (pa_cons (pv 0) pa_nil)) (nomark _))))) (pss_one (ps_raise rfl tk (pmk_own PySem.F.excBase_ValueError T.x_BadPits.1 T.g_BadPits T.x_BadPits.2.1 (raises_own T.x_BadPits.2.2.1 T.x_BadPits.2.2.2) (by exact rfl)))) pss_nil))))), ?_⟩
    unfold m_ask_barred at hQ
    first | with_reducible refine st_n ?_ | skip
    refine st_seq ?_
    refine s_asg ?_ (Same.refl _) (Same.refl _) hQ ?_
    · exact (g_sc (F' := H) (g_neg g_int))
    intro last v5 F2 H3 nx1 e04 r6 hQ
    replace r_board := Rp.mono nx1.ff r_board
    replace r_barred := Rp.mono nx1.ff r_barred
    have hF7 := nx1.fh
    obtain rfl : v5 = V.int last := r6
    first | with_reducible refine st_n ?_ | skip
    refine st_seq ?_
    refine s_for ?_ hF7 e04 hQ ?_
    · exact (i_list (g_var (a := barred) r_barred hF7) hF7)
    intro xs12 J13 F9 H10 nx8 e011 ok14 hQ
    replace r_board := Rp.mono nx8.ff r_board
    replace r_barred := Rp.mono nx8.ff r_barred
    have hF16 := nx8.fh
    replace hQ := wp_bdi hQ
    refine for_S ok14 (fun (last : Int) σ21 H20 => ∃ (F17 : Hp) (j22 : Option V), σ21 = [some v_board, some v_barred, some (.int last), j22] ∧ Nx (fun _ => False) F9 H10 F17 H20 ∧ Same H H20) ?hku58 ?h0u58 hQ ?turnu58 ?doneu58
    case hku58 =>
      intro last σ9 H20 hI
      obtain ⟨F17, j22, rfl, nL18, e019⟩ := hI
      exact nL18.ff.trans nL18.fh
    case h0u58 =>
      exact ⟨_, _, rfl, (Nx.refl' hF16), e011⟩
    case turnu58 =>
      intro pit l26 last v27 σ9 H20 H28 hI e29 rx30 hQ
      obtain ⟨F17, j22, rfl, nL18, e019⟩ := hI
      have r_board := Rp.mono nL18.ff r_board
      have r_barred := Rp.mono nL18.ff r_barred
      have hF23 := nL18.fh
      have nA24 := nL18
      have nx31 : Nx0 F17 H20 (mix F17 H20 H28) H28 := Nx.mk' hF23 e29
      have e033 := e019.trans e29
      replace r_board := Rp.mono nx31.ff r_board
      replace r_barred := Rp.mono nx31.ff r_barred
      replace nA24 := nA24.step0 nx31
      have hF34 := nx31.fh
      refine gn ?_
      obtain rfl : v27 = V.int pit := rx30
      first | with_reducible refine st_n ?_ | skip
      refine st_seq ?_
      refine s_if ?_ hF34 e033 hQ ?_ ?_
      · exact (t_orP (t_test (F := H28) (g_b0 (g_var (a := pit) rfl (Same.refl _)) (g_var (a := last) rfl (Same.refl _)))) (t_test (F := H28) (g_b0 (g_var (a := pit) rfl (Same.refl _)) (g_len (g_var (a := board) (Rp.mono hF34 r_board) (Same.refl _)) (Same.refl _)))))
      · intro F37 H38 nx36 e039 hQ
        replace hQ := if_t hQ
        replace r_board := Rp.mono nx36.ff r_board
        replace r_barred := Rp.mono nx36.ff r_barred
        replace nA24 := nA24.step0 nx36
        have hF40 := nx36.fh
        first | with_reducible refine st_n ?_ | skip
        exact raise_of (c := .BadPits) hQ e039
      intro F37 H38 nx36 e039 hQ
      replace hQ := if_f hQ
      refine st_next ?_
      replace r_board := Rp.mono nx36.ff r_board
      replace r_barred := Rp.mono nx36.ff r_barred
      replace nA24 := nA24.step0 nx36
      have hF41 := nx36.fh
      first | with_reducible refine st_n ?_ | skip
      refine s_asg ?_ hF41 e039 hQ ?_
      · exact (g_var (a := pit) rfl hF41)
      intro last v46 F43 H44 nx42 e045 r47 hQ
      replace r_board := Rp.mono nx42.ff r_board
      replace r_barred := Rp.mono nx42.ff r_barred
      replace nA24 := nA24.step0 nx42
      have hF48 := nx42.fh
      obtain rfl : v46 = V.int last := r47
      exact ⟨last, ⟨_, _, rfl, nA24, e045⟩, hQ⟩
    case doneu58 =>
      intro last σ9 H20 hI hQ
      obtain ⟨F17, j22, rfl, nL18, e019⟩ := hI
      have r_board := Rp.mono nL18.ff r_board
      have r_barred := Rp.mono nL18.ff r_barred
      have hF23 := nL18.fh
      first | with_reducible refine st_n ?_ | skip
      refine s_if ?_ hF23 e019 hQ ?_ ?_
      · exact (t_orP (t_test (F := H20) (g_eq (g_len (g_var (a := barred) (Rp.mono hF23 r_barred) (Same.refl _)) (Same.refl _)) g_int)) (t_test (F := H20) (g_eq (g_len (g_var (a := barred) (Rp.mono hF23 r_barred) (Same.refl _)) (Same.refl _)) (g_len (g_var (a := board) (Rp.mono hF23 r_board) (Same.refl _)) (Same.refl _)))))
      · intro F51 H52 nx50 e053 hQ
        replace hQ := if_t hQ
        replace r_board := Rp.mono nx50.ff r_board
        replace r_barred := Rp.mono nx50.ff r_barred
        have hF54 := nx50.fh
        first | with_reducible refine st_n ?_ | skip
        exact raise_of (c := .BadPits) hQ e053
      intro F51 H52 nx50 e053 hQ
      replace hQ := if_f hQ
      refine st_next ?_
      replace r_board := Rp.mono nx50.ff r_board
      replace r_barred := Rp.mono nx50.ff r_barred
      have hF55 := nx50.fh
      exact hQ V.non H52 e053 rfl

abbrev N_free_sowings : List Str := ["board", "barred", "pair"]
theorem sc_free_sowings : FnScope N_free_sowings ["board", "barred"] (defScope s_free_sowings) := ⟨rfl, rfl, rfl, by decide +kernel, rfl, by decide +kernel, by decide +kernel⟩
theorem ok_free_sowings (T : Hd K mg) : ∃ fd, PySem.W.keepIn K (.ref (He.ga K "free_sowings")) = true ∧ Binds K fd ["board", "barred"] [] ∧ FnOk P w K mg base (L2.CX P w) 5 (He.ga K "free_sowings") fd ["board", "barred"] (sp2 K m_free_sowings) := by
  obtain ⟨fd, F⟩ := T.d_free_sowings
  obtain ⟨fd_next_sowings, kp_next_sowings, b_next_sowings, G_next_sowings⟩ := ok_next_sowings (P := P) (w := w) (base := base) T
  refine ⟨fd, F.kp, F.bindsN fun _ _ _ _ _ _ us hl => match us, hl with | [_, _], _ => rfl, ?_⟩
  refine F.ok sc_free_sowings (fun vs H Q E h => ?_) (fun cdv A outer s H vs Q E hr h => ?_)
  · obtain ⟨v_board, v_barred, board, barred, rfl, r_board, r_barred, hQ⟩ := h
    rfl
  · obtain ⟨v_board, v_barred, board, barred, rfl, r_board, r_barred, hQ⟩ := h
    have tk : Takes (cxOf (L2.CX P w) P w K mg base N_free_sowings "free_sowings" (defScope s_free_sowings) (He.ga K "free_sowings") cdv A outer s H E) (fun cls d _ H => E cls d H) := takes_of rfl rfl rfl rfl
    refine ⟨_, (by exact (pss_one (ps_ret (pe_lc (own := [("pair", 2)]) (g := gName 2) rfl sc_free_sowings.nd (pi_list (pe_callS G_next_sowings (hr.mono (by decide)) rfl T.g_next_sowings kp_next_sowings b_next_sowings (fun σ => passAt tk σ) (pa_cons (pv 0) pa_nil))) (blkOk_by (N := N_free_sowings) (sc := defScope s_free_sowings) (by decide +kernel)) (fun _ _ _ _ _ => pg_name (i := 2) sc_free_sowings.nd rfl (Or.inl rfl)) (fun _ _ _ _ _ => pts_one (pt_cmpR (op_notIn_seqK (K := K) rfl) (pe_ix (ix_tupK (K := K) rfl) (pv 2) pe_int (fun _ _ => rfl)) (pv 1) (by rfl))) (fun _ _ _ _ _ => (pv 2)))))), ?_⟩
    unfold m_free_sowings at hQ
    first | with_reducible refine st_n ?_ | skip
    refine s_ret ?_ (Same.refl _) hQ (fun a h => h)
    exact (g_compI (i_list (g_call1 (ma := .ok board) (g_var (a := board) (Rp.mono (Same.refl _) r_board) (Same.refl _))) (Same.refl _)) (fun pair v2 F3 H4 f5 h6 hh7 rx8 => ⟨(wipe _ _).set 2 (some v2), fun _ q => q, rfl, (t_test (F := H4) (g_in (neg := true) (g_fst (g_var (a := pair) (Rp.mono h6 rx8) (Same.refl _)) (Same.refl _)) (g_var (a := barred) (Rp.mono hh7 (Rp.mono (Same.refl _) r_barred)) (Same.refl _)) (Same.refl _) eqV_int)), (g_im (Same.refl _) (g_var (a := pair) (Rp.mono h6 rx8) (Same.refl _)))⟩))

abbrev N_search_free : List Str := ["board", "barred", "first", "came", "line", "at", "pit", "behind"]
theorem sc_search_free : FnScope N_search_free ["board", "barred"] (defScope s_search_free) := ⟨rfl, rfl, rfl, by decide +kernel, rfl, by decide +kernel, by decide +kernel⟩
theorem ok_search_free (T : Hd K mg) : ∃ fd, PySem.W.keepIn K (.ref (He.ga K "search_free")) = true ∧ Binds K fd ["board", "barred"] [] ∧ FnOk P w K mg base (L2.CX P w) 6 (He.ga K "search_free") fd ["board", "barred"] (sp2 K m_search_free) := by
  obtain ⟨fd, F⟩ := T.d_search_free
  obtain ⟨fd_free_sowings, kp_free_sowings, b_free_sowings, G_free_sowings⟩ := ok_free_sowings (P := P) (w := w) (base := base) T
  refine ⟨fd, F.kp, F.bindsN fun _ _ _ _ _ _ us hl => match us, hl with | [_, _], _ => rfl, ?_⟩
  refine F.ok sc_search_free (fun vs H Q E h => ?_) (fun cdv A outer s H vs Q E hr h => ?_)
  · obtain ⟨v_board, v_barred, board, barred, rfl, r_board, r_barred, hQ⟩ := h
    rfl
  · obtain ⟨v_board, v_barred, board, barred, rfl, r_board, r_barred, hQ⟩ := h
    have tk : Takes (cxOf (L2.CX P w) P w K mg base N_search_free "search_free" (defScope s_search_free) (He.ga K "search_free") cdv A outer s H E) (fun cls d _ H => E cls d H) := takes_of rfl rfl rfl rfl
    refine ⟨_, (by exact (pss_cons (ps_set (i := 2) sc_search_free.nd rfl (Or.inl rfl) (pe_callTy call_tuple_of rfl T.f_tuple (by decide +kernel) (pa_cons (pv 0) pa_nil)))
          (pss_cons (ps_set (i := 3) sc_search_free.nd rfl (Or.inl rfl) (pe_disp1 (u1 hr) (pv 2) pe_non))
          (pss_cons (ps_set (i := 4) sc_search_free.nd rfl (Or.inl rfl) (pe_lst (pa_cons (pv 2) pa_nil)))
          (pss_cons (ps_set (i := 5) sc_search_free.nd rfl (Or.inl rfl) pe_int)
          (pss_cons (ps_while (passes_of rfl) (pt_cmpR op_lt (pv 5) (pe_callB call_len_seq rfl T.f_len PySem.boot_len (pa_cons (pv 4) pa_nil)) (nomark _)) (pss_cons (ps_for (passes_of rfl) rfl (pi_list (pe_callS G_free_sowings (hr.mono (by decide)) rfl T.g_free_sowings kp_free_sowings b_free_sowings (fun σ => passAt tk σ) (pa_cons (pe_ix ix_list (pv 4) (pv 5) (fun _ _ => rfl)) (pa_cons (pv 1) pa_nil)))) (pg_tup rfl (pgs_cons (pg_name (i := 6) sc_search_free.nd rfl (Or.inl rfl)) (pgs_cons (pg_name (i := 7) sc_search_free.nd rfl (Or.inl rfl)) pgs_nil))) (pss_one (ps_if (pt_cmp (pc_dnotin (u1 hr) (pv 7) (pv 3))) (pss_cons (ps_dput (u1 hr) (pv 3) (pv 7) (pe_tup (pa_cons (pe_ix ix_list (pv 4) (pv 5) (fun _ _ => rfl)) (pa_cons (pv 6) pa_nil))) rfl)
          (pss_one (ps_expr (pe_bm PySem.F.plainAttrs_list PySem.F.slot_list_append PySem.F.type_list_append mt_append (pv 4) (pa_cons (pv 7) pa_nil))))) pss_nil)))
          (pss_one (ps_set (i := 5) sc_search_free.nd rfl (Or.inl rfl) (pe_op op_add (pv 5) pe_int)))))
          (pss_one (ps_ret (pv 3))))))))), ?_⟩
    unfold m_search_free at hQ
    first | with_reducible refine st_n ?_ | skip
    refine st_seq ?_
    refine s_asg ?_ (Same.refl _) (Same.refl _) hQ ?_
    · exact (g_im (Same.refl _) (g_tupleI (g_var (a := board) (Rp.mono (Same.refl _) r_board) (Same.refl _))))
    intro first v5 F2 H3 nx1 e04 r6 hQ
    replace r_board := Rp.mono nx1.ff r_board
    replace r_barred := Rp.mono nx1.ff r_barred
    have hF7 := nx1.fh
    first | with_reducible refine st_n ?_ | skip
    refine st_seq ?_
    refine s_asgD (b := false) ?_ hF7 e04 hQ ?_
    · exact (g_disp1 (g_var (a := first) (Rp.mono hF7 r6) (Same.refl _)) g_non)
    intro came p13 F9 H10 nx8 e011 o12 nw14 hQ
    replace r_board := Rp.mono nx8.ff r_board
    replace r_barred := Rp.mono nx8.ff r_barred
    replace r6 := Rp.mono nx8.ff r6
    have hF15 := nx8.fh
    first | with_reducible refine st_n ?_ | skip
    refine st_seq ?_
    refine s_asgI (b := false) ?_ hF15 e011 hQ ?_
    · exact (g_lstK (a_cons (g_im (Same.refl _) (g_var (a := first) (Rp.mono hF15 r6) (Same.refl _))) a_nil) (Nat.le_of_ble_eq_true rfl))
    intro line p21 F17 H18 nx16 e019 o20 nw22 hQ
    have d23 : p13 ≠ p21 := nw22 p13 o12.there
    replace r_board := Rp.mono nx16.ff r_board
    replace r_barred := Rp.mono nx16.ff r_barred
    replace r6 := Rp.mono nx16.ff r6
    replace o12 := o12.nx0 nx16
    have hF24 := nx16.fh
    first | with_reducible refine st_n ?_ | skip
    refine st_seq ?_
    refine s_asg ?_ hF24 e019 hQ ?_
    · exact (g_sc (F' := H18) g_int)
    intro at_ v29 F26 H27 nx25 e028 r30 hQ
    replace r_board := Rp.mono nx25.ff r_board
    replace r_barred := Rp.mono nx25.ff r_barred
    replace r6 := Rp.mono nx25.ff r6
    replace o12 := o12.nx0 nx25
    replace o20 := o20.nx0 nx25
    have hF31 := nx25.fh
    obtain rfl : v29 = V.int at_ := r30
    first | with_reducible refine st_n ?_ | skip
    refine st_seq ?_
    replace hQ := wp_bdi hQ
    refine while_S (fun (st : Int × (Dct (Option ((Tu Int) × Int))) × (List (Tu Int))) σ36 H35 => match st with | (at_, came, line) => ∃ (F32 : Hp) (j39 : Option V) (j40 : Option V), σ36 = [some v_board, some v_barred, some v5, some (.ref p13), some (.ref p21), some (.int at_), j39, j40] ∧ Nx (fun q => q = p13 ∨ q = p21 ∨ False) F26 H27 F32 H35 ∧ Same H H35 ∧ Own K H false F32 H35 p13 came ∧ Own K H false F32 H35 p21 line) ?h0u115 hQ ?hcu115 ?hbu115 ?hdu115
    case h0u115 =>
      exact ⟨_, _, _, rfl, (Nx.refl' hF31), e028, o12, o20⟩
    case hcu115 =>
      intro st σ9 H35 hI
      obtain ⟨at_, came, line⟩ := st
      obtain ⟨F32, j39, j40, rfl, nL33, e034, o37, o38⟩ := hI
      have r_board := Rp.mono nL33.ff r_board
      have r_barred := Rp.mono nL33.ff r_barred
      have r6 := Rp.mono nL33.ff r6
      have hF41 := nL33.fh
      exact ⟨e034, (t_test (F := H35) (g_b0 (g_var (a := at_) rfl (Same.refl _)) (g_len (g_var (a := line) (o38.rep hF41) (Same.refl _)) (Same.refl _))))⟩
    case hbu115 =>
      intro n9 st σ9 H35 H43 hI e44 hQ
      obtain ⟨at_, came, line⟩ := st
      obtain ⟨F32, j39, j40, rfl, nL33, e034, o37, o38⟩ := hI
      have r_board := Rp.mono nL33.ff r_board
      have r_barred := Rp.mono nL33.ff r_barred
      have r6 := Rp.mono nL33.ff r6
      have hF41 := nL33.fh
      have nA42 := nL33
      have nx45 : Nx0 F32 H35 (mix F32 H35 H43) H43 := Nx.mk' hF41 e44
      have e046 := e034.trans e44
      replace r_board := Rp.mono nx45.ff r_board
      replace r_barred := Rp.mono nx45.ff r_barred
      replace r6 := Rp.mono nx45.ff r6
      replace o37 := o37.nx0 nx45
      replace o38 := o38.nx0 nx45
      replace nA42 := nA42.step0 nx45
      have hF47 := nx45.fh
      first | with_reducible refine st_n ?_ | skip
      refine st_seq ?_
      refine s_for ?_ hF47 e046 hQ ?_
      · exact (i_list (g_call2 (ma := R.bd (idx line at_) fun (t49 : Tu Int) => .ok (Sq.mk true t49.l)) (mb := .ok barred) (g_sqT (g_idx (g_var (a := line) (o38.rep hF47) (Same.refl _)) (g_var (a := at_) rfl (Same.refl _)) (Same.refl _))) (g_var (a := barred) (Rp.mono hF47 r_barred) (Same.refl _))) hF47)
      intro xs55 J56 F52 H53 nx51 e054 ok57 hQ
      replace r_board := Rp.mono nx51.ff r_board
      replace r_barred := Rp.mono nx51.ff r_barred
      replace r6 := Rp.mono nx51.ff r6
      replace o37 := o37.nx0 nx51
      replace o38 := o38.nx0 nx51
      replace nA42 := nA42.step0 nx51
      have hF59 := nx51.fh
      replace hQ := wp_bdi hQ
      refine for_S ok57 (fun (st : (Dct (Option ((Tu Int) × Int))) × (List (Tu Int))) σ64 H63 => match st with | (came, line) => ∃ (F60 : Hp) (j67 : Option V) (j68 : Option V), σ64 = [some v_board, some v_barred, some v5, some (.ref p13), some (.ref p21), some (.int at_), j67, j68] ∧ Nx (fun q => q = p13 ∨ q = p21 ∨ False) F52 H53 F60 H63 ∧ Same H H63 ∧ Own K H false F60 H63 p13 came ∧ Own K H false F60 H63 p21 line) ?hku113 ?h0u113 hQ ?turnu113 ?doneu113
      case hku113 =>
        intro st σ9 H63 hI
        obtain ⟨came, line⟩ := st
        obtain ⟨F60, j67, j68, rfl, nL61, e062, o65, o66⟩ := hI
        exact nL61.ff.trans nL61.fh
      case h0u113 =>
        exact ⟨_, _, _, rfl, (Nx.refl' hF59), e054, o37, o38⟩
      case turnu113 =>
        intro p9 l72 st v73 σ9 H63 H74 hI e75 rx76 hQ
        obtain ⟨came, line⟩ := st
        obtain ⟨pit, behind⟩ := p9
        obtain ⟨F60, j67, j68, rfl, nL61, e062, o65, o66⟩ := hI
        have r_board := Rp.mono nL61.ff r_board
        have r_barred := Rp.mono nL61.ff r_barred
        have r6 := Rp.mono nL61.ff r6
        have hF69 := nL61.fh
        have nA42 := nA42.step nL61 (fun q => fun z => Or.elim z (fun z => (.inl (.inl z))) (fun z => Or.elim z (fun z => (.inl (.inr (.inl z)))) (fun z => z.elim)))
        have nA70 := nL61
        have nx77 : Nx0 F60 H63 (mix F60 H63 H74) H74 := Nx.mk' hF69 e75
        have e079 := e062.trans e75
        replace r_board := Rp.mono nx77.ff r_board
        replace r_barred := Rp.mono nx77.ff r_barred
        replace r6 := Rp.mono nx77.ff r6
        replace o65 := o65.nx0 nx77
        replace o66 := o66.nx0 nx77
        replace nA42 := nA42.step0 nx77
        replace nA70 := nA70.step0 nx77
        have hF80 := nx77.fh
        refine gp (Rp.mono (mix_ff nL61.ff) rx76) hF80 ?_
        intro y81 y82 r83 r84
        obtain rfl : y81 = V.int pit := r83
        first | with_reducible refine st_n ?_ | skip
        refine s_if ?_ hF80 e079 hQ ?_ ?_
        · exact (t_B (F := H74) (g_dnotin (g_var (a := behind) (Rp.mono hF80 r84) (Same.refl _)) (g_var (a := came) (o65.rep hF80) (Same.refl _))))
        · intro F87 H88 nx86 e089 hQ
          replace hQ := if_t hQ
          replace r_board := Rp.mono nx86.ff r_board
          replace r_barred := Rp.mono nx86.ff r_barred
          replace r6 := Rp.mono nx86.ff r6
          replace o65 := o65.nx0 nx86
          replace o66 := o66.nx0 nx86
          replace r84 := Rp.mono nx86.ff r84
          replace nA42 := nA42.step0 nx86
          replace nA70 := nA70.step0 nx86
          have hF90 := nx86.fh
          first | with_reducible refine st_n ?_ | skip
          refine st_seq ?_
          refine s_dput (m := R.bd (R.bd (idx line at_) fun (t92 : Tu Int) => .ok (t92, pit)) fun t => .ok (some t)) (mk := .ok behind) ?ha o65 ?he ?hi hF90 e089 hQ ?_
          case ha => exact at_var rfl
          case he => exact (g_some (g_im (Same.refl _) (g_pair (g_idx (g_var (a := line) (o66.rep hF90) (Same.refl _)) (g_var (a := at_) rfl (Same.refl _)) (Same.refl _)) (g_var (a := pit) rfl (Same.refl _)))))
          case hi => exact (g_var (a := behind) (Rp.mono hF90 r84) (Same.refl _))
          intro came F95 H96 nx94 e097 o2 hQ
          replace r_board := Rp.mono nx94.ff r_board
          replace r_barred := Rp.mono nx94.ff r_barred
          replace r6 := Rp.mono nx94.ff r6
          replace o66 := o66.nx nx94 (Ne.symm d23)
          replace r84 := Rp.mono nx94.ff r84
          replace nA42 := nA42.step nx94 (fun q z => .inl (.inl z))
          replace nA70 := nA70.step nx94 (fun q z => .inl (.inl z))
          have hF98 := nx94.fh
          replace o65 := o2
          first | with_reducible refine st_n ?_ | skip
          refine s_app (m := .ok behind) ?ha o66 ?he hF98 e097 hQ ?_
          case ha => exact at_var rfl
          case he => exact (g_var (a := behind) r84 hF98)
          intro line F100 H101 nx99 e0102 o2 hQ
          replace r_board := Rp.mono nx99.ff r_board
          replace r_barred := Rp.mono nx99.ff r_barred
          replace r6 := Rp.mono nx99.ff r6
          replace o65 := o65.nx nx99 d23
          replace r84 := Rp.mono nx99.ff r84
          replace nA42 := nA42.step nx99 (fun q z => .inl (.inr (.inl z)))
          replace nA70 := nA70.step nx99 (fun q z => .inl (.inr (.inl z)))
          have hF103 := nx99.fh
          replace o66 := o2
          exact ⟨(came, line), ⟨_, _, _, rfl, nA70, e0102, o65, o66⟩, hQ⟩
        intro F87 H88 nx86 e089 hQ
        replace hQ := if_f hQ
        refine st_next ?_
        replace r_board := Rp.mono nx86.ff r_board
        replace r_barred := Rp.mono nx86.ff r_barred
        replace r6 := Rp.mono nx86.ff r6
        replace o65 := o65.nx0 nx86
        replace o66 := o66.nx0 nx86
        replace r84 := Rp.mono nx86.ff r84
        replace nA42 := nA42.step0 nx86
        replace nA70 := nA70.step0 nx86
        have hF91 := nx86.fh
        exact ⟨(came, line), ⟨_, _, _, rfl, nA70, e089, o65, o66⟩, hQ⟩
      case doneu113 =>
        intro st σ9 H63 hI hQ
        obtain ⟨came, line⟩ := st
        obtain ⟨F60, j67, j68, rfl, nL61, e062, o65, o66⟩ := hI
        have r_board := Rp.mono nL61.ff r_board
        have r_barred := Rp.mono nL61.ff r_barred
        have r6 := Rp.mono nL61.ff r6
        have hF69 := nL61.fh
        have nA42 := nA42.step nL61 (fun q => fun z => Or.elim z (fun z => (.inl (.inl z))) (fun z => Or.elim z (fun z => (.inl (.inr (.inl z)))) (fun z => z.elim)))
        first | with_reducible refine st_n ?_ | skip
        refine s_asg ?_ hF69 e062 hQ ?_
        · exact (g_sc (F' := H63) (g_i0 (g_var (a := at_) rfl (Same.refl _)) g_int))
        intro at_ v109 F106 H107 nx105 e0108 r110 hQ
        replace r_board := Rp.mono nx105.ff r_board
        replace r_barred := Rp.mono nx105.ff r_barred
        replace r6 := Rp.mono nx105.ff r6
        replace o65 := o65.nx0 nx105
        replace o66 := o66.nx0 nx105
        replace nA42 := nA42.step0 nx105
        have hF111 := nx105.fh
        obtain rfl : v109 = V.int at_ := r110
        exact ⟨(at_, came, line), ⟨_, _, _, rfl, nA42, e0108, o65, o66⟩, hQ⟩
    case hdu115 =>
      intro st σ9 H35 H43 hI e44 hQ
      obtain ⟨at_, came, line⟩ := st
      obtain ⟨F32, j39, j40, rfl, nL33, e034, o37, o38⟩ := hI
      have r_board := Rp.mono nL33.ff r_board
      have r_barred := Rp.mono nL33.ff r_barred
      have r6 := Rp.mono nL33.ff r6
      have hF41 := nL33.fh
      have nx45 : Nx0 F32 H35 (mix F32 H35 H43) H43 := Nx.mk' hF41 e44
      have e046 := e034.trans e44
      replace r_board := Rp.mono nx45.ff r_board
      replace r_barred := Rp.mono nx45.ff r_barred
      replace r6 := Rp.mono nx45.ff r6
      replace o37 := o37.nx0 nx45
      replace o38 := o38.nx0 nx45
      have hF114 := nx45.fh
      first | with_reducible refine st_n ?_ | skip
      refine s_ret ?_ e046 hQ (fun a h => h)
      exact (g_var (a := came) (o37.repD hF114) dif_le)

abbrev N_way_or_bar : List Str := ["board", "other", "barred", "came", "one"]
theorem sc_way_or_bar : FnScope N_way_or_bar ["board", "other", "barred"] (defScope s_way_or_bar) := ⟨rfl, rfl, rfl, by decide +kernel, rfl, by decide +kernel, by decide +kernel⟩
theorem ok_way_or_bar (T : Hd K mg) : ∃ fd, PySem.W.keepIn K (.ref (He.ga K "way_or_bar")) = true ∧ Binds K fd ["board", "other", "barred"] [] ∧ FnOk P w K mg base (L2.CX P w) 7 (He.ga K "way_or_bar") fd ["board", "other", "barred"] (sp3 K m_way_or_bar) := by
  obtain ⟨fd, F⟩ := T.d_way_or_bar
  obtain ⟨fd_ask_barred, kp_ask_barred, b_ask_barred, G_ask_barred⟩ := ok_ask_barred (P := P) (w := w) (base := base) T
  obtain ⟨fd_ask_board, kp_ask_board, b_ask_board, G_ask_board⟩ := ok_ask_board (P := P) (w := w) (base := base) T
  obtain ⟨fd_ask_few, kp_ask_few, b_ask_few, G_ask_few⟩ := ok_ask_few (P := P) (w := w) (base := base) T
  obtain ⟨fd_plan_back, kp_plan_back, b_plan_back, G_plan_back⟩ := ok_plan_back (P := P) (w := w) (base := base) T
  obtain ⟨fd_search_free, kp_search_free, b_search_free, G_search_free⟩ := ok_search_free (P := P) (w := w) (base := base) T
  refine ⟨fd, F.kp, F.bindsN fun _ _ _ _ _ _ us hl => match us, hl with | [_, _, _], _ => rfl, ?_⟩
  refine F.ok sc_way_or_bar (fun vs H Q E h => ?_) (fun cdv A outer s H vs Q E hr h => ?_)
  · obtain ⟨v_board, v_other, v_barred, board, other, barred, rfl, r_board, r_other, r_barred, hQ⟩ := h
    rfl
  · obtain ⟨v_board, v_other, v_barred, board, other, barred, rfl, r_board, r_other, r_barred, hQ⟩ := h
    have tk : Takes (cxOf (L2.CX P w) P w K mg base N_way_or_bar "way_or_bar" (defScope s_way_or_bar) (He.ga K "way_or_bar") cdv A outer s H E) (fun cls d _ H => E cls d H) := takes_of rfl rfl rfl rfl
    refine ⟨_, (by exact (pss_cons (ps_expr (pe_callS G_ask_board (hr.mono (by decide)) rfl T.g_ask_board kp_ask_board b_ask_board (fun σ => passAt tk σ) (pa_cons (pv 0) pa_nil)))
          (pss_cons (ps_expr (pe_callS G_ask_board (hr.mono (by decide)) rfl T.g_ask_board kp_ask_board b_ask_board (fun σ => passAt tk σ) (pa_cons (pv 1) pa_nil)))
          (pss_cons (ps_expr (pe_callS G_ask_barred (hr.mono (by decide)) rfl T.g_ask_barred kp_ask_barred b_ask_barred (fun σ => passAt tk σ) (pa_cons (pv 0) (pa_cons (pv 2) pa_nil))))
          (pss_cons (ps_if (PW.pt (pw_or (pt_cmpR op_ne (pe_callB call_len_seq rfl T.f_len PySem.boot_len (pa_cons (pv 0) pa_nil)) (pe_callB call_len_seq rfl T.f_len PySem.boot_len (pa_cons (pv 1) pa_nil)) (nomark _)) (pw_or1 (pt_cmpR op_ne (pe_callB (cr_sum rfl) rfl T.f_sum (by decide +kernel) (pa_cons (pv 0) pa_nil)) (pe_callB (cr_sum rfl) rfl T.f_sum (by decide +kernel) (pa_cons (pv 1) pa_nil)) (nomark _))))) (pss_one (ps_raise rfl tk (pmk_own PySem.F.excBase_ValueError T.x_Unlike.1 T.g_Unlike T.x_Unlike.2.1 (raises_own T.x_Unlike.2.2.1 T.x_Unlike.2.2.2) (by exact rfl)))) pss_nil)
          (pss_cons (ps_expr (pe_callS G_ask_few (hr.mono (by decide)) rfl T.g_ask_few kp_ask_few b_ask_few (fun σ => passAt tk σ) (pa_cons (pv 0) pa_nil)))
          (pss_cons (ps_set (i := 3) sc_way_or_bar.nd rfl (Or.inl rfl) (pe_callS G_search_free (hr.mono (by decide)) rfl T.g_search_free kp_search_free b_search_free (fun σ => passAt tk σ) (pa_cons (pv 0) (pa_cons (pv 2) pa_nil))))
          (pss_cons (ps_if (pt_cmp (pc_din (u1 hr) (pe_callTy call_tuple_of rfl T.f_tuple (by decide +kernel) (pa_cons (pv 1) pa_nil)) (pv 3))) (pss_one (ps_ret (pe_tup (pa_cons pe_str (pa_cons (pe_callS G_plan_back (hr.mono (by decide)) rfl T.g_plan_back kp_plan_back b_plan_back (fun σ => passAt tk σ) (pa_cons (pv 3) (pa_cons (pe_callTy call_tuple_of rfl T.f_tuple (by decide +kernel) (pa_cons (pv 1) pa_nil)) pa_nil))) pa_nil))))) pss_nil)
          (pss_one (ps_ret (pe_tup (pa_cons pe_str (pa_cons (pe_lc (own := [("one", 4)]) (g := gName 4) (tt := tYes) rfl sc_way_or_bar.nd (pi_list (pe_callB (cr_sortD rfl hr.units) rfl T.f_sorted (by decide +kernel) (pa_cons (pv 3) pa_nil))) (blkOk_by (N := N_way_or_bar) (sc := defScope s_way_or_bar) (by decide +kernel)) (fun _ _ _ _ _ => pg_name (i := 4) sc_way_or_bar.nd rfl (Or.inl rfl)) (fun _ _ _ _ _ => pts_nil) (fun _ _ _ _ _ => (pe_callTy (call_list_ofK (K := K) rfl) rfl T.f_list (by decide +kernel) (pa_cons (pv 4) pa_nil)))) pa_nil))))))))))))), ?_⟩
    unfold m_way_or_bar at hQ
    first | with_reducible refine st_n ?_ | skip
    refine st_seq ?_
    refine s_drop ?_ (Same.refl _) (Same.refl _) hQ ?_
    · exact (g_im (Same.refl _) (g_call1 (ma := .ok board) (g_var (a := board) (Rp.mono (Same.refl _) r_board) (Same.refl _))))
    intro _ F2 H3 nx1 e04 hQ
    replace r_board := Rp.mono nx1.ff r_board
    replace r_other := Rp.mono nx1.ff r_other
    replace r_barred := Rp.mono nx1.ff r_barred
    have hF5 := nx1.fh
    first | with_reducible refine st_n ?_ | skip
    refine st_seq ?_
    refine s_drop ?_ hF5 e04 hQ ?_
    · exact (g_im (Same.refl _) (g_call1 (ma := .ok other) (g_var (a := other) (Rp.mono hF5 r_other) (Same.refl _))))
    intro _ F7 H8 nx6 e09 hQ
    replace r_board := Rp.mono nx6.ff r_board
    replace r_other := Rp.mono nx6.ff r_other
    replace r_barred := Rp.mono nx6.ff r_barred
    have hF10 := nx6.fh
    first | with_reducible refine st_n ?_ | skip
    refine st_seq ?_
    refine s_drop ?_ hF10 e09 hQ ?_
    · exact (g_im (Same.refl _) (g_call2 (ma := .ok board) (mb := .ok barred) (g_var (a := board) (Rp.mono hF10 r_board) (Same.refl _)) (g_var (a := barred) (Rp.mono hF10 r_barred) (Same.refl _))))
    intro _ F12 H13 nx11 e014 hQ
    replace r_board := Rp.mono nx11.ff r_board
    replace r_other := Rp.mono nx11.ff r_other
    replace r_barred := Rp.mono nx11.ff r_barred
    have hF15 := nx11.fh
    first | with_reducible refine st_n ?_ | skip
    refine st_seq ?_
    refine s_if ?_ hF15 e014 hQ ?_ ?_
    · exact (t_orP (t_test (F := H13) (g_ne (g_len (g_var (a := board) (Rp.mono hF15 r_board) (Same.refl _)) (Same.refl _)) (g_len (g_var (a := other) (Rp.mono hF15 r_other) (Same.refl _)) (Same.refl _)))) (t_test (F := H13) (g_ne (g_sum (g_var (a := board) (Rp.mono hF15 r_board) (Same.refl _)) (Same.refl _)) (g_sum (g_var (a := other) (Rp.mono hF15 r_other) (Same.refl _)) (Same.refl _)))))
    · intro F17 H18 nx16 e019 hQ
      replace hQ := if_t hQ
      replace r_board := Rp.mono nx16.ff r_board
      replace r_other := Rp.mono nx16.ff r_other
      replace r_barred := Rp.mono nx16.ff r_barred
      have hF20 := nx16.fh
      first | with_reducible refine st_n ?_ | skip
      exact raise_of (c := .Unlike) hQ e019
    intro F17 H18 nx16 e019 hQ
    replace hQ := if_f hQ
    refine st_next ?_
    replace r_board := Rp.mono nx16.ff r_board
    replace r_other := Rp.mono nx16.ff r_other
    replace r_barred := Rp.mono nx16.ff r_barred
    have hF21 := nx16.fh
    first | with_reducible refine st_n ?_ | skip
    refine st_seq ?_
    refine s_drop ?_ hF21 e019 hQ ?_
    · exact (g_im (Same.refl _) (g_call1 (ma := .ok board) (g_var (a := board) (Rp.mono hF21 r_board) (Same.refl _))))
    intro _ F23 H24 nx22 e025 hQ
    replace r_board := Rp.mono nx22.ff r_board
    replace r_other := Rp.mono nx22.ff r_other
    replace r_barred := Rp.mono nx22.ff r_barred
    have hF26 := nx22.fh
    first | with_reducible refine st_n ?_ | skip
    refine st_seq ?_
    refine s_asg ?_ hF26 e025 hQ ?_
    · exact (g_call2 (ma := .ok board) (mb := .ok barred) (g_var (a := board) (Rp.mono hF26 r_board) (Same.refl _)) (g_var (a := barred) (Rp.mono hF26 r_barred) (Same.refl _)))
    intro came v31 F28 H29 nx27 e030 r32 hQ
    replace r_board := Rp.mono nx27.ff r_board
    replace r_other := Rp.mono nx27.ff r_other
    replace r_barred := Rp.mono nx27.ff r_barred
    have hF33 := nx27.fh
    first | with_reducible refine st_n ?_ | skip
    refine st_seq ?_
    refine s_if ?_ hF33 e030 hQ ?_ ?_
    · exact (t_B (F := H29) (g_din (g_tupleI (g_var (a := other) (Rp.mono hF33 r_other) (Same.refl _))) (g_var (a := came) (Rp.mono hF33 r32) (Same.refl _))))
    · intro F35 H36 nx34 e037 hQ
      replace hQ := if_t hQ
      replace r_board := Rp.mono nx34.ff r_board
      replace r_other := Rp.mono nx34.ff r_other
      replace r_barred := Rp.mono nx34.ff r_barred
      replace r32 := Rp.mono nx34.ff r32
      have hF38 := nx34.fh
      first | with_reducible refine st_n ?_ | skip
      refine s_ret ?_ e037 hQ (fun a h => h)
      exact (g_aptDy (gx_apt (gx_pairR g_str (gx_t1 (m := m_plan_back came (Tu.mk other)) (g_call2 (ma := .ok came) (mb := .ok (Tu.mk other)) (g_var (a := came) (Rp.mono hF38 r32) (Same.refl _)) (g_tupleI (g_var (a := other) (Rp.mono hF38 r_other) (Same.refl _))))))))
    intro F35 H36 nx34 e037 hQ
    replace hQ := if_f hQ
    refine st_next ?_
    replace r_board := Rp.mono nx34.ff r_board
    replace r_other := Rp.mono nx34.ff r_other
    replace r_barred := Rp.mono nx34.ff r_barred
    replace r32 := Rp.mono nx34.ff r32
    have hF39 := nx34.fh
    first | with_reducible refine st_n ?_ | skip
    refine s_ret ?_ e037 hQ (fun a h => h)
    exact (g_aptDy (gx_apt (gx_pairR g_str (gx_comp (i_list (g_dsort (g_var (a := came) (Rp.mono hF39 r32) (Same.refl _))) (Same.refl _)) (fun one v43 H44 hh45 rx46 => ⟨(wipe _ _).set 4 (some v43), fun _ q => q, rfl, t_yes, (gx_t1 (m := .ok one.l) (g_listTI (g_var (a := one) rx46 (Same.refl _))))⟩)))))

abbrev N__law_cell_at : List Str := ["script", "k"]
theorem sc__law_cell_at : FnScope N__law_cell_at ["script", "k"] (defScope s__law_cell_at) := ⟨rfl, rfl, rfl, by decide +kernel, rfl, by decide +kernel, by decide +kernel⟩
theorem ok__law_cell_at (T : Hd K mg) : ∃ fd, PySem.W.keepIn K (.ref (He.ga K "_law_cell_at")) = true ∧ Binds K fd ["script", "k"] [] ∧ FnOk P w K mg base (L2.CX P w) 1 (He.ga K "_law_cell_at") fd ["script", "k"] (sp2 K m__law_cell_at) := by
  obtain ⟨fd, F⟩ := T.d__law_cell_at
  refine ⟨fd, F.kp, F.bindsN fun _ _ _ _ _ _ us hl => match us, hl with | [_, _], _ => rfl, ?_⟩
  refine F.ok sc__law_cell_at (fun vs H Q E h => ?_) (fun cdv A outer s H vs Q E hr h => ?_)
  · obtain ⟨v_script, v_k, script, k, rfl, r_script, r_k, hQ⟩ := h
    rfl
  · obtain ⟨v_script, v_k, script, k, rfl, r_script, r_k, hQ⟩ := h
    obtain rfl : v_k = V.int k := r_k
    have tk : Takes (cxOf (L2.CX P w) P w K mg base N__law_cell_at "_law_cell_at" (defScope s__law_cell_at) (He.ga K "_law_cell_at") cdv A outer s H E) (fun cls d _ H => E cls d H) := takes_of rfl rfl rfl rfl
    refine ⟨_, (by exact (pss_cons (ps_if (pt_cmpR op_lt (pv 1) (pe_callB call_len_seq rfl T.f_len PySem.boot_len (pa_cons (pv 0) pa_nil)) (nomark _)) (pss_one (ps_ret (pe_op op_mod (pe_ix ix_list (pv 0) (pv 1) (fun _ _ => rfl)) (pe_op op_pow pe_int pe_int)))) pss_nil)
          (pss_one (ps_ret pe_int)))), ?_⟩
    unfold m__law_cell_at at hQ
    first | with_reducible refine st_n ?_ | skip
    refine st_seq ?_
    refine s_if ?_ (Same.refl _) (Same.refl _) hQ ?_ ?_
    · exact (t_test (F := H) (g_b0 (g_var (a := k) rfl (Same.refl _)) (g_lenS (g_var (a := script) (Rp.mono (Same.refl _) r_script) (Same.refl _)) (Same.refl _))))
    · intro F2 H3 nx1 e04 hQ
      replace hQ := if_t hQ
      replace r_script := Rp.mono nx1.ff r_script
      have hF5 := nx1.fh
      first | with_reducible refine st_n ?_ | skip
      refine s_ret ?_ e04 hQ (fun a h => h)
      exact (g_sc (F' := H3) (g_modL (by decide +kernel) (g_idxS (g_var (a := script) (Rp.mono hF5 r_script) (Same.refl _)) (g_var (a := k) rfl (Same.refl _)) (Same.refl _)) (g_pow (by decide))))
    intro F2 H3 nx1 e04 hQ
    replace hQ := if_f hQ
    refine st_next ?_
    replace r_script := Rp.mono nx1.ff r_script
    have hF6 := nx1.fh
    first | with_reducible refine st_n ?_ | skip
    refine s_ret ?_ e04 hQ (fun a h => h)
    exact (g_sc (F' := H3) g_int)

abbrev N__law_sums : List Str := ["script", "later", "most", "sums", "k", "at"]
theorem sc__law_sums : FnScope N__law_sums ["script", "later", "most"] (defScope s__law_sums) := ⟨rfl, rfl, rfl, by decide +kernel, rfl, by decide +kernel, by decide +kernel⟩
theorem ok__law_sums (T : Hd K mg) : ∃ fd, PySem.W.keepIn K (.ref (He.ga K "_law_sums")) = true ∧ Binds K fd ["script", "later", "most"] [] ∧ FnOk P w K mg base (L2.CX P w) 1 (He.ga K "_law_sums") fd ["script", "later", "most"] (sp3 K m__law_sums) := by
  obtain ⟨fd, F⟩ := T.d__law_sums
  refine ⟨fd, F.kp, F.bindsN fun _ _ _ _ _ _ us hl => match us, hl with | [_, _, _], _ => rfl, ?_⟩
  refine F.ok sc__law_sums (fun vs H Q E h => ?_) (fun cdv A outer s H vs Q E hr h => ?_)
  · obtain ⟨v_script, v_later, v_most, script, later, most, rfl, r_script, r_later, r_most, hQ⟩ := h
    rfl
  · obtain ⟨v_script, v_later, v_most, script, later, most, rfl, r_script, r_later, r_most, hQ⟩ := h
    obtain rfl : v_later = V.int later := r_later
    obtain rfl : v_most = V.int most := r_most
    have tk : Takes (cxOf (L2.CX P w) P w K mg base N__law_sums "_law_sums" (defScope s__law_sums) (He.ga K "_law_sums") cdv A outer s H E) (fun cls d _ H => E cls d H) := takes_of rfl rfl rfl rfl
    refine ⟨_, (by exact (pss_cons (ps_setLc (i := 3) (own := [("k", 4)]) (g := gName 4) (tt := tYes) rfl sc__law_sums.nd rfl rfl (sw_true rfl rfl rfl (by decide +kernel)) (pi_range1 rfl T.f_range (pa_cons (pv 2) pa_nil)) (blkOk_by (N := N__law_sums) (sc := defScope s__law_sums) (by decide +kernel)) (fun _ _ _ _ _ => pg_name (i := 4) sc__law_sums.nd rfl (Or.inl rfl)) (fun _ _ _ _ _ => pts_nil) (fun _ _ _ _ _ => pe_int))
          (pss_cons (ps_for (passes_of rfl) rfl (pi_range2 rfl T.f_range (pa_cons (pv 1) (pa_cons (pe_callB call_len_seq rfl T.f_len PySem.boot_len (pa_cons (pv 0) pa_nil)) pa_nil))) (pg_name (i := 4) sc__law_sums.nd rfl (Or.inl rfl)) (pss_cons (ps_set (i := 5) sc__law_sums.nd rfl (Or.inl rfl) (pe_op op_mod (pe_op op_sub (pv 4) (pv 1)) (pv 2)))
          (pss_cons (ps_asg (pe_op op_add (pe_op op_mul (pe_ix ix_list (pv 3) (pv 5) (fun _ _ => rfl)) pe_int) (pe_op op_mod (pe_ix ix_list (pv 0) (pv 4) (fun _ _ => rfl)) (pe_op op_pow pe_int pe_int))) (pg_sub (pv 3) (pv 5) set_list))
          (pss_one (ps_asg (pe_op op_mod (pe_ix ix_list (pv 3) (pv 5) (fun _ _ => rfl)) (pe_op op_pow pe_int pe_int)) (pg_sub (pv 3) (pv 5) set_list))))))
          (pss_one (ps_ret (pv 3)))))), ?_⟩
    unfold m__law_sums at hQ
    first | with_reducible refine st_n ?_ | skip
    refine st_seq ?_
    refine s_asgI (b := false) ?_ (Same.refl _) (Same.refl _) hQ ?_
    · exact (g_compI (i_rng1 (g_var (a := most) rfl (Same.refl _))) (fun k v9 F10 H11 f12 h13 hh14 rx15 => by
        obtain rfl : v9 = V.int k := rx15
        exact ⟨_, fun _ q => q, rfl, t_yes, (g_sc (F' := H11) g_int)⟩))
    intro sums p6 F2 H3 nx1 e04 o5 nw7 hQ
    replace r_script := Rp.mono nx1.ff r_script
    have hF17 := nx1.fh
    first | with_reducible refine st_n ?_ | skip
    refine st_seq ?_
    refine s_for ?_ hF17 e04 hQ ?_
    · exact (i_rng2 (g_sc (F' := H3) (g_var (a := later) rfl (Same.refl _))) (g_sc (F' := H3) (g_lenS (g_var (a := script) (Rp.mono hF17 r_script) (Same.refl _)) (Same.refl _))))
    intro xs22 J23 F19 H20 nx18 e021 ok24 hQ
    replace r_script := Rp.mono nx18.ff r_script
    replace o5 := o5.nx0 nx18
    have hF26 := nx18.fh
    replace hQ := wp_bdi hQ
    refine for_S ok24 (fun (sums : (List Int)) σ31 H30 => ∃ (F27 : Hp) (j33 : Option V) (j34 : Option V), σ31 = [some v_script, some (.int later), some (.int most), some (.ref p6), j34, j33] ∧ Nx (fun q => q = p6 ∨ False) F19 H20 F27 H30 ∧ Same H H30 ∧ Own K H false F27 H30 p6 sums) ?hku73 ?h0u73 hQ ?turnu73 ?doneu73
    case hku73 =>
      intro sums σ9 H30 hI
      obtain ⟨F27, j33, j34, rfl, nL28, e029, o32⟩ := hI
      exact nL28.ff.trans nL28.fh
    case h0u73 =>
      exact ⟨_, _, _, rfl, (Nx.refl' hF26), e021, o5⟩
    case turnu73 =>
      intro k l38 sums v39 σ9 H30 H40 hI e41 rx42 hQ
      obtain ⟨F27, j33, j34, rfl, nL28, e029, o32⟩ := hI
      have r_script := Rp.mono nL28.ff r_script
      have hF35 := nL28.fh
      have nA36 := nL28
      have nx43 : Nx0 F27 H30 (mix F27 H30 H40) H40 := Nx.mk' hF35 e41
      have e045 := e029.trans e41
      replace r_script := Rp.mono nx43.ff r_script
      replace o32 := o32.nx0 nx43
      replace nA36 := nA36.step0 nx43
      have hF46 := nx43.fh
      refine gn ?_
      obtain rfl : v39 = V.int k := rx42
      first | with_reducible refine st_n ?_ | skip
      refine st_seq ?_
      refine s_asg ?_ hF46 e045 hQ ?_
      · exact (g_sc (F' := H40) (g_mod (g_i0 (g_var (a := k) rfl (Same.refl _)) (g_var (a := later) rfl (Same.refl _))) (g_var (a := most) rfl (Same.refl _))))
      intro at_ v52 F49 H50 nx48 e051 r53 hQ
      replace r_script := Rp.mono nx48.ff r_script
      replace o32 := o32.nx0 nx48
      replace nA36 := nA36.step0 nx48
      have hF54 := nx48.fh
      obtain rfl : v52 = V.int at_ := r53
      first | with_reducible refine st_n ?_ | skip
      refine st_seq ?_
      refine s_set (m := R.bd (R.bd (idx sums at_) fun (t55 : Int) => .ok (t55 * (3 : Int))) fun (t57 : Int) => R.bd (R.bd (idx script.l k) fun (t56 : Int) => .ok (t56 % (10 ^ 61 : Int))) fun (t58 : Int) => .ok (t57 + t58)) (mi := .ok at_) ?ha o32 ?he ?hi hF54 e051 hQ ?_
      case ha => exact at_var rfl
      case he => exact (g_sc (F' := H50) (g_i0 (g_mulL (by decide) (g_idx (g_var (a := sums) (o32.rep hF54) (Same.refl _)) (g_var (a := at_) rfl (Same.refl _)) (Same.refl _)) g_int) (g_modL (by decide +kernel) (g_idxS (g_var (a := script) (Rp.mono hF54 r_script) (Same.refl _)) (g_var (a := k) rfl (Same.refl _)) (Same.refl _)) (g_pow (by decide)))))
      case hi => exact (g_var (a := at_) rfl (Same.refl _))
      intro sums F61 H62 nx60 e063 o2 hQ
      replace r_script := Rp.mono nx60.ff r_script
      replace nA36 := nA36.step nx60 (fun q z => .inl (.inl z))
      have hF64 := nx60.fh
      replace o32 := o2
      first | with_reducible refine st_n ?_ | skip
      refine s_set (m := R.bd (idx sums at_) fun (t65 : Int) => .ok (t65 % (10 ^ 62 : Int))) (mi := .ok at_) ?ha o32 ?he ?hi hF64 e063 hQ ?_
      case ha => exact at_var rfl
      case he => exact (g_sc (F' := H62) (g_modL (by decide +kernel) (g_idx (g_var (a := sums) (o32.rep hF64) (Same.refl _)) (g_var (a := at_) rfl (Same.refl _)) (Same.refl _)) (g_pow (by decide))))
      case hi => exact (g_var (a := at_) rfl (Same.refl _))
      intro sums F68 H69 nx67 e070 o2 hQ
      replace r_script := Rp.mono nx67.ff r_script
      replace nA36 := nA36.step nx67 (fun q z => .inl (.inl z))
      have hF71 := nx67.fh
      replace o32 := o2
      exact ⟨sums, ⟨_, _, _, rfl, nA36, e070, o32⟩, hQ⟩
    case doneu73 =>
      intro sums σ9 H30 hI hQ
      obtain ⟨F27, j33, j34, rfl, nL28, e029, o32⟩ := hI
      have r_script := Rp.mono nL28.ff r_script
      have hF35 := nL28.fh
      first | with_reducible refine st_n ?_ | skip
      refine s_ret ?_ e029 hQ (fun a h => h)
      exact (g_var (a := sums) (o32.repI hF35) dif_le)

abbrev N__law_stirred : List Str := ["cell", "j", "first"]
theorem sc__law_stirred : FnScope N__law_stirred ["cell", "j"] (defScope s__law_stirred) := ⟨rfl, rfl, rfl, by decide +kernel, rfl, by decide +kernel, by decide +kernel⟩
theorem ok__law_stirred (T : Hd K mg) : ∃ fd, PySem.W.keepIn K (.ref (He.ga K "_law_stirred")) = true ∧ Binds K fd ["cell", "j"] [] ∧ FnOk P w K mg base (L2.CX P w) 1 (He.ga K "_law_stirred") fd ["cell", "j"] (sp2 K m__law_stirred) := by
  obtain ⟨fd, F⟩ := T.d__law_stirred
  refine ⟨fd, F.kp, F.bindsN fun _ _ _ _ _ _ us hl => match us, hl with | [_, _], _ => rfl, ?_⟩
  refine F.ok sc__law_stirred (fun vs H Q E h => ?_) (fun cdv A outer s H vs Q E hr h => ?_)
  · obtain ⟨v_cell, v_j, cell, j, rfl, r_cell, r_j, hQ⟩ := h
    rfl
  · obtain ⟨v_cell, v_j, cell, j, rfl, r_cell, r_j, hQ⟩ := h
    obtain rfl : v_cell = V.int cell := r_cell
    obtain rfl : v_j = V.int j := r_j
    have tk : Takes (cxOf (L2.CX P w) P w K mg base N__law_stirred "_law_stirred" (defScope s__law_stirred) (He.ga K "_law_stirred") cdv A outer s H E) (fun cls d _ H => E cls d H) := takes_of rfl rfl rfl rfl
    refine ⟨_, (by exact (pss_cons (ps_set (i := 2) sc__law_stirred.nd rfl (Or.inl rfl) (pe_op op_mod (pe_op op_mul (pe_op op_add (pe_op op_add (pe_op op_mod (pv 0) pe_int) (pe_op op_mul pe_int (pv 1))) pe_int) pe_int) pe_int))
          (pss_one (ps_ret (pe_op op_fdivW (pe_op op_mod (pe_op op_mulV (pv 2) (pv 2)) pe_int) pe_int))))), ?_⟩
    unfold m__law_stirred at hQ
    first | with_reducible refine st_n ?_ | skip
    refine st_seq ?_
    refine s_asg ?_ (Same.refl _) (Same.refl _) hQ ?_
    · exact (g_sc (F' := H) (g_modL (by decide +kernel) (g_mulL (by decide) (g_i0 (g_i0 (g_modL (by decide +kernel) (g_var (a := cell) rfl (Same.refl _)) g_int) (g_mulF (by decide) g_int (g_var (a := j) rfl (Same.refl _)))) g_int) g_int) g_int))
    intro first v5 F2 H3 nx1 e04 r6 hQ
    have hF7 := nx1.fh
    obtain rfl : v5 = V.int first := r6
    first | with_reducible refine st_n ?_ | skip
    refine s_ret ?_ e04 hQ (fun a h => h)
    exact (g_sc (F' := H3) (g_divL (by decide +kernel) (g_modL (by decide +kernel) (g_mul (g_var (a := first) rfl (Same.refl _)) (g_var (a := first) rfl (Same.refl _))) g_int) g_int))

abbrev N__law_row : List Str := ["script", "skip", "many", "base", "mixed", "sums", "total", "row", "j", "cell"]
theorem sc__law_row : FnScope N__law_row ["script", "skip", "many", "base", "mixed"] (defScope s__law_row) := ⟨rfl, rfl, rfl, by decide +kernel, rfl, by decide +kernel, by decide +kernel⟩
theorem ok__law_row (T : Hd K mg) : ∃ fd, PySem.W.keepIn K (.ref (He.ga K "_law_row")) = true ∧ Binds K fd ["script", "skip", "many", "base", "mixed"] [] ∧ FnOk P w K mg base (L2.CX P w) 2 (He.ga K "_law_row") fd ["script", "skip", "many", "base", "mixed"] (sp5 K m__law_row) := by
  obtain ⟨fd, F⟩ := T.d__law_row
  obtain ⟨fd__law_stirred, kp__law_stirred, b__law_stirred, G__law_stirred⟩ := ok__law_stirred (P := P) (w := w) (base := base) T
  obtain ⟨fd__law_sums, kp__law_sums, b__law_sums, G__law_sums⟩ := ok__law_sums (P := P) (w := w) (base := base) T
  refine ⟨fd, F.kp, F.bindsN fun _ _ _ _ _ _ us hl => match us, hl with | [_, _, _, _, _], _ => rfl, ?_⟩
  refine F.ok sc__law_row (fun vs H Q E h => ?_) (fun cdv A outer s H vs Q E hr h => ?_)
  · obtain ⟨v_script, v_skip, v_many, v_base, v_mixed, script, skip, many, base_, mixed, rfl, r_script, r_skip, r_many, r_base, r_mixed, hQ⟩ := h
    rfl
  · obtain ⟨v_script, v_skip, v_many, v_base, v_mixed, script, skip, many, base_, mixed, rfl, r_script, r_skip, r_many, r_base, r_mixed, hQ⟩ := h
    obtain rfl : v_skip = V.int skip := r_skip
    obtain rfl : v_many = V.int many := r_many
    obtain rfl : v_base = V.int base_ := r_base
    obtain rfl : v_mixed = V.bl mixed := r_mixed
    have tk : Takes (cxOf (L2.CX P w) P w K mg base N__law_row "_law_row" (defScope s__law_row) (He.ga K "_law_row") cdv A outer s H E) (fun cls d _ H => E cls d H) := takes_of rfl rfl rfl rfl
    refine ⟨_, (by exact (pss_cons (ps_if (pt_val (pv 4)) (pss_cons (ps_set (i := 5) sc__law_row.nd rfl (Or.inr rfl) (pe_callS G__law_sums (hr.mono (by decide)) rfl T.g__law_sums kp__law_sums b__law_sums (fun σ => passAt tk σ) (pa_cons (pv 0) (pa_cons (pv 1) (pa_cons (pe_callB (call_max2 rfl) rfl T.f_max (by decide +kernel) (pa_cons pe_int (pa_cons (pv 2) pa_nil))) pa_nil)))))
          (pss_one (ps_ret (pe_lc (own := [("j", 8)]) (g := gName 8) (tt := tYes) rfl sc__law_row.nd (pi_range1 rfl T.f_range (pa_cons (pv 2) pa_nil)) (blkOk_by (N := N__law_row) (sc := defScope s__law_row) (by decide +kernel)) (fun _ _ _ _ _ => pg_name (i := 8) sc__law_row.nd rfl (Or.inl rfl)) (fun _ _ _ _ _ => pts_nil) (fun _ _ _ _ _ => (pe_op op_mod (pe_callS (E := fun _ => EF) G__law_stirred (hr.mono (by decide)) rfl T.g__law_stirred kp__law_stirred b__law_stirred (fun σ => passF σ) (pa_cons (pe_ix (ix_listK (K := K) rfl) (pv 5) (pv 8) (fun _ _ => rfl)) (pa_cons (pv 8) pa_nil))) (pv 3))))))) pss_nil)
          (pss_cons (ps_set (i := 6) sc__law_row.nd rfl (Or.inl rfl) (pe_callB (cr_sum rfl) rfl T.f_sum (by decide +kernel) (pa_cons (pe_lc (own := [("cell", 9)]) (g := gName 9) (tt := tYes) rfl sc__law_row.nd (pi_list (pe_slice sl_list (pv 0) (po_some (pv 1)) po_none)) (blkOk_by (N := N__law_row) (sc := defScope s__law_row) (by decide +kernel)) (fun _ _ _ _ _ => pg_name (i := 9) sc__law_row.nd rfl (Or.inl rfl)) (fun _ _ _ _ _ => pts_nil) (fun _ _ _ _ _ => (pe_op op_mod (pv 9) (pe_op op_pow pe_int pe_int)))) pa_nil)))
          (pss_cons (ps_set (i := 7) sc__law_row.nd rfl (Or.inl rfl) (pe_lst pa_nil))
          (pss_cons (ps_for (passes_of rfl) rfl (pi_range1 rfl T.f_range (pa_cons (pv 2) pa_nil)) (pg_name (i := 8) sc__law_row.nd rfl (Or.inl rfl)) (pss_cons (ps_expr (pe_bm PySem.F.plainAttrs_list PySem.F.slot_list_append PySem.F.type_list_append mt_append (pv 7) (pa_cons (pe_op op_mod (pv 6) (pv 3)) pa_nil)))
          (pss_one (ps_set (i := 6) sc__law_row.nd rfl (Or.inl rfl) (pe_op op_fdivW (pv 6) (pv 3))))))
          (pss_one (ps_ret (pv 7)))))))), ?_⟩
    unfold m__law_row at hQ
    first | with_reducible refine st_n ?_ | skip
    refine st_seq ?_
    refine s_if ?_ (Same.refl _) (Same.refl _) hQ ?_ ?_
    · exact (t_B (F := H) (g_var (a := mixed) rfl (Same.refl _)))
    · intro F2 H3 nx1 e04 hQ
      replace hQ := if_t hQ
      replace r_script := Rp.mono nx1.ff r_script
      have hF5 := nx1.fh
      first | with_reducible refine st_n ?_ | skip
      refine st_seq ?_
      refine s_asg ?_ hF5 e04 hQ ?_
      · exact (g_call3 (ma := .ok script) (mb := .ok skip) (mc := .ok (if many > (1 : Int) then many else (1 : Int))) (g_var (a := script) (Rp.mono hF5 r_script) (Same.refl _)) (g_var (a := skip) rfl (Same.refl _)) (g_max2 g_int (g_var (a := many) rfl (Same.refl _))))
      intro sums v11 F8 H9 nx7 e010 r12 hQ
      replace r_script := Rp.mono nx7.ff r_script
      have hF13 := nx7.fh
      first | with_reducible refine st_n ?_ | skip
      refine s_ret ?_ e010 hQ (fun a h => h)
      exact (g_compI (i_rng1 (g_var (a := many) rfl (Same.refl _))) (fun j v15 F16 H17 f18 h19 hh20 rx21 => by
          obtain rfl : v15 = V.int j := rx21
          exact ⟨_, fun _ q => q, rfl, t_yes, (g_sc (F' := H17) (g_mod (g_call2 (ma := idx sums j) (mb := .ok j) (g_idx (g_var (a := sums) (Rp.mono hh20 (Rp.mono hF13 r12)) (Same.refl _)) (g_var (a := j) rfl (Same.refl _)) (Same.refl _)) (g_var (a := j) rfl (Same.refl _))) (g_var (a := base_) rfl (Same.refl _))))⟩))
    intro F2 H3 nx1 e04 hQ
    replace hQ := if_f hQ
    refine st_next ?_
    replace r_script := Rp.mono nx1.ff r_script
    have hF6 := nx1.fh
    first | with_reducible refine st_n ?_ | skip
    refine st_seq ?_
    refine s_asg ?_ hF6 e04 hQ ?_
    · exact (g_sc (F' := H3) (g_sum (g_compI (i_list (g_cutSS (g_var (a := script) (Rp.mono hF6 r_script) (Same.refl _)) (o_some (F := H3) (g_var (a := skip) rfl (Same.refl _))) o_no) (Same.refl _)) (fun cell v30 F31 H32 f33 h34 hh35 rx36 => by
        obtain rfl : v30 = V.int cell := rx36
        exact ⟨_, fun _ q => q, rfl, t_yes, (g_sc (F' := H32) (g_modL (by decide +kernel) (g_var (a := cell) rfl (Same.refl _)) (g_pow (by decide))))⟩)) (Same.refl _)))
    intro total v38 F26 H27 nx25 e028 r39 hQ
    replace r_script := Rp.mono nx25.ff r_script
    have hF40 := nx25.fh
    obtain rfl : v38 = V.int total := r39
    first | with_reducible refine st_n ?_ | skip
    refine st_seq ?_
    refine s_asgI (b := false) ?_ hF40 e028 hQ ?_
    · exact (g_lstK a_nil (Nat.le_of_ble_eq_true rfl))
    intro row p46 F42 H43 nx41 e044 o45 nw47 hQ
    replace r_script := Rp.mono nx41.ff r_script
    have hF48 := nx41.fh
    first | with_reducible refine st_n ?_ | skip
    refine st_seq ?_
    refine s_for ?_ hF48 e044 hQ ?_
    · exact (i_rng1 (g_sc (F' := H43) (g_var (a := many) rfl (Same.refl _))))
    intro xs53 J54 F50 H51 nx49 e052 ok55 hQ
    replace r_script := Rp.mono nx49.ff r_script
    replace o45 := o45.nx0 nx49
    have hF57 := nx49.fh
    replace hQ := wp_bdi hQ
    refine for_S ok55 (fun (st : Int × (List Int)) σ62 H61 => match st with | (total, row) => ∃ (F58 : Hp) (j64 : Option V), σ62 = [some v_script, some (.int skip), some (.int many), some (.int base_), some (.bl mixed), none, some (.int total), some (.ref p46), j64, none] ∧ Nx (fun q => q = p46 ∨ False) F50 H51 F58 H61 ∧ Same H H61 ∧ Own K H false F58 H61 p46 row) ?hku92 ?h0u92 hQ ?turnu92 ?doneu92
    case hku92 =>
      intro st σ9 H61 hI
      obtain ⟨total, row⟩ := st
      obtain ⟨F58, j64, rfl, nL59, e060, o63⟩ := hI
      exact nL59.ff.trans nL59.fh
    case h0u92 =>
      exact ⟨_, _, rfl, (Nx.refl' hF57), e052, o45⟩
    case turnu92 =>
      intro j l68 st v69 σ9 H61 H70 hI e71 rx72 hQ
      obtain ⟨total, row⟩ := st
      obtain ⟨F58, j64, rfl, nL59, e060, o63⟩ := hI
      have r_script := Rp.mono nL59.ff r_script
      have hF65 := nL59.fh
      have nA66 := nL59
      have nx73 : Nx0 F58 H61 (mix F58 H61 H70) H70 := Nx.mk' hF65 e71
      have e075 := e060.trans e71
      replace r_script := Rp.mono nx73.ff r_script
      replace o63 := o63.nx0 nx73
      replace nA66 := nA66.step0 nx73
      have hF76 := nx73.fh
      refine gn ?_
      obtain rfl : v69 = V.int j := rx72
      first | with_reducible refine st_n ?_ | skip
      refine st_seq ?_
      refine s_app (m := modR total base_) ?ha o63 ?he hF76 e075 hQ ?_
      case ha => exact at_var rfl
      case he => exact (g_sc (F' := H70) (g_mod (g_var (a := total) rfl (Same.refl _)) (g_var (a := base_) rfl (Same.refl _))))
      intro row F79 H80 nx78 e081 o2 hQ
      replace r_script := Rp.mono nx78.ff r_script
      replace nA66 := nA66.step nx78 (fun q z => .inl (.inl z))
      have hF83 := nx78.fh
      replace o63 := o2
      first | with_reducible refine st_n ?_ | skip
      refine s_asg ?_ hF83 e081 hQ ?_
      · exact (g_sc (F' := H80) (g_div (g_var (a := total) rfl (Same.refl _)) (g_var (a := base_) rfl (Same.refl _))))
      intro total v88 F85 H86 nx84 e087 r89 hQ
      replace r_script := Rp.mono nx84.ff r_script
      replace o63 := o63.nx0 nx84
      replace nA66 := nA66.step0 nx84
      have hF90 := nx84.fh
      obtain rfl : v88 = V.int total := r89
      exact ⟨(total, row), ⟨_, _, rfl, nA66, e087, o63⟩, hQ⟩
    case doneu92 =>
      intro st σ9 H61 hI hQ
      obtain ⟨total, row⟩ := st
      obtain ⟨F58, j64, rfl, nL59, e060, o63⟩ := hI
      have r_script := Rp.mono nL59.ff r_script
      have hF65 := nL59.fh
      first | with_reducible refine st_n ?_ | skip
      refine s_ret ?_ e060 hQ (fun a h => h)
      exact (g_var (a := row) (o63.repI hF65) dif_le)

abbrev N__law_sown : List Str := ["board", "pit", "pits", "seeds", "made", "k", "at"]
theorem sc__law_sown : FnScope N__law_sown ["board", "pit"] (defScope s__law_sown) := ⟨rfl, rfl, rfl, by decide +kernel, rfl, by decide +kernel, by decide +kernel⟩
theorem ok__law_sown (T : Hd K mg) : ∃ fd, PySem.W.keepIn K (.ref (He.ga K "_law_sown")) = true ∧ Binds K fd ["board", "pit"] [] ∧ FnOk P w K mg base (L2.CX P w) 1 (He.ga K "_law_sown") fd ["board", "pit"] (sp2 K m__law_sown) := by
  obtain ⟨fd, F⟩ := T.d__law_sown
  refine ⟨fd, F.kp, F.bindsN fun _ _ _ _ _ _ us hl => match us, hl with | [_, _], _ => rfl, ?_⟩
  refine F.ok sc__law_sown (fun vs H Q E h => ?_) (fun cdv A outer s H vs Q E hr h => ?_)
  · obtain ⟨v_board, v_pit, board, pit, rfl, r_board, r_pit, hQ⟩ := h
    rfl
  · obtain ⟨v_board, v_pit, board, pit, rfl, r_board, r_pit, hQ⟩ := h
    obtain rfl : v_pit = V.int pit := r_pit
    have tk : Takes (cxOf (L2.CX P w) P w K mg base N__law_sown "_law_sown" (defScope s__law_sown) (He.ga K "_law_sown") cdv A outer s H E) (fun cls d _ H => E cls d H) := takes_of rfl rfl rfl rfl
    refine ⟨_, (by exact (pss_cons (ps_set (i := 2) sc__law_sown.nd rfl (Or.inl rfl) (pe_callB call_len_seq rfl T.f_len PySem.boot_len (pa_cons (pv 0) pa_nil)))
          (pss_cons (ps_set (i := 3) sc__law_sown.nd rfl (Or.inl rfl) (pe_ix ix_list (pv 0) (pv 1) (fun _ _ => rfl)))
          (pss_cons (ps_set (i := 4) sc__law_sown.nd rfl (Or.inl rfl) (pe_callTy call_list_of rfl T.f_list (by decide +kernel) (pa_cons (pv 0) pa_nil)))
          (pss_cons (ps_asg pe_int (pg_sub (pv 4) (pv 1) set_list))
          (pss_cons (ps_for (passes_of rfl) rfl (pi_range1 rfl T.f_range (pa_cons (pv 2) pa_nil)) (pg_name (i := 5) sc__law_sown.nd rfl (Or.inl rfl)) (pss_cons (ps_set (i := 6) sc__law_sown.nd rfl (Or.inl rfl) (pe_op op_mod (pe_op op_add (pe_op op_add (pv 1) pe_int) (pv 5)) (pv 2)))
          (pss_one (ps_asg (pe_op op_add (pe_op op_add (pe_ix ix_list (pv 4) (pv 6) (fun _ _ => rfl)) (pe_op op_fdivW (pv 3) (pv 2))) (pe_callTy call_int1 rfl T.f_int (by decide +kernel) (pa_cons (pe_cmpR op_lt (pv 5) (pe_op op_mod (pv 3) (pv 2)) (nomark _)) pa_nil))) (pg_sub (pv 4) (pv 6) set_list)))))
          (pss_one (ps_ret (pe_tup (pa_cons (pv 4) (pa_cons (pe_op op_mod (pe_op op_add (pv 1) (pv 3)) (pv 2)) pa_nil))))))))))), ?_⟩
    unfold m__law_sown at hQ
    first | with_reducible refine st_n ?_ | skip
    refine st_seq ?_
    refine s_asg ?_ (Same.refl _) (Same.refl _) hQ ?_
    · exact (g_sc (F' := H) (g_len (g_var (a := board) (Rp.mono (Same.refl _) r_board) (Same.refl _)) (Same.refl _)))
    intro pits v5 F2 H3 nx1 e04 r6 hQ
    replace r_board := Rp.mono nx1.ff r_board
    have hF7 := nx1.fh
    obtain rfl : v5 = V.int pits := r6
    first | with_reducible refine st_n ?_ | skip
    refine st_seq ?_
    refine s_asg ?_ hF7 e04 hQ ?_
    · exact (g_sc (F' := H3) (g_idx (g_var (a := board) (Rp.mono hF7 r_board) (Same.refl _)) (g_var (a := pit) rfl (Same.refl _)) (Same.refl _)))
    intro seeds v12 F9 H10 nx8 e011 r13 hQ
    replace r_board := Rp.mono nx8.ff r_board
    have hF14 := nx8.fh
    obtain rfl : v12 = V.int seeds := r13
    first | with_reducible refine st_n ?_ | skip
    refine st_seq ?_
    refine s_asgI (b := false) ?_ hF14 e011 hQ ?_
    · exact (g_listI (g_var (a := board) (Rp.mono hF14 r_board) (Same.refl _)))
    intro made p20 F16 H17 nx15 e018 o19 nw21 hQ
    replace r_board := Rp.mono nx15.ff r_board
    have hF22 := nx15.fh
    first | with_reducible refine st_n ?_ | skip
    refine st_seq ?_
    refine s_set (m := .ok (0 : Int)) (mi := .ok pit) ?ha o19 ?he ?hi hF22 e018 hQ ?_
    case ha => exact at_var rfl
    case he => exact (g_sc (F' := H17) g_int)
    case hi => exact (g_var (a := pit) rfl (Same.refl _))
    intro made F24 H25 nx23 e026 o2 hQ
    replace r_board := Rp.mono nx23.ff r_board
    have hF27 := nx23.fh
    replace o19 := o2
    first | with_reducible refine st_n ?_ | skip
    refine st_seq ?_
    refine s_for ?_ hF27 e026 hQ ?_
    · exact (i_rng1 (g_sc (F' := H25) (g_var (a := pits) rfl (Same.refl _))))
    intro xs32 J33 F29 H30 nx28 e031 ok34 hQ
    replace r_board := Rp.mono nx28.ff r_board
    replace o19 := o19.nx0 nx28
    have hF36 := nx28.fh
    replace hQ := wp_bdi hQ
    refine for_S ok34 (fun (made : (List Int)) σ41 H40 => ∃ (F37 : Hp) (j43 : Option V) (j44 : Option V), σ41 = [some v_board, some (.int pit), some (.int pits), some (.int seeds), some (.ref p20), j44, j43] ∧ Nx (fun q => q = p20 ∨ False) F29 H30 F37 H40 ∧ Same H H40 ∧ Own K H false F37 H40 p20 made) ?hku79 ?h0u79 hQ ?turnu79 ?doneu79
    case hku79 =>
      intro made σ9 H40 hI
      obtain ⟨F37, j43, j44, rfl, nL38, e039, o42⟩ := hI
      exact nL38.ff.trans nL38.fh
    case h0u79 =>
      exact ⟨_, _, _, rfl, (Nx.refl' hF36), e031, o19⟩
    case turnu79 =>
      intro k l48 made v49 σ9 H40 H50 hI e51 rx52 hQ
      obtain ⟨F37, j43, j44, rfl, nL38, e039, o42⟩ := hI
      have r_board := Rp.mono nL38.ff r_board
      have hF45 := nL38.fh
      have nA46 := nL38
      have nx53 : Nx0 F37 H40 (mix F37 H40 H50) H50 := Nx.mk' hF45 e51
      have e055 := e039.trans e51
      replace r_board := Rp.mono nx53.ff r_board
      replace o42 := o42.nx0 nx53
      replace nA46 := nA46.step0 nx53
      have hF56 := nx53.fh
      refine gn ?_
      obtain rfl : v49 = V.int k := rx52
      first | with_reducible refine st_n ?_ | skip
      refine st_seq ?_
      refine s_asg ?_ hF56 e055 hQ ?_
      · exact (g_sc (F' := H50) (g_mod (g_i0 (g_i0 (g_var (a := pit) rfl (Same.refl _)) g_int) (g_var (a := k) rfl (Same.refl _))) (g_var (a := pits) rfl (Same.refl _))))
      intro at_ v62 F59 H60 nx58 e061 r63 hQ
      replace r_board := Rp.mono nx58.ff r_board
      replace o42 := o42.nx0 nx58
      replace nA46 := nA46.step0 nx58
      have hF64 := nx58.fh
      obtain rfl : v62 = V.int at_ := r63
      first | with_reducible refine st_n ?_ | skip
      refine s_set (m := R.bd (R.bd (idx made at_) fun (t65 : Int) => R.bd (divR seeds pits) fun (t66 : Int) => .ok (t65 + t66)) fun (t69 : Int) => R.bd (R.bd (R.bd (modR seeds pits) fun (t67 : Int) => .ok (decide (k < t67))) fun (t68 : Bool) => .ok (if t68 = true then (1 : Int) else 0)) fun (t70 : Int) => .ok (t69 + t70)) (mi := .ok at_) ?ha o42 ?he ?hi hF64 e061 hQ ?_
      case ha => exact at_var rfl
      case he => exact (g_sc (F' := H60) (g_i0 (g_i0 (g_idx (g_var (a := made) (o42.rep hF64) (Same.refl _)) (g_var (a := at_) rfl (Same.refl _)) (Same.refl _)) (g_div (g_var (a := seeds) rfl (Same.refl _)) (g_var (a := pits) rfl (Same.refl _)))) (g_intB (g_b0 (g_var (a := k) rfl (Same.refl _)) (g_mod (g_var (a := seeds) rfl (Same.refl _)) (g_var (a := pits) rfl (Same.refl _)))))))
      case hi => exact (g_var (a := at_) rfl (Same.refl _))
      intro made F73 H74 nx72 e075 o2 hQ
      replace r_board := Rp.mono nx72.ff r_board
      replace nA46 := nA46.step nx72 (fun q z => .inl (.inl z))
      have hF76 := nx72.fh
      replace o42 := o2
      exact ⟨made, ⟨_, _, _, rfl, nA46, e075, o42⟩, hQ⟩
    case doneu79 =>
      intro made σ9 H40 hI hQ
      obtain ⟨F37, j43, j44, rfl, nL38, e039, o42⟩ := hI
      have r_board := Rp.mono nL38.ff r_board
      have hF45 := nL38.fh
      first | with_reducible refine st_n ?_ | skip
      refine s_ret ?_ e039 hQ (fun a h => h)
      exact (g_pair (g_var (a := made) (o42.repI hF45) dif_le) (g_sc (F' := H40) (g_mod (g_i0 (g_var (a := pit) rfl (Same.refl _)) (g_var (a := seeds) rfl (Same.refl _))) (g_var (a := pits) rfl (Same.refl _)))))

abbrev N__law_laid : List Str := ["places", "pits", "board", "at", "pit"]
theorem sc__law_laid : FnScope N__law_laid ["places", "pits"] (defScope s__law_laid) := ⟨rfl, rfl, rfl, by decide +kernel, rfl, by decide +kernel, by decide +kernel⟩
theorem ok__law_laid (T : Hd K mg) : ∃ fd, PySem.W.keepIn K (.ref (He.ga K "_law_laid")) = true ∧ Binds K fd ["places", "pits"] [] ∧ FnOk P w K mg base (L2.CX P w) 1 (He.ga K "_law_laid") fd ["places", "pits"] (sp2 K m__law_laid) := by
  obtain ⟨fd, F⟩ := T.d__law_laid
  refine ⟨fd, F.kp, F.bindsN fun _ _ _ _ _ _ us hl => match us, hl with | [_, _], _ => rfl, ?_⟩
  refine F.ok sc__law_laid (fun vs H Q E h => ?_) (fun cdv A outer s H vs Q E hr h => ?_)
  · obtain ⟨v_places, v_pits, places, pits, rfl, r_places, r_pits, hQ⟩ := h
    rfl
  · obtain ⟨v_places, v_pits, places, pits, rfl, r_places, r_pits, hQ⟩ := h
    obtain rfl : v_pits = V.int pits := r_pits
    have tk : Takes (cxOf (L2.CX P w) P w K mg base N__law_laid "_law_laid" (defScope s__law_laid) (He.ga K "_law_laid") cdv A outer s H E) (fun cls d _ H => E cls d H) := takes_of rfl rfl rfl rfl
    refine ⟨_, (by exact (pss_cons (ps_setLc (i := 2) (own := [("pit", 4)]) (g := gName 4) (tt := tYes) rfl sc__law_laid.nd rfl rfl (sw_true rfl rfl rfl (by decide +kernel)) (pi_range1 rfl T.f_range (pa_cons (pv 1) pa_nil)) (blkOk_by (N := N__law_laid) (sc := defScope s__law_laid) (by decide +kernel)) (fun _ _ _ _ _ => pg_name (i := 4) sc__law_laid.nd rfl (Or.inl rfl)) (fun _ _ _ _ _ => pts_nil) (fun _ _ _ _ _ => pe_int))
          (pss_cons (ps_for (passes_of rfl) rfl (pi_list (pv 0)) (pg_name (i := 3) sc__law_laid.nd rfl (Or.inl rfl)) (pss_one (ps_asg (pe_op op_add (pe_ix ix_list (pv 2) (pv 3) (fun _ _ => rfl)) pe_int) (pg_sub (pv 2) (pv 3) set_list))))
          (pss_one (ps_ret (pv 2)))))), ?_⟩
    unfold m__law_laid at hQ
    first | with_reducible refine st_n ?_ | skip
    refine st_seq ?_
    refine s_asgI (b := false) ?_ (Same.refl _) (Same.refl _) hQ ?_
    · exact (g_compI (i_rng1 (g_var (a := pits) rfl (Same.refl _))) (fun pit v9 F10 H11 f12 h13 hh14 rx15 => by
        obtain rfl : v9 = V.int pit := rx15
        exact ⟨_, fun _ q => q, rfl, t_yes, (g_sc (F' := H11) g_int)⟩))
    intro board p6 F2 H3 nx1 e04 o5 nw7 hQ
    replace r_places := Rp.mono nx1.ff r_places
    have hF17 := nx1.fh
    first | with_reducible refine st_n ?_ | skip
    refine st_seq ?_
    refine s_for ?_ hF17 e04 hQ ?_
    · exact (i_list (g_var (a := places) r_places hF17) hF17)
    intro xs22 J23 F19 H20 nx18 e021 ok24 hQ
    replace r_places := Rp.mono nx18.ff r_places
    replace o5 := o5.nx0 nx18
    have hF26 := nx18.fh
    replace hQ := wp_bdi hQ
    refine for_S ok24 (fun (board : (List Int)) σ31 H30 => ∃ (F27 : Hp) (j33 : Option V), σ31 = [some v_places, some (.int pits), some (.ref p6), j33, none] ∧ Nx (fun q => q = p6 ∨ False) F19 H20 F27 H30 ∧ Same H H30 ∧ Own K H false F27 H30 p6 board) ?hku55 ?h0u55 hQ ?turnu55 ?doneu55
    case hku55 =>
      intro board σ9 H30 hI
      obtain ⟨F27, j33, rfl, nL28, e029, o32⟩ := hI
      exact nL28.ff.trans nL28.fh
    case h0u55 =>
      exact ⟨_, _, rfl, (Nx.refl' hF26), e021, o5⟩
    case turnu55 =>
      intro at_ l37 board v38 σ9 H30 H39 hI e40 rx41 hQ
      obtain ⟨F27, j33, rfl, nL28, e029, o32⟩ := hI
      have r_places := Rp.mono nL28.ff r_places
      have hF34 := nL28.fh
      have nA35 := nL28
      have nx42 : Nx0 F27 H30 (mix F27 H30 H39) H39 := Nx.mk' hF34 e40
      have e044 := e029.trans e40
      replace r_places := Rp.mono nx42.ff r_places
      replace o32 := o32.nx0 nx42
      replace nA35 := nA35.step0 nx42
      have hF45 := nx42.fh
      refine gn ?_
      obtain rfl : v38 = V.int at_ := rx41
      first | with_reducible refine st_n ?_ | skip
      refine s_set (m := R.bd (idx board at_) fun (t47 : Int) => .ok (t47 + (1 : Int))) (mi := .ok at_) ?ha o32 ?he ?hi hF45 e044 hQ ?_
      case ha => exact at_var rfl
      case he => exact (g_sc (F' := H39) (g_i0 (g_idx (g_var (a := board) (o32.rep hF45) (Same.refl _)) (g_var (a := at_) rfl (Same.refl _)) (Same.refl _)) g_int))
      case hi => exact (g_var (a := at_) rfl (Same.refl _))
      intro board F50 H51 nx49 e052 o2 hQ
      replace r_places := Rp.mono nx49.ff r_places
      replace nA35 := nA35.step nx49 (fun q z => .inl (.inl z))
      have hF53 := nx49.fh
      replace o32 := o2
      exact ⟨board, ⟨_, _, rfl, nA35, e052, o32⟩, hQ⟩
    case doneu55 =>
      intro board σ9 H30 hI hQ
      obtain ⟨F27, j33, rfl, nL28, e029, o32⟩ := hI
      have r_places := Rp.mono nL28.ff r_places
      have hF34 := nL28.fh
      first | with_reducible refine st_n ?_ | skip
      refine s_ret ?_ e029 hQ (fun a h => h)
      exact (g_var (a := board) (o32.repI hF34) dif_le)

abbrev N__law_few : List Str := ["script", "cell", "pits", "seeds"]
theorem sc__law_few : FnScope N__law_few ["script"] (defScope s__law_few) := ⟨rfl, rfl, rfl, by decide +kernel, rfl, by decide +kernel, by decide +kernel⟩
theorem ok__law_few (T : Hd K mg) : ∃ fd, PySem.W.keepIn K (.ref (He.ga K "_law_few")) = true ∧ Binds K fd ["script"] [] ∧ FnOk P w K mg base (L2.CX P w) 2 (He.ga K "_law_few") fd ["script"] (sp1 K m__law_few) := by
  obtain ⟨fd, F⟩ := T.d__law_few
  obtain ⟨fd__law_cell_at, kp__law_cell_at, b__law_cell_at, G__law_cell_at⟩ := ok__law_cell_at (P := P) (w := w) (base := base) T
  obtain ⟨fd__law_stirred, kp__law_stirred, b__law_stirred, G__law_stirred⟩ := ok__law_stirred (P := P) (w := w) (base := base) T
  refine ⟨fd, F.kp, F.bindsN fun _ _ _ _ _ _ us hl => match us, hl with | [_], _ => rfl, ?_⟩
  refine F.ok sc__law_few (fun vs H Q E h => ?_) (fun cdv A outer s H vs Q E hr h => ?_)
  · obtain ⟨v_script, script, rfl, r_script, hQ⟩ := h
    rfl
  · obtain ⟨v_script, script, rfl, r_script, hQ⟩ := h
    have tk : Takes (cxOf (L2.CX P w) P w K mg base N__law_few "_law_few" (defScope s__law_few) (He.ga K "_law_few") cdv A outer s H E) (fun cls d _ H => E cls d H) := takes_of rfl rfl rfl rfl
    refine ⟨_, (by exact (pss_cons (ps_set (i := 1) sc__law_few.nd rfl (Or.inl rfl) (pe_callS G__law_cell_at (hr.mono (by decide)) rfl T.g__law_cell_at kp__law_cell_at b__law_cell_at (fun σ => passAt tk σ) (pa_cons (pv 0) (pa_cons pe_int pa_nil))))
          (pss_cons (ps_set (i := 2) sc__law_few.nd rfl (Or.inl rfl) (pe_op op_add pe_int (pe_op op_mod (pe_op op_fdivW (pv 1) pe_int) pe_int)))
          (pss_cons (ps_set (i := 3) sc__law_few.nd rfl (Or.inl rfl) (pe_op op_mod (pe_callS G__law_stirred (hr.mono (by decide)) rfl T.g__law_stirred kp__law_stirred b__law_stirred (fun σ => passAt tk σ) (pa_cons (pv 1) (pa_cons pe_int pa_nil))) (pe_ix ix_list (pe_lst (pa_cons pe_int (pa_cons pe_int (pa_cons pe_int (pa_cons pe_int (pa_cons pe_int (pa_cons pe_int pa_nil))))))) (pv 2) (fun _ _ => rfl))))
          (Evl.pss_cut (ps_if (pt_cmpR op_eq (pe_op op_mod (pv 1) pe_int) pe_int (nomark _)) (pss_cons (ps_set (i := 2) sc__law_few.nd rfl (Or.inl rfl) (pe_op op_add pe_int (pe_op op_mod (pe_op op_fdivW (pv 1) pe_int) pe_int)))
          (pss_one (ps_set (i := 3) sc__law_few.nd rfl (Or.inl rfl) (pe_op op_mod (pe_callS G__law_stirred (hr.mono (by decide)) rfl T.g__law_stirred kp__law_stirred b__law_stirred (fun σ => passAt tk σ) (pa_cons (pv 1) (pa_cons pe_int pa_nil))) pe_int)))) pss_nil)
          (pss_one (ps_ret (pe_tup (pa_cons (pv 2) (pa_cons (pv 3) pa_nil)))))))))), ?_⟩
    unfold m__law_few at hQ
    first | with_reducible refine st_n ?_ | skip
    refine st_seq ?_
    refine s_asg ?_ (Same.refl _) (Same.refl _) hQ ?_
    · exact (g_sc (F' := H) (g_call2 (ma := .ok script) (mb := .ok (0 : Int)) (g_var (a := script) (Rp.mono (Same.refl _) r_script) (Same.refl _)) g_int))
    intro cell v5 F2 H3 nx1 e04 r6 hQ
    replace r_script := Rp.mono nx1.ff r_script
    have hF7 := nx1.fh
    obtain rfl : v5 = V.int cell := r6
    first | with_reducible refine st_n ?_ | skip
    refine st_seq ?_
    refine s_asg ?_ hF7 e04 hQ ?_
    · exact (g_sc (F' := H3) (g_i0 g_int (g_modL (by decide +kernel) (g_divL (by decide +kernel) (g_var (a := cell) rfl (Same.refl _)) g_int) g_int)))
    intro pits v12 F9 H10 nx8 e011 r13 hQ
    replace r_script := Rp.mono nx8.ff r_script
    have hF14 := nx8.fh
    obtain rfl : v12 = V.int pits := r13
    first | with_reducible refine st_n ?_ | skip
    refine st_seq ?_
    refine s_asg ?_ hF14 e011 hQ ?_
    · exact (g_sc (F' := H10) (g_mod (g_call2 (ma := .ok cell) (mb := .ok (5 : Int)) (g_var (a := cell) rfl (Same.refl _)) g_int) (g_idx (g_lstK (a_cons g_int (a_cons g_int (a_cons g_int (a_cons g_int (a_cons g_int (a_cons g_int a_nil)))))) (Nat.le_of_ble_eq_true rfl)) (g_var (a := pits) rfl (Same.refl _)) (Same.refl _))))
    intro seeds v21 F16 H17 nx15 e018 r22 hQ
    replace r_script := Rp.mono nx15.ff r_script
    have hF23 := nx15.fh
    obtain rfl : v21 = V.int seeds := r22
    first | with_reducible refine st_n ?_ | skip
    replace hQ := wp_bdi hQ
    refine s_cutW (I := fun (st : Int × Int) σ32 H31 => match st with | (pits, seeds) => ∃ (F28 : Hp), σ32 = [some v_script, some (.int cell), some (.int pits), some (.int seeds)] ∧ Nx (fun _ => False) F16 H17 F28 H31 ∧ Same H H31) (hQ := hQ) ?_ ?_
    · intro hQ
      have nA34 : Nx (fun _ => False) F16 H17 F16 H17 := Nx.refl' hF23
      refine s_if ?_ hF23 e018 hQ ?_ ?_
      · exact (t_test (F := H17) (g_eq (g_modL (by decide +kernel) (g_var (a := cell) rfl (Same.refl _)) g_int) g_int))
      · intro F25 H26 nx24 e027 hQ
        replace hQ := if_t hQ
        replace r_script := Rp.mono nx24.ff r_script
        replace nA34 := nA34.step0 nx24
        have hF35 := nx24.fh
        first | with_reducible refine st_n ?_ | skip
        refine st_seq ?_
        refine s_asg ?_ hF35 e027 hQ ?_
        · exact (g_sc (F' := H26) (g_i0 g_int (g_modL (by decide +kernel) (g_divL (by decide +kernel) (g_var (a := cell) rfl (Same.refl _)) g_int) g_int)))
        intro pits v41 F38 H39 nx37 e040 r42 hQ
        replace r_script := Rp.mono nx37.ff r_script
        replace nA34 := nA34.step0 nx37
        have hF43 := nx37.fh
        obtain rfl : v41 = V.int pits := r42
        first | with_reducible refine st_n ?_ | skip
        refine s_asg ?_ hF43 e040 hQ ?_
        · exact (g_sc (F' := H39) (g_modL (by decide +kernel) (g_call2 (ma := .ok cell) (mb := .ok (5 : Int)) (g_var (a := cell) rfl (Same.refl _)) g_int) g_int))
        intro seeds v49 F45 H46 nx44 e047 r50 hQ
        replace r_script := Rp.mono nx44.ff r_script
        replace nA34 := nA34.step0 nx44
        have hF51 := nx44.fh
        obtain rfl : v49 = V.int seeds := r50
        exact ⟨(pits, seeds), ⟨_, rfl, nA34, e047⟩, hQ⟩
      intro F25 H26 nx24 e027 hQ
      replace hQ := if_f hQ
      refine st_next ?_
      replace r_script := Rp.mono nx24.ff r_script
      replace nA34 := nA34.step0 nx24
      have hF36 := nx24.fh
      exact ⟨(pits, seeds), ⟨_, rfl, nA34, e027⟩, hQ⟩
    rintro ⟨pits, seeds⟩ σ9 H31 hI hQ
    obtain ⟨F28, rfl, nL29, e030⟩ := hI
    have r_script := Rp.mono nL29.ff r_script
    have hF33 := nL29.fh
    first | with_reducible refine st_n ?_ | skip
    refine s_ret ?_ e030 hQ (fun a h => h)
    exact (g_im (Same.refl _) (g_pair (g_var (a := pits) rfl (Same.refl _)) (g_var (a := seeds) rfl (Same.refl _))))

abbrev N__law_bars : List Str := ["script", "pits", "cell", "bars", "pit"]
theorem sc__law_bars : FnScope N__law_bars ["script", "pits"] (defScope s__law_bars) := ⟨rfl, rfl, rfl, by decide +kernel, rfl, by decide +kernel, by decide +kernel⟩
theorem ok__law_bars (T : Hd K mg) : ∃ fd, PySem.W.keepIn K (.ref (He.ga K "_law_bars")) = true ∧ Binds K fd ["script", "pits"] [] ∧ FnOk P w K mg base (L2.CX P w) 2 (He.ga K "_law_bars") fd ["script", "pits"] (sp2 K m__law_bars) := by
  obtain ⟨fd, F⟩ := T.d__law_bars
  obtain ⟨fd__law_cell_at, kp__law_cell_at, b__law_cell_at, G__law_cell_at⟩ := ok__law_cell_at (P := P) (w := w) (base := base) T
  obtain ⟨fd__law_stirred, kp__law_stirred, b__law_stirred, G__law_stirred⟩ := ok__law_stirred (P := P) (w := w) (base := base) T
  refine ⟨fd, F.kp, F.bindsN fun _ _ _ _ _ _ us hl => match us, hl with | [_, _], _ => rfl, ?_⟩
  refine F.ok sc__law_bars (fun vs H Q E h => ?_) (fun cdv A outer s H vs Q E hr h => ?_)
  · obtain ⟨v_script, v_pits, script, pits, rfl, r_script, r_pits, hQ⟩ := h
    rfl
  · obtain ⟨v_script, v_pits, script, pits, rfl, r_script, r_pits, hQ⟩ := h
    obtain rfl : v_pits = V.int pits := r_pits
    have tk : Takes (cxOf (L2.CX P w) P w K mg base N__law_bars "_law_bars" (defScope s__law_bars) (He.ga K "_law_bars") cdv A outer s H E) (fun cls d _ H => E cls d H) := takes_of rfl rfl rfl rfl
    refine ⟨_, (by exact (pss_cons (ps_set (i := 2) sc__law_bars.nd rfl (Or.inr rfl) (pe_callS G__law_cell_at (hr.mono (by decide)) rfl T.g__law_cell_at kp__law_cell_at b__law_cell_at (fun σ => passAt tk σ) (pa_cons (pv 0) (pa_cons pe_int pa_nil))))
          (Evl.pss_cut (ps_if (pt_cmpR op_eq (pe_op op_mod (pe_op op_fdivW (pe_callS G__law_cell_at (hr.mono (by decide)) rfl T.g__law_cell_at kp__law_cell_at b__law_cell_at (fun σ => passAt tk σ) (pa_cons (pv 0) (pa_cons pe_int pa_nil))) pe_int) pe_int) pe_int (nomark _)) (pss_one (ps_set (i := 2) sc__law_bars.nd rfl (Or.inr rfl) (pe_callS G__law_stirred (hr.mono (by decide)) rfl T.g__law_stirred kp__law_stirred b__law_stirred (fun σ => passAt tk σ) (pa_cons (pv 2) (pa_cons pe_int pa_nil))))) pss_nil)
          (pss_cons (ps_setLc (i := 3) (own := [("pit", 4)]) (g := gName 4) rfl sc__law_bars.nd rfl rfl (sw_true rfl rfl rfl (by decide +kernel)) (pi_range1 rfl T.f_range (pa_cons (pv 1) pa_nil)) (blkOk_by (N := N__law_bars) (sc := defScope s__law_bars) (by decide +kernel)) (fun _ _ _ _ _ => pg_name (i := 4) sc__law_bars.nd rfl (Or.inl rfl)) (fun _ _ _ _ _ => pts_one (pt_cmpR op_eq (pe_op op_mod (pe_op op_shr (pv 2) (pv 4)) pe_int) pe_int (nomark _))) (fun _ _ _ _ _ => (pv 4)))
          (pss_cons (ps_if (PW.pt (pw_or (pt_cmpR (op_eqP hr.units) (pv 3) (pe_lst pa_nil) (nomark _)) (pw_or1 (pt_cmpR op_eq (pe_callB call_len_seq rfl T.f_len PySem.boot_len (pa_cons (pv 3) pa_nil)) (pv 1) (nomark _))))) (pss_one (ps_ret (pe_lst (pa_cons (pe_op op_mod (pe_op op_fdivW (pv 2) pe_int) (pv 1)) pa_nil)))) pss_nil)
          (pss_one (ps_ret (pv 3)))))))), ?_⟩
    unfold m__law_bars at hQ
    first | with_reducible refine st_n ?_ | skip
    refine st_seq ?_
    refine s_asg ?_ (Same.refl _) (Same.refl _) hQ ?_
    · exact (g_sc (F' := H) (g_call2 (ma := .ok script) (mb := .ok (1 : Int)) (g_var (a := script) (Rp.mono (Same.refl _) r_script) (Same.refl _)) g_int))
    intro cell v5 F2 H3 nx1 e04 r6 hQ
    replace r_script := Rp.mono nx1.ff r_script
    have hF7 := nx1.fh
    obtain rfl : v5 = V.int cell := r6
    first | with_reducible refine st_n ?_ | skip
    replace hQ := wp_bdi hQ
    refine s_cutW (I := fun (cell : Int) σ19 H18 => ∃ (F15 : Hp), σ19 = [some v_script, some (.int pits), some (.int cell), none, none] ∧ Nx (fun _ => False) F2 H3 F15 H18 ∧ Same H H18) (hQ := hQ) ?_ ?_
    · intro hQ
      have nA21 : Nx (fun _ => False) F2 H3 F2 H3 := Nx.refl' hF7
      refine s_if ?_ hF7 e04 hQ ?_ ?_
      · exact (t_test (F := H3) (g_eq (g_modL (by decide +kernel) (g_divL (by decide +kernel) (g_call2 (ma := .ok script) (mb := .ok (0 : Int)) (g_var (a := script) (Rp.mono hF7 r_script) (Same.refl _)) g_int) g_int) g_int) g_int))
      · intro F12 H13 nx11 e014 hQ
        replace hQ := if_t hQ
        replace r_script := Rp.mono nx11.ff r_script
        replace nA21 := nA21.step0 nx11
        have hF22 := nx11.fh
        first | with_reducible refine st_n ?_ | skip
        refine s_asg ?_ hF22 e014 hQ ?_
        · exact (g_sc (F' := H13) (g_call2 (ma := .ok cell) (mb := .ok (9 : Int)) (g_var (a := cell) rfl (Same.refl _)) g_int))
        intro cell v28 F25 H26 nx24 e027 r29 hQ
        replace r_script := Rp.mono nx24.ff r_script
        replace nA21 := nA21.step0 nx24
        have hF30 := nx24.fh
        obtain rfl : v28 = V.int cell := r29
        exact ⟨cell, ⟨_, rfl, nA21, e027⟩, hQ⟩
      intro F12 H13 nx11 e014 hQ
      replace hQ := if_f hQ
      refine st_next ?_
      replace r_script := Rp.mono nx11.ff r_script
      replace nA21 := nA21.step0 nx11
      have hF23 := nx11.fh
      exact ⟨cell, ⟨_, rfl, nA21, e014⟩, hQ⟩
    rintro cell σ9 H18 hI hQ
    obtain ⟨F15, rfl, nL16, e017⟩ := hI
    have r_script := Rp.mono nL16.ff r_script
    have hF20 := nL16.fh
    first | with_reducible refine st_n ?_ | skip
    refine st_seq ?_
    refine s_asgN ?_ hF20 e017 hQ ?_
    · exact (g_compI (i_rng1 (g_var (a := pits) rfl (Same.refl _))) (fun pit v36 F37 H38 f39 h40 hh41 rx42 => by
        obtain rfl : v36 = V.int pit := rx42
        exact ⟨_, fun _ q => q, rfl, (t_test (F := H38) (g_eq (g_modL (by decide +kernel) (g_shr (g_var (a := cell) rfl (Same.refl _)) (g_var (a := pit) rfl (Same.refl _))) g_int) g_int)), (g_sc (F' := H38) (g_var (a := pit) rfl (Same.refl _)))⟩))
    intro bars v46 F32 H33 nx31 e034 r47 hQ
    replace r_script := Rp.mono nx31.ff r_script
    have hF48 := nx31.fh
    first | with_reducible refine st_n ?_ | skip
    refine st_seq ?_
    refine s_if ?_ hF48 e034 hQ ?_ ?_
    · exact (t_orP (t_test (F := H33) (g_eqD (g_var (a := bars) (Rp.mono (dif_le.trans hF48) r47) (Same.refl _)) (g_lstK a_nil (Nat.le_of_ble_eq_true rfl)) (Same.refl _))) (t_test (F := H33) (g_eq (g_len (g_var (a := bars) (Rp.mono (dif_le.trans hF48) r47) (Same.refl _)) (Same.refl _)) (g_var (a := pits) rfl (Same.refl _)))))
    · intro F50 H51 nx49 e052 hQ
      replace hQ := if_t hQ
      replace r_script := Rp.mono nx49.ff r_script
      replace r47 := Rp.mono (dif_mono nx49.ff) r47
      have hF53 := nx49.fh
      first | with_reducible refine st_n ?_ | skip
      refine s_ret ?_ e052 hQ (fun a h => h)
      exact (g_lst (a_cons (g_sc (F' := H51) (g_mod (g_divL (by decide +kernel) (g_var (a := cell) rfl (Same.refl _)) g_int) (g_var (a := pits) rfl (Same.refl _)))) a_nil))
    intro F50 H51 nx49 e052 hQ
    replace hQ := if_f hQ
    refine st_next ?_
    replace r_script := Rp.mono nx49.ff r_script
    replace r47 := Rp.mono (dif_mono nx49.ff) r47
    have hF54 := nx49.fh
    first | with_reducible refine st_n ?_ | skip
    refine s_ret ?_ e052 hQ (fun a h => h)
    exact (g_var (a := bars) (Rp.mono (dif_mono hF54) r47) dif_le)

abbrev N__law_behind : List Str := ["board", "bars", "told", "pit"]
theorem sc__law_behind : FnScope N__law_behind ["board", "bars"] (defScope s__law_behind) := ⟨rfl, rfl, rfl, by decide +kernel, rfl, by decide +kernel, by decide +kernel⟩
theorem ok__law_behind (T : Hd K mg) : ∃ fd, PySem.W.keepIn K (.ref (He.ga K "_law_behind")) = true ∧ Binds K fd ["board", "bars"] [] ∧ FnOk P w K mg base (L2.CX P w) 2 (He.ga K "_law_behind") fd ["board", "bars"] (sp2 K m__law_behind) := by
  obtain ⟨fd, F⟩ := T.d__law_behind
  obtain ⟨fd__law_sown, kp__law_sown, b__law_sown, G__law_sown⟩ := ok__law_sown (P := P) (w := w) (base := base) T
  refine ⟨fd, F.kp, F.bindsN fun _ _ _ _ _ _ us hl => match us, hl with | [_, _], _ => rfl, ?_⟩
  refine F.ok sc__law_behind (fun vs H Q E h => ?_) (fun cdv A outer s H vs Q E hr h => ?_)
  · obtain ⟨v_board, v_bars, board, bars, rfl, r_board, r_bars, hQ⟩ := h
    rfl
  · obtain ⟨v_board, v_bars, board, bars, rfl, r_board, r_bars, hQ⟩ := h
    have tk : Takes (cxOf (L2.CX P w) P w K mg base N__law_behind "_law_behind" (defScope s__law_behind) (He.ga K "_law_behind") cdv A outer s H E) (fun cls d _ H => E cls d H) := takes_of rfl rfl rfl rfl
    refine ⟨_, (by exact (pss_cons (ps_set (i := 2) sc__law_behind.nd rfl (Or.inl rfl) (pe_lst pa_nil))
          (pss_cons (ps_for (passes_of rfl) rfl (pi_range1 rfl T.f_range (pa_cons (pe_callB call_len_seq rfl T.f_len PySem.boot_len (pa_cons (pv 0) pa_nil)) pa_nil)) (pg_name (i := 3) sc__law_behind.nd rfl (Or.inl rfl)) (pss_one (ps_if (PW.pt (pw_and (pt_cmpR op_gt (pe_ix ix_list (pv 0) (pv 3) (fun _ _ => rfl)) pe_int (nomark _)) (pw_and1 (pt_cmpR op_notIn_seq (pv 3) (pv 1) (by rfl))))) (pss_one (ps_expr (pe_bm PySem.F.plainAttrs_list PySem.F.slot_list_append PySem.F.type_list_append mt_append (pv 2) (pa_cons (pe_tup (pa_cons (pv 3) (pa_cons (pe_ix ix_tup (pe_callS G__law_sown (hr.mono (by decide)) rfl T.g__law_sown kp__law_sown b__law_sown (fun σ => passAt tk σ) (pa_cons (pv 0) (pa_cons (pv 3) pa_nil))) pe_int (fun _ _ => rfl)) pa_nil))) pa_nil)))) pss_nil)))
          (pss_one (ps_ret (pv 2)))))), ?_⟩
    unfold m__law_behind at hQ
    first | with_reducible refine st_n ?_ | skip
    refine st_seq ?_
    refine s_asgL (b := true) (m := .ok ([] : List (Int × (List Int)))) ?_ (Same.refl _) (Same.refl _) hQ ?_
    · exact a_nil
    intro told p6 F2 H3 nx1 e04 o5 nw7 hQ
    replace r_board := Rp.mono nx1.ff r_board
    replace r_bars := Rp.mono nx1.ff r_bars
    have hF8 := nx1.fh
    first | with_reducible refine st_n ?_ | skip
    refine st_seq ?_
    refine s_for ?_ hF8 e04 hQ ?_
    · exact (i_rng1 (g_sc (F' := H3) (g_len (g_var (a := board) (Rp.mono hF8 r_board) (Same.refl _)) (Same.refl _))))
    intro xs13 J14 F10 H11 nx9 e012 ok15 hQ
    replace r_board := Rp.mono nx9.ff r_board
    replace r_bars := Rp.mono nx9.ff r_bars
    replace o5 := o5.nx0 nx9
    have hF17 := nx9.fh
    replace hQ := wp_bdi hQ
    refine for_S ok15 (fun (told : (List (Int × (List Int)))) σ22 H21 => ∃ (F18 : Hp) (j24 : Option V), σ22 = [some v_board, some v_bars, some (.ref p6), j24] ∧ Nx (fun q => q = p6 ∨ False) F10 H11 F18 H21 ∧ Same H H21 ∧ Own K H true F18 H21 p6 told) ?hku56 ?h0u56 hQ ?turnu56 ?doneu56
    case hku56 =>
      intro told σ9 H21 hI
      obtain ⟨F18, j24, rfl, nL19, e020, o23⟩ := hI
      exact nL19.ff.trans nL19.fh
    case h0u56 =>
      exact ⟨_, _, rfl, (Nx.refl' hF17), e012, o5⟩
    case turnu56 =>
      intro pit l28 told v29 σ9 H21 H30 hI e31 rx32 hQ
      obtain ⟨F18, j24, rfl, nL19, e020, o23⟩ := hI
      have r_board := Rp.mono nL19.ff r_board
      have r_bars := Rp.mono nL19.ff r_bars
      have hF25 := nL19.fh
      have nA26 := nL19
      have nx33 : Nx0 F18 H21 (mix F18 H21 H30) H30 := Nx.mk' hF25 e31
      have e035 := e020.trans e31
      replace r_board := Rp.mono nx33.ff r_board
      replace r_bars := Rp.mono nx33.ff r_bars
      replace o23 := o23.nx0 nx33
      replace nA26 := nA26.step0 nx33
      have hF36 := nx33.fh
      refine gn ?_
      obtain rfl : v29 = V.int pit := rx32
      first | with_reducible refine st_n ?_ | skip
      refine s_if ?_ hF36 e035 hQ ?_ ?_
      · exact (t_andP (t_test (F := H30) (g_b0 (g_idx (g_var (a := board) (Rp.mono hF36 r_board) (Same.refl _)) (g_var (a := pit) rfl (Same.refl _)) (Same.refl _)) g_int)) (t_test (F := H30) (g_in (neg := true) (g_var (a := pit) rfl (Same.refl _)) (g_var (a := bars) (Rp.mono hF36 r_bars) (Same.refl _)) (Same.refl _) eqV_int)))
      · intro F41 H42 nx40 e043 hQ
        replace hQ := if_t hQ
        replace r_board := Rp.mono nx40.ff r_board
        replace r_bars := Rp.mono nx40.ff r_bars
        replace o23 := o23.nx0 nx40
        replace nA26 := nA26.step0 nx40
        have hF44 := nx40.fh
        first | with_reducible refine st_n ?_ | skip
        refine s_app (m := R.bd (R.bd (m__law_sown board pit) fun (t50 : (List Int) × Int) => .ok t50.1) fun (t51 : List Int) => .ok (pit, t51)) ?ha o23 ?he hF44 e043 hQ ?_
        case ha => exact at_var rfl
        case he => exact (g_pair (g_var (a := pit) rfl (dif_le.trans hF44)) (g_fst (g_call2 (ma := .ok board) (mb := .ok pit) (g_var (a := board) (Rp.mono hF44 r_board) (Same.refl _)) (g_var (a := pit) rfl (Same.refl _))) (dif_le.trans hF44)))
        intro told F47 H48 nx46 e049 o2 hQ
        replace r_board := Rp.mono nx46.ff r_board
        replace r_bars := Rp.mono nx46.ff r_bars
        replace nA26 := nA26.step nx46 (fun q z => .inl (.inl z))
        have hF53 := nx46.fh
        replace o23 := o2
        exact ⟨told, ⟨_, _, rfl, nA26, e049, o23⟩, hQ⟩
      intro F41 H42 nx40 e043 hQ
      replace hQ := if_f hQ
      refine st_next ?_
      replace r_board := Rp.mono nx40.ff r_board
      replace r_bars := Rp.mono nx40.ff r_bars
      replace o23 := o23.nx0 nx40
      replace nA26 := nA26.step0 nx40
      have hF45 := nx40.fh
      exact ⟨told, ⟨_, _, rfl, nA26, e043, o23⟩, hQ⟩
    case doneu56 =>
      intro told σ9 H21 hI hQ
      obtain ⟨F18, j24, rfl, nL19, e020, o23⟩ := hI
      have r_board := Rp.mono nL19.ff r_board
      have r_bars := Rp.mono nL19.ff r_bars
      have hF25 := nL19.fh
      first | with_reducible refine st_n ?_ | skip
      refine s_ret ?_ e020 hQ (fun a h => h)
      exact (g_var (a := told) (o23.rep0 hF25) dif_le)

abbrev N__law_led : List Str := ["board", "plan", "bars", "here", "deed"]
theorem sc__law_led : FnScope N__law_led ["board", "plan", "bars"] (defScope s__law_led) := ⟨rfl, rfl, rfl, by decide +kernel, rfl, by decide +kernel, by decide +kernel⟩
theorem ok__law_led (T : Hd K mg) : ∃ fd, PySem.W.keepIn K (.ref (He.ga K "_law_led")) = true ∧ Binds K fd ["board", "plan", "bars"] [] ∧ FnOk P w K mg base (L2.CX P w) 2 (He.ga K "_law_led") fd ["board", "plan", "bars"] (sp3 K m__law_led) := by
  obtain ⟨fd, F⟩ := T.d__law_led
  obtain ⟨fd__law_sown, kp__law_sown, b__law_sown, G__law_sown⟩ := ok__law_sown (P := P) (w := w) (base := base) T
  refine ⟨fd, F.kp, F.bindsN fun _ _ _ _ _ _ us hl => match us, hl with | [_, _, _], _ => rfl, ?_⟩
  refine F.ok sc__law_led (fun vs H Q E h => ?_) (fun cdv A outer s H vs Q E hr h => ?_)
  · obtain ⟨v_board, v_plan, v_bars, board, plan, bars, rfl, r_board, r_plan, r_bars, hQ⟩ := h
    rfl
  · obtain ⟨v_board, v_plan, v_bars, board, plan, bars, rfl, r_board, r_plan, r_bars, hQ⟩ := h
    have tk : Takes (cxOf (L2.CX P w) P w K mg base N__law_led "_law_led" (defScope s__law_led) (He.ga K "_law_led") cdv A outer s H E) (fun cls d _ H => E cls d H) := takes_of rfl rfl rfl rfl
    refine ⟨_, (by exact (pss_cons (ps_set (i := 3) sc__law_led.nd rfl (Or.inl rfl) (pe_callTy call_list_of rfl T.f_list (by decide +kernel) (pa_cons (pv 0) pa_nil)))
          (pss_cons (ps_if (pt_not (pt_val (pe_callB call_isi rfl T.f_isinstance (by decide +kernel) (pa_cons (pv 1) (pa_cons (pe_bltn (v := .ty "list") rfl T.f_list (by rfl) rfl) pa_nil))))) (pss_one (ps_ret pe_non)) pss_nil)
          (pss_cons (ps_for (passes_of rfl) rfl (pi_list (pv 1)) (pg_name (i := 4) sc__law_led.nd rfl (Or.inl rfl)) (pss_cons (ps_if (PW.pt (pw_or (pt_not (pt_val (pe_callB call_isi rfl T.f_isinstance (by decide +kernel) (pa_cons (pv 4) (pa_cons (pe_bltn (v := .ty "tuple") rfl T.f_tuple (by rfl) rfl) pa_nil))))) (pw_or (pt_cmpR op_ne (pe_callB call_len_seq rfl T.f_len PySem.boot_len (pa_cons (pv 4) pa_nil)) pe_int (nomark _)) (pw_or (pt_cmpR op_ne (pe_ix ix_tup (pv 4) pe_int (fun _ _ => rfl)) pe_str (nomark _)) (pw_or1 (pt_val (pe_callB call_isi rfl T.f_isinstance (by decide +kernel) (pa_cons (pe_ix ix_tup (pv 4) pe_int (fun _ _ => rfl)) (pa_cons (pe_bltn (v := .ty "bool") rfl T.f_bool (by rfl) rfl) pa_nil))))))))) (pss_one (ps_ret pe_non)) pss_nil)
          (pss_cons (ps_if (PW.pt (pw_or (pt_not (pt_val (pe_callB call_isi rfl T.f_isinstance (by decide +kernel) (pa_cons (pe_ix ix_tup (pv 4) pe_int (fun _ _ => rfl)) (pa_cons (pe_bltn (v := .ty "int") rfl T.f_int (by rfl) rfl) pa_nil))))) (pw_or (pt_not (pt_chain op_le op_lt pe_int (pe_ix ix_tup (pv 4) pe_int (fun _ _ => rfl)) (pe_callB call_len_seq rfl T.f_len PySem.boot_len (pa_cons (pv 3) pa_nil)))) (pw_or (pt_cmpR op_in_seq (pe_ix ix_tup (pv 4) pe_int (fun _ _ => rfl)) (pv 2) (by rfl)) (pw_or1 (pt_cmpR op_eq (pe_ix ix_list (pv 3) (pe_ix ix_tup (pv 4) pe_int (fun _ _ => rfl)) (fun _ _ => rfl)) pe_int (nomark _))))))) (pss_one (ps_ret pe_non)) pss_nil)
          (pss_one (ps_set (i := 3) sc__law_led.nd rfl (Or.inl rfl) (pe_ix ix_tup (pe_callS G__law_sown (hr.mono (by decide)) rfl T.g__law_sown kp__law_sown b__law_sown (fun σ => passAt tk σ) (pa_cons (pv 3) (pa_cons (pe_ix ix_tup (pv 4) pe_int (fun _ _ => rfl)) pa_nil))) pe_int (fun _ _ => rfl)))))))
          (pss_one (ps_ret (pv 3))))))), ?_⟩
    unfold m__law_led at hQ
    first | with_reducible refine st_n ?_ | skip
    refine st_seq ?_
    refine s_asgN ?_ (Same.refl _) (Same.refl _) hQ ?_
    · exact (g_listI (g_var (a := board) (Rp.mono (Same.refl _) r_board) (Same.refl _)))
    intro here v5 F2 H3 nx1 e04 r6 hQ
    replace r_board := Rp.mono nx1.ff r_board
    replace r_plan := Rp.mono nx1.ff r_plan
    replace r_bars := Rp.mono nx1.ff r_bars
    have hF7 := nx1.fh
    first | with_reducible refine st_n ?_ | skip
    refine st_seq ?_
    refine s_if ?_ hF7 e04 hQ ?_ ?_
    · exact (t_not (t_B (F := H3) (g_isi (b := true) (g_var (a := plan) (Rp.mono hF7 r_plan) (Same.refl _)) (Same.refl _))))
    · intro F9 H10 nx8 e011 hQ
      replace hQ := if_t hQ
      replace r_board := Rp.mono nx8.ff r_board
      replace r_plan := Rp.mono nx8.ff r_plan
      replace r_bars := Rp.mono nx8.ff r_bars
      replace r6 := Rp.mono (dif_mono nx8.ff) r6
      have hF12 := nx8.fh
      first | with_reducible refine st_n ?_ | skip
      refine s_ret ?_ e011 hQ (fun a h => h)
      exact g_non
    intro F9 H10 nx8 e011 hQ
    replace hQ := if_f hQ
    refine st_next ?_
    replace r_board := Rp.mono nx8.ff r_board
    replace r_plan := Rp.mono nx8.ff r_plan
    replace r_bars := Rp.mono nx8.ff r_bars
    replace r6 := Rp.mono (dif_mono nx8.ff) r6
    have hF13 := nx8.fh
    first | with_reducible refine st_n ?_ | skip
    refine st_seq ?_
    refine s_for ?_ hF13 e011 hQ ?_
    · exact (i_list (g_var (a := plan) r_plan hF13) hF13)
    intro xs18 J19 F15 H16 nx14 e017 ok20 hQ
    replace r_board := Rp.mono nx14.ff r_board
    replace r_plan := Rp.mono nx14.ff r_plan
    replace r_bars := Rp.mono nx14.ff r_bars
    replace r6 := Rp.mono (dif_mono nx14.ff) r6
    have hF22 := nx14.fh
    replace hQ := wp_bdi hQ
    refine for_Rd ok20 (fun (here : (List Int)) σ27 H26 => ∃ (F23 : Hp) (v28 : V) (j30 : Option V), σ27 = [some v_board, some v_plan, some v_bars, some v28, j30] ∧ Nx (fun _ => False) F15 H16 F23 H26 ∧ Same H H26 ∧ Rp.rep K (dif H F23) v28 here) ?hku69 ?h0u69 hQ ?doneu69 ?turnu69
    case hku69 =>
      intro here σ9 H26 hI
      obtain ⟨F23, v28, j30, rfl, nL24, e025, r29⟩ := hI
      exact nL24.ff.trans nL24.fh
    case h0u69 =>
      exact ⟨_, _, _, rfl, (Nx.refl' hF22), e017, r6⟩
    case turnu69 =>
      intro deed l34 here v35 σ9 H26 H36 hI e37 rx38 hd44 hQ
      obtain ⟨F23, v28, j30, rfl, nL24, e025, r29⟩ := hI
      have r_board := Rp.mono nL24.ff r_board
      have r_plan := Rp.mono nL24.ff r_plan
      have r_bars := Rp.mono nL24.ff r_bars
      have hF31 := nL24.fh
      have nA32 := nL24
      have nx39 : Nx0 F23 H26 (mix F23 H26 H36) H36 := Nx.mk' hF31 e37
      have e041 := e025.trans e37
      replace r_board := Rp.mono nx39.ff r_board
      replace r_plan := Rp.mono nx39.ff r_plan
      replace r_bars := Rp.mono nx39.ff r_bars
      replace r29 := Rp.mono (dif_mono nx39.ff) r29
      replace nA32 := nA32.step0 nx39
      have hF42 := nx39.fh
      refine gn ?_
      have r43 := (Rp.mono (mix_ff nL24.ff) rx38)
      first | with_reducible refine st_n ?_ | skip
      refine st_seq ?_
      refine s_if ?_ hF42 e041 hQ ?_ ?_
      · exact (t_orP (t_not (t_B (F := H36) (g_isi (b := true) (g_var (a := deed) (Rp.mono hF42 r43) (Same.refl _)) (Same.refl _)))) (t_orP (t_test (F := H36) (g_ne (g_len2 (g_var (a := deed) (Rp.mono hF42 r43) (Same.refl _)) (Same.refl _)) g_int)) (t_orP (t_test (F := H36) (g_ne (g_fst (g_var (a := deed) (Rp.mono hF42 r43) (Same.refl _)) (Same.refl _)) g_str)) (t_B (F := H36) (g_isi (b := false) (g_snd (g_var (a := deed) (Rp.mono hF42 r43) (Same.refl _)) (Same.refl _)) (Same.refl _))))))
      · intro F46 H47 nx45 e048 hQ
        replace hQ := if_t hQ
        replace r_board := Rp.mono nx45.ff r_board
        replace r_plan := Rp.mono nx45.ff r_plan
        replace r_bars := Rp.mono nx45.ff r_bars
        replace r29 := Rp.mono (dif_mono nx45.ff) r29
        replace r43 := Rp.mono nx45.ff r43
        replace nA32 := nA32.step0 nx45
        have hF49 := nx45.fh
        first | with_reducible refine st_n ?_ | skip
        refine s_ret ?_ e048 hQ (fun a h => h)
        exact g_non
      intro F46 H47 nx45 e048 hQ
      replace hQ := if_f hQ
      refine st_next ?_
      replace r_board := Rp.mono nx45.ff r_board
      replace r_plan := Rp.mono nx45.ff r_plan
      replace r_bars := Rp.mono nx45.ff r_bars
      replace r29 := Rp.mono (dif_mono nx45.ff) r29
      replace r43 := Rp.mono nx45.ff r43
      replace nA32 := nA32.step0 nx45
      have hF50 := nx45.fh
      first | with_reducible refine st_n ?_ | skip
      refine st_seq ?_
      refine s_if ?_ hF50 e048 hQ ?_ ?_
      · exact (t_or (t_not (t_B (F := H47) (g_isi (b := true) (g_snd (g_var (a := deed) (Rp.mono hF50 r43) (Same.refl _)) (Same.refl _)) (Same.refl _)))) (t_or (t_not (t_test (F := H47) (g_chain g_int (g_snd (g_var (a := deed) (Rp.mono hF50 r43) (Same.refl _)) (Same.refl _)) (g_len (g_var (a := here) (Rp.mono (dif_le.trans hF50) r29) (Same.refl _)) (Same.refl _))))) (t_or (t_test (F := H47) (g_in (neg := false) (g_snd (g_var (a := deed) (Rp.mono hF50 r43) (Same.refl _)) (Same.refl _)) (g_var (a := bars) (Rp.mono hF50 r_bars) (Same.refl _)) (Same.refl _) eqV_int)) (t_test (F := H47) (g_eq (g_idx (g_var (a := here) (Rp.mono (dif_le.trans hF50) r29) (Same.refl _)) (g_snd (g_var (a := deed) (Rp.mono hF50 r43) (Same.refl _)) (Same.refl _)) (Same.refl _)) g_int)))))
      · intro F53 H54 nx52 e055 hQ
        replace hQ := if_t hQ
        replace r_board := Rp.mono nx52.ff r_board
        replace r_plan := Rp.mono nx52.ff r_plan
        replace r_bars := Rp.mono nx52.ff r_bars
        replace r29 := Rp.mono (dif_mono nx52.ff) r29
        replace r43 := Rp.mono nx52.ff r43
        replace nA32 := nA32.step0 nx52
        have hF56 := nx52.fh
        first | with_reducible refine st_n ?_ | skip
        refine s_ret ?_ e055 hQ (fun a h => h)
        exact g_non
      intro F53 H54 nx52 e055 hQ
      replace hQ := if_f hQ
      refine st_next ?_
      replace r_board := Rp.mono nx52.ff r_board
      replace r_plan := Rp.mono nx52.ff r_plan
      replace r_bars := Rp.mono nx52.ff r_bars
      replace r29 := Rp.mono (dif_mono nx52.ff) r29
      replace r43 := Rp.mono nx52.ff r43
      replace nA32 := nA32.step0 nx52
      have hF57 := nx52.fh
      first | with_reducible refine st_n ?_ | skip
      refine s_asgN ?_ hF57 e055 hQ ?_
      · exact (g_fst (g_call2 (ma := .ok here) (mb := .ok deed.2) (g_var (a := here) (Rp.mono (dif_le.trans hF57) r29) (Same.refl _)) (g_snd (g_var (a := deed) (Rp.mono hF57 r43) (Same.refl _)) (Same.refl _))) (dif_le.trans hF57))
      intro here v63 F59 H60 nx58 e061 r64 hQ
      replace r_board := Rp.mono nx58.ff r_board
      replace r_plan := Rp.mono nx58.ff r_plan
      replace r_bars := Rp.mono nx58.ff r_bars
      replace r43 := Rp.mono nx58.ff r43
      replace nA32 := nA32.step0 nx58
      have hF65 := nx58.fh
      exact ⟨here, ⟨_, _, _, rfl, nA32, e061, r64⟩, hQ⟩
    case doneu69 =>
      intro here σ9 H26 hI hQ
      replace hQ := flk_go hQ
      obtain ⟨F23, v28, j30, rfl, nL24, e025, r29⟩ := hI
      have r_board := Rp.mono nL24.ff r_board
      have r_plan := Rp.mono nL24.ff r_plan
      have r_bars := Rp.mono nL24.ff r_bars
      have hF31 := nL24.fh
      first | with_reducible refine st_n ?_ | skip
      refine s_ret ?_ e025 hQ (fun a h => h)
      exact (g_some (g_var (a := here) (Rp.mono (dif_mono hF31) r29) dif_le))

abbrev N__law_shut : List Str := ["boards", "board", "other", "bars", "met", "one", "pair", "k"]
theorem sc__law_shut : FnScope N__law_shut ["boards", "board", "other", "bars"] (defScope s__law_shut) := ⟨rfl, rfl, rfl, by decide +kernel, rfl, by decide +kernel, by decide +kernel⟩
theorem ok__law_shut (T : Hd K mg) : ∃ fd, PySem.W.keepIn K (.ref (He.ga K "_law_shut")) = true ∧ Binds K fd ["boards", "board", "other", "bars"] [] ∧ FnOk P w K mg base (L2.CX P w) 3 (He.ga K "_law_shut") fd ["boards", "board", "other", "bars"] (sp4 K m__law_shut) := by
  obtain ⟨fd, F⟩ := T.d__law_shut
  obtain ⟨fd__law_behind, kp__law_behind, b__law_behind, G__law_behind⟩ := ok__law_behind (P := P) (w := w) (base := base) T
  refine ⟨fd, F.kp, F.bindsN fun _ _ _ _ _ _ us hl => match us, hl with | [_, _, _, _], _ => rfl, ?_⟩
  refine F.ok sc__law_shut (fun vs H Q E h => ?_) (fun cdv A outer s H vs Q E hr h => ?_)
  · obtain ⟨v_boards, v_board, v_other, v_bars, boards, board, other, bars, rfl, r_boards, r_board, r_other, r_bars, hQ⟩ := h
    rfl
  · obtain ⟨v_boards, v_board, v_other, v_bars, boards, board, other, bars, rfl, r_boards, r_board, r_other, r_bars, hQ⟩ := h
    have tk : Takes (cxOf (L2.CX P w) P w K mg base N__law_shut "_law_shut" (defScope s__law_shut) (He.ga K "_law_shut") cdv A outer s H E) (fun cls d _ H => E cls d H) := takes_of rfl rfl rfl rfl
    refine ⟨_, (by exact (pss_cons (ps_if (PW.pt (pw_or (pt_not (pt_val (pe_callB call_isi rfl T.f_isinstance (by decide +kernel) (pa_cons (pv 0) (pa_cons (pe_bltn (v := .ty "list") rfl T.f_list (by rfl) rfl) pa_nil))))) (pw_or (pt_cmpR (op_notInP hr.units) (pv 1) (pv 0) (by rfl)) (pw_or1 (pt_cmpR (op_inP hr.units) (pv 2) (pv 0) (by rfl)))))) (pss_one (ps_ret pe_bl)) pss_nil)
          (pss_cons (ps_set (i := 4) sc__law_shut.nd rfl (Or.inl rfl) pe_dnewT)
          (pss_cons (ps_for (passes_of rfl) rfl (pi_list (pv 0)) (pg_name (i := 5) sc__law_shut.nd rfl (Or.inl rfl)) (pss_cons (ps_if (PW.pt (pw_or (pt_not (pt_val (pe_callB call_isi rfl T.f_isinstance (by decide +kernel) (pa_cons (pv 5) (pa_cons (pe_bltn (v := .ty "list") rfl T.f_list (by rfl) rfl) pa_nil))))) (pw_or (pt_cmpR op_ne (pe_callB call_len_seq rfl T.f_len PySem.boot_len (pa_cons (pv 5) pa_nil)) (pe_callB call_len_seq rfl T.f_len PySem.boot_len (pa_cons (pv 1) pa_nil)) (nomark _)) (pw_or (pt_cmpR op_ne (pe_callB (cr_sum rfl) rfl T.f_sum (by decide +kernel) (pa_cons (pv 5) pa_nil)) (pe_callB (cr_sum rfl) rfl T.f_sum (by decide +kernel) (pa_cons (pv 1) pa_nil)) (nomark _)) (pw_or1 (pt_cmpR op_lt (pe_callB (cr_min rfl) rfl T.f_min (by decide +kernel) (pa_cons (pv 5) pa_nil)) pe_int (nomark _))))))) (pss_one (ps_ret pe_bl)) pss_nil)
          (pss_one (ps_dput (u1 hr) (pv 4) (pe_callTy call_tuple_of rfl T.f_tuple (by decide +kernel) (pa_cons (pv 5) pa_nil)) pe_bl rfl))))
          (pss_cons (ps_for (passes_of rfl) rfl (pi_list (pv 0)) (pg_name (i := 5) sc__law_shut.nd rfl (Or.inl rfl)) (pss_one (ps_for (passes_of rfl) rfl (pi_list (pe_callS G__law_behind (hr.mono (by decide)) rfl T.g__law_behind kp__law_behind b__law_behind (fun σ => passAt tk σ) (pa_cons (pv 5) (pa_cons (pv 3) pa_nil)))) (pg_name (i := 6) sc__law_shut.nd rfl (Or.inl rfl)) (pss_one (ps_if (pt_cmp (pc_dnotin (u1 hr) (pe_callTy call_tuple_of rfl T.f_tuple (by decide +kernel) (pa_cons (pe_ix ix_tup (pv 6) pe_int (fun _ _ => rfl)) pa_nil)) (pv 4))) (pss_one (ps_ret pe_bl)) pss_nil)))))
          (pss_cons (ps_for (passes_of rfl) rfl (pi_range1 rfl T.f_range (pa_cons (pe_op op_sub (pe_callB call_len_seq rfl T.f_len PySem.boot_len (pa_cons (pv 0) pa_nil)) pe_int) pa_nil)) (pg_name (i := 7) sc__law_shut.nd rfl (Or.inl rfl)) (pss_one (ps_if (pt_not (pt_cmpR (op_ltP hr.units) (pe_ix ix_list (pv 0) (pv 7) (fun _ _ => rfl)) (pe_ix ix_list (pv 0) (pe_op op_add (pv 7) pe_int) (fun _ _ => rfl)) (nomark _))) (pss_one (ps_ret pe_bl)) pss_nil)))
          (pss_one (ps_ret pe_bl)))))))), ?_⟩
    unfold m__law_shut at hQ
    first | with_reducible refine st_n ?_ | skip
    refine st_seq ?_
    refine s_if ?_ (Same.refl _) (Same.refl _) hQ ?_ ?_
    · exact (t_orP (t_not (t_B (F := H) (g_isi (b := true) (g_var (a := boards) (Rp.mono (Same.refl _) r_boards) (Same.refl _)) (Same.refl _)))) (t_orP (t_test (F := H) (g_inD (neg := true) (g_var (a := board) (Rp.mono (Same.refl _) r_board) (Same.refl _)) (g_var (a := boards) (Rp.mono (Same.refl _) r_boards) (Same.refl _)) (Same.refl _))) (t_test (F := H) (g_inD (neg := false) (g_var (a := other) (Rp.mono (Same.refl _) r_other) (Same.refl _)) (g_var (a := boards) (Rp.mono (Same.refl _) r_boards) (Same.refl _)) (Same.refl _)))))
    · intro F2 H3 nx1 e04 hQ
      replace hQ := if_t hQ
      replace r_boards := Rp.mono nx1.ff r_boards
      replace r_board := Rp.mono nx1.ff r_board
      replace r_other := Rp.mono nx1.ff r_other
      replace r_bars := Rp.mono nx1.ff r_bars
      have hF5 := nx1.fh
      first | with_reducible refine st_n ?_ | skip
      refine s_ret ?_ e04 hQ (fun a h => h)
      exact (g_sc (F' := H3) g_bl)
    intro F2 H3 nx1 e04 hQ
    replace hQ := if_f hQ
    refine st_next ?_
    replace r_boards := Rp.mono nx1.ff r_boards
    replace r_board := Rp.mono nx1.ff r_board
    replace r_other := Rp.mono nx1.ff r_other
    replace r_bars := Rp.mono nx1.ff r_bars
    have hF6 := nx1.fh
    first | with_reducible refine st_n ?_ | skip
    refine st_seq ?_
    refine s_asgD (b := false) ?_ hF6 e04 hQ ?_
    · exact g_dnew
    intro met p12 F8 H9 nx7 e010 o11 nw13 hQ
    replace r_boards := Rp.mono nx7.ff r_boards
    replace r_board := Rp.mono nx7.ff r_board
    replace r_other := Rp.mono nx7.ff r_other
    replace r_bars := Rp.mono nx7.ff r_bars
    have hF14 := nx7.fh
    first | with_reducible refine st_n ?_ | skip
    refine st_seq ?_
    refine s_for ?_ hF14 e010 hQ ?_
    · exact (i_list (g_var (a := boards) r_boards hF14) hF14)
    intro xs19 J20 F16 H17 nx15 e018 ok21 hQ
    replace r_boards := Rp.mono nx15.ff r_boards
    replace r_board := Rp.mono nx15.ff r_board
    replace r_other := Rp.mono nx15.ff r_other
    replace r_bars := Rp.mono nx15.ff r_bars
    replace o11 := o11.nx0 nx15
    have hF23 := nx15.fh
    replace hQ := wp_bdi hQ
    refine for_Rd ok21 (fun (met : (Dct Bool)) σ28 H27 => ∃ (F24 : Hp) (j30 : Option V), σ28 = [some v_boards, some v_board, some v_other, some v_bars, some (.ref p12), j30, none, none] ∧ Nx (fun q => q = p12 ∨ False) F16 H17 F24 H27 ∧ Same H H27 ∧ Own K H false F24 H27 p12 met) ?hku169 ?h0u169 hQ ?doneu169 ?turnu169
    case hku169 =>
      intro met σ9 H27 hI
      obtain ⟨F24, j30, rfl, nL25, e026, o29⟩ := hI
      exact nL25.ff.trans nL25.fh
    case h0u169 =>
      exact ⟨_, _, rfl, (Nx.refl' hF23), e018, o11⟩
    case turnu169 =>
      intro one l34 met v35 σ9 H27 H36 hI e37 rx38 hd44 hQ
      obtain ⟨F24, j30, rfl, nL25, e026, o29⟩ := hI
      have r_boards := Rp.mono nL25.ff r_boards
      have r_board := Rp.mono nL25.ff r_board
      have r_other := Rp.mono nL25.ff r_other
      have r_bars := Rp.mono nL25.ff r_bars
      have hF31 := nL25.fh
      have nA32 := nL25
      have nx39 : Nx0 F24 H27 (mix F24 H27 H36) H36 := Nx.mk' hF31 e37
      have e041 := e026.trans e37
      replace r_boards := Rp.mono nx39.ff r_boards
      replace r_board := Rp.mono nx39.ff r_board
      replace r_other := Rp.mono nx39.ff r_other
      replace r_bars := Rp.mono nx39.ff r_bars
      replace o29 := o29.nx0 nx39
      replace nA32 := nA32.step0 nx39
      have hF42 := nx39.fh
      refine gn ?_
      have r43 := (Rp.mono (mix_ff nL25.ff) rx38)
      first | with_reducible refine st_n ?_ | skip
      refine st_seq ?_
      refine s_if ?_ hF42 e041 hQ ?_ ?_
      · exact (t_or (t_not (t_B (F := H36) (g_isi (b := true) (g_var (a := one) (Rp.mono hF42 r43) (Same.refl _)) (Same.refl _)))) (t_or (t_test (F := H36) (g_ne (g_len (g_var (a := one) (Rp.mono hF42 r43) (Same.refl _)) (Same.refl _)) (g_len (g_var (a := board) (Rp.mono hF42 r_board) (Same.refl _)) (Same.refl _)))) (t_or (t_test (F := H36) (g_ne (g_sum (g_var (a := one) (Rp.mono hF42 r43) (Same.refl _)) (Same.refl _)) (g_sum (g_var (a := board) (Rp.mono hF42 r_board) (Same.refl _)) (Same.refl _)))) (t_test (F := H36) (g_b0 (g_min (g_var (a := one) (Rp.mono hF42 r43) (Same.refl _)) (Same.refl _)) g_int)))))
      · intro F47 H48 nx46 e049 hQ
        replace hQ := if_t hQ
        replace r_boards := Rp.mono nx46.ff r_boards
        replace r_board := Rp.mono nx46.ff r_board
        replace r_other := Rp.mono nx46.ff r_other
        replace r_bars := Rp.mono nx46.ff r_bars
        replace o29 := o29.nx0 nx46
        replace r43 := Rp.mono nx46.ff r43
        replace nA32 := nA32.step0 nx46
        have hF50 := nx46.fh
        first | with_reducible refine st_n ?_ | skip
        refine s_ret ?_ e049 hQ (fun a h => h)
        exact (g_sc (F' := H48) g_bl)
      intro F47 H48 nx46 e049 hQ
      replace hQ := if_f hQ
      refine st_next ?_
      replace r_boards := Rp.mono nx46.ff r_boards
      replace r_board := Rp.mono nx46.ff r_board
      replace r_other := Rp.mono nx46.ff r_other
      replace r_bars := Rp.mono nx46.ff r_bars
      replace o29 := o29.nx0 nx46
      replace r43 := Rp.mono nx46.ff r43
      replace nA32 := nA32.step0 nx46
      have hF51 := nx46.fh
      first | with_reducible refine st_n ?_ | skip
      refine s_dput (m := .ok true) (mk := .ok (Tu.mk one)) ?ha o29 ?he ?hi hF51 e049 hQ ?_
      case ha => exact at_var rfl
      case he => exact (g_sc (F' := H48) g_bl)
      case hi => exact (g_tupleI (g_var (a := one) (Rp.mono hF51 r43) (Same.refl _)))
      intro met F53 H54 nx52 e055 o2 hQ
      replace r_boards := Rp.mono nx52.ff r_boards
      replace r_board := Rp.mono nx52.ff r_board
      replace r_other := Rp.mono nx52.ff r_other
      replace r_bars := Rp.mono nx52.ff r_bars
      replace r43 := Rp.mono nx52.ff r43
      replace nA32 := nA32.step nx52 (fun q z => .inl (.inl z))
      have hF56 := nx52.fh
      replace o29 := o2
      exact ⟨met, ⟨_, _, rfl, nA32, e055, o29⟩, hQ⟩
    case doneu169 =>
      intro met σ9 H27 hI hQ
      replace hQ := flk_go hQ
      obtain ⟨F24, j30, rfl, nL25, e026, o29⟩ := hI
      have r_boards := Rp.mono nL25.ff r_boards
      have r_board := Rp.mono nL25.ff r_board
      have r_other := Rp.mono nL25.ff r_other
      have r_bars := Rp.mono nL25.ff r_bars
      have hF31 := nL25.fh
      first | with_reducible refine st_n ?_ | skip
      refine st_seq ?_
      refine s_for ?_ hF31 e026 hQ ?_
      · exact (i_list (g_var (a := boards) r_boards hF31) hF31)
      intro xs62 J63 F59 H60 nx58 e061 ok64 hQ
      replace r_boards := Rp.mono nx58.ff r_boards
      replace r_board := Rp.mono nx58.ff r_board
      replace r_other := Rp.mono nx58.ff r_other
      replace r_bars := Rp.mono nx58.ff r_bars
      replace o29 := o29.nx0 nx58
      have hF66 := nx58.fh
      replace hQ := wp_bdi hQ
      refine for_Rd ok64 (fun (_ : Unit) σ71 H70 => ∃ (F67 : Hp) (j72 : Option V) (j73 : Option V), σ71 = [some v_boards, some v_board, some v_other, some v_bars, some (.ref p12), j73, j72, none] ∧ Nx (fun _ => False) F59 H60 F67 H70 ∧ Same H H70) ?hku167 ?h0u167 hQ ?doneu167 ?turnu167
      case hku167 =>
        intro st σ9 H70 hI
        obtain ⟨F67, j72, j73, rfl, nL68, e069⟩ := hI
        exact nL68.ff.trans nL68.fh
      case h0u167 =>
        exact ⟨_, _, _, rfl, (Nx.refl' hF66), e061⟩
      case turnu167 =>
        intro one l77 st v78 σ9 H70 H79 hI e80 rx81 hd87 hQ
        obtain ⟨F67, j72, j73, rfl, nL68, e069⟩ := hI
        have r_boards := Rp.mono nL68.ff r_boards
        have r_board := Rp.mono nL68.ff r_board
        have r_other := Rp.mono nL68.ff r_other
        have r_bars := Rp.mono nL68.ff r_bars
        have o29 := o29.nx nL68 (fun z => z)
        have hF74 := nL68.fh
        have nA75 := nL68
        have nx82 : Nx0 F67 H70 (mix F67 H70 H79) H79 := Nx.mk' hF74 e80
        have e084 := e069.trans e80
        replace r_boards := Rp.mono nx82.ff r_boards
        replace r_board := Rp.mono nx82.ff r_board
        replace r_other := Rp.mono nx82.ff r_other
        replace r_bars := Rp.mono nx82.ff r_bars
        replace o29 := o29.nx0 nx82
        replace nA75 := nA75.step0 nx82
        have hF85 := nx82.fh
        refine gn ?_
        have r86 := (Rp.mono (mix_ff nL68.ff) rx81)
        first | with_reducible refine st_n ?_ | skip
        refine s_for ?_ hF85 e084 hQ ?_
        · exact (i_list (g_call2 (ma := .ok one) (mb := .ok bars) (g_var (a := one) (Rp.mono hF85 r86) (Same.refl _)) (g_var (a := bars) (Rp.mono hF85 r_bars) (Same.refl _))) hF85)
        intro xs92 J93 F89 H90 nx88 e091 ok94 hQ
        replace r_boards := Rp.mono nx88.ff r_boards
        replace r_board := Rp.mono nx88.ff r_board
        replace r_other := Rp.mono nx88.ff r_other
        replace r_bars := Rp.mono nx88.ff r_bars
        replace o29 := o29.nx0 nx88
        replace r86 := Rp.mono nx88.ff r86
        replace nA75 := nA75.step0 nx88
        have hF96 := nx88.fh
        replace hQ := wp_bdi hQ
        refine for_Rd ok94 (fun (_ : Unit) σ101 H100 => ∃ (F97 : Hp) (j102 : Option V), σ101 = [some v_boards, some v_board, some v_other, some v_bars, some (.ref p12), some v78, j102, none] ∧ Nx (fun _ => False) F89 H90 F97 H100 ∧ Same H H100) ?hku125 ?h0u125 hQ ?doneu125 ?turnu125
        case hku125 =>
          intro st σ9 H100 hI
          obtain ⟨F97, j102, rfl, nL98, e099⟩ := hI
          exact nL98.ff.trans nL98.fh
        case h0u125 =>
          exact ⟨_, _, rfl, (Nx.refl' hF96), e091⟩
        case turnu125 =>
          intro pair l106 st v107 σ9 H100 H108 hI e109 rx110 hd116 hQ
          obtain ⟨F97, j102, rfl, nL98, e099⟩ := hI
          have r_boards := Rp.mono nL98.ff r_boards
          have r_board := Rp.mono nL98.ff r_board
          have r_other := Rp.mono nL98.ff r_other
          have r_bars := Rp.mono nL98.ff r_bars
          have o29 := o29.nx nL98 (fun z => z)
          have r86 := Rp.mono nL98.ff r86
          have hF103 := nL98.fh
          have nA75 := nA75.step0 nL98
          have nA104 := nL98
          have nx111 : Nx0 F97 H100 (mix F97 H100 H108) H108 := Nx.mk' hF103 e109
          have e0113 := e099.trans e109
          replace r_boards := Rp.mono nx111.ff r_boards
          replace r_board := Rp.mono nx111.ff r_board
          replace r_other := Rp.mono nx111.ff r_other
          replace r_bars := Rp.mono nx111.ff r_bars
          replace o29 := o29.nx0 nx111
          replace r86 := Rp.mono nx111.ff r86
          replace nA75 := nA75.step0 nx111
          replace nA104 := nA104.step0 nx111
          have hF114 := nx111.fh
          refine gn ?_
          have r115 := (Rp.mono (mix_ff nL98.ff) rx110)
          first | with_reducible refine st_n ?_ | skip
          refine s_if ?_ hF114 e0113 hQ ?_ ?_
          · exact (t_B (F := H108) (g_dnotin (g_tupleI (g_snd (g_var (a := pair) (Rp.mono hF114 r115) (Same.refl _)) (Same.refl _))) (g_var (a := met) (o29.rep hF114) (Same.refl _))))
          · intro F118 H119 nx117 e0120 hQ
            replace hQ := if_t hQ
            replace r_boards := Rp.mono nx117.ff r_boards
            replace r_board := Rp.mono nx117.ff r_board
            replace r_other := Rp.mono nx117.ff r_other
            replace r_bars := Rp.mono nx117.ff r_bars
            replace o29 := o29.nx0 nx117
            replace r86 := Rp.mono nx117.ff r86
            replace r115 := Rp.mono nx117.ff r115
            replace nA75 := nA75.step0 nx117
            replace nA104 := nA104.step0 nx117
            have hF121 := nx117.fh
            first | with_reducible refine st_n ?_ | skip
            refine s_ret ?_ e0120 hQ (fun a h => h)
            exact (g_sc (F' := H119) g_bl)
          intro F118 H119 nx117 e0120 hQ
          replace hQ := if_f hQ
          refine st_next ?_
          replace r_boards := Rp.mono nx117.ff r_boards
          replace r_board := Rp.mono nx117.ff r_board
          replace r_other := Rp.mono nx117.ff r_other
          replace r_bars := Rp.mono nx117.ff r_bars
          replace o29 := o29.nx0 nx117
          replace r86 := Rp.mono nx117.ff r86
          replace r115 := Rp.mono nx117.ff r115
          replace nA75 := nA75.step0 nx117
          replace nA104 := nA104.step0 nx117
          have hF122 := nx117.fh
          exact ⟨(), ⟨_, _, rfl, nA104, e0120⟩, hQ⟩
        case doneu125 =>
          intro st σ9 H100 hI hQ
          replace hQ := flk_go hQ
          obtain ⟨F97, j102, rfl, nL98, e099⟩ := hI
          have r_boards := Rp.mono nL98.ff r_boards
          have r_board := Rp.mono nL98.ff r_board
          have r_other := Rp.mono nL98.ff r_other
          have r_bars := Rp.mono nL98.ff r_bars
          have o29 := o29.nx nL98 (fun z => z)
          have r86 := Rp.mono nL98.ff r86
          have hF103 := nL98.fh
          have nA75 := nA75.step0 nL98
          exact ⟨(), ⟨_, _, _, rfl, nA75, e099⟩, hQ⟩
      case doneu167 =>
        intro st σ9 H70 hI hQ
        replace hQ := flk_go hQ
        obtain ⟨F67, j72, j73, rfl, nL68, e069⟩ := hI
        have r_boards := Rp.mono nL68.ff r_boards
        have r_board := Rp.mono nL68.ff r_board
        have r_other := Rp.mono nL68.ff r_other
        have r_bars := Rp.mono nL68.ff r_bars
        have o29 := o29.nx nL68 (fun z => z)
        have hF74 := nL68.fh
        first | with_reducible refine st_n ?_ | skip
        refine st_seq ?_
        refine s_for ?_ hF74 e069 hQ ?_
        · exact (i_rng1 (g_sc (F' := H70) (g_i0 (g_len (g_var (a := boards) (Rp.mono hF74 r_boards) (Same.refl _)) (Same.refl _)) g_int)))
        intro xs130 J131 F127 H128 nx126 e0129 ok132 hQ
        replace r_boards := Rp.mono nx126.ff r_boards
        replace r_board := Rp.mono nx126.ff r_board
        replace r_other := Rp.mono nx126.ff r_other
        replace r_bars := Rp.mono nx126.ff r_bars
        replace o29 := o29.nx0 nx126
        have hF134 := nx126.fh
        replace hQ := wp_bdi hQ
        refine for_Rd ok132 (fun (_ : Unit) σ139 H138 => ∃ (F135 : Hp) (j140 : Option V), σ139 = [some v_boards, some v_board, some v_other, some v_bars, some (.ref p12), j73, j72, j140] ∧ Nx (fun _ => False) F127 H128 F135 H138 ∧ Same H H138) ?hku165 ?h0u165 hQ ?doneu165 ?turnu165
        case hku165 =>
          intro st σ9 H138 hI
          obtain ⟨F135, j140, rfl, nL136, e0137⟩ := hI
          exact nL136.ff.trans nL136.fh
        case h0u165 =>
          exact ⟨_, _, rfl, (Nx.refl' hF134), e0129⟩
        case turnu165 =>
          intro k l144 st v145 σ9 H138 H146 hI e147 rx148 hd153 hQ
          obtain ⟨F135, j140, rfl, nL136, e0137⟩ := hI
          have r_boards := Rp.mono nL136.ff r_boards
          have r_board := Rp.mono nL136.ff r_board
          have r_other := Rp.mono nL136.ff r_other
          have r_bars := Rp.mono nL136.ff r_bars
          have o29 := o29.nx nL136 (fun z => z)
          have hF141 := nL136.fh
          have nA142 := nL136
          have nx149 : Nx0 F135 H138 (mix F135 H138 H146) H146 := Nx.mk' hF141 e147
          have e0151 := e0137.trans e147
          replace r_boards := Rp.mono nx149.ff r_boards
          replace r_board := Rp.mono nx149.ff r_board
          replace r_other := Rp.mono nx149.ff r_other
          replace r_bars := Rp.mono nx149.ff r_bars
          replace o29 := o29.nx0 nx149
          replace nA142 := nA142.step0 nx149
          have hF152 := nx149.fh
          refine gn ?_
          obtain rfl : v145 = V.int k := rx148
          first | with_reducible refine st_n ?_ | skip
          refine s_if ?_ hF152 e0151 hQ ?_ ?_
          · exact (t_not (t_test (F := H146) (g_ltP (g_idx (g_var (a := boards) (Rp.mono hF152 r_boards) (Same.refl _)) (g_var (a := k) rfl (Same.refl _)) (Same.refl _)) (g_idx (g_var (a := boards) (Rp.mono hF152 r_boards) (Same.refl _)) (g_i0 (g_var (a := k) rfl (Same.refl _)) g_int) (Same.refl _)) (Same.refl _))))
          · intro F158 H159 nx157 e0160 hQ
            replace hQ := if_t hQ
            replace r_boards := Rp.mono nx157.ff r_boards
            replace r_board := Rp.mono nx157.ff r_board
            replace r_other := Rp.mono nx157.ff r_other
            replace r_bars := Rp.mono nx157.ff r_bars
            replace o29 := o29.nx0 nx157
            replace nA142 := nA142.step0 nx157
            have hF161 := nx157.fh
            first | with_reducible refine st_n ?_ | skip
            refine s_ret ?_ e0160 hQ (fun a h => h)
            exact (g_sc (F' := H159) g_bl)
          intro F158 H159 nx157 e0160 hQ
          replace hQ := if_f hQ
          refine st_next ?_
          replace r_boards := Rp.mono nx157.ff r_boards
          replace r_board := Rp.mono nx157.ff r_board
          replace r_other := Rp.mono nx157.ff r_other
          replace r_bars := Rp.mono nx157.ff r_bars
          replace o29 := o29.nx0 nx157
          replace nA142 := nA142.step0 nx157
          have hF162 := nx157.fh
          exact ⟨(), ⟨_, _, rfl, nA142, e0160⟩, hQ⟩
        case doneu165 =>
          intro st σ9 H138 hI hQ
          replace hQ := flk_go hQ
          obtain ⟨F135, j140, rfl, nL136, e0137⟩ := hI
          have r_boards := Rp.mono nL136.ff r_boards
          have r_board := Rp.mono nL136.ff r_board
          have r_other := Rp.mono nL136.ff r_other
          have r_bars := Rp.mono nL136.ff r_bars
          have o29 := o29.nx nL136 (fun z => z)
          have hF141 := nL136.fh
          first | with_reducible refine st_n ?_ | skip
          refine s_ret ?_ e0137 hQ (fun a h => h)
          exact (g_sc (F' := H138) g_bl)

abbrev N__law_right : List Str := ["told", "board", "other", "bars"]
theorem sc__law_right : FnScope N__law_right ["told", "board", "other", "bars"] (defScope s__law_right) := ⟨rfl, rfl, rfl, by decide +kernel, rfl, by decide +kernel, by decide +kernel⟩
theorem ok__law_right (T : Hd K mg) : ∃ fd, PySem.W.keepIn K (.ref (He.ga K "_law_right")) = true ∧ Binds K fd ["told", "board", "other", "bars"] [] ∧ FnOk P w K mg base (L2.CX P w) 4 (He.ga K "_law_right") fd ["told", "board", "other", "bars"] (sp4 K m__law_right) := by
  obtain ⟨fd, F⟩ := T.d__law_right
  obtain ⟨fd__law_led, kp__law_led, b__law_led, G__law_led⟩ := ok__law_led (P := P) (w := w) (base := base) T
  obtain ⟨fd__law_shut, kp__law_shut, b__law_shut, G__law_shut⟩ := ok__law_shut (P := P) (w := w) (base := base) T
  refine ⟨fd, F.kp, F.bindsN fun _ _ _ _ _ _ us hl => match us, hl with | [_, _, _, _], _ => rfl, ?_⟩
  refine F.ok sc__law_right (fun vs H Q E h => ?_) (fun cdv A outer s H vs Q E hr h => ?_)
  · obtain ⟨v_told, v_board, v_other, v_bars, told, board, other, bars, rfl, r_told, r_board, r_other, r_bars, hQ⟩ := h
    rfl
  · obtain ⟨v_told, v_board, v_other, v_bars, told, board, other, bars, rfl, r_told, r_board, r_other, r_bars, hQ⟩ := h
    have tk : Takes (cxOf (L2.CX P w) P w K mg base N__law_right "_law_right" (defScope s__law_right) (He.ga K "_law_right") cdv A outer s H E) (fun cls d _ H => E cls d H) := takes_of rfl rfl rfl rfl
    refine ⟨_, (by exact (pss_cons (ps_if (PW.pt (pw_or (pt_not (pt_val (pe_callB call_isi rfl T.f_isinstance (by decide +kernel) (pa_cons (pv 0) (pa_cons (pe_bltn (v := .ty "tuple") rfl T.f_tuple (by rfl) rfl) pa_nil))))) (pw_or1 (pt_cmpR op_ne (pe_callB call_len_seq rfl T.f_len PySem.boot_len (pa_cons (pv 0) pa_nil)) pe_int (nomark _))))) (pss_one (ps_ret pe_bl)) pss_nil)
          (pss_cons (ps_if (pt_cmpR (op_eqP hr.units) (pe_ix ix_any (pv 0) pe_int (fun _ _ => rfl)) pe_str (nomark _)) (pss_one (ps_ret (pe_cmpR (op_eqP hr.units) (pe_callS G__law_led (hr.mono (by decide)) rfl T.g__law_led kp__law_led b__law_led (fun σ => passAt tk σ) (pa_cons (pv 1) (pa_cons (pe_ix ix_any (pv 0) pe_int (fun _ _ => rfl)) (pa_cons (pv 3) pa_nil)))) (pv 2) (nomark _)))) pss_nil)
          (pss_one (ps_ret (pe_and (pe_cmpR (op_eqP hr.units) (pe_ix ix_any (pv 0) pe_int (fun _ _ => rfl)) pe_str (nomark _)) (pe_one (pe_callS G__law_shut (hr.mono (by decide)) rfl T.g__law_shut kp__law_shut b__law_shut (fun σ => passAt tk σ) (pa_cons (pe_ix ix_any (pv 0) pe_int (fun _ _ => rfl)) (pa_cons (pv 1) (pa_cons (pv 2) (pa_cons (pv 3) pa_nil)))))))))))), ?_⟩
    unfold m__law_right at hQ
    first | with_reducible refine st_n ?_ | skip
    refine st_seq ?_
    refine s_if ?_ (Same.refl _) (Same.refl _) hQ ?_ ?_
    · exact (t_or (t_not (t_B (F := H) (g_isiDy (k := 4) (n := "tuple") (g_var (a := told) (Rp.mono (Same.refl _) r_told) (Same.refl _)) (Same.refl _)))) (t_test (F := H) (g_ne (g_lenDy (g_var (a := told) (Rp.mono (Same.refl _) r_told) (Same.refl _)) (Same.refl _)) g_int)))
    · intro F3 H4 nx2 e05 hQ
      replace hQ := if_t hQ
      replace r_told := Rp.mono nx2.ff r_told
      replace r_board := Rp.mono nx2.ff r_board
      replace r_other := Rp.mono nx2.ff r_other
      replace r_bars := Rp.mono nx2.ff r_bars
      have hF6 := nx2.fh
      first | with_reducible refine st_n ?_ | skip
      refine s_ret ?_ e05 hQ (fun a h => h)
      exact (g_sc (F' := H4) g_bl)
    intro F3 H4 nx2 e05 hQ
    replace hQ := if_f hQ
    refine st_next ?_
    replace r_told := Rp.mono nx2.ff r_told
    replace r_board := Rp.mono nx2.ff r_board
    replace r_other := Rp.mono nx2.ff r_other
    replace r_bars := Rp.mono nx2.ff r_bars
    have hF7 := nx2.fh
    first | with_reducible refine st_n ?_ | skip
    refine st_seq ?_
    refine s_if ?_ hF7 e05 hQ ?_ ?_
    · exact (t_test (F := H4) (g_eqDy (g_idxDy (g_var (a := told) (Rp.mono hF7 r_told) (Same.refl _)) g_int (Same.refl _)) (g_dy g_str) (Same.refl _)))
    · intro F10 H11 nx9 e012 hQ
      replace hQ := if_t hQ
      replace r_told := Rp.mono nx9.ff r_told
      replace r_board := Rp.mono nx9.ff r_board
      replace r_other := Rp.mono nx9.ff r_other
      replace r_bars := Rp.mono nx9.ff r_bars
      have hF13 := nx9.fh
      first | with_reducible refine st_n ?_ | skip
      refine s_ret ?_ e012 hQ (fun a h => h)
      exact (g_sc (F' := H11) (g_eqD (g_un (g_call3 (ma := .ok board) (mb := R.bd (dyIdx told (1 : Int)) fun (t15 : Dy) => (unD t15 : R (List (Str × Int)))) (mc := .ok bars) (g_var (a := board) (Rp.mono hF13 r_board) (Same.refl _)) (g_unD (g_idxDy (g_var (a := told) (Rp.mono hF13 r_told) (Same.refl _)) g_int (Same.refl _))) (g_var (a := bars) (Rp.mono hF13 r_bars) (Same.refl _)))) (g_var (a := other) (Rp.mono hF13 r_other) (Same.refl _)) (Same.refl _)))
    intro F10 H11 nx9 e012 hQ
    replace hQ := if_f hQ
    refine st_next ?_
    replace r_told := Rp.mono nx9.ff r_told
    replace r_board := Rp.mono nx9.ff r_board
    replace r_other := Rp.mono nx9.ff r_other
    replace r_bars := Rp.mono nx9.ff r_bars
    have hF14 := nx9.fh
    first | with_reducible refine st_n ?_ | skip
    refine s_ret ?_ e012 hQ (fun a h => h)
    exact (g_sc (F' := H11) (g_andV (g_eqDy (g_idxDy (g_var (a := told) (Rp.mono hF14 r_told) (Same.refl _)) g_int (Same.refl _)) (g_dy g_str) (Same.refl _)) (g_call4 (ma := R.bd (dyIdx told (1 : Int)) fun (t19 : Dy) => (unD t19 : R (List (List Int)))) (mb := .ok board) (mc := .ok other) (md := .ok bars) (g_unD (g_idxDy (g_var (a := told) (Rp.mono hF14 r_told) (Same.refl _)) g_int (Same.refl _))) (g_var (a := board) (Rp.mono hF14 r_board) (Same.refl _)) (g_var (a := other) (Rp.mono hF14 r_other) (Same.refl _)) (g_var (a := bars) (Rp.mono hF14 r_bars) (Same.refl _)))))

abbrev N_law : List Str := ["script", "pits", "seeds", "row", "board", "other", "bars", "k", "some", "handed", "told", "kept", "again", "one"]
theorem sc_law : FnScope N_law ["script"] (defScope s_law) := ⟨rfl, rfl, rfl, by decide +kernel, rfl, by decide +kernel, by decide +kernel⟩
theorem ok_law (T : Hd K mg) {fd : FuncData} (F : FunD K "law" "law" (defArgs s_law) (defBody s_law) (defScope s_law) [] [] (He.ga K "law") fd) : FnOk P w K mg base (L2.CX P w) 8 (He.ga K "law") fd ["script"] (sp1 K m_law) := by
  obtain ⟨fd__law_bars, kp__law_bars, b__law_bars, G__law_bars⟩ := ok__law_bars (P := P) (w := w) (base := base) T
  obtain ⟨fd__law_behind, kp__law_behind, b__law_behind, G__law_behind⟩ := ok__law_behind (P := P) (w := w) (base := base) T
  obtain ⟨fd__law_cell_at, kp__law_cell_at, b__law_cell_at, G__law_cell_at⟩ := ok__law_cell_at (P := P) (w := w) (base := base) T
  obtain ⟨fd__law_few, kp__law_few, b__law_few, G__law_few⟩ := ok__law_few (P := P) (w := w) (base := base) T
  obtain ⟨fd__law_laid, kp__law_laid, b__law_laid, G__law_laid⟩ := ok__law_laid (P := P) (w := w) (base := base) T
  obtain ⟨fd__law_right, kp__law_right, b__law_right, G__law_right⟩ := ok__law_right (P := P) (w := w) (base := base) T
  obtain ⟨fd__law_row, kp__law_row, b__law_row, G__law_row⟩ := ok__law_row (P := P) (w := w) (base := base) T
  obtain ⟨fd__law_stirred, kp__law_stirred, b__law_stirred, G__law_stirred⟩ := ok__law_stirred (P := P) (w := w) (base := base) T
  obtain ⟨fd_way_or_bar, kp_way_or_bar, b_way_or_bar, G_way_or_bar⟩ := ok_way_or_bar (P := P) (w := w) (base := base) T
  refine F.ok sc_law (fun vs H Q E h => ?_) (fun cdv A outer s H vs Q E hr h => ?_)
  · obtain ⟨v_script, script, rfl, r_script, hQ⟩ := h
    rfl
  · obtain ⟨v_script, script, rfl, r_script, hQ⟩ := h
    have tk : Takes (cxOf (L2.CX P w) P w K mg base N_law "law" (defScope s_law) (He.ga K "law") cdv A outer s H E) (fun cls d _ H => E cls d H) := takes_of rfl rfl rfl rfl
    refine ⟨_, (by exact (pss_cons (ps_asg (pe_callS G__law_few (hr.mono (by decide)) rfl T.g__law_few kp__law_few b__law_few (fun σ => passAt tk σ) (pa_cons (pv 0) pa_nil)) (pg_tup rfl (pgs_cons (pg_name (i := 1) sc_law.nd rfl (Or.inl rfl)) (pgs_cons (pg_name (i := 2) sc_law.nd rfl (Or.inl rfl)) pgs_nil))))
          (pss_cons (ps_set (i := 3) sc_law.nd rfl (Or.inl rfl) (pe_callS G__law_row (hr.mono (by decide)) rfl T.g__law_row kp__law_row b__law_row (fun σ => passAt tk σ) (pa_cons (pv 0) (pa_cons pe_int (pa_cons (pe_op op_mul pe_int (pv 2)) (pa_cons (pv 1) (pa_cons (pe_cmpR op_eq (pe_op op_mod (pe_op op_fdivW (pe_callS G__law_cell_at (hr.mono (by decide)) rfl T.g__law_cell_at kp__law_cell_at b__law_cell_at (fun σ => passAt tk σ) (pa_cons (pv 0) (pa_cons pe_int pa_nil))) pe_int) pe_int) pe_int (nomark _)) pa_nil)))))))
          (pss_cons (ps_set (i := 4) sc_law.nd rfl (Or.inl rfl) (pe_callS G__law_laid (hr.mono (by decide)) rfl T.g__law_laid kp__law_laid b__law_laid (fun σ => passAt tk σ) (pa_cons (pe_slice sl_list (pv 3) po_none (po_some (pv 2))) (pa_cons (pv 1) pa_nil))))
          (pss_cons (ps_set (i := 5) sc_law.nd rfl (Or.inl rfl) (pe_callS G__law_laid (hr.mono (by decide)) rfl T.g__law_laid kp__law_laid b__law_laid (fun σ => passAt tk σ) (pa_cons (pe_slice sl_list (pv 3) (po_some (pv 2)) po_none) (pa_cons (pv 1) pa_nil))))
          (pss_cons (ps_set (i := 6) sc_law.nd rfl (Or.inl rfl) (pe_callS G__law_bars (hr.mono (by decide)) rfl T.g__law_bars kp__law_bars b__law_bars (fun σ => passAt tk σ) (pa_cons (pv 0) (pa_cons (pv 1) pa_nil))))
          (Evl.pss_cut (ps_if (pt_cmpR op_eq (pe_op op_mod (pe_callS G__law_cell_at (hr.mono (by decide)) rfl T.g__law_cell_at kp__law_cell_at b__law_cell_at (fun σ => passAt tk σ) (pa_cons (pv 0) (pa_cons pe_int pa_nil))) pe_int) pe_int (nomark _)) (pss_cons (ps_set (i := 5) sc_law.nd rfl (Or.inl rfl) (pe_callTy call_list_of rfl T.f_list (by decide +kernel) (pa_cons (pv 4) pa_nil)))
          (pss_one (ps_for (passes_of rfl) rfl (pi_range2 rfl T.f_range (pa_cons pe_int (pa_cons (pe_callB call_len_seq rfl T.f_len PySem.boot_len (pa_cons (pv 0) pa_nil)) pa_nil))) (pg_name (i := 7) sc_law.nd rfl (Or.inl rfl)) (pss_cons (ps_set (i := 8) sc_law.nd rfl (Or.inl rfl) (pe_callS G__law_behind (hr.mono (by decide)) rfl T.g__law_behind kp__law_behind b__law_behind (fun σ => passAt tk σ) (pa_cons (pv 5) (pa_cons (pv 6) pa_nil))))
          (pss_one (ps_if (PW.pt (pw_and (pt_cmpR op_gt (pe_callB call_len_seq rfl T.f_len PySem.boot_len (pa_cons (pv 8) pa_nil)) pe_int (nomark _)) (pw_and1 (pt_cmpR op_lt (pv 7) pe_int (nomark _))))) (pss_one (ps_set (i := 5) sc_law.nd rfl (Or.inl rfl) (pe_ix ix_tup (pe_ix ix_list (pv 8) (pe_op op_mod (pe_callS G__law_stirred (hr.mono (by decide)) rfl T.g__law_stirred kp__law_stirred b__law_stirred (fun σ => passAt tk σ) (pa_cons (pe_callS G__law_cell_at (hr.mono (by decide)) rfl T.g__law_cell_at kp__law_cell_at b__law_cell_at (fun σ => passAt tk σ) (pa_cons (pv 0) (pa_cons (pv 7) pa_nil))) (pa_cons (pv 7) pa_nil))) (pe_callB call_len_seq rfl T.f_len PySem.boot_len (pa_cons (pv 8) pa_nil))) (fun _ _ => rfl)) pe_int (fun _ _ => rfl)))) pss_nil)))))) pss_nil)
          (pss_cons (ps_set (i := 9) sc_law.nd rfl (Or.inl rfl) (pe_lst (pa_cons (pe_callTy call_list_of rfl T.f_list (by decide +kernel) (pa_cons (pv 4) pa_nil)) (pa_cons (pe_callTy call_list_of rfl T.f_list (by decide +kernel) (pa_cons (pv 5) pa_nil)) (pa_cons (pe_callTy call_list_of rfl T.f_list (by decide +kernel) (pa_cons (pv 6) pa_nil)) pa_nil)))))
          (pss_cons (ps_set (i := 10) sc_law.nd rfl (Or.inl rfl) (pe_callS G_way_or_bar (hr.mono (by decide)) rfl T.g_way_or_bar kp_way_or_bar b_way_or_bar (fun σ => passAt tk σ) (pa_cons (pe_ix ix_list (pv 9) pe_int (fun _ _ => rfl)) (pa_cons (pe_ix ix_list (pv 9) pe_int (fun _ _ => rfl)) (pa_cons (pe_ix ix_list (pv 9) pe_int (fun _ _ => rfl)) pa_nil)))))
          (pss_cons (ps_if (PW.pt (pw_or (pt_cmpR (op_neP hr.units) (pv 9) (pe_lst (pa_cons (pv 4) (pa_cons (pv 5) (pa_cons (pv 6) pa_nil)))) (nomark _)) (pw_or1 (pt_not (pt_val (pe_callS G__law_right (hr.mono (by decide)) rfl T.g__law_right kp__law_right b__law_right (fun σ => passAt tk σ) (pa_cons (pv 10) (pa_cons (pv 4) (pa_cons (pv 5) (pa_cons (pv 6) pa_nil)))))))))) (pss_one (ps_ret pe_bl)) pss_nil)
          (pss_cons (ps_if (PW.pt (pw_and (pt_cmpR op_eq (pe_op op_mod (pe_callS G__law_cell_at (hr.mono (by decide)) rfl T.g__law_cell_at kp__law_cell_at b__law_cell_at (fun σ => passAt tk σ) (pa_cons (pv 0) (pa_cons pe_int pa_nil))) pe_int) pe_int (nomark _)) (pw_and1 (pt_cmpR (op_neP hr.units) (pe_ix ix_any (pv 10) pe_int (fun _ _ => rfl)) pe_str (nomark _))))) (pss_one (ps_ret pe_bl)) pss_nil)
          (pss_cons (ps_set (i := 11) sc_law.nd rfl (Or.inl rfl) (pe_lst (pa_cons (pe_ix ix_tup (pv 10) pe_int (fun _ _ => rfl)) (pa_cons (pe_callTy call_list_of rfl T.f_list (by decide +kernel) (pa_cons (pe_ix ix_tup (pv 10) pe_int (fun _ _ => rfl)) pa_nil)) pa_nil))))
          (pss_cons (ps_if (pt_cmpR (op_eqP hr.units) (pe_ix ix_any (pv 10) pe_int (fun _ _ => rfl)) pe_str (nomark _)) (pss_cons (ps_asg (pe_lc (own := [("one", 13)]) (g := gName 13) (tt := tYes) rfl sc_law.nd (pi_list (pe_ix ix_any (pv 10) pe_int (fun _ _ => rfl))) (blkOk_by (N := N_law) (sc := defScope s_law) (by decide +kernel)) (fun _ _ _ _ _ => pg_name (i := 13) sc_law.nd rfl (Or.inl rfl)) (fun _ _ _ _ _ => pts_nil) (fun _ _ _ _ _ => (pe_callTy (call_list_ofK (K := K) rfl) rfl T.f_list (by decide +kernel) (pa_cons (pv 13) pa_nil)))) (pg_sub (pv 11) pe_int set_list))
          (pss_one (ps_for (passes_of rfl) rfl (pi_range1 rfl T.f_range (pa_cons (pe_callB call_len_seq rfl T.f_len PySem.boot_len (pa_cons (pe_ix ix_list (pv 11) pe_int (fun _ _ => rfl)) pa_nil)) pa_nil)) (pg_name (i := 7) sc_law.nd rfl (Or.inl rfl)) (pss_cons (ps_if (pt_cmpR (op_neP hr.units) (pe_ix ix_any (pe_ix ix_any (pv 10) pe_int (fun _ _ => rfl)) (pv 7) (fun _ _ => rfl)) (pe_ix ix_any (pe_ix ix_list (pv 11) pe_int (fun _ _ => rfl)) (pv 7) (fun _ _ => rfl)) (nomark _)) (pss_one (ps_ret pe_bl)) pss_nil)
          (pss_one (ps_expr (pe_bm PySem.F.plainAttrs_list PySem.F.slot_list_append PySem.F.type_list_append mt_append (pe_ix ix_list (pe_ix ix_tup (pv 10) pe_int (fun _ _ => rfl)) (pv 7) (fun _ _ => rfl)) (pa_cons pe_int pa_nil)))))))) pss_nil)
          (pss_cons (ps_expr (pe_bm PySem.F.plainAttrs_list PySem.F.slot_list_append PySem.F.type_list_append mt_append (pe_ix ix_tup (pv 10) pe_int (fun _ _ => rfl)) (pa_cons (pe_lst (pa_cons pe_int pa_nil)) pa_nil)))
          (pss_cons (ps_set (i := 12) sc_law.nd rfl (Or.inl rfl) (pe_callS G_way_or_bar (hr.mono (by decide)) rfl T.g_way_or_bar kp_way_or_bar b_way_or_bar (fun σ => passAt tk σ) (pa_cons (pe_ix ix_list (pv 9) pe_int (fun _ _ => rfl)) (pa_cons (pe_ix ix_list (pv 9) pe_int (fun _ _ => rfl)) (pa_cons (pe_ix ix_list (pv 9) pe_int (fun _ _ => rfl)) pa_nil)))))
          (pss_one (ps_ret (pe_and (pe_cmpR (op_eqP hr.units) (pv 12) (pe_tup (pa_cons (pe_ix ix_list (pv 11) pe_int (fun _ _ => rfl)) (pa_cons (pe_ix ix_list (pv 11) pe_int (fun _ _ => rfl)) pa_nil))) (nomark _)) (pe_one (pe_cmpR (op_eqP hr.units) (pv 9) (pe_lst (pa_cons (pv 4) (pa_cons (pv 5) (pa_cons (pv 6) pa_nil)))) (nomark _))))))))))))))))))))), ?_⟩
    unfold m_law at hQ
    first | with_reducible refine st_n ?_ | skip
    refine st_seq ?_
    refine s_unp ?_ (Same.refl _) (Same.refl _) hQ ?_
    · exact (g_im (Same.refl _) (g_call1 (ma := .ok script) (g_var (a := script) (Rp.mono (Same.refl _) r_script) (Same.refl _))))
    intro pits seeds v5 v6 F2 H3 nx1 e04 r7 r8 hQ
    replace r_script := Rp.mono nx1.ff r_script
    have hF9 := nx1.fh
    obtain rfl : v5 = V.int pits := r7
    obtain rfl : v6 = V.int seeds := r8
    first | with_reducible refine st_n ?_ | skip
    refine st_seq ?_
    refine s_asg ?_ hF9 e04 hQ ?_
    · exact (g_call5 (ma := .ok script) (mb := .ok (2 : Int)) (mc := .ok ((2 : Int) * seeds)) (md := .ok pits) (me := R.bd (R.bd (R.bd (m__law_cell_at script (0 : Int)) fun (t14 : Int) => .ok (t14 / (2 : Int))) fun (t15 : Int) => .ok (t15 % (2 : Int))) fun (t16 : Int) => .ok (decide (t16 = (1 : Int)))) (g_var (a := script) (Rp.mono hF9 r_script) (Same.refl _)) g_int (g_mulF (by decide) g_int (g_var (a := seeds) rfl (Same.refl _))) (g_var (a := pits) rfl (Same.refl _)) (g_eq (g_modL (by decide +kernel) (g_divL (by decide +kernel) (g_call2 (ma := .ok script) (mb := .ok (0 : Int)) (g_var (a := script) (Rp.mono hF9 r_script) (Same.refl _)) g_int) g_int) g_int) g_int))
    intro row v18 F11 H12 nx10 e013 r19 hQ
    replace r_script := Rp.mono nx10.ff r_script
    have hF20 := nx10.fh
    first | with_reducible refine st_n ?_ | skip
    refine st_seq ?_
    refine s_asg ?_ hF20 e013 hQ ?_
    · exact (g_call2 (ma := .ok (cut row none (some seeds))) (mb := .ok pits) (g_cutI (g_var (a := row) (Rp.mono hF20 r19) (Same.refl _)) o_no (o_some (F := H12) (g_var (a := seeds) rfl (Same.refl _)))) (g_var (a := pits) rfl (Same.refl _)))
    intro board v25 F22 H23 nx21 e024 r26 hQ
    replace r_script := Rp.mono nx21.ff r_script
    replace r19 := Rp.mono nx21.ff r19
    have hF27 := nx21.fh
    first | with_reducible refine st_n ?_ | skip
    refine st_seq ?_
    refine s_asg ?_ hF27 e024 hQ ?_
    · exact (g_call2 (ma := .ok (cut row (some seeds) none)) (mb := .ok pits) (g_cutI (g_var (a := row) (Rp.mono hF27 r19) (Same.refl _)) (o_some (F := H23) (g_var (a := seeds) rfl (Same.refl _))) o_no) (g_var (a := pits) rfl (Same.refl _)))
    intro other v32 F29 H30 nx28 e031 r33 hQ
    replace r_script := Rp.mono nx28.ff r_script
    replace r19 := Rp.mono nx28.ff r19
    replace r26 := Rp.mono nx28.ff r26
    have hF34 := nx28.fh
    first | with_reducible refine st_n ?_ | skip
    refine st_seq ?_
    refine s_asg ?_ hF34 e031 hQ ?_
    · exact (g_call2 (ma := .ok script) (mb := .ok pits) (g_var (a := script) (Rp.mono hF34 r_script) (Same.refl _)) (g_var (a := pits) rfl (Same.refl _)))
    intro bars v39 F36 H37 nx35 e038 r40 hQ
    replace r_script := Rp.mono nx35.ff r_script
    replace r19 := Rp.mono nx35.ff r19
    replace r26 := Rp.mono nx35.ff r26
    replace r33 := Rp.mono nx35.ff r33
    have hF41 := nx35.fh
    first | with_reducible refine st_n ?_ | skip
    replace hQ := wp_bdi hQ
    refine s_cutW (I := fun (other : (List Int)) σ52 H51 => ∃ (F48 : Hp) (v53 : V) (j55 : Option V) (j56 : Option V), σ52 = [some v_script, some (.int pits), some (.int seeds), some v18, some v25, some v53, some v39, j55, j56, none, none, none, none, none] ∧ Nx (fun _ => False) F36 H37 F48 H51 ∧ Same H H51 ∧ Rp.rep K F48 v53 other) (hQ := hQ) ?_ ?_
    · intro hQ
      have nA58 : Nx (fun _ => False) F36 H37 F36 H37 := Nx.refl' hF41
      refine s_if ?_ hF41 e038 hQ ?_ ?_
      · exact (t_test (F := H37) (g_eq (g_modL (by decide +kernel) (g_call2 (ma := .ok script) (mb := .ok (1 : Int)) (g_var (a := script) (Rp.mono hF41 r_script) (Same.refl _)) g_int) g_int) g_int))
      · intro F45 H46 nx44 e047 hQ
        replace hQ := if_t hQ
        replace r_script := Rp.mono nx44.ff r_script
        replace r19 := Rp.mono nx44.ff r19
        replace r26 := Rp.mono nx44.ff r26
        replace r33 := Rp.mono nx44.ff r33
        replace r40 := Rp.mono nx44.ff r40
        replace nA58 := nA58.step0 nx44
        have hF59 := nx44.fh
        first | with_reducible refine st_n ?_ | skip
        refine st_seq ?_
        refine s_asg ?_ hF59 e047 hQ ?_
        · exact (g_listI (g_var (a := board) (Rp.mono hF59 r26) (Same.refl _)))
        intro other v65 F62 H63 nx61 e064 r66 hQ
        replace r_script := Rp.mono nx61.ff r_script
        replace r19 := Rp.mono nx61.ff r19
        replace r26 := Rp.mono nx61.ff r26
        replace r40 := Rp.mono nx61.ff r40
        replace nA58 := nA58.step0 nx61
        have hF67 := nx61.fh
        first | with_reducible refine st_n ?_ | skip
        refine s_for ?_ hF67 e064 hQ ?_
        · exact (i_rng2 (g_sc (F' := H63) g_int) (g_sc (F' := H63) (g_lenS (g_var (a := script) (Rp.mono hF67 r_script) (Same.refl _)) (Same.refl _))))
        intro xs72 J73 F69 H70 nx68 e071 ok74 hQ
        replace r_script := Rp.mono nx68.ff r_script
        replace r19 := Rp.mono nx68.ff r19
        replace r26 := Rp.mono nx68.ff r26
        replace r40 := Rp.mono nx68.ff r40
        replace r66 := Rp.mono nx68.ff r66
        replace nA58 := nA58.step0 nx68
        have hF76 := nx68.fh
        replace hQ := wp_bdi hQ
        refine for_S ok74 (fun (other : (List Int)) σ81 H80 => ∃ (F77 : Hp) (v82 : V) (j84 : Option V) (j85 : Option V), σ81 = [some v_script, some (.int pits), some (.int seeds), some v18, some v25, some v82, some v39, j85, j84, none, none, none, none, none] ∧ Nx (fun _ => False) F69 H70 F77 H80 ∧ Same H H80 ∧ Rp.rep K F77 v82 other) ?hku125 ?h0u125 hQ ?turnu125 ?doneu125
        case hku125 =>
          intro other σ9 H80 hI
          obtain ⟨F77, v82, j84, j85, rfl, nL78, e079, r83⟩ := hI
          exact nL78.ff.trans nL78.fh
        case h0u125 =>
          exact ⟨_, _, _, _, rfl, (Nx.refl' hF76), e071, r66⟩
        case turnu125 =>
          intro k l89 other v90 σ9 H80 H91 hI e92 rx93 hQ
          obtain ⟨F77, v82, j84, j85, rfl, nL78, e079, r83⟩ := hI
          have r_script := Rp.mono nL78.ff r_script
          have r19 := Rp.mono nL78.ff r19
          have r26 := Rp.mono nL78.ff r26
          have r40 := Rp.mono nL78.ff r40
          have hF86 := nL78.fh
          have nA58 := nA58.step0 nL78
          have nA87 := nL78
          have nx94 : Nx0 F77 H80 (mix F77 H80 H91) H91 := Nx.mk' hF86 e92
          have e096 := e079.trans e92
          replace r_script := Rp.mono nx94.ff r_script
          replace r19 := Rp.mono nx94.ff r19
          replace r26 := Rp.mono nx94.ff r26
          replace r40 := Rp.mono nx94.ff r40
          replace r83 := Rp.mono nx94.ff r83
          replace nA58 := nA58.step0 nx94
          replace nA87 := nA87.step0 nx94
          have hF97 := nx94.fh
          refine gn ?_
          obtain rfl : v90 = V.int k := rx93
          first | with_reducible refine st_n ?_ | skip
          refine st_seq ?_
          refine s_asg ?_ hF97 e096 hQ ?_
          · exact (g_call2 (ma := .ok other) (mb := .ok bars) (g_var (a := other) (Rp.mono hF97 r83) (Same.refl _)) (g_var (a := bars) (Rp.mono hF97 r40) (Same.refl _)))
          intro some_ v103 F100 H101 nx99 e0102 r104 hQ
          replace r_script := Rp.mono nx99.ff r_script
          replace r19 := Rp.mono nx99.ff r19
          replace r26 := Rp.mono nx99.ff r26
          replace r40 := Rp.mono nx99.ff r40
          replace r83 := Rp.mono nx99.ff r83
          replace nA58 := nA58.step0 nx99
          replace nA87 := nA87.step0 nx99
          have hF105 := nx99.fh
          first | with_reducible refine st_n ?_ | skip
          refine s_if ?_ hF105 e0102 hQ ?_ ?_
          · exact (t_andP (t_test (F := H101) (g_b0 (g_len (g_var (a := some_) (Rp.mono hF105 r104) (Same.refl _)) (Same.refl _)) g_int)) (t_test (F := H101) (g_b0 (g_var (a := k) rfl (Same.refl _)) g_int)))
          · intro F107 H108 nx106 e0109 hQ
            replace hQ := if_t hQ
            replace r_script := Rp.mono nx106.ff r_script
            replace r19 := Rp.mono nx106.ff r19
            replace r26 := Rp.mono nx106.ff r26
            replace r40 := Rp.mono nx106.ff r40
            replace r83 := Rp.mono nx106.ff r83
            replace r104 := Rp.mono nx106.ff r104
            replace nA58 := nA58.step0 nx106
            replace nA87 := nA87.step0 nx106
            have hF110 := nx106.fh
            first | with_reducible refine st_n ?_ | skip
            refine s_asg ?_ hF110 e0109 hQ ?_
            · exact (g_snd (g_idx (g_var (a := some_) r104 hF110) (g_sc (F' := H108) (g_mod (g_call2 (ma := m__law_cell_at script k) (mb := .ok k) (g_call2 (ma := .ok script) (mb := .ok k) (g_var (a := script) (Rp.mono hF110 r_script) (Same.refl _)) (g_var (a := k) rfl (Same.refl _))) (g_var (a := k) rfl (Same.refl _))) (g_len (g_var (a := some_) (Rp.mono hF110 r104) (Same.refl _)) (Same.refl _)))) hF110) hF110)
            intro other v120 F113 H114 nx112 e0115 r121 hQ
            replace r_script := Rp.mono nx112.ff r_script
            replace r19 := Rp.mono nx112.ff r19
            replace r26 := Rp.mono nx112.ff r26
            replace r40 := Rp.mono nx112.ff r40
            replace r104 := Rp.mono nx112.ff r104
            replace nA58 := nA58.step0 nx112
            replace nA87 := nA87.step0 nx112
            have hF122 := nx112.fh
            exact ⟨other, ⟨_, _, _, _, rfl, nA87, e0115, r121⟩, hQ⟩
          intro F107 H108 nx106 e0109 hQ
          replace hQ := if_f hQ
          refine st_next ?_
          replace r_script := Rp.mono nx106.ff r_script
          replace r19 := Rp.mono nx106.ff r19
          replace r26 := Rp.mono nx106.ff r26
          replace r40 := Rp.mono nx106.ff r40
          replace r83 := Rp.mono nx106.ff r83
          replace r104 := Rp.mono nx106.ff r104
          replace nA58 := nA58.step0 nx106
          replace nA87 := nA87.step0 nx106
          have hF111 := nx106.fh
          exact ⟨other, ⟨_, _, _, _, rfl, nA87, e0109, r83⟩, hQ⟩
        case doneu125 =>
          intro other σ9 H80 hI hQ
          obtain ⟨F77, v82, j84, j85, rfl, nL78, e079, r83⟩ := hI
          have r_script := Rp.mono nL78.ff r_script
          have r19 := Rp.mono nL78.ff r19
          have r26 := Rp.mono nL78.ff r26
          have r40 := Rp.mono nL78.ff r40
          have hF86 := nL78.fh
          have nA58 := nA58.step0 nL78
          exact ⟨other, ⟨_, _, _, _, rfl, nA58, e079, r83⟩, hQ⟩
      intro F45 H46 nx44 e047 hQ
      replace hQ := if_f hQ
      refine st_next ?_
      replace r_script := Rp.mono nx44.ff r_script
      replace r19 := Rp.mono nx44.ff r19
      replace r26 := Rp.mono nx44.ff r26
      replace r33 := Rp.mono nx44.ff r33
      replace r40 := Rp.mono nx44.ff r40
      replace nA58 := nA58.step0 nx44
      have hF60 := nx44.fh
      exact ⟨other, ⟨_, _, _, _, rfl, nA58, e047, r33⟩, hQ⟩
    rintro other σ9 H51 hI hQ
    obtain ⟨F48, v53, j55, j56, rfl, nL49, e050, r54⟩ := hI
    have r_script := Rp.mono nL49.ff r_script
    have r19 := Rp.mono nL49.ff r19
    have r26 := Rp.mono nL49.ff r26
    have r40 := Rp.mono nL49.ff r40
    have hF57 := nL49.fh
    first | with_reducible refine st_n ?_ | skip
    refine st_seq ?_
    refine s_asg ?_ hF57 e050 hQ ?_
    · exact (g_lstK (a_cons (g_listI (g_var (a := board) (Rp.mono hF57 r26) (Same.refl _))) (a_cons (g_listI (g_var (a := other) (Rp.mono hF57 r54) (Same.refl _))) (a_cons (g_listI (g_var (a := bars) (Rp.mono hF57 r40) (Same.refl _))) a_nil))) (Nat.le_of_ble_eq_true rfl))
    intro handed v130 F127 H128 nx126 e0129 r131 hQ
    replace r_script := Rp.mono nx126.ff r_script
    replace r19 := Rp.mono nx126.ff r19
    replace r26 := Rp.mono nx126.ff r26
    replace r54 := Rp.mono nx126.ff r54
    replace r40 := Rp.mono nx126.ff r40
    have hF132 := nx126.fh
    first | with_reducible refine st_n ?_ | skip
    refine st_seq ?_
    refine s_asgAp ?_ hF132 e0129 hQ ?_
    · exact (g_call3 (ma := idx handed (0 : Int)) (mb := idx handed (1 : Int)) (mc := idx handed (2 : Int)) (g_idx (g_var (a := handed) (Rp.mono hF132 r131) (Same.refl _)) g_int (Same.refl _)) (g_idx (g_var (a := handed) (Rp.mono hF132 r131) (Same.refl _)) g_int (Same.refl _)) (g_idx (g_var (a := handed) (Rp.mono hF132 r131) (Same.refl _)) g_int (Same.refl _)))
    intro told v141 F138 H139 SS142 nx137 e0140 A143 hn144 ha145 hQ
    replace r_script := Rp.mono nx137.ff r_script
    replace r19 := Rp.mono nx137.ff r19
    replace r26 := Rp.mono nx137.ff r26
    replace r54 := Rp.mono nx137.ff r54
    replace r40 := Rp.mono nx137.ff r40
    replace r131 := Rp.mono nx137.ff r131
    have hF150 := nx137.fh
    first | with_reducible refine st_n ?_ | skip
    refine st_seq ?_
    refine s_if ?_ hF150 e0140 hQ ?_ ?_
    · exact (t_or (t_test (F := H139) (g_neD (g_var (a := handed) (Rp.mono hF150 r131) (Same.refl _)) (g_lstK (a_cons (g_var (a := board) (Rp.mono hF150 r26) (Same.refl _)) (a_cons (g_var (a := other) (Rp.mono hF150 r54) (Same.refl _)) (a_cons (g_var (a := bars) (Rp.mono hF150 r40) (Same.refl _)) a_nil))) (Nat.le_of_ble_eq_true rfl)) (Same.refl _))) (t_not (t_B (F := H139) (g_call4 (ma := .ok told) (mb := .ok board) (mc := .ok other) (md := .ok bars) (g_var (a := told) A143.see (Same.refl _)) (g_var (a := board) (Rp.mono hF150 r26) (Same.refl _)) (g_var (a := other) (Rp.mono hF150 r54) (Same.refl _)) (g_var (a := bars) (Rp.mono hF150 r40) (Same.refl _))))))
    · intro F153 H154 nx152 e0155 hQ
      replace hQ := if_t hQ
      replace A143 := A143.nx0 nx152
      replace ha145 := al_nx nx152 ha145
      replace r_script := Rp.mono nx152.ff r_script
      replace r19 := Rp.mono nx152.ff r19
      replace r26 := Rp.mono nx152.ff r26
      replace r54 := Rp.mono nx152.ff r54
      replace r40 := Rp.mono nx152.ff r40
      replace r131 := Rp.mono nx152.ff r131
      have hF156 := nx152.fh
      first | with_reducible refine st_n ?_ | skip
      refine s_ret ?_ e0155 hQ (fun a h => h)
      exact (g_sc (F' := H154) g_bl)
    intro F153 H154 nx152 e0155 hQ
    replace hQ := if_f hQ
    refine st_next ?_
    replace A143 := A143.nx0 nx152
    replace ha145 := al_nx nx152 ha145
    replace r_script := Rp.mono nx152.ff r_script
    replace r19 := Rp.mono nx152.ff r19
    replace r26 := Rp.mono nx152.ff r26
    replace r54 := Rp.mono nx152.ff r54
    replace r40 := Rp.mono nx152.ff r40
    replace r131 := Rp.mono nx152.ff r131
    have hF157 := nx152.fh
    first | with_reducible refine st_n ?_ | skip
    refine st_seq ?_
    refine s_if ?_ hF157 e0155 hQ ?_ ?_
    · exact (t_and (t_test (F := H154) (g_eq (g_modL (by decide +kernel) (g_call2 (ma := .ok script) (mb := .ok (1 : Int)) (g_var (a := script) (Rp.mono hF157 r_script) (Same.refl _)) g_int) g_int) g_int)) (t_test (F := H154) (g_neDy (g_idxDy (g_var (a := told) A143.see (Same.refl _)) g_int (Same.refl _)) (g_dy g_str) (Same.refl _))))
    · intro F163 H164 nx162 e0165 hQ
      replace hQ := if_t hQ
      replace A143 := A143.nx0 nx162
      replace ha145 := al_nx nx162 ha145
      replace r_script := Rp.mono nx162.ff r_script
      replace r19 := Rp.mono nx162.ff r19
      replace r26 := Rp.mono nx162.ff r26
      replace r54 := Rp.mono nx162.ff r54
      replace r40 := Rp.mono nx162.ff r40
      replace r131 := Rp.mono nx162.ff r131
      have hF166 := nx162.fh
      first | with_reducible refine st_n ?_ | skip
      refine s_ret ?_ e0165 hQ (fun a h => h)
      exact (g_sc (F' := H164) g_bl)
    intro F163 H164 nx162 e0165 hQ
    replace hQ := if_f hQ
    refine st_next ?_
    replace A143 := A143.nx0 nx162
    replace ha145 := al_nx nx162 ha145
    replace r_script := Rp.mono nx162.ff r_script
    replace r19 := Rp.mono nx162.ff r19
    replace r26 := Rp.mono nx162.ff r26
    replace r54 := Rp.mono nx162.ff r54
    replace r40 := Rp.mono nx162.ff r40
    replace r131 := Rp.mono nx162.ff r131
    have hF167 := nx162.fh
    first | with_reducible refine st_n ?_ | skip
    refine st_seq ?_
    refine s_kept26 A143 rfl hF167 e0165 hQ ?_
    intro w172 l173 q174 a175 F169 H170 nx168 e0171 hq176 ha177 R178 hQ
    have nw179 : ∀ z, (∃ u, H164 z = some u) → z ≠ q174 := fun z h e => by obtain ⟨u, h⟩ := h; rw [e, hq176] at h; cases h
    have d180 : ¬ SS142 q174 := ap_nw ha145 nw179
    have nw181 : ∀ z, (∃ u, H164 z = some u) → z ≠ a175 := fun z h e => by obtain ⟨u, h⟩ := h; rw [e, ha177] at h; cases h
    have d182 : ¬ SS142 a175 := ap_nw ha145 nw181
    replace A143 := A143.nx0 nx168
    replace ha145 := al_nx nx168 ha145
    replace r_script := Rp.mono nx168.ff r_script
    replace r19 := Rp.mono nx168.ff r19
    replace r26 := Rp.mono nx168.ff r26
    replace r54 := Rp.mono nx168.ff r54
    replace r40 := Rp.mono nx168.ff r40
    replace r131 := Rp.mono nx168.ff r131
    have hF183 := nx168.fh
    first | with_reducible refine st_n ?_ | skip
    refine st_seq ?_
    refine s_if ?_ hF183 e0171 hQ ?_ ?_
    · exact (t_test (F := H170) (g_eqDy (g_idxDy (g_var (a := told) A143.see (Same.refl _)) g_int (Same.refl _)) (g_dy g_str) (Same.refl _)))
    · intro F186 H187 nx185 e0188 hQ
      replace hQ := if_t hQ
      replace A143 := A143.nx0 nx185
      replace ha145 := al_nx nx185 ha145
      replace r_script := Rp.mono nx185.ff r_script
      replace r19 := Rp.mono nx185.ff r19
      replace r26 := Rp.mono nx185.ff r26
      replace r54 := Rp.mono nx185.ff r54
      replace r40 := Rp.mono nx185.ff r40
      replace r131 := Rp.mono nx185.ff r131
      replace R178 := R178.nx0 nx185
      have hF189 := nx185.fh
      first | with_reducible refine st_n ?_ | skip
      refine st_seq ?_
      refine s_setRaw2 (m := R.bd (R.bd (dyIdx told (1 : Int)) fun (t191 : Dy) => (unD t191 : R (List (List Int)))) fun (t200 : List (List Int)) => compR t200 (fun (one : List Int) => .ok true) (fun (one : List Int) => .ok one)) R178 rfl ?he hF189 e0188 hQ ?_
      case he => exact (g_compH (i_list (g_unD (g_idxDy (g_var (a := told) A143.see (Same.refl _)) g_int (Same.refl _))) (Same.refl _)) hF189 (fun one v193 F194 H195 f196 h197 hh198 rx199 => ⟨(wipe _ _).set 13 (some v193), fun _ q => q, rfl, t_yes, (g_listI (g_var (a := one) rx199 (Same.refl _)))⟩))
      intro kept F201 H202 nx203 e0204 o205 hQ
      replace A143 := A143.nx nx203 (fun q => fun z => by rw [z]; exact d180) (fun q => fun z => by rw [z]; exact (by rw [R178.hq]; rfl))
      replace ha145 := al_nx nx203 ha145
      replace r_script := Rp.mono nx203.ff r_script
      replace r19 := Rp.mono nx203.ff r19
      replace r26 := Rp.mono nx203.ff r26
      replace r54 := Rp.mono nx203.ff r54
      replace r40 := Rp.mono nx203.ff r40
      replace r131 := Rp.mono nx203.ff r131
      have hF206 := nx203.fh
      first | with_reducible refine st_n ?_ | skip
      refine s_for ?_ hF206 e0204 hQ ?_
      · exact (i_rng1 (g_sc (F' := H202) (g_lenDy (g_idx (g_var (a := kept) (o205.rep hF206) (Same.refl _)) g_int (Same.refl _)) (Same.refl _))))
      intro xs213 J214 F210 H211 nx209 e0212 ok215 hQ
      replace A143 := A143.nx0 nx209
      replace ha145 := al_nx nx209 ha145
      replace r_script := Rp.mono nx209.ff r_script
      replace r19 := Rp.mono nx209.ff r19
      replace r26 := Rp.mono nx209.ff r26
      replace r54 := Rp.mono nx209.ff r54
      replace r40 := Rp.mono nx209.ff r40
      replace r131 := Rp.mono nx209.ff r131
      replace o205 := o205.nx0 nx209
      have hF217 := nx209.fh
      replace hQ := wp_bdi hQ
      refine for_Rd ok215 (fun (told : Dy) σ222 H221 => ∃ (F218 : Hp) (j224 : Option V), σ222 = [some v_script, some (.int pits), some (.int seeds), some v18, some v25, some v53, some v39, j224, j56, some v130, some v141, some (.ref q174), none, none] ∧ Nx (fun q => (SS142 q ∧ tupB (H211 q) = false) ∨ False) F210 H211 F218 H221 ∧ Same H H221 ∧ ApO K H F218 H221 SS142 v141 told) ?hku296 ?h0u296 hQ ?doneu296 ?turnu296
      case hku296 =>
        intro told σ9 H221 hI
        obtain ⟨F218, j224, rfl, nL219, e0220, A223⟩ := hI
        exact nL219.ff.trans nL219.fh
      case h0u296 =>
        exact ⟨_, _, rfl, (Nx.refl' hF217), e0212, A143⟩
      case turnu296 =>
        intro k l228 told v229 σ9 H221 H230 hI e231 rx232 hd237 hQ
        obtain ⟨F218, j224, rfl, nL219, e0220, A223⟩ := hI
        have ha145 := al_nx nL219 ha145
        have r_script := Rp.mono nL219.ff r_script
        have r19 := Rp.mono nL219.ff r19
        have r26 := Rp.mono nL219.ff r26
        have r54 := Rp.mono nL219.ff r54
        have r40 := Rp.mono nL219.ff r40
        have r131 := Rp.mono nL219.ff r131
        have o205 := o205.nx nL219 (fun z => (fun z => Or.elim z (fun z => d180 z.1) (fun z => z.elim)) z)
        have hF225 := nL219.fh
        have nA226 := nL219
        have nx233 : Nx0 F218 H221 (mix F218 H221 H230) H230 := Nx.mk' hF225 e231
        have e0235 := e0220.trans e231
        replace A223 := A223.nx0 nx233
        replace ha145 := al_nx nx233 ha145
        replace r_script := Rp.mono nx233.ff r_script
        replace r19 := Rp.mono nx233.ff r19
        replace r26 := Rp.mono nx233.ff r26
        replace r54 := Rp.mono nx233.ff r54
        replace r40 := Rp.mono nx233.ff r40
        replace r131 := Rp.mono nx233.ff r131
        replace o205 := o205.nx0 nx233
        replace nA226 := nA226.step0 nx233
        have hF236 := nx233.fh
        refine gn ?_
        obtain rfl : v229 = V.int k := rx232
        first | with_reducible refine st_n ?_ | skip
        refine st_seq ?_
        refine s_if ?_ hF236 e0235 hQ ?_ ?_
        · exact (t_test (F := H230) (g_neDy (g_idxDy (g_idxDy (g_var (a := told) A223.see (Same.refl _)) g_int (Same.refl _)) (g_var (a := k) rfl (Same.refl _)) (Same.refl _)) (g_idxDy (g_idx (g_var (a := kept) (o205.rep hF236) (Same.refl _)) g_int (Same.refl _)) (g_var (a := k) rfl (Same.refl _)) (Same.refl _)) (Same.refl _)))
        · intro F243 H244 nx242 e0245 hQ
          replace hQ := if_t hQ
          replace A223 := A223.nx0 nx242
          replace ha145 := al_nx nx242 ha145
          replace r_script := Rp.mono nx242.ff r_script
          replace r19 := Rp.mono nx242.ff r19
          replace r26 := Rp.mono nx242.ff r26
          replace r54 := Rp.mono nx242.ff r54
          replace r40 := Rp.mono nx242.ff r40
          replace r131 := Rp.mono nx242.ff r131
          replace o205 := o205.nx0 nx242
          replace nA226 := nA226.step0 nx242
          have hF246 := nx242.fh
          first | with_reducible refine st_n ?_ | skip
          refine s_ret ?_ e0245 hQ (fun a h => h)
          exact (g_sc (F' := H244) g_bl)
        intro F243 H244 nx242 e0245 hQ
        replace hQ := if_f hQ
        refine st_next ?_
        replace A223 := A223.nx0 nx242
        replace ha145 := al_nx nx242 ha145
        replace r_script := Rp.mono nx242.ff r_script
        replace r19 := Rp.mono nx242.ff r19
        replace r26 := Rp.mono nx242.ff r26
        replace r54 := Rp.mono nx242.ff r54
        replace r40 := Rp.mono nx242.ff r40
        replace r131 := Rp.mono nx242.ff r131
        replace o205 := o205.nx0 nx242
        replace nA226 := nA226.step0 nx242
        have hF247 := nx242.fh
        first | with_reducible refine st_n ?_ | skip
        replace hQ := wp_bdi hQ
        obtain ⟨u257, hu258, hQ⟩ := unD_wp hQ
        obtain ⟨j259, x260, hj261, hx262, hQ⟩ := idx_wp hQ
        refine s_apF (me := .ok (0 : Int)) A223 (sub_ix (sub_snd (sub_un (sub_v (atv_v rfl)) hu258)) (ati_v (i := k)) hj261 hx262) ?he hF247 e0245 hQ ?_
        case he => exact g_int
        intro y256 q252 F249 H250 nx248 e0251 hq253 ht254 A255 hQ
        replace hQ := set_wp hj261 hQ
        replace hQ := wp_okb hQ
        obtain ⟨toldN, hz264⟩ : ∃ z, z = DyN.dy (u257.1, (u257.2.set j259 y256)) := ⟨_, rfl⟩
        have A255 : ApO K H F249 H250 SS142 v141 toldN := by rw [hz264]; exact A255
        rw [← hz264] at hQ
        clear hz264
        replace r_script := Rp.mono nx248.ff r_script
        replace r19 := Rp.mono nx248.ff r19
        replace r26 := Rp.mono nx248.ff r26
        replace r54 := Rp.mono nx248.ff r54
        replace r40 := Rp.mono nx248.ff r40
        replace r131 := Rp.mono nx248.ff r131
        replace o205 := o205.nx nx248 (fun z => d180 (z ▸ hq253))
        replace nA226 := nA226.step nx248 (fun q z => by rw [z]; exact (ap_in nA226 hq253 ht254).imp (fun w => .inl w) id)
        have hF265 := nx248.fh
        replace ha145 := al_nx nx248 ha145
        exact ⟨toldN, ⟨_, _, rfl, nA226, e0251, A255⟩, hQ⟩
      case doneu296 =>
        intro told σ9 H221 hI hQ
        replace hQ := flk_go hQ
        obtain ⟨F218, j224, rfl, nL219, e0220, A223⟩ := hI
        have ha145 := al_nx nL219 ha145
        have r_script := Rp.mono nL219.ff r_script
        have r19 := Rp.mono nL219.ff r19
        have r26 := Rp.mono nL219.ff r26
        have r54 := Rp.mono nL219.ff r54
        have r40 := Rp.mono nL219.ff r40
        have r131 := Rp.mono nL219.ff r131
        have o205 := o205.nx nL219 (fun z => (fun z => Or.elim z (fun z => d180 z.1) (fun z => z.elim)) z)
        have hF225 := nL219.fh
        first | with_reducible refine st_n ?_ | skip
        obtain ⟨u276, hu277, hQ⟩ := unD_wp hQ
        refine st_seq ?_
        refine s_apDieS (me := .ok [(0 : Int)]) A223 (sub_snd (sub_un (sub_v (atv_v rfl)) hu277)) ?he hF225 e0220 hQ ?_
        case he => exact (g_lstK (a_cons g_int a_nil) (Nat.le_of_ble_eq_true rfl))
        intro q271 F268 H269 nx267 e0270 hq272 ht273 hQ
        replace r_script := Rp.mono nx267.ff r_script
        replace r19 := Rp.mono nx267.ff r19
        replace r26 := Rp.mono nx267.ff r26
        replace r54 := Rp.mono nx267.ff r54
        replace r40 := Rp.mono nx267.ff r40
        replace r131 := Rp.mono nx267.ff r131
        replace o205 := o205.nx nx267 (fun z => d180 (z ▸ hq272))
        have hF278 := nx267.fh
        first | with_reducible refine st_n ?_ | skip
        refine st_seq ?_
        refine s_asg ?_ hF278 e0270 hQ ?_
        · exact (g_apl (g_call3 (ma := idx handed (0 : Int)) (mb := idx handed (1 : Int)) (mc := idx handed (2 : Int)) (g_idx (g_var (a := handed) (Rp.mono hF278 r131) (Same.refl _)) g_int (Same.refl _)) (g_idx (g_var (a := handed) (Rp.mono hF278 r131) (Same.refl _)) g_int (Same.refl _)) (g_idx (g_var (a := handed) (Rp.mono hF278 r131) (Same.refl _)) g_int (Same.refl _))))
        intro again v287 F280 H281 nx279 e0282 r288 hQ
        replace r_script := Rp.mono nx279.ff r_script
        replace r19 := Rp.mono nx279.ff r19
        replace r26 := Rp.mono nx279.ff r26
        replace r54 := Rp.mono nx279.ff r54
        replace r40 := Rp.mono nx279.ff r40
        replace r131 := Rp.mono nx279.ff r131
        replace o205 := o205.nx0 nx279
        have hF289 := nx279.fh
        first | with_reducible refine st_n ?_ | skip
        refine s_ret ?_ e0282 hQ (fun a h => h)
        exact (g_sc (F' := H281) (g_andVP (g_eqDy (g_var (a := again) (Rp.mono hF289 r288) (Same.refl _)) (g_dy (g_pair (g_idx (g_var (a := kept) (o205.rep hF289) (Same.refl _)) g_int (Same.refl _)) (g_idx (g_var (a := kept) (o205.rep hF289) (Same.refl _)) g_int (Same.refl _)))) (Same.refl _)) (g_eqD (g_var (a := handed) (Rp.mono hF289 r131) (Same.refl _)) (g_lstK (a_cons (g_var (a := board) (Rp.mono hF289 r26) (Same.refl _)) (a_cons (g_var (a := other) (Rp.mono hF289 r54) (Same.refl _)) (a_cons (g_var (a := bars) (Rp.mono hF289 r40) (Same.refl _)) a_nil))) (Nat.le_of_ble_eq_true rfl)) (Same.refl _))))
    intro F186 H187 nx185 e0188 hQ
    replace hQ := if_f hQ
    refine st_next ?_
    replace A143 := A143.nx0 nx185
    replace ha145 := al_nx nx185 ha145
    replace r_script := Rp.mono nx185.ff r_script
    replace r19 := Rp.mono nx185.ff r19
    replace r26 := Rp.mono nx185.ff r26
    replace r54 := Rp.mono nx185.ff r54
    replace r40 := Rp.mono nx185.ff r40
    replace r131 := Rp.mono nx185.ff r131
    replace R178 := R178.nx0 nx185
    have hF190 := nx185.fh
    obtain ⟨plan297, hp298, hQ⟩ := unD_wp hQ
    have oa299 := R178.way (K := K) hF190 hp298
    have nx300 := nx_tupF hF190 (Same.refl H187)
    obtain ⟨F301, hF302⟩ : ∃ z, z = tupF F186 H187 := ⟨_, rfl⟩
    rw [← hF302] at oa299 nx300
    replace A143 := A143.nx0 nx300
    replace ha145 := al_nx nx300 ha145
    replace r_script := Rp.mono nx300.ff r_script
    replace r19 := Rp.mono nx300.ff r19
    replace r26 := Rp.mono nx300.ff r26
    replace r54 := Rp.mono nx300.ff r54
    replace r40 := Rp.mono nx300.ff r40
    replace r131 := Rp.mono nx300.ff r131
    replace R178 := R178.nx0 nx300
    have hF305 := nx300.fh
    obtain ⟨F306, f307, f308, f309, r310⟩ := oa299.frzI hF305
    replace r_script := Rp.mono f307 r_script
    replace r19 := Rp.mono f307 r19
    replace r26 := Rp.mono f307 r26
    replace r54 := Rp.mono f307 r54
    replace r40 := Rp.mono f307 r40
    replace r131 := Rp.mono f307 r131
    replace A143 := A143.fz f309 d182
    have o303 := R178.fin (K := K) f309 (Rp.mono dif_le r310)
    replace hQ := wp_okb hQ
    obtain ⟨kept, hk304⟩ : ∃ z, z = [Dy.str w172, DyN.dy plan297] := ⟨_, rfl⟩
    rw [← hk304] at hQ o303
    clear hk304
    first | with_reducible refine st_n ?_ | skip
    obtain ⟨u321, hu322, hQ⟩ := unD_wp hQ
    refine st_seq ?_
    refine s_apDieS (me := .ok [(0 : Int)]) A143 (sub_snd (sub_un (sub_v (atv_v rfl)) hu322)) ?he f308 e0188 hQ ?_
    case he => exact (g_lstK (a_cons g_int a_nil) (Nat.le_of_ble_eq_true rfl))
    intro q316 F313 H314 nx312 e0315 hq317 ht318 hQ
    replace r_script := Rp.mono nx312.ff r_script
    replace r19 := Rp.mono nx312.ff r19
    replace r26 := Rp.mono nx312.ff r26
    replace r54 := Rp.mono nx312.ff r54
    replace r40 := Rp.mono nx312.ff r40
    replace r131 := Rp.mono nx312.ff r131
    replace o303 := o303.nx nx312 (fun z => d180 (z ▸ hq317))
    have hF323 := nx312.fh
    first | with_reducible refine st_n ?_ | skip
    refine st_seq ?_
    refine s_asg ?_ hF323 e0315 hQ ?_
    · exact (g_apl (g_call3 (ma := idx handed (0 : Int)) (mb := idx handed (1 : Int)) (mc := idx handed (2 : Int)) (g_idx (g_var (a := handed) (Rp.mono hF323 r131) (Same.refl _)) g_int (Same.refl _)) (g_idx (g_var (a := handed) (Rp.mono hF323 r131) (Same.refl _)) g_int (Same.refl _)) (g_idx (g_var (a := handed) (Rp.mono hF323 r131) (Same.refl _)) g_int (Same.refl _))))
    intro again v332 F325 H326 nx324 e0327 r333 hQ
    replace r_script := Rp.mono nx324.ff r_script
    replace r19 := Rp.mono nx324.ff r19
    replace r26 := Rp.mono nx324.ff r26
    replace r54 := Rp.mono nx324.ff r54
    replace r40 := Rp.mono nx324.ff r40
    replace r131 := Rp.mono nx324.ff r131
    replace o303 := o303.nx0 nx324
    have hF334 := nx324.fh
    first | with_reducible refine st_n ?_ | skip
    refine s_ret ?_ e0327 hQ (fun a h => h)
    exact (g_sc (F' := H326) (g_andVP (g_eqDy (g_var (a := again) (Rp.mono hF334 r333) (Same.refl _)) (g_dy (g_pair (g_idx (g_var (a := kept) (o303.rep hF334) (Same.refl _)) g_int (Same.refl _)) (g_idx (g_var (a := kept) (o303.rep hF334) (Same.refl _)) g_int (Same.refl _)))) (Same.refl _)) (g_eqD (g_var (a := handed) (Rp.mono hF334 r131) (Same.refl _)) (g_lstK (a_cons (g_var (a := board) (Rp.mono hF334 r26) (Same.refl _)) (a_cons (g_var (a := other) (Rp.mono hF334 r54) (Same.refl _)) (a_cons (g_var (a := bars) (Rp.mono hF334 r40) (Same.refl _)) a_nil))) (Nat.le_of_ble_eq_true rfl)) (Same.refl _))))

end
end G

set_option Elab.async false
set_option linter.all false
set_option maxRecDepth 100000
set_option maxHeartbeats 4000000
set_option exponentiation.threshold 10000
namespace G
open PySem L2
/-! the ring game: what a good board is -/
def GB (B : List Int) : Prop := 2 ≤ B.length ∧ B.length ≤ 24 ∧ (∀ x ∈ B, 0 ≤ x) ∧ B.sum ≤ 10 ^ 60
theorem ask_board_ok {B : List Int} (g : GB B) : m_ask_board B = .ok () := by
  obtain ⟨h1, h2, h3, h4⟩ := g
  obtain ⟨m, e, hm⟩ := minR_nn (xs := B) (by intro q; rw [q] at h1; simp at h1) h3
  unfold m_ask_board
  have a : decide ((B.length : Int) < 2) = false := decide_eq_false (by omega)
  have b : decide ((24 : Int) < (B.length : Int)) = false := decide_eq_false (by omega)
  have c : decide (m < 0) = false := decide_eq_false (by omega)
  have d : decide ((10 ^ 60 : Int) < B.sum) = false := decide_eq_false (by omega)
  simp only [R.bd, e, a, b, c, d, Bool.or_false]
  rfl
theorem gb_small {M : List Int} (h0 : 2 ≤ M.length) (h1 : M.length ≤ 24) (h : ∀ x ∈ M, 0 ≤ x ∧ x ≤ (10 ^ 60 - 1) / 24) : GB M := by
  refine ⟨h0, h1, fun x hx => (h x hx).1, ?_⟩
  have := sum_le fun x hx => (h x hx).2
  have h3 : (M.length : Int) * ((10 ^ 60 - 1) / 24) ≤ 24 * ((10 ^ 60 - 1) / 24) := Int.mul_le_mul_of_nonneg_right (by omega) (by decide)
  have h4 : 24 * ((10 ^ 60 - 1) / 24) ≤ (10 ^ 60 : Int) := by decide
  omega
end G

set_option Elab.async false
set_option linter.all false
set_option maxRecDepth 100000
set_option maxHeartbeats 4000000
set_option exponentiation.threshold 10000
namespace G
open PySem L2
/-! how many ways: bn i s is the number of ways to lay s seeds in i + 1 pits -/
def nx (f : Nat → Nat) : Nat → Nat
  | 0 => 1
  | s + 1 => nx f s + f (s + 1)
def bn : Nat → Nat → Nat
  | 0 => fun _ => 1
  | i + 1 => nx (bn i)
def fac : Nat → Nat
  | 0 => 1
  | i + 1 => fac i * (i + 1)
theorem bn_zero (i : Nat) : bn i 0 = 1 := by cases i <;> rfl
theorem bn_pos (i : Nat) : ∀ s : Nat, 0 < bn i s := by
  induction i with
  | zero => exact fun s => Nat.one_pos
  | succ i ih =>
    intro s
    induction s with
    | zero => exact Nat.one_pos
    | succ s ih2 => exact Nat.add_pos_left ih2 _
theorem fac_pos : ∀ i : Nat, 0 < fac i
  | 0 => Nat.one_pos
  | i + 1 => Nat.mul_pos (fac_pos i) (by omega)
theorem bn_both (i : Nat) : (∀ s, (s + 1) * bn i (s + 1) = (s + i + 1) * bn i s) ∧ ∀ s, (i + 1) * bn (i + 1) s = (s + i + 1) * bn i s := by
  have step : ∀ i, (∀ s, (s + 1) * bn i (s + 1) = (s + i + 1) * bn i s) → ∀ s, (i + 1) * bn (i + 1) s = (s + i + 1) * bn i s := by
    intro i h s
    induction s with
    | zero => rw [bn_zero, bn_zero]; omega
    | succ s ih =>
      show (i + 1) * (bn (i + 1) s + bn i (s + 1)) = _
      have := h s
      rw [Nat.mul_add, ih, ← this, ← Nat.add_mul]
      congr 1
  induction i with
  | zero => exact ⟨fun s => by simp [bn], step 0 fun s => by simp [bn]⟩
  | succ i ih =>
    have b : ∀ s, (s + 1) * bn (i + 1) (s + 1) = (s + (i + 1) + 1) * bn (i + 1) s := fun s => by
      show (s + 1) * (bn (i + 1) s + bn i (s + 1)) = _
      rw [Nat.mul_add, ih.1 s, ← ih.2 s, ← Nat.add_mul]
      congr 1
      omega
    exact ⟨b, step _ b⟩
theorem bn_step (i s : Nat) : (i + 1) * bn (i + 1) s = (s + i + 1) * bn i s := (bn_both i).2 s
theorem bn_step' (i s : Nat) : (s + 1) * bn i (s + 1) = (s + i + 1) * bn i s := (bn_both i).1 s
theorem bn_mono {i s t : Nat} (h : s ≤ t) : bn i s ≤ bn i t := by
  induction h with
  | refl => exact Nat.le_refl _
  | step h ih =>
    refine Nat.le_trans ih ?_
    cases i with
    | zero => exact Nat.le_refl _
    | succ i => exact Nat.le_add_right _ _
theorem bn_strict {i s t : Nat} (h : s < t) : bn (i + 1) s < bn (i + 1) t :=
  Nat.lt_of_lt_of_le (Nat.lt_add_of_pos_right (bn_pos i (s + 1))) (bn_mono (i := i + 1) (show s + 1 ≤ t from h))
theorem bn_bd (s : Nat) (h : s ≤ 10 ^ 60) : ∀ i : Nat, i ≤ 24 → bn i s < 2 ^ (201 * i + 1)
  | 0, _ => by
    show 1 < 2 ^ (201 * 0 + 1)
    decide
  | i + 1, hi => by
    have ih := bn_bd s h i (by omega)
    have e := bn_step i s
    have k : bn (i + 1) s ≤ (s + i + 1) * bn i s := by
      rw [← e]
      exact Nat.le_mul_of_pos_left _ (by omega)
    have z : (10 : Nat) ^ 60 + 25 < 2 ^ 201 := by decide
    have k2 : (s + i + 1) * bn i s < 2 ^ 201 * 2 ^ (201 * i + 1) := Nat.lt_of_le_of_lt (Nat.mul_le_mul_right _ (show s + i + 1 ≤ 2 ^ 201 by omega)) (Nat.mul_lt_mul_of_pos_left ih (Nat.pow_pos (by decide)))
    rw [← Nat.pow_add] at k2
    rw [show 201 * (i + 1) + 1 = 201 + (201 * i + 1) by omega]
    exact Nat.lt_of_le_of_lt k k2
theorem pw_cast (k : Nat) : ((2 ^ k : Nat) : Int) = (2 : Int) ^ k := by simp
end G

set_option Elab.async false
set_option linter.all false
set_option maxRecDepth 100000
set_option maxHeartbeats 4000000
set_option exponentiation.threshold 10000
namespace G
open PySem L2
theorem ways_eq {p s : Int} (h1 : 1 ≤ p) (h2 : p ≤ 24) (h3 : 0 ≤ s) (h4 : s ≤ 10 ^ 60) : m_ways_to_lay p s = .ok (bn (p - 1).toNat s.toNat : Int) := by
  refine ok_is ?_
  obtain ⟨n, rfl⟩ : ∃ n : Nat, s = (n : Int) := ⟨s.toNat, by omega⟩
  have hn : n ≤ 10 ^ 60 := by omega
  rw [show ((n : Int)).toNat = n by omega]
  unfold m_ways_to_lay
  refine ok_st (ok_eq (rng2_ok (by omega) (by omega) (by omega) (by omega)) ?_)
  refine ok_bd (ok_forS (fun i (w : Int) => w = (bn i n : Int)) rfl ?_) ?_
  · intro i x w hx rfl
    obtain ⟨rfl, hx2⟩ := rngL_at hx
    have b1 : (n : Int) + (1 + (i : Int)) < 2 ^ 201 := by
      have : (10 ^ 60 : Int) + 24 < 2 ^ 201 := by decide
      omega
    have bb := bn_bd n hn i (by omega)
    have bb' : (bn i n : Int) < 2 ^ (201 * i + 1) := by
      rw [← pw_cast]
      omega
    rw [mulR_ok (w := 201 * i + 1) (v := 201) (by omega) bb' (by omega) b1 (by omega) (by omega) (by omega), bd_ok, divR_ok (w := 5) (by omega) (by omega) (by omega) (by omega), bd_ok]
    refine ok_ret (ediv_eq (r := 0) ?_ (by omega) (by omega))
    have e := bn_step i n
    have e' : (((i + 1) * bn (i + 1) n : Nat) : Int) = (((n + i + 1) * bn i n : Nat) : Int) := by rw [e]
    rw [Int.natCast_mul, Int.natCast_mul] at e'
    rw [Int.mul_comm, Int.add_zero, show (1 + (i : Int)) = ((i + 1 : Nat) : Int) by omega, e']
    congr 1
  · intro w hw
    rw [rngL_len] at hw
    exact ok_st (ok_ret hw)
end G

set_option Elab.async false
set_option linter.all false
set_option maxRecDepth 100000
set_option maxHeartbeats 4000000
set_option exponentiation.threshold 10000
/-! boards counted -/
namespace G
open PySem L2
theorem sizes_ok {p s : Int} (h1 : 2 ≤ p) (h2 : p ≤ 24) (h3 : 0 ≤ s) (h4 : s ≤ 10 ^ 60) : m_ask_sizes p s = .ok () := by
  unfold m_ask_sizes
  rw [dF (show ¬ p < 2 by omega), dF (show ¬ 24 < p by omega), bd_ok]
  refine ok_is (ok_it (fun z => by cases z) fun _ => ?_)
  rw [dF (show ¬ s < 0 by omega), dF (show ¬ (10 ^ 60 : Int) < s by omega), bd_ok]
  exact ok_it (fun z => by cases z) fun _ => ok_ret rfl
theorem count_eq {p s : Int} (h1 : 2 ≤ p) (h2 : p ≤ 24) (h3 : 0 ≤ s) (h4 : s ≤ 10 ^ 60) : m_board_count p s = .ok (bn (p - 1).toNat s.toNat : Int) := by
  unfold m_board_count
  rw [sizes_ok h1 h2 h3 h4, bd_ok, ways_eq (by omega) h2 h3 h4, bd_ok]
end G

set_option Elab.async false
set_option linter.all false
set_option maxRecDepth 100000
set_option maxHeartbeats 4000000
set_option exponentiation.threshold 10000
/-! boards of which there are few; pits that are barred -/
namespace G
open PySem L2
theorem few_ok {B : List Int} (g : GB B) (few : bn (B.length - 1) B.sum.toNat ≤ 1000) : m_ask_few B = .ok () := by
  have s0 := sum_nn (xs := B) g.2.2.1
  have g1 := g.1
  have g2 := g.2.1
  unfold m_ask_few
  rw [count_eq (by omega) (by omega) s0 g.2.2.2, bd_ok, show ((B.length : Int) - 1).toNat = B.length - 1 by omega, dF (by omega), bd_ok, ifF]
theorem few_no {B : List Int} (g : GB B) (few : 1000 < bn (B.length - 1) B.sum.toNat) : m_ask_few B = .er (.own .TooMany) := by
  have s0 := sum_nn (xs := B) g.2.2.1
  have g1 := g.1
  have g2 := g.2.1
  unfold m_ask_few
  rw [count_eq (by omega) (by omega) s0 g.2.2.2, bd_ok, show ((B.length : Int) - 1).toNat = B.length - 1 by omega, dT (by omega), bd_ok, ifT]
end G

set_option Elab.async false
set_option linter.all false
set_option maxRecDepth 100000
set_option maxHeartbeats 4000000
set_option exponentiation.threshold 10000
/-! pits barred -/
namespace G
open PySem L2
/-- barred pits that rise, not none and not all -/
structure Bars (n : Nat) (L : List Int) : Prop where
  up : L.Pairwise (· < ·)
  lo : ∀ x ∈ L, 0 ≤ x
  hi : ∀ x ∈ L, x < n
  l0 : 0 < L.length
  l1 : L.length < n
theorem barred_ok {B L : List Int} (h : Bars B.length L) : m_ask_barred B L = .ok () := by
  have key : ∀ (L : List Int) (last : Int), (∀ x ∈ L, last < x) → L.Pairwise (· < ·) → (∀ x ∈ L, x < B.length) → ∃ r, forS (fun (pit : Int) (last : Int) => 
    R.bd (.ok ((decide (pit ≤ last)) || (decide ((B.length : Int) ≤ pit)))) fun (b48 : Bool) => if b48 = true then
    (.er (.own .BadPits))
  else
    (R.bd (.ok pit) fun (last : Int) =>
  .ok last)) L last = .ok r := by
    intro L
    induction L with
    | nil => intro last _ _ _; exact ⟨_, rfl⟩
    | cons x L ih =>
      intro last h1 h2 h3
      unfold forS
      rw [dF (show ¬ x ≤ last by have := h1 x List.mem_cons_self; omega), dF (show ¬ (B.length : Int) ≤ x by have := h3 x List.mem_cons_self; omega), bd_ok, Bool.or_false, ifF, bd_ok, bd_ok]
      obtain ⟨a, b⟩ := List.pairwise_cons.mp h2
      exact ih x a b fun y hy => h3 y (List.mem_cons_of_mem _ hy)
  obtain ⟨r, e⟩ := key L (-1) (fun x hx => by have := h.lo x hx; omega) h.up h.hi
  have l0 := h.l0
  have l1 := h.l1
  refine ok_is ?_
  unfold m_ask_barred
  rw [bd_ok, bd_ok, e, bd_ok, dF (show ¬ (L.length : Int) = 0 by omega), dF (show ¬ (L.length : Int) = (B.length : Int) by omega), bd_ok]
  exact ok_it (fun z => by cases z) fun _ => ok_ret rfl
end G

set_option Elab.async false
set_option linter.all false
set_option maxRecDepth 100000
set_option maxHeartbeats 4000000
set_option exponentiation.threshold 10000
namespace G
open PySem L2
theorem ask_pit_ok {B : List Int} {p : Int} (h0 : 0 ≤ p) (h1 : p < B.length) : m_ask_pit B p = .ok () := by
  unfold m_ask_pit
  have a : decide (p < 0) = false := decide_eq_false (by omega)
  have b : decide ((B.length : Int) ≤ p) = false := decide_eq_false (by omega)
  simp only [R.bd, a, b, Bool.or_false]
  rfl
theorem ask_pit_no {B : List Int} {p : Int} (h : p < 0 ∨ (B.length : Int) ≤ p) : m_ask_pit B p = .er (.own .BadPit) := by
  unfold m_ask_pit
  have a : (decide (p < 0) || decide ((B.length : Int) ≤ p)) = true := by
    rcases h with h | h
    · rw [decide_eq_true h]; rfl
    · rw [decide_eq_true h]; simp
  simp only [R.bd, a]
  rfl
/-- what the sowing makes -/
def D (p n j : Int) : Int := if p ≤ j then j - p else j - p + n
def sw (B : List Int) (p s : Int) (j : Nat) : Int := (if (j : Int) = p then 0 else B.getD j 0) + s / (B.length : Int) + (if 1 ≤ D p B.length j ∧ D p B.length j ≤ s % (B.length : Int) then 1 else 0)
theorem far_eq {p n j : Int} (h0 : 0 ≤ p) (h1 : p < n) (j0 : 0 ≤ j) (j1 : j < n) : (j - p - 1) % n = if 1 ≤ D p n j then D p n j - 1 else n - 1 := by
  unfold D
  by_cases c : p ≤ j
  · rw [if_pos c]
    by_cases c2 : 1 ≤ j - p
    · rw [if_pos c2, Int.emod_eq_of_lt (by omega) (by omega)]
    · rw [if_neg c2]
      have : j - p - 1 = (n - 1) + n * (-1) := by omega
      rw [this, Int.add_mul_emod_self_left, Int.emod_eq_of_lt (by omega) (by omega)]
  · rw [if_neg c, if_pos (by omega)]
    have : j - p - 1 = (j - p + n - 1) + n * (-1) := by omega
    rw [this, Int.add_mul_emod_self_left, Int.emod_eq_of_lt (by omega) (by omega)]
theorem got_eq {p n j s : Int} (h0 : 0 ≤ p) (h1 : p < n) (j0 : 0 ≤ j) (j1 : j < n) (hs : 0 ≤ s) :
    (if 1 + (j - p - 1) % n ≤ s then 1 + (s - (1 + (j - p - 1) % n)) / n else 0) = s / n + (if 1 ≤ D p n j ∧ D p n j ≤ s % n then 1 else 0) := by
  rw [far_eq h0 h1 j0 j1]
  have hq := Int.mul_ediv_add_emod s n
  have hr := Int.emod_nonneg s (show n ≠ 0 by omega)
  have hr2 := Int.emod_lt_of_pos s (show 0 < n by omega)
  have hq0 : 0 ≤ s / n := Int.ediv_nonneg hs (by omega)
  have hd : 0 ≤ D p n j ∧ D p n j < n := by unfold D; split <;> omega
  generalize D p n j = d at *
  generalize hQ : s / n = q at *
  generalize s % n = r at *
  have key : ∀ f : Int, 1 ≤ f → f ≤ n → (if f ≤ s then 1 + (s - f) / n else 0) = q + (if f ≤ r then 1 else 0) := by
    intro f f1 f2
    by_cases c : f ≤ r
    · have : f ≤ s := by
        have : 0 ≤ n * q := Int.mul_nonneg (by omega) hq0
        omega
      rw [if_pos this, if_pos c, ediv_eq (q := q) (r := r - f) (by omega) (by omega) (by omega)]
      omega
    · rw [if_neg c]
      by_cases c2 : f ≤ s
      · have e : n * q = n * (q - 1) + n := by rw [Int.mul_sub]; omega
        rw [if_pos c2, ediv_eq (q := q - 1) (r := r + n - f) (by omega) (by omega) (by omega)]
        omega
      · rw [if_neg c2]
        by_cases c3 : q = 0
        · omega
        · have : n * 1 ≤ n * q := Int.mul_le_mul_of_nonneg_left (by omega) (by omega)
          omega
  by_cases c : 1 ≤ d
  · rw [if_pos c, show 1 + (d - 1) = d by omega, key d c (by omega)]
    simp [c]
  · rw [if_neg c, show 1 + (n - 1) = n by omega, key n (by omega) (by omega), if_neg (by omega), if_neg (by omega)]
end G

set_option Elab.async false
set_option linter.all false
set_option maxRecDepth 100000
set_option maxHeartbeats 4000000
set_option exponentiation.threshold 10000
namespace G
open PySem L2
theorem emodq {p n k : Int} (h0 : 0 ≤ p) (h1 : p < n) (k0 : 0 ≤ k) (k1 : k < n) : (p - k) % n = if k ≤ p then p - k else p - k + n := by
  by_cases c : k ≤ p
  · rw [if_pos c, Int.emod_eq_of_lt (by omega) (by omega)]
  · rw [if_neg c]
    have : p - k = (p - k + n) + n * (-1) := by omega
    rw [this, Int.add_mul_emod_self_left, Int.emod_eq_of_lt (by omega) (by omega)]
    omega
theorem minR_spec {xs : List Int} (h : xs ≠ []) : ∃ m, minR xs = .ok m ∧ m ∈ xs ∧ ∀ x ∈ xs, m ≤ x := by
  unfold minR
  cases e : xs.min? with
  | none => exact absurd (List.min?_eq_none_iff.mp e) h
  | some m => exact ⟨m, rfl, (List.min?_eq_some_iff.mp e).1, (List.min?_eq_some_iff.mp e).2⟩
theorem getD_some {B : List Int} {j : Nat} (h : j < B.length) : B[j]? = some (B.getD j 0) := by
  rw [List.getElem?_eq_getElem h, List.getD_eq_getElem?_getD, List.getElem?_eq_getElem h]
  rfl
theorem getD_mem {B : List Int} {j : Nat} (h : j < B.length) : B.getD j 0 ∈ B := List.mem_of_getElem? (getD_some h)
theorem seeds_ok {B : List Int} {p x : Int} (g : GB B) (h0 : 0 ≤ p) (h1 : p < B.length) (hz : idx B p = .ok x) (hx : x ≠ 0) : m_ask_seeds B p = .ok () := by
  unfold m_ask_seeds
  rw [ask_board_ok g, bd_ok, ask_pit_ok h0 h1, bd_ok, hz, bd_ok, bd_ok, decide_eq_false hx]
  rfl
theorem seeds_no {B : List Int} {p : Int} (g : GB B) (h0 : 0 ≤ p) (h1 : p < B.length) (hz : idx B p = .ok 0) : m_ask_seeds B p = .er (.own .NoSeeds) := by
  unfold m_ask_seeds
  rw [ask_board_ok g, bd_ok, ask_pit_ok h0 h1, bd_ok, hz]
  rfl
theorem seeds_nopit {B : List Int} {p : Int} (g : GB B) (h : p < 0 ∨ (B.length : Int) ≤ p) : m_ask_seeds B p = .er (.own .BadPit) := by
  unfold m_ask_seeds
  rw [ask_board_ok g, bd_ok, ask_pit_no h]
  rfl
theorem sum_set' : ∀ (l : List Int) (i : Nat) (x a : Int), l[i]? = some x → (l.set i a).sum = l.sum - x + a
  | [], i, x, a, h => by simp at h
  | y :: l, 0, x, a, h => by
    simp at h
    subst h
    simp only [List.set_cons_zero, List.sum_cons]
    omega
  | y :: l, i + 1, x, a, h => by
    have := sum_set' l i x a (by simpa using h)
    simp only [List.set_cons_succ, List.sum_cons, this]
    omega
theorem sum_addc (c : Int) : ∀ l : List Int, (l.map fun held => held + c).sum = l.sum + (l.length : Int) * c
  | [] => by simp
  | x :: l => by
    simp only [List.map_cons, List.sum_cons, sum_addc c l, List.length_cons, Int.natCast_add, Int.add_mul]
    simp
    omega
theorem put_ok {B : List Int} {p s : Int} (h0 : 0 ≤ p) (h1 : p < B.length) (h24 : B.length ≤ 24) (hs : 0 ≤ s) :
    ∃ M, m_put_round (B.set p.toNat 0) p s = .ok M ∧ M.length = B.length ∧ (∀ j, j < B.length → M[j]? = some (sw B p s j)) ∧ M.sum = (B.set p.toNat 0).sum + s := by
  have n0 : (0 : Int) < (B.length : Int) := by omega
  have hl : (((B.set p.toNat 0).length : Nat) : Int) = (B.length : Int) := by simp
  have hr := Int.emod_nonneg s (show (B.length : Int) ≠ 0 by omega)
  have hr2 := Int.emod_lt_of_pos s n0
  have hdm := Int.mul_ediv_add_emod s (B.length : Int)
  unfold m_put_round
  rw [bd_ok, hl, compR_ok (g := fun held => held + s / (B.length : Int)) (by simp; unfold lim; omega) (fun x _ => by rw [divR_ok (w := 5) n0 (by omega) (by omega) (by omega)]; rfl), bd_ok, modR_ok n0, bd_ok, bd_ok, rng2_ok (by omega) (by omega) (by omega) (by omega), bd_ok]
  obtain ⟨M, e, hM⟩ := forS_inv (xs := rngL 1 (s % (B.length : Int) + 1)) (s := (B.set p.toNat 0).map fun held => held + s / (B.length : Int))
    (body := fun (step : Int) (made : (List Int)) => R.bd (R.bd (modR (p + step) (B.length : Int)) fun (t59 : Int) => R.bd (idx made t59) fun (t60 : Int) => setR made t59 (t60 + (1 : Int))) fun (made : List Int) => .ok made)
    (fun i M => M.length = B.length ∧ (∀ j, j < B.length → M[j]? = some ((if (j : Int) = p then 0 else B.getD j 0) + s / (B.length : Int) + (if 1 ≤ D p B.length j ∧ D p B.length j ≤ i then 1 else 0))) ∧ M.sum = (B.set p.toNat 0).sum + (B.length : Int) * (s / (B.length : Int)) + i)
    ⟨by simp, fun j hj => by
      rw [List.getElem?_map, List.getElem?_set]
      have c : ¬ (1 ≤ D p B.length j ∧ D p B.length j ≤ (0 : Nat)) := by omega
      rw [if_neg c]
      by_cases c2 : p.toNat = j
      · rw [if_pos c2, if_pos (by omega), if_pos (by omega)]
        simp
      · rw [if_neg c2, if_neg (by omega), List.getElem?_eq_getElem hj]
        simp [List.getD_eq_getElem?_getD, List.getElem?_eq_getElem hj], by rw [sum_addc]; simp⟩
    (fun i x M hx ⟨hL, hM, hS⟩ => by
      obtain ⟨rfl, hx2⟩ := rngL_at hx
      have ht := emod2 (x := p + (1 + (i : Int))) (p := (B.length : Int)) (by omega) (by omega)
      rw [modR_ok n0, bd_ok, ht]
      generalize hT : (if p + (1 + (i : Int)) < (B.length : Int) then p + (1 + (i : Int)) else p + (1 + (i : Int)) - (B.length : Int)) = t
      have t0 : 0 ≤ t := by rw [← hT]; split <;> omega
      have t1 : t < B.length := by rw [← hT]; split <;> omega
      have hd : D p B.length t = i + 1 := by unfold D; rw [← hT]; split <;> split <;> omega
      have hd2 : ∀ j : Nat, j < B.length → (j : Int) ≠ t → D p B.length j ≠ i + 1 := by
        intro j hj hne
        unfold D
        rw [← hT] at hne
        split at hne <;> split <;> omega
      have g := hM t.toNat (by omega)
      rw [idx_ok t0 g, bd_ok, setR_ok t0 (by omega), bd_ok]
      refine ⟨_, rfl, by simp [hL], fun j hj => ?_, by rw [sum_set' M t.toNat _ _ g, hS]; omega⟩
      rw [List.getElem?_set]
      by_cases c : t.toNat = j
      · have c' : (j : Int) = t := by omega
        rw [if_pos c, if_pos (by omega), ← c, show ((t.toNat : Nat) : Int) = t by omega, hd, if_neg (show ¬ (1 ≤ (i : Int) + 1 ∧ (i : Int) + 1 ≤ (i : Nat)) by omega), if_pos (show 1 ≤ (i : Int) + 1 ∧ (i : Int) + 1 ≤ ((i + 1 : Nat) : Int) by omega)]
        congr 1
        omega
      · rw [if_neg c, hM j hj]
        have := hd2 j hj (by omega)
        congr 2
        by_cases c2 : 1 ≤ D p (B.length) j ∧ D p (B.length) j ≤ (i : Nat)
        · rw [if_pos c2, if_pos (by omega)]
        · rw [if_neg c2, if_neg (by omega)])
  rw [e]
  rw [rngL_len] at hM
  have hr3 : (((s % (B.length : Int) + 1 - 1).toNat : Nat) : Int) = s % (B.length : Int) := by omega
  refine ⟨M, rfl, hM.1, fun j hj => ?_, by rw [hM.2.2, hr3]; omega⟩
  rw [hM.2.1 j hj]
  unfold sw
  rw [hr3]
structure St (B : List Int) (p : Int) : Prop where
  g : GB B
  h0 : 0 ≤ p
  h1 : p < B.length
  pos : 0 < B.getD p.toNat 0
theorem St.idx {B : List Int} {p : Int} (h : St B p) : idx B p = .ok (B.getD p.toNat 0) := idx_ok h.h0 (getD_some (by have := h.h1; have := h.h0; omega))
theorem sown_ok {B : List Int} {p : Int} (h : St B p) : ∃ S, m_sown B p = .ok (S, (p + B.getD p.toNat 0) % (B.length : Int)) ∧ S.length = B.length ∧ (∀ j, j < B.length → S[j]? = some (sw B p (B.getD p.toNat 0) j)) ∧ S.sum = B.sum := by
  obtain ⟨g, h0, h1, pos⟩ := h
  have hi : idx B p = .ok (B.getD p.toNat 0) := idx_ok h0 (getD_some (by omega))
  obtain ⟨S, e, lS, hS, sS⟩ := put_ok (s := B.getD p.toNat 0) h0 h1 g.2.1 (by omega)
  refine ⟨S, ?_, lS, hS, ?_⟩
  · unfold m_sown
    rw [seeds_ok g h0 h1 hi (by omega), bd_ok]
    unfold m_sown_plain
    rw [bd_ok, setR_ok h0 h1, bd_ok, hi, bd_ok, e, bd_ok, bd_ok, bd_ok, modR_ok (by omega), bd_ok, bd_ok]
    rfl
  · rw [sS, sum_set' B p.toNat _ 0 (getD_some (by omega))]
    omega
/-- the last seed falls into a pit that holds seeds then -/
theorem sow_stp {B : List Int} {p : Int} (h : St B p) : ∃ S q, m_sown B p = .ok (S, q) ∧ St S q ∧ S.sum = B.sum ∧ S.length = B.length ∧ q = (p + B.getD p.toNat 0) % (B.length : Int) ∧ ∀ j, j < B.length → S[j]? = some (sw B p (B.getD p.toNat 0) j) := by
  obtain ⟨S, e, lS, hS, sS⟩ := sown_ok h
  obtain ⟨g, h0, h1, pos⟩ := h
  have n0 : (0 : Int) < (B.length : Int) := by omega
  have hS' := hS
  generalize hx : B.getD p.toNat 0 = x at *
  have m0 : 0 ≤ x / (B.length : Int) := Int.ediv_nonneg (by omega) (by omega)
  have t0 := Int.emod_nonneg x (show (B.length : Int) ≠ 0 by omega)
  have t1 := Int.emod_lt_of_pos x n0
  have hdm := Int.mul_ediv_add_emod x (B.length : Int)
  have hq : (p + x) % (B.length : Int) = if p + x % (B.length : Int) < (B.length : Int) then p + x % (B.length : Int) else p + x % (B.length : Int) - (B.length : Int) := by
    have : p + x = (p + x % (B.length : Int)) + (B.length : Int) * (x / (B.length : Int)) := by omega
    rw [this, Int.add_mul_emod_self_left, emod2 (by omega) (by omega)]
  refine ⟨S, _, e, ?_, sS, lS, rfl, hS'⟩
  rw [hq]
  generalize hQ : (if p + x % (B.length : Int) < (B.length : Int) then p + x % (B.length : Int) else p + x % (B.length : Int) - (B.length : Int)) = q
  generalize hm : x / (B.length : Int) = m at *
  generalize ht : x % (B.length : Int) = t at *
  have q0 : 0 ≤ q ∧ q < B.length := by rw [← hQ]; split <;> omega
  have gd : ∀ j, j < B.length → S.getD j 0 = sw B p x j := fun j hj => by rw [List.getD_eq_getElem?_getD, hS j hj]; rfl
  have b0 : ∀ j, j < B.length → 0 ≤ B.getD j 0 := fun j hj => g.2.2.1 _ (getD_mem hj)
  have gS : GB S := ⟨by rw [lS]; exact g.1, by rw [lS]; exact g.2.1, fun y hy => by
    obtain ⟨j, hj⟩ := List.mem_iff_getElem?.mp hy
    have lj := (List.getElem?_eq_some_iff.mp hj).1
    rw [hS j (by omega)] at hj
    cases hj
    have := b0 j (by omega)
    unfold sw
    rw [hm]
    split <;> split <;> omega, by rw [sS]; exact g.2.2.2⟩
  refine ⟨gS, q0.1, by omega, ?_⟩
  rw [gd q.toNat (by omega)]
  unfold sw
  rw [hm, ht, show ((q.toNat : Nat) : Int) = q by omega]
  have b := b0 q.toNat (by omega)
  by_cases c : t = 0
  · have hd : D p B.length q = 0 := by unfold D; rw [← hQ]; split <;> split <;> omega
    have hmp : 0 < m := by
      by_cases c2 : m = 0
      · subst c2
        simp at hdm
        omega
      · omega
    rw [hd, if_neg (show ¬ ((1 : Int) ≤ 0 ∧ (0 : Int) ≤ t) by omega)]
    split <;> omega
  · have hd : D p B.length q = t := by unfold D; rw [← hQ]; split <;> split <;> omega
    rw [hd, if_pos (show 1 ≤ t ∧ t ≤ t by omega)]
    split <;> omega
end G

set_option Elab.async false
set_option linter.all false
set_option maxRecDepth 100000
set_option maxHeartbeats 4000000
set_option exponentiation.threshold 10000
/-! the sowings of a board, and those from free pits -/
namespace G
open PySem L2
/-- what the sowing of a pit makes -/
def swl (B : List Int) (q : Nat) : List Int := (List.range B.length).map fun j => sw B (q : Int) (B.getD q 0) j
theorem swl_len {B : List Int} {q : Nat} : (swl B q).length = B.length := by unfold swl; simp
theorem swl_get {B : List Int} {q j : Nat} (h : j < B.length) : (swl B q)[j]? = some (sw B (q : Int) (B.getD q 0) j) := by
  unfold swl
  rw [List.getElem?_map, List.getElem?_range h]
  rfl
theorem sown_eq {B : List Int} {q : Nat} (h : St B (q : Int)) : m_sown B (q : Int) = .ok (swl B q, ((q : Int) + B.getD q 0) % (B.length : Int)) ∧ St (swl B q) (((q : Int) + B.getD q 0) % (B.length : Int)) ∧ (swl B q).sum = B.sum := by
  obtain ⟨S, t, e, stS, sS, lS, et, hS⟩ := sow_stp h
  have : S = swl B q := by
    apply List.ext_getElem?
    intro j
    by_cases c : j < B.length
    · rw [hS j c, swl_get c]
      rfl
    · rw [List.getElem?_eq_none (by omega), List.getElem?_eq_none (by rw [swl_len]; omega)]
  subst this
  have et : t = ((q : Int) + B.getD q 0) % (B.length : Int) := et
  subst et
  exact ⟨e, stS, sS⟩
theorem st_of {B : List Int} (g : GB B) {q : Nat} (h : q < B.length) (p : 0 < B.getD q 0) : St B (q : Int) := ⟨g, by omega, by omega, p⟩
def nxs (B : List Int) : List (Int × Tu Int) := ((List.range B.length).filter fun (q : Nat) => decide (0 < B.getD q 0)).map fun (q : Nat) => ((q : Int), Tu.mk (swl B q))
theorem nxs_len {B : List Int} : (nxs B).length ≤ B.length := by
  unfold nxs
  rw [List.length_map]
  have := List.length_filter_le (fun q => decide (0 < B.getD q 0)) (List.range B.length)
  rw [List.length_range] at this
  exact this
theorem next_eq {t : Bool} {B : List Int} (g : GB B) : m_next_sowings (Sq.mk t B) = .ok (nxs B) := by
  have g2 := g.2.1
  refine ok_is ?_
  unfold m_next_sowings
  rw [bd_ok, bd_ok]
  refine ok_bd (ok_forS (fun i (told : List (Int × Tu Int)) => i ≤ B.length ∧ told = ((List.range i).filter fun (q : Nat) => decide (0 < B.getD q 0)).map fun (q : Nat) => ((q : Int), Tu.mk (swl B q))) ⟨by omega, rfl⟩ ?_) ?_
  · rintro i ⟨pit, number⟩ told hx ⟨hi, rfl⟩
    obtain ⟨h1, h2⟩ := enumL_at hx
    have h1 : pit = (i : Int) := h1
    have h2 : B[i]? = some number := h2
    subst h1
    have lt : i < B.length := (List.getElem?_eq_some_iff.mp h2).1
    have hn : number = B.getD i 0 := by rw [List.getD_eq_getElem?_getD, h2]; rfl
    subst hn
    rw [List.range_succ, List.filter_append, List.map_append]
    show Ok (R.bd (.ok (decide (0 < B.getD i 0))) _) _
    rw [bd_ok]
    by_cases c : 0 < B.getD i 0
    · rw [dT c, ifT, (sown_eq (st_of g lt c)).1, bd_ok, bd_ok, bd_ok, bd_ok, appR_ok (by
        rw [List.length_map]
        have := List.length_filter_le (fun q => decide (0 < B.getD q 0)) (List.range i)
        rw [List.length_range] at this
        unfold lim
        omega), bd_ok]
      refine ok_ret ⟨by omega, ?_⟩
      rw [List.filter_cons_of_pos (by simpa using c)]
      rfl
    · rw [dF c, ifF]
      refine ok_ret ⟨by omega, ?_⟩
      rw [List.filter_cons_of_neg (by simpa using c)]
      simp
  · rintro told ⟨_, e⟩
    rw [enumL_len] at e
    exact ok_ret e
end G

set_option Elab.async false
set_option linter.all false
set_option maxRecDepth 100000
set_option maxHeartbeats 4000000
set_option exponentiation.threshold 10000
/-! free sowings -/
namespace G
open PySem L2
/-- the sowings from pits that are not barred -/
def fsw (L B : List Int) : List (Int × Tu Int) := (nxs B).filter fun p => !decide (p.1 ∈ L)
theorem mem_fsw {L B : List Int} {p : Int} {T : Tu Int} : (p, T) ∈ fsw L B ↔ ∃ q : Nat, p = (q : Int) ∧ q < B.length ∧ 0 < B.getD q 0 ∧ (q : Int) ∉ L ∧ T = Tu.mk (swl B q) := by
  unfold fsw nxs
  rw [List.mem_filter, List.mem_map]
  constructor
  · rintro ⟨⟨q, hq, e⟩, hn⟩
    cases e
    obtain ⟨h1, h2⟩ := List.mem_filter.mp hq
    exact ⟨q, rfl, List.mem_range.mp h1, of_decide_eq_true h2, by simpa using hn, rfl⟩
  · rintro ⟨q, rfl, h1, h2, h3, rfl⟩
    exact ⟨⟨q, List.mem_filter.mpr ⟨List.mem_range.mpr h1, decide_eq_true h2⟩, rfl⟩, by simpa using h3⟩
/-- a sowing from a free pit -/
def Stp (L B S : List Int) : Prop := ∃ q : Nat, q < B.length ∧ 0 < B.getD q 0 ∧ (q : Int) ∉ L ∧ S = swl B q
theorem stp_mem {L B S : List Int} : Stp L B S ↔ ∃ p, (p, Tu.mk S) ∈ fsw L B := by
  constructor
  · rintro ⟨q, h1, h2, h3, rfl⟩
    exact ⟨_, mem_fsw.mpr ⟨q, rfl, h1, h2, h3, rfl⟩⟩
  · rintro ⟨p, h⟩
    obtain ⟨q, _, h1, h2, h3, e⟩ := mem_fsw.mp h
    exact ⟨q, h1, h2, h3, by injection e⟩
theorem Stp.gb {L B S : List Int} (g : GB B) (h : Stp L B S) : GB S ∧ S.length = B.length ∧ S.sum = B.sum := by
  obtain ⟨q, h1, h2, h3, rfl⟩ := h
  have := sown_eq (st_of g h1 h2)
  exact ⟨this.2.1.g, swl_len, this.2.2⟩
/-- what sowings from free pits come to -/
inductive Rch (L : List Int) : List Int → List Int → Prop
  | refl (B : List Int) : Rch L B B
  | tail {B S T : List Int} : Rch L B S → Stp L S T → Rch L B T
theorem Rch.head {L B S T : List Int} (h : Stp L B S) (r : Rch L S T) : Rch L B T := by
  induction r with
  | refl => exact .tail (.refl _) h
  | tail _ s ih => exact .tail ih s
theorem Rch.trans {L B S T : List Int} (h : Rch L B S) (r : Rch L S T) : Rch L B T := by
  induction r with
  | refl => exact h
  | tail _ s ih => exact .tail ih s
theorem Rch.gb {L B S : List Int} (g : GB B) (h : Rch L B S) : GB S ∧ S.length = B.length ∧ S.sum = B.sum := by
  induction h with
  | refl => exact ⟨g, rfl, rfl⟩
  | tail _ s ih =>
    have := s.gb ih.1
    exact ⟨this.1, this.2.1.trans ih.2.1, this.2.2.trans ih.2.2⟩
end G

set_option Elab.async false
set_option linter.all false
set_option maxRecDepth 100000
set_option maxHeartbeats 4000000
set_option exponentiation.threshold 10000
namespace G
open PySem L2
theorem free_eq {t : Bool} {L B : List Int} (g : GB B) : m_free_sowings (Sq.mk t B) L = .ok (fsw L B) := by
  have g2 := g.2.1
  have := nxs_len (B := B)
  unfold m_free_sowings
  rw [next_eq g, bd_ok, compR_filter (p := fun p : Int × Tu Int => !decide (p.1 ∈ L)) (g := fun p => p) (by unfold lim; omega) (fun _ _ => rfl) (fun _ _ _ => rfl), bd_ok, List.map_id']
  rfl
end G

set_option Elab.async false
set_option linter.all false
set_option maxRecDepth 100000
set_option maxHeartbeats 4000000
set_option exponentiation.threshold 10000
namespace G
open PySem L2
/-! the number of a board -/
def W (i : Nat) (s : Int) : Int := (bn i s.toNat : Int)
def rk : List Int → Int
  | [] => 0
  | x :: l => W l.length (x + l.sum) - W l.length l.sum + rk l
theorem W_pos (i : Nat) (s : Int) : 1 ≤ W i s := by
  have := bn_pos i s.toNat
  unfold W
  omega
theorem W_zero (i : Nat) : W i 0 = 1 := by
  unfold W
  rw [show (0 : Int).toNat = 0 from rfl, bn_zero]
  rfl
theorem W_step {i : Nat} {s : Int} (h : 1 ≤ s) : W (i + 1) s = W (i + 1) (s - 1) + W i s := by
  obtain ⟨n, rfl⟩ : ∃ n : Nat, s = ((n + 1 : Nat) : Int) := ⟨(s - 1).toNat, by omega⟩
  unfold W
  rw [show (((n + 1 : Nat) : Int) - 1).toNat = n by omega, show (((n + 1 : Nat) : Int)).toNat = n + 1 by omega]
  show ((bn (i + 1) n + bn i (n + 1) : Nat) : Int) = _
  omega
theorem W_mono {i : Nat} {s t : Int} (h : s ≤ t) : W i s ≤ W i t := by
  have := bn_mono (i := i) (s := s.toNat) (t := t.toNat) (by omega)
  unfold W
  omega
theorem W_lt {i : Nat} {s t : Int} (h0 : 0 ≤ s) (h : s < t) : W (i + 1) s < W (i + 1) t := by
  have := bn_strict (i := i) (s := s.toNat) (t := t.toNat) (by omega)
  unfold W
  omega
theorem W_up {i : Nat} {s : Int} (h : 0 ≤ s) : W i s ≤ W (i + 1) s := by
  by_cases c : s = 0
  · rw [c, W_zero, W_zero]
    omega
  · have := W_step (i := i) (s := s) (by omega)
    have := W_pos (i + 1) (s - 1)
    omega
def NNl (l : List Int) : Prop := ∀ x ∈ l, 0 ≤ x
theorem NNl.tl {x : Int} {l : List Int} (h : NNl (x :: l)) : NNl l := fun y hy => h y (List.mem_cons_of_mem _ hy)
theorem NNl.hd {x : Int} {l : List Int} (h : NNl (x :: l)) : 0 ≤ x := h x List.mem_cons_self
theorem NNl.sum {l : List Int} (h : NNl l) : 0 ≤ l.sum := sum_nn (xs := l) h
theorem rk_nn : ∀ {l : List Int}, NNl l → 0 ≤ rk l
  | [], _ => by show (0 : Int) ≤ 0; omega
  | x :: l, h => by
    have := rk_nn h.tl
    have := W_mono (i := l.length) (s := l.sum) (t := x + l.sum) (by have := h.hd; omega)
    show 0 ≤ W l.length (x + l.sum) - W l.length l.sum + rk l
    omega
theorem rk_lt : ∀ {x : Int} {l : List Int}, NNl (x :: l) → rk (x :: l) < W l.length (x + l.sum)
  | x, [], _ => by
    show W 0 (x + 0) - W 0 0 + 0 < W 0 (x + 0)
    have := W_pos 0 0
    omega
  | x, y :: m, h => by
    have ih := rk_lt h.tl
    have := W_up (i := m.length) (s := (y :: m).sum) h.tl.sum
    show W (m.length + 1) (x + (y :: m).sum) - W (m.length + 1) (y :: m).sum + rk (y :: m) < W (m.length + 1) (x + (y :: m).sum)
    rw [List.sum_cons] at *
    omega
/-- a smaller first pit, a smaller number -/
theorem rk_head {x y : Int} {l m : List Int} (h : NNl (x :: l)) (g : NNl (y :: m)) (e : l.length = m.length) (s : x + l.sum = y + m.sum) (lt : x < y) : rk (x :: l) < rk (y :: m) := by
  cases l with
  | nil =>
    cases m with
    | nil =>
      simp at s
      omega
    | cons _ _ => simp at e
  | cons a l =>
    cases m with
    | nil => simp at e
    | cons b m =>
      have r1 := rk_lt h.tl
      have r2 := rk_nn g.tl
      have e' : l.length = m.length := by simpa using e
      have s0 := g.tl.sum
      show W (l.length + 1) (x + (a :: l).sum) - W (l.length + 1) (a :: l).sum + rk (a :: l) < W (m.length + 1) (y + (b :: m).sum) - W (m.length + 1) (b :: m).sum + rk (b :: m)
      have w1 := W_step (i := l.length) (s := (a :: l).sum) (by omega)
      have w2 := W_mono (i := l.length + 1) (s := (b :: m).sum) (t := (a :: l).sum - 1) (by omega)
      rw [← e', ← s]
      rw [← List.sum_cons] at r1
      omega
theorem rk_lex : ∀ {l m : List Int}, NNl l → NNl m → l.length = m.length → l.sum = m.sum → ltL (fun a b => decide (a < b)) l m = true → rk l < rk m
  | [], [], _, _, _, _, h => by cases h
  | [], _ :: _, _, _, e, _, _ => by simp at e
  | _ :: _, [], _, _, e, _, _ => by simp at e
  | x :: l, y :: m, h, g, e, s, lt => by
    have e' : l.length = m.length := by simpa using e
    rw [List.sum_cons, List.sum_cons] at s
    have lt : (if x = y then ltL (fun a b => decide (a < b)) l m else decide (x < y)) = true := lt
    by_cases c : x = y
    · subst c
      rw [if_pos rfl] at lt
      have := rk_lex h.tl g.tl e' (by omega) lt
      show W l.length (x + l.sum) - W l.length l.sum + rk l < W m.length (x + m.sum) - W m.length m.sum + rk m
      rw [e', show l.sum = m.sum by omega]
      omega
    · rw [if_neg c] at lt
      exact rk_head h g e' s (of_decide_eq_true lt)
/-- two boards of as many pits and seeds with the same number are the same -/
theorem rk_inj {l m : List Int} (h : NNl l) (g : NNl m) (e : l.length = m.length) (s : l.sum = m.sum) (r : rk l = rk m) : l = m := by
  have tri : ∀ {l m : List Int}, l.length = m.length → l = m ∨ ltL (fun a b => decide (a < b)) l m = true ∨ ltL (fun a b => decide (a < b)) m l = true := by
    intro l
    induction l with
    | nil =>
      intro m e
      cases m with
      | nil => exact .inl rfl
      | cons _ _ => simp at e
    | cons x l ih =>
      intro m e
      cases m with
      | nil => simp at e
      | cons y m =>
        by_cases c : x = y
        · subst c
          rcases ih (m := m) (by simpa using e) with q | q | q
          · exact .inl (by rw [q])
          · refine .inr (.inl ?_)
            show (if x = x then ltL (fun a b => decide (a < b)) l m else decide (x < x)) = true
            rw [if_pos rfl]
            exact q
          · refine .inr (.inr ?_)
            show (if x = x then ltL (fun a b => decide (a < b)) m l else decide (x < x)) = true
            rw [if_pos rfl]
            exact q
        · rcases Int.lt_or_gt_of_ne c with q | q
          · refine .inr (.inl ?_)
            show (if x = y then ltL (fun a b => decide (a < b)) l m else decide (x < y)) = true
            rw [if_neg c]
            exact decide_eq_true q
          · refine .inr (.inr ?_)
            show (if y = x then ltL (fun a b => decide (a < b)) m l else decide (y < x)) = true
            rw [if_neg (fun z => c z.symm)]
            exact decide_eq_true q
  rcases tri e with q | q | q
  · exact q
  · have := rk_lex h g e s q
    omega
  · have := rk_lex g h e.symm s.symm q
    omega
/-- as many numbers below n at most -/
theorem nodup_le : ∀ (n : Nat) (l : List Int), l.Nodup → (∀ x ∈ l, 0 ≤ x ∧ x < n) → l.length ≤ n
  | 0, [], _, _ => Nat.le_refl _
  | 0, x :: l, _, h => by have := h x List.mem_cons_self; omega
  | n + 1, l, nd, h => by
    by_cases c : (n : Int) ∈ l
    · have := nodup_le n (l.erase (n : Int)) (nd.erase _) fun x hx => by
        have a := h x (List.mem_of_mem_erase hx)
        have b : x ≠ (n : Int) := fun z => by rw [z] at hx; exact (List.Nodup.not_mem_erase nd) hx
        omega
      rw [List.length_erase_of_mem c] at this
      omega
    · have := nodup_le n l nd fun x hx => by
        have a := h x hx
        have b : x ≠ (n : Int) := fun z => c (by rw [← z]; exact hx)
        omega
      omega
theorem boards_le {n : Nat} {s : Int} {l : List (List Int)} (nd : l.Nodup) (h : ∀ B ∈ l, NNl B ∧ B.length = n + 1 ∧ B.sum = s) : l.length ≤ bn n s.toNat := by
  have := nodup_le (bn n s.toNat) (l.map rk) (by
    refine List.pairwise_map.mpr (nd.imp_of_mem fun {a b} ha hb ne z => ne ?_)
    have x := h a ha
    have y := h b hb
    exact rk_inj x.1 y.1 (by omega) (by omega) z) fun x hx => by
      obtain ⟨B, hB, rfl⟩ := List.mem_map.mp hx
      obtain ⟨nn, e1, e2⟩ := h B hB
      refine ⟨rk_nn nn, ?_⟩
      cases B with
      | nil => simp at e1
      | cons x B =>
        have := rk_lt nn
        rw [List.sum_cons] at e2
        rw [e2, show B.length = n by simpa using e1] at this
        exact this
  rw [List.length_map] at this
  exact this
end G

set_option Elab.async false
set_option linter.all false
set_option maxRecDepth 100000
set_option maxHeartbeats 4000000
set_option exponentiation.threshold 10000
namespace G
open PySem L2
theorem gb_nn {B : List Int} (g : GB B) : NNl B := g.2.2.1
theorem rch_le {L B : List Int} (g : GB B) {l : List (List Int)} (nd : l.Nodup) (h : ∀ S ∈ l, Rch L B S) : l.length ≤ bn (B.length - 1) B.sum.toNat := by
  have g1 := g.1
  exact boards_le nd fun S hS => by
    have := (h S hS).gb g
    exact ⟨gb_nn this.1, by omega, this.2.2⟩
theorem tu_eta (t : Tu Int) : Tu.mk t.l = t := by cases t; rfl
end G

set_option Elab.async false
set_option linter.all false

set_option Elab.async false
set_option linter.all false
set_option maxRecDepth 100000
set_option maxHeartbeats 4000000
/-! dicts -/
namespace G
open PySem L2
variable {β : Type}
theorem getL_none {l : List (List Int × β)} {k : List Int} : getL l k = none ↔ k ∉ l.map Prod.fst := by
  unfold getL
  rw [Option.map_eq_none_iff, List.find?_eq_none]
  constructor
  · intro h hk
    obtain ⟨e, he, rfl⟩ := List.mem_map.mp hk
    exact absurd (decide_eq_true rfl) (h e he)
  · intro h e he z
    exact h (List.mem_map.mpr ⟨e, he, of_decide_eq_true z⟩)
theorem getL_some {l : List (List Int × β)} {k : List Int} : (getL l k).isSome = true ↔ k ∈ l.map Prod.fst := by
  cases q : getL l k with
  | none =>
    have := getL_none.mp q
    constructor
    · intro h; cases h
    · intro h; exact absurd h this
  | some v =>
    constructor
    · intro _
      by_cases c : k ∈ l.map Prod.fst
      · exact c
      · rw [getL_none.mpr c] at q; cases q
    · intro _; rfl
theorem getL_app {l r : List (List Int × β)} {k : List Int} : getL (l ++ r) k = if (getL l k).isSome = true then getL l k else getL r k := by
  unfold getL
  rw [List.find?_append]
  cases q : l.find? fun e => decide (e.1 = k) with
  | none => rfl
  | some e => rfl
theorem getL_one {k k2 : List Int} {v : β} : getL [(k, v)] k2 = if k = k2 then some v else none := by
  unfold getL
  by_cases c : k = k2
  · rw [if_pos c]
    simp [c]
  · rw [if_neg c]
    simp [c]
theorem putL_new {l : List (List Int × β)} {k : List Int} {v : β} (h : k ∉ l.map Prod.fst) : putL l k v = l ++ [(k, v)] := by
  unfold putL
  rw [getL_none.mpr h]
  rfl
theorem putL_old {l : List (List Int × β)} {k : List Int} {v : β} (h : k ∈ l.map Prod.fst) : (putL l k v).map Prod.fst = l.map Prod.fst := by
  unfold putL
  rw [if_pos (getL_some.mpr h), List.map_map]
  refine List.map_congr_left fun e _ => ?_
  show (if e.1 = k then (e.1, v) else e).1 = e.1
  split <;> rfl
theorem putR_ok {d : Dct β} {k : Tu Int} {v : β} (h : d.l.length < lim) : putR d k v = .ok (d.put k v) := gd_pos h
theorem getR_ok {d : Dct β} {k : Tu Int} {v : β} (h : d.get k = some v) : getR d k = .ok v := by unfold getR; rw [h]
theorem keysR_ok {d : Dct β} (h : d.l.length ≤ lim) (h2 : ∀ e ∈ d.l, e.1 ≠ []) : keysR d = .ok (d.keys.mergeSort fun a b => !Od.lt b a) := gd_pos ⟨h, h2⟩
end G

set_option Elab.async false
set_option linter.all false
set_option maxRecDepth 100000
set_option maxHeartbeats 4000000
set_option exponentiation.threshold 10000
/-! all boards that free sowings come to -/
namespace G
open PySem L2
abbrev Cm := Dct (Option (Tu Int × Int))
/-- what has been found so far -/
structure Sr (L B : List Int) (came : Cm) (line : List (Tu Int)) : Prop where
  keys : came.l.map Prod.fst = line.map Tu.l
  nd : (line.map Tu.l).Nodup
  hd : line[0]? = some (Tu.mk B)
  rc : ∀ t ∈ line, Rch L B t.l
  vl : ∀ (i : Nat) (t : Tu Int), line[i]? = some t → (i = 0 ∧ came.get t = some none) ∨ (0 < i ∧ ∃ (k : Nat) (p : Tu Int) (pit : Int), k < i ∧ line[k]? = some p ∧ (pit, t) ∈ fsw L p.l ∧ came.get t = some (some (p, pit)))
theorem Sr.len {L B : List Int} {came : Cm} {line : List (Tu Int)} (h : Sr L B came line) (g : GB B) : line.length ≤ bn (B.length - 1) B.sum.toNat := by
  have := rch_le (L := L) g h.nd fun S hS => by
    obtain ⟨t, ht, rfl⟩ := List.mem_map.mp hS
    exact h.rc t ht
  rw [List.length_map] at this
  exact this
theorem Sr.clen {L B : List Int} {came : Cm} {line : List (Tu Int)} (h : Sr L B came line) : came.l.length = line.length := by
  have := congrArg List.length h.keys
  rwa [List.length_map, List.length_map] at this
theorem Sr.has {L B : List Int} {came : Cm} {line : List (Tu Int)} (h : Sr L B came line) (t : Tu Int) : (came.get t).isSome = true ↔ t ∈ line := by
  show (getL came.l t.l).isSome = true ↔ _
  rw [getL_some, h.keys, List.mem_map]
  constructor
  · rintro ⟨u, hu, e⟩
    cases u
    cases t
    cases e
    exact hu
  · intro hu
    exact ⟨t, hu, rfl⟩
/-- a board more -/
theorem Sr.more {L B : List Int} {came : Cm} {line : List (Tu Int)} (h : Sr L B came line) {k : Nat} {p t : Tu Int} {pit : Int} (hp : line[k]? = some p) (hs : (pit, t) ∈ fsw L p.l) (new : t ∉ line) : Sr L B (came.put t (some (p, pit))) (line ++ [t]) := by
  have nk : t.l ∉ came.l.map Prod.fst := by
    rw [h.keys]
    intro z
    obtain ⟨u, hu, e⟩ := List.mem_map.mp z
    cases u
    cases t
    cases e
    exact new hu
  have lt := (List.getElem?_eq_some_iff.mp hp).1
  have e : (came.put t (some (p, pit))).l = came.l ++ [(t.l, some (p, pit))] := putL_new nk
  refine ⟨?_, ?_, ?_, fun u hu => ?_, fun i u hu => ?_⟩
  · rw [e, List.map_append, List.map_append, h.keys]
    rfl
  · rw [List.map_append, List.nodup_append]
    refine ⟨h.nd, by simp, fun a ha b hb z => ?_⟩
    have hb : b = t.l := by simpa using hb
    rw [← h.keys, z, hb] at ha
    exact nk ha
  · rw [List.getElem?_append, if_pos (by omega)]
    exact h.hd
  · rcases List.mem_append.mp hu with q | q
    · exact h.rc u q
    · rw [List.mem_singleton.mp q]
      exact .tail (h.rc p (List.mem_of_getElem? hp)) (stp_mem.mpr ⟨pit, by rw [tu_eta]; exact hs⟩)
  · rw [List.getElem?_append] at hu
    by_cases c : i < line.length
    · rw [if_pos c] at hu
      have hm := List.mem_of_getElem? hu
      have gt : (came.put t (some (p, pit))).get u = came.get u := by
        show getL (came.put t (some (p, pit))).l u.l = getL came.l u.l
        rw [e, getL_app, if_pos]
        exact (h.has u).mpr hm
      rcases h.vl i u hu with ⟨a, b⟩ | ⟨a, k2, p2, pit2, b1, b2, b3, b4⟩
      · exact .inl ⟨a, gt.trans b⟩
      · refine .inr ⟨a, k2, p2, pit2, b1, ?_, b3, gt.trans b4⟩
        rw [List.getElem?_append, if_pos (by omega)]
        exact b2
    · rw [if_neg c] at hu
      have : i = line.length ∧ u = t := by
        cases q : i - line.length with
        | zero => rw [q] at hu; exact ⟨by omega, by simpa using hu.symm⟩
        | succ m => rw [q] at hu; simp at hu
      obtain ⟨rfl, rfl⟩ := this
      refine .inr ⟨by omega, k, p, pit, by omega, by rw [List.getElem?_append, if_pos (by omega)]; exact hp, hs, ?_⟩
      show getL (came.put u (some (p, pit))).l u.l = _
      rw [e, getL_app, if_neg (by rw [getL_none.mpr nk]; decide), getL_one, if_pos rfl]
theorem search_ok {L B : List Int} (g : GB B) (few : bn (B.length - 1) B.sum.toNat ≤ 1000) :
    Ok (m_search_free B L) fun came => ∃ line, Sr L B came line ∧ ∀ t ∈ line, ∀ S, Stp L t.l S → Tu.mk S ∈ line := by
  unfold m_search_free
  rw [bd_ok, bd_ok, bd_ok, bd_ok]
  refine ok_bd (ok_whileS (fun (z : Int × Cm × List (Tu Int)) => ∃ n : Nat, z.1 = (n : Int) ∧ n ≤ z.2.2.length ∧ Sr L B z.2.1 z.2.2 ∧ ∀ (i : Nat) (t : Tu Int), i < n → z.2.2[i]? = some t → ∀ S, Stp L t.l S → Tu.mk S ∈ z.2.2) (fun z => 1000 - z.1.toNat) (fun z => ∃ line, Sr L B z.2.1 line ∧ ∀ t ∈ line, ∀ S, Stp L t.l S → Tu.mk S ∈ line) fuel _ ⟨0, rfl, Nat.zero_le _, ⟨rfl, by simp, rfl, fun t ht => ?_, fun i t ht => ?_⟩, fun i t hi => by omega⟩ (by rw [fuel_eq]; show 1000 - _ < _; omega) ?_) ?_
  · have : t = Tu.mk B := by simpa using ht
    rw [this]
    exact .refl _
  · cases i with
    | zero =>
      have : t = Tu.mk B := by simpa using ht.symm
      rw [this]
      refine .inl ⟨rfl, ?_⟩
      show getL [(B, none)] B = _
      rw [getL_one, if_pos rfl]
    | succ i => simp at ht
  · rintro ⟨at_, came, line⟩ ⟨n, rfl, h1, h2, h3⟩
    have h1 : n ≤ line.length := h1
    have h2 : Sr L B came line := h2
    have h3 : ∀ (i : Nat) (t : Tu Int), i < n → line[i]? = some t → ∀ S, Stp L t.l S → Tu.mk S ∈ line := h3
    have len := h2.len g
    refine ok_ret ?_
    by_cases c : n < line.length
    · rw [dT (show (n : Int) < (line.length : Int) by omega), if_pos rfl]
      have hp := List.getElem?_eq_getElem (l := line) (i := n) c
      generalize line[n] = p at hp
      have gp := (h2.rc p (List.mem_of_getElem? hp)).gb g
      show Ok (R.bd (R.bd (R.bd (idx line (n : Int)) fun (t49 : Tu Int) => .ok (Sq.mk true t49.l)) fun (t50 : Sq Int) => m_free_sowings t50 L) _) _
      rw [idx_nat hp, bd_ok, bd_ok, free_eq gp.1, bd_ok]
      refine ok_bd (ok_forS (fun j (z : Cm × List (Tu Int)) => Sr L B z.1 z.2 ∧ (∃ r, z.2 = line ++ r) ∧ ∀ (i : Nat) (q : Int × Tu Int), i < j → (fsw L p.l)[i]? = some q → q.2 ∈ z.2) ⟨h2, ⟨[], by simp⟩, fun i q hi => by omega⟩ ?_) ?_
      · rintro j ⟨pit, t⟩ ⟨came2, line2⟩ hx ⟨s1, ⟨r, s2⟩, s3⟩
        have s1 : Sr L B came2 line2 := s1
        have s2 : line2 = line ++ r := s2
        have s3 : ∀ (i : Nat) (q : Int × Tu Int), i < j → (fsw L p.l)[i]? = some q → q.2 ∈ line2 := s3
        have hs : (pit, t) ∈ fsw L p.l := List.mem_of_getElem? hx
        have hp2 : line2[n]? = some p := by rw [s2, List.getElem?_append, if_pos c]; exact hp
        have len2 := s1.len g
        have clen := s1.clen
        have next : ∀ {l2 : List (Tu Int)}, (∀ u ∈ line2, u ∈ l2) → t ∈ l2 → ∀ (i : Nat) (q : Int × Tu Int), i < j + 1 → (fsw L p.l)[i]? = some q → q.2 ∈ l2 := fun sub ht i q hi hq => by
          by_cases ci : i < j
          · exact sub _ (s3 i q ci hq)
          · have : i = j := by omega
            subst this
            rw [hx] at hq
            cases hq
            exact ht
        show Ok (R.bd (.ok (!(came2.get t).isSome)) _) _
        rw [bd_ok]
        by_cases new : t ∈ line2
        · rw [(s1.has t).mpr new, Bool.not_true, ifF]
          exact ok_ret ⟨s1, ⟨r, s2⟩, next (fun u hu => hu) new⟩
        · have : (came2.get t).isSome = false := by
            cases q : (came2.get t).isSome with
            | false => rfl
            | true => exact absurd ((s1.has t).mp q) new
          rw [this, Bool.not_false, ifT, idx_nat hp2, bd_ok, bd_ok, bd_ok, putR_ok (by unfold lim; omega), bd_ok, appR_ok (by unfold lim; omega), bd_ok]
          exact ok_ret ⟨s1.more hp2 hs new, ⟨r ++ [t], by show line2 ++ [t] = _; rw [s2, List.append_assoc]⟩, next (fun u hu => List.mem_append_left _ hu) (List.mem_append_right _ (List.mem_singleton.mpr rfl))⟩
      · rintro ⟨came2, line2⟩ ⟨s1, ⟨r, s2⟩, s3⟩
        have s1 : Sr L B came2 line2 := s1
        have s2 : line2 = line ++ r := s2
        have s3 : ∀ (i : Nat) (q : Int × Tu Int), i < (fsw L p.l).length → (fsw L p.l)[i]? = some q → q.2 ∈ line2 := s3
        show Ok (R.bd (.ok ((n : Int) + 1)) _) _
        rw [bd_ok]
        refine ok_ret ⟨⟨n + 1, rfl, by show n + 1 ≤ line2.length; rw [s2, List.length_append]; omega, s1, fun i t hi ht S hS => ?_⟩, ?_⟩
        · have ht : line2[i]? = some t := ht
          show Tu.mk S ∈ line2
          by_cases ci : i < n
          · rw [s2, List.getElem?_append, if_pos (by omega)] at ht
            rw [s2]
            exact List.mem_append_left _ (h3 i t ci ht S hS)
          · have : i = n := by omega
            subst this
            rw [s2, List.getElem?_append, if_pos c, hp] at ht
            cases ht
            obtain ⟨pit, hm⟩ := stp_mem.mp hS
            obtain ⟨i2, hi2⟩ := List.mem_iff_getElem?.mp hm
            exact s3 i2 _ (List.getElem?_eq_some_iff.mp hi2).1 hi2
        · show 1000 - ((n : Int) + 1).toNat < 1000 - ((n : Int)).toNat
          omega
    · rw [dF (show ¬ (n : Int) < (line.length : Int) by omega), if_neg (by decide)]
      refine ⟨line, h2, fun t ht S hS => ?_⟩
      obtain ⟨i, hi⟩ := List.mem_iff_getElem?.mp ht
      have := (List.getElem?_eq_some_iff.mp hi).1
      exact h3 i t (by omega) hi S hS
  · rintro ⟨at_, came, line⟩ ⟨l2, h, k⟩
    exact ok_ret ⟨l2, h, k⟩
/-- all that can be reached is there -/
theorem all_there {L B : List Int} {came : Cm} {line : List (Tu Int)} (h : Sr L B came line) (k : ∀ t ∈ line, ∀ S, Stp L t.l S → Tu.mk S ∈ line) {S : List Int} (r : Rch L B S) : Tu.mk S ∈ line := by
  induction r with
  | refl => exact List.mem_of_getElem? h.hd
  | tail _ s ih => exact k _ ih _ s
end G

set_option Elab.async false
set_option linter.all false
set_option maxRecDepth 100000
set_option maxHeartbeats 4000000
set_option exponentiation.threshold 10000
/-! rows of free sowings -/
namespace G
open PySem L2
inductive Pth (L : List Int) : List Int → List Int → List Int → Prop
  | nil (B : List Int) : Pth L B [] B
  | cons {B S : List Int} {q : Int} {t : Tu Int} {r : List Int} : (q, t) ∈ fsw L B → Pth L t.l r S → Pth L B (q :: r) S
theorem Pth.snoc {L B S ps : List Int} {q : Int} {t : Tu Int} (h : Pth L B ps S) (m : (q, t) ∈ fsw L S) : Pth L B (ps ++ [q]) t.l := by
  induction h with
  | nil => exact .cons m (.nil _)
  | cons a _ ih => exact .cons a (ih m)
theorem fsw_stp {L B : List Int} {q : Int} {t : Tu Int} (m : (q, t) ∈ fsw L B) : Stp L B t.l := stp_mem.mpr ⟨q, by rw [tu_eta]; exact m⟩
theorem Pth.rch {L B S ps : List Int} (h : Pth L B ps S) : Rch L B S := by
  induction h with
  | nil => exact .refl _
  | cons a _ ih => exact ih.head (fsw_stp a)
def swd (ps : List Int) : List (Str × Int) := ps.map fun q => (("sow" : Str), q)
end G

set_option Elab.async false
set_option linter.all false
set_option maxRecDepth 100000
set_option maxHeartbeats 4000000
set_option exponentiation.threshold 10000
/-! the row of sowings to a board -/
namespace G
open PySem L2
/-- the row of sowings to a board that was found -/
theorem back_ok {L B : List Int} {came : Cm} {line : List (Tu Int)} (h : Sr L B came line) (len : line.length ≤ 1000) {O : Tu Int} (hO : O ∈ line) : Ok (m_plan_back came O) fun pl => ∃ ps, pl = swd ps ∧ Pth L B ps O.l ∧ ps.length ≤ 1000 := by
  obtain ⟨i0, hi0⟩ := List.mem_iff_getElem?.mp hO
  have lt0 := (List.getElem?_eq_some_iff.mp hi0).1
  have first : ∀ {t : Tu Int}, line[0]? = some t → t = Tu.mk B := fun h0 => by
    have := h.hd
    rw [h0] at this
    exact Option.some.inj this
  unfold m_plan_back
  rw [bd_ok]
  refine ok_bd (ok_whileS (fun (z : Tu Int × List (Str × Int)) => ∃ (i : Nat) (ps : List Int), line[i]? = some z.1 ∧ z.2 = (swd ps).reverse ∧ Pth L z.1.l ps O.l ∧ ps.length + i ≤ 1000) (fun z => 1000 - z.2.length) (fun z => ∃ ps, z.2 = (swd ps).reverse ∧ Pth L B ps O.l ∧ ps.length ≤ 1000) fuel (O, []) ⟨i0, [], hi0, rfl, .nil _, by show 0 + i0 ≤ 1000; omega⟩ (by rw [fuel_eq]; show 1000 - _ < _; omega) ?_) ?_
  · rintro ⟨t, plan⟩ ⟨i, ps, e1, e2, e3, e4⟩
    have e1 : line[i]? = some t := e1
    have e2 : plan = (swd ps).reverse := e2
    have e3 : Pth L t.l ps O.l := e3
    show Ok (R.bd (getR came t) fun (t20 : Option ((Tu Int) × Int)) => .ok t20.isSome) _
    rcases h.vl i t e1 with ⟨a, b⟩ | ⟨a, k, p, pit, b1, b2, b3, b4⟩
    · subst a
      rw [getR_ok b, bd_ok]
      refine ok_ret ?_
      have := first e1
      subst this
      exact ⟨ps, e2, e3, by omega⟩
    · rw [getR_ok b4, bd_ok]
      refine ok_ret ?_
      show Ok (R.bd (R.bd (getR came t) unO) _) _
      rw [getR_ok b4]
      show Ok (R.bd (.ok (p, pit)) _) _
      rw [bd_ok]
      have pl : plan.length = ps.length := by rw [e2, List.length_reverse]; unfold swd; rw [List.length_map]
      show Ok (R.bd (appR plan (("sow" : Str), pit)) _) _
      rw [appR_ok (by unfold lim; omega), bd_ok]
      refine ok_ret ⟨⟨k, pit :: ps, b2, ?_, .cons b3 e3, by rw [List.length_cons]; omega⟩, ?_⟩
      · show plan ++ [(("sow" : Str), pit)] = (swd (pit :: ps)).reverse
        rw [e2]
        unfold swd
        rw [List.map_cons, List.reverse_cons]
      · show 1000 - (plan ++ [(("sow" : Str), pit)]).length < 1000 - plan.length
        rw [List.length_append]
        have : ([(("sow" : Str), pit)] : List (Str × Int)).length = 1 := rfl
        omega
  · rintro ⟨t, plan⟩ ⟨ps, e2, e3, e4⟩
    have e2 : plan = (swd ps).reverse := e2
    refine ok_ret ⟨ps, ?_, e3, e4⟩
    show plan.reverse = _
    rw [e2, List.reverse_reverse]
end G

set_option Elab.async false
set_option linter.all false
set_option maxRecDepth 100000
set_option maxHeartbeats 4000000
/-! lists of numbers in order: any two orders of one set are the same -/
namespace G
open PySem L2
abbrev lt1 : List Int → List Int → Bool := ltL (fun a b => decide (a < b))
theorem lt1_nc {y : Int} {m : List Int} : lt1 [] (y :: m) = true := rfl
theorem lt1_cc {x y : Int} {l m : List Int} : lt1 (x :: l) (y :: m) = if x = y then lt1 l m else decide (x < y) := rfl
theorem lt1_irr : ∀ l : List Int, lt1 l l = false
  | [] => rfl
  | x :: l => by rw [lt1_cc, if_pos rfl]; exact lt1_irr l
theorem lt1_tri : ∀ l m : List Int, l = m ∨ lt1 l m = true ∨ lt1 m l = true
  | [], [] => .inl rfl
  | [], _ :: _ => .inr (.inl rfl)
  | _ :: _, [] => .inr (.inr rfl)
  | x :: l, y :: m => by
    rw [lt1_cc, lt1_cc]
    by_cases c : x = y
    · subst c
      rw [if_pos rfl, if_pos rfl]
      rcases lt1_tri l m with h | h | h
      · rw [h]; exact .inl rfl
      · exact .inr (.inl h)
      · exact .inr (.inr h)
    · rw [if_neg c, if_neg (Ne.symm c), decide_eq_true_iff, decide_eq_true_iff]
      omega
theorem lt1_tr : ∀ {l m n : List Int}, lt1 l m = true → lt1 m n = true → lt1 l n = true
  | [], [], _, h, _ => by cases h
  | [], _ :: _, [], _, h => by cases h
  | [], _ :: _, _ :: _, _, _ => rfl
  | _ :: _, [], _, h, _ => by cases h
  | _ :: _, _ :: _, [], _, h => by cases h
  | x :: l, y :: m, z :: n, h, g => by
    rw [lt1_cc] at h g ⊢
    split at h
    · split at g
      · rw [if_pos (by omega)]; exact lt1_tr h g
      · have := of_decide_eq_true g
        rw [if_neg (by omega), decide_eq_true_iff]; omega
    · have h := of_decide_eq_true h
      split at g
      · rw [if_neg (by omega), decide_eq_true_iff]; omega
      · have := of_decide_eq_true g
        rw [if_neg (by omega), decide_eq_true_iff]; omega
abbrev le1 (a b : List Int) : Bool := !lt1 b a
theorem le1_tr (a b c : List Int) (h : le1 a b = true) (g : le1 b c = true) : le1 a c = true := by
  unfold le1 at *
  rw [Bool.not_eq_true'] at *
  cases q : lt1 c a with
  | false => rfl
  | true =>
    rcases lt1_tri b c with z | z | z
    · rw [z, q] at h; cases h
    · rw [lt1_tr z q] at h; cases h
    · rw [z] at g; cases g
theorem le1_tot (a b : List Int) : (le1 a b || le1 b a) = true := by
  unfold le1
  cases q : lt1 b a with
  | false => rfl
  | true =>
    cases r : lt1 a b with
    | false => rfl
    | true => have := lt1_tr q r; rw [lt1_irr] at this; cases this
theorem le1_anti {a b : List Int} (h : le1 a b = true) (g : le1 b a = true) : a = b := by
  unfold le1 at *
  rw [Bool.not_eq_true'] at *
  rcases lt1_tri a b with z | z | z
  · exact z
  · rw [z] at g; cases g
  · rw [z] at h; cases h
theorem sort_perm {l m : List (List Int)} (p : l.Perm m) : l.mergeSort le1 = m.mergeSort le1 :=
  List.Perm.eq_of_pairwise (le := fun a b => le1 a b = true) (fun _ _ _ _ h g => le1_anti h g) (List.pairwise_mergeSort le1_tr le1_tot l) (List.pairwise_mergeSort le1_tr le1_tot m) (((List.mergeSort_perm l le1).trans p).trans (List.mergeSort_perm m le1).symm)
theorem perm_of {l m : List (List Int)} (hl : l.Nodup) (hm : m.Nodup) (h : ∀ x, x ∈ l ↔ x ∈ m) : l.Perm m := (List.perm_ext_iff_of_nodup hl hm).mpr h
/-- sorted tuples as lists -/
theorem sort_tu (ks : List (Tu Int)) : (ks.mergeSort fun a b => !Od.lt b a).map Tu.l = (ks.map Tu.l).mergeSort le1 := List.map_mergeSort (r := fun a b : Tu Int => !Od.lt b a) (s := le1) (f := Tu.l) (fun a _ b _ => rfl)
theorem sort_same {ks : List (Tu Int)} {line : List (List Int)} (hl : ((ks.mergeSort fun a b => !Od.lt b a).map Tu.l).Nodup) (hm : line.Nodup) (h : ∀ x, x ∈ (ks.mergeSort fun a b => !Od.lt b a).map Tu.l ↔ x ∈ line) : (ks.mergeSort fun a b => !Od.lt b a).map Tu.l = line.mergeSort fun a b => !Od.lt b a := by
  rw [sort_tu] at hl h ⊢
  refine sort_perm (perm_of ((List.mergeSort_perm _ le1).nodup_iff.mp hl) hm fun x => ?_)
  rw [← h x, (List.mergeSort_perm _ le1).mem_iff]
end G

set_option Elab.async false
set_option linter.all false
set_option maxRecDepth 100000
set_option maxHeartbeats 4000000
set_option exponentiation.threshold 10000
namespace G
open PySem L2
/-! the cells of a script -/
theorem cell_at_ok (ns : List Int) {k : Int} (h : 0 ≤ k) : ∃ c, m__law_cell_at ⟨ns⟩ k = .ok c := by
  unfold m__law_cell_at
  by_cases c : k < (ns.length : Int)
  · have g : idx (Scr.mk ns).l k = .ok (ns[k.toNat]'(by omega)) := idx_at h c
    rw [bd_ok, dT (show k < ((Scr.mk ns).l.length : Int) from c), ifT, g]
    exact ⟨_, rfl⟩
  · rw [bd_ok, dF (show ¬ k < ((Scr.mk ns).l.length : Int) from c), ifF]
    exact ⟨_, rfl⟩
theorem stirred_ok (c j : Int) : ∃ q, m__law_stirred c j = .ok q := by
  unfold m__law_stirred
  have a0 := Int.emod_nonneg (((c % (2147483647 : Int)) + ((1009 : Int) * j) + (7 : Int)) * (48271 : Int)) (b := 2147483647) (by decide)
  have a1 := Int.emod_lt_of_pos (((c % (2147483647 : Int)) + ((1009 : Int) * j) + (7 : Int)) * (48271 : Int)) (b := 2147483647) (by decide)
  rw [bd_ok, mulR_ok (w := 31) (v := 31) a0 (by omega) a0 (by omega) (by decide) (by decide) (by decide)]
  exact ⟨_, rfl⟩
theorem cells_ok (ns : List Int) (hl : ns.length ≤ 63) {later most : Int} (h0 : 0 ≤ later) (h1 : later ≤ 100) (h2 : 1 ≤ most) (h3 : most ≤ 200) : Ok (m__law_sums ⟨ns⟩ later most) fun l => (l.length : Int) = most := by
  unfold m__law_sums
  rw [rng1_ok (by omega) (by omega), bd_ok, compR_ok (g := fun _ => (0 : Int)) (by rw [rngL_len]; unfold lim; omega) (fun _ _ => rfl), bd_ok]
  have hz : ((Scr.mk ns).l.length : Int) = ns.length := rfl
  rw [rng2_ok h0 (by omega) (by omega) (by omega), bd_ok]
  refine ok_bd (ok_forS (fun i (l : List Int) => (l.length : Int) = most) (by rw [List.length_map, rngL_len]; omega) ?_) fun l hL => ok_st (ok_ret hL)
  intro i x l hx hL
  obtain ⟨rfl, hx2⟩ := rngL_at hx
  have m0 := Int.emod_nonneg (later + (i : Int) - later) (show most ≠ 0 by omega)
  have m1 := Int.emod_lt_of_pos (later + (i : Int) - later) (show 0 < most by omega)
  have g := idx_at (xs := (Scr.mk ns).l) (i := later + (i : Int)) (by omega) hx2
  generalize (later + (i : Int) - later) % most = a at m0 m1
  have key : R.bd (modR (later + (i : Int) - later) most) (fun at_ => R.ok at_) = R.ok ((later + (i : Int) - later) % most) := by rw [modR_ok (by omega), bd_ok]
  rw [modR_ok (by omega)]
  have m0 := Int.emod_nonneg (later + (i : Int) - later) (show most ≠ 0 by omega)
  have m1 := Int.emod_lt_of_pos (later + (i : Int) - later) (show 0 < most by omega)
  generalize (later + (i : Int) - later) % most = a at m0 m1
  have g1 := idx_at (xs := l) m0 (by omega)
  rw [bd_ok, g1, g, bd_ok, bd_ok, bd_ok, bd_ok, bd_ok, setR_ok m0 (by omega), bd_ok, idx_at m0 (by simp; omega), bd_ok, bd_ok, setR_ok m0 (by simp; omega), bd_ok]
  refine ok_ret ?_
  simp [hL]
end G

set_option Elab.async false
set_option linter.all false
set_option maxRecDepth 100000
set_option maxHeartbeats 4000000
set_option exponentiation.threshold 10000
namespace G
open PySem L2
theorem row_ok (ns : List Int) (hl : ns.length ≤ 63) {skip many b : Int} (mixed : Bool) (h0 : 0 ≤ skip) (h1 : skip ≤ 100) (h2 : 0 ≤ many) (h3 : many ≤ 200) (h4 : 1 ≤ b) (h5 : b ≤ 1000) :
    Ok (m__law_row ⟨ns⟩ skip many b mixed) fun l => (l.length : Int) = many ∧ ∀ x ∈ l, 0 ≤ x ∧ x < b := by
  unfold m__law_row
  cases mixed with
  | true =>
    rw [bd_ok, ifT]
    have hm : 1 ≤ (if many > (1 : Int) then many else (1 : Int)) ∧ (if many > (1 : Int) then many else (1 : Int)) ≤ 200 ∧ many ≤ (if many > (1 : Int) then many else (1 : Int)) := by split <;> omega
    generalize (if many > (1 : Int) then many else (1 : Int)) = w at hm
    refine ok_bd (cells_ok ns hl h0 h1 hm.1 hm.2.1) fun s hs => ?_
    rw [rng1_ok (by omega) (by omega), bd_ok]
    refine ok_bd (ok_compR (fun i (x : Int) => 0 ≤ x ∧ x < b) (by rw [rngL_len]; unfold lim; omega) fun i x hx => ?_) fun l hL => ok_ret ⟨by rw [hL.1, rngL_len]; omega, fun x hx => ?_⟩
    · obtain ⟨rfl, hx2⟩ := rngL_at hx
      rw [idx_at (by omega) (by omega), bd_ok]
      obtain ⟨q, e⟩ := stirred_ok (s[(0 + (i : Int)).toNat]'(by omega)) (0 + (i : Int))
      rw [e, bd_ok, modR_ok (by omega)]
      exact ok_ret ⟨Int.emod_nonneg _ (by omega), Int.emod_lt_of_pos _ (by omega)⟩
    · obtain ⟨i, hi⟩ := List.mem_iff_getElem?.mp hx
      exact hL.2 i x hi
  | false =>
    have hc : (cut (Scr.mk ns).l (some skip) none).length ≤ lim := by
      unfold cut
      rw [List.length_take, List.length_drop]
      have : (Scr.mk ns).l.length ≤ 63 := hl
      unfold lim
      omega
    rw [bd_ok, ifF, compR_ok (g := fun cell => cell % (10 ^ 61 : Int)) hc (fun _ _ => rfl), bd_ok, bd_ok, bd_ok, rng1_ok (by omega) (by omega), bd_ok]
    refine ok_bd (ok_forS (fun i (s : Int × List Int) => s.2.length = i ∧ ∀ x ∈ s.2, 0 ≤ x ∧ x < b) ⟨rfl, fun x hx => by cases hx⟩ ?_) ?_
    · rintro i x ⟨total, row⟩ hx ⟨r1, r2⟩
      have r1 : row.length = i := r1
      have r2 : ∀ x ∈ row, 0 ≤ x ∧ x < b := r2
      have hi := (List.getElem?_eq_some_iff.mp hx).1
      rw [rngL_len] at hi
      have g1 : modR total b = .ok (total % b) := modR_ok (by omega)
      have g2 : divR total b = .ok (total / b) := divR_ok (w := 10) (by omega) (by omega) (by decide) (by decide)
      have g3 : appR row (total % b) = .ok (row ++ [total % b]) := appR_ok (by unfold lim; omega)
      simp only [if_true, if_false, decide_true, decide_false, Bool.false_eq_true, Bool.true_eq_false, bd_ok, bd_er, bd_bad, ifT, ifF, Bool.not_true, Bool.not_false, Bool.true_and, Bool.and_true, Bool.false_and, Bool.and_false, Bool.true_or, Bool.or_true, Bool.false_or, Bool.or_false, Option.isNone, Option.isSome, flk, unO, g1, g2, g3]
      refine ok_ret ⟨by show (row ++ [total % b]).length = i + 1; simp [r1], fun y hy => ?_⟩
      rcases List.mem_append.mp hy with h | h
      · exact r2 y h
      · rw [List.mem_singleton.mp h]
        exact ⟨Int.emod_nonneg _ (by omega), Int.emod_lt_of_pos _ (by omega)⟩
    · rintro ⟨total, row⟩ ⟨r1, r2⟩
      have r1 : row.length = (rngL 0 many).length := r1
      rw [rngL_len] at r1
      refine ok_st (ok_ret ⟨?_, r2⟩)
      show (row.length : Int) = many
      omega
end G

set_option Elab.async false
set_option linter.all false
set_option maxRecDepth 100000
set_option maxHeartbeats 4000000
set_option exponentiation.threshold 10000
namespace G
open PySem L2
/-- the law sows as the program does -/
theorem lsown_ok {B : List Int} {p : Int} (h : St B p) : ∃ S q, m_sown B p = .ok (S, q) ∧ m__law_sown B p = .ok (S, q) ∧ St S q ∧ S.sum = B.sum ∧ S.length = B.length ∧ q = (p + B.getD p.toNat 0) % (B.length : Int) ∧ ∀ j, j < B.length → S[j]? = some (sw B p (B.getD p.toNat 0) j) := by
  obtain ⟨S, q, e, stS, sS, lS, eq, hS⟩ := sow_stp h
  refine ⟨S, q, e, ?_, stS, sS, lS, eq, hS⟩
  obtain ⟨g, h0, h1, pos⟩ := h
  rw [eq]
  have g1 := g.1
  have g2 := g.2.1
  have h0 : 0 ≤ p := h0
  have h1 : p < B.length := h1
  have n0 : 0 < (B.length : Int) := by omega
  refine ok_is ?_
  show Ok (m__law_sown B p) _
  unfold m__law_sown
  have hi : idx B p = .ok (B.getD p.toNat 0) := idx_ok h0 (getD_some (by omega))
  have pos : 0 < B.getD p.toNat 0 := pos
  have hS : ∀ j, j < B.length → S[j]? = some (sw B p (B.getD p.toNat 0) j) := hS
  have lS : S.length = B.length := lS
  rw [bd_ok, hi, bd_ok, bd_ok]
  generalize B.getD p.toNat 0 = x at *
  have x0 := Int.emod_nonneg x (show (B.length : Int) ≠ 0 by omega)
  have x1 := Int.emod_lt_of_pos x n0
  have nx : (B.length : Int) < 2 ^ 5 := by
    have : (2 : Int) ^ 5 = 32 := by decide
    omega
  rw [setR_ok h0 h1, bd_ok, rng1_ok (by omega) (by omega), bd_ok]
  refine ok_bd (ok_forS (fun i (M : List Int) => M.length = B.length ∧ ∀ j : Nat, j < B.length → M[j]? = some ((if (j : Int) = p then 0 else B.getD j 0) + (if ((j : Int) - p - 1) % (B.length : Int) < (i : Int) then x / (B.length : Int) + (if ((j : Int) - p - 1) % (B.length : Int) < x % (B.length : Int) then 1 else 0) else 0))) ⟨by simp, fun j hj => ?_⟩ ?_) ?_
  · have := Int.emod_nonneg ((j : Int) - p - 1) (show (B.length : Int) ≠ 0 by omega)
    rw [if_neg (show ¬ ((j : Int) - p - 1) % (B.length : Int) < ((0 : Nat) : Int) by omega), List.getElem?_set]
    by_cases c : p.toNat = j
    · rw [if_pos c, if_pos (by omega), if_pos (by omega)]
      rfl
    · rw [if_neg c, if_neg (by omega), getD_some hj, Int.add_zero]
  · intro i k M hk ⟨hL, hM⟩
    obtain ⟨rfl, hx2⟩ := rngL_at hk
    have m0 := Int.emod_nonneg (p + 1 + (0 + (i : Int))) (show (B.length : Int) ≠ 0 by omega)
    have m1 := Int.emod_lt_of_pos (p + 1 + (0 + (i : Int))) n0
    rw [modR_ok n0, bd_ok]
    have uni : ∀ j : Nat, j < B.length → (((p + 1 + (0 + (i : Int))) % (B.length : Int)).toNat = j ↔ ((j : Int) - p - 1) % (B.length : Int) = (i : Int)) := by
      intro j hj
      constructor
      · intro z
        have : (j : Int) = (p + 1 + (0 + (i : Int))) % (B.length : Int) := by omega
        rw [this, Int.sub_sub, Int.emod_sub_emod, show p + 1 + (0 + (i : Int)) - (p + 1) = (i : Int) by omega, Int.emod_eq_of_lt (by omega) (by omega)]
      · intro z
        have : (p + 1 + (0 + (i : Int))) % (B.length : Int) = (j : Int) := by
          rw [← z, Int.zero_add, Int.add_emod_emod, show p + 1 + ((j : Int) - p - 1) = (j : Int) by omega, Int.emod_eq_of_lt (by omega) (by omega)]
        omega
    generalize (p + 1 + (0 + (i : Int))) % (B.length : Int) = t at m0 m1 uni
    have gt := hM t.toNat (by omega)
    have ut := (uni t.toNat (by omega)).mp rfl
    rw [idx_ok m0 gt, bd_ok, divR_ok n0 nx (by decide) (by decide), bd_ok, bd_ok, modR_ok n0, bd_ok, bd_ok, bd_ok, bd_ok, setR_ok m0 (by omega), bd_ok]
    refine ok_ret ⟨by simp [hL], fun j hj => ?_⟩
    have uj := uni j hj
    rw [List.getElem?_set]
    by_cases c : t.toNat = j
    · have c2 := uj.mp c
      rw [if_pos c, if_pos (by omega), c, c2, if_neg (show ¬ (i : Int) < (i : Int) by omega), if_pos (show (i : Int) < ((i + 1 : Nat) : Int) by omega), Int.add_zero, Int.zero_add]
      by_cases c3 : (i : Int) < x % (B.length : Int)
      · rw [dT c3, if_pos c3, if_pos rfl]
        congr 1
        omega
      · rw [dF c3, if_neg c3, ifF]
        congr 1
        omega
    · have c2 : ((j : Int) - p - 1) % (B.length : Int) ≠ (i : Int) := fun z => c (uj.mpr z)
      rw [if_neg c, hM j hj]
      by_cases c3 : ((j : Int) - p - 1) % (B.length : Int) < (i : Int)
      · rw [if_pos c3, if_pos (show ((j : Int) - p - 1) % (B.length : Int) < ((i + 1 : Nat) : Int) by omega)]
      · rw [if_neg c3, if_neg (show ¬ ((j : Int) - p - 1) % (B.length : Int) < ((i + 1 : Nat) : Int) by omega)]
  · intro M ⟨hL, hM⟩
    rw [rngL_len] at hM
    rw [modR_ok n0, bd_ok, bd_ok]
    refine ok_ret ?_
    have : M = S := by
      apply List.ext_getElem?
      intro j
      by_cases c : j < B.length
      · have l1 := Int.emod_lt_of_pos ((j : Int) - p - 1) n0
        rw [hM j c, hS j c, if_pos (show ((j : Int) - p - 1) % (B.length : Int) < ((((B.length : Int) - 0).toNat : Nat) : Int) by omega)]
        have fe := far_eq (j := (j : Int)) h0 h1 (by omega) (by omega)
        have e2 : (if ((j : Int) - p - 1) % (B.length : Int) < x % (B.length : Int) then (1 : Int) else 0) = if 1 ≤ D p (B.length : Int) j ∧ D p (B.length : Int) j ≤ x % (B.length : Int) then 1 else 0 := by
          by_cases c2 : 1 ≤ D p (B.length : Int) j
          · rw [if_pos c2] at fe
            rw [fe]
            by_cases c3 : D p (B.length : Int) j ≤ x % (B.length : Int)
            · rw [if_pos (show D p (B.length : Int) j - 1 < x % (B.length : Int) by omega), if_pos ⟨c2, c3⟩]
            · rw [if_neg (show ¬ D p (B.length : Int) j - 1 < x % (B.length : Int) by omega), if_neg (fun z => c3 z.2)]
          · rw [if_neg c2] at fe
            rw [fe, if_neg (show ¬ (B.length : Int) - 1 < x % (B.length : Int) by omega), if_neg (fun z => c2 z.1)]
        unfold sw
        rw [Int.add_assoc, e2]
      · rw [List.getElem?_eq_none (by omega), List.getElem?_eq_none (by omega)]
    rw [this]
end G

set_option Elab.async false
set_option linter.all false
set_option maxRecDepth 100000
set_option maxHeartbeats 4000000
set_option exponentiation.threshold 10000
/-! what the law lays -/
namespace G
open PySem L2
theorem laid_ok {P : List Int} {n : Int} (h0 : 0 ≤ n) (h1 : n ≤ 100) (hP : ∀ x ∈ P, 0 ≤ x ∧ x < n) : Ok (m__law_laid P n) fun B => (B.length : Int) = n ∧ B.sum = P.length ∧ ∀ x ∈ B, 0 ≤ x := by
  unfold m__law_laid
  rw [rng1_ok h0 (by omega), bd_ok, compR_ok (g := fun _ => (0 : Int)) (by rw [rngL_len]; unfold lim; omega) (fun _ _ => rfl), bd_ok, bd_ok]
  have z : ∀ m : Nat, (List.replicate m (0 : Int)).sum = 0 := fun m => by
    induction m with
    | zero => rfl
    | succ m ih => rw [List.replicate_succ, List.sum_cons, ih]; rfl
  refine ok_bd (ok_forS (fun i (B : List Int) => (B.length : Int) = n ∧ B.sum = i ∧ ∀ x ∈ B, 0 ≤ x) ⟨by rw [List.length_map, rngL_len]; omega, ?_, fun x hx => ?_⟩ ?_) fun B hB => ok_st (ok_ret hB)
  · rw [List.map_const', z]
    rfl
  · obtain ⟨y, _, rfl⟩ := List.mem_map.mp hx
    omega
  · rintro i x B hx ⟨b1, b2, b3⟩
    have hp := hP x (List.mem_of_getElem? hx)
    have hi := idx_at (xs := B) hp.1 (by omega)
    have hg := List.getElem?_eq_getElem (l := B) (i := x.toNat) (by omega)
    have hb := b3 (B[x.toNat]'(by omega)) (List.getElem_mem _)
    generalize B[x.toNat]'(by omega) = v at hi hg hb
    rw [hi, bd_ok, bd_ok, setR_ok hp.1 (by omega), bd_ok]
    refine ok_ret ⟨by rw [List.length_set]; exact b1, by rw [sum_set' _ _ _ _ hg]; omega, fun y hy => ?_⟩
    rcases List.mem_or_eq_of_mem_set hy with q | q
    · exact b3 y q
    · omega
end G

set_option Elab.async false
set_option linter.all false
set_option maxRecDepth 100000
set_option maxHeartbeats 4000000
set_option exponentiation.threshold 10000
namespace G
open PySem L2
/-- sizes of which there are few boards -/
def Sz2 (p s : Int) : Prop := 2 ≤ p ∧ 0 ≤ s ∧ ((p = 2 ∧ s ≤ 40) ∨ (p = 3 ∧ s ≤ 10) ∨ (p = 4 ∧ s ≤ 6) ∨ (p = 5 ∧ s ≤ 4) ∨ (6 ≤ p ∧ p ≤ 10 ∧ s ≤ 3))
theorem few2 : ∀ s : Nat, s ≤ 40 → bn 1 s ≤ 1000 := by decide
theorem few3 : ∀ s : Nat, s ≤ 10 → bn 2 s ≤ 1000 := by decide
theorem few4 : ∀ s : Nat, s ≤ 6 → bn 3 s ≤ 1000 := by decide
theorem few5 : ∀ s : Nat, s ≤ 4 → bn 4 s ≤ 1000 := by decide
theorem few9 : ∀ p : Nat, p ≤ 9 → ∀ s : Nat, s ≤ 3 → bn p s ≤ 1000 := by decide
theorem sz2_few {p s : Int} (h : Sz2 p s) : bn (p.toNat - 1) s.toNat ≤ 1000 := by
  obtain ⟨h1, h2, h⟩ := h
  rcases h with ⟨rfl, h⟩ | ⟨rfl, h⟩ | ⟨rfl, h⟩ | ⟨rfl, h⟩ | ⟨h3, h4, h⟩
  · exact few2 _ (by omega)
  · exact few3 _ (by omega)
  · exact few4 _ (by omega)
  · exact few5 _ (by omega)
  · exact few9 _ (by omega) _ (by omega)
theorem lfew_ok (ns : List Int) : Ok (m__law_few ⟨ns⟩) fun z => Sz2 z.1 z.2 := by
  unfold m__law_few
  obtain ⟨c, ec⟩ := cell_at_ok ns (k := 0) (by decide)
  obtain ⟨q, eq⟩ := stirred_ok c 5
  rw [ec, bd_ok, bd_ok, eq, bd_ok]
  have hm : 0 ≤ c / 4 % 4 ∧ c / 4 % 4 < 4 := by omega
  generalize hk : c / 4 % 4 = k at hm
  have pick : ∃ m : Int, idx [(0 : Int), (0 : Int), (41 : Int), (11 : Int), (7 : Int), (5 : Int)] (2 + k) = .ok m ∧ ((k = 0 ∧ m = 41) ∨ (k = 1 ∧ m = 11) ∨ (k = 2 ∧ m = 7) ∨ (k = 3 ∧ m = 5)) := by
    have : k = 0 ∨ k = 1 ∨ k = 2 ∨ k = 3 := by omega
    rcases this with rfl | rfl | rfl | rfl
    · exact ⟨41, rfl, by omega⟩
    · exact ⟨11, rfl, by omega⟩
    · exact ⟨7, rfl, by omega⟩
    · exact ⟨5, rfl, by omega⟩
  obtain ⟨m, em, hm2⟩ := pick
  have q0 := Int.emod_nonneg q (show m ≠ 0 by omega)
  have q1 := Int.emod_lt_of_pos q (show 0 < m by omega)
  rw [em, bd_ok, modR_ok (by omega), bd_ok, bd_ok]
  refine ok_bd (P := fun z : Int × Int => Sz2 z.1 z.2) (ok_if (fun _ => ?_) fun _ => ok_ret ?_) ?_
  · rw [bd_ok, bd_ok, bd_ok]
    have : 0 ≤ q % 4 ∧ q % 4 < 4 := by omega
    exact ok_ret ⟨by show 2 ≤ 6 + c / 4 % 5; omega, by show 0 ≤ q % 4; omega, by
      show (6 + c / 4 % 5 = 2 ∧ q % 4 ≤ 40) ∨ (6 + c / 4 % 5 = 3 ∧ q % 4 ≤ 10) ∨ (6 + c / 4 % 5 = 4 ∧ q % 4 ≤ 6) ∨ (6 + c / 4 % 5 = 5 ∧ q % 4 ≤ 4) ∨ (6 ≤ 6 + c / 4 % 5 ∧ 6 + c / 4 % 5 ≤ 10 ∧ q % 4 ≤ 3)
      omega⟩
  · exact ⟨by show 2 ≤ 2 + k; omega, by show 0 ≤ q % m; omega, by
      show (2 + k = 2 ∧ q % m ≤ 40) ∨ (2 + k = 3 ∧ q % m ≤ 10) ∨ (2 + k = 4 ∧ q % m ≤ 6) ∨ (2 + k = 5 ∧ q % m ≤ 4) ∨ (6 ≤ 2 + k ∧ 2 + k ≤ 10 ∧ q % m ≤ 3)
      omega⟩
  · rintro ⟨a, b⟩ h
    exact ok_ret h
end G

set_option Elab.async false
set_option linter.all false
set_option maxRecDepth 100000
set_option maxHeartbeats 4000000
set_option exponentiation.threshold 10000
namespace G
open PySem L2
theorem bars_single {n x : Int} (h : 2 ≤ n) (h0 : 0 ≤ x) (h1 : x < n) : Bars n.toNat [x] := ⟨by simp, fun y hy => by have := List.mem_singleton.mp hy; omega, fun y hy => by have := List.mem_singleton.mp hy; omega, by simp, by simp; omega⟩
/-- the pits of a range that a test picks -/
theorem bars_filter {n : Int} {p : Int → Bool} (h : 2 ≤ n) (l0 : (rngL 0 n).filter p ≠ []) (l1 : ((((rngL 0 n).filter p).length : Nat) : Int) ≠ n) : Bars n.toNat ((rngL 0 n).filter p) := by
  have inc : (rngL 0 n).Pairwise (· < ·) := by
    unfold rngL
    refine List.pairwise_map.mpr ?_
    exact List.pairwise_lt_range.imp fun h => by omega
  have mem : ∀ x ∈ rngL 0 n, 0 ≤ x ∧ x < n := fun x hx => by
    obtain ⟨i, hi⟩ := List.mem_iff_getElem?.mp hx
    have := rngL_at hi
    omega
  have le := List.length_filter_le p (rngL 0 n)
  rw [rngL_len] at le
  refine ⟨inc.filter _, fun x hx => (mem x (List.mem_filter.mp hx).1).1, fun x hx => by have := (mem x (List.mem_filter.mp hx).1).2; omega, ?_, by omega⟩
  cases e : (rngL 0 n).filter p with
  | nil => exact absurd e l0
  | cons x l => simp
end G

set_option Elab.async false
set_option linter.all false
set_option maxRecDepth 100000
set_option maxHeartbeats 4000000
set_option exponentiation.threshold 10000
namespace G
open PySem L2
theorem lbars_ok (ns : List Int) {n : Int} (h0 : 2 ≤ n) (h1 : n ≤ 100) : Ok (m__law_bars ⟨ns⟩ n) fun L => Bars n.toNat L := by
  unfold m__law_bars
  obtain ⟨c, ec⟩ := cell_at_ok ns (k := 1) (by decide)
  obtain ⟨c0, ec0⟩ := cell_at_ok ns (k := 0) (by decide)
  obtain ⟨q, eq⟩ := stirred_ok c 9
  rw [ec, bd_ok, ec0, bd_ok, bd_ok, bd_ok]
  refine ok_bd (P := fun _ => True) (ok_if (fun _ => ?_) fun _ => ok_ret trivial) fun cell _ => ?_
  · rw [eq, bd_ok]
    exact ok_ret trivial
  rw [rng1_ok (by omega) (by omega), bd_ok, compR_filter (p := fun pit : Int => decide (cell / 2 ^ pit.toNat % 2 = 1)) (g := fun pit => pit) (by rw [rngL_len]; unfold lim; omega) (fun x hx => by
    obtain ⟨i, hi⟩ := List.mem_iff_getElem?.mp hx
    have := rngL_at hi
    unfold shrR
    rw [gd_pos (by omega), bd_ok, bd_ok]) (fun _ _ _ => rfl), bd_ok, List.map_id', bd_ok]
  have p0 := Int.emod_nonneg (cell / 4096) (show n ≠ 0 by omega)
  have p1 := Int.emod_lt_of_pos (cell / 4096) (show 0 < n by omega)
  refine ok_it (fun _ => ?_) fun z => ?_
  · rw [modR_ok (by omega), bd_ok, bd_ok, gd_pos (by show 1 ≤ lim; decide), bd_ok]
    exact ok_ret (bars_single h0 p0 p1)
  · rw [bd_ok]
    refine ok_ret (bars_filter h0 (fun e => ?_) fun e => ?_)
    · rw [dT e] at z
      cases z
    · rw [dT e, Bool.or_true] at z
      cases z
end G

set_option Elab.async false
set_option linter.all false
set_option maxRecDepth 100000
set_option maxHeartbeats 4000000
set_option exponentiation.threshold 10000
namespace G
open PySem L2
/-- the law's own sowings from free pits -/
theorem lbeh_eq {L B : List Int} (g : GB B) : m__law_behind B L = .ok ((fsw L B).map fun p => (p.1, p.2.l)) := by
  have g2 := g.2.1
  refine ok_is ?_
  unfold m__law_behind
  have start : Ok (m := (.ok ([] : List (Int × List Int)) : R (List (Int × List Int)))) fun x => x = [] := ok_ret rfl
  first | rw [gd_pos (by decide), bd_ok] | rw [bd_ok]
  rw [rng1_ok (by omega) (by omega), bd_ok]
  refine ok_bd (ok_forS (fun i (told : List (Int × List Int)) => i ≤ B.length ∧ told = ((((List.range i).filter fun (q : Nat) => decide (0 < B.getD q 0)).map fun (q : Nat) => ((q : Int), Tu.mk (swl B q))).filter fun p => !decide (p.1 ∈ L)).map fun p => (p.1, p.2.l)) ⟨by omega, rfl⟩ ?_) ?_
  · rintro i x told hx ⟨hi, rfl⟩
    obtain ⟨h1, h2⟩ := rngL_at hx
    have : x = (i : Int) := by omega
    subst this
    have lt : i < B.length := by omega
    rw [List.range_succ, List.filter_append, List.map_append, List.filter_append, List.map_append, idx_nat (getD_some lt), bd_ok, bd_ok, bd_ok]
    by_cases c : 0 < B.getD i 0
    · rw [dT c, Bool.true_and, List.filter_cons_of_pos (by simpa using c)]
      by_cases cL : (i : Int) ∈ L
      · rw [dT cL, Bool.not_true, ifF]
        refine ok_ret ⟨by omega, ?_⟩
        simp [cL]
      · obtain ⟨S, t, e1, e2, _⟩ := lsown_ok (st_of g lt c)
        rw [(sown_eq (st_of g lt c)).1] at e1
        cases e1
        rw [dF cL, Bool.not_false, ifT, e2, bd_ok, bd_ok, bd_ok, appR_ok (by
          rw [List.length_map]
          have a := List.length_filter_le (fun p : Int × Tu Int => !decide (p.1 ∈ L)) (((List.range i).filter fun (q : Nat) => decide (0 < B.getD q 0)).map fun (q : Nat) => ((q : Int), Tu.mk (swl B q)))
          have b := List.length_filter_le (fun (q : Nat) => decide (0 < B.getD q 0)) (List.range i)
          rw [List.length_map] at a
          rw [List.length_range] at b
          unfold lim
          omega), bd_ok]
        refine ok_ret ⟨by omega, ?_⟩
        simp [cL]
    · rw [dF c, Bool.false_and, ifF, List.filter_cons_of_neg (by simpa using c)]
      exact ok_ret ⟨by omega, by simp⟩
  · rintro told ⟨_, e⟩
    rw [rngL_len, show ((B.length : Int) - 0).toNat = B.length by omega] at e
    exact ok_ret e
end G

set_option Elab.async false
set_option linter.all false
set_option maxRecDepth 100000
set_option maxHeartbeats 4000000
set_option exponentiation.threshold 10000
namespace G
open PySem L2
structure Fw2 (L B : List Int) : Prop where
  g : GB B
  b : Bars B.length L
  few : bn (B.length - 1) B.sum.toNat ≤ 1000
/-- a list of all boards that are come to, in order -/
structure Shu (L B : List Int) (T : List (List Int)) : Prop where
  nd : T.Nodup
  mem : ∀ S, S ∈ T ↔ Rch L B S
  len : T.length ≤ 1000
  so : T.Pairwise fun a b => le1 a b = true
theorem wob_ok {L B O : List Int} (f : Fw2 L B) (gO : GB O) (lO : O.length = B.length) (sO : O.sum = B.sum) : ∃ d, m_way_or_bar B O L = .ok (Apt.mk d) ∧ ((∃ ps, d = DyN.dy (("way" : Str), swd ps) ∧ Pth L B ps O ∧ ps.length ≤ 1000) ∨ (¬ Rch L B O ∧ ∃ T, d = DyN.dy (("barred" : Str), T) ∧ Shu L B T)) := by
  unfold m_way_or_bar
  obtain ⟨g, b, few⟩ := f
  have g1 := g.1
  rw [ask_board_ok g, bd_ok, ask_board_ok gO, bd_ok, barred_ok b, bd_ok, dT (show (B.length : Int) = (O.length : Int) by omega), dT (show B.sum = O.sum by omega), Bool.not_true, Bool.or_self, bd_ok, ifF, few_ok g few, bd_ok]
  obtain ⟨came, e, line, h, k⟩ := search_ok (L := L) g few
  have len := h.len g
  have clen := h.clen
  rw [e, bd_ok, bd_ok]
  by_cases c : Tu.mk O ∈ line
  · obtain ⟨pl, epl, ps, rfl, pth, lps⟩ := back_ok h (by omega) c
    rw [(h.has _).mpr c, ifT, epl, bd_ok, bd_ok, bd_ok, bd_ok]
    exact ⟨_, rfl, .inl ⟨ps, rfl, pth, lps⟩⟩
  · have c2 : (came.get (Tu.mk O)).isSome = false := by
      cases z : (came.get (Tu.mk O)).isSome with
      | false => rfl
      | true => exact absurd ((h.has _).mp z) c
    have hk : came.keys = line := by
      show came.l.map (fun e => Tu.mk e.1) = line
      rw [show came.l.map (fun e => Tu.mk e.1) = (came.l.map Prod.fst).map Tu.mk by rw [List.map_map]; rfl, h.keys, List.map_map]
      exact (List.map_congr_left fun t _ => tu_eta t).trans (List.map_id' line)
    have ne : ∀ e ∈ came.l, e.1 ≠ [] := fun e he z => by
      have hm : e.1 ∈ came.l.map Prod.fst := List.mem_map_of_mem he
      rw [h.keys, z] at hm
      obtain ⟨t, ht, e2⟩ := List.mem_map.mp hm
      have := (h.rc t ht).gb g
      rw [e2] at this
      have := this.2.1
      simp at this
      omega
    rw [c2, ifF, keysR_ok (by unfold lim; omega) ne, bd_ok, hk, compR_ok (g := fun t : Tu Int => t.l) (by rw [List.length_mergeSort]; unfold lim; omega) (fun _ _ => rfl), bd_ok, bd_ok, bd_ok, bd_ok]
    have pm := List.mergeSort_perm line fun a b => !Od.lt b a
    have mem : ∀ S, S ∈ (line.mergeSort fun a b => !Od.lt b a).map Tu.l ↔ Rch L B S := fun S => by
      rw [List.mem_map]
      constructor
      · rintro ⟨t, ht, rfl⟩
        exact h.rc t (pm.mem_iff.mp ht)
      · intro r
        exact ⟨_, pm.mem_iff.mpr (all_there h k r), rfl⟩
    refine ⟨_, rfl, .inr ⟨fun r => c (all_there h k r), _, rfl, (pm.map Tu.l).nodup_iff.mpr h.nd, mem, by rw [List.length_map, List.length_mergeSort]; omega, ?_⟩⟩
    rw [sort_tu]
    exact List.pairwise_mergeSort le1_tr le1_tot _
theorem led_ok {L B O ps : List Int} (g : GB B) (h : Pth L B ps O) (l : ps.length ≤ 1000) : m__law_led B (swd ps) L = .ok (some O) := by
  refine ok_is ?_
  unfold m__law_led
  rw [bd_ok, bd_ok, Bool.not_true, ifF, bd_ok]
  have ls : (swd ps).length = ps.length := by unfold swd; rw [List.length_map]
  refine ok_bd (ok_forR (fun i (here : List Int) => GB here ∧ Pth L here (ps.drop i) O) (fun _ => False) (fun _ => False) ⟨g, h⟩ ?_) ?_
  · rintro i d here hd ⟨gh, ph⟩
    unfold swd at hd
    rw [List.getElem?_map] at hd
    cases e : ps[i]? with
    | none => rw [e] at hd; cases hd
    | some q =>
      rw [e] at hd
      injection hd with hd
      subst hd
      obtain ⟨lt, eq⟩ := List.getElem?_eq_some_iff.mp e
      rw [List.drop_eq_getElem_cons lt, eq] at ph
      cases ph with
      | cons m r =>
        obtain ⟨j, rfl, j1, j2, j3, rfl⟩ := mem_fsw.mp m
        have st : St here (j : Int) := ⟨gh, by omega, by omega, by rw [show (j : Int).toNat = j by omega]; exact j2⟩
        obtain ⟨S, q', e1, e2, stS, _⟩ := lsown_ok st
        have e3 := (sown_eq st).1
        rw [e1] at e3
        injection e3 with e3
        injection e3 with e3 _
        subst e3
        show Ok (R.bd (.ok ((!true) || ((!decide ((2 : Int) = (2 : Int))) || ((!decide (("sow" : Str) = ("sow" : Str))) || false)))) _) _
        rw [dT rfl, dT rfl, Bool.not_true, bd_ok]
        show Ok (R.bd (if (false : Bool) = true then .ok true else if (!(decide ((0 : Int) ≤ (j : Int)) && decide ((j : Int) < (here.length : Int)))) = true then .ok true else if (decide ((j : Int) ∈ L)) = true then .ok true else R.bd (idx here (j : Int)) _) _) _
        rw [ifF, dT (by omega), dT (show (j : Int) < (here.length : Int) by omega), Bool.and_self, Bool.not_true, ifF, dF j3, ifF, idx_nat (getD_some j1), bd_ok, dF (by omega), bd_ok, ifF]
        show Ok (R.bd (R.bd (m__law_sown here (j : Int)) _) _) _
        rw [e2, bd_ok, bd_ok]
        exact ok_ret ⟨stS.g, r⟩
  · rintro (z | z | z) hz
    · rcases hz with ⟨_, ph⟩ | hz
      · rw [ls, List.drop_length] at ph
        cases ph
        exact ok_ret rfl
      · exact hz.elim
    · exact hz.elim
    · exact hz.elim
theorem shut_ok {L B O : List Int} {T : List (List Int)} (g : GB B) (h : Shu L B T) (no : ¬ Rch L B O) : m__law_shut T B O L = .ok true := by
  refine ok_is ?_
  obtain ⟨nd, mem, len, so⟩ := h
  have lt1k : ∀ k : Nat, k ≤ 1000 → k < lim := fun k hk => by unfold lim; omega
  have t0 : 0 < T.length := List.length_pos_of_mem ((mem B).mpr (.refl _))
  unfold m__law_shut
  rw [inL_yes ((mem B).mpr (.refl _)), inL_no (fun z => no ((mem O).mp z)), Bool.not_true, Bool.or_self, Bool.or_self, bd_ok, ifF, bd_ok, bd_ok]
  refine ok_bd (ok_forR (fun i (m : Dct Bool) => m.l.map Prod.fst = T.take i) (fun _ => False) (fun _ => False) rfl ?_) ?_
  · rintro i one m hone hm
    have hm : m.l.map Prod.fst = T.take i := hm
    have mo := List.mem_of_getElem? hone
    obtain ⟨g1, l1, s1⟩ := ((mem one).mp mo).gb g
    obtain ⟨lt, eq⟩ := List.getElem?_eq_some_iff.mp hone
    have ml : m.l.length = i := by
      have := congrArg List.length hm
      rw [List.length_map, List.length_take] at this
      omega
    obtain ⟨x, ex, hx⟩ := minR_nn (xs := one) (fun z => by have := g1.1; rw [z] at this; simp at this) g1.2.2.1
    rw [ifF, dT (by omega), Bool.not_true, ifF, dT s1, Bool.not_true, ifF, ex, bd_ok, dF (by omega), bd_ok, ifF, putR_ok (lt1k _ (by omega)), bd_ok]
    refine ok_ret ?_
    show ((putL m.l one true).map Prod.fst) = T.take (i + 1)
    have nk : one ∉ m.l.map Prod.fst := by
      rw [hm]
      intro z
      obtain ⟨j, hj⟩ := List.mem_iff_getElem?.mp z
      rw [List.getElem?_take] at hj
      split at hj
      · rename_i c
        obtain ⟨l2, e2⟩ := List.getElem?_eq_some_iff.mp hj
        have := (List.nodup_iff_pairwise_ne.mp nd)
        have := List.pairwise_iff_getElem.mp this j i l2 lt c
        rw [e2, eq] at this
        exact this rfl
      · cases hj
    rw [putL_new nk, List.map_append, hm, List.take_succ, hone]
    rfl
  · rintro (m | m | m) hm
    · rcases hm with hm | hm
      · have hm : m.l.map Prod.fst = T.take T.length := hm
        rw [List.take_length] at hm
        have has : ∀ S, S ∈ T → (m.get (Tu.mk S)).isSome = true := fun S hS => by
          show (getL m.l S).isSome = true
          rw [getL_some, hm]
          exact hS
        refine ok_forA (xs := T) (fun one hone => ?_) ?_
        · have r1 := (mem one).mp hone
          obtain ⟨g1, _⟩ := r1.gb g
          rw [lbeh_eq g1, bd_ok]
          refine ok_forA (fun p hp => ?_) ?_
          · obtain ⟨p', hp', rfl⟩ := List.mem_map.mp hp
            have : Rch L B p'.2.l := r1.tail (fsw_stp (q := p'.1) hp')
            show Ok (R.bd (.ok (!(m.get (Tu.mk p'.2.l)).isSome)) _) _
            rw [has _ ((mem _).mpr this), Bool.not_true, bd_ok, ifF]
            exact ok_ret rfl
          · exact ok_ret rfl
        · show Ok (R.bd (rng1 ((T.length : Int) - 1)) _) _
          rw [rng1_ok (by omega) (by omega), bd_ok]
          refine ok_forA (fun k hk => ?_) ?_
          · rw [rngL_mem] at hk
            obtain ⟨j, rfl⟩ : ∃ j : Nat, k = (j : Int) := ⟨k.toNat, by omega⟩
            have l1 : j < T.length := by omega
            have l2 : j + 1 < T.length := by omega
            have ne := List.pairwise_iff_getElem.mp (List.nodup_iff_pairwise_ne.mp nd) j (j + 1) l1 l2 (by omega)
            have le := List.pairwise_iff_getElem.mp so j (j + 1) l1 l2 (by omega)
            rw [idx_nat (List.getElem?_eq_getElem l1), bd_ok, show (j : Int) + 1 = ((j + 1 : Nat) : Int) by omega, idx_nat (List.getElem?_eq_getElem l2), bd_ok, bd_ok]
            have : Od.lt T[j] T[j + 1] = true := by
              show lt1 T[j] T[j + 1] = true
              rcases lt1_tri T[j] T[j + 1] with z | z | z
              · exact absurd z ne
              · exact z
              · unfold le1 at le
                rw [z] at le
                cases le
            rw [this, Bool.not_true, bd_ok, ifF]
            exact ok_ret rfl
          · show Ok (R.bd (.ok true) _) _
            rw [bd_ok]
            exact ok_ret rfl
      · exact hm.elim
    · exact hm.elim
    · exact hm.elim
theorem unAll_some : ∀ l : List Dy, unAll (some : Dy → Option Dy) l = some l
  | [] => rfl
  | d :: l => by unfold unAll; rw [unAll_some l]
theorem un_pair (w : Str) (l : List Dy) : (unD (Dy.tup [.str w, .lst l]) : R (Str × List Dy)) = .ok (w, l) := by
  unfold unD
  have : (DyN.un (Dy.tup [.str w, .lst l]) : Option (Str × List Dy)) = some (w, l) := by
    simp only [DyN.un, unAll_some]
  rw [this]
theorem word_ne : eqDy (DyN.dy ("way" : Str)) (DyN.dy ("barred" : Str)) = .ok false := by rw [eqDy_same (by decide), dF (by decide)]
theorem word_ne2 : eqDy (DyN.dy ("barred" : Str)) (DyN.dy ("way" : Str)) = .ok false := by rw [eqDy_same (by decide), dF (by decide)]
theorem word_eq (w : Str) : eqDy (DyN.dy w) (DyN.dy w) = .ok true := by rw [eqDy_same (by decide), dT rfl]
theorem right_way {L B O ps : List Int} (g : GB B) (h : Pth L B ps O) (l : ps.length ≤ 1000) : m__law_right (DyN.dy (("way" : Str), swd ps)) B O L = .ok true := by
  unfold m__law_right
  have e0 : dyIdx (DyN.dy (("way" : Str), swd ps)) 0 = .ok (DyN.dy ("way" : Str)) := rfl
  have e1 : dyIdx (DyN.dy (("way" : Str), swd ps)) 1 = .ok (DyN.dy (swd ps)) := rfl
  have e2 : dyLen (DyN.dy (("way" : Str), swd ps)) = .ok 2 := rfl
  rw [show dyIs 4 (DyN.dy (("way" : Str), swd ps)) = true from rfl, Bool.not_true, ifF, e2, bd_ok, dT rfl, Bool.not_true, bd_ok, ifF, e0, bd_ok, word_eq, bd_ok, ifT, e1, bd_ok, unD_dy, bd_ok, led_ok g h l]
  show R.bd (R.bd (.ok O) _) _ = _
  rw [bd_ok, dT rfl, bd_ok]
theorem right_bar {L B O : List Int} {T : List (List Int)} (g : GB B) (h : Shu L B T) (no : ¬ Rch L B O) : m__law_right (DyN.dy (("barred" : Str), T)) B O L = .ok true := by
  unfold m__law_right
  have e0 : dyIdx (DyN.dy (("barred" : Str), T)) 0 = .ok (DyN.dy ("barred" : Str)) := rfl
  have e1 : dyIdx (DyN.dy (("barred" : Str), T)) 1 = .ok (DyN.dy T) := rfl
  have e2 : dyLen (DyN.dy (("barred" : Str), T)) = .ok 2 := rfl
  rw [show dyIs 4 (DyN.dy (("barred" : Str), T)) = true from rfl, Bool.not_true, ifF, e2, bd_ok, dT rfl, Bool.not_true, bd_ok, ifF, e0, bd_ok, word_ne2, bd_ok, ifF, bd_ok, word_eq, bd_ok, ifT, e1, bd_ok, unD_dy, bd_ok, shut_ok g h no, bd_ok]
theorem law_true (ns : List Int) (hl : ns.length ≤ 63) (hb : ∀ k ∈ ns, Builtin.Int.intBits k ≤ 1048576) : m_law ⟨ns⟩ = .ok true := by
  refine ok_is ?_
  unfold m_law
  refine ok_bd (lfew_ok ns) ?_
  rintro ⟨n, s⟩ sz
  have sz : Sz2 n s := sz
  have n0 : 2 ≤ n ∧ n ≤ 10 := by obtain ⟨a, b, c⟩ := sz; omega
  have s0 : 0 ≤ s ∧ s ≤ 40 := by obtain ⟨a, b, c⟩ := sz; omega
  obtain ⟨c0, ec0⟩ := cell_at_ok ns (k := 0) (by decide)
  obtain ⟨c1, ec1⟩ := cell_at_ok ns (k := 1) (by decide)
  show Ok (R.bd (R.bd (R.bd (R.bd (R.bd (m__law_cell_at ⟨ns⟩ (0 : Int)) _) _) _) fun (t17 : Bool) => m__law_row ⟨ns⟩ (2 : Int) ((2 : Int) * s) n t17) _) _
  rw [ec0, bd_ok, bd_ok, bd_ok, bd_ok]
  refine ok_bd (row_ok ns hl _ (by decide) (by decide) (show (0 : Int) ≤ 2 * s by omega) (by omega) (show (1 : Int) ≤ n by omega) (by omega)) ?_
  rintro row ⟨lR, eR⟩
  rw [cut_take s0.1 (by omega), cut_drop s0.1 (by omega)]
  have lP : (row.take s.toNat).length = s.toNat := by rw [List.length_take]; omega
  have lQ : (row.drop s.toNat).length = s.toNat := by rw [List.length_drop]; omega
  have big : (40 : Int) ≤ 10 ^ 60 := by decide
  refine ok_bd (laid_ok (by omega) (by omega) fun x hx => eR x (List.mem_of_mem_take hx)) ?_
  rintro B ⟨lB, sB, nB⟩
  rw [lP] at sB
  have gB : GB B := ⟨by omega, by omega, nB, by omega⟩
  refine ok_bd (laid_ok (by omega) (by omega) fun x hx => eR x (List.mem_of_mem_drop hx)) ?_
  rintro O0 ⟨lO0, sO0, nO0⟩
  rw [lQ] at sO0
  have gO0 : GB O0 := ⟨by omega, by omega, nO0, by omega⟩
  refine ok_bd (lbars_ok ns n0.1 (by omega)) fun L hL => ?_
  have fw : Fw2 L B := ⟨gB, by rw [show B.length = n.toNat by omega]; exact hL, by
    have := sz2_few sz
    rw [show B.length = n.toNat by omega, show B.sum.toNat = s.toNat by omega]
    exact this⟩
  rw [ec1, bd_ok, bd_ok, bd_ok]
  refine ok_bd (P := fun O : List Int => GB O ∧ O.length = B.length ∧ O.sum = B.sum ∧ (c1 % 2 = 1 → Rch L B O)) ?_ ?_
  · refine ok_if (fun c => ?_) fun c => ok_ret ⟨gO0, by omega, by omega, fun z => absurd z c⟩
    rw [bd_ok, rng2_ok (by decide) (by decide) (by show (0 : Int) ≤ (ns.length : Int); omega) (by show (ns.length : Int) ≤ _; omega), bd_ok]
    refine ok_bd (P := fun O => Rch L B O) (ok_mono (ok_forS (fun _ (O : List Int) => Rch L B O) (.refl _) ?_) fun _ z => z) fun O r => ok_ret ?_
    · rintro i k O hk r
      obtain ⟨rfl, _⟩ := rngL_at hk
      obtain ⟨gO, lO, sO⟩ := r.gb gB
      rw [lbeh_eq gO, bd_ok, bd_ok]
      refine ok_it (fun c => ?_) fun c => ok_ret r
      rw [Bool.and_eq_true, decide_eq_true_iff, decide_eq_true_iff, List.length_map] at c
      obtain ⟨ck, eck⟩ := cell_at_ok ns (k := 1 + (i : Int)) (by omega)
      obtain ⟨q, eq⟩ := stirred_ok ck (1 + (i : Int))
      have m0 := Int.emod_nonneg q (show (((fsw L O).length : Nat) : Int) ≠ 0 by omega)
      have m1 := Int.emod_lt_of_pos q (show (0 : Int) < (((fsw L O).length : Nat) : Int) by omega)
      rw [eck, bd_ok, eq, bd_ok, List.length_map, modR_ok (by omega), bd_ok]
      have li : (q % ((fsw L O).length : Int)).toNat < (fsw L O).length := by omega
      have e := List.getElem?_eq_getElem (l := fsw L O) li
      rw [idx_ok (a := (((fsw L O)[(q % ((fsw L O).length : Int)).toNat]).1, ((fsw L O)[(q % ((fsw L O).length : Int)).toNat]).2.l)) m0 (by rw [List.getElem?_map, e]; rfl), bd_ok, bd_ok]
      exact ok_ret (r.tail (fsw_stp (q := ((fsw L O)[(q % ((fsw L O).length : Int)).toNat]).1) (List.getElem_mem li)))
    · obtain ⟨gO, lO, sO⟩ := r.gb gB
      exact ⟨gO, lO, sO, fun _ => r⟩
  · rintro O ⟨gO, lO, sO, rO⟩
    obtain ⟨d, ed, hd⟩ := wob_ok fw gO lO sO
    have i0 : idx [B, O, L] (0 : Int) = .ok B := rfl
    have i1 : idx [B, O, L] (1 : Int) = .ok O := rfl
    have i2 : idx [B, O, L] (2 : Int) = .ok L := rfl
    rw [bd_ok, i0, bd_ok, i1, bd_ok, i2, bd_ok, ed, bd_ok, bd_ok, dT rfl, Bool.not_true, ifF]
    rcases hd with ⟨ps, rfl, pth, lps⟩ | ⟨no, T, rfl, sh⟩
    · have e0 : dyIdx (DyN.dy (("way" : Str), swd ps)) 0 = .ok (DyN.dy ("way" : Str)) := rfl
      have lw : (swd ps).length ≤ 1000 := by unfold swd; rw [List.length_map]; exact lps
      rw [right_way gB pth lps, bd_ok, Bool.not_true, bd_ok, ifF]
      refine ok_bd (P := fun b => b = false) ?_ fun b hb => ?_
      · rw [bd_ok]
        refine ok_it (fun _ => ?_) fun _ => ok_ret rfl
        rw [e0, bd_ok, word_eq, bd_ok]
        exact ok_ret rfl
      rw [hb, ifF, show pr26 (DyN.dy (("way" : Str), swd ps)) = .ok (("way" : Str), (swd ps).map DyN.dy) from rfl, bd_ok]
      show Ok (R.bd (R.bd (dyIdx (DyN.dy (("way" : Str), swd ps)) 0) _) _) _
      rw [e0, bd_ok, word_ne, bd_ok, ifF]
      rw [show Dy.lst ((swd ps).map DyN.dy) = DyN.dy (swd ps) from rfl, unD_dy, bd_ok, bd_ok]
      rw [show (DyN.dy (("way" : Str), swd ps) : Dy) = Dy.tup [.str "way", .lst ((swd ps).map DyN.dy)] from rfl, un_pair, bd_ok, bd_ok, gd_pos (by show ((swd ps).map DyN.dy).length < lim; rw [List.length_map]; unfold lim; omega), bd_ok]
      show Ok (R.bd (R.bd (R.bd (R.bd (R.bd (.ok (Dy.str "way")) _) _) _) _) _) _
      rw [bd_ok]
      show Ok (R.bd (R.bd (R.bd (R.bd (R.bd (.ok (DyN.dy (swd ps))) _) _) _) _) _) _
      rw [bd_ok, bd_ok, bd_ok]
      show Ok (R.bd (R.bd (eqDy (DyN.dy (("way" : Str), swd ps)) (DyN.dy (("way" : Str), swd ps))) _) _) _
      rw [eqDy_same (by decide), dT rfl, bd_ok, Bool.and_self, bd_ok]
      exact ok_ret rfl
    · have e0 : dyIdx (DyN.dy (("barred" : Str), T)) 0 = .ok (DyN.dy ("barred" : Str)) := rfl
      have e1 : dyIdx (DyN.dy (("barred" : Str), T)) 1 = .ok (DyN.dy T) := rfl
      rw [right_bar gB sh no, bd_ok, Bool.not_true, bd_ok, ifF]
      refine ok_bd (P := fun b => b = false) ?_ fun b hb => ?_
      · rw [bd_ok]
        refine ok_it (fun c => absurd (rO (of_decide_eq_true c)) no) fun _ => ok_ret rfl
      rw [hb, ifF, show pr26 (DyN.dy (("barred" : Str), T)) = .ok (("barred" : Str), T.map DyN.dy) from rfl, bd_ok]
      show Ok (R.bd (R.bd (dyIdx (DyN.dy (("barred" : Str), T)) 0) _) _) _
      have tl := sh.len
      have cT := compR_ok (xs := T) (f := fun (one : List Int) => .ok one) (g := fun one => one) (by unfold lim; omega) (fun _ _ => rfl)
      rw [List.map_id'] at cT
      rw [e0, bd_ok, word_eq, bd_ok, ifT, e1, bd_ok, unD_dy, bd_ok, cT, bd_ok, bd_ok]
      rw [show idx [Dy.str "barred", DyN.dy T] (1 : Int) = .ok (DyN.dy T) from rfl, bd_ok]
      have dl : dyLen (DyN.dy T) = .ok (T.length : Int) := by
        show R.ok (((T.map DyN.dy).length : Nat) : Int) = _
        rw [List.length_map]
      rw [dl, bd_ok, rng1_ok (by omega) (by omega), bd_ok]
      refine ok_bd (ok_forR (fun i (z : Dy) => ∃ U : List (List Int), z = DyN.dy (("barred" : Str), U) ∧ U.length = T.length ∧ ∀ j, i ≤ j → U[j]? = T[j]?) (fun _ => False) (fun _ => False) ⟨T, rfl, rfl, fun _ _ => rfl⟩ ?_) ?_
      · rintro i k z hk ⟨U, rfl, lU, hU⟩
        obtain ⟨rfl, hi⟩ := rngL_at hk
        rw [Int.zero_add] at hi ⊢
        have lt : i < T.length := by omega
        have q := List.getElem?_eq_getElem (l := T) (i := i) lt
        have mx := (((sh.mem _).mp (List.mem_of_getElem? q)).gb gB).1.2.1
        generalize T[i] = x at q mx
        have qU : U[i]? = some x := by rw [hU i (Nat.le_refl _)]; exact q
        have dix : ∀ V : List (List Int), V[i]? = some x → dyIdx (DyN.dy V) (i : Int) = .ok (DyN.dy x) := fun V hV => by
          show idx (V.map DyN.dy) (i : Int) = _
          exact idx_nat (by rw [List.getElem?_map, hV]; rfl)
        rw [show dyIdx (DyN.dy (("barred" : Str), U)) 1 = .ok (DyN.dy U) from rfl, bd_ok, dix U qU, bd_ok, bd_ok, dix T q, bd_ok, eqDy_same (by decide), dT rfl, bd_ok, Bool.not_true, bd_ok, ifF, unD_dy, bd_ok]
        show Ok (R.bd (R.bd (idx U (i : Int)) _) _) _
        rw [idx_nat qU, bd_ok, bd_ok, appR_ok (by unfold lim; omega), bd_ok]
        show Ok (R.bd (R.bd (setR U (i : Int) _) _) _) _
        rw [setR_ok (by omega) (by omega), bd_ok, bd_ok]
        refine ok_ret ⟨_, rfl, by rw [List.length_set, lU], fun j hj => ?_⟩
        rw [List.getElem?_set_ne (by omega)]
        exact hU j (by omega)
      · rintro (z | z | z) hz
        · rcases hz with ⟨U, rfl, lU, _⟩ | hz
          · show Ok (R.bd (unD (Dy.tup [.str "barred", .lst (U.map DyN.dy)]) : R (Str × List Dy)) _) _
            rw [un_pair, bd_ok, bd_ok, gd_pos (by show (U.map DyN.dy).length < lim; rw [List.length_map]; unfold lim; omega), bd_ok]
            rw [bd_ok]
            show Ok (R.bd (R.bd (R.bd (R.bd (R.bd (.ok (Dy.str "barred")) _) _) _) _) _) _
            rw [bd_ok]
            show Ok (R.bd (R.bd (R.bd (R.bd (R.bd (.ok (DyN.dy T)) _) _) _) _) _) _
            rw [bd_ok, bd_ok, bd_ok]
            show Ok (R.bd (R.bd (eqDy (DyN.dy (("barred" : Str), T)) (DyN.dy (("barred" : Str), T))) _) _) _
            rw [eqDy_same (by decide), dT rfl, bd_ok, Bool.and_self, bd_ok]
            exact ok_ret rfl
          · exact hz.elim
        · exact hz.elim
        · exact hz.elim
end G

set_option Elab.async false
set_option linter.all false
set_option maxRecDepth 100000
set_option maxHeartbeats 4000000
namespace G
open PySem PySem.Spec PyProof.Rows L2
abbrev Rr : PySem.W.OpenRow := PySem.W.OpenLaw.row PySem.Challenge.rw_sowring_k26_whole_way_or_bar
abbrev hk : PySem.W.Hook := hookF 5 fa fn bx
def ob (s : PySem.W.SharedT) : He.AlD := obsF 5 fa fn bx (HandSHeadRun.getT s)
theorem ob_eq (s : PySem.W.SharedT) : ob s = hk.obs s.abs := obsF_eq (HandSHeadRun.getT_eq s)
theorem run (w : World) : HandSHeadRun.RunEq Rr (PySem.W.view Rr.prog [47]) hk ob 30000 ((["_wall", "SowError", "BadBoard", "BadPit", "BadPits", "BadCount", "NoSeeds", "Unlike", "TooMany", "FEWEST_PITS", "MOST_PITS", "MOST_SEEDS", "ask_board", "ask_pit", "ask_seeds", "put_round", "sown_plain", "sown", "ask_sizes", "ways_to_lay", "board_count", "MOST_BOARDS", "ask_few", "next_sowings", "plan_back", "ask_barred", "free_sowings", "search_free", "way_or_bar", "_law_cell_at"] : List PySem.Str) ++ (["_law_sums", "_law_stirred", "_law_row", "_law_sown", "_law_laid", "_law_few", "_law_bars", "_law_behind", "_law_led", "_law_shut", "_law_right"] : List PySem.Str)) w := by
  intro os
  kernel_rfl
theorem hd_of {K : PySem.W.Frag} {h : Heap} {mg : Str → Option Value} (X : K.In h) (G : h.Ns mainGlobals mg) (c : SaysG fa fn bx K) : Hd K mg where
  g_ask_board := He.glo_ok X G (c.d.fact 0 (f := .glo "ask_board") rfl)
  g_ask_pit := He.glo_ok X G (c.d.fact 1 (f := .glo "ask_pit") rfl)
  g_ask_seeds := He.glo_ok X G (c.d.fact 2 (f := .glo "ask_seeds") rfl)
  g_put_round := He.glo_ok X G (c.d.fact 3 (f := .glo "put_round") rfl)
  g_sown_plain := He.glo_ok X G (c.d.fact 4 (f := .glo "sown_plain") rfl)
  g_sown := He.glo_ok X G (c.d.fact 5 (f := .glo "sown") rfl)
  g_ask_sizes := He.glo_ok X G (c.d.fact 6 (f := .glo "ask_sizes") rfl)
  g_ways_to_lay := He.glo_ok X G (c.d.fact 7 (f := .glo "ways_to_lay") rfl)
  g_board_count := He.glo_ok X G (c.d.fact 8 (f := .glo "board_count") rfl)
  g_ask_few := He.glo_ok X G (c.d.fact 9 (f := .glo "ask_few") rfl)
  g_next_sowings := He.glo_ok X G (c.d.fact 10 (f := .glo "next_sowings") rfl)
  g_plan_back := He.glo_ok X G (c.d.fact 11 (f := .glo "plan_back") rfl)
  g_ask_barred := He.glo_ok X G (c.d.fact 12 (f := .glo "ask_barred") rfl)
  g_free_sowings := He.glo_ok X G (c.d.fact 13 (f := .glo "free_sowings") rfl)
  g_search_free := He.glo_ok X G (c.d.fact 14 (f := .glo "search_free") rfl)
  g_way_or_bar := He.glo_ok X G (c.d.fact 15 (f := .glo "way_or_bar") rfl)
  g__law_cell_at := He.glo_ok X G (c.d.fact 16 (f := .glo "_law_cell_at") rfl)
  g__law_sums := He.glo_ok X G (c.d.fact 17 (f := .glo "_law_sums") rfl)
  g__law_stirred := He.glo_ok X G (c.d.fact 18 (f := .glo "_law_stirred") rfl)
  g__law_row := He.glo_ok X G (c.d.fact 19 (f := .glo "_law_row") rfl)
  g__law_sown := He.glo_ok X G (c.d.fact 20 (f := .glo "_law_sown") rfl)
  g__law_laid := He.glo_ok X G (c.d.fact 21 (f := .glo "_law_laid") rfl)
  g__law_few := He.glo_ok X G (c.d.fact 22 (f := .glo "_law_few") rfl)
  g__law_bars := He.glo_ok X G (c.d.fact 23 (f := .glo "_law_bars") rfl)
  g__law_behind := He.glo_ok X G (c.d.fact 24 (f := .glo "_law_behind") rfl)
  g__law_led := He.glo_ok X G (c.d.fact 25 (f := .glo "_law_led") rfl)
  g__law_shut := He.glo_ok X G (c.d.fact 26 (f := .glo "_law_shut") rfl)
  g__law_right := He.glo_ok X G (c.d.fact 27 (f := .glo "_law_right") rfl)
  g_law := He.glo_ok X G (c.d.fact 28 (f := .glo "law") rfl)
  d_ask_board := c.d.def_ 0 (d := d_ask_board) rfl
  d_ask_pit := c.d.def_ 1 (d := d_ask_pit) rfl
  d_ask_seeds := c.d.def_ 2 (d := d_ask_seeds) rfl
  d_put_round := c.d.def_ 3 (d := d_put_round) rfl
  d_sown_plain := c.d.def_ 4 (d := d_sown_plain) rfl
  d_sown := c.d.def_ 5 (d := d_sown) rfl
  d_ask_sizes := c.d.def_ 6 (d := d_ask_sizes) rfl
  d_ways_to_lay := c.d.def_ 7 (d := d_ways_to_lay) rfl
  d_board_count := c.d.def_ 8 (d := d_board_count) rfl
  d_ask_few := c.d.def_ 9 (d := d_ask_few) rfl
  d_next_sowings := c.d.def_ 10 (d := d_next_sowings) rfl
  d_plan_back := c.d.def_ 11 (d := d_plan_back) rfl
  d_ask_barred := c.d.def_ 12 (d := d_ask_barred) rfl
  d_free_sowings := c.d.def_ 13 (d := d_free_sowings) rfl
  d_search_free := c.d.def_ 14 (d := d_search_free) rfl
  d_way_or_bar := c.d.def_ 15 (d := d_way_or_bar) rfl
  d__law_cell_at := c.d.def_ 16 (d := d__law_cell_at) rfl
  d__law_sums := c.d.def_ 17 (d := d__law_sums) rfl
  d__law_stirred := c.d.def_ 18 (d := d__law_stirred) rfl
  d__law_row := c.d.def_ 19 (d := d__law_row) rfl
  d__law_sown := c.d.def_ 20 (d := d__law_sown) rfl
  d__law_laid := c.d.def_ 21 (d := d__law_laid) rfl
  d__law_few := c.d.def_ 22 (d := d__law_few) rfl
  d__law_bars := c.d.def_ 23 (d := d__law_bars) rfl
  d__law_behind := c.d.def_ 24 (d := d__law_behind) rfl
  d__law_led := c.d.def_ 25 (d := d__law_led) rfl
  d__law_shut := c.d.def_ 26 (d := d__law_shut) rfl
  d__law_right := c.d.def_ 27 (d := d__law_right) rfl
  d_law := c.d.def_ 28 (d := d_law) rfl
  f_bool := He.free_ok X G (c.d.fact 29 (f := .free "bool") rfl)
  f_enumerate := He.free_ok X G (c.d.fact 30 (f := .free "enumerate") rfl)
  f_int := He.free_ok X G (c.d.fact 31 (f := .free "int") rfl)
  f_isinstance := He.free_ok X G (c.d.fact 32 (f := .free "isinstance") rfl)
  f_len := He.free_ok X G (c.d.fact 33 (f := .free "len") rfl)
  f_list := He.free_ok X G (c.d.fact 34 (f := .free "list") rfl)
  f_max := He.free_ok X G (c.d.fact 35 (f := .free "max") rfl)
  f_min := He.free_ok X G (c.d.fact 36 (f := .free "min") rfl)
  f_range := He.free_ok X G (c.d.fact 37 (f := .free "range") rfl)
  f_reversed := He.free_ok X G (c.d.fact 38 (f := .free "reversed") rfl)
  f_sorted := He.free_ok X G (c.d.fact 39 (f := .free "sorted") rfl)
  f_sum := He.free_ok X G (c.d.fact 40 (f := .free "sum") rfl)
  f_tuple := He.free_ok X G (c.d.fact 41 (f := .free "tuple") rfl)
  c_FEWEST_PITS := He.int_ok X G (c.d.fact 42 rfl)
  c_MOST_BOARDS := He.int_ok X G (c.d.fact 43 rfl)
  c_MOST_PITS := He.int_ok X G (c.d.fact 44 rfl)
  c_MOST_SEEDS := He.int_ok X G (c.d.fact 45 rfl)
  g_SowError := He.glo_ok X G (c.d.fact 46 (f := .glo "SowError") rfl)
  k_SowError := kn_ok (c := .SowError) (c.d.fact 46 rfl)
  x_SowError := exc_ok (c.d.fact 47 rfl)
  g_BadBoard := He.glo_ok X G (c.d.fact 48 (f := .glo "BadBoard") rfl)
  k_BadBoard := kn_ok (c := .BadBoard) (c.d.fact 48 rfl)
  x_BadBoard := exc_ok (c.d.fact 49 rfl)
  g_BadPit := He.glo_ok X G (c.d.fact 50 (f := .glo "BadPit") rfl)
  k_BadPit := kn_ok (c := .BadPit) (c.d.fact 50 rfl)
  x_BadPit := exc_ok (c.d.fact 51 rfl)
  g_BadPits := He.glo_ok X G (c.d.fact 52 (f := .glo "BadPits") rfl)
  k_BadPits := kn_ok (c := .BadPits) (c.d.fact 52 rfl)
  x_BadPits := exc_ok (c.d.fact 53 rfl)
  g_BadCount := He.glo_ok X G (c.d.fact 54 (f := .glo "BadCount") rfl)
  k_BadCount := kn_ok (c := .BadCount) (c.d.fact 54 rfl)
  x_BadCount := exc_ok (c.d.fact 55 rfl)
  g_NoSeeds := He.glo_ok X G (c.d.fact 56 (f := .glo "NoSeeds") rfl)
  k_NoSeeds := kn_ok (c := .NoSeeds) (c.d.fact 56 rfl)
  x_NoSeeds := exc_ok (c.d.fact 57 rfl)
  g_Unlike := He.glo_ok X G (c.d.fact 58 (f := .glo "Unlike") rfl)
  k_Unlike := kn_ok (c := .Unlike) (c.d.fact 58 rfl)
  x_Unlike := exc_ok (c.d.fact 59 rfl)
  g_TooMany := He.glo_ok X G (c.d.fact 60 (f := .glo "TooMany") rfl)
  k_TooMany := kn_ok (c := .TooMany) (c.d.fact 60 rfl)
  x_TooMany := exc_ok (c.d.fact 61 rfl)
  cfs := fun d hd => cf_of (List.all_eq_true.mp (c.b) d hd)
  cf_SowError := cf_of (List.all_eq_true.mp (c.b) .SowError (by decide))
  cf_BadBoard := cf_of (List.all_eq_true.mp (c.b) .BadBoard (by decide))
  cf_BadPit := cf_of (List.all_eq_true.mp (c.b) .BadPit (by decide))
  cf_BadPits := cf_of (List.all_eq_true.mp (c.b) .BadPits (by decide))
  cf_BadCount := cf_of (List.all_eq_true.mp (c.b) .BadCount (by decide))
  cf_NoSeeds := cf_of (List.all_eq_true.mp (c.b) .NoSeeds (by decide))
  cf_Unlike := cf_of (List.all_eq_true.mp (c.b) .Unlike (by decide))
  cf_TooMany := cf_of (List.all_eq_true.mp (c.b) .TooMany (by decide))
end G
open PySem PySem.W PySem.Calls PyProof.Rows
set_option maxRecDepth 100000 in
set_option maxHeartbeats 0 in
theorem PySem.Challenge.cw_sowring_k26_whole_way_or_bar_holds : PySem.Challenge.rw_sowring_k26_whole_way_or_bar.Holds := by
  w_on; o_law
  refine HandSHeadRun.head_any (r := OpenLaw.row PySem.Challenge.rw_sowring_k26_whole_way_or_bar) (q := view (OpenLaw.row PySem.Challenge.rw_sowring_k26_whole_way_or_bar).prog [47]) (H := G.hk) (ob := G.ob) (M := 30000) (loose := ((["_wall", "SowError", "BadBoard", "BadPit", "BadPits", "BadCount", "NoSeeds", "Unlike", "TooMany", "FEWEST_PITS", "MOST_PITS", "MOST_SEEDS", "ask_board", "ask_pit", "ask_seeds", "put_round", "sown_plain", "sown", "ask_sizes", "ways_to_lay", "board_count", "MOST_BOARDS", "ask_few", "next_sowings", "plan_back", "ask_barred", "free_sowings", "search_free", "way_or_bar", "_law_cell_at"] : List PySem.Str) ++ (["_law_sums", "_law_stirred", "_law_row", "_law_sown", "_law_laid", "_law_few", "_law_bars", "_law_behind", "_law_led", "_law_shut", "_law_right"] : List PySem.Str))) (d := HandSHeadRun.topDef (OpenLaw.row PySem.Challenge.rw_sowring_k26_whole_way_or_bar).prog 47) (kwd := []) G.ob_eq
    (by kernel_rfl) (fun s => by kernel_rfl) G.run (by kernel_rfl) (by kernel_rfl) (by kernel_rfl) (by rfl) (by first | assumption | decide +kernel) (by decide +kernel) ⟨rfl, rfl, rfl, rfl, rfl, by decide +kernel⟩ ?hw ?hc
  case hw => w_witness2
  case hc =>
    refine G.walk_ofW (l := PySem.Challenge.rw_sowring_k26_whole_way_or_bar) (n := 63) (k := 8) (x := "script") (CX := fun w => L2.CX PySem.Challenge.rw_sowring_k26_whole_way_or_bar.prog w) rfl (by decide) (by kernel_rfl) ⟨rfl, by decide, by decide⟩ ?F ?C
    case C =>
      intro w H s e s' h
      obtain ⟨_, _, _, _, _, _, _, _, _, _, _, _, z⟩ := h
      exact z
    case F =>
      intro w mg fa h Y G' hmg0
      obtain ⟨K, KX, c⟩ := Y
      have hmg : mg ("law" : PySem.Str) = some (.ref fa) := by
        have e : (HandSHeadRun.topDef (OpenLaw.row PySem.Challenge.rw_sowring_k26_whole_way_or_bar).prog 47).name = ("law" : PySem.Str) := by kernel_rfl
        rw [← e]
        exact hmg0
      have T : G.Hd K mg := G.hd_of KX G' c
      have e := hmg.symm.trans T.g_law
      cases e
      obtain ⟨fd, F⟩ := T.d_law
      have b := L2.FunD.bindsA (ps := ["script"]) F fun _ _ _ _ _ _ us hl => match us, hl with | [_], _ => rfl
      exact ⟨K, fd, G.sp1 K G.m_law, KX, fun s v => b s [v] rfl, fun H a ns hl hb hS => ⟨_, ⟨ns⟩, rfl, ⟨a, rfl, hS⟩, by
        rw [G.law_true ns hl hb]
        exact fun v' H' _ r => r⟩, fun base _ _ => G.ok_law T F⟩
