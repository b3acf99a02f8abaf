import PyProof.Rows.All
import Wide.All
import OpenK.AllK
import Wide.FinOn
import HandS.Base
import HandS.Call
import HandS.List
import HandS.Dict
import HandS.Iter
import HandS.Words
import HandS.Defaults
import HandS.ExcInit
import KE.KStateDown
import Lean
import HandS.Head0
import HandS.Head1
import HandS.Head2
import HandS.HeadEnd
import HandS.HeadHook1
import HandS.HeadHook2
import HandS.HeadHook3
import HandS.HeadHook4
import KE.KSortTupG
import KE.KDictSum
import HandS.Conv
import HandS.More
import HandS.Sort
import PyProof.EqAt
import PyProof.EqKinds
import PyProof.TupleCall
import KE.KDictLaws
import HandS.Comp
import HandS.Text
import HandS.TupAny
import HandS.Zip
import HandS.Walk
import HandS.WordsList
import PyProof.NeData
import HandS.Set
import HandS.SetFor
import HandS.Strs
import KE.GoesZip
import PyProof.SumAny
import HandS.SortKw
import PyProof.Draws
import PyProof.EnumMake
import HandS.ClsMeth
import HandS.WordsExc
import HandS.TryOnly
import HandS.ExcOwn
import HandS.IsInst
import HandS.NoneIn
import KE.KDictKeyed
import KE.KTupSum
import HandS.TupMul
import HandS.TupLe
import PySem.Challenge.RW_partkits_k58_whole_fewest_by_all
section
/-! Sums, dealings, bars, flows, augmenting ways: plain Lean. -/
namespace FL
def su {α : Type} (f : α → Int) : List α → Int
  | [] => 0
  | a :: r => f a + su f r
section
variable {α β : Type}
@[simp] theorem su_nil (f : α → Int) : su f [] = 0 := rfl
@[simp] theorem su_cons (f : α → Int) (a : α) (r : List α) : su f (a :: r) = f a + su f r := rfl
theorem su_append (f : α → Int) (l m : List α) : su f (l ++ m) = su f l + su f m := by
  induction l with
  | nil => simp
  | cons a r ih => simp only [List.cons_append, su_cons, ih]; omega
theorem su_add (f g : α → Int) (l : List α) : su (fun a => f a + g a) l = su f l + su g l := by
  induction l with
  | nil => simp
  | cons a r ih => simp only [su_cons, ih]; omega
theorem su_sub (f g : α → Int) (l : List α) : su (fun a => f a - g a) l = su f l - su g l := by
  induction l with
  | nil => simp
  | cons a r ih => simp only [su_cons, ih]; omega
theorem su_mul (c : Int) (f : α → Int) (l : List α) : su (fun a => c * f a) l = c * su f l := by
  induction l with
  | nil => simp
  | cons a r ih => simp only [su_cons, ih, Int.mul_add]
theorem su_congr {f g : α → Int} {l : List α} (h : ∀ a ∈ l, f a = g a) : su f l = su g l := by
  induction l with
  | nil => rfl
  | cons a r ih =>
    simp only [su_cons]
    rw [h a (by simp), ih (fun b hb => h b (by simp [hb]))]
theorem su_zero {f : α → Int} {l : List α} (h : ∀ a ∈ l, f a = 0) : su f l = 0 := by
  induction l with
  | nil => rfl
  | cons a r ih =>
    simp only [su_cons]
    rw [h a (by simp), ih (fun b hb => h b (by simp [hb]))]; rfl
theorem su_le {f g : α → Int} {l : List α} (h : ∀ a ∈ l, f a ≤ g a) : su f l ≤ su g l := by
  induction l with
  | nil => simp
  | cons a r ih =>
    simp only [su_cons]
    have h1 := h a (by simp)
    have h2 := ih (fun b hb => h b (by simp [hb]))
    omega
theorem su_nonneg {f : α → Int} {l : List α} (h : ∀ a ∈ l, 0 ≤ f a) : 0 ≤ su f l := by
  induction l with
  | nil => simp
  | cons a r ih =>
    simp only [su_cons]
    have h1 := h a (by simp)
    have h2 := ih (fun b hb => h b (by simp [hb]))
    omega
theorem su_mem_le {f : α → Int} {l : List α} (h : ∀ a ∈ l, 0 ≤ f a) {a : α} (ha : a ∈ l) : f a ≤ su f l := by
  induction l with
  | nil => simp at ha
  | cons b r ih =>
    simp only [su_cons]
    have h1 := h b (by simp)
    have h2 : 0 ≤ su f r := su_nonneg (fun c hc => h c (by simp [hc]))
    rcases List.mem_cons.mp ha with rfl | ha
    · omega
    · have := ih (fun c hc => h c (by simp [hc])) ha
      omega
theorem su_comm (f : α → β → Int) (l : List α) (m : List β) : su (fun a => su (f a) m) l = su (fun b => su (fun a => f a b) l) m := by
  induction l with
  | nil => simp only [su_nil]; exact (su_zero (fun _ _ => rfl)).symm
  | cons a r ih =>
    simp only [su_cons, ih]
    rw [← su_add]
theorem su_map (f : β → Int) (g : α → β) (l : List α) : su f (l.map g) = su (fun a => f (g a)) l := by
  induction l with
  | nil => rfl
  | cons a r ih => simp only [List.map_cons, su_cons, ih]
theorem su_eq_sum (l : List Int) : su (fun x => x) l = l.sum := by
  induction l with
  | nil => rfl
  | cons a r ih => simp only [su_cons, List.sum_cons, ih]
theorem su_ite_not [DecidableEq α] {x : Int} {a : α} {l : List α} (h : a ∉ l) : su (fun b => if b = a then x else 0) l = 0 :=
  su_zero fun b hb => by
    have : b ≠ a := fun e => h (e ▸ hb)
    simp [this]
theorem su_ite [DecidableEq α] {x : Int} {a : α} {l : List α} (nd : l.Nodup) (h : a ∈ l) : su (fun b => if b = a then x else 0) l = x := by
  induction l with
  | nil => simp at h
  | cons b r ih =>
    rw [List.nodup_cons] at nd
    simp only [su_cons]
    by_cases e : b = a
    · subst e
      rw [su_ite_not nd.1]
      simp
    · have h' : a ∈ r := by
        rcases List.mem_cons.mp h with q | q
        · exact absurd q.symm e
        · exact q
      rw [ih nd.2 h']
      simp [e]
/-- a sum over a part of a list without repeats, of terms from nought on -/
theorem su_sub_le [DecidableEq α] {f : α → Int} : ∀ {T : List α} {l : List α}, T.Nodup → (∀ a ∈ T, a ∈ l) → (∀ a ∈ l, 0 ≤ f a) → su f T ≤ su f l
  | [], l, _, _, h => by simpa using su_nonneg h
  | a :: T, l, nd, hs, h => by
    rw [List.nodup_cons] at nd
    have hal : a ∈ l := hs a (by simp)
    have e : su f l = f a + su f (l.erase a) := by
      clear hs h nd
      induction l with
      | nil => simp at hal
      | cons b r ih =>
        by_cases q : b = a
        · subst q; simp
        · have : a ∈ r := by
            rcases List.mem_cons.mp hal with z | z
            · exact absurd z.symm q
            · exact z
          rw [List.erase_cons_tail (by simpa using q)]
          simp only [su_cons, ih this]; omega
    rw [e]
    simp only [su_cons]
    have : su f T ≤ su f (l.erase a) := su_sub_le nd.2 (fun b hb => by
      have hne : b ≠ a := fun z => nd.1 (z ▸ hb)
      exact (List.mem_erase_of_ne hne).mpr (hs b (by simp [hb]))) (fun b hb => h b (List.mem_of_mem_erase hb))
    omega
theorem su_perm {f : α → Int} {l m : List α} (p : l.Perm m) : su f l = su f m := by
  induction p with
  | nil => rfl
  | cons a _ ih => simp only [su_cons, ih]
  | swap a b l => simp only [su_cons]; omega
  | trans _ _ h1 h2 => rw [h1, h2]
theorem su_filter (p : α → Bool) (f : α → Int) (l : List α) : su f (l.filter p) = su (fun a => if p a = true then f a else 0) l := by
  induction l with
  | nil => rfl
  | cons a r ih =>
    rw [List.filter_cons]
    by_cases h : p a = true
    · simp only [h, if_true, su_cons, ih]
    · simp only [h, Bool.false_eq_true, if_false, su_cons, ih]; omega
theorem su_range (f : α → Int) (l : List α) : su f l = su (fun k => (l[k]?).elim 0 f) (List.range l.length) := by
  have key : ∀ (m : List α), su f m = su (fun k => (m[k]?).elim 0 f) (List.range m.length) := by
    intro m
    induction h : m.reverse generalizing m with
    | nil =>
      have : m = [] := by simpa using h
      subst this; rfl
    | cons a r ih =>
      have e : m = r.reverse ++ [a] := by
        have := congrArg List.reverse h
        simpa using this
      subst e
      rw [su_append, List.length_append, List.length_singleton, List.range_succ, su_append]
      rw [ih r.reverse (by simp)]
      have e2 : su (fun k => ((r.reverse ++ [a])[k]?).elim 0 f) (List.range r.reverse.length) = su (fun k => (r.reverse[k]?).elim 0 f) (List.range r.reverse.length) := by
        refine su_congr fun k hk => ?_
        have hk' : k < r.reverse.length := List.mem_range.mp hk
        show ((r.reverse ++ [a])[k]?).elim 0 f = (r.reverse[k]?).elim 0 f
        rw [List.getElem?_append_left hk']
      rw [e2]
      simp
  exact key l
end

/-! ### wants, gifts -/
section
variable {F S : Type} [DecidableEq F] [DecidableEq S]
abbrev Want (F S : Type) := F × List S × Int
abbrev Gift (S : Type) := List (S × Int)
def lets (w : Want F S) (s : S) : Prop := w.2.1 = [] ∨ s ∈ w.2.1
def gat (g : Gift S) (s : S) : Int := su (fun e => if e.1 = s then e.2 else 0) g
def gsum : List (Want F S) → List (Gift S) → F → S → Int
  | w :: ws, g :: gs, f, s => (if w.1 = f then gat g s else 0) + gsum ws gs f s
  | _, _, _, _ => 0
structure GiftOK (SH : List S) (w : Want F S) (g : Gift S) : Prop where
  pos : ∀ e ∈ g, 1 ≤ e.2
  ok : ∀ e ∈ g, lets w e.1
  uni : ∀ e ∈ g, e.1 ∈ SH
  sum : su (fun e => e.2) g = w.2.2
inductive All2 {α β : Type} (R : α → β → Prop) : List α → List β → Prop
  | nil : All2 R [] []
  | cons {a : α} {b : β} {l : List α} {m : List β} : R a b → All2 R l m → All2 R (a :: l) (b :: m)
theorem All2.length {α β : Type} {R : α → β → Prop} {l : List α} {m : List β} (h : All2 R l m) : l.length = m.length := by
  induction h with
  | nil => rfl
  | cons _ _ ih => simp [ih]
theorem All2.get {α β : Type} {R : α → β → Prop} {l : List α} {m : List β} (h : All2 R l m) : ∀ {k : Nat} {a : α}, l[k]? = some a → ∃ b, m[k]? = some b ∧ R a b := by
  induction h with
  | nil => intro k a e; simp at e
  | cons r _ ih =>
    intro k a e
    cases k with
    | zero => simp at e; subst e; exact ⟨_, rfl, r⟩
    | succ k =>
      obtain ⟨b, h1, h2⟩ := ih (k := k) (a := a) (by simpa using e)
      exact ⟨b, by simpa using h1, h2⟩
theorem All2.get' {α β : Type} {R : α → β → Prop} {l : List α} {m : List β} (h : All2 R l m) : ∀ {k : Nat} {b : β}, m[k]? = some b → ∃ a, l[k]? = some a ∧ R a b := by
  induction h with
  | nil => intro k a e; simp at e
  | cons r _ ih =>
    intro k a e
    cases k with
    | zero => simp at e; subst e; exact ⟨_, rfl, r⟩
    | succ k =>
      obtain ⟨b, h1, h2⟩ := ih (k := k) (b := a) (by simpa using e)
      exact ⟨b, by simpa using h1, h2⟩
theorem All2.of {α β : Type} {R : α → β → Prop} : ∀ {l : List α} {m : List β}, l.length = m.length → (∀ (k : Nat) (a : α) (b : β), l[k]? = some a → m[k]? = some b → R a b) → All2 R l m
  | [], [], _, _ => .nil
  | [], _ :: _, e, _ => by simp at e
  | _ :: _, [], e, _ => by simp at e
  | a :: l, b :: m, e, h => .cons (h 0 a b rfl rfl) (All2.of (by simpa using e) fun k x y h1 h2 => h (k + 1) x y (by simpa using h1) (by simpa using h2))
theorem All2.imp {α β : Type} {R Q : α → β → Prop} {l : List α} {m : List β} (h : All2 R l m) (i : ∀ a b, R a b → Q a b) : All2 Q l m := by
  induction h with
  | nil => exact .nil
  | cons r _ ih => exact .cons (i _ _ r) ih
theorem All2.append {α β : Type} {R : α → β → Prop} {l l' : List α} {m m' : List β} (h : All2 R l m) (h' : All2 R l' m') : All2 R (l ++ l') (m ++ m') := by
  induction h with
  | nil => exact h'
  | cons r _ ih => exact .cons r ih

def GivenOK (SH : List S) (c : F → S → Int) (ws : List (Want F S)) (gs : List (Gift S)) : Prop :=
  All2 (GiftOK SH) ws gs ∧ ∀ f s, gsum ws gs f s ≤ c f s
def wantedAt (ws : List (Want F S)) (f : F) : Option (List S) → Int
  | none => su (fun w => if w.1 = f then w.2.2 else 0) ws
  | some T => su (fun w => if w.1 = f ∧ w.2.1 ≠ [] ∧ ∀ s ∈ w.2.1, s ∈ T then w.2.2 else 0) ws
def hasAt (SH : List S) (c : F → S → Int) (f : F) : Option (List S) → Int
  | none => su (c f) SH
  | some T => su (c f) T
def IsBar (SH : List S) (c : F → S → Int) (ws : List (Want F S)) (f : F) (p : Option (List S)) : Prop := hasAt SH c f p < wantedAt ws f p

theorem gat_nonneg {g : Gift S} (h : ∀ e ∈ g, 1 ≤ e.2) (s : S) : 0 ≤ gat g s :=
  su_nonneg fun e he => by
    have := h e he
    show 0 ≤ (if e.1 = s then e.2 else 0)
    split <;> omega
/-- all entries lie among T -/
theorem gift_le {T : List S} : ∀ {g : Gift S}, (∀ e ∈ g, 1 ≤ e.2) → (∀ e ∈ g, e.1 ∈ T) → su (fun e => e.2) g ≤ su (gat g) T
  | [], _, _ => by
    have : su (gat ([] : Gift S)) T = 0 := su_zero fun _ _ => rfl
    simp [this]
  | e :: g, h1, h2 => by
    have ih := gift_le (g := g) (T := T) (fun x hx => h1 x (by simp [hx])) (fun x hx => h2 x (by simp [hx]))
    have e1 : su (gat (e :: g)) T = su (fun s => if e.1 = s then e.2 else 0) T + su (gat g) T := by
      rw [← su_add]
      exact su_congr fun s _ => rfl
    rw [e1]
    simp only [su_cons]
    have hp := h1 e (by simp)
    have : e.2 ≤ su (fun s => if e.1 = s then e.2 else 0) T := by
      have := su_mem_le (f := fun s => if e.1 = s then e.2 else 0) (l := T) (fun a _ => by
        show 0 ≤ (if e.1 = a then e.2 else 0)
        split <;> omega) (h2 e (by simp))
      simpa using this
    omega
theorem weak_core {SH : List S} (f : F) (T : List S) (P : Want F S → Prop) [DecidablePred P] (hP : ∀ w, P w → w.1 = f) :
    ∀ {ws : List (Want F S)} {gs : List (Gift S)}, All2 (GiftOK SH) ws gs → (∀ w g, GiftOK SH w g → P w → ∀ e ∈ g, e.1 ∈ T) →
      su (fun w => if P w then w.2.2 else 0) ws ≤ su (fun s => gsum ws gs f s) T
  | _, _, .nil, _ => by
    have : su (fun s => gsum ([] : List (Want F S)) ([] : List (Gift S)) f s) T = 0 := su_zero fun _ _ => rfl
    simp [this]
  | w :: ws, g :: gs, .cons r t, hT => by
    have ih := weak_core f T P hP t hT
    have e1 : su (fun s => gsum (w :: ws) (g :: gs) f s) T = su (fun s => if w.1 = f then gat g s else 0) T + su (fun s => gsum ws gs f s) T := by
      rw [← su_add]
      exact su_congr fun s _ => rfl
    rw [e1]
    simp only [su_cons]
    have : (if P w then w.2.2 else 0) ≤ su (fun s => if w.1 = f then gat g s else 0) T := by
      by_cases hw : P w
      · have hf := hP w hw
        simp only [hw, if_true, hf]
        rw [← r.sum]
        exact gift_le r.pos (hT w g r hw)
      · simp only [hw, if_false]
        refine su_nonneg fun s _ => ?_
        have := gat_nonneg r.pos s
        show 0 ≤ (if w.1 = f then gat g s else 0)
        split <;> omega
    omega
/-- where there is a dealing nothing bars -/
theorem weak {SH : List S} {c : F → S → Int} {ws : List (Want F S)} {gs : List (Gift S)} (h : GivenOK SH c ws gs) (f : F) (p : Option (List S)) : ¬ IsBar SH c ws f p := by
  intro hb
  obtain ⟨h1, h2⟩ := h
  cases p with
  | none =>
    have a := weak_core (SH := SH) f SH (fun w : Want F S => w.1 = f) (fun _ e => e) h1 (fun w g r _ => r.uni)
    have b : su (fun s => gsum ws gs f s) SH ≤ su (c f) SH := su_le fun s _ => h2 f s
    have : su (c f) SH < su (fun w : Want F S => if w.1 = f then w.2.2 else 0) ws := hb
    omega
  | some T =>
    have a := weak_core (SH := SH) f T (fun w : Want F S => w.1 = f ∧ w.2.1 ≠ [] ∧ ∀ s ∈ w.2.1, s ∈ T) (fun _ e => e.1) h1 (fun w g r hw e he => by
      rcases r.ok e he with z | z
      · exact absurd z hw.2.1
      · exact hw.2.2 _ z)
    have b : su (fun s => gsum ws gs f s) T ≤ su (c f) T := su_le fun s _ => h2 f s
    have : su (c f) T < su (fun w : Want F S => if w.1 = f ∧ w.2.1 ≠ [] ∧ ∀ s ∈ w.2.1, s ∈ T then w.2.2 else 0) ws := hb
    omega
end
end FL
end
section
set_option Elab.async false
set_option linter.all false
set_option maxRecDepth 100000
set_option maxHeartbeats 4000000
/-! Relations between values and data, what stays, calls of the program's own defs. -/
namespace Pk
open PySem PySem.Spec PyProof.Rows L2 FL
/-! ### what stays -/
theorem same_new {H : Hp} {p : Addr} {o : HO} (h : H p = none) : Same H (upd H p o) := fun b x e => by
  rw [upd_ne (ne_of_none e h)]
  exact e
/-- an object that H does not know may change -/
theorem same_mut {H H' : Hp} {p : Addr} {o : HO} (e : Same H H') (h : H p = none) : Same H (upd H' p o) := fun a u ha => by
  rw [upd_ne (ne_of_none ha h)]
  exact e a u ha
/-- what never changes: tuples, made instances -/
def Imm : HO → Prop
  | .tup _ => True
  | .ins _ _ _ => True
  | _ => False
/-- all that never changes is as it was -/
def Keep (H H' : Hp) : Prop := ∀ b o, Imm o → H b = some o → H' b = some o
theorem Keep.refl (H : Hp) : Keep H H := fun _ _ _ h => h
theorem Keep.trans {H H1 H2 : Hp} (a : Keep H H1) (b : Keep H1 H2) : Keep H H2 := fun c o i h => b c o i (a c o i h)
theorem Keep.of {H H' : Hp} (s : Same H H') : Keep H H' := fun b o _ h => s b o h
theorem Keep.upd {H : Hp} {p : Addr} {o : HO} (h : ∀ u, H p = some u → ¬ Imm u) : Keep H (upd H p o) := fun b u i e => by
  have : b ≠ p := fun z => h u (z ▸ e) i
  rw [upd_ne this]
  exact e
theorem Keep.lst {H : Hp} {p : Addr} {xs : List V} {o : HO} (h : H p = some (.lst xs)) : Keep H (L2.upd H p o) := Keep.upd fun u e i => by
  rw [h] at e
  cases e
  exact i
theorem Keep.dK {H : Hp} {p : Addr} {xs : List (Key × V)} {o : HO} (h : H p = some (.dK xs)) : Keep H (L2.upd H p o) := Keep.upd fun u e i => by
  rw [h] at e
  cases e
  exact i
theorem Keep.dT {H : Hp} {p : Addr} {xs : List (List Key × V)} {o : HO} (h : H p = some (.dT xs)) : Keep H (L2.upd H p o) := Keep.upd fun u e i => by
  rw [h] at e
  cases e
  exact i
theorem Keep.new {H : Hp} {p : Addr} {o : HO} (h : H p = none) : Keep H (L2.upd H p o) := Keep.of (same_new h)
/-- all but the objects at S is as it was -/
def But (S : List Addr) (H H' : Hp) : Prop := ∀ b o, b ∉ S → H b = some o → H' b = some o
theorem But.refl (S : List Addr) (H : Hp) : But S H H := fun _ _ _ h => h
theorem But.trans {S : List Addr} {H H1 H2 : Hp} (a : But S H H1) (b : But S H1 H2) : But S H H2 := fun c o i h => b c o i (a c o i h)
theorem But.of {S : List Addr} {H H' : Hp} (s : Same H H') : But S H H' := fun b o _ h => s b o h
theorem But.upd {S : List Addr} {H H' : Hp} {p : Addr} {o : HO} (e : But S H H') (h : p ∈ S ∨ H p = none) : But S H (upd H' p o) := fun b u i hb => by
  have : b ≠ p := fun z => by
    rcases h with h | h
    · exact i (z ▸ h)
    · rw [z, h] at hb; cases hb
  rw [upd_ne this]
  exact e b u i hb
theorem But.mono {S T : List Addr} {H H' : Hp} (e : But S H H') (h : ∀ a ∈ S, a ∈ T) : But T H H' := fun b o i hb => e b o (fun z => i (h b z)) hb
theorem ins_keep {H H' : Hp} (k : Keep H H') {a C dx : Addr} {fs : List (Str × V)} (h : H a = some (.ins C dx fs)) : H' a = some (.ins C dx fs) := k a _ trivial h
theorem tup_keep {H H' : Hp} (k : Keep H H') {a : Addr} {xs : List V} (h : H a = some (.tup xs)) : H' a = some (.tup xs) := k a _ trivial h
/-! ### values and data -/
abbrev RX (α : Type) := Hp → V → α → Prop
def Mo {α : Type} (R : RX α) : Prop := ∀ H H' v a, Keep H H' → R H v a → R H' v a
def TupR {α : Type} (R : RX α) : RX (List α) := fun H v as => ∃ p xs, v = .ref p ∧ H p = some (.tup xs) ∧ All2 (R H) xs as
theorem All2.mo {α : Type} {R : RX α} (m : Mo R) {H H' : Hp} (k : Keep H H') {xs : List V} {as : List α} (h : All2 (R H) xs as) : All2 (R H') xs as := h.imp fun v a r => m H H' v a k r
theorem TupR.mo {α : Type} {R : RX α} (m : Mo R) : Mo (TupR R) := fun H H' v as k ⟨p, xs, e, h, r⟩ => ⟨p, xs, e, tup_keep k h, All2.mo m k r⟩
def IntR : RX Int := fun _ v i => v = .int i
def StrR : RX Str := fun _ v s => v = .str s
theorem IntR.mo : Mo IntR := fun _ _ _ _ _ h => h
theorem StrR.mo : Mo StrR := fun _ _ _ _ _ h => h
theorem all2_int {H : Hp} : ∀ {xs : List V} {is : List Int}, All2 (IntR H) xs is → xs = is.map V.int
  | _, _, .nil => rfl
  | _, _, .cons r t => by rw [List.map_cons, all2_int t, r]
theorem all2_str {H : Hp} : ∀ {xs : List V} {is : List Str}, All2 (StrR H) xs is → xs = is.map V.str
  | _, _, .nil => rfl
  | _, _, .cons r t => by rw [List.map_cons, all2_str t, r]
theorem all2_int' {H : Hp} : ∀ (is : List Int), All2 (IntR H) (is.map V.int) is
  | [] => .nil
  | _ :: r => .cons rfl (all2_int' r)
theorem all2_str' {H : Hp} : ∀ (is : List Str), All2 (StrR H) (is.map V.str) is
  | [] => .nil
  | _ :: r => .cons rfl (all2_str' r)
/-- a part (form, shade), a row (form, shade, many), a want (form, shades, many) -/
def PartR : RX (Str × Str) := fun H v p => ∃ a, v = .ref a ∧ H a = some (.tup [.str p.1, .str p.2])
def RowR : RX (Str × Str × Int) := fun H v p => ∃ a, v = .ref a ∧ H a = some (.tup [.str p.1, .str p.2.1, .int p.2.2])
def WantR : RX (Want Str Str) := fun H v p => ∃ a b, v = .ref a ∧ H a = some (.tup [.str p.1, .ref b, .int p.2.2]) ∧ H b = some (.tup (p.2.1.map V.str))
def ShR : RX (Str × Int) := fun H v p => ∃ a, v = .ref a ∧ H a = some (.tup [.str p.1, .int p.2])
theorem PartR.mo : Mo PartR := fun _ _ _ _ k ⟨a, e, h⟩ => ⟨a, e, tup_keep k h⟩
theorem RowR.mo : Mo RowR := fun _ _ _ _ k ⟨a, e, h⟩ => ⟨a, e, tup_keep k h⟩
theorem WantR.mo : Mo WantR := fun _ _ _ _ k ⟨a, b, e, h, g⟩ => ⟨a, b, e, tup_keep k h, tup_keep k g⟩
theorem ShR.mo : Mo ShR := fun _ _ _ _ k ⟨a, e, h⟩ => ⟨a, e, tup_keep k h⟩
abbrev RowsR : RX (List (Str × Str × Int)) := TupR RowR
abbrev WantsR : RX (List (Want Str Str)) := TupR WantR
abbrev IntsR : RX (List Int) := TupR IntR
abbrev GiftR : RX (List (Str × Int)) := TupR ShR
abbrev GivenR : RX (List (List (Str × Int))) := TupR GiftR
theorem RowsR.mo : Mo RowsR := TupR.mo RowR.mo
theorem WantsR.mo : Mo WantsR := TupR.mo WantR.mo
theorem IntsR.mo : Mo IntsR := TupR.mo IntR.mo
theorem GivenR.mo : Mo GivenR := TupR.mo (TupR.mo ShR.mo)
/-! ### a def of the program as it is called -/
section
variable {P : Program} {w : World} {K : PySem.W.Frag} {mg : Str → Option Value} {base : Heap}
/-- where the def x (text st, name qual) stands; dvs its defaults -/
def DefAt (K : PySem.W.Frag) (mg : Str → Option Value) (x : Str) (st : Stmt) (dvs : List V) : Prop :=
  ∃ f fd, FunD K x x (defArgs st) (defBody st) (defScope st) dvs [] f fd ∧ mg x = some (.ref f)
/-- a method's text -/
def MethAt (K : PySem.W.Frag) (C : Addr) (m qual : Str) (st : Stmt) (dvs : List V) (f : Addr) : Prop :=
  ∃ fd, FunD K m qual (defArgs st) (defBody st) (defScope st) dvs [] f fd
structure Cal (P : Program) (w : World) (K : PySem.W.Frag) (mg : Str → Option Value) (base : Heap) (CX : CXT) (k : Nat) (x : Str) (ps : List Str) (sp : Sp) : Prop where
  ex : ∃ f fd, FnOk P w K mg base CX k f fd ps sp ∧ mg x = some (.ref f) ∧ PySem.W.keepIn K (.ref f) = true ∧ Binds K fd ps []
/-- a def's promise by its body -/
theorem Cal.mk' {x : Str} {st : Stmt} {N ps : List Str} {k : Nat} {sp : Sp} (D : DefAt K mg x st []) (S : FnScope N ps (defScope st)) (len : ∀ vs H Q E, sp vs H Q E → vs.length = ps.length)
    (hb : ∀ (kV doc pm : Value) (an : Option Addr) (cdv ct : Value) (us : List Value), us.length = ps.length → bindArgs (PySem.W.fnOf x x (defArgs st) (defBody st) (defScope st) .none kV doc pm an cdv ct) ⟨us, []⟩ = pure (ps.zip us))
    (hbody : ∀ (f : Addr) (cdv : Value) (A : Around) (outer : List Env) (s : Shared) (H : Hp) (vs : List V) (Q : VK) (E : XK), Room k (A.deeper (envOfC x (defScope st) s.heap.objs.size f cdv)) → sp vs H Q E →
      ∃ t, PSs (cxOf CX0 P w K mg base N x (defScope st) f cdv A outer s H E).nox (defBody st) t ∧ t { nx := fun _ H' => Q .non H', rt := Q } (start N vs) H) : Cal P w K mg base CX0 (k + 1) x ps sp := by
  obtain ⟨f, fd, F, g⟩ := D
  refine ⟨f, fd, ?_, g, F.kp, F.bindsN hb⟩
  exact F.ok S len fun cdv A outer s H vs Q E hr h => by
    obtain ⟨t, h1, h2⟩ := hbody f cdv A outer s H vs Q E hr h
    exact ⟨t, h1.nox, h2⟩
end
section
variable {X : Cx} {CX : CXT} {k j : Nat} {ps : List Str} {sp : Sp} {x : Str} {p pos : Pos} {e : Expr} {es : List Expr} {t : TA}
theorem pe_cal (C : Cal X.prog X.w X.K X.mg X.base CX0 k x ps sp) (hr : Room j X.A) (ha : PA X (e :: es) t) (hkj : k ≤ j := by decide) (hg : Gl X x := by rfl)
    (hdb : (x == ("__debug__" : Str)) = false := by decide) (he : starEach (e :: es) X.env = (false, eval e X.env) :: starEach es X.env := by rfl) (hpl : (backTo pos (starEach es X.env)).any (·.1) = false := by rfl) :
    PE X (.Call (.Name x p) (e :: es) [] pos) (tCall sp [] E0 t) := by
  obtain ⟨f, fd, F, g, kp, b⟩ := C.ex
  exact pe_call F (hr.mono hkj) hg g kp b .nil pass0 ha hdb he hpl
end
/-! ### indices -/
theorem at0 {α : Type} {x : α} {r : List α} : atI (x :: r) (0 : Int) = some x := atI_nat (j := 0) rfl
theorem at1 {α : Type} {x y : α} {r : List α} : atI (x :: y :: r) (1 : Int) = some y := atI_nat (j := 1) rfl
theorem at2 {α : Type} {x y z : α} {r : List α} : atI (x :: y :: z :: r) (2 : Int) = some z := atI_nat (j := 2) rfl
theorem sz_of {n : Nat} (h : n ≤ 16000000) : n ≤ sizeLine := Nat.le_trans h (by decide)
theorem sz_lt {n : Nat} (h : n ≤ 16000000) : n < sizeLine := Nat.lt_of_le_of_lt h (by decide)
end Pk
end
section
set_option Elab.async false
set_option linter.all false
set_option maxRecDepth 100000
set_option maxHeartbeats 4000000
/-! The program's text by places; what the top leaves. Printed by mkT.py. -/
namespace Pk
open PySem PySem.Spec PyProof.Rows L2 FL
def top (i : Nat) : Stmt := PySem.Challenge.pw_partkits_k58_whole_fewest_by_all.main.body.getD i (.Pass ⟨0, 0, 0, 0⟩)
abbrev s_counted : Stmt := top 7
abbrev s_lets : Stmt := top 10
abbrev s_spread : Stmt := top 11
abbrev s_way_of : Stmt := top 12
abbrev s_lead : Stmt := top 13
abbrev s_parts_left : Stmt := top 14
abbrev s_led : Stmt := top 15
abbrev s_as_gift : Stmt := top 16
abbrev s_shades_of : Stmt := top 17
abbrev s_deal : Stmt := top 18
abbrev s_is_number : Stmt := top 22
abbrev s_is_word : Stmt := top 23
abbrev s_choices : Stmt := top 25
abbrev s_wants_of : Stmt := top 26
abbrev s_times : Stmt := top 28
abbrev s_with_kits : Stmt := top 29
abbrev s_wanted_at : Stmt := top 30
abbrev s_has_at : Stmt := top 31
abbrev s_never_at : Stmt := top 32
abbrev s_sums_of : Stmt := top 33
abbrev s_fills : Stmt := top 34
abbrev s_fewest : Stmt := top 35
abbrev s_need : Stmt := top 37
abbrev s_wanted : Stmt := top 38
abbrev s_there : Stmt := top 39
abbrev s_is_rising : Stmt := top 40
abbrev s_is_shaped : Stmt := top 41
abbrev s_is_bar : Stmt := top 42
abbrev s_lets_bar : Stmt := top 43
abbrev s_is_gift : Stmt := top 45
abbrev s_is_right : Stmt := top 46
abbrev s_are_gifts : Stmt := top 47
abbrev s_is_given : Stmt := top 48
abbrev s_given_sum : Stmt := top 49
abbrev s_serves : Stmt := top 50
abbrev s_is_dealing : Stmt := top 51
abbrev s_law_tap : Stmt := top 53
abbrev s_law_pick : Stmt := top 54
abbrev s_law_words : Stmt := top 55
abbrev s_law_rows : Stmt := top 56
abbrev s_law_some : Stmt := top 57
abbrev s_law_wants : Stmt := top 58
abbrev s_law_sheet : Stmt := top 59
abbrev s_law_has : Stmt := top 60
abbrev s_law_wanted : Stmt := top 61
abbrev s_law_joined : Stmt := top 62
abbrev s_law_places : Stmt := top 63
abbrev s_law_sums : Stmt := top 64
abbrev s_law_tables : Stmt := top 65
abbrev s_law_never : Stmt := top 66
abbrev s_law_fewest : Stmt := top 67
abbrev s_law_scene : Stmt := top 68
abbrev s_law_heap : Stmt := top 69
abbrev s_law_told : Stmt := top 70
abbrev s_law : Stmt := top 71
abbrev s_Heap_init : Stmt := inClass (top 8) 0
abbrev s_Heap_rows : Stmt := inClass (top 8) 5
abbrev s_Heap_many : Stmt := inClass (top 8) 6
abbrev s_Heap_plus : Stmt := inClass (top 8) 8
abbrev s_Heap_rows_lacking : Stmt := inClass (top 8) 9
abbrev s_Heap_holds : Stmt := inClass (top 8) 10
abbrev s_NoKits_init : Stmt := inClass (top 5) 0
/-- what the top leaves of NoKits (at CN; its __init__ at fN) and PaperError (at CP) -/
structure TxtX (K : PySem.W.Frag) (mg : Str → Option Value) : Prop where
  ex : ∃ CN fN CP, mg "NoKits" = some (.ref CN) ∧ OexC K CN ∧ PySem.W.findIn K (.ref CN) "__init__" = some (some (.ref fN)) ∧ PySem.W.typeIn K (.ref fN) = some (.type "function") ∧ MethAt K CN "__init__" "NoKits.__init__" s_NoKits_init [] fN ∧
    PySem.W.findIn K (.ref CN) "paper" = some none ∧ PySem.W.exmOne K (.ref CN) (.ref CN) = some true ∧
    mg "PaperError" = some (.ref CP) ∧ PySem.W.findCls K (.ref CP) (.type "type") "__init__" = some (.val (.builtin "ValueError.__init__")) ∧ PySem.W.typeIn K (.ref CP) = some (.type "type")
structure Txt (K : PySem.W.Frag) (mg : Str → Option Value) (C : Addr) : Prop where
  cl : Cls K C
  nP : NoAttr K C "parts"
  mgC : mg "Heap" = some (.ref C)
  mkH : ∃ f, Mk K C f ∧ MethAt K C "__init__" "Heap.__init__" s_Heap_init [.non] f
  m_rows : ∃ f, Meth K C "rows" f ∧ MethAt K C "rows" "Heap.rows" s_Heap_rows [] f
  m_many : ∃ f, Meth K C "many" f ∧ MethAt K C "many" "Heap.many" s_Heap_many [.non] f
  m_plus : ∃ f, Meth K C "plus" f ∧ MethAt K C "plus" "Heap.plus" s_Heap_plus [] f
  m_rows_lacking : ∃ f, Meth K C "rows_lacking" f ∧ MethAt K C "rows_lacking" "Heap.rows_lacking" s_Heap_rows_lacking [] f
  m_holds : ∃ f, Meth K C "holds" f ∧ MethAt K C "holds" "Heap.holds" s_Heap_holds [] f
  letters : ∃ t, mg "LETTERS" = some (.str "abcdefghijklmnopqrstuvwxyz" t)
  mostl : ∃ t, mg "MOST_LETTERS" = some (.int 8 t)
  x : TxtX K mg
  len : mg "len" = none
  range : mg "range" = none
  zip : mg "zip" = none
  enumerate : mg "enumerate" = none
  sum : mg "sum" = none
  all : mg "all" = none
  min : mg "min" = none
  max : mg "max" = none
  tuple : mg "tuple" = none
  list : mg "list" = none
  sorted : mg "sorted" = none
  set : mg "set" = none
  dict : mg "dict" = none
  isinstance : mg "isinstance" = none
  int : mg "int" = none
  bool : mg "bool" = none
  str_ : mg "str" = none
  d_counted : DefAt K mg "counted" s_counted []
  d_lets : DefAt K mg "lets" s_lets []
  d_spread : DefAt K mg "spread" s_spread []
  d_way_of : DefAt K mg "way_of" s_way_of []
  d_lead : DefAt K mg "lead" s_lead []
  d_parts_left : DefAt K mg "parts_left" s_parts_left []
  d_led : DefAt K mg "led" s_led []
  d_as_gift : DefAt K mg "as_gift" s_as_gift []
  d_shades_of : DefAt K mg "shades_of" s_shades_of []
  d_deal : DefAt K mg "deal" s_deal []
  d_is_number : DefAt K mg "is_number" s_is_number []
  d_is_word : DefAt K mg "is_word" s_is_word []
  d_choices : DefAt K mg "choices" s_choices []
  d_wants_of : DefAt K mg "wants_of" s_wants_of [.non]
  d_times : DefAt K mg "times" s_times []
  d_with_kits : DefAt K mg "with_kits" s_with_kits []
  d_wanted_at : DefAt K mg "wanted_at" s_wanted_at []
  d_has_at : DefAt K mg "has_at" s_has_at []
  d_never_at : DefAt K mg "never_at" s_never_at []
  d_sums_of : DefAt K mg "sums_of" s_sums_of []
  d_fills : DefAt K mg "fills" s_fills []
  d_fewest : DefAt K mg "fewest" s_fewest []
  d_need : DefAt K mg "need" s_need []
  d_wanted : DefAt K mg "wanted" s_wanted []
  d_there : DefAt K mg "there" s_there []
  d_is_rising : DefAt K mg "is_rising" s_is_rising []
  d_is_shaped : DefAt K mg "is_shaped" s_is_shaped []
  d_is_bar : DefAt K mg "is_bar" s_is_bar []
  d_lets_bar : DefAt K mg "lets_bar" s_lets_bar []
  d_is_gift : DefAt K mg "is_gift" s_is_gift []
  d_is_right : DefAt K mg "is_right" s_is_right []
  d_are_gifts : DefAt K mg "are_gifts" s_are_gifts []
  d_is_given : DefAt K mg "is_given" s_is_given []
  d_given_sum : DefAt K mg "given_sum" s_given_sum []
  d_serves : DefAt K mg "serves" s_serves []
  d_is_dealing : DefAt K mg "is_dealing" s_is_dealing []
  d_law_tap : DefAt K mg "_law_tap" s_law_tap []
  d_law_pick : DefAt K mg "_law_pick" s_law_pick []
  d_law_words : DefAt K mg "_law_words" s_law_words []
  d_law_rows : DefAt K mg "_law_rows" s_law_rows []
  d_law_some : DefAt K mg "_law_some" s_law_some []
  d_law_wants : DefAt K mg "_law_wants" s_law_wants []
  d_law_sheet : DefAt K mg "_law_sheet" s_law_sheet []
  d_law_has : DefAt K mg "_law_has" s_law_has []
  d_law_wanted : DefAt K mg "_law_wanted" s_law_wanted []
  d_law_joined : DefAt K mg "_law_joined" s_law_joined []
  d_law_places : DefAt K mg "_law_places" s_law_places []
  d_law_sums : DefAt K mg "_law_sums" s_law_sums []
  d_law_tables : DefAt K mg "_law_tables" s_law_tables []
  d_law_never : DefAt K mg "_law_never" s_law_never []
  d_law_fewest : DefAt K mg "_law_fewest" s_law_fewest []
  d_law_scene : DefAt K mg "_law_scene" s_law_scene []
  d_law_heap : DefAt K mg "_law_heap" s_law_heap []
  d_law_told : DefAt K mg "_law_told" s_law_told []
  d_law : DefAt K mg "law" s_law []
end Pk
end
section
set_option Elab.async false
set_option linter.all false
set_option maxRecDepth 100000
set_option maxHeartbeats 0
/-! The head: what the top leaves, by one run in the kernel. Printed by mkHead.py. -/
namespace Pk
open PySem PySem.Spec PyProof.Rows L2 FL

def dd_counted : He.DefD := ⟨("counted", none), "counted", "counted", defArgs s_counted, defBody s_counted, defScope s_counted, [], []⟩
def dd_lets : He.DefD := ⟨("lets", none), "lets", "lets", defArgs s_lets, defBody s_lets, defScope s_lets, [], []⟩
def dd_spread : He.DefD := ⟨("spread", none), "spread", "spread", defArgs s_spread, defBody s_spread, defScope s_spread, [], []⟩
def dd_way_of : He.DefD := ⟨("way_of", none), "way_of", "way_of", defArgs s_way_of, defBody s_way_of, defScope s_way_of, [], []⟩
def dd_lead : He.DefD := ⟨("lead", none), "lead", "lead", defArgs s_lead, defBody s_lead, defScope s_lead, [], []⟩
def dd_parts_left : He.DefD := ⟨("parts_left", none), "parts_left", "parts_left", defArgs s_parts_left, defBody s_parts_left, defScope s_parts_left, [], []⟩
def dd_led : He.DefD := ⟨("led", none), "led", "led", defArgs s_led, defBody s_led, defScope s_led, [], []⟩
def dd_as_gift : He.DefD := ⟨("as_gift", none), "as_gift", "as_gift", defArgs s_as_gift, defBody s_as_gift, defScope s_as_gift, [], []⟩
def dd_shades_of : He.DefD := ⟨("shades_of", none), "shades_of", "shades_of", defArgs s_shades_of, defBody s_shades_of, defScope s_shades_of, [], []⟩
def dd_deal : He.DefD := ⟨("deal", none), "deal", "deal", defArgs s_deal, defBody s_deal, defScope s_deal, [], []⟩
def dd_is_number : He.DefD := ⟨("is_number", none), "is_number", "is_number", defArgs s_is_number, defBody s_is_number, defScope s_is_number, [], []⟩
def dd_is_word : He.DefD := ⟨("is_word", none), "is_word", "is_word", defArgs s_is_word, defBody s_is_word, defScope s_is_word, [], []⟩
def dd_choices : He.DefD := ⟨("choices", none), "choices", "choices", defArgs s_choices, defBody s_choices, defScope s_choices, [], []⟩
def dd_wants_of : He.DefD := ⟨("wants_of", none), "wants_of", "wants_of", defArgs s_wants_of, defBody s_wants_of, defScope s_wants_of, [.non], []⟩
def dd_times : He.DefD := ⟨("times", none), "times", "times", defArgs s_times, defBody s_times, defScope s_times, [], []⟩
def dd_with_kits : He.DefD := ⟨("with_kits", none), "with_kits", "with_kits", defArgs s_with_kits, defBody s_with_kits, defScope s_with_kits, [], []⟩
def dd_wanted_at : He.DefD := ⟨("wanted_at", none), "wanted_at", "wanted_at", defArgs s_wanted_at, defBody s_wanted_at, defScope s_wanted_at, [], []⟩
def dd_has_at : He.DefD := ⟨("has_at", none), "has_at", "has_at", defArgs s_has_at, defBody s_has_at, defScope s_has_at, [], []⟩
def dd_never_at : He.DefD := ⟨("never_at", none), "never_at", "never_at", defArgs s_never_at, defBody s_never_at, defScope s_never_at, [], []⟩
def dd_sums_of : He.DefD := ⟨("sums_of", none), "sums_of", "sums_of", defArgs s_sums_of, defBody s_sums_of, defScope s_sums_of, [], []⟩
def dd_fills : He.DefD := ⟨("fills", none), "fills", "fills", defArgs s_fills, defBody s_fills, defScope s_fills, [], []⟩
def dd_fewest : He.DefD := ⟨("fewest", none), "fewest", "fewest", defArgs s_fewest, defBody s_fewest, defScope s_fewest, [], []⟩
def dd_need : He.DefD := ⟨("need", none), "need", "need", defArgs s_need, defBody s_need, defScope s_need, [], []⟩
def dd_wanted : He.DefD := ⟨("wanted", none), "wanted", "wanted", defArgs s_wanted, defBody s_wanted, defScope s_wanted, [], []⟩
def dd_there : He.DefD := ⟨("there", none), "there", "there", defArgs s_there, defBody s_there, defScope s_there, [], []⟩
def dd_is_rising : He.DefD := ⟨("is_rising", none), "is_rising", "is_rising", defArgs s_is_rising, defBody s_is_rising, defScope s_is_rising, [], []⟩
def dd_is_shaped : He.DefD := ⟨("is_shaped", none), "is_shaped", "is_shaped", defArgs s_is_shaped, defBody s_is_shaped, defScope s_is_shaped, [], []⟩
def dd_is_bar : He.DefD := ⟨("is_bar", none), "is_bar", "is_bar", defArgs s_is_bar, defBody s_is_bar, defScope s_is_bar, [], []⟩
def dd_lets_bar : He.DefD := ⟨("lets_bar", none), "lets_bar", "lets_bar", defArgs s_lets_bar, defBody s_lets_bar, defScope s_lets_bar, [], []⟩
def dd_is_gift : He.DefD := ⟨("is_gift", none), "is_gift", "is_gift", defArgs s_is_gift, defBody s_is_gift, defScope s_is_gift, [], []⟩
def dd_is_right : He.DefD := ⟨("is_right", none), "is_right", "is_right", defArgs s_is_right, defBody s_is_right, defScope s_is_right, [], []⟩
def dd_are_gifts : He.DefD := ⟨("are_gifts", none), "are_gifts", "are_gifts", defArgs s_are_gifts, defBody s_are_gifts, defScope s_are_gifts, [], []⟩
def dd_is_given : He.DefD := ⟨("is_given", none), "is_given", "is_given", defArgs s_is_given, defBody s_is_given, defScope s_is_given, [], []⟩
def dd_given_sum : He.DefD := ⟨("given_sum", none), "given_sum", "given_sum", defArgs s_given_sum, defBody s_given_sum, defScope s_given_sum, [], []⟩
def dd_serves : He.DefD := ⟨("serves", none), "serves", "serves", defArgs s_serves, defBody s_serves, defScope s_serves, [], []⟩
def dd_is_dealing : He.DefD := ⟨("is_dealing", none), "is_dealing", "is_dealing", defArgs s_is_dealing, defBody s_is_dealing, defScope s_is_dealing, [], []⟩
def dd_law_tap : He.DefD := ⟨("_law_tap", none), "_law_tap", "_law_tap", defArgs s_law_tap, defBody s_law_tap, defScope s_law_tap, [], []⟩
def dd_law_pick : He.DefD := ⟨("_law_pick", none), "_law_pick", "_law_pick", defArgs s_law_pick, defBody s_law_pick, defScope s_law_pick, [], []⟩
def dd_law_words : He.DefD := ⟨("_law_words", none), "_law_words", "_law_words", defArgs s_law_words, defBody s_law_words, defScope s_law_words, [], []⟩
def dd_law_rows : He.DefD := ⟨("_law_rows", none), "_law_rows", "_law_rows", defArgs s_law_rows, defBody s_law_rows, defScope s_law_rows, [], []⟩
def dd_law_some : He.DefD := ⟨("_law_some", none), "_law_some", "_law_some", defArgs s_law_some, defBody s_law_some, defScope s_law_some, [], []⟩
def dd_law_wants : He.DefD := ⟨("_law_wants", none), "_law_wants", "_law_wants", defArgs s_law_wants, defBody s_law_wants, defScope s_law_wants, [], []⟩
def dd_law_sheet : He.DefD := ⟨("_law_sheet", none), "_law_sheet", "_law_sheet", defArgs s_law_sheet, defBody s_law_sheet, defScope s_law_sheet, [], []⟩
def dd_law_has : He.DefD := ⟨("_law_has", none), "_law_has", "_law_has", defArgs s_law_has, defBody s_law_has, defScope s_law_has, [], []⟩
def dd_law_wanted : He.DefD := ⟨("_law_wanted", none), "_law_wanted", "_law_wanted", defArgs s_law_wanted, defBody s_law_wanted, defScope s_law_wanted, [], []⟩
def dd_law_joined : He.DefD := ⟨("_law_joined", none), "_law_joined", "_law_joined", defArgs s_law_joined, defBody s_law_joined, defScope s_law_joined, [], []⟩
def dd_law_places : He.DefD := ⟨("_law_places", none), "_law_places", "_law_places", defArgs s_law_places, defBody s_law_places, defScope s_law_places, [], []⟩
def dd_law_sums : He.DefD := ⟨("_law_sums", none), "_law_sums", "_law_sums", defArgs s_law_sums, defBody s_law_sums, defScope s_law_sums, [], []⟩
def dd_law_tables : He.DefD := ⟨("_law_tables", none), "_law_tables", "_law_tables", defArgs s_law_tables, defBody s_law_tables, defScope s_law_tables, [], []⟩
def dd_law_never : He.DefD := ⟨("_law_never", none), "_law_never", "_law_never", defArgs s_law_never, defBody s_law_never, defScope s_law_never, [], []⟩
def dd_law_fewest : He.DefD := ⟨("_law_fewest", none), "_law_fewest", "_law_fewest", defArgs s_law_fewest, defBody s_law_fewest, defScope s_law_fewest, [], []⟩
def dd_law_scene : He.DefD := ⟨("_law_scene", none), "_law_scene", "_law_scene", defArgs s_law_scene, defBody s_law_scene, defScope s_law_scene, [], []⟩
def dd_law_heap : He.DefD := ⟨("_law_heap", none), "_law_heap", "_law_heap", defArgs s_law_heap, defBody s_law_heap, defScope s_law_heap, [], []⟩
def dd_law_told : He.DefD := ⟨("_law_told", none), "_law_told", "_law_told", defArgs s_law_told, defBody s_law_told, defScope s_law_told, [], []⟩
def dd_law : He.DefD := ⟨("law", none), "law", "law", defArgs s_law, defBody s_law, defScope s_law, [], []⟩
def dh_init : He.DefD := ⟨("Heap", some "__init__"), "__init__", "Heap.__init__", defArgs s_Heap_init, defBody s_Heap_init, defScope s_Heap_init, [.non], []⟩
def dh_rows : He.DefD := ⟨("Heap", some "rows"), "rows", "Heap.rows", defArgs s_Heap_rows, defBody s_Heap_rows, defScope s_Heap_rows, [], []⟩
def dh_many : He.DefD := ⟨("Heap", some "many"), "many", "Heap.many", defArgs s_Heap_many, defBody s_Heap_many, defScope s_Heap_many, [.non], []⟩
def dh_plus : He.DefD := ⟨("Heap", some "plus"), "plus", "Heap.plus", defArgs s_Heap_plus, defBody s_Heap_plus, defScope s_Heap_plus, [], []⟩
def dh_rows_lacking : He.DefD := ⟨("Heap", some "rows_lacking"), "rows_lacking", "Heap.rows_lacking", defArgs s_Heap_rows_lacking, defBody s_Heap_rows_lacking, defScope s_Heap_rows_lacking, [], []⟩
def dh_holds : He.DefD := ⟨("Heap", some "holds"), "holds", "Heap.holds", defArgs s_Heap_holds, defBody s_Heap_holds, defScope s_Heap_holds, [], []⟩
def dx_init : He.DefD := ⟨("NoKits", some "__init__"), "__init__", "NoKits.__init__", defArgs s_NoKits_init, defBody s_NoKits_init, defScope s_NoKits_init, [], []⟩
def fn : List He.DefD := [dd_counted, dd_lets, dd_spread, dd_way_of, dd_lead, dd_parts_left, dd_led, dd_as_gift, dd_shades_of, dd_deal, dd_is_number, dd_is_word, dd_choices, dd_wants_of, dd_times, dd_with_kits, dd_wanted_at, dd_has_at, dd_never_at, dd_sums_of, dd_fills, dd_fewest, dd_need, dd_wanted, dd_there, dd_is_rising, dd_is_shaped, dd_is_bar, dd_lets_bar, dd_is_gift, dd_is_right, dd_are_gifts, dd_is_given, dd_given_sum, dd_serves, dd_is_dealing, dd_law_tap, dd_law_pick, dd_law_words, dd_law_rows, dd_law_some, dd_law_wants, dd_law_sheet, dd_law_has, dd_law_wanted, dd_law_joined, dd_law_places, dd_law_sums, dd_law_tables, dd_law_never, dd_law_fewest, dd_law_scene, dd_law_heap, dd_law_told, dd_law, dh_init, dh_rows, dh_many, dh_plus, dh_rows_lacking, dh_holds, dx_init]
def fa0 : List He.Fa := [.glo "counted", .glo "lets", .glo "spread", .glo "way_of", .glo "lead", .glo "parts_left", .glo "led", .glo "as_gift", .glo "shades_of", .glo "deal", .glo "is_number", .glo "is_word", .glo "choices", .glo "wants_of", .glo "times", .glo "with_kits", .glo "wanted_at", .glo "has_at", .glo "never_at", .glo "sums_of", .glo "fills", .glo "fewest", .glo "need", .glo "wanted", .glo "there", .glo "is_rising", .glo "is_shaped", .glo "is_bar", .glo "lets_bar", .glo "is_gift", .glo "is_right", .glo "are_gifts", .glo "is_given", .glo "given_sum", .glo "serves"]
def fa1 : List He.Fa := [.glo "is_dealing", .glo "_law_tap", .glo "_law_pick", .glo "_law_words", .glo "_law_rows", .glo "_law_some", .glo "_law_wants", .glo "_law_sheet", .glo "_law_has", .glo "_law_wanted", .glo "_law_joined", .glo "_law_places", .glo "_law_sums", .glo "_law_tables", .glo "_law_never", .glo "_law_fewest", .glo "_law_scene", .glo "_law_heap", .glo "_law_told", .glo "law", .glo "Heap", .glo "NoKits", .glo "PaperError", .cls "Heap", .noat "Heap" "parts", .mkr "Heap", .meth "Heap" "rows", .meth "Heap" "many", .meth "Heap" "plus", .meth "Heap" "rows_lacking", .meth "Heap" "holds", .str "LETTERS" "abcdefghijklmnopqrstuvwxyz", .int "MOST_LETTERS" 8, .exm "NoKits" "NoKits" true, .keep "NoKits"]
def fa2 : List He.Fa := [.noat "NoKits" "paper", .free "len", .free "range", .free "zip", .free "enumerate", .free "sum", .free "all", .free "min", .free "max", .free "tuple", .free "list", .free "sorted", .free "set", .free "dict", .free "isinstance", .free "int", .free "bool", .free "str"]
def fa : List He.Fa := fa0 ++ fa1 ++ fa2
/-- the shape of an own exception class -/
def excShape (o : Obj) (C : Addr) : Bool := match o with
  | ⟨.type "type", _, .cls ⟨_, _, mro, _, _, hd, _, _, _, _, del⟩, sl⟩ => (match mro, sl.toList with
    | .ref C' :: bm, [_, _, _, _, some (.builtin n), _] => C' == C && n == "ValueError.__new__" && hd && !del && PySem.HandSPX.refsVE bm
    | _, _ => false)
  | _ => false
def exB (K : PySem.W.Frag) : Bool :=
  (match K.lookup (He.ga K "NoKits") with
    | some ob => excShape ob (He.ga K "NoKits")
    | none => false) &&
  (decide (PySem.W.findIn K (.ref (He.ga K "NoKits")) "__setattr__" = some (some (.builtin "object.__setattr__"))) &&
  (decide (PySem.W.subIn K (.ref (He.ga K "NoKits")) (.type "BaseException") = some true) &&
  (decide (PySem.W.typeIn K (.ref (He.ga K "NoKits")) = some (.type "type")) &&
  (decide (PySem.W.findIn K (.ref (He.ga K "NoKits")) "__init__" = some (some (.ref (He.ma K (He.ga K "NoKits") "__init__")))) &&
  (decide (PySem.W.typeIn K (.ref (He.ma K (He.ga K "NoKits") "__init__")) = some (.type "function")) &&
  (PySem.W.readsIn K (He.ga K "PaperError") (.type "type") &&
  (decide (PySem.W.specialIn K (.ref (He.ga K "PaperError")) "__getattribute__" = some (some (.builtin "type.__getattribute__"))) &&
  ((match PySem.W.findCls K (.ref (He.ga K "PaperError")) (.type "type") "__init__" with
    | some (.val (.builtin n)) => n == "ValueError.__init__"
    | _ => false) &&
  decide (PySem.W.typeIn K (.ref (He.ga K "PaperError")) = some (.type "type"))))))))))
theorem excShape_ok {ob : Obj} {C : Addr} (h : excShape ob C = true) : ∃ nm q N bs bm sn sub ab col dd k0 k1 k2 k3 k5, ob = excClassObj nm q C N bs bm true sn sub ab col dd k0 k1 k2 k3 k5 "ValueError.__new__" ∧ PySem.HandSPX.refsVE bm = true := by
  unfold excShape at h
  split at h
  · rename_i dd nm bs mro N q hd sn sub ab col del sl
    split at h
    · rename_i C' bm k0 k1 k2 k3 n k5 hs
      simp only [Bool.and_eq_true, beq_iff_eq, Bool.not_eq_true'] at h
      obtain ⟨⟨⟨⟨rfl, rfl⟩, rfl⟩, rfl⟩, hr⟩ := h
      have hsl : sl = #[k0, k1, k2, k3, some (.builtin "ValueError.__new__"), k5] := by
        obtain ⟨l⟩ := sl
        simp only at hs
        rw [hs]
      subst hsl
      exact ⟨nm, q, N, bs, bm, sn, sub, ab, col, dd, k0, k1, k2, k3, k5, rfl, hr⟩
    · cases h
  · cases h
abbrev Ro : PySem.W.OpenRow := PySem.W.OpenLaw.row PySem.Challenge.rw_partkits_k58_whole_fewest_by_all
/-- what the names reach, and the interpreter's own statics -/
def asP (g : Addr → Option Obj) : List Addr := He.asD g 5 ++ [cStatics]
abbrev AlP : Type := He.AlD × Bool
def obsP (g : Addr → Option Obj) : AlP := (He.obsD fa fn (He.frG g (asP g)), exB (He.frG g (asP g)))
def valP : AlP := (He.valD fn, true)
def hk : PySem.W.Hook where
  α := AlP
  obs := fun s => obsP s.heap.get?
  val := fun _ => valP
  says := fun _ h => ∃ K : PySem.W.Frag, K.In h ∧ He.SaysD fa fn K ∧ exB K = true
  of := fun _ _ e => ⟨_, He.frG_in, congrArg (fun z : AlP => z.1) e, congrArg (fun z : AlP => z.2) e⟩
  keeps := fun _ _ _ ⟨K, hK, c⟩ k => ⟨K, PySem.W.Frag.In.keeps hK k, c⟩
def ob (s : PySem.W.SharedT) : AlP := obsP (HandSHeadRun.getT s)
theorem ob_eq (s : PySem.W.SharedT) : ob s = hk.obs s.abs := by
  have e : HandSHeadRun.getT s = s.abs.heap.get? := funext (HandSHeadRun.getT_eq s)
  show obsP (HandSHeadRun.getT s) = obsP s.abs.heap.get?
  rw [e]
def loose1 : List PySem.Str := ["counted", "lets", "spread", "way_of", "lead", "parts_left", "led", "as_gift", "shades_of", "deal", "is_number", "is_word", "choices", "wants_of", "times", "with_kits", "wanted_at", "has_at", "never_at", "sums_of", "fills", "fewest", "need", "wanted", "there", "is_rising", "is_shaped", "is_bar", "lets_bar", "is_gift"]
def loose2 : List PySem.Str := ["is_right", "are_gifts", "is_given", "given_sum", "serves", "is_dealing", "_law_tap", "_law_pick", "_law_words", "_law_rows", "_law_some", "_law_wants", "_law_sheet", "_law_has", "_law_wanted", "_law_joined", "_law_places", "_law_sums", "_law_tables", "_law_never", "_law_fewest", "_law_scene", "_law_heap", "_law_told", "_wall", "KitError", "PaperError", "NoPaper", "NoKits", "Heap", "LETTERS", "MOST_LETTERS"]
def loose : List PySem.Str := loose1 ++ loose2
theorem run (w : World) : HandSHeadRun.RunEq Ro (PySem.W.view Ro.prog [71]) hk ob 20000 loose w := by
  intro os
  kernel_rfl
end Pk
end
section
set_option Elab.async false
set_option linter.all false
set_option maxRecDepth 100000
set_option maxHeartbeats 4000000
/-! Typed dicts keyed by parts; rows, counts. -/
namespace Pk
open PySem PySem.Spec PyProof.Rows L2 FL
abbrev Part := Str × Str
def encK (p : Part) : List Key := [.inr p.1, .inr p.2]
theorem encK_inj {p q : Part} (h : encK p = encK q) : p = q := by
  obtain ⟨a, b⟩ := p
  obtain ⟨c, d⟩ := q
  simp only [encK, List.cons.injEq, Sum.inr.injEq, and_true] at h
  rw [h.1, h.2]
theorem encK_kV (p : Part) : (encK p).map kV = [V.str p.1, V.str p.2] := rfl
section
variable {α : Type}
def look (kv : List (Part × α)) (p : Part) : Option α := (kv.find? fun e => decide (e.1 = p)).map (·.2)
def put (kv : List (Part × α)) (p : Part) (v : α) : List (Part × α) := if (kv.any fun e => decide (e.1 = p)) = true then kv.map (fun e => if e.1 = p then (e.1, v) else e) else kv ++ [(p, v)]
def enc (f : α → V) (kv : List (Part × α)) : List (List Key × V) := kv.map fun e => (encK e.1, f e.2)
theorem look_nil {p : Part} : look ([] : List (Part × α)) p = none := rfl
theorem look_cons {e : Part × α} {r : List (Part × α)} {p : Part} : look (e :: r) p = if e.1 = p then some e.2 else look r p := by
  unfold look
  by_cases h : e.1 = p
  · simp [List.find?_cons, h]
  · simp [List.find?_cons, h]
theorem enc_val (f : α → V) (p : Part) : ∀ kv : List (Part × α), valV (enc f kv) (encK p) = (look kv p).map f
  | [] => rfl
  | e :: r => by
    rw [look_cons]
    by_cases h : e.1 = p
    · rw [if_pos h]
      show valV ((encK e.1, f e.2) :: enc f r) (encK p) = _
      rw [valV_pos (by show encK e.1 = encK p; rw [h])]
      rfl
    · rw [if_neg h]
      show valV ((encK e.1, f e.2) :: enc f r) (encK p) = _
      rw [valV_neg (fun z => h (encK_inj z)), enc_val f p r]
theorem enc_any (f : α → V) (p : Part) (kv : List (Part × α)) : ((enc f kv).any fun e => decide (e.1 = encK p)) = kv.any fun e => decide (e.1 = p) := by
  unfold enc
  rw [List.any_map]
  congr 1
  funext e
  show decide (encK e.1 = encK p) = decide (e.1 = p)
  by_cases h : e.1 = p
  · rw [h]; simp
  · have : ¬ encK e.1 = encK p := fun z => h (encK_inj z)
    simp [h, this]
theorem enc_put (f : α → V) (p : Part) (v : α) (kv : List (Part × α)) : putK (enc f kv) (encK p) (f v) = enc f (put kv p v) := by
  unfold putK put
  rw [enc_any]
  split
  · unfold enc
    rw [List.map_map, List.map_map]
    refine List.map_congr_left fun e _ => ?_
    show (if encK e.1 = encK p then (encK e.1, f v) else (encK e.1, f e.2)) = (encK (if e.1 = p then (e.1, v) else e).1, f (if e.1 = p then (e.1, v) else e).2)
    by_cases h : e.1 = p
    · rw [if_pos h, if_pos (by rw [h])]
    · rw [if_neg h, if_neg (fun z => h (encK_inj z))]
  · unfold enc
    rw [List.map_append]
    rfl
theorem look_any (p : Part) : ∀ kv : List (Part × α), (kv.any fun e => decide (e.1 = p)) = (look kv p).isSome
  | [] => rfl
  | e :: r => by
    rw [look_cons, List.any_cons, look_any p r]
    by_cases h : e.1 = p
    · simp [h]
    · simp [h]
theorem look_map (p q : Part) (v : α) : ∀ kv : List (Part × α), look (kv.map fun e => if e.1 = p then (e.1, v) else e) q = (look kv q).map fun x => if q = p then v else x
  | [] => rfl
  | e :: r => by
    rw [List.map_cons, look_cons, look_cons, look_map p q v r]
    by_cases h : e.1 = p
    · rw [if_pos h]
      show (if e.1 = q then some v else _) = _
      by_cases h2 : e.1 = q
      · rw [if_pos h2, if_pos h2]
        have : q = p := h2.symm.trans h
        simp [this]
      · rw [if_neg h2, if_neg h2]
    · rw [if_neg h]
      by_cases h2 : e.1 = q
      · rw [if_pos h2, if_pos h2]
        have : ¬ q = p := fun z => h (h2.trans z)
        simp [this]
      · rw [if_neg h2, if_neg h2]
theorem look_append (p q : Part) (v : α) : ∀ kv : List (Part × α), look kv p = none → look (kv ++ [(p, v)]) q = if q = p then some v else look kv q
  | [], _ => by
    rw [List.nil_append, look_cons]
    by_cases h : q = p
    · rw [if_pos h, if_pos h.symm]
    · rw [if_neg h, if_neg (Ne.symm h)]
  | e :: r, h0 => by
    rw [look_cons] at h0
    by_cases h : e.1 = p
    · rw [if_pos h] at h0; cases h0
    · rw [if_neg h] at h0
      rw [List.cons_append, look_cons, look_cons, look_append p q v r h0]
      by_cases h2 : e.1 = q
      · rw [if_pos h2, if_pos h2, if_neg (fun z => h (h2.trans z))]
      · rw [if_neg h2, if_neg h2]
theorem look_put (p q : Part) (v : α) (kv : List (Part × α)) : look (put kv p v) q = if q = p then some v else look kv q := by
  unfold put
  rw [look_any]
  cases h : look kv p with
  | none => simpa [h] using look_append p q v kv h
  | some x =>
    simp only [Option.isSome_some, if_true]
    rw [look_map]
    by_cases h2 : q = p
    · rw [h2, h]; simp
    · rw [if_neg h2]
      cases look kv q with
      | none => rfl
      | some y => simp [h2]
theorem put_keys (p : Part) (v : α) (kv : List (Part × α)) : (put kv p v).map (·.1) = if (look kv p).isSome = true then kv.map (·.1) else kv.map (·.1) ++ [p] := by
  unfold put
  rw [look_any]
  split
  · rw [List.map_map]
    refine List.map_congr_left fun e _ => ?_
    show (if e.1 = p then (e.1, v) else e).1 = e.1
    split <;> rfl
  · rw [List.map_append]; rfl
theorem look_none {p : Part} : ∀ {kv : List (Part × α)}, look kv p = none ↔ p ∉ kv.map (·.1)
  | [] => by simp [look_nil]
  | e :: r => by
    rw [look_cons, List.map_cons, List.mem_cons]
    by_cases h : e.1 = p
    · rw [if_pos h]; simp [h]
    · rw [if_neg h, look_none (kv := r)]
      simp [Ne.symm h]
theorem look_mem {p : Part} {x : α} : ∀ {kv : List (Part × α)}, look kv p = some x → (p, x) ∈ kv
  | [], h => by cases h
  | e :: r, h => by
    rw [look_cons] at h
    by_cases q : e.1 = p
    · rw [if_pos q] at h
      have : e = (p, x) := by rw [← q, ← Option.some.inj h]
      simp [this]
    · rw [if_neg q] at h
      exact List.mem_cons_of_mem _ (look_mem h)
theorem mem_look {p : Part} {x : α} : ∀ {kv : List (Part × α)}, (kv.map (·.1)).Nodup → (p, x) ∈ kv → look kv p = some x
  | [], _, h => by simp at h
  | e :: r, nd, h => by
    rw [List.map_cons, List.nodup_cons] at nd
    rw [look_cons]
    rcases List.mem_cons.mp h with q | q
    · rw [← q]; simp
    · have : ¬ e.1 = p := fun z => nd.1 (z ▸ List.mem_map_of_mem (f := (·.1)) q)
      rw [if_neg this, mem_look nd.2 q]
theorem put_nodup {p : Part} {v : α} {kv : List (Part × α)} (nd : (kv.map (·.1)).Nodup) : ((put kv p v).map (·.1)).Nodup := by
  rw [put_keys]
  split
  · exact nd
  · rename_i h
    rw [List.nodup_append]
    refine ⟨nd, by simp, fun a ha b hb => ?_⟩
    simp only [List.mem_singleton] at hb
    subst hb
    have : look kv b = none := by
      cases q : look kv b with
      | none => rfl
      | some x => rw [q] at h; simp at h
    exact fun z => look_none.mp this (z ▸ ha)
theorem put_mem {p : Part} {v : α} {kv : List (Part × α)} {e : Part × α} (h : e ∈ put kv p v) : e = (p, v) ∨ e ∈ kv := by
  unfold put at h
  split at h
  · obtain ⟨a, ha, rfl⟩ := List.mem_map.mp h
    split
    · rename_i q; rw [q]; exact .inl rfl
    · exact .inr ha
  · rcases List.mem_append.mp h with q | q
    · exact .inr q
    · exact .inl (by simpa using q)
theorem enc_len (f : α → V) (kv : List (Part × α)) : (enc f kv).length = kv.length := List.length_map ..
end
/-! ### the universe of words -/
def FM : List Str := ["brick", "br", "plate", "x"]
def SH : List Str := ["red", "re", "blue", "z", "zz"]
theorem FM_nd : FM.Nodup := by decide +kernel
theorem SH_nd : SH.Nodup := by decide +kernel
def UN : List Part := FM.flatMap fun f => SH.map fun s => (f, s)
theorem UN_mem {f s : Str} (h1 : f ∈ FM) (h2 : s ∈ SH) : (f, s) ∈ UN := List.mem_flatMap.mpr ⟨f, h1, List.mem_map.mpr ⟨s, h2, rfl⟩⟩
theorem UN_len : UN.length = 20 := by decide +kernel
theorem nd_le {α : Type} [DecidableEq α] : ∀ {l m : List α}, l.Nodup → (∀ a ∈ l, a ∈ m) → l.length ≤ m.length
  | [], _, _, _ => by simp
  | a :: l, m, nd, h => by
    rw [List.nodup_cons] at nd
    have ha := h a (by simp)
    have := nd_le (l := l) (m := m.erase a) nd.2 fun b hb => by
      have hne : b ≠ a := fun z => by
        rw [z] at hb
        exact nd.1 hb
      exact (List.mem_erase_of_ne hne).mpr (h b (by simp [hb]))
    rw [List.length_erase_of_mem ha] at this
    have : 0 < m.length := List.length_pos_of_mem ha
    simp only [List.length_cons]
    omega
/-! ### rows -/
abbrev Row := Str × Str × Int
def cnt : List Row → Str → Str → Int
  | [], _, _ => 0
  | r :: rs, f, s => (if r.1 = f ∧ r.2.1 = s then r.2.2 else 0) + cnt rs f s
def RowOK (r : Row) : Prop := r.1 ∈ FM ∧ r.2.1 ∈ SH ∧ 1 ≤ r.2.2
def RowsOK (rs : List Row) : Prop := ∀ r ∈ rs, RowOK r
def HeapOK (rs : List Row) : Prop := RowsOK rs ∧ (rs.map fun r => (r.1, r.2.1)).Nodup
theorem cnt_append (a b : List Row) (f s : Str) : cnt (a ++ b) f s = cnt a f s + cnt b f s := by
  induction a with
  | nil => simp [cnt]
  | cons r rs ih => simp only [List.cons_append, cnt, ih]; omega
theorem cnt_nonneg {rs : List Row} (h : RowsOK rs) (f s : Str) : 0 ≤ cnt rs f s := by
  induction rs with
  | nil => simp [cnt]
  | cons r rs ih =>
    have h1 := (h r (by simp)).2.2
    have h2 := ih (fun x hx => h x (by simp [hx]))
    simp only [cnt]
    split <;> omega
theorem cnt_out {rs : List Row} (h : RowsOK rs) {f s : Str} (hn : ¬ (f ∈ FM ∧ s ∈ SH)) : cnt rs f s = 0 := by
  induction rs with
  | nil => simp [cnt]
  | cons r rs ih =>
    have h1 := h r (by simp)
    have h2 := ih (fun x hx => h x (by simp [hx]))
    have : ¬ (r.1 = f ∧ r.2.1 = s) := fun z => hn ⟨z.1 ▸ h1.1, z.2 ▸ h1.2.1⟩
    simp only [cnt, this, if_false, h2]; rfl
theorem HeapOK.len {rs : List Row} (h : HeapOK rs) : rs.length ≤ 20 := by
  have := nd_le h.2 (m := UN) fun a ha => by
    obtain ⟨r, hr, rfl⟩ := List.mem_map.mp ha
    exact UN_mem (h.1 r hr).1 (h.1 r hr).2.1
  rw [List.length_map, UN_len] at this
  exact this
/-- a dict of counts of parts -/
structure CD (kv : List (Part × Int)) (c : Str → Str → Int) : Prop where
  nd : (kv.map (·.1)).Nodup
  ok : ∀ e ∈ kv, e.1.1 ∈ FM ∧ e.1.2 ∈ SH ∧ 1 ≤ e.2
  eq : ∀ f s, (look kv (f, s)).getD 0 = c f s
theorem CD.len {kv : List (Part × Int)} {c : Str → Str → Int} (h : CD kv c) : kv.length ≤ 20 := by
  have := nd_le h.nd (m := UN) fun a ha => by
    obtain ⟨r, hr, rfl⟩ := List.mem_map.mp ha
    exact UN_mem (h.ok r hr).1 (h.ok r hr).2.1
  rw [List.length_map, UN_len] at this
  exact this
theorem CD.put {kv : List (Part × Int)} {c : Str → Str → Int} (h : CD kv c) {r : Row} (hr : RowOK r) :
    CD (put kv (r.1, r.2.1) ((look kv (r.1, r.2.1)).getD 0 + r.2.2)) (fun f s => c f s + (if r.1 = f ∧ r.2.1 = s then r.2.2 else 0)) where
  nd := put_nodup h.nd
  ok := fun e he => by
    rcases put_mem he with rfl | he
    · refine ⟨hr.1, hr.2.1, ?_⟩
      have h1 := hr.2.2
      cases q : look kv (r.1, r.2.1) with
      | none => simpa using h1
      | some x =>
        have := (h.ok _ (look_mem q)).2.2
        simp only [Option.getD_some]
        simp only at this
        omega
    · exact h.ok e he
  eq := fun f s => by
    rw [look_put]
    by_cases q : (f, s) = (r.1, r.2.1)
    · rw [if_pos q]
      have q1 : f = r.1 := congrArg Prod.fst q
      have q2 : s = r.2.1 := congrArg Prod.snd q
      subst q1 q2
      rw [h.eq]
      simp
    · rw [if_neg q, h.eq]
      have : ¬ (r.1 = f ∧ r.2.1 = s) := fun z => q (by rw [← z.1, ← z.2])
      simp [this]
theorem put_put {α : Type} (p : Part) (v w : α) (kv : List (Part × α)) (h : look kv p = none) : put (put kv p v) p w = put kv p w := by
  have e1 : put kv p v = kv ++ [(p, v)] := by
    unfold put
    rw [look_any, h]; simp
  have e2 : put kv p w = kv ++ [(p, w)] := by
    unfold put
    rw [look_any, h]; simp
  rw [e2, e1]
  unfold put
  have : ((kv ++ [(p, v)]).any fun e => decide (e.1 = p)) = true := by simp
  rw [if_pos this, List.map_append]
  congr 1
  · have : ∀ l : List (Part × α), p ∉ l.map (·.1) → l.map (fun e => if e.1 = p then (e.1, w) else e) = l := fun l hl => by
      refine (List.map_congr_left fun e he => ?_).trans (List.map_id l)
      have : ¬ e.1 = p := fun z => hl (z ▸ List.mem_map_of_mem (f := (·.1)) he)
      simp [this]
    exact this kv (look_none.mp h)
  · simp
end Pk
end
section
set_option Elab.async false
set_option linter.all false
set_option maxRecDepth 100000
set_option maxHeartbeats 4000000
/-! sorted of a dict whose keys are parts; sorted of a list of (text, int). -/
namespace Pk
open PySem PySem.Spec PyProof.Rows L2 FL
theorem perm_lift {α β : Type} {f : α → β} : ∀ {l m : List β}, l.Perm m → ∀ {L : List α}, m = L.map f → ∃ L' : List α, L'.Perm L ∧ l = L'.map f := by
  intro l m h
  induction h with
  | nil =>
    intro L e
    cases L with
    | nil => exact ⟨[], List.Perm.refl _, rfl⟩
    | cons a r => cases e
  | cons x _ ih =>
    intro L e
    cases L with
    | nil => cases e
    | cons a r =>
      rw [List.map_cons] at e
      injection e with e1 e2
      obtain ⟨L', p, e3⟩ := ih e2
      exact ⟨a :: L', p.cons a, by rw [List.map_cons, e1, e3]⟩
  | swap x y l =>
    intro L e
    cases L with
    | nil => cases e
    | cons a r =>
      cases r with
      | nil => cases e
      | cons b r =>
        rw [List.map_cons, List.map_cons] at e
        injection e with e1 e2
        injection e2 with e2 e3
        exact ⟨b :: a :: r, List.Perm.swap a b r, by rw [List.map_cons, List.map_cons, e1, e2, e3]⟩
  | trans _ _ h1 h2 =>
    intro L e
    obtain ⟨L1, p1, e1⟩ := h2 e
    obtain ⟨L2, p2, e2⟩ := h1 e1
    exact ⟨L2, p2.trans p1, e2⟩
/-- the objects at refs are tuples whose items have the keys -/
def ItemsAt (h : Heap) (us : List Value) (ks : List (List (Int ⊕ List Nat))) (shape : Nat → Bool) : Prop := All2 (fun u k => G.tupKeyC h shape u = some k ∧ ∃ f, TupOf h shape u f) us ks
theorem itemsAt_tups {h : Heap} {shape : Nat → Bool} : ∀ {us : List Value} {ks : List (List (Int ⊕ List Nat))}, ItemsAt h us ks shape → ∃ fs, TupsOf h shape us fs
  | _, _, .nil => ⟨[], .nil⟩
  | _, _, .cons r t => by
    obtain ⟨f, hf⟩ := r.2
    obtain ⟨fs, hfs⟩ := itemsAt_tups t
    exact ⟨f :: fs, .cons hf hfs⟩
theorem itemsAt_mem {h : Heap} {shape : Nat → Bool} {us : List Value} {ks : List (List (Int ⊕ List Nat))} (x : ItemsAt h us ks shape) : ∀ u ∈ us, ∃ k, G.tupKeyC h shape u = some k := fun u hu => by
  obtain ⟨i, hi, e⟩ := List.mem_iff_getElem.mp hu
  obtain ⟨k, _, r⟩ := All2.get x (k := i) (a := u) (by rw [List.getElem?_eq_getElem hi, e])
  exact ⟨k, r.1⟩
theorem tupC_of {h : Heap} {a : Addr} {o : Obj} {its : List Value} {n : Nat} {shape : Nat → Bool} (ho : h.get? a = some o) (hc : o.cls = .type "tuple") (hd : o.data = .seq its.toArray n) : G.tupKeyC h shape (.ref a) = tupItems shape 0 its := by
  unfold G.tupKeyC G.isTupObj tupKey
  simp only [ho, hc, hd]
  simp
section
variable {X : Cx} {pins : List (Addr × Obj)} {σ : L2.St} {H : Hp} {s : Shared}
/-- a part's tuple as a key -/
def kP (p : Part) : List (Int ⊕ List Nat) := [.inr p.1.cps.toList, .inr p.2.cps.toList]
def kS (p : Str × Int) : List (Int ⊕ List Nat) := [.inr p.1.cps.toList, .inl p.2]
def shP : Nat → Bool := fun _ => true
def shS : Nat → Bool := fun i => i == 0
theorem part_key {b : Addr} {p : Part} (I : Inv X pins σ H s) (hb : H b = some (.tup [.str p.1, .str p.2])) : G.tupKeyC s.heap shP (.ref b) = some (kP p) ∧ ∃ f, TupOf s.heap shP (.ref b) f := by
  obtain ⟨_, its, rv, o, ho, hc, n, hd⟩ := I.hok _ _ hb
  obtain ⟨u1, u2, rfl, r1, r2⟩ := Vals.two rv
  obtain ⟨t1, rfl⟩ := r1
  obtain ⟨t2, rfl⟩ := r2
  exact ⟨(tupC_of ho hc hd).trans rfl, _, b, o, _, n, rfl, ho, hc, hd, rfl, (fun z => absurd z (by decide)), fun _ => ⟨_, _, rfl⟩⟩
theorem sh_key {b : Addr} {p : Str × Int} (I : Inv X pins σ H s) (hb : H b = some (.tup [.str p.1, .int p.2])) : G.tupKeyC s.heap shS (.ref b) = some (kS p) ∧ ∃ f, TupOf s.heap shS (.ref b) f := by
  obtain ⟨_, its, rv, o, ho, hc, n, hd⟩ := I.hok _ _ hb
  obtain ⟨u1, u2, rfl, r1, r2⟩ := Vals.two rv
  obtain ⟨t1, rfl⟩ := r1
  obtain ⟨t2, rfl⟩ := r2
  exact ⟨(tupC_of ho hc hd).trans rfl, _, b, o, _, n, rfl, ho, hc, hd, rfl, (fun z => absurd z (by decide)), fun _ => ⟨_, _, rfl⟩⟩
theorem refs_vals : ∀ bs : List Addr, Vals (bs.map V.ref) (bs.map Value.ref)
  | [] => .nil
  | _ :: r => .cons rfl (refs_vals r)
theorem vals_refs_eq : ∀ {bs : List Addr} {us : List Value}, Vals (bs.map V.ref) us → us = bs.map Value.ref
  | [], _, .nil => rfl
  | b :: r, _, .cons h t => by rw [List.map_cons, vals_refs_eq t]; cases h; rfl
/-- sorted(d), d's keys parts: the keys' own tuples, in some turn -/
def rSortedDT : List V → Hp → VK → Prop := fun xs H Q => ∃ (d : Addr) (kvs : List (List Key × V)) (ps : List Part), xs = [.ref d] ∧ Rd H d (.dT kvs) ∧ kvs.map (·.1) = ps.map encK ∧ ps.length ≤ 1000 ∧
  ∀ (p : Addr) (bs : List Addr) (qs : List Part), H p = none → qs.Perm ps → All2 (fun b q => H b = some (.tup [.str q.1, .str q.2])) bs qs → Q (.ref p) (upd H p (.lst (bs.map V.ref)))
theorem keys_parts {H : Hp} : ∀ {kvs : List (List Key × V)} {xs : List (List Key × Addr × Value)} {ps : List Part}, KT H kvs xs → kvs.map (·.1) = ps.map encK → All2 (fun (b : Addr) (q : Part) => H b = some (.tup [.str q.1, .str q.2])) (xs.map fun x => x.2.1) ps
  | _, _, [], .nil, _ => .nil
  | _, _, _ :: _, .nil, e => by cases e
  | _, _, [], .cons _ _, e => by cases e
  | _, _, p :: ps, .cons h t, e => by
    rw [List.map_cons, List.map_cons] at e
    injection e with e1 e2
    refine .cons ?_ (keys_parts t e2)
    have := h.2.1
    rw [e1, encK_kV] at this
    exact this
theorem perm_pairs {R : Addr → Part → Prop} {bs : List Addr} {ps : List Part} (h : All2 R bs ps) {us : List Value} (p : us.Perm (bs.map Value.ref)) : ∃ bs' ps', us = bs'.map Value.ref ∧ ps'.Perm ps ∧ All2 R bs' ps' := by
  have e : bs.map Value.ref = (bs.zip ps).map fun z => Value.ref z.1 := by
    have : bs = (bs.zip ps).map (·.1) := (List.map_fst_zip (by rw [h.length]; exact Nat.le_refl _)).symm
    conv => lhs; rw [this]
    rw [List.map_map]
    rfl
  rw [e] at p
  obtain ⟨L, pl, el⟩ := perm_lift p (L := bs.zip ps) rfl
  refine ⟨L.map (·.1), L.map (·.2), by rw [el, List.map_map]; rfl, ?_, ?_⟩
  · have := pl.map (·.2)
    rw [List.map_snd_zip (by rw [h.length]; exact Nat.le_refl _)] at this
    exact this
  · have hm : ∀ z ∈ L, R z.1 z.2 := fun z hz => by
      have hz' := pl.mem_iff.mp hz
      obtain ⟨i, hi, ez⟩ := List.mem_iff_getElem.mp hz'
      rw [List.getElem_zip] at ez
      have h1 : i < bs.length := by rw [List.length_zip] at hi; omega
      have h2 : i < ps.length := by rw [List.length_zip] at hi; omega
      obtain ⟨b, hb, r⟩ := h.get (k := i) (a := bs[i]) (List.getElem?_eq_getElem h1)
      rw [List.getElem?_eq_getElem h2] at hb
      cases hb
      rw [← ez]
      exact r
    clear pl el p e
    induction L with
    | nil => exact .nil
    | cons z r ih => exact .cons (hm z (by simp)) (ih fun y hy => hm y (by simp [hy]))
theorem call_sortedDT (hcalm : X.calm = true) : CallR X (.builtin "sorted") rSortedDT := by
  intro pins s σ H xs us Q I r q
  obtain ⟨d, kvs, ps, rfl, hd, hks, h64, q⟩ := q
  obtain ⟨u, rfl, rx⟩ := r.one
  cases rx
  obtain ⟨z, hs, ks, pr, o, es, ep, ho, hx, hdt, he, hn⟩ := (show ObjOk X.prog X.w H s.heap d (.dT kvs) from hd.ok I.hok)
  have l1 : es.size = ks.length := size_of_entries he
  have l2 : kvs.length = ks.length := Paired.length pr
  have l3 : kvs.length = ps.length := by
    have e := congrArg List.length hks
    rw [List.length_map, List.length_map] at e
    exact e
  have hkp := keys_parts pr hks
  refine Calls.call_function_entry PyProof.Rows.kind_sorted PyProof.Rows.plain_sorted PyProof.Rows.entry_sorted (PyProof.Rows.args_sorted1 _) ?_
  unfold Builtin.«sorted»
  refine wpAny_bind (m := checkCount "sorted" 1 1 _) (wpAny_pure ?_)
  refine wpAny_bind (PySem.W.kdu_collect (A := X.A.in1) (kdl_raw hs hx hdt) (I.ok.hd hcalm) ho (by rw [l1, ← l2]; exact z) fun h' tk acc hk it => ?_)
  have ea : acc.toList = (ks.map fun x => x.2.1).map Value.ref := by
    have hl : acc.toList.length = ks.length := by rw [Array.length_toList, it.1]; exact l1
    apply List.ext_getElem?
    intro j
    rw [List.map_map, List.getElem?_map]
    cases hj : acc.toList[j]? with
    | none =>
      have h1 := List.getElem?_eq_none_iff.mp hj
      rw [List.getElem?_eq_none (by omega)]
      all_goals rfl
    | some v =>
      obtain ⟨en, hen, hv⟩ := it.2 j v (by rw [← Array.getElem?_toList]; exact hj)
      have qe := entry_at he j
      rw [hen] at qe
      cases hb : ks[j]? with
      | none =>
        rw [hb] at qe
        exact nomatch (show some en = none from qe)
      | some b =>
        rw [hb] at qe
        have e2 : en = entryOfKey (tupleKind (mixKind X.prog X.w)) b := Option.some.inj qe
        rw [hv, e2]
        rfl
  have I1 : Inv X pins σ H { s with heap := h', toks := tk } := I.kept hk
  have hal : acc.toList.length ≤ sizeLine := by
    rw [ea, List.length_map, List.length_map, ← l2]
    exact z
  refine wpAny_bind (wpAny_newList ?_ hal)
  have hoL : (h'.push (seqObj "list" acc.toList.toArray 0)).get? h'.objs.size = some (seqObj "list" acc.toList.toArray 0) := Heap.get?_push_size _ rfl
  have I2 : Inv X pins σ H { s with heap := h'.push (seqObj "list" acc.toList.toArray 0), toks := tk } := I1.kept (t' := tk) fun b u e => Heap.get?_push_of_some _ e
  show wpAny _ _ _ _ _ { s with heap := h'.push (seqObj "list" acc.toList.toArray 0), toks := tk }
  have hit : ItemsAt (h'.push (seqObj "list" acc.toList.toArray 0)) acc.toList (ps.map kP) shP := by
    have h0 : ∀ {bs : List Addr} {qs : List Part}, All2 (fun (b : Addr) (q : Part) => H b = some (.tup [.str q.1, .str q.2])) bs qs → ItemsAt (h'.push (seqObj "list" acc.toList.toArray 0)) (bs.map Value.ref) (qs.map kP) shP := by
      intro bs qs h
      induction h with
      | nil => exact .nil
      | cons r _ ih => exact .cons (part_key I2 r) ih
    have h1 := h0 hkp
    rw [← ea] at h1
    exact h1
  obtain ⟨fs, hfs⟩ := itemsAt_tups hit
  refine wpAny_bind (wpAny_holding (wpAny_call_entry PyProof.Rows.slot_list_sort ⟨_, hoL, rfl⟩ PyProof.Rows.entry_list_sort
    (G.list_sort_tups (s := { s with heap := h'.push (seqObj "list" acc.toList.toArray 0), toks := tk }) hoL hfs (itemsAt_mem hit) hal fun st' hp hs hst => ⟨_, rfl, ?_⟩)
    (PyProof.Rows.args_list_sort _)))
  have hpm : ((arrOf st').map (·.2)).toList.Perm ((ks.map fun x => x.2.1).map Value.ref) := by
    rw [← ea]
    exact Srt.out_perm hp
  obtain ⟨bs, qs, eb, pq, hb⟩ := perm_pairs hkp hpm
  obtain ⟨e', he'⟩ := PyProof.Rows.sortedHeap_at (vs := acc.toList) (out := (arrOf st').map (·.2)) hoL
  have hlen : (bs.map V.ref).length ≤ sizeLine := by
    rw [List.length_map, hb.length, pq.length_eq, ← l3]
    exact z
  refine wpAny_pure ⟨_, rfl, .ref h'.objs.size, upd H h'.objs.size (.lst (bs.map V.ref)), I1.laid (t' := tk) (fun b u e => ?_) (Nat.le_refl _)
    (show ObjOk X.prog X.w _ _ _ (.lst (bs.map V.ref)) from ⟨hlen, ((arrOf st').map (·.2)).toList, e', by rw [eb]; exact refs_vals bs, by rw [Array.toArray_toList]; exact he'⟩), rfl, q _ bs qs (I1.hok.fresh (Nat.le_refl _)) pq hb⟩
  have hb : b < h'.objs.size := Heap.lt_size e
  rw [PyProof.Rows.sortedHeap_old (Nat.ne_of_lt hb) (by rw [size_push']; exact Nat.lt_succ_of_lt hb)]
  exact Heap.get?_push_of_some _ e
end
theorem pe_sortedT {X : Cx} {e : Expr} {te : TE} {p pos : Pos} (hc : X.calm = true) (hm : X.mg "sorted" = none) (he : PE X e te) (hg : Gl X "sorted" := by rfl)
    (hst : starEach (e :: []) X.env = (false, eval e X.env) :: starEach [] X.env := by rfl) (hpl : (backTo pos (starEach [] X.env)).any (·.1) = false := by rfl) : PE X (.Call (.Name "sorted" p) [e] [] pos) (tCB rSortedDT (tCons te tNil)) :=
  pe_callB (call_sortedDT hc) hg hm (by decide +kernel) (pa_cons he pa_nil (hs := hst)) (he := hst) (hpl := hpl)
end Pk
end
section
set_option Elab.async false
set_option linter.all false
set_option maxRecDepth 100000
set_option maxHeartbeats 4000000
/-! setdefault of a dict with tuple keys; calls of methods. -/
namespace PySem
section
variable {prog : Program} {w : World} {K : Type} [DecidableEq K] {knd : HeapKind prog w K} {A : Around} {E : Value → Shared → Prop} {s : Shared}
theorem pk_dictSetDefault_heap {d a : Addr} {xs : List (K × Addr × Value)} {k : K} {v : Value} {Q : Value → Shared → Prop} (hu : knd.room A) (hkey : knd.is s.heap k a) (hm : s.heap.DictOfH knd d xs)
    (h1 : ∀ p, atKey xs k = some p → Q p.2 { s with toks := s.toks + knd.draws k })
    (hQ : atKey xs k = none → ∀ h', h'.DictOfH knd d (xs ++ [(k, a, v)]) → Heap.SameBut d s.heap h' → Q v { s with heap := h', toks := s.toks + knd.draws k })
    (hsz : xs.length ≤ sizeLine := by size_fits) :
    wpAny (model prog w) A (dictSetDefault d (.ref a) v) Q E s := by
  obtain ⟨o, es, ep, ho, hc, hd, he, his, hn⟩ := hm
  unfold dictSetDefault
  try with_reducible refine wpAny_holding ?_
  refine wpAny_bind (knd.pyHash hu hkey ?_)
  refine wpAny_bind (wpAny_dictFind_heap (s := { s with toks := s.toks + knd.draws k }) hu hkey ho hd he his hn ?_ ?_)
  · intro hno
    have hnot : k ∉ xs.map (·.1) := not_mem_keys_of_get hno
    refine wpAny_bind (wpAny_rule (wpAny_bind (wpAny_updateDictKeys (hz := by have e := size_of_entries he; omega) (s := { s with toks := s.toks + knd.draws k }) ho hd (wpAny_pure (hQ (atKey_none_of_get hno) _ ⟨_, _, ep + 1, Heap.get?_update_self _ ho (Obj.isFreed_of_dict (Obj.data_mapDictKeys hd _)),
      hc.mapDictKeys _, Obj.data_mapDictKeys hd _, ?_, ?_, ?_⟩ (Heap.SameBut.update ..))))))
    · simp [he, entryOfKey]
    · intro x hx
      rcases List.mem_append.mp hx with hx | hx
      · exact knd.keeps (his x hx) ho hd (Heap.SameBut.update ..)
      · simp only [List.mem_singleton] at hx
        subst hx
        exact knd.keeps hkey ho hd (Heap.SameBut.update ..)
    · rw [List.map_append, List.nodup_append]
      refine ⟨hn, by simp, ?_⟩
      intro x hx y hy
      simp only [List.map_cons, List.map_nil, List.mem_singleton] at hy
      subst hy
      exact fun e => hnot (e ▸ hx)
  · intro j p hj
    refine wpAny_bind (wpAny_dictEntries (s := { s with toks := s.toks + knd.draws k }) ho hd ?_)
    rw [entry_at he j, hj]
    exact wpAny_bind (wpAny_rule (wpAny_pure (h1 p (atKey_of_get hn hj))))
theorem pk_meets_setdefault (knd : HeapKind prog w K) (d a : Addr) (hd : (d == sysModules) = false) (dflt : Value) :
    MeetsIn prog w (Builtin.«dict.setdefault» ⟨[.ref d, .ref a, dflt], []⟩) (fun A R s => knd.room A.in1 ∧ ∃ k xs, knd.is s.heap k a ∧ s.heap.DictOfH knd d xs ∧ xs.length ≤ sizeLine ∧
      (∀ p, atKey xs k = some p → R (.ok (.ret p.2)) { s with toks := s.toks + knd.draws k }) ∧
      (atKey xs k = none → ∀ h', h'.DictOfH knd d (xs ++ [(k, a, dflt)]) → Heap.SameBut d s.heap h' → R (.ok (.ret dflt)) { s with heap := h', toks := s.toks + knd.draws k })) :=
  .of_wp fun A R s ⟨hu, k, xs, hkey, hm, hz, h1, h2⟩ => by
    unfold Builtin.«dict.setdefault»
    refine wpAny_bind ?_
    unfold Builtin.Dict.keyAndDefault
    refine wpAny_bind (wpAny_notOrdered_dict hm.typeIs ?_)
    show wpAny _ _ (pure (d, Value.ref a, some dflt)) _ _ s
    refine wpAny_pure ?_
    show wpAny _ _ (if (d == sysModules) = true then _ else (dictSetDefault d (.ref a) dflt >>= _)) _ _ s
    rw [if_neg (by rw [hd]; exact Bool.false_ne_true)]
    exact wpAny_bind (pk_dictSetDefault_heap (hsz := hz) hu hkey hm (fun p hp => wpAny_pure ⟨p.2, rfl, h1 p hp⟩) fun hn h' hm' hs' => wpAny_pure ⟨dflt, rfl, h2 hn h' hm' hs'⟩)
end
end PySem
namespace Pk
open PySem PySem.Spec PyProof.Rows L2 FL
theorem atKey_iff {xs : List (List Key × Addr × Value)} {H : Hp} {kvs : List (List Key × V)} (r : KT H kvs xs) (k : List Key) : (atKey xs k = none ↔ valV kvs k = none) ∧ ∀ p, atKey xs k = some p → ∃ v, valV kvs k = some v ∧ RelV v p.2 := by
  have q := r.val k
  constructor
  · constructor
    · intro e
      rw [e] at q
      cases h : valV kvs k with
      | none => rfl
      | some v => rw [h] at q; exact q.elim
    · intro e
      rw [e] at q
      cases h : atKey xs k with
      | none => rfl
      | some v => rw [h] at q; exact q.elim
  · intro p e
    rw [e] at q
    cases h : valV kvs k with
    | none => rw [h] at q; exact q.elim
    | some v => rw [h] at q; exact ⟨v, rfl, q⟩
section
variable {X : Cx} {pins : List (Addr × Obj)} {σ : L2.St} {H : Hp} {s : Shared} {a b : Addr} {u r : Value} {d : V} {k : List Key} {A : Around} {E : Value → Shared → Prop}
theorem d_setdT {kvs : List (List Key × V)} {Q : Value → Shared → Prop} (hu : A.units + 1 < cLine) (I : Inv X pins σ H s) (e : H a = some (.dT kvs)) (eb : H b = some (.tup (k.map kV))) (rd : RelV d r) (hl : kvs.length < sizeLine)
    (h1 : ∀ v, valV kvs k = some v → ∀ (w' : Value) (s' : Shared), Inv X pins σ H s' → RelV v w' → Q w' s') (h2 : valV kvs k = none → ∀ (w' : Value) (s' : Shared), Inv X pins σ (upd H a (.dT (putK kvs k d))) s' → RelV d w' → Q w' s') :
    wpAny (model X.prog X.w) A (call (.builtin "dict.setdefault") [.ref a, .ref b, r]) Q E s := by
  obtain ⟨z, hd, xs, rel, dd⟩ := dt_of I.hok e
  have hz : xs.length ≤ sizeLine := by
    have := Paired.length rel
    omega
  refine call_meetsIn PySem.F.slot_dict_setdefault dd.typeIs PySem.F.entry_dict_setdefault (PySem.F.args_dict_setdefault_3 _ _ _) (pk_meets_setdefault (tupleKind (mixKind X.prog X.w)) a b hd r) ⟨tupleKind_room_in1 hu, k, xs, key_of I.hok eb, dd, hz, fun p hp => ?_, fun hn h' dd' hs => ?_⟩
  · obtain ⟨v, hv, rv⟩ := (atKey_iff rel k).2 p hp
    exact h1 v hv _ _ (I.tok _) rv
  · have hv := (atKey_iff rel k).1.mp hn
    have hl2 : (putK kvs k d).length ≤ sizeLine := by
      have := length_putK kvs k d
      omega
    have he : ∃ q, h'.get? a = some q := let ⟨q, _, _, hq, _⟩ := dd'; ⟨q, hq⟩
    have ep : putK kvs k d = kvs ++ [(k, d)] := putK_new d hv
    have ba : b ≠ a := ne_of eb e (by intro z; cases z)
    have rel2 : KT (upd H a (.dT (putK kvs k d))) (putK kvs k d) (xs ++ [(k, b, r)]) := by
      have q := KT.put rel k (b := b) eb rd
      rw [storedH_new hn] at q
      exact KT.keeps q fun c ys hc => by rw [upd_ne (ne_of hc e (by intro z; cases z))]; exact hc
    refine h2 hv _ _ (d_write (t' := s.toks + (k.length + 1)) (ob := .dT (putK kvs k d)) I (by rw [e]; exact True.intro) hs he ?_) rd
    obtain ⟨o, es, ep', ho, hc, hdt, hes, _, hnd⟩ := dd'
    exact ⟨hl2, hd, _, rel2, o, es, ep', ho, hc, hdt, hes, hnd⟩
end
/-- d.setdefault(t, z), t a tuple -/
def tDSetdT (td ty tx : TE) : TE := fun σ H Q => td σ H fun x H1 => ∃ a, x = .ref a ∧ IsD H1 a ∧ ty σ H1 fun y H2 => tx σ H2 fun z H3 => ∃ (kvs : List (List Key × V)) (k : List Key) (b : Addr), H3 a = some (.dT kvs) ∧ y = .ref b ∧ H3 b = some (.tup (k.map kV)) ∧ kvs.length < sizeLine ∧
  (∀ v, valV kvs k = some v → Q v H3) ∧ (valV kvs k = none → Q z (upd H3 a (.dT (putK kvs k z))))
section
variable {X : Cx} {o e f : Expr} {td ty tx : TE} {apos cpos : Pos}
theorem pe_dsetdT (hu : X.A.units + 1 < cLine) (ho : PE X o td) (he : PE X e ty) (hf : PE X f tx) (m : M2 X o "setdefault" apos e f cpos) : PE X (.Call (.Attribute o "setdefault" apos) [e, f] [] cpos) (tDSetdT td ty tx) := by
  refine ⟨fun pins s σ H Q I h => ?_⟩
  refine wpAny_Call_method m.base m.few m.line PySem.F.plainAttrs_dict PySem.F.slot_dict_setdefault PySem.F.type_dict_setdefault (thn (ho.run pins s σ H _ I h) fun u s1 ⟨x, H1, I1, rx, a, ex, d, q1⟩ => ?_)
  subst ex
  obtain rfl : u = Value.ref a := rx
  obtain ⟨t1, t2, _⟩ := isD_at I1 d
  refine ⟨t1, t2, ?_⟩
  rw [m.trees]
  refine Calls.callWith_builtin rfl (Calls.evalArgs_plain (Calls.spliced_cons (thn (he.run pins s1 σ H1 _ I1 q1) fun iv s2 ⟨y, H2, I2, ry, q2⟩ =>
    Calls.spliced_cons (thn (hf.run pins s2 σ H2 _ I2 q2) fun fv s3 ⟨z, H3, I3, rz, kvs, k, b, ea, ey, eb, hl, q3, q4⟩ => Calls.spliced_nil ?_))))
  subst ey
  obtain rfl : iv = Value.ref b := ry
  exact d_setdT hu I3 ea eb rz hl (fun v hv w' s4 I4 rw' => ⟨v, _, I4, rw', q3 v hv⟩) fun hn w' s4 I4 rw' => ⟨z, _, I4, rw', q4 hn⟩
end
/-! ### methods -/
structure Mal (P : Program) (w : World) (K : PySem.W.Frag) (mg : Str → Option Value) (base : Heap) (C : Addr) (k : Nat) (m : Str) (ps : List Str) (sp : Sp) (dvs : List V) : Prop where
  ex : ∃ f fd, FnOk P w K mg base CX0 k f fd ps sp ∧ Meth K C m f ∧ ∃ ds, Vals dvs ds ∧ Binds K fd ps ds
section
variable {X : Cx} {C : Addr} {k j : Nat} {m : Str} {ps : List Str} {sp : Sp} {dvs : List V} {o e : Expr} {es : List Expr} {ta : TE} {t : TA} {apos pos : Pos}
theorem pe_mal0 (c : Cls X.K C) (M : Mal X.prog X.w X.K X.mg X.base C k m ps sp dvs) (hr : Room j X.A) (ho : PE X o ta) (hkj : k ≤ j := by decide) {pl : Sem Bool}
    (ht : eval (.Call (.Attribute o m apos) [] [] pos) X.env = (do
      let ov ← eval o X.env
      standAt apos.atName
      let (f, first) ← holding [ov] (getMethod ov m pl)
      callWith pos f first (backTo pos (starEach [] X.env)) (backToKw pos (keywordEach [] X.env))) := by rfl) :
    PE X (.Call (.Attribute o m apos) [] [] pos) (tMeth C m sp dvs E0 ta tNil) := by
  obtain ⟨f, fd, F, hm, ds, rd, b⟩ := M.ex
  exact pe_meth0 ho c hm F (hr.mono hkj) b rd pass0 ht
theorem pe_mal (c : Cls X.K C) (M : Mal X.prog X.w X.K X.mg X.base C k m ps sp dvs) (hr : Room j X.A) (ho : PE X o ta) (ha : PA X (e :: es) t) (hkj : k ≤ j := by decide) {pl : Sem Bool}
    (hst : starEach (e :: es) X.env = (false, eval e X.env) :: starEach es X.env := by rfl) (hpl : (backTo pos (starEach es X.env)).any (·.1) = false := by rfl)
    (ht : eval (.Call (.Attribute o m apos) (e :: es) [] pos) X.env = (do
      let ov ← eval o X.env
      standAt apos.atName
      let (f, first) ← holding [ov] (getMethod ov m pl)
      callWith pos f first (backTo pos (starEach (e :: es) X.env)) (backToKw pos (keywordEach [] X.env))) := by rfl) :
    PE X (.Call (.Attribute o m apos) (e :: es) [] pos) (tMeth C m sp dvs E0 ta t) := by
  obtain ⟨f, fd, F, hm, ds, rd, b⟩ := M.ex
  exact pe_meth ho c hm F (hr.mono hkj) b rd pass0 ha hst hpl ht
end
/-- a method called with keywords -/
structure MalK (P : Program) (w : World) (K : PySem.W.Frag) (mg : Str → Option Value) (base : Heap) (C : Addr) (k n : Nat) (m : Str) (ks ps : List Str) (sp : Sp) (gV : List V → List V → List V) : Prop where
  ex : ∃ f fd g, FnOk P w K mg base CX0 k f fd ps sp ∧ Meth K C m f ∧ KBn K fd ps (n + 1) ks g gV
def tMethK (C : Addr) (m : Str) (n nk : Nat) (sp : Sp) (gV : List V → List V → List V) (ta : TE) (t tk : TA) : TE := fun σ H Q => ta σ H fun x H1 => ∃ a dx fs, x = .ref a ∧ H1 a = some (.ins C dx fs) ∧ fs.lookup m = none ∧
  t σ H1 fun vs H2 => tk σ H2 fun zs H3 => vs.length = n ∧ zs.length = nk ∧ sp (gV (x :: vs) zs) H3 Q E0
section
variable {X : Cx} {C : Addr} {k j n : Nat} {m : Str} {ks ps : List Str} {sp : Sp} {gV : List V → List V → List V} {o e : Expr} {es : List Expr} {kws : List Keyword} {ta : TE} {t tk : TA} {apos pos : Pos}
theorem pe_malK (c : Cls X.K C) (M : MalK X.prog X.w X.K X.mg X.base C k n m ks ps sp gV) (hr : Room j X.A) (ho : PE X o ta) (ha : PA X (e :: es) t) (hkw : PK X kws tk) (hkj : k ≤ j := by decide) {pl : Sem Bool}
    (hall : (backToKw pos (keywordEach kws X.env)).all (·.1.isSome) = true := by rfl) (hks : (backToKw pos (keywordEach kws X.env)).filterMap (·.1) = ks := by rfl)
    (he : starEach (e :: es) X.env = (false, eval e X.env) :: starEach es X.env := by rfl)
    (hpl : ((backTo pos (starEach (e :: es) X.env)).any (·.1) || (backToKw pos (keywordEach kws X.env)).any (·.1.isNone)) = false := by rfl)
    (ht : eval (.Call (.Attribute o m apos) (e :: es) kws pos) X.env = (do
      let ov ← eval o X.env
      standAt apos.atName
      let (f, first) ← holding [ov] (getMethod ov m pl)
      callWith pos f first (backTo pos (starEach (e :: es) X.env)) (backToKw pos (keywordEach kws X.env))) := by rfl) :
    PE X (.Call (.Attribute o m apos) (e :: es) kws pos) (tMethK C m n ks.length sp gV ta t tk) := by
  obtain ⟨f, fd, g, F, hm, b⟩ := M.ex
  refine ⟨fun pins s σ H Q I h => ?_⟩
  refine PySem.W.methodCall_KW (pl := pl) (thn (ho.run pins s σ H _ I h) fun u s1 ⟨x, H1, I1, rx, a, dx, fs, ex, ea, l, q⟩ => ?_) ht
  subst ex
  obtain rfl : u = Value.ref a := rx
  refine getmeth_ok I1 ea c hm l ?_
  refine PySem.W.callWith_KW (first := [.ref a]) (h₀ := X.base) I.ok.mod.kin hm.kp hall (thn (ha.run pos pins s1 σ H1 _ I1 q) fun us s2 ⟨vs, H2, I2, r, q2⟩ => ?_) hpl he
  refine thn (hkw.run pos pins s2 σ H2 _ I2 q2) fun ws s3 ⟨zs, H3, I3, rz, l1, l2, q3⟩ => ⟨I3.kIn, ?_⟩
  rw [hks]
  exact run_fnN (us := .ref a :: us) (vs := .ref a :: vs) F (hr.mono hkj) b pass0 I3 (.cons rfl r) rz (by simp [l1]) l2 q3
end
end Pk
end
section
set_option Elab.async false
set_option linter.all false
set_option maxRecDepth 100000
set_option maxHeartbeats 4000000
/-! Rules with the written part named (for blocks), merged readings, typed comprehensions. -/
namespace Pk
open PySem PySem.Spec PyProof.Rows L2 FL
theorem PE_imp {X : Cx} {e : Expr} {t t' : TE} (h : PE X e t) (i : ∀ σ H Q, t' σ H Q → t σ H Q) : PE X e t' := ⟨fun pins s σ H Q I q => h.run pins s σ H Q I (i σ H Q q)⟩
theorem OpR_imp {X : Cx} {f : Value → Value → Sem Value} {r r' : R2} (h : OpR X f r) (i : ∀ x y H Q, r' x y H Q → r x y H Q) : OpR X f r' := fun pins s σ H x y v u Q I rx ry q => h pins s σ H x y v u Q I rx ry (i x y H Q q)
theorem CallR_imp {X : Cx} {f : Value} {r r' : List V → Hp → VK → Prop} (h : CallR X f r) (i : ∀ xs H Q, r' xs H Q → r xs H Q) : CallR X f r' := fun pins s σ H xs us Q I rx q => h pins s σ H xs us Q I rx (i xs H Q q)
section
variable {X : Cx} (K : PySem.W.Frag)
/-! ### subscripts, fields -/
def rIxT1 : R2 := fun x y H Q => ∃ p xs i v, x = .ref p ∧ y = .int i ∧ H p = some (.tup xs) ∧ atI xs i = some v ∧ Q v H
def rIxL1 (K : PySem.W.Frag) : R2 := fun x y H Q => ∃ p xs i v, x = .ref p ∧ y = .int i ∧ SqL K H p xs ∧ atI xs i = some v ∧ Q v H
theorem ixT : IxR X rIxT1 := fun va sl pins s σ H x y v u Q I rx ry ⟨p, xs, i, z, e1, e2, h, a, q⟩ hs => ix_tup va sl pins s σ H x y v u Q I rx ry ⟨p, xs, i, z, e1, e2, SqT.of h, a, q⟩ hs
theorem ixL (h : X.K = K := by rfl) : IxR X (rIxL1 K) := h ▸ ix_list
theorem fldK {e : Expr} {ta : TE} {f : Str} {pos : Pos} (he : PE X e ta) (hb : attributeBase e f X.env (eval e X.env) = eval e X.env) (h : X.K = K := by rfl) : PE X (.Attribute e f pos) (tFld K ta f) := h ▸ pe_fld he hb
/-! ### comparisons -/
theorem eqD (hu : X.A.units + 64 < cLine) (h : X.K = K := by rfl) : OpR X (compareOp .Eq) (rEqD K) := h ▸ op_eqD hu
theorem neD (hu : X.A.units + 64 < cLine) (h : X.K = K := by rfl) : OpR X (compareOp .NotEq) (rNeD K) := h ▸ op_neD hu
def rInT : R2 := fun x y H Q => ∃ p xs, y = .ref p ∧ H p = some (.tup xs) ∧ flatV x = true ∧ xs.all flatV = true ∧ Q (.bl (inV x xs)) H
def rNotInT : R2 := fun x y H Q => ∃ p xs, y = .ref p ∧ H p = some (.tup xs) ∧ flatV x = true ∧ xs.all flatV = true ∧ Q (.bl (!inV x xs)) H
theorem inT : OpR X (compareOp .In) rInT := OpR_imp op_in_seq fun x y H Q ⟨p, xs, e, h, f1, f2, q⟩ => ⟨p, xs, e, .inr (SqT.of h), f1, f2, q⟩
theorem notInT : OpR X (compareOp .NotIn) rNotInT := OpR_imp op_notIn_seq fun x y H Q ⟨p, xs, e, h, f1, f2, q⟩ => ⟨p, xs, e, .inr (SqT.of h), f1, f2, q⟩
def rInL : R2 := fun x y H Q => ∃ p xs, y = .ref p ∧ H p = some (.lst xs) ∧ flatV x = true ∧ xs.all flatV = true ∧ Q (.bl (inV x xs)) H
theorem inL : OpR X (compareOp .In) rInL := OpR_imp op_in_seq fun x y H Q ⟨p, xs, e, h, f1, f2, q⟩ => ⟨p, xs, e, .inl (SqL.of h), f1, f2, q⟩
/-! ### sums of tuples, slices -/
def rCat1 : R2 := fun x y H Q => ∃ a b xs ys, x = .ref a ∧ y = .ref b ∧ H a = some (.tup xs) ∧ H b = some (.tup ys) ∧ xs.length + ys.length ≤ 16000000 ∧
  ∀ c H', Same H H' → H' c = some (.tup (xs ++ ys)) → Q (.ref c) H'
theorem catT : OpR X (binaryOp .Add) rCat1 := OpR_imp op_catA fun x y H Q ⟨a, b, xs, ys, e1, e2, ha, hb, hl, q⟩ => ⟨a, b, xs, ys, e1, e2, SqT.of ha, SqT.of hb, sz_of hl,
  fun z => q b H (Same.refl H) (by rw [z]; exact hb), fun _ z => q a H (Same.refl H) (by rw [z, List.append_nil]; exact ha), fun _ _ p np => q p _ (same_new np) upd_same⟩
def rSl1 : V → Option Int → Option Int → Hp → VK → Prop := fun x lo hi H Q => ∃ a xs, x = .ref a ∧ H a = some (.tup xs) ∧ ∀ c H', Same H H' → H' c = some (.tup (cutV xs lo hi)) → Q (.ref c) H'
theorem slT : SlR X rSl1 := fun pins s σ H x v vl vu lo hi sl Q I rx hs pl pu ⟨a, xs, e, h, q⟩ => sl_tupA pins s σ H x v vl vu lo hi sl Q I rx hs pl pu ⟨a, xs, e, SqT.of h, fun z => q a H (Same.refl H) (by
    have : cutV xs lo hi = xs := by
      unfold cutV
      rw [z.1, z.2, List.drop_zero, Nat.sub_zero, List.take_length]
    rw [this]; exact h), fun _ p np => q p _ (same_new np) upd_same⟩
def rSlL1 (K : PySem.W.Frag) : V → Option Int → Option Int → Hp → VK → Prop := rSlL K
theorem slL (h : X.K = K := by rfl) : SlR X (rSlL1 K) := h ▸ sl_list
/-! ### built-ins -/
def rLen1 : List V → Hp → VK → Prop := fun xs H Q => ∃ p ys, xs = [.ref p] ∧ (H p = some (.lst ys) ∨ H p = some (.tup ys)) ∧ Q (.int ys.length) H
theorem len1 : CallR X (.builtin "len") rLen1 := CallR_imp call_len_seq fun xs H Q ⟨p, ys, e, h, q⟩ => ⟨p, ys, e, h.elim (fun z => .inl (SqL.of z)) (fun z => .inr (SqT.of z)), q⟩
/-- tuple(a list) -/
def rTup1 : List V → Hp → VK → Prop := fun xs H Q => ∃ p ys, xs = [.ref p] ∧ H p = some (.lst ys) ∧ ∀ c H', Same H H' → H c = none → H' c = some (.tup ys) → Q (.ref c) H'
theorem tup1 : CallR X (.type "tuple") rTup1 := CallR_imp call_tuple_of fun xs H Q ⟨p, ys, e, h, q⟩ => ⟨p, ys, e, .inl ⟨SqL.of h, fun l nl => q l _ (same_new nl) nl upd_same⟩⟩
def rSum1 : List V → Hp → VK → Prop := fun vs H Q => ∃ (a : Addr) (ns : List Int), vs = [V.ref a] ∧ (H a = some (.lst (ns.map V.int)) ∨ H a = some (.tup (ns.map V.int))) ∧ Q (.int ns.sum) H
theorem sum1 (hc : X.calm = true) : CallR X (.builtin "sum") (fun vs H Q => ∃ (a : Addr) (ns : List Int), vs = [V.ref a] ∧ H a = some (.lst (ns.map V.int)) ∧ Q (.int ns.sum) H) := CallR_imp (cr_sum hc) fun xs H Q ⟨a, ns, e, h, q⟩ => ⟨a, ns, e, SqL.of h, q⟩
theorem all1 (hc : X.calm = true) : CallR X (.builtin "all") (fun vs H Q => ∃ (a : Addr) (bs : List Bool), vs = [V.ref a] ∧ H a = some (.lst (bs.map V.bl)) ∧ Q (.bl (bs.all id)) H) := CallR_imp (cr_all hc) fun xs H Q ⟨a, ns, e, h, q⟩ => ⟨a, ns, e, SqL.of h, q⟩
theorem min1 (hc : X.calm = true) : CallR X (.builtin "min") (fun vs H Q => ∃ (a : Addr) (ns : List Int), vs = [V.ref a] ∧ H a = some (.lst (ns.map V.int)) ∧ 0 < ns.length ∧ ∀ m, m ∈ ns → (∀ y, y ∈ ns → m ≤ y) → Q (.int m) H) := CallR_imp (cr_min hc) fun xs H Q ⟨a, ns, e, h, q⟩ => ⟨a, ns, e, SqL.of h, q⟩
/-! ### walks, targets -/
variable {tg : Expr}
theorem piL {l : Expr} {tl : TE} (hl : PE X l tl) (h : X.K = K := by rfl) : PI X tg l (iList K tl) := h ▸ pi_list hl
theorem piT {l : Expr} {tl : TE} (hl : PE X l tl) (h : X.K = K := by rfl) : PI X tg l (iTup K tl) := h ▸ pi_tup hl
theorem pgT {es : List Expr} {k : Nat} {t : TGs} {n : Nat} {pos : Pos} (hc : X.calm = true) (h : PGs X es t)
    (hn : (assignEach es X.env).length = n := by rfl) (hst : (assignEach es X.env).findIdx? (·.1) = none := by rfl) (hK : X.K = K := by rfl) : PG X (.Tuple es k pos) (gTup K n t) := hK ▸ pg_tup hc h hn hst
end
section
variable {X : Cx} (K : PySem.W.Frag)
theorem zipK {e e2 : Expr} {ta : TA} {p pos tpos : Pos} {elts : List Expr} {kk : Nat} (hg : Gl X "zip") (hm : X.mg "zip" = none) (ha : PA X [e, e2] ta)
    (hs : starEach [e, e2] X.env = (false, eval e X.env) :: starEach [e2] X.env := by rfl) (hpl : (backTo pos (starEach [e2] X.env)).any (·.1) = false := by rfl) (h : X.K = K := by rfl) :
    PI X (.Tuple elts kk tpos) (.Call (.Name "zip" p) [e, e2] [] pos) (RZ.iZipA K ta) := h ▸ RZ.pi_zipA hg hm ha hs hpl
end
theorem walk_zipT {K : PySem.W.Frag} {a b : Addr} {xs ys : List V} {n : Nat} (hn : n = min xs.length ys.length) : Walk (RZ.ItzT K a b) n (fun H => SqT K H a xs ∧ SqT K H b ys) (YPair (fun i => xs[i]?) (fun i => ys[i]?)) := by
  subst hn
  refine ⟨fun i _ hi q => ?_, fun _ q => ⟨xs, ys, q.1, q.2, by omega⟩, fun i H v H' _ q y => ?_⟩
  · have h1 : i < xs.length := by omega
    have h2 : i < ys.length := by omega
    exact ⟨xs, ys, xs[i], ys[i], q.1, q.2, by simp [h1], by simp [h2]⟩
  · obtain ⟨T, x, z, h1, h2, h3, h4, h5⟩ := y
    exact ⟨T, x, z, h1, h2, h3, h4 xs q.1, h5 ys q.2⟩
theorem ite_f {c : Bool} {A B : Prop} (h : c = false) (b : B) : if c = true then A else B := by
  rw [if_neg (by rw [h]; exact Bool.false_ne_true)]
  exact b
theorem ite_t {c : Bool} {A B : Prop} (h : c = true) (a : A) : if c = true then A else B := by
  rw [if_pos h]
  exact a
theorem yesT {σ : L2.St} {H : Hp} {A B : Hp → Prop} (h : A H) : tYes σ H fun b H3 => if b = true then A H3 else B H3 := by
  show if true = true then A H else B H
  rw [if_pos rfl]
  exact h
theorem ref_non {a : Addr} : decide (V.ref a = V.non) = false := rfl
theorem All2.nth {α β : Type} {R : α → β → Prop} {l : List α} {m : List β} (h : All2 R l m) {i : Nat} (hi : i < l.length) : ∃ a b, l[i]? = some a ∧ m[i]? = some b ∧ R a b := by
  obtain ⟨b, h1, h2⟩ := h.get (k := i) (a := l[i]) (List.getElem?_eq_getElem hi)
  exact ⟨_, b, List.getElem?_eq_getElem hi, h1, h2⟩
theorem filterMap_get {α β : Type} (f : α → β) (l : List α) : ((List.range l.length).filterMap fun i => (l[i]?).map f) = l.map f := by
  have key : ∀ k, k ≤ l.length → ((List.range k).filterMap fun i => (l[i]?).map f) = (l.take k).map f := by
    intro k
    induction k with
    | zero => intro _; rfl
    | succ k ih =>
      intro hk
      rw [List.range_succ, List.filterMap_append, ih (by omega), List.take_add_one, List.map_append]
      have hlt : k < l.length := by omega
      rw [List.getElem?_eq_getElem hlt]
      simp [List.filterMap_cons, List.getElem?_eq_getElem hlt]
  rw [key _ (Nat.le_refl _), List.take_length]
/-! ### typed comprehensions -/
section
variable {J : It} {n : Nat} {G : Hp → Prop} {Y : Nat → Hp → V → Hp → Prop} {β : Type}
theorem all2_snoc {α β : Type} {R : α → β → Prop} {l : List α} {m : List β} {a : α} {b : β} (h : All2 R l m) (r : R a b) : All2 R (l ++ [a]) (m ++ [b]) := h.append (.cons r .nil)
theorem range_filterMap_succ {f : Nat → Option β} {i : Nat} : (List.range (i + 1)).filterMap f = (List.range i).filterMap f ++ (match f i with | some b => [b] | none => []) := by
  rw [List.range_succ, List.filterMap_append]
  congr 1
  cases h : f i with
  | none => simp [h]
  | some b => simp [h]
/-- the state within a typed comprehension -/
def LcS (H1 : Hp) (D : Addr) (R : RX β) (f : Nat → Option β) (i : Nat) (H : Hp) : Prop := Same H1 H ∧ ∃ acc, H D = some (.lst acc) ∧ acc.length ≤ i ∧ All2 (R H) acc ((List.range i).filterMap f)
/-- a comprehension whose turns leave all that was: its list, item by item -/
theorem lc_typed (w : Walk J n G Y) {g : TG} {tt : TT} {te : TE} {vs : List Nat} {σ : L2.St} {H1 : Hp} {D : Addr} {Qd : Hp → Prop} (nD : H1 D = none) (R : RX β) (mR : Mo R) (f : Nat → Option β) (hn : n ≤ 16000000) (hG : ∀ H, Same H1 H → G H)
    (hs : ∀ i x H H', i < n → Same H1 H → Y i H x H' → (∀ y H4 z, Same H H4 → f i = some z → R H4 y z → ∃ acc, H4 D = some (.lst acc) ∧ acc.length < sizeLine ∧ LcS H1 D R f (i + 1) (upd H4 D (.lst (acc ++ [y])))) → (∀ H3, Same H H3 → f i = none → LcS H1 D R f (i + 1) H3) →
      g x (wipe σ vs) H' fun σ2 H2 => wipe σ2 vs = wipe σ vs ∧ tt σ2 H2 fun b H3 =>
        if b = true then te σ2 H3 fun y H4 => ∃ acc, H4 D = some (.lst acc) ∧ acc.length < sizeLine ∧ LcS H1 D R f (i + 1) (upd H4 D (.lst (acc ++ [y]))) else LcS H1 D R f (i + 1) H3)
    (hd : ∀ H acc, Same H1 H → H D = some (.lst acc) → All2 (R H) acc ((List.range n).filterMap f) → Qd H) :
    ∃ W : Nat → Nat → Hp → Prop, (∃ m, W 0 m (upd H1 D (.lst []))) ∧ ∀ i m H, W i m H →
      (J.stop i H ∧ Qd H) ∨ (J.go i H ∧ ∃ Nx : Hp → Prop, (∀ H', Nx H' → ∃ m', m' < m ∧ W (i + 1) m' H') ∧ ∀ x H', J.yld i H x H' → g x (wipe σ vs) H' fun σ2 H2 => wipe σ2 vs = wipe σ vs ∧ tt σ2 H2 fun b H3 =>
        if b = true then te σ2 H3 fun y H4 => ∃ acc, H4 D = some (.lst acc) ∧ acc.length < sizeLine ∧ Nx (upd H4 D (.lst (acc ++ [y]))) else Nx H3) := by
  refine lc_it w (LcS H1 D R f) ⟨same_new nD, [], upd_same, Nat.le_refl _, .nil⟩ (fun i H _ p => hG H p.1) ?_ ?_
  · rintro i x H H' hi ⟨s1, acc, hD, hl, ha⟩ hY
    refine hs i x H H' hi s1 hY (fun y H4 z s4 hz rz => ?_) fun H3 s3 hz => ?_
    · have hD4 := s4 _ _ hD
      have k5 : Keep H4 (upd H4 D (.lst (acc ++ [y]))) := Keep.lst hD4
      refine ⟨acc, hD4, sz_lt (by omega), same_mut (s1.trans s4) nD, acc ++ [y], upd_same, by simp; omega, ?_⟩
      rw [range_filterMap_succ, hz]
      exact all2_snoc (All2.mo mR ((Keep.of s4).trans k5) ha) (mR _ _ _ _ k5 rz)
    · refine ⟨s1.trans s3, acc, s3 _ _ hD, by omega, ?_⟩
      rw [range_filterMap_succ, hz, List.append_nil]
      exact All2.mo mR (Keep.of s3) ha
  · rintro H ⟨s1, acc, hD, _, ha⟩
    exact hd H acc s1 hD ha
end
end Pk
end
section
set_option Elab.async false
set_option linter.all false
set_option maxRecDepth 100000
set_option maxHeartbeats 4000000
namespace Pk
open PySem PySem.Spec PyProof.Rows L2 FL
section
variable {P : Program} {w : World} {K : PySem.W.Frag} {mg : Str → Option Value} {base : Heap} {C : Addr}
/-- counted(rows) -/
def spCounted : Sp := fun vs H Q _ => ∃ v rows, vs = [v] ∧ RowsR H v rows ∧ RowsOK rows ∧ ∀ p kv H', H p = none → Same H H' → H' p = some (.dT (enc V.int kv)) → CD kv (cnt rows) → Q (.ref p) H'
theorem sc_counted : FnScope ["rows", "found", "form", "shade", "many"] ["rows"] (defScope s_counted) := ⟨rfl, rfl, rfl, by decide +kernel, rfl, by decide +kernel, by decide +kernel⟩
theorem take_next {α : Type} {l : List α} {i : Nat} {x : α} (h : l[i]? = some x) : l.take (i + 1) = l.take i ++ [x] := by
  rw [List.take_add_one, h]
  rfl
theorem take_all {α : Type} (l : List α) : l.take l.length = l := List.take_length
theorem c_counted (T : Txt K mg C) : Cal P w K mg base CX0 1 "counted" ["rows"] spCounted := by
  refine Cal.mk' T.d_counted sc_counted (fun vs H Q E h => ?_) (fun _ _ _ _ _ _ us hl => match us, hl with | [_], _ => rfl) (fun f cdv A outer s H vs Q E hr h => ?_)
  · obtain ⟨v, rows, rfl, _⟩ := h
    rfl
  · obtain ⟨v, rows, rfl, ⟨a, xs, rfl, ha, hall⟩, hok, k⟩ := h
    have hu := hu_of hr
    have sc := sc_counted
    refine ⟨_, (pss_cons (ps_set (i := 1) sc.nd rfl (.inl rfl) pe_dnewT)
      (pss_cons (ps_for PassesOwn.never rfl (piT K (pv 0)) (pgT K (n := 3) rfl (pgs_cons (pg_name (i := 2) sc.nd rfl (.inl rfl)) (pgs_cons (pg_name (i := 3) sc.nd rfl (.inl rfl)) (pgs_cons (pg_name (i := 4) sc.nd rfl (.inl rfl)) pgs_nil)))) (pss_one (ps_dput hu (pv 1) (pe_tup (pa_cons (pv 2) (pa_cons (pv 3) pa_nil))) (pe_op op_add (pe_dsetdT hu (pv 1) (pe_tup (pa_cons (pv 2) (pa_cons (pv 3) pa_nil))) pe_int ⟨rfl, rfl, rfl, rfl⟩) (pv 4)) rfl)))
      (pss_one (ps_ret (pv 1))))), ?_⟩
    -- found = {}
    refine fun d nd => ?_
    have s1 : Same H (upd H d (.dT [])) := same_new nd
    refine ⟨_, rfl, a, rfl, ⟨_, SqT.of (s1 _ _ ha)⟩, for_tup (K := K) (a := a) (xs := xs) (fun i σ H2 => ∃ kv v1 v2 v3, σ = [some (.ref a), some (.ref d), v1, v2, v3] ∧ Same H H2 ∧ H2 d = some (.dT (enc V.int kv)) ∧ CD kv (cnt (rows.take i)))
      ⟨[], none, none, none, rfl, s1, upd_same, ⟨List.nodup_nil, fun e he => by simp at he, fun f s => rfl⟩⟩ (fun i σ H2 _ ⟨_, _, _, _, _, s2, _⟩ => SqT.of (s2 _ _ ha)) ?_ ?_⟩
    · rintro i x σ H2 hi ⟨kv, v1, v2, v3, rfl, s2, hd, hc⟩
      obtain ⟨r, hr1, b, rfl, hb⟩ := hall.get hi
      have hb2 := s2 _ _ hb
      have rok : RowOK r := hok r (List.mem_of_getElem? hr1)
      -- for form, shade, many
      refine ⟨b, _, rfl, SqT.of hb2, rfl, _, _, rfl, _, _, rfl, _, _, rfl, rfl, ?_⟩
      -- found[form, shade] = found.setdefault((form, shade), 0) + many
      refine ⟨_, rfl, d, rfl, .inr ⟨_, .inl hd⟩, _, rfl, _, rfl, by show 2 ≤ sizeLine; decide, fun t nt => ?_⟩
      have ntd : d ≠ t := ne_of_none hd nt
      have nd2 : H d = none := nd
      have hc' := hc.put rok
      have hlen : (enc V.int kv).length < sizeLine := by
        rw [enc_len]
        exact sz_lt (by have := hc.len; omega)
      have htk : (fun f s => cnt (rows.take i) f s + (if r.1 = f ∧ r.2.1 = s then r.2.2 else 0)) = cnt (rows.take (i + 1)) := by
        funext f s
        rw [take_next hr1, cnt_append]
        simp only [cnt]
        omega
      rw [htk] at hc'
      refine ⟨enc V.int kv, encK (r.1, r.2.1), t, (by rw [upd_ne ntd]; exact hd), rfl, upd_same, hlen, fun v hv => ?_, fun hv => ?_⟩
      · -- the part is there
        rw [enc_val] at hv
        cases q : look kv (r.1, r.2.1) with
        | none => rw [q] at hv; cases hv
        | some x =>
          rw [q] at hv
          cases Option.some.inj hv
          rw [q] at hc'
          refine ⟨_, rfl, x, r.2.2, rfl, rfl, _, rfl, _, rfl, _, rfl, (by show 2 ≤ sizeLine; decide), fun t2 nt2 => ?_⟩
          have hd3 : (upd H2 t (.tup [V.str r.1, V.str r.2.1])) d = some (.dT (enc V.int kv)) := by rw [upd_ne ntd]; exact hd
          have nd3 : d ≠ t2 := ne_of_none hd3 nt2
          refine ⟨d, _, rfl, DPut.t (k := encK (r.1, r.2.1)) (by rw [upd_ne nd3]; exact hd3) upd_same hlen, ?_⟩
          refine ⟨put kv (r.1, r.2.1) (x + r.2.2), _, _, _, rfl, ?_, ?_, hc'⟩
          · exact same_mut ((s2.trans (same_new nt)).trans (same_new nt2)) nd2
          · rw [upd_same]
            exact congrArg (fun z => some (HO.dT z)) (enc_put V.int _ _ kv)
      · -- it is not
        rw [enc_val] at hv
        have q : look kv (r.1, r.2.1) = none := by
          cases q : look kv (r.1, r.2.1) with
          | none => rfl
          | some x => rw [q] at hv; cases hv
        rw [q] at hc'
        have ep : putK (enc V.int kv) (encK (r.1, r.2.1)) (V.int 0) = enc V.int (put kv (r.1, r.2.1) 0) := enc_put V.int _ _ kv
        refine ⟨_, rfl, 0, r.2.2, rfl, rfl, _, rfl, _, rfl, _, rfl, (by show 2 ≤ sizeLine; decide), fun t2 nt2 => ?_⟩
        have hd3 : (upd (upd H2 t (.tup [V.str r.1, V.str r.2.1])) d (.dT (putK (enc V.int kv) (encK (r.1, r.2.1)) (V.int 0)))) d = some (.dT (enc V.int (put kv (r.1, r.2.1) 0))) := by rw [upd_same, ep]
        have nd3 : d ≠ t2 := ne_of_none hd3 nt2
        refine ⟨d, _, rfl, DPut.t (k := encK (r.1, r.2.1)) (by rw [upd_ne nd3]; exact hd3) upd_same ?_, ?_⟩
        · rw [← ep]
          have := length_putK (enc V.int kv) (encK (r.1, r.2.1)) (V.int 0)
          rw [enc_len] at this
          exact sz_lt (by have := hc.len; omega)
        · refine ⟨put kv (r.1, r.2.1) (0 + r.2.2), _, _, _, rfl, ?_, ?_, hc'⟩
          · exact same_mut ((same_mut (s2.trans (same_new nt)) nd2).trans (same_new nt2)) nd2
          · rw [upd_same]
            refine congrArg (fun z => some (HO.dT z)) ?_
            rw [← put_put (r.1, r.2.1) 0 (0 + r.2.2) kv q]
            exact enc_put V.int (r.1, r.2.1) (0 + r.2.2) (put kv (r.1, r.2.1) 0)
    · rintro σ H2 ⟨kv, v1, v2, v3, rfl, s2, hd, hc⟩
      rw [show rows.take xs.length = rows by rw [hall.length]; exact take_all rows] at hc
      exact ⟨_, rfl, k d kv H2 nd s2 hd hc⟩
end
end Pk
end
section
set_option Elab.async false
set_option linter.all false
set_option maxRecDepth 100000
set_option maxHeartbeats 4000000
namespace Pk
open PySem PySem.Spec PyProof.Rows L2 FL
/-- a Heap of the class at C that has these rows -/
def HeapR (C : Addr) : RX (List Row) := fun H v rows => ∃ a dx p, v = .ref a ∧ H a = some (.ins C dx [("parts", .ref p)]) ∧ RowsR H (.ref p) rows
theorem HeapR.mo {C : Addr} : Mo (HeapR C) := fun H H' v rows k ⟨a, dx, p, e, h, r⟩ => ⟨a, dx, p, e, ins_keep k h, RowsR.mo H H' _ _ k r⟩
structure SameCnt (rows rows' : List Row) : Prop where
  ok : HeapOK rows'
  eq : ∀ f s, cnt rows' f s = cnt rows f s
def spInit (C : Addr) : Sp := fun vs H Q _ => ∃ x dx v rows, vs = [.ref x, v] ∧ H x = some (.ins C dx []) ∧ RowsR H v rows ∧ RowsOK rows ∧
  ∀ H' rows', HeapR C H' (.ref x) rows' → SameCnt rows rows' → (∀ b o, b ≠ x → H b = some o → H' b = some o) → Q .non H'
structure Maker (P : Program) (w : World) (K : PySem.W.Frag) (mg : Str → Option Value) (base : Heap) (C : Addr) (k : Nat) (ps : List Str) (sp : Sp) : Prop where
  ex : ∃ f fd, Mk K C f ∧ FnOk P w K mg base CX0 k f fd ps sp ∧ Binds K fd ps []
/-- the rows of sorted parts with their counts -/
def rowsOf (kv : List (Part × Int)) (qs : List Part) : List Row := qs.map fun q => (q.1, q.2, (look kv q).getD 0)
theorem cnt_rowsOf (kv : List (Part × Int)) : ∀ (qs : List Part), qs.Nodup → ∀ f s, cnt (rowsOf kv qs) f s = if (f, s) ∈ qs then (look kv (f, s)).getD 0 else 0
  | [], _, f, s => by simp [rowsOf, cnt]
  | q :: qs, nd, f, s => by
    rw [List.nodup_cons] at nd
    show (if q.1 = f ∧ q.2 = s then (look kv q).getD 0 else 0) + cnt (rowsOf kv qs) f s = _
    rw [cnt_rowsOf kv qs nd.2 f s]
    by_cases h : (f, s) = q
    · subst h
      simp [nd.1]
    · have h1 : ¬ (q.1 = f ∧ q.2 = s) := fun z => h (by rw [← z.1, ← z.2])
      simp [h1, h]
theorem rowsOf_ok {kv : List (Part × Int)} {rows : List Row} (hc : CD kv (cnt rows)) {qs : List Part} (p : qs.Perm (kv.map (·.1))) : SameCnt rows (rowsOf kv qs) where
  ok := by
    refine ⟨fun r hr => ?_, ?_⟩
    · obtain ⟨q, hq, rfl⟩ := List.mem_map.mp hr
      obtain ⟨e, he, rfl⟩ := List.mem_map.mp (p.mem_iff.mp hq)
      have := mem_look hc.nd he
      have h1 := hc.ok e he
      refine ⟨h1.1, h1.2.1, ?_⟩
      show 1 ≤ (look kv e.1).getD 0
      rw [this]
      exact h1.2.2
    · unfold rowsOf
      rw [List.map_map]
      have : (qs.map fun q => ((q.1, q.2) : Part)) = qs := by simp
      show (qs.map fun q => ((q.1, q.2) : Part)).Nodup
      rw [this]
      exact p.nodup_iff.mpr hc.nd
  eq := fun f s => by
    rw [cnt_rowsOf kv qs (p.nodup_iff.mpr hc.nd)]
    split
    · exact hc.eq f s
    · rename_i h
      have : look kv (f, s) = none := look_none.mpr fun z => h (p.mem_iff.mpr z)
      rw [← hc.eq f s, this]
      rfl
theorem enc_keys (kv : List (Part × Int)) : (enc V.int kv).map (·.1) = (kv.map (·.1)).map encK := by
  unfold enc
  rw [List.map_map, List.map_map]
  rfl
section
variable {P : Program} {w : World} {K : PySem.W.Frag} {mg : Str → Option Value} {base : Heap} {C : Addr}
theorem sc_Heap_init : FnScope ["self", "rows", "counts", "form", "shade"] ["self", "rows"] (defScope s_Heap_init) := ⟨rfl, rfl, rfl, by decide +kernel, rfl, by decide +kernel, by decide +kernel⟩
theorem c_Heap_init (T : Txt K mg C) : Maker P w K mg base C 2 ["self", "rows"] (spInit C) := by
  have C_counted : Cal P w K mg base CX0 1 "counted" ["rows"] spCounted := c_counted T
  obtain ⟨f, hmk, fd, F⟩ := T.mkH
  obtain ⟨ds, rd, hb⟩ := F.binds1 (ps := ["self", "rows"]) 2 1 (by simp) rfl (fun Tt kV doc pm an cdv ct us its l1 l2 => by
    match us, its, l1, l2 with
    | [_, _], [_], _, _ => exact ⟨_, rfl, rfl⟩)
  have e0 : ds = [] := Vals.zero rd
  subst e0
  refine ⟨f, fd, hmk, F.ok sc_Heap_init (fun vs H Q E h => ?_) (fun cdv A outer s H vs Q E hr h => ?_), hb⟩
  · obtain ⟨x, dx, v, rows, rfl, _⟩ := h
    rfl
  · obtain ⟨x, dx, v, rows, rfl, hx, hv, hok, k⟩ := h
    have hu := hu_of hr
    have sc := sc_Heap_init
    obtain ⟨a, xs, rfl, ha, hall⟩ := id hv
    refine ⟨_, PSs.nox (pss_cons (ps_set (i := 2) sc.nd rfl (.inr rfl) (pe_cal C_counted hr (pa_cons (pe_ifExp (pt_cmpR op_isN (pv 1) pe_non (nomark _)) (pe_tup pa_nil) (pv 1)) pa_nil)))
      (pss_one (ps_fld (pv 0) (pe_callTy tup1 (by rfl) T.tuple (by decide +kernel) (pa_cons (pe_lc (own := [("form", 3), ("shade", 4)]) rfl sc.nd (piL K (pe_sortedT rfl T.sorted (pv 2))) (blkOk_by (N := ["self", "rows", "counts", "form", "shade"]) (sc := defScope s_Heap_init) (own := [("form", 3), ("shade", 4)]) (by decide +kernel)) (fun _ _ _ _ _ => (pgT K (n := 2) rfl (pgs_cons (pg_name (i := 3) sc.nd rfl (.inl rfl)) (pgs_cons (pg_name (i := 4) sc.nd rfl (.inl rfl)) pgs_nil)))) (fun _ _ _ _ _ => pts_nil) (fun _ _ _ _ _ => (pe_tup (pa_cons (pv 3) (pa_cons (pv 4) (pa_cons (pe_dget hu (pv 2) (pe_tup (pa_cons (pv 3) (pa_cons (pv 4) pa_nil))) (fun _ _ => rfl)) pa_nil)))))) pa_nil)) rfl))), ?_⟩
    -- rows is None: no
    refine ⟨_, rfl, rfl, _, rfl, ite_f ref_non ?_⟩
    refine ⟨_, rfl, _, rows, rfl, hv, hok, fun d kv H1 nd s1 hd hc => ?_⟩
    have hx1 := s1 _ _ hx
    have hkl := hc.len
    -- sorted(counts)
    refine ⟨_, rfl, d, _, kv.map (·.1), rfl, .inl hd, enc_keys kv, by rw [List.length_map]; omega, fun l bs qs nl pq hb => ?_⟩
    have s2 : Same H1 (upd H1 l (.lst (bs.map V.ref))) := same_new nl
    have hl : (upd H1 l (.lst (bs.map V.ref))) l = some (.lst (bs.map V.ref)) := upd_same
    have hlen : qs.length ≤ 20 := by rw [pq.length_eq, List.length_map]; omega
    have hbl : (bs.map V.ref).length = qs.length := by rw [List.length_map, hb.length]
    refine ⟨l, rfl, ⟨_, SqL.of hl⟩, fun D nD => ?_⟩
    refine lc_typed (walk_list (K := K) (a := l) (xs := bs.map V.ref)) nD RowR RowR.mo (fun i => (qs[i]?).map fun q => (q.1, q.2, (look kv q).getD 0)) (by omega) (fun H3 s3 => SqL.of (s3 _ _ hl)) (fun i y H3 H4 hi s3 hY kt kf => ?_) (fun H3 acc s3 hD ha => ?_)
    · obtain ⟨rfl, hy⟩ := hY
      rw [List.getElem?_map] at hy
      cases hbi : bs[i]? with
      | none => rw [hbi] at hy; cases hy
      | some b =>
        rw [hbi] at hy
        cases Option.some.inj hy
        obtain ⟨q, hq, hbq⟩ := hb.get hbi
        have hb4 := s3 _ _ (s2 _ _ hbq)
        have hmem : q ∈ kv.map (·.1) := pq.mem_iff.mp (List.mem_of_getElem? hq)
        obtain ⟨e, he, eq⟩ := List.mem_map.mp hmem
        have hlook : look kv q = some e.2 := by
          rw [← eq]
          exact mem_look hc.nd he
        -- form, shade
        refine ⟨b, _, rfl, SqT.of hb4, rfl, _, _, rfl, _, _, rfl, rfl, rfl, ?_⟩
        -- (form, shade, counts[form, shade])
        refine yesT ?_
        refine ⟨_, rfl, _, rfl, _, rfl, _, rfl, _, rfl, (by show 2 ≤ sizeLine; decide), fun t nt => ?_⟩
        have hd5 : (upd H4 t (.tup [V.str q.1, V.str q.2])) d = some (.dT (enc V.int kv)) := same_new nt _ _ (s3 _ _ (s2 _ _ hd))
        refine ⟨d, .int e.2, rfl, ?_, (by show 3 ≤ sizeLine; decide), fun t2 nt2 => ?_⟩
        · have hv2 : valV (enc V.int kv) (encK q) = some (.int e.2) := by rw [enc_val, hlook]; rfl
          rw [← hv2]
          exact DGet.t hd5 upd_same
        · refine kt _ _ (q.1, q.2, e.2) ((same_new nt).trans (same_new nt2)) ?_ ⟨t2, rfl, upd_same⟩
          show (qs[i]?).map _ = _
          rw [hq]
          show some (q.1, q.2, (look kv q).getD 0) = _
          rw [hlook]
          rfl
    · -- tuple(..), self.parts = ..
      rw [hbl, filterMap_get (fun q : Part => ((q.1, q.2, (look kv q).getD 0) : Row)) qs] at ha
      refine ⟨D, acc, rfl, hD, fun c H5 s5 nc hc5 => ?_⟩
      have hx5 := s5 _ _ (s3 _ _ (s2 _ _ hx1))
      refine ⟨_, rfl, x, C, dx, [], rfl, hx5, T.cl, T.nP, (by show 0 < 1000; decide), ?_⟩
      have hcx : c ≠ x := ne_of hc5 hx5 (by intro z; cases z)
      have ha5 := All2.mo RowR.mo (Keep.of s5) ha
      refine k _ (rowsOf kv qs) ⟨x, dx, c, rfl, upd_same, c, acc, rfl, by rw [upd_ne hcx]; exact hc5, ?_⟩ (rowsOf_ok hc pq) (fun b o hb e => ?_)
      · refine ha5.imp fun v r ⟨a2, e2, h2⟩ => ⟨a2, e2, ?_⟩
        rw [upd_ne (ne_of h2 hx5 (by intro z; cases z))]
        exact h2
      · rw [upd_ne hb]
        exact s5 _ _ (s3 _ _ (s2 _ _ (s1 _ _ e)))
end
end Pk
end
section
set_option Elab.async false
set_option linter.all false
set_option maxRecDepth 100000
set_option maxHeartbeats 4000000
namespace Pk
open PySem PySem.Spec PyProof.Rows L2 FL
/-- Heap(rows) -/
def tHeap (C : Addr) (te : TE) : TE := fun σ H Q => te σ H fun v H1 => ∃ rows, RowsR H1 v rows ∧ RowsOK rows ∧ ∀ v' H' rows', Same H1 H' → HeapR C H' v' rows' → SameCnt rows rows' → Q v' H'
theorem pe_heap {X : Cx} {C : Addr} {e : Expr} {te : TE} {p pos : Pos} {k j : Nat} {ps : List Str} (hm : X.mg "Heap" = some (.ref C)) (M : Maker X.prog X.w X.K X.mg X.base C k ps (spInit C)) (hr : Room j X.A) (he : PE X e te) (hkj : k + 1 ≤ j := by decide) (hg : Gl X "Heap" := by rfl)
    (hst : starEach (e :: []) X.env = (false, eval e X.env) :: starEach [] X.env := by rfl) (hpl : (backTo pos (starEach [] X.env)).any (·.1) = false := by rfl) :
    PE X (.Call (.Name "Heap" p) [e] [] pos) (tHeap C te) := by
  obtain ⟨f, fd, mk, F, b⟩ := M.ex
  refine ⟨fun pins s σ H Q I h => ?_⟩
  refine wpAny_Call_Name_kw (ld_glob I hg hm ?_ (by decide))
  refine PySem.W.callWith_K (h₀ := X.base) I.ok.mod.kin mk.kp (thn ((pa_cons he pa_nil (hs := hst)).run pos pins s σ H (fun vs H1 => match vs with
    | [v] => ∃ rows, RowsR H1 v rows ∧ RowsOK rows ∧ ∀ v' H' rows', Same H1 H' → HeapR C H' v' rows' → SameCnt rows rows' → Q v' H'
    | _ => False) I h) fun us s1 ⟨vs, H1, I1, r, q⟩ => ⟨I1.kIn, ?_⟩) hst hpl
  match vs, q with
  | [v], ⟨rows, hR, hok, q⟩ =>
    refine run_make mk F (hr.mono hkj) b .nil pass0 I1 r fun x dx nx ndx nex => ?_
    have s1 : Same H1 (upd (upd H1 dx (.own x)) x (.ins C dx [])) := fun b o e => by
      rw [upd_ne (ne_of_none e nx), upd_ne (ne_of_none e ndx)]
      exact e
    exact ⟨x, dx, v, rows, rfl, upd_same, RowsR.mo _ _ _ _ (Keep.of s1) hR, hok, fun H' rows' hH sc but => ⟨rfl, q _ H' rows' (fun b o e => but b o (ne_of_none e nx) (s1 b o e)) hH sc⟩⟩
/-! ### rows() -/
section
variable {P : Program} {w : World} {K : PySem.W.Frag} {mg : Str → Option Value} {base : Heap} {C : Addr}
def spRows (C : Addr) : Sp := fun vs H Q _ => ∃ v rows, vs = [v] ∧ HeapR C H v rows ∧ ∀ v', RowsR H v' rows → Q v' H
theorem sc_Heap_rows : FnScope ["self"] ["self"] (defScope s_Heap_rows) := ⟨rfl, rfl, rfl, by decide +kernel, rfl, by decide +kernel, by decide +kernel⟩
theorem M_rows_ (T : Txt K mg C) : Mal P w K mg base C 1 "rows" ["self"] (spRows C) [] := by
  obtain ⟨f, hm, fd, F⟩ := T.m_rows
  refine ⟨f, fd, F.ok sc_Heap_rows (fun vs H Q E h => ?_) (fun cdv A outer s H vs Q E hr h => ?_), hm, [], .nil, F.bindsN (fun _ _ _ _ _ _ us hl => match us, hl with | [_], _ => rfl)⟩
  · obtain ⟨v, rows, rfl, _⟩ := h
    rfl
  · obtain ⟨v, rows, rfl, ⟨a, dx, p, rfl, ha, hp⟩, k⟩ := h
    have sc := sc_Heap_rows
    refine ⟨_, PSs.nox (pss_one (ps_ret (fldK K (pv 0) rfl))), ?_⟩
    exact ⟨_, rfl, a, C, dx, _, _, rfl, ha, T.cl, T.nP, rfl, k _ hp⟩
/-! ### many(form, shade=None) -/
def manyF (f : Str) (o : Option Str) (r : Row) : Option Int := if r.1 = f ∧ (o = none ∨ o = some r.2.1) then some r.2.2 else none
def manyOf (rows : List Row) (f : Str) (o : Option Str) : Int := (rows.filterMap (manyF f o)).sum
def optV : Option Str → V
  | none => .non
  | some s => .str s
def spMany (C : Addr) : Sp := fun vs H Q _ => ∃ v rows f o, vs = [v, .str f, optV o] ∧ HeapR C H v rows ∧ rows.length ≤ 1000 ∧ ∀ H', Same H H' → Q (.int (manyOf rows f o)) H'
theorem filterMap_range {α β : Type} (g : α → Option β) (l : List α) : ((List.range l.length).filterMap fun i => (l[i]?).bind g) = l.filterMap g := by
  have key : ∀ k, k ≤ l.length → ((List.range k).filterMap fun i => (l[i]?).bind g) = (l.take k).filterMap g := by
    intro k
    induction k with
    | zero => intro _; rfl
    | succ k ih =>
      intro hk
      rw [List.range_succ, List.filterMap_append, ih (by omega), List.take_add_one, List.filterMap_append]
      have hlt : k < l.length := by omega
      rw [List.getElem?_eq_getElem hlt]
      congr 1
      simp [List.filterMap_cons, List.getElem?_eq_getElem hlt]
  rw [key _ (Nat.le_refl _), List.take_length]
theorem str_beq (a b : Str) : eqV (.str a) (.str b) = decide (a = b) := by
  show (a == b) = decide (a = b)
  by_cases h : a = b
  · subst h; simp
  · rw [decide_eq_false h]; exact beq_eq_false_iff_ne.mpr h
theorem sc_Heap_many : FnScope ["self", "form", "shade", "row"] ["self", "form", "shade"] (defScope s_Heap_many) := ⟨rfl, rfl, rfl, by decide +kernel, rfl, by decide +kernel, by decide +kernel⟩
theorem F_many {f : Addr} {fd : FuncData} (T : Txt K mg C) (F : FunD K "many" "Heap.many" (defArgs s_Heap_many) (defBody s_Heap_many) (defScope s_Heap_many) [.non] [] f fd) : FnOk P w K mg base CX0 1 f fd ["self", "form", "shade"] (spMany C) := by
  refine F.ok sc_Heap_many (fun vs H Q E h => ?_) (fun cdv A outer s H vs Q E hr h => ?_)
  · obtain ⟨v, rows, g, o, rfl, _⟩ := h
    rfl
  · obtain ⟨v, rows, g, o, rfl, ⟨a, dx, p, rfl, ha, q, xs, e, hp, hall⟩, hlen, k⟩ := h
    cases e
    have sc := sc_Heap_many
    refine ⟨_, PSs.nox (pss_one (ps_ret (pe_callB (sum1 rfl) (by rfl) T.sum (by decide +kernel) (pa_cons (pe_lc (own := [("row", 3)]) rfl sc.nd (piT K (fldK K (pv 0) rfl)) (blkOk_by (N := ["self", "form", "shade", "row"]) (sc := defScope s_Heap_many) (own := [("row", 3)]) (by decide +kernel)) (fun _ _ _ _ _ => (pg_name (i := 3) sc.nd rfl (.inl rfl))) (fun _ _ _ _ _ => (pts_one (PW.pt (pw_and (pt_cmpR op_eq (pe_ix ixT (pv 3) pe_int (fun _ _ => rfl)) (pv 1) (nomark _)) (pw_and1 (pt_cmpR inT (pv 2) (pe_tup (pa_cons pe_non (pa_cons (pe_ix ixT (pv 3) pe_int (fun _ _ => rfl)) pa_nil))) (by rfl))))))) (fun _ _ _ _ _ => (pe_ix ixT (pv 3) pe_int (fun _ _ => rfl)))) pa_nil)))), ?_⟩
    refine ⟨_, rfl, a, C, dx, _, _, rfl, ha, T.cl, T.nP, rfl, p, rfl, ⟨_, SqT.of hp⟩, fun D nD => ?_⟩
    refine lc_typed (walk_tup (K := K) (a := p) (xs := xs)) nD IntR IntR.mo (fun i => (rows[i]?).bind (manyF g o)) (by rw [hall.length]; omega) (fun H3 s3 => SqT.of (s3 _ _ hp)) (fun i y H3 H4 hi s3 hY kt kf => ?_) (fun H3 acc s3 hD hacc => ?_)
    · obtain ⟨rfl, hy⟩ := hY
      obtain ⟨r, hr1, b, rfl, hb⟩ := hall.get hy
      have hb4 := s3 _ _ hb
      refine ⟨rfl, ?_⟩
      refine ⟨_, rfl, b, _, _, _, rfl, rfl, hb4, at0, _, rfl, rfl, _, rfl, ?_⟩
      by_cases h1 : r.1 = g
      · refine ite_t (decide_eq_true (congrArg V.str h1)) ?_
        refine ⟨optV o, rfl, _, rfl, b, _, _, _, rfl, rfl, hb4, at1, (by show 2 ≤ sizeLine; decide), fun t nt => ?_⟩
        have hb5 := same_new (o := .tup [.non, .str r.2.1]) nt _ _ hb4
        refine ⟨t, _, rfl, upd_same, (by cases o <;> rfl), rfl, _, rfl, ?_⟩
        have hin : inV (optV o) [.non, .str r.2.1] = decide (o = none ∨ o = some r.2.1) := by
          cases o with
          | none => rfl
          | some z =>
            show (false || (eqV (.str r.2.1) (.str z) || false)) = _
            rw [str_beq, Bool.false_or, Bool.or_false]
            by_cases hz : r.2.1 = z
            · subst hz; simp
            · have : ¬ (some z = none ∨ some z = some r.2.1) := fun q => by
                rcases q with q | q
                · cases q
                · exact hz (Option.some.inj q).symm
              rw [decide_eq_false hz, decide_eq_false this]
        rw [hin]
        by_cases h2 : o = none ∨ o = some r.2.1
        · refine ite_t (decide_eq_true h2) ?_
          refine ⟨_, rfl, b, _, _, _, rfl, rfl, hb5, at2, ?_⟩
          refine kt _ _ r.2.2 (same_new nt) ?_ rfl
          show (rows[i]?).bind (manyF g o) = _
          rw [hr1]
          exact if_pos ⟨h1, h2⟩
        · refine ite_f (decide_eq_false h2) ?_
          refine kf _ (same_new nt) ?_
          show (rows[i]?).bind (manyF g o) = _
          rw [hr1]
          exact if_neg fun z => h2 z.2
      · refine ite_f (decide_eq_false fun z => h1 (V.str.inj z)) ?_
        refine ite_f rfl ?_
        refine kf _ (Same.refl _) ?_
        show (rows[i]?).bind (manyF g o) = _
        rw [hr1]
        exact if_neg fun z => h1 z.1
    · rw [hall.length, filterMap_range] at hacc
      refine ⟨D, _, rfl, ?_, k H3 s3⟩
      rw [hD, all2_int hacc]
theorem M_many1_ (T : Txt K mg C) : Mal P w K mg base C 1 "many" ["self", "form", "shade"] (spMany C) [.non] := by
  obtain ⟨f, hm, fd, F⟩ := T.m_many
  obtain ⟨ds, rd, hb⟩ := F.binds1 (ps := ["self", "form", "shade"]) 2 0 (by simp) rfl (fun Tt kV doc pm an cdv ct us its l1 l2 => by
    match us, its, l1, l2 with
    | [_, _], [_], _, _ => exact ⟨_, rfl, rfl⟩)
  exact ⟨f, fd, F_many T F, hm, ds, rd, hb⟩
theorem M_many2_ (T : Txt K mg C) : Mal P w K mg base C 1 "many" ["self", "form", "shade"] (spMany C) [] := by
  obtain ⟨f, hm, fd, F⟩ := T.m_many
  obtain ⟨ds, rd, hb⟩ := F.binds1 (ps := ["self", "form", "shade"]) 3 1 (by simp) rfl (fun Tt kV doc pm an cdv ct us its l1 l2 => by
    match us, its, l1, l2 with
    | [_, _, _], [_], _, _ => exact ⟨_, rfl, rfl⟩)
  exact ⟨f, fd, F_many T F, hm, ds, rd, hb⟩
theorem M_manyK_ (T : Txt K mg C) : MalK P w K mg base C 1 1 "many" ["shade"] ["self", "form", "shade"] (spMany C) (fun vs zs => vs ++ zs) := by
  obtain ⟨f, hm, fd, F⟩ := T.m_many
  obtain ⟨oc, od, dV, kV, doc, pm, an, cdv, ct, osl, rfl, lk, hcd, hD, hK⟩ := id F.ex
  refine ⟨f, _, fun us ws => us ++ ws, F_many T F, hm, ⟨fun s us ws X l1 l2 => ?_, fun r1 r2 => r1.append r2⟩⟩
  rcases hD with ⟨e, _⟩ | ⟨_, Tt, o, its, m, rfl, lT, oT, rT⟩
  · cases e
  · match us, ws, its, l1, l2, rT.length with
    | [u1, u2], [w1], [i1], _, _, _ =>
      refine BindsTo.of_looks fun M => ?_
      obtain ⟨kk, e1, e2⟩ : ∃ kk, bindArgs (PySem.W.fnOf "many" "Heap.many" (defArgs s_Heap_many) (defBody s_Heap_many) (defScope s_Heap_many) (.ref Tt) kV doc pm an cdv ct) ⟨[u1, u2], (["shade"] : List Str).zip [w1]⟩ = seqItems? (.ref Tt) >>= kk ∧ kk (some [i1].toArray) = pure ((["self", "form", "shade"] : List Str).zip ([u1, u2] ++ [w1])) := ⟨_, rfl, by first | with_unfolding_all rfl | kernel_rfl⟩
      rw [e1]
      exact looks_items X lT oT (.of_pure e2)
end
end Pk
end
section
set_option Elab.async false
set_option linter.all false
set_option maxRecDepth 100000
set_option maxHeartbeats 4000000
/-! == () and the like; a tuple of ints among tuples. -/
namespace Pk
open PySem PySem.Spec PyProof.Rows L2 FL
section
variable {X : Cx}
def rEmpT (neg : Bool) : R2 := fun x y H Q => ∃ a b xs, x = .ref a ∧ y = .ref b ∧ H a = some (.tup xs) ∧ H b = some (.tup []) ∧ Q (.bl (if neg then !xs.isEmpty else xs.isEmpty)) H
def rEmpL (neg : Bool) : R2 := fun x y H Q => ∃ a b xs, x = .ref a ∧ y = .ref b ∧ H a = some (.lst xs) ∧ H b = some (.lst []) ∧ Q (.bl (if neg then !xs.isEmpty else xs.isEmpty)) H
theorem eqEmpT (hu : X.A.units + 1 < cLine) : OpR X (compareOp .Eq) (rEmpT false) := by
  intro pins s σ H x y v u Q I rx ry ⟨a, b, xs, ex, ey, ha, hb, q⟩
  subst ex ey
  cases rx
  cases ry
  obtain ⟨its, rv, p, hz⟩ := I.tuple (SqT.of ha)
  obtain ⟨its2, rv2, p2, hz2⟩ := I.tuple (SqT.of hb)
  cases rv2
  refine SeqAt.eq_tupleAt (e := fun _ => true) p p2 (by omega) (fun j h1 h2 => by simp at h2) ?_
  have e : (((List.range (min its.toArray.size ([] : List Value).toArray.size)).all fun _ => true) && (its.toArray.size == ([] : List Value).toArray.size)) = xs.isEmpty := by
    cases rv with
    | nil => rfl
    | cons _ _ => simp
  rw [e]
  exact ⟨.bl _, H, I, rfl, q⟩
theorem neEmpT (hu : X.A.units + 1 < cLine) : OpR X (compareOp .NotEq) (rEmpT true) := by
  intro pins s σ H x y v u Q I rx ry ⟨a, b, xs, ex, ey, ha, hb, q⟩
  subst ex ey
  cases rx
  cases ry
  obtain ⟨its, rv, p, hz⟩ := I.tuple (SqT.of ha)
  obtain ⟨its2, rv2, p2, hz2⟩ := I.tuple (SqT.of hb)
  cases rv2
  refine (SeqAt.RcNeAt.tuples (e := fun _ => true) p p2 (by omega) (fun j h1 h2 => by simp at h2)) _ _ _ _ ?_
  have e : (!(((List.range (min its.toArray.size ([] : List Value).toArray.size)).all fun _ => true) && (its.toArray.size == ([] : List Value).toArray.size))) = (!xs.isEmpty) := by
    cases rv with
    | nil => rfl
    | cons _ _ => simp
  rw [e]
  exact ⟨.bl _, H, I, rfl, q⟩
theorem eqEmpL (hu : X.A.units + 1 < cLine) : OpR X (compareOp .Eq) (rEmpL false) := by
  intro pins s σ H x y v u Q I rx ry ⟨a, b, xs, ex, ey, ha, hb, q⟩
  subst ex ey
  cases rx
  cases ry
  obtain ⟨its, rv, p, hz⟩ := I.list (SqL.of ha)
  obtain ⟨its2, rv2, p2, hz2⟩ := I.list (SqL.of hb)
  cases rv2
  cases rv with
  | nil => exact SeqAt.eq_listAt (e := fun _ => true) p.isList p2.isList rfl (by omega) (fun j h1 h2 => by simp at h2) ⟨.bl _, H, I, rfl, q⟩
  | cons _ _ => exact SeqAt.eq_list_lengthsAt p.isList p2.isList (by simp) (by omega) ⟨.bl _, H, I, rfl, q⟩
theorem neEmpL (hu : X.A.units + 1 < cLine) : OpR X (compareOp .NotEq) (rEmpL true) := by
  intro pins s σ H x y v u Q I rx ry ⟨a, b, xs, ex, ey, ha, hb, q⟩
  subst ex ey
  cases rx
  cases ry
  obtain ⟨its, rv, p, hz⟩ := I.list (SqL.of ha)
  obtain ⟨its2, rv2, p2, hz2⟩ := I.list (SqL.of hb)
  cases rv2
  cases rv with
  | nil => exact (SeqAt.RcNeAt.lists (e := fun _ => true) p.isList p2.isList rfl (by omega) (fun j h1 h2 => by simp at h2)) _ _ _ _ ⟨.bl _, H, I, rfl, q⟩
  | cons _ _ => exact (SeqAt.RcNeAt.lists_lengths p.isList p2.isList (by simp) (by omega)) _ _ _ _ ⟨.bl _, H, I, rfl, q⟩
/-- a tuple of ints not in a tuple of one tuple of ints that is the same -/
def rNotInTT : R2 := fun x y H Q => ∃ (a b c : Addr) (ns ms : List Int), x = .ref a ∧ y = .ref b ∧ H a = some (.tup (ns.map V.int)) ∧ H b = some (.tup [.ref c]) ∧ H c = some (.tup (ms.map V.int)) ∧ Q (.bl (!decide (ms = ns))) H
theorem ints_val : ∀ {ns : List Int} {us : List Value}, Vals (ns.map V.int) us → ∀ j (h : j < us.length), ∃ (n : Int) (t : Tok), ns[j]? = some n ∧ us[j] = .int n t
  | [], _, .nil, j, h => by simp at h
  | n :: ns, _, .cons r t, 0, _ => by
    obtain ⟨tk, rfl⟩ := r
    exact ⟨n, tk, rfl, rfl⟩
  | n :: ns, _, .cons r t, j + 1, h => by
    obtain ⟨m, tk, h1, h2⟩ := ints_val (ns := ns) t j (by simpa using h)
    exact ⟨m, tk, by simpa using h1, by simpa using h2⟩
theorem ints_all {ns ms : List Int} : (((List.range (min ms.length ns.length)).all fun j => decide (ms[j]? = ns[j]?)) && (ms.length == ns.length)) = decide (ms = ns) := by
  by_cases h : ms = ns
  · subst h
    simp
  · rw [decide_eq_false h]
    by_cases hl : ms.length = ns.length
    · have : ¬ ∀ j, j < min ms.length ns.length → ms[j]? = ns[j]? := fun z => h (List.ext_getElem? fun j => by
        by_cases hj : j < min ms.length ns.length
        · exact z j hj
        · rw [List.getElem?_eq_none (by omega), List.getElem?_eq_none (by omega)])
      have e : ((List.range (min ms.length ns.length)).all fun j => decide (ms[j]? = ns[j]?)) = false := by
        cases q : ((List.range (min ms.length ns.length)).all fun j => decide (ms[j]? = ns[j]?)) with
        | false => rfl
        | true =>
          exact absurd (fun j hj => by
            have := List.all_eq_true.mp q j (List.mem_range.mpr hj)
            exact of_decide_eq_true this) this
      rw [e]; rfl
    · have : (ms.length == ns.length) = false := beq_eq_false_iff_ne.mpr hl
      rw [this, Bool.and_false]
theorem notInTT (hu : X.A.units + 4 < cLine) : OpR X (compareOp .NotIn) rNotInTT := by
  intro pins s σ H x y v u Q I rx ry ⟨a, b, c, ns, ms, ex, ey, ha, hb, hc, q⟩
  subst ex ey
  cases rx
  cases ry
  obtain ⟨its, rv, p, hz⟩ := I.tuple (SqT.of ha)
  obtain ⟨its2, rv2, p2, hz2⟩ := I.tuple (SqT.of hb)
  obtain ⟨its3, rv3, p3, hz3⟩ := I.tuple (SqT.of hc)
  obtain ⟨w, rfl, rw'⟩ := Vals.one rv2
  obtain rfl : w = Value.ref c := rw'
  have l1 : ns.length = its.length := by have := rv.length; simpa using this
  have l3 : ms.length = its3.length := by have := rv3.length; simpa using this
  have key : SeqAt.EqAt X.A.in1 s (.ref c) (.ref a) (decide (ms = ns)) := by
    by_cases hca : c = a
    · subst hca
      rw [hc] at ha
      have e1 := Option.some.inj ha
      injection e1 with e2
      have e3 : ms = ns := (List.map_inj_right (f := V.int) fun x y z => V.int.inj z).mp e2
      rw [decide_eq_true e3]
      exact SeqAt.EqAt.same _
    · refine SeqAt.EqAt.of_refs hca ?_
      have := SeqAt.RcAt.tuples (A := X.A.in1) (s := s) (e := fun j => decide (ms[j]? = ns[j]?)) p3 p (by show X.A.units + 1 < cLine; omega) (fun j h1 h2 => by
        have h1' : j < its3.length := by simpa using h1
        have h2' : j < its.length := by simpa using h2
        obtain ⟨m, t1, e1, e2⟩ := ints_val rv3 j h1'
        obtain ⟨n, t2, e3, e4⟩ := ints_val rv j h2'
        have g1 : its3.toArray[j] = .int m t1 := by simpa using e2
        have g2 : its.toArray[j] = .int n t2 := by simpa using e4
        rw [g1, g2, e1, e3]
        have : decide (some m = some n) = (m == n) := by
          by_cases z : m = n
          · subst z; simp
          · have : ¬ (some m = some n) := fun q => z (Option.some.inj q)
            rw [decide_eq_false this]; exact (beq_eq_false_iff_ne.mpr z).symm
        rw [this]
        exact fun prog w E Q hq => wpAny_eqBool_int hq)
      have hs1 : its3.toArray.size = ms.length := by simp [l3]
      have hs2 : its.toArray.size = ns.length := by simp [l1]
      rw [hs1, hs2, ints_all] at this
      exact this
  refine SeqAt.notIn_tupleAt (fun _ => decide (ms = ns)) p2 (fun z hz => ?_) ?_
  · have : z = .ref c := by simpa using hz
    subst this
    exact key
  · have e : ([Value.ref c].toArray.any fun _ => decide (ms = ns)) = decide (ms = ns) := by simp
    rw [e]
    exact ⟨.bl _, H, I, rfl, q⟩
end
end Pk
end
section
set_option Elab.async false
set_option linter.all false
set_option maxRecDepth 100000
set_option maxHeartbeats 4000000
namespace Pk
open PySem PySem.Spec PyProof.Rows L2 FL
section
variable {P : Program} {w : World} {K : PySem.W.Frag} {mg : Str → Option Value} {base : Heap} {C : Addr}
theorem SameCnt.len {rows rows' : List Row} (h : SameCnt rows rows') : rows'.length ≤ 20 := h.ok.len
theorem RowsOK.app {a b : List Row} (h1 : RowsOK a) (h2 : RowsOK b) : RowsOK (a ++ b) := fun r hr => (List.mem_append.mp hr).elim (h1 r) (h2 r)
/-! ### plus -/
def spPlus (C : Addr) : Sp := fun vs H Q _ => ∃ v u rows rows2, vs = [v, u] ∧ HeapR C H v rows ∧ HeapR C H u rows2 ∧ HeapOK rows ∧ HeapOK rows2 ∧
  ∀ v' H' rows', Same H H' → HeapR C H' v' rows' → SameCnt (rows ++ rows2) rows' → Q v' H'
theorem sc_Heap_plus : FnScope ["self", "other"] ["self", "other"] (defScope s_Heap_plus) := ⟨rfl, rfl, rfl, by decide +kernel, rfl, by decide +kernel, by decide +kernel⟩
theorem M_plus_ (T : Txt K mg C) : Mal P w K mg base C 4 "plus" ["self", "other"] (spPlus C) [] := by
  have C_Heap_init : Maker P w K mg base C 2 ["self", "rows"] (spInit C) := c_Heap_init T
  obtain ⟨f, hm, fd, F⟩ := T.m_plus
  refine ⟨f, fd, F.ok sc_Heap_plus (fun vs H Q E h => ?_) (fun cdv A outer s H vs Q E hr h => ?_), hm, [], .nil, F.bindsN (fun _ _ _ _ _ _ us hl => match us, hl with | [_, _], _ => rfl)⟩
  · obtain ⟨v, u, rows, rows2, rfl, _⟩ := h
    rfl
  · obtain ⟨v, u, rows, rows2, rfl, ⟨a, dx, p, rfl, ha, hp⟩, ⟨b, dx2, p2, rfl, hb, hp2⟩, hok, hok2, k⟩ := h
    have sc := sc_Heap_plus
    refine ⟨_, PSs.nox (pss_one (ps_ret (pe_heap T.mgC C_Heap_init hr (pe_op catT (fldK K (pv 0) rfl) (fldK K (pv 1) rfl))))), ?_⟩
    obtain ⟨q, xs, e, hq, hall⟩ := hp
    cases e
    obtain ⟨q2, xs2, e, hq2, hall2⟩ := hp2
    cases e
    refine ⟨_, rfl, a, C, dx, _, _, rfl, ha, T.cl, T.nP, rfl, _, rfl, b, C, dx2, _, _, rfl, hb, T.cl, T.nP, rfl, ?_⟩
    refine ⟨p, p2, xs, xs2, rfl, rfl, hq, hq2, ?_, fun c H1 s1 hc => ?_⟩
    · rw [hall.length, hall2.length]
      have := hok.len
      have := hok2.len
      omega
    · refine ⟨rows ++ rows2, ⟨c, xs ++ xs2, rfl, hc, (All2.mo RowR.mo (Keep.of s1) hall).append (All2.mo RowR.mo (Keep.of s1) hall2)⟩, hok.1.app hok2.1, fun v' H' rows' s2 hH sc' => ?_⟩
      exact k v' H' rows' (s1.trans s2) hH sc'
/-! ### rows_lacking -/
def lackF (rows : List Row) (r : Row) : Option Row := if 0 < r.2.2 - manyOf rows r.1 (some r.2.1) then some (r.1, r.2.1, r.2.2 - manyOf rows r.1 (some r.2.1)) else none
def spLack (C : Addr) : Sp := fun vs H Q _ => ∃ v u rows rows2, vs = [v, u] ∧ HeapR C H v rows ∧ HeapR C H u rows2 ∧ rows.length ≤ 1000 ∧ rows2.length ≤ 1000 ∧
  ∀ v' H', Same H H' → RowsR H' v' (rows2.filterMap (lackF rows)) → Q v' H'
theorem sc_Heap_rows_lacking : FnScope ["self", "other", "found", "form", "shade", "many", "more"] ["self", "other"] (defScope s_Heap_rows_lacking) := ⟨rfl, rfl, rfl, by decide +kernel, rfl, by decide +kernel, by decide +kernel⟩
theorem M_rows_lacking_ (T : Txt K mg C) : Mal P w K mg base C 2 "rows_lacking" ["self", "other"] (spLack C) [] := by
  have M_many2 : Mal P w K mg base C 1 "many" ["self", "form", "shade"] (spMany C) [] := M_many2_ T
  obtain ⟨f, hm, fd, F⟩ := T.m_rows_lacking
  refine ⟨f, fd, F.ok sc_Heap_rows_lacking (fun vs H Q E h => ?_) (fun cdv A outer s H vs Q E hr h => ?_), hm, [], .nil, F.bindsN (fun _ _ _ _ _ _ us hl => match us, hl with | [_, _], _ => rfl)⟩
  · obtain ⟨v, u, rows, rows2, rfl, _⟩ := h
    rfl
  · obtain ⟨v, u, rows, rows2, rfl, hv, ⟨b, dx2, p2, rfl, hb, hp2⟩, hl1, hl2, k⟩ := h
    have sc := sc_Heap_rows_lacking
    have hu := hu_of hr
    refine ⟨_, PSs.nox (pss_cons (ps_set (i := 2) sc.nd rfl (.inl rfl) (pe_lst pa_nil))
      (pss_cons (ps_for PassesOwn.never rfl (piT K (fldK K (pv 1) rfl)) (pgT K (n := 3) rfl (pgs_cons (pg_name (i := 3) sc.nd rfl (.inl rfl)) (pgs_cons (pg_name (i := 4) sc.nd rfl (.inl rfl)) (pgs_cons (pg_name (i := 5) sc.nd rfl (.inl rfl)) pgs_nil)))) (pss_cons (ps_set (i := 6) sc.nd rfl (.inl rfl) (pe_op op_sub (pv 5) (pe_mal T.cl M_many2 hr (pv 0) (pa_cons (pv 3) (pa_cons (pv 4) pa_nil)))))
      (pss_one (ps_if (pt_cmpR op_gt (pv 6) pe_int (nomark _)) (pss_one (ps_expr (pe_bm PySem.F.plainAttrs_list PySem.F.slot_list_append PySem.F.type_list_append mt_append (pv 2) (pa_cons (pe_tup (pa_cons (pv 3) (pa_cons (pv 4) (pa_cons (pv 6) pa_nil)))) pa_nil)))) pss_nil))))
      (pss_one (ps_ret (pe_callTy tup1 (by rfl) T.tuple (by decide +kernel) (pa_cons (pv 2) pa_nil)))))), ?_⟩
    obtain ⟨q2, xs2, e, hq2, hall2⟩ := hp2
    cases e
    -- found = []
    refine ⟨Nat.zero_le _, fun d nd => ?_⟩
    have s1 : Same H (upd H d (.lst [])) := same_new nd
    refine ⟨_, rfl, b, C, dx2, _, _, rfl, s1 _ _ hb, T.cl, T.nP, rfl, p2, rfl, ⟨_, SqT.of (s1 _ _ hq2)⟩, ?_⟩
    refine for_tup (K := K) (a := p2) (xs := xs2) (fun i σ H2 => ∃ acc v1 v2 v3 v4, σ = [some v, some (.ref b), some (.ref d), v1, v2, v3, v4] ∧ Same H H2 ∧ H2 d = some (.lst acc) ∧ acc.length ≤ i ∧ All2 (RowR H2) acc ((rows2.take i).filterMap (lackF rows)))
      ⟨[], none, none, none, none, rfl, s1, upd_same, Nat.le_refl _, .nil⟩ (fun i σ H2 _ ⟨_, _, _, _, _, _, s2, _⟩ => SqT.of (s2 _ _ hq2)) ?_ ?_
    · rintro i y σ H2 hi ⟨acc, v1, v2, v3, v4, rfl, s2, hd, hal, hacc⟩
      obtain ⟨r, hr1, c, rfl, hc⟩ := hall2.get hi
      have hc2 := s2 _ _ hc
      have hi2 : i < 1000 := by
        have := (List.getElem?_eq_some_iff.mp hr1).1
        omega
      refine ⟨c, _, rfl, SqT.of hc2, rfl, _, _, rfl, _, _, rfl, _, _, rfl, rfl, ?_⟩
      -- more = many - self.many(form, shade)
      obtain ⟨a, dx, p, rfl, ha, hp⟩ := id hv
      refine ⟨_, rfl, _, rfl, a, dx, _, rfl, s2 _ _ ha, rfl, _, rfl, _, rfl, _, rows, r.1, some r.2.1, rfl, HeapR.mo _ _ _ _ (Keep.of s2) hv, hl1, fun H3 s3 => ?_⟩
      refine ⟨_, _, rfl, rfl, ?_⟩
      have hd3 := s3 _ _ hd
      have hacc3 := All2.mo RowR.mo (Keep.of s3) hacc
      -- if more > 0
      refine ⟨_, rfl, _, _, rfl, rfl, _, rfl, ite2 (fun hg => ?_) (fun hg => ?_)⟩
      · have hg' : 0 < r.2.2 - manyOf rows r.1 (some r.2.1) := of_decide_eq_true hg
        refine ⟨_, rfl, .inl ⟨rfl, _, SqL.of hd3⟩, _, rfl, _, rfl, _, rfl, (by show 3 ≤ sizeLine; decide), fun t nt => ?_⟩
        have hd4 : (upd H3 t (.tup [.str r.1, .str r.2.1, .int (r.2.2 - manyOf rows r.1 (some r.2.1))])) d = some (.lst acc) := same_new nt _ _ hd3
        refine ⟨d, acc, _, rfl, rfl, hd4, sz_lt (by omega), ?_⟩
        have k5 : Keep (upd H3 t (.tup [.str r.1, .str r.2.1, .int (r.2.2 - manyOf rows r.1 (some r.2.1))])) (upd (upd H3 t (.tup [.str r.1, .str r.2.1, .int (r.2.2 - manyOf rows r.1 (some r.2.1))])) d (.lst (acc ++ [.ref t]))) := Keep.lst hd4
        refine ⟨acc ++ [.ref t], _, _, _, _, rfl, same_mut ((s2.trans s3).trans (same_new nt)) nd, upd_same, by simp; omega, ?_⟩
        rw [take_next hr1, List.filterMap_append]
        have e0 : lackF rows r = some (r.1, r.2.1, r.2.2 - manyOf rows r.1 (some r.2.1)) := if_pos hg'
        have e1 : [r].filterMap (lackF rows) = [(r.1, r.2.1, r.2.2 - manyOf rows r.1 (some r.2.1))] := by
          simp [List.filterMap_cons, e0]
        rw [e1]
        exact all2_snoc (All2.mo RowR.mo ((Keep.new nt).trans k5) hacc3) ⟨t, rfl, tup_keep k5 upd_same⟩
      · have hg' : ¬ 0 < r.2.2 - manyOf rows r.1 (some r.2.1) := fun z => hg (decide_eq_true z)
        refine ⟨acc, _, _, _, _, rfl, s2.trans s3, hd3, by omega, ?_⟩
        rw [take_next hr1, List.filterMap_append]
        have e0 : lackF rows r = none := if_neg hg'
        have e1 : [r].filterMap (lackF rows) = [] := by
          simp [List.filterMap_cons, e0]
        rw [e1, List.append_nil]
        exact hacc3
    · rintro σ H2 ⟨acc, v1, v2, v3, v4, rfl, s2, hd, hal, hacc⟩
      rw [hall2.length, take_all] at hacc
      refine ⟨_, rfl, d, acc, rfl, hd, fun c H3 s3 nc hc => ?_⟩
      exact k _ H3 (s2.trans s3) ⟨c, acc, rfl, hc, All2.mo RowR.mo (Keep.of s3) hacc⟩
/-! ### holds -/
def spHolds (C : Addr) : Sp := fun vs H Q _ => ∃ v u rows rows2, vs = [v, u] ∧ HeapR C H v rows ∧ HeapR C H u rows2 ∧ rows.length ≤ 1000 ∧ rows2.length ≤ 1000 ∧
  ∀ H', Same H H' → Q (.bl (rows2.filterMap (lackF rows)).isEmpty) H'
theorem sc_Heap_holds : FnScope ["self", "other"] ["self", "other"] (defScope s_Heap_holds) := ⟨rfl, rfl, rfl, by decide +kernel, rfl, by decide +kernel, by decide +kernel⟩
theorem M_holds_ (T : Txt K mg C) : Mal P w K mg base C 3 "holds" ["self", "other"] (spHolds C) [] := by
  have M_rows_lacking : Mal P w K mg base C 2 "rows_lacking" ["self", "other"] (spLack C) [] := M_rows_lacking_ T
  obtain ⟨f, hm, fd, F⟩ := T.m_holds
  refine ⟨f, fd, F.ok sc_Heap_holds (fun vs H Q E h => ?_) (fun cdv A outer s H vs Q E hr h => ?_), hm, [], .nil, F.bindsN (fun _ _ _ _ _ _ us hl => match us, hl with | [_, _], _ => rfl)⟩
  · obtain ⟨v, u, rows, rows2, rfl, _⟩ := h
    rfl
  · obtain ⟨v, u, rows, rows2, rfl, hv, hu2, hl1, hl2, k⟩ := h
    have sc := sc_Heap_holds
    have hu := hu_of hr
    refine ⟨_, PSs.nox (pss_one (ps_ret (pe_cmpR (eqEmpT hu) (pe_mal T.cl M_rows_lacking hr (pv 0) (pa_cons (pv 1) pa_nil)) (pe_tup pa_nil) (nomark _)))), ?_⟩
    obtain ⟨a, dx, p, rfl, ha, hp⟩ := id hv
    refine ⟨_, rfl, a, dx, _, rfl, ha, rfl, _, rfl, _, _, rows, rows2, rfl, hv, hu2, hl1, hl2, fun v' H1 s1 hR => ?_⟩
    obtain ⟨q, xs, rfl, hq, hall⟩ := hR
    refine ⟨Nat.zero_le _, fun t nt => ?_⟩
    refine ⟨q, t, xs, rfl, rfl, same_new nt _ _ hq, upd_same, ?_⟩
    have e : xs.isEmpty = (rows2.filterMap (lackF rows)).isEmpty := by
      generalize rows2.filterMap (lackF rows) = l at hall
      cases hall with
      | nil => rfl
      | cons _ _ => rfl
    show Q (.bl xs.isEmpty) _
    rw [e]
    exact k _ (s1.trans (same_new nt))
end
end Pk
end
section
set_option Elab.async false
set_option linter.all false
set_option maxRecDepth 100000
set_option maxHeartbeats 4000000
namespace Pk
open PySem PySem.Spec PyProof.Rows L2 FL
structure WantOK (w : Want Str Str) : Prop where
  fm : w.1 ∈ FM
  sh : ∀ s ∈ w.2.1, s ∈ SH
  nd : w.2.1.Nodup
  lo : 1 ≤ w.2.2
  hi : w.2.2 ≤ 6
structure WantsOK (ws : List (Want Str Str)) : Prop where
  all : ∀ w ∈ ws, WantOK w
  len : ws.length ≤ 6
theorem WantOK.len {w : Want Str Str} (h : WantOK w) : w.2.1.length ≤ 5 := nd_le (m := SH) h.nd h.sh
/-- what lets tells -/
structure LetsOK (rows : List Row) (w : Want Str Str) (qs : List Part) : Prop where
  nd : qs.Nodup
  ok : ∀ q ∈ qs, q.1 = w.1 ∧ FL.lets w q.2 ∧ q.2 ∈ SH
  all : ∀ s ∈ SH, FL.lets w s → (w.1, s) ∈ qs ∨ cnt rows w.1 s = 0
theorem lets_some {rows : List Row} {w : Want Str Str} (hw : WantOK w) (h : w.2.1 ≠ []) : LetsOK rows w (w.2.1.map fun s => (w.1, s)) where
  nd := List.Pairwise.map _ (fun a b hab z => hab (congrArg Prod.snd z)) hw.nd
  ok := fun q hq => by
    obtain ⟨s, hs, rfl⟩ := List.mem_map.mp hq
    exact ⟨rfl, .inr hs, hw.sh s hs⟩
  all := fun s _ hl => .inl (List.mem_map.mpr ⟨s, hl.resolve_left h, rfl⟩)
def rowF (f : Str) (r : Row) : Option Part := if r.1 = f then some (r.1, r.2.1) else none
theorem rowF_mem {f : Str} {rows : List Row} {q : Part} (h : q ∈ rows.filterMap (rowF f)) : ∃ r ∈ rows, r.1 = f ∧ q = (r.1, r.2.1) := by
  obtain ⟨r, hr, e⟩ := List.mem_filterMap.mp h
  unfold rowF at e
  split at e
  · rename_i z
    exact ⟨r, hr, z, (Option.some.inj e).symm⟩
  · cases e
theorem lets_all {rows : List Row} (ok : HeapOK rows) {w : Want Str Str} (h : w.2.1 = []) : LetsOK rows w (rows.filterMap (rowF w.1)) where
  nd := by
    have h2 := ok.2
    clear ok h
    induction rows with
    | nil => exact List.nodup_nil
    | cons r rs ih =>
      rw [List.map_cons, List.nodup_cons] at h2
      rw [List.filterMap_cons]
      unfold rowF
      split
      · exact ih h2.2
      · rename_i b hb
        split at hb
        · cases Option.some.inj hb
          refine List.nodup_cons.mpr ⟨fun z => ?_, ih h2.2⟩
          obtain ⟨r2, hr2, _, e⟩ := rowF_mem z
          exact h2.1 (List.mem_map.mpr ⟨r2, hr2, e.symm⟩)
        · cases hb
  ok := fun q hq => by
    obtain ⟨r, hr, e, rfl⟩ := rowF_mem hq
    exact ⟨e, .inl h, (ok.1 r hr).2.1⟩
  all := fun s _ _ => by
    by_cases z : (w.1, s) ∈ rows.filterMap (rowF w.1)
    · exact .inl z
    · refine .inr ?_
      have : ∀ r ∈ rows, ¬ (r.1 = w.1 ∧ r.2.1 = s) := fun r hr e => z (List.mem_filterMap.mpr ⟨r, hr, by unfold rowF; rw [if_pos e.1, e.1, e.2]⟩)
      clear z ok
      induction rows with
      | nil => rfl
      | cons r rs ih =>
        show (if r.1 = w.1 ∧ r.2.1 = s then r.2.2 else 0) + cnt rs w.1 s = 0
        rw [if_neg (this r (by simp)), ih fun x hx => this x (by simp [hx])]
        rfl
section
variable {P : Program} {w : World} {K : PySem.W.Frag} {mg : Str → Option Value} {base : Heap} {C : Addr}
def spLets (C : Addr) : Sp := fun vs H Q _ => ∃ v u rows x, vs = [v, u] ∧ HeapR C H v rows ∧ WantR H u x ∧ HeapOK rows ∧ WantOK x ∧
  ∀ l H' ys qs, Same H H' → H' l = some (.lst ys) → All2 (PartR H') ys qs → LetsOK rows x qs → qs.length ≤ 20 → Q (.ref l) H'
theorem sc_lets : FnScope ["heap", "want", "shade", "form", "many"] ["heap", "want"] (defScope s_lets) := ⟨rfl, rfl, rfl, by decide +kernel, rfl, by decide +kernel, by decide +kernel⟩
theorem c_lets (T : Txt K mg C) : Cal P w K mg base CX0 2 "lets" ["heap", "want"] (spLets C) := by
  have M_rows : Mal P w K mg base C 1 "rows" ["self"] (spRows C) [] := M_rows_ T
  refine Cal.mk' T.d_lets sc_lets (fun vs H Q E h => ?_) (fun _ _ _ _ _ _ us hl => match us, hl with | [_, _], _ => rfl) (fun f cdv A outer s H vs Q E hr h => ?_)
  · obtain ⟨v, u, rows, x, rfl, _⟩ := h
    rfl
  · obtain ⟨v, u, rows, x, rfl, hv, ⟨a, b, rfl, ha, hb⟩, hok, hw, k⟩ := h
    have sc := sc_lets
    have hu := hu_of hr
    refine ⟨_, (pss_cons (ps_if (pt_cmpR (neEmpT hu) (pe_ix ixT (pv 1) pe_int (fun _ _ => rfl)) (pe_tup pa_nil) (nomark _)) (pss_one (ps_ret (pe_lc (own := [("shade", 2)]) rfl sc.nd (piT K (pe_ix ixT (pv 1) pe_int (fun _ _ => rfl))) (blkOk_by (N := ["heap", "want", "shade", "form", "many"]) (sc := defScope s_lets) (own := [("shade", 2)]) (by decide +kernel)) (fun _ _ _ _ _ => (pg_name (i := 2) sc.nd rfl (.inl rfl))) (fun _ _ _ _ _ => pts_nil) (fun _ _ _ _ _ => (pe_tup (pa_cons (pe_ix ixT (pv 1) pe_int (fun _ _ => rfl)) (pa_cons (pv 2) pa_nil))))))) pss_nil)
      (pss_one (ps_ret (pe_lc (own := [("form", 3), ("shade", 2), ("many", 4)]) rfl sc.nd (piT K (pe_mal0 T.cl M_rows hr (pv 0))) (blkOk_by (N := ["heap", "want", "shade", "form", "many"]) (sc := defScope s_lets) (own := [("form", 3), ("shade", 2), ("many", 4)]) (by decide +kernel)) (fun _ _ _ _ _ => (pgT K (n := 3) rfl (pgs_cons (pg_name (i := 3) sc.nd rfl (.inl rfl)) (pgs_cons (pg_name (i := 2) sc.nd rfl (.inl rfl)) (pgs_cons (pg_name (i := 4) sc.nd rfl (.inl rfl)) pgs_nil))))) (fun _ _ _ _ _ => (pts_one (pt_cmpR op_eq (pv 3) (pe_ix ixT (pv 1) pe_int (fun _ _ => rfl)) (nomark _)))) (fun _ _ _ _ _ => (pe_tup (pa_cons (pv 3) (pa_cons (pv 2) pa_nil)))))))), ?_⟩
    -- want[1] != ()
    refine ⟨_, rfl, a, _, _, _, rfl, rfl, ha, at1, Nat.zero_le _, fun t nt => ?_⟩
    have s1 : Same H (upd H t (.tup [])) := same_new nt
    refine ⟨b, t, _, rfl, rfl, s1 _ _ hb, upd_same, _, rfl, ?_⟩
    by_cases he : x.2.1 = []
    · refine ite_f (by rw [he]; rfl) ?_
      obtain ⟨ah, dx, p, rfl, hah, q, xs, e, hp, hall⟩ := id hv
      cases e
      refine ⟨_, rfl, ah, dx, _, rfl, s1 _ _ hah, rfl, _, rows, rfl, HeapR.mo _ _ _ _ (Keep.of s1) hv, fun v' hv' => ?_⟩
      obtain ⟨q, zs, rfl, hq, hzs⟩ := hv'
      refine ⟨q, rfl, ⟨_, SqT.of hq⟩, fun D nD => ?_⟩
      have hlen : zs.length ≤ 20 := by rw [hzs.length]; exact hok.len
      refine lc_typed (walk_tup (K := K) (a := q) (xs := zs)) nD PartR PartR.mo (fun i => (rows[i]?).bind (rowF x.1)) (by omega) (fun H3 s3 => SqT.of (s3 _ _ hq)) (fun i y H3 H4 hi s3 hY kt kf => ?_) (fun H3 acc s3 hD hacc => ?_)
      · obtain ⟨rfl, hy⟩ := hY
        obtain ⟨r, hr1, c, rfl, hc⟩ := hzs.get hy
        have hc4 := s3 _ _ hc
        have ha4 := s3 _ _ (s1 _ _ ha)
        refine ⟨c, _, rfl, SqT.of hc4, rfl, _, _, rfl, _, _, rfl, _, _, rfl, rfl, rfl, ?_⟩
        refine ⟨_, rfl, _, rfl, a, _, _, _, rfl, rfl, ha4, at0, rfl, _, rfl, ?_⟩
        by_cases hg : r.1 = x.1
        · refine ite_t (decide_eq_true (congrArg V.str hg)) ?_
          refine ⟨_, rfl, _, rfl, (by show 2 ≤ sizeLine; decide), fun t2 nt2 => ?_⟩
          refine kt _ _ (r.1, r.2.1) (same_new nt2) ?_ ⟨t2, rfl, upd_same⟩
          show (rows[i]?).bind (rowF x.1) = _
          rw [hr1]
          exact if_pos hg
        · refine ite_f (decide_eq_false fun z => hg (V.str.inj z)) ?_
          refine kf _ (Same.refl _) ?_
          show (rows[i]?).bind (rowF x.1) = _
          rw [hr1]
          exact if_neg hg
      · rw [hzs.length, filterMap_range] at hacc
        exact k D H3 acc _ (s1.trans s3) hD hacc (lets_all hok he) (Nat.le_trans (List.length_filterMap_le _ _) hok.len)
    · refine ite_t (by cases q : x.2.1 with | nil => exact absurd q he | cons _ _ => rfl) ?_
      refine ⟨_, rfl, a, _, _, _, rfl, rfl, s1 _ _ ha, at1, b, rfl, ⟨_, SqT.of (s1 _ _ hb)⟩, fun D nD => ?_⟩
      have hlen := hw.len
      refine lc_typed (walk_tup (K := K) (a := b) (xs := x.2.1.map V.str)) nD PartR PartR.mo (fun i => (x.2.1[i]?).map fun z => (x.1, z)) (by rw [List.length_map]; omega) (fun H3 s3 => SqT.of (s3 _ _ (s1 _ _ hb))) (fun i y H3 H4 hi s3 hY kt kf => ?_) (fun H3 acc s3 hD hacc => ?_)
      · obtain ⟨rfl, hy⟩ := hY
        rw [List.getElem?_map] at hy
        cases hz : x.2.1[i]? with
        | none => rw [hz] at hy; cases hy
        | some z =>
          rw [hz] at hy
          cases Option.some.inj hy
          refine ⟨rfl, yesT ?_⟩
          refine ⟨_, rfl, a, _, _, _, rfl, rfl, s3 _ _ (s1 _ _ ha), at0, _, rfl, (by show 2 ≤ sizeLine; decide), fun t2 nt2 => ?_⟩
          refine kt _ _ (x.1, z) (same_new nt2) ?_ ⟨t2, rfl, upd_same⟩
          show (x.2.1[i]?).map _ = _
          rw [hz]
          rfl
      · rw [List.length_map, filterMap_get] at hacc
        exact k D H3 acc _ (s1.trans s3) hD hacc (lets_some hw he) (by rw [List.length_map]; omega)
/-! ### parts_left -/
def spPartsLeft (C : Addr) : Sp := fun vs H Q _ => ∃ v rows, vs = [v] ∧ HeapR C H v rows ∧ HeapOK rows ∧
  ∀ p kv H', H p = none → Same H H' → H' p = some (.dT (enc V.int kv)) → CD kv (cnt rows) → Q (.ref p) H'
theorem cnt_fresh {a b : List Row} {r : Row} (h : ((a ++ r :: b).map fun r => (r.1, r.2.1)).Nodup) : cnt a r.1 r.2.1 = 0 := by
  rw [List.map_append, List.map_cons, List.nodup_append] at h
  have h2 := h.2.2
  clear h
  induction a with
  | nil => rfl
  | cons x xs ih =>
    show (if x.1 = r.1 ∧ x.2.1 = r.2.1 then x.2.2 else 0) + cnt xs r.1 r.2.1 = 0
    rw [ih fun a ha b hb => h2 a (by simp [ha]) b hb, if_neg fun z => ?_]
    · rfl
    · exact h2 (x.1, x.2.1) (by simp) (r.1, r.2.1) (by simp) (by rw [z.1, z.2])
theorem sc_parts_left : FnScope ["heap", "found", "form", "shade", "many"] ["heap"] (defScope s_parts_left) := ⟨rfl, rfl, rfl, by decide +kernel, rfl, by decide +kernel, by decide +kernel⟩
theorem c_parts_left (T : Txt K mg C) : Cal P w K mg base CX0 2 "parts_left" ["heap"] (spPartsLeft C) := by
  have M_rows : Mal P w K mg base C 1 "rows" ["self"] (spRows C) [] := M_rows_ T
  refine Cal.mk' T.d_parts_left sc_parts_left (fun vs H Q E h => ?_) (fun _ _ _ _ _ _ us hl => match us, hl with | [_], _ => rfl) (fun f cdv A outer s H vs Q E hr h => ?_)
  · obtain ⟨v, rows, rfl, _⟩ := h
    rfl
  · obtain ⟨v, rows, rfl, hv, hok, k⟩ := h
    have sc := sc_parts_left
    have hu := hu_of hr
    refine ⟨_, (pss_cons (ps_set (i := 1) sc.nd rfl (.inl rfl) pe_dnewT)
      (pss_cons (ps_for PassesOwn.never rfl (piT K (pe_mal0 T.cl M_rows hr (pv 0))) (pgT K (n := 3) rfl (pgs_cons (pg_name (i := 2) sc.nd rfl (.inl rfl)) (pgs_cons (pg_name (i := 3) sc.nd rfl (.inl rfl)) (pgs_cons (pg_name (i := 4) sc.nd rfl (.inl rfl)) pgs_nil)))) (pss_one (ps_dput hu (pv 1) (pe_tup (pa_cons (pv 2) (pa_cons (pv 3) pa_nil))) (pv 4) rfl)))
      (pss_one (ps_ret (pv 1))))), ?_⟩
    refine fun d nd => ?_
    have s1 : Same H (upd H d (.dT [])) := same_new nd
    obtain ⟨ah, dx, p, rfl, hah, _⟩ := id hv
    refine ⟨_, rfl, ah, dx, _, rfl, s1 _ _ hah, rfl, _, rows, rfl, HeapR.mo _ _ _ _ (Keep.of s1) hv, fun v' hv' => ?_⟩
    obtain ⟨q, zs, rfl, hq, hzs⟩ := hv'
    have hqd : q ≠ d := ne_of hq upd_same (by intro z; cases z)
    refine ⟨q, rfl, ⟨_, SqT.of hq⟩, for_tup (K := K) (a := q) (xs := zs) (fun i σ H2 => ∃ kv v1 v2 v3, σ = [some (.ref ah), some (.ref d), v1, v2, v3] ∧ Same H H2 ∧ Keep (upd H d (.dT [])) H2 ∧ H2 d = some (.dT (enc V.int kv)) ∧ CD kv (cnt (rows.take i)))
      ⟨[], none, none, none, rfl, s1, Keep.refl _, upd_same, ⟨List.nodup_nil, fun e he => by simp at he, fun f s => rfl⟩⟩ (fun i σ H2 _ ⟨_, _, _, _, _, _, s2, _⟩ => SqT.of (tup_keep s2 hq)) ?_ ?_⟩
    · rintro i y σ H2 hi ⟨kv, v1, v2, v3, rfl, s2, k2, hd, hc⟩
      obtain ⟨r, hr1, c, rfl, hcr⟩ := hzs.get hi
      have hc2 := tup_keep k2 hcr
      have rok : RowOK r := hok.1 r (List.mem_of_getElem? hr1)
      refine ⟨c, _, rfl, SqT.of hc2, rfl, _, _, rfl, _, _, rfl, _, _, rfl, rfl, ?_⟩
      refine ⟨_, rfl, _, rfl, _, rfl, _, rfl, (by show 2 ≤ sizeLine; decide), fun t nt => ?_⟩
      have hd3 : (upd H2 t (.tup [V.str r.1, V.str r.2.1])) d = some (.dT (enc V.int kv)) := same_new nt _ _ hd
      have hlen : (enc V.int kv).length < sizeLine := by
        rw [enc_len]
        exact sz_lt (by have := hc.len; omega)
      refine ⟨d, _, rfl, DPut.t (k := encK (r.1, r.2.1)) hd3 upd_same hlen, ?_⟩
      have e0 : rows.take i ++ r :: rows.drop (i + 1) = rows := by
        obtain ⟨hl, e⟩ := List.getElem?_eq_some_iff.mp hr1
        rw [← e, List.getElem_cons_drop, List.take_append_drop]
      have h0 : cnt (rows.take i) r.1 r.2.1 = 0 := cnt_fresh (b := rows.drop (i + 1)) (by rw [e0]; exact hok.2)
      have hc' := hc.put rok
      have hz : (look kv (r.1, r.2.1)).getD 0 = 0 := by rw [hc.eq]; exact h0
      rw [hz, Int.zero_add] at hc'
      have htk : (fun f s => cnt (rows.take i) f s + (if r.1 = f ∧ r.2.1 = s then r.2.2 else 0)) = cnt (rows.take (i + 1)) := by
        funext f s
        rw [take_next hr1, cnt_append]
        simp only [cnt]
        omega
      rw [htk] at hc'
      refine ⟨put kv (r.1, r.2.1) r.2.2, _, _, _, rfl, same_mut (s2.trans (same_new nt)) nd, (k2.trans (Keep.new nt)).trans (Keep.dT hd3), ?_, hc'⟩
      rw [upd_same]
      exact congrArg (fun z => some (HO.dT z)) (enc_put V.int _ _ kv)
    · rintro σ H2 ⟨kv, v1, v2, v3, rfl, s2, k2, hd, hc⟩
      rw [hzs.length, take_all] at hc
      exact ⟨_, rfl, k d kv H2 nd s2 hd hc⟩
end
end Pk
end
section
set_option linter.unusedSectionVars false
namespace FL
section
variable {F S : Type} [DecidableEq F] [DecidableEq S]
/-- a flow: gifts g, what is left, what each lacks -/
structure FlowOK (SH : List S) (c : F → S → Int) (ws : List (Want F S)) (g : Nat → F → S → Int) (left : F → S → Int) (lack : Nat → Int) : Prop where
  gnn : ∀ k f s, 0 ≤ g k f s
  lnn : ∀ f s, 0 ≤ left f s
  knn : ∀ k, 0 ≤ lack k
  cons : ∀ f s, su (fun k => g k f s) (List.range ws.length) + left f s = c f s
  full : ∀ k w, ws[k]? = some w → su (fun s => g k w.1 s) SH + lack k = w.2.2
  sup : ∀ k f s, 0 < g k f s → ∃ w, ws[k]? = some w ∧ f = w.1 ∧ lets w s ∧ s ∈ SH
/-- a set of wants from which nothing that is left is come to -/
def Closed (SH : List S) (ws : List (Want F S)) (g : Nat → F → S → Int) (left : F → S → Int) (R : Nat → Prop) : Prop :=
  ∀ i w s, R i → ws[i]? = some w → lets w s → s ∈ SH → left w.1 s = 0 ∧ ∀ j, 0 < g j w.1 s → R j
abbrev El (F S : Type) := Nat × (F × S) × Option (F × S)
/-- a way from a part back to k -/
def WayFrom (k : Nat) : F × S → List (El F S) → Prop
  | _, [] => False
  | p, (i, got, gu) :: r => got = p ∧ match gu with
    | none => r = [] ∧ i = k
    | some q => WayFrom k q r
structure WayOK (SH : List S) (ws : List (Want F S)) (g : Nat → F → S → Int) (k : Nat) (p : F × S) (way : List (El F S)) : Prop where
  from_ : WayFrom k p way
  ok : ∀ e ∈ way, ∃ w, ws[e.1]? = some w ∧ e.2.1.1 = w.1 ∧ lets w e.2.1.2 ∧ e.2.1.2 ∈ SH
  gives : ∀ e ∈ way, ∀ q, e.2.2 = some q → 0 < g e.1 q.1 q.2
  nd : (way.map (·.1)).Nodup
def net1 (e : El F S) (p : F × S) : Int := (if e.2.1 = p then 1 else 0) - (if e.2.2 = some p then 1 else 0)
def net (way : List (El F S)) (j : Nat) (p : F × S) : Int := su (fun e => if e.1 = j then net1 e p else 0) way
def pushOne (m : Int) (g : Nat → F → S → Int) (e : El F S) : Nat → F → S → Int := fun j f s => g j f s + (if e.1 = j then m * net1 e (f, s) else 0)
def push (m : Int) (g : Nat → F → S → Int) (way : List (El F S)) : Nat → F → S → Int := way.foldl (pushOne m) g
theorem push_eq (m : Int) (way : List (El F S)) : ∀ (g : Nat → F → S → Int) (j : Nat) (f : F) (s : S), push m g way j f s = g j f s + m * net way j (f, s) := by
  induction way with
  | nil => intro g j f s; simp [push, net]
  | cons e r ih =>
    intro g j f s
    have : push m g (e :: r) = push m (pushOne m g e) r := rfl
    rw [this, ih]
    show g j f s + (if e.1 = j then m * net1 e (f, s) else 0) + m * net r j (f, s) = g j f s + m * ((if e.1 = j then net1 e (f, s) else 0) + net r j (f, s))
    rw [Int.mul_add]
    split
    · omega
    · rw [Int.mul_zero]; omega
theorem net_not {way : List (El F S)} {j : Nat} (h : j ∉ way.map (·.1)) (p : F × S) : net way j p = 0 :=
  su_zero fun e he => by
    have : e.1 ≠ j := fun z => h (z ▸ List.mem_map_of_mem he)
    simp [this]
theorem net1_le (e : El F S) (p : F × S) : -1 ≤ net1 e p ∧ net1 e p ≤ 1 := by
  unfold net1
  split <;> split <;> omega
/-- with ones unlike: what is at j is one element's -/
theorem net_at {way : List (El F S)} (nd : (way.map (·.1)).Nodup) {e : El F S} (he : e ∈ way) (p : F × S) : net way e.1 p = net1 e p := by
  induction way with
  | nil => simp at he
  | cons a r ih =>
    rw [List.map_cons, List.nodup_cons] at nd
    show (if a.1 = e.1 then net1 a p else 0) + net r e.1 p = net1 e p
    rcases List.mem_cons.mp he with z | z
    · subst z
      rw [net_not nd.1]
      simp
    · have : a.1 ≠ e.1 := fun q => nd.1 (q ▸ List.mem_map_of_mem z)
      rw [ih nd.2 z]
      simp [this]
theorem net_cases {way : List (El F S)} (nd : (way.map (·.1)).Nodup) (j : Nat) : (∀ p, net way j p = 0) ∨ ∃ e ∈ way, e.1 = j ∧ ∀ p, net way j p = net1 e p := by
  by_cases h : j ∈ way.map (·.1)
  · obtain ⟨e, he, rfl⟩ := List.mem_map.mp h
    exact .inr ⟨e, he, rfl, net_at nd he⟩
  · exact .inl (net_not h)
theorem way_sum {n k : Nat} {q : F × S} : ∀ {p : F × S} {way : List (El F S)}, WayFrom k p way → (∀ e ∈ way, e.1 < n) →
    su (fun j => net way j q) (List.range n) = if p = q then 1 else 0
  | p, [], h, _ => h.elim
  | p, (i, got, gu) :: r, h, hn => by
    obtain ⟨rfl, h⟩ := h
    have e1 : su (fun j => net ((i, got, gu) :: r) j q) (List.range n) = su (fun j => if j = i then net1 (i, got, gu) q else 0) (List.range n) + su (fun j => net r j q) (List.range n) := by
      rw [← su_add]
      refine su_congr fun j _ => ?_
      show (if i = j then net1 (i, got, gu) q else 0) + net r j q = (if j = i then net1 (i, got, gu) q else 0) + net r j q
      by_cases z : i = j
      · simp [z]
      · simp [z, Ne.symm z]
    rw [e1, su_ite List.nodup_range (List.mem_range.mpr (hn (i, got, gu) (by simp)))]
    cases gu with
    | none =>
      obtain ⟨rfl, _⟩ := h
      have : su (fun j => net ([] : List (El F S)) j q) (List.range n) = 0 := su_zero fun _ _ => rfl
      rw [this]
      simp [net1]
    | some u =>
      rw [way_sum h (fun e he => hn e (by simp [he]))]
      simp only [net1, Option.some.injEq]
      omega
theorem way_k {k : Nat} : ∀ {p : F × S} {way : List (El F S)}, WayFrom k p way → ∀ e ∈ way, e.2.2 = none → e.1 = k
  | p, [], h, _, _, _ => h.elim
  | p, (i, got, none) :: r, h, e, he, hn => by
    obtain ⟨_, rfl, rfl⟩ := h
    simp at he
    subst he; rfl
  | p, (i, got, some u) :: r, h, e, he, hn => by
    obtain ⟨_, h⟩ := h
    rcases List.mem_cons.mp he with rfl | he
    · simp at hn
    · exact way_k h e he hn
theorem way_has {k : Nat} : ∀ {p : F × S} {way : List (El F S)}, WayFrom k p way → ∃ e ∈ way, e.1 = k ∧ e.2.2 = none
  | p, [], h => h.elim
  | p, (i, got, none) :: r, h => by
    obtain ⟨_, rfl, rfl⟩ := h
    exact ⟨_, List.mem_cons_self, rfl, rfl⟩
  | p, (i, got, some u) :: r, h => by
    obtain ⟨_, h⟩ := h
    obtain ⟨e, he, h1⟩ := way_has h
    exact ⟨e, by simp [he], h1⟩
variable {SH : List S} {c : F → S → Int} {ws : List (Want F S)} {g : Nat → F → S → Int} {left : F → S → Int} {lack : Nat → Int}
/-- along a way more is led to k -/
theorem push_ok (nd : SH.Nodup) (fl : FlowOK SH c ws g left lack) {k : Nat} {p : F × S} {way : List (El F S)} (w : WayOK SH ws g k p way) {m : Int} (h0 : 0 < m) (hk : m ≤ lack k) (hp : m ≤ left p.1 p.2)
    (hg : ∀ e ∈ way, ∀ q, e.2.2 = some q → m ≤ g e.1 q.1 q.2) :
    FlowOK SH c ws (push m g way) (fun f s => left f s - (if p = (f, s) then m else 0)) (fun j => lack j - (if j = k then m else 0)) where
  gnn := fun j f s => by
    rw [push_eq]
    have h := fl.gnn j f s
    rcases net_cases w.nd j with z | ⟨e, he, rfl, z⟩
    · rw [z]; simpa using h
    · rw [z]
      by_cases q : e.2.2 = some (f, s)
      · have := hg e he (f, s) q
        have hm : m * net1 e (f, s) = m * (if e.2.1 = (f, s) then 1 else 0) - m := by
          unfold net1
          rw [if_pos q, Int.mul_sub, Int.mul_one]
        rw [hm]
        split
        · simp only at this; omega
        · simp only at this; omega
      · have hm : m * net1 e (f, s) = m * (if e.2.1 = (f, s) then 1 else 0) := by
          unfold net1
          rw [if_neg q, Int.sub_zero]
        rw [hm]
        split <;> omega
  lnn := fun f s => by
    have h := fl.lnn f s
    show 0 ≤ left f s - (if p = (f, s) then m else 0)
    split
    · rename_i e
      subst e
      simp only at hp
      omega
    · omega
  knn := fun j => by
    have h := fl.knn j
    show 0 ≤ lack j - (if j = k then m else 0)
    split
    · rename_i e
      subst e
      omega
    · omega
  cons := fun f s => by
    have hn : ∀ e ∈ way, e.1 < ws.length := fun e he => by
      obtain ⟨x, hx, _⟩ := w.ok e he
      exact (List.getElem?_eq_some_iff.mp hx).1
    have e1 : su (fun j => push m g way j f s) (List.range ws.length) = su (fun j => g j f s) (List.range ws.length) + m * su (fun j => net way j (f, s)) (List.range ws.length) := by
      rw [← su_mul, ← su_add]
      exact su_congr fun j _ => push_eq m way g j f s
    rw [e1, way_sum w.from_ hn]
    have := fl.cons f s
    show su (fun j => g j f s) (List.range ws.length) + m * (if p = (f, s) then 1 else 0) + (left f s - if p = (f, s) then m else 0) = c f s
    split <;> omega
  full := fun j x hx => by
    have e1 : su (fun s => push m g way j x.1 s) SH = su (fun s => g j x.1 s) SH + m * su (fun s => net way j (x.1, s)) SH := by
      rw [← su_mul, ← su_add]
      exact su_congr fun s _ => push_eq m way g j x.1 s
    have e2 : su (fun s => net way j (x.1, s)) SH = if j = k then 1 else 0 := by
      rcases net_cases w.nd j with z | ⟨e, he, rfl, z⟩
      · have : j ≠ k := fun q => by
          obtain ⟨e, he, e1, e2⟩ := way_has w.from_
          have a := z e.2.1
          rw [q, ← e1, net_at w.nd he, net1, e2] at a
          simp at a
        rw [if_neg this]
        exact su_zero fun s _ => z _
      · have ea : su (fun s => net way e.1 (x.1, s)) SH = su (fun s => if s = e.2.1.2 then (1 : Int) else 0) SH - su (fun s => if e.2.2 = some (x.1, s) then 1 else 0) SH := by
          rw [← su_sub]
          refine su_congr fun s _ => ?_
          rw [z]
          obtain ⟨y, hy, h1, h2, h3⟩ := w.ok e he
          rw [hx] at hy
          have hxy : x = y := Option.some.inj hy
          subst hxy
          unfold net1
          have : (e.2.1 = (x.1, s)) = (s = e.2.1.2) := by
            rw [← h1]
            apply propext
            constructor
            · intro q; rw [q]
            · intro q; rw [q]
          simp only [this]
        rw [ea]
        obtain ⟨y, hy, h1, h2, h3⟩ := w.ok e he
        rw [su_ite nd h3]
        cases hq : e.2.2 with
        | none =>
          rw [if_pos (way_k w.from_ e he hq)]
          have : su (fun s => if (none : Option (F × S)) = some (x.1, s) then (1 : Int) else 0) SH = 0 := su_zero fun _ _ => by simp
          rw [this]; rfl
        | some u =>
          have hpos := w.gives e he u hq
          obtain ⟨y', hy', h1', _, h3'⟩ := fl.sup _ _ _ hpos
          rw [hx] at hy'
          have hxy : x = y' := Option.some.inj hy'
          subst hxy
          have eb : su (fun s => if some u = some (x.1, s) then (1 : Int) else 0) SH = su (fun s => if s = u.2 then (1 : Int) else 0) SH := by
            refine su_congr fun s _ => ?_
            have : (some u = some (x.1, s)) = (s = u.2) := by
              apply propext
              constructor
              · intro q; rw [Option.some.inj q]
              · intro q; rw [q, ← h1']
            simp only [this]
          rw [eb, su_ite nd h3']
          have hne : ¬ e.1 = k := fun z2 => by
            obtain ⟨e', he', k1, k2⟩ := way_has w.from_
            -- both at k: the same element
            have a1 := net_at w.nd he e.2.1
            have : e = e' := by
              have := w.nd
              clear a1 ea eb
              revert he he'
              generalize way = wy at this
              intro he he'
              induction wy with
              | nil => simp at he
              | cons a r ih =>
                rw [List.map_cons, List.nodup_cons] at this
                rcases List.mem_cons.mp he with u1 | u1
                · rcases List.mem_cons.mp he' with u2 | u2
                  · rw [u1, u2]
                  · exact absurd (show a.1 ∈ r.map (·.1) by rw [← u1, z2, ← k1]; exact List.mem_map_of_mem u2) this.1
                · rcases List.mem_cons.mp he' with u2 | u2
                  · exact absurd (show a.1 ∈ r.map (·.1) by rw [← u2, k1, ← z2]; exact List.mem_map_of_mem u1) this.1
                  · exact ih this.2 u1 u2
            rw [this, k2] at hq
            simp at hq
          rw [if_neg hne]; rfl
    rw [e1, e2]
    have := fl.full j x hx
    show su (fun s => g j x.1 s) SH + m * (if j = k then 1 else 0) + (lack j - if j = k then m else 0) = x.2.2
    split <;> omega
  sup := fun j f s h => by
    rw [push_eq] at h
    by_cases hz : 0 < g j f s
    · exact fl.sup j f s hz
    · have hn := fl.gnn j f s
      have h' : 0 < m * net way j (f, s) := by omega
      rcases net_cases w.nd j with z | ⟨e, he, rfl, z⟩
      · rw [z] at h'; simp at h'
      · rw [z] at h'
        have : e.2.1 = (f, s) := by
          refine Classical.byContradiction fun q => ?_
          have : net1 e (f, s) ≤ 0 := by
            unfold net1
            rw [if_neg q]
            split <;> omega
          have := Int.mul_nonpos_of_nonneg_of_nonpos (Int.le_of_lt h0) this
          omega
        obtain ⟨y, hy, h1, h2, h3⟩ := w.ok e he
        rw [this] at h1 h2 h3
        exact ⟨y, hy, h1, h2, h3⟩
/-- a closed set stays closed -/
theorem closed_push {R : Nat → Prop} (cl : Closed SH ws g left R) {k : Nat} {p : F × S} {way : List (El F S)} (w : WayOK SH ws g k p way) {m : Int} (hp : 0 < left p.1 p.2) :
    Closed SH ws (push m g way) (fun f s => left f s - (if p = (f, s) then m else 0)) R := by
  -- no part of the way is let by a want of R
  have key : ∀ (p : F × S) (way : List (El F S)), WayFrom k p way → (∀ e ∈ way, ∃ w, ws[e.1]? = some w ∧ e.2.1.1 = w.1 ∧ lets w e.2.1.2 ∧ e.2.1.2 ∈ SH) → (∀ e ∈ way, ∀ q, e.2.2 = some q → 0 < g e.1 q.1 q.2) →
      (∀ i w, R i → ws[i]? = some w → ¬ (p.1 = w.1 ∧ lets w p.2 ∧ p.2 ∈ SH)) → ∀ e ∈ way, (∀ i w, R i → ws[i]? = some w → ¬ (e.2.1.1 = w.1 ∧ lets w e.2.1.2 ∧ e.2.1.2 ∈ SH)) ∧ (∀ q, e.2.2 = some q → ∀ i w, R i → ws[i]? = some w → ¬ (q.1 = w.1 ∧ lets w q.2 ∧ q.2 ∈ SH)) := by
    intro p way
    induction way generalizing p with
    | nil => intro h; exact h.elim
    | cons a r ih =>
      intro h hok hgv hno e he
      obtain ⟨i, got, gu⟩ := a
      obtain ⟨rfl, h⟩ := h
      have hgu : ∀ q, gu = some q → ∀ i w, R i → ws[i]? = some w → ¬ (q.1 = w.1 ∧ lets w q.2 ∧ q.2 ∈ SH) := fun q hq i' w' hR hw ⟨z1, z2, z3⟩ => by
        have hpos := hgv (i, got, gu) List.mem_cons_self q hq
        simp only at hpos
        rw [z1] at hpos
        have hRi := (cl i' w' q.2 hR hw z2 z3).2 i hpos
        obtain ⟨y, hy, y1, y2, y3⟩ := hok (i, got, gu) List.mem_cons_self
        exact hno i y hRi hy ⟨y1, y2, y3⟩
      rcases List.mem_cons.mp he with rfl | he2
      · exact ⟨hno, hgu⟩
      · cases gu with
        | none =>
          obtain ⟨rfl, _⟩ := h
          simp at he2
        | some q =>
          exact ih q h (fun e he => hok e (by simp [he])) (fun e he => hgv e (by simp [he])) (hgu q rfl) e he2
  have hp0 : ∀ i w, R i → ws[i]? = some w → ¬ (p.1 = w.1 ∧ lets w p.2 ∧ p.2 ∈ SH) := fun i w hR hw ⟨z1, z2, z3⟩ => by
    have := (cl i w p.2 hR hw z2 z3).1
    rw [← z1] at this
    omega
  have all := key p way w.from_ w.ok w.gives hp0
  intro i x s hR hx hl hs
  obtain ⟨c1, c2⟩ := cl i x s hR hx hl hs
  have hne : ¬ p = (x.1, s) := fun z => hp0 i x hR hx (by rw [z]; exact ⟨rfl, hl, hs⟩)
  refine ⟨?_, fun j hj => ?_⟩
  · show left x.1 s - (if p = (x.1, s) then m else 0) = 0
    rw [if_neg hne]; omega
  · rw [push_eq] at hj
    have : net way j (x.1, s) = 0 := by
      refine su_zero fun e he => ?_
      obtain ⟨a1, a2⟩ := all e he
      have h1 : ¬ e.2.1 = (x.1, s) := fun z => a1 i x hR hx (by rw [z]; exact ⟨rfl, hl, hs⟩)
      have h2 : ¬ e.2.2 = some (x.1, s) := fun z => a2 _ z i x hR hx ⟨rfl, hl, hs⟩
      unfold net1
      rw [if_neg h1, if_neg h2]
      simp
    rw [this, Int.mul_zero, Int.add_zero] at hj
    exact c2 j hj
/-- where k stands in a closed set there is no way from a part that is left -/
theorem closed_no_way {R : Nat → Prop} (cl : Closed SH ws g left R) {k : Nat} (hk : R k) {p : F × S} {way : List (El F S)} (w : WayOK SH ws g k p way) : left p.1 p.2 ≤ 0 := by
  refine Classical.byContradiction fun hp => ?_
  have hp0 : ∀ i w, R i → ws[i]? = some w → ¬ (p.1 = w.1 ∧ lets w p.2 ∧ p.2 ∈ SH) := fun i w hR hw ⟨z1, z2, z3⟩ => by
    have := (cl i w p.2 hR hw z2 z3).1
    rw [← z1] at this
    omega
  have key : ∀ (p : F × S) (way : List (El F S)), WayFrom k p way → (∀ e ∈ way, ∃ w, ws[e.1]? = some w ∧ e.2.1.1 = w.1 ∧ lets w e.2.1.2 ∧ e.2.1.2 ∈ SH) → (∀ e ∈ way, ∀ q, e.2.2 = some q → 0 < g e.1 q.1 q.2) →
      (∀ i w, R i → ws[i]? = some w → ¬ (p.1 = w.1 ∧ lets w p.2 ∧ p.2 ∈ SH)) → False := by
    intro p way
    induction way generalizing p with
    | nil => intro h; exact h.elim
    | cons a r ih =>
      intro h hok hgv hno
      obtain ⟨i, got, gu⟩ := a
      obtain ⟨rfl, h⟩ := h
      cases gu with
      | none =>
        obtain ⟨rfl, rfl⟩ := h
        obtain ⟨y, hy, y1, y2, y3⟩ := hok (i, got, none) List.mem_cons_self
        exact hno i y hk hy ⟨y1, y2, y3⟩
      | some q =>
        refine ih q h (fun e he => hok e (by simp [he])) (fun e he => hgv e (by simp [he])) (fun i' w' hR hw ⟨z1, z2, z3⟩ => ?_)
        have hpos := hgv (i, got, some q) List.mem_cons_self q rfl
        simp only at hpos
        rw [z1] at hpos
        have hRi := (cl i' w' q.2 hR hw z2 z3).2 i hpos
        obtain ⟨y, hy, y1, y2, y3⟩ := hok (i, got, some q) List.mem_cons_self
        exact hno i y hRi hy ⟨y1, y2, y3⟩
  exact key p way w.from_ w.ok w.gives hp0
theorem closed_union {ι : Type} {P : ι → Prop} {R : ι → Nat → Prop} (h : ∀ a, P a → Closed SH ws g left (R a)) : Closed SH ws g left (fun i => ∃ a, P a ∧ R a i) := fun i w s ⟨a, pa, ra⟩ hw hl hs =>
  ⟨(h a pa i w s ra hw hl hs).1, fun j hj => ⟨a, pa, (h a pa i w s ra hw hl hs).2 j hj⟩⟩

/-! ### the bars -/
theorem bar_all (fl : FlowOK SH c ws g left lack) {R : Nat → Prop} (cl : Closed SH ws g left R) {f : F} {i : Nat} {w : Want F S} (hi : R i) (hw : ws[i]? = some w) (hf : w.1 = f) (hs : w.2.1 = [])
    {k : Nat} {x : Want F S} (hx : ws[k]? = some x) (hxf : x.1 = f) (hk : 0 < lack k) : IsBar SH c ws f none := by
  show su (c f) SH < su (fun w : Want F S => if w.1 = f then w.2.2 else 0) ws
  have e0 : su (c f) SH = su (fun s => su (fun k => g k f s) (List.range ws.length)) SH := su_congr fun s hsS => by
    have h1 := fl.cons f s
    have h2 := (cl i w s hi hw (.inl hs) hsS).1
    rw [hf] at h2
    omega
  rw [e0, su_comm, su_range (fun w : Want F S => if w.1 = f then w.2.2 else 0) ws]
  have hkl : k ∈ List.range ws.length := List.mem_range.mpr (List.getElem?_eq_some_iff.mp hx).1
  have e1 : su (fun j => (ws[j]?).elim 0 (fun w : Want F S => if w.1 = f then w.2.2 else 0)) (List.range ws.length) =
      su (fun j => su (fun s => g j f s) SH) (List.range ws.length) + su (fun j => (ws[j]?).elim 0 (fun w : Want F S => if w.1 = f then lack j else 0)) (List.range ws.length) := by
    rw [← su_add]
    refine su_congr fun j hj => ?_
    have hj' : j < ws.length := List.mem_range.mp hj
    rw [List.getElem?_eq_getElem hj']
    show (if ws[j].1 = f then ws[j].2.2 else 0) = su (fun s => g j f s) SH + (if ws[j].1 = f then lack j else 0)
    by_cases q : ws[j].1 = f
    · rw [if_pos q, if_pos q]
      have := fl.full j ws[j] (List.getElem?_eq_getElem hj')
      rw [q] at this
      omega
    · rw [if_neg q, if_neg q]
      have : su (fun s => g j f s) SH = 0 := su_zero fun s _ => by
        have h1 := fl.gnn j f s
        refine Classical.byContradiction fun z => ?_
        obtain ⟨y, hy, y1, _⟩ := fl.sup j f s (by omega)
        rw [List.getElem?_eq_getElem hj'] at hy
        cases hy
        exact q y1.symm
      omega
  rw [e1]
  have : lack k ≤ su (fun j => (ws[j]?).elim 0 (fun w : Want F S => if w.1 = f then lack j else 0)) (List.range ws.length) := by
    have := su_mem_le (f := fun j => (ws[j]?).elim 0 (fun w : Want F S => if w.1 = f then lack j else 0)) (l := List.range ws.length) (fun j _ => by
      show 0 ≤ (ws[j]?).elim 0 (fun w : Want F S => if w.1 = f then lack j else 0)
      have h1 := fl.knn j
      cases ws[j]? with
      | none => simp
      | some y =>
        show 0 ≤ (if y.1 = f then lack j else 0)
        split <;> omega) hkl
    simp only [hx, Option.elim, hxf, if_true] at this
    exact this
  omega
theorem bar_some (nd : SH.Nodup) (fl : FlowOK SH c ws g left lack) {R : Nat → Prop} (cl : Closed SH ws g left R) {f : F} {T : List S} (ndT : T.Nodup) (hT : ∀ s ∈ T, s ∈ SH ∧ ∃ i w, R i ∧ ws[i]? = some w ∧ w.1 = f ∧ s ∈ w.2.1)
    (hR : ∀ i w, R i → ws[i]? = some w → w.1 = f → w.2.1 ≠ [] ∧ ∀ s ∈ w.2.1, s ∈ T) {k : Nat} {x : Want F S} (hx : ws[k]? = some x) (hxf : x.1 = f) (hkR : R k) (hk : 0 < lack k) (hm : ∀ w ∈ ws, 0 ≤ w.2.2) : IsBar SH c ws f (some T) := by
  show su (c f) T < su (fun w : Want F S => if w.1 = f ∧ w.2.1 ≠ [] ∧ ∀ s ∈ w.2.1, s ∈ T then w.2.2 else 0) ws
  have e0 : su (c f) T = su (fun s => su (fun k => g k f s) (List.range ws.length)) T := su_congr fun s hsT => by
    obtain ⟨hsS, i, w, hi, hw, hf, hsw⟩ := hT s hsT
    have h1 := fl.cons f s
    have h2 := (cl i w s hi hw (.inr hsw) hsS).1
    rw [hf] at h2
    omega
  rw [e0, su_comm, su_range (fun w : Want F S => if w.1 = f ∧ w.2.1 ≠ [] ∧ ∀ s ∈ w.2.1, s ∈ T then w.2.2 else 0) ws]
  have hkl : k ∈ List.range ws.length := List.mem_range.mpr (List.getElem?_eq_some_iff.mp hx).1
  have step : ∀ j, j ∈ List.range ws.length → su (fun s => g j f s) T + (if j = k then lack k else 0) ≤ (ws[j]?).elim 0 (fun w : Want F S => if w.1 = f ∧ w.2.1 ≠ [] ∧ ∀ s ∈ w.2.1, s ∈ T then w.2.2 else 0) := fun j hj => by
    have hj' : j < ws.length := List.mem_range.mp hj
    obtain ⟨y, hy⟩ : ∃ y, ws[j]? = some y := ⟨_, List.getElem?_eq_getElem hj'⟩
    have hyw : y ∈ ws := List.mem_of_getElem? hy
    rw [hy]
    show su (fun s => g j f s) T + (if j = k then lack k else 0) ≤ (if y.1 = f ∧ y.2.1 ≠ [] ∧ ∀ s ∈ y.2.1, s ∈ T then y.2.2 else 0)
    by_cases q : R j ∧ y.1 = f
    · have h2 := hR j y q.1 hy q.2
      have e : (if y.1 = f ∧ y.2.1 ≠ [] ∧ ∀ s ∈ y.2.1, s ∈ T then y.2.2 else 0) = y.2.2 := if_pos ⟨q.2, h2⟩
      rw [e]
      have h3 := fl.full j y hy
      rw [q.2] at h3
      have h4 : su (fun s => g j f s) T ≤ su (fun s => g j f s) SH := su_sub_le ndT (fun s hs => (hT s hs).1) fun s _ => fl.gnn j f s
      have h5 := fl.knn j
      by_cases z : j = k
      · rw [if_pos z]
        rw [← z]; omega
      · rw [if_neg z]; omega
    · have hz : su (fun s => g j f s) T = 0 := su_zero fun s hsT => by
        have h1 := fl.gnn j f s
        refine Classical.byContradiction fun z => ?_
        have hpos : 0 < g j f s := by omega
        obtain ⟨y', hy', y1, _⟩ := fl.sup j f s hpos
        rw [hy] at hy'
        cases hy'
        obtain ⟨hsS, i, w, hi, hw, hf, hsw⟩ := hT s hsT
        have := (cl i w s hi hw (.inr hsw) hsS).2 j (by rw [hf]; exact hpos)
        exact q ⟨this, y1.symm⟩
      have hne : j ≠ k := fun z => by
        subst z
        rw [hy] at hx
        cases hx
        exact q ⟨hkR, hxf⟩
      rw [hz, if_neg hne]
      have := hm y hyw
      split <;> omega
  have e1 := su_le (f := fun j => su (fun s => g j f s) T + (if j = k then lack k else 0)) step
  rw [su_add, su_ite List.nodup_range hkl] at e1
  omega
end
end FL
end
section
set_option Elab.async false
set_option linter.all false
set_option maxRecDepth 100000
set_option maxHeartbeats 4000000
/-! What spread keeps; the way back. -/
namespace Pk
open PySem PySem.Spec PyProof.Rows L2 FL
def gOf (kvs : List (List (Part × Int))) (j : Nat) (f s : Str) : Int := ((kvs[j]?).elim 0 fun kv => (look kv (f, s)).getD 0)
def lOf (lv : List (Part × Int)) (f s : Str) : Int := (look lv (f, s)).getD 0
abbrev HV : Type := List (Nat × Option Part)
structure SpS (ws : List (Want Str Str)) (g : Nat → Str → Str → Int) (k : Nat) (pv : List (Part × Int)) (hv : List (Nat × Option Part)) : Prop where
  a : ∀ p i, look pv p = some i → ∃ (r j : Nat) (o : Option Part) (w : Want Str Str), i = (j : Int) ∧ hv[r]? = some (j, o) ∧ ws[j]? = some w ∧ p.1 = w.1 ∧ FL.lets w p.2 ∧ p.2 ∈ SH
  b : ∀ (r j : Nat) (o : Option Part), hv[r]? = some (j, o) → j < ws.length ∧ ((o = none ∧ j = k) ∨ ∃ (q : Part) (r' i : Nat) (o' : Option Part), o = some q ∧ r' < r ∧ hv[r']? = some (i, o') ∧ look pv q = some (i : Int) ∧ 0 < g j q.1 q.2)
  nd : (hv.map (·.1)).Nodup
  ndp : (pv.map (·.1)).Nodup
  ks : ∀ p ∈ pv.map (·.1), p.1 ∈ FM ∧ p.2 ∈ SH
  k0 : k ∈ hv.map (·.1)
  fm : ∀ e ∈ hv, ∃ w x, ws[e.1]? = some w ∧ ws[k]? = some x ∧ w.1 = x.1
section
variable {ws : List (Want Str Str)} {g : Nat → Str → Str → Int} {k : Nat} {pv : List (Part × Int)} {hv : List (Nat × Option Part)}
theorem SpS.start (hk : k < ws.length) : SpS ws g k [] [(k, none)] where
  a := fun p i h => by cases h
  b := fun r j o h => by
    cases r with
    | zero => cases Option.some.inj h; exact ⟨hk, .inl ⟨rfl, rfl⟩⟩
    | succ r => simp at h
  nd := by simp
  ndp := by simp
  ks := fun p h => by simp at h
  k0 := by simp
  fm := fun e he => by
    have : e = (k, none) := by simpa using he
    subst this
    exact ⟨_, _, List.getElem?_eq_getElem hk, List.getElem?_eq_getElem hk, rfl⟩
theorem SpS.lenP (h : SpS ws g k pv hv) : pv.length ≤ 20 := by
  have := nd_le h.ndp (m := UN) fun a ha => UN_mem (h.ks a ha).1 (h.ks a ha).2
  rw [List.length_map, UN_len] at this
  exact this
theorem SpS.lt (h : SpS ws g k pv hv) {j : Nat} (hj : j ∈ hv.map (·.1)) : j < ws.length := by
  obtain ⟨e, he, rfl⟩ := List.mem_map.mp hj
  obtain ⟨r, hr, e2⟩ := List.mem_iff_getElem.mp he
  exact (h.b r e.1 e.2 (by rw [List.getElem?_eq_getElem hr, e2])).1
theorem SpS.lenH (h : SpS ws g k pv hv) : hv.length ≤ ws.length := by
  have := nd_le h.nd (m := List.range ws.length) fun a ha => List.mem_range.mpr (h.lt ha)
  rw [List.length_map, List.length_range] at this
  exact this
theorem SpS.part (h : SpS ws g k pv hv) {p : Part} {r j : Nat} {o : Option Part} {w : Want Str Str} (hp : look pv p = none) (hr : hv[r]? = some (j, o)) (hw : ws[j]? = some w) (h1 : p.1 = w.1) (h2 : FL.lets w p.2) (h3 : p.2 ∈ SH) (h4 : p.1 ∈ FM) :
    SpS ws g k (put pv p (j : Int)) hv where
  a := fun q i hq => by
    rw [look_put] at hq
    split at hq
    · rename_i z
      subst z
      cases Option.some.inj hq
      exact ⟨r, j, o, w, rfl, hr, hw, h1, h2, h3⟩
    · exact h.a q i hq
  b := fun r' j' o' hr' => by
    refine ⟨(h.b r' j' o' hr').1, (h.b r' j' o' hr').2.imp id ?_⟩
    rintro ⟨q, r2, i, o2, e, l, hi, hl, hg⟩
    refine ⟨q, r2, i, o2, e, l, hi, ?_, hg⟩
    rw [look_put, if_neg fun z => by rw [z, hp] at hl; cases hl]
    exact hl
  nd := h.nd
  ndp := put_nodup h.ndp
  ks := fun q hq => by
    rw [put_keys] at hq
    split at hq
    · exact h.ks q hq
    · rcases List.mem_append.mp hq with z | z
      · exact h.ks q z
      · have : q = p := by simpa using z
        subst this
        exact ⟨h4, h3⟩
  k0 := h.k0
  fm := h.fm
theorem SpS.holder (h : SpS ws g k pv hv) {p : Part} {j : Nat} {w : Want Str Str} {i : Int} (hp : look pv p = some i) (hj : j ∉ hv.map (·.1)) (hw : ws[j]? = some w) (h1 : p.1 = w.1) (hg : 0 < g j p.1 p.2) :
    SpS ws g k pv (hv ++ [(j, some p)]) := by
  obtain ⟨r0, j0, o0, w0, rfl, hr0, hw0, e0, _⟩ := h.a p i hp
  have old : ∀ r x, hv[r]? = some x → (hv ++ [(j, some p)])[r]? = some x := fun r x hx => by
    have := (List.getElem?_eq_some_iff.mp hx).1
    rw [List.getElem?_append_left this]
    exact hx
  have hl0 : r0 < hv.length := (List.getElem?_eq_some_iff.mp hr0).1
  refine ⟨fun q i hq => ?_, fun r j' o hr => ?_, ?_, h.ndp, h.ks, ?_, fun e he => ?_⟩
  · obtain ⟨r, j, o, w, e, hr, rest⟩ := h.a q i hq
    exact ⟨r, j, o, w, e, old r _ hr, rest⟩
  · by_cases hl : r < hv.length
    · rw [List.getElem?_append_left hl] at hr
      refine ⟨(h.b r j' o hr).1, (h.b r j' o hr).2.imp id ?_⟩
      rintro ⟨q, r2, i, o2, e, l, hi, rest⟩
      exact ⟨q, r2, i, o2, e, l, old _ _ hi, rest⟩
    · have hlen := (List.getElem?_eq_some_iff.mp hr).1
      rw [List.length_append, List.length_singleton] at hlen
      have : r = hv.length := by omega
      subst this
      rw [List.getElem?_append_right (Nat.le_refl _), Nat.sub_self] at hr
      have e := Option.some.inj hr
      have e1 : j = j' := congrArg Prod.fst e
      have e2 : some p = o := congrArg Prod.snd e
      subst e1 e2
      exact ⟨(List.getElem?_eq_some_iff.mp hw).1, .inr ⟨p, r0, j0, o0, rfl, hl0, old _ _ hr0, hp, hg⟩⟩
  · rw [List.map_append, List.nodup_append]
    refine ⟨h.nd, by simp, fun a ha b hb z => ?_⟩
    have : b = j := by simpa using hb
    exact hj (this ▸ z ▸ ha)
  · rw [List.map_append]
    exact List.mem_append_left _ h.k0
  · rcases List.mem_append.mp he with he | he
    · exact h.fm e he
    · have : e = (j, some p) := by simpa using he
      subst this
      obtain ⟨w1, x, hw1, hx, e1⟩ := h.fm _ (List.mem_of_getElem? hr0)
      have e2 : w1 = w0 := Option.some.inj (hw1.symm.trans hw0)
      exact ⟨w, x, hw, hx, by rw [← h1, e0, ← e2, e1]⟩
/-- the way back, step by step -/
inductive Chain (pv : List (Part × Int)) (hv : List (Nat × Option Part)) : Option Part → List (El Str Str) → Prop
  | nil : Chain pv hv none []
  | cons {p : Part} {i : Nat} {o : Option Part} {r : List (El Str Str)} : look pv p = some (i : Int) → (i, o) ∈ hv → Chain pv hv o r → Chain pv hv (some p) ((i, p, o) :: r)
theorem SpS.chain (h : SpS ws g k pv hv) : ∀ (n r : Nat) (j : Nat) (o : Option Part) (p : Part), r < n → hv[r]? = some (j, o) → look pv p = some (j : Int) →
    ∃ way, Chain pv hv (some p) way ∧ WayFrom k p way ∧ (∀ e ∈ way, ∃ w, ws[e.1]? = some w ∧ e.2.1.1 = w.1 ∧ FL.lets w e.2.1.2 ∧ e.2.1.2 ∈ SH) ∧ (∀ e ∈ way, ∀ q, e.2.2 = some q → 0 < g e.1 q.1 q.2) ∧ (way.map (·.1)).Nodup ∧
      (∀ e ∈ way, ∃ r' o', r' ≤ r ∧ hv[r']? = some (e.1, o')) ∧ way.length ≤ n := by
  intro n
  induction n with
  | zero => intro r j o p hr; omega
  | succ n ih =>
    intro r j o p hr hj hp
    have one : ∃ w, ws[j]? = some w ∧ p.1 = w.1 ∧ FL.lets w p.2 ∧ p.2 ∈ SH := by
      obtain ⟨r2, j2, o2, w2, e, hr2, hw, rest⟩ := h.a p _ hp
      have : j2 = j := by omega
      subst this
      exact ⟨w2, hw, rest⟩
    rcases (h.b r j o hj).2 with ⟨rfl, rfl⟩ | ⟨q, r', i, o', rfl, l, hi, hq, hg⟩
    · refine ⟨[(j, p, none)], .cons hp (List.mem_of_getElem? hj) .nil, ⟨rfl, rfl, rfl⟩, fun e he => ?_, fun e he q hq => ?_, by simp, fun e he => ?_, by simp⟩
      · have : e = (j, p, none) := by simpa using he
        subst this
        exact one
      · have : e = (j, p, none) := by simpa using he
        subst this
        cases hq
      · have : e = (j, p, none) := by simpa using he
        subst this
        exact ⟨r, none, Nat.le_refl _, hj⟩
    · obtain ⟨way, hc, hf, ho, hgv, hn, hr2, hlen⟩ := ih r' i o' q (by omega) hi hq
      refine ⟨(j, p, some q) :: way, .cons hp (List.mem_of_getElem? hj) hc, ⟨rfl, hf⟩, fun e he => ?_, fun e he q2 hq2 => ?_, ?_, fun e he => ?_, by simp; omega⟩
      · rcases List.mem_cons.mp he with rfl | he
        · exact one
        · exact ho e he
      · rcases List.mem_cons.mp he with rfl | he
        · cases hq2
          exact hg
        · exact hgv e he q2 hq2
      · rw [List.map_cons, List.nodup_cons]
        refine ⟨fun z => ?_, hn⟩
        obtain ⟨e, he, e2⟩ := List.mem_map.mp z
        obtain ⟨r3, o3, l3, h3⟩ := hr2 e he
        have z1 : (hv.map (·.1))[r3]? = some j := by rw [List.getElem?_map, h3]; exact congrArg some e2
        have z2 : (hv.map (·.1))[r]? = some j := by rw [List.getElem?_map, hj]; rfl
        have l4 : r3 < (hv.map (·.1)).length := (List.getElem?_eq_some_iff.mp z1).1
        have := (List.getElem?_inj l4 h.nd).mp (z1.trans z2.symm)
        omega
      · rcases List.mem_cons.mp he with rfl | he
        · exact ⟨r, _, Nat.le_refl _, hj⟩
        · obtain ⟨r3, o3, l3, h3⟩ := hr2 e he
          exact ⟨r3, o3, by omega, h3⟩
theorem SpS.way (h : SpS ws g k pv hv) {p : Part} {i : Int} (hp : look pv p = some i) : ∃ way, Chain pv hv (some p) way ∧ WayOK SH ws g k p way ∧ way.length ≤ ws.length := by
  obtain ⟨r, j, o, w, rfl, hr, _⟩ := h.a p i hp
  obtain ⟨way, hc, hf, ho, hgv, hn, _, hlen⟩ := h.chain hv.length r j o p (List.getElem?_eq_some_iff.mp hr).1 hr hp
  exact ⟨way, hc, ⟨hf, ho, hgv, hn⟩, Nat.le_trans hlen h.lenH⟩
/-- all parts that the holders may take are known, or there are none -/
def DoneAt (rows : List Row) (ws : List (Want Str Str)) (pv : List (Part × Int)) (hv : List (Nat × Option Part)) (at_ : Nat) : Prop :=
  ∀ (r j : Nat) (o : Option Part) (w : Want Str Str) (s : Str), r < at_ → hv[r]? = some (j, o) → ws[j]? = some w → s ∈ SH → FL.lets w s → (w.1, s) ∈ pv.map (·.1) ∨ cnt rows w.1 s = 0
def FinP (g : Nat → Str → Str → Int) (left : Str → Str → Int) (hv : List (Nat × Option Part)) (p : Part) : Prop := left p.1 p.2 = 0 ∧ ∀ j, 0 < g j p.1 p.2 → j ∈ hv.map (·.1)
theorem SpS.closed (h : SpS ws g k pv hv) {rows : List Row} {left : Str → Str → Int} {lack : Nat → Int} (fl : FlowOK SH (cnt rows) ws g left lack) (hd : DoneAt rows ws pv hv hv.length) (hf : ∀ p ∈ pv.map (·.1), FinP g left hv p) :
    Closed SH ws g left (fun i => i ∈ hv.map (·.1)) := fun i w s hi hw hl hs => by
  obtain ⟨e, he, rfl⟩ := List.mem_map.mp hi
  obtain ⟨r, hr, e2⟩ := List.mem_iff_getElem.mp he
  have hr2 : hv[r]? = some (e.1, e.2) := by rw [List.getElem?_eq_getElem hr, e2]
  rcases hd r e.1 e.2 w s hr hr2 hw hs hl with z | z
  · exact hf _ z
  · have h1 := fl.cons w.1 s
    rw [z] at h1
    have h2 : 0 ≤ su (fun k => g k w.1 s) (List.range ws.length) := su_nonneg fun a _ => fl.gnn a _ _
    have h3 := fl.lnn w.1 s
    refine ⟨by omega, fun j hj => ?_⟩
    obtain ⟨w2, hw2, _⟩ := fl.sup j _ _ hj
    have hlt := (List.getElem?_eq_some_iff.mp hw2).1
    have h4 : g j w.1 s ≤ su (fun k => g k w.1 s) (List.range ws.length) := su_mem_le (f := fun k => g k w.1 s) (fun a _ => fl.gnn a _ _) (List.mem_range.mpr hlt)
    omega
end
/-! ### the heap's side -/
def OptPart : RX (Option Part) := fun H v o => match o with
  | none => v = .non
  | some p => PartR H v p
theorem OptPart.mo : Mo OptPart := fun H H' v o k h => by
  cases o with
  | none => exact h
  | some p => exact PartR.mo H H' v p k h
def HoR (H : Hp) (kv : Key × V) (e : Nat × Option Part) : Prop := kv.1 = .inl (e.1 : Int) ∧ OptPart H kv.2 e.2
theorem HoR.mo {H H' : Hp} (k : Keep H H') {hk : List (Key × V)} {hv : List (Nat × Option Part)} (h : All2 (HoR H) hk hv) : All2 (HoR H') hk hv := h.imp fun _ _ ⟨a, b⟩ => ⟨a, OptPart.mo _ _ _ _ k b⟩
theorem HoR.none {H : Hp} {hk : List (Key × V)} {hv : List (Nat × Option Part)} (h : All2 (HoR H) hk hv) {j : Nat} (hj : j ∉ hv.map (·.1)) : valV hk (.inl (j : Int)) = none := by
  induction h with
  | nil => rfl
  | cons r _ ih =>
    rw [List.map_cons, List.mem_cons, not_or] at hj
    rw [valV_neg (by rw [r.1]; intro z; exact hj.1 (by have := Sum.inl.inj z; omega)), ih hj.2]
theorem HoR.some {H : Hp} {hk : List (Key × V)} {hv : List (Nat × Option Part)} (h : All2 (HoR H) hk hv) (nd : (hv.map (·.1)).Nodup) {j : Nat} {o : Option Part} (hj : (j, o) ∈ hv) : ∃ v, valV hk (.inl (j : Int)) = some v ∧ OptPart H v o := by
  induction h with
  | nil => simp at hj
  | @cons kv e hk hv r t ih =>
    rw [List.map_cons, List.nodup_cons] at nd
    rcases List.mem_cons.mp hj with z | z
    · subst z
      exact ⟨_, valV_pos (by rw [r.1]), r.2⟩
    · have : ¬ kv.1 = (Sum.inl (j : Int) : Key) := fun q => by
        rw [r.1] at q
        have e1 : e.1 = j := by have := Sum.inl.inj q; omega
        exact nd.1 (by rw [e1]; exact List.mem_map_of_mem (f := (·.1)) z)
      obtain ⟨v, hv2, ho⟩ := ih nd.2 z
      exact ⟨v, (valV_neg this).trans hv2, ho⟩
def GiftsR (H : Hp) (G : Addr) (gs : List Addr) (kvs : List (List (Part × Int))) : Prop := H G = some (.lst (gs.map V.ref)) ∧ All2 (fun a kv => H a = some (.dT (enc V.int kv))) gs kvs
theorem GiftsR.same {H H' : Hp} (s : Same H H') {G : Addr} {gs : List Addr} {kvs : List (List (Part × Int))} (h : GiftsR H G gs kvs) : GiftsR H' G gs kvs := ⟨s _ _ h.1, h.2.imp fun _ _ e => s _ _ e⟩
structure SpHeap (H0 H : Hp) (P D F : Addr) (pv : List (Part × Int)) (hv : List (Nat × Option Part)) : Prop where
  s : Same H0 H
  p : H P = some (.dT (enc V.int pv))
  d : ∃ hk, H D = some (.dK hk) ∧ All2 (HoR H) hk hv
  f : H F = some (.lst (hv.map fun e => V.int (e.1 : Int)))
section
variable {H0 H H' : Hp} {P D F : Addr} {pv : List (Part × Int)} {hv : List (Nat × Option Part)}
theorem SpHeap.same (h : SpHeap H0 H P D F pv hv) (s : Same H H') : SpHeap H0 H' P D F pv hv :=
  ⟨h.s.trans s, s _ _ h.p, let ⟨hk, e, r⟩ := h.d; ⟨hk, s _ _ e, HoR.mo (Keep.of s) r⟩, s _ _ h.f⟩
theorem SpHeap.putP (h : SpHeap H0 H P D F pv hv) (nP : H0 P = none) (p : Part) (i : Int) : SpHeap H0 (upd H P (.dT (putK (enc V.int pv) (encK p) (.int i)))) P D F (put pv p i) hv := by
  obtain ⟨hk, e, r⟩ := h.d
  refine ⟨same_mut h.s nP, ?_, ⟨hk, ?_, HoR.mo (Keep.dT h.p) r⟩, ?_⟩
  · rw [upd_same]
    exact congrArg (fun z => some (HO.dT z)) (enc_put V.int p i pv)
  · rw [upd_ne (ne_of e h.p (by intro z; cases z))]
    exact e
  · rw [upd_ne (ne_of h.f h.p (by intro z; cases z))]
    exact h.f
theorem SpHeap.putD (h : SpHeap H0 H P D F pv hv) (nD : H0 D = none) (nF : H0 F = none) {hk : List (Key × V)} (hd : H D = some (.dK hk)) {j : Nat} (hj : j ∉ hv.map (·.1)) {v : V} {p : Part} (hp : PartR H v p) :
    SpHeap H0 (upd (upd H D (.dK (putK hk (.inl (j : Int)) v))) F (.lst ((hv.map fun e => V.int (e.1 : Int)) ++ [.int (j : Int)]))) P D F pv (hv ++ [(j, some p)]) := by
  obtain ⟨hk', e, r⟩ := h.d
  have e1 : hk' = hk := by rw [hd] at e; injection (Option.some.inj e) with e2; exact e2.symm
  subst e1
  have hDF : D ≠ F := ne_of hd h.f (by intro z; cases z)
  have hPD : P ≠ D := ne_of h.p hd (by intro z; cases z)
  have hPF : P ≠ F := ne_of h.p h.f (by intro z; cases z)
  have k1 : Keep H (upd H D (.dK (putK hk' (.inl (j : Int)) v))) := Keep.dK hd
  have hF2 : (upd H D (.dK (putK hk' (.inl (j : Int)) v))) F = some (.lst (hv.map fun e => V.int (e.1 : Int))) := by rw [upd_ne hDF.symm]; exact h.f
  have k2 := k1.trans (Keep.lst (o := .lst ((hv.map fun e => V.int (e.1 : Int)) ++ [.int (j : Int)])) hF2)
  have ep := putK_new v (HoR.none r hj)
  refine ⟨same_mut (same_mut h.s nD) nF, by rw [upd_ne hPF, upd_ne hPD]; exact h.p, ⟨hk' ++ [((.inl (j : Int) : Key), v)], by rw [upd_ne hDF, upd_same, ep], ?_⟩, by rw [upd_same, List.map_append]; rfl⟩
  exact all2_snoc (HoR.mo k2 r) (show HoR _ ((.inl (j : Int) : Key), v) (j, some p) from ⟨rfl, PartR.mo _ _ _ _ k2 hp⟩)
theorem getD_int (o : Option Int) : (o.map V.int).getD (.int 0) = .int (o.getD 0) := by cases o <;> rfl
end
end Pk
end
section
set_option Elab.async false
set_option linter.all false
set_option maxRecDepth 100000
set_option maxHeartbeats 8000000
namespace Pk
open PySem PySem.Spec PyProof.Rows L2 FL
def notF (pv : List (Part × Int)) (q : Part) : Option Part := if (look pv q).isSome = true then none else some q
theorem notF_mem {pv : List (Part × Int)} {qs : List Part} {q : Part} : q ∈ qs.filterMap (notF pv) ↔ q ∈ qs ∧ look pv q = none := by
  rw [List.mem_filterMap]
  constructor
  · rintro ⟨a, ha, e⟩
    unfold notF at e
    split at e
    · cases e
    · rename_i h
      cases Option.some.inj e
      refine ⟨ha, ?_⟩
      cases z : look pv q with
      | none => rfl
      | some x => rw [z] at h; simp at h
  · rintro ⟨h1, h2⟩
    exact ⟨q, h1, by unfold notF; rw [h2]; rfl⟩
theorem notF_nodup {pv : List (Part × Int)} {qs : List Part} (h : qs.Nodup) : (qs.filterMap (notF pv)).Nodup := by
  induction qs with
  | nil => exact List.nodup_nil
  | cons a r ih =>
    rw [List.nodup_cons] at h
    rw [List.filterMap_cons]
    unfold notF
    split
    · exact ih h.2
    · rename_i b hb
      split at hb
      · cases hb
      · cases Option.some.inj hb
        exact List.nodup_cons.mpr ⟨fun z => h.1 (notF_mem.mp z).1, ih h.2⟩
section
variable {P : Program} {w : World} {K : PySem.W.Frag} {mg : Str → Option Value} {base : Heap} {C : Addr}
/-- n less the int at a slot -/
def muAt (n i : Nat) (σ : L2.St) : Nat := match σ[i]? with
  | some (some (V.int a)) => n - a.toNat
  | _ => 0
def spSpread (C : Addr) : Sp := fun vs H Q _ => ∃ v rows u ws G L k gs kvs lv lack, vs = [v, u, .ref G, .ref L, .int ((k : Nat) : Int)] ∧ HeapR C H v rows ∧ HeapOK rows ∧ WantsR H u ws ∧ WantsOK ws ∧ GiftsR H G gs kvs ∧ kvs.length = ws.length ∧ H L = some (.dT (enc V.int lv)) ∧
  FlowOK SH (cnt rows) ws (gOf kvs) (lOf lv) lack ∧ k < ws.length ∧
  ∀ t H' Pa D hk pv hv o, Same H H' → H D = none → H' t = some (.tup [.ref Pa, .ref D, o]) → H' Pa = some (.dT (enc V.int pv)) → H' D = some (.dK hk) → All2 (HoR H') hk hv → SpS ws (gOf kvs) k pv hv →
    ((o = .non ∧ Closed SH ws (gOf kvs) (lOf lv) (fun i => i ∈ hv.map (·.1))) ∨ ∃ p i, PartR H' o p ∧ look pv p = some i ∧ 0 < lOf lv p.1 p.2) → Q (.ref t) H'
theorem sc_spread : FnScope ["heap", "wants", "gifts", "left", "k", "parts", "holders", "front", "at", "part", "other"] ["heap", "wants", "gifts", "left", "k"] (defScope s_spread) := ⟨rfl, rfl, rfl, by decide +kernel, rfl, by decide +kernel, by decide +kernel⟩
theorem c_spread (T : Txt K mg C) : Cal P w K mg base CX0 3 "spread" ["heap", "wants", "gifts", "left", "k"] (spSpread C) := by
  have C_lets : Cal P w K mg base CX0 2 "lets" ["heap", "want"] (spLets C) := c_lets T
  refine Cal.mk' T.d_spread sc_spread (fun vs H Q E h => ?_) (fun _ _ _ _ _ _ us hl => match us, hl with | [_, _, _, _, _], _ => rfl) (fun f cdv A outer s H vs Q E hr h => ?_)
  · obtain ⟨v, rows, u, ws, G, L, k, gs, kvs, lv, lack, rfl, _⟩ := h
    rfl
  · obtain ⟨v, rows, u, ws, G, L, k, gs, kvs, lv, lack, rfl, hv0, hok, hws, wok, hG, hkl, hL, fl, hk, kq⟩ := h
    have sc := sc_spread
    have hu := hu_of hr
    obtain ⟨wa, wxs, rfl, hwa, hwall⟩ := id hws
    have hwl : wxs.length = ws.length := hwall.length
    have hn6 := wok.len
    refine ⟨_, (pss_cons (ps_set (i := 5) sc.nd rfl (.inr rfl) pe_dnewT)
      (pss_cons (ps_set (i := 6) sc.nd rfl (.inl rfl) (pe_disp (pps_cons (pv 4) pe_non pps_nil) (by rfl) (by rfl) (fun z => by cases z) (by decide)))
      (pss_cons (ps_set (i := 7) sc.nd rfl (.inl rfl) (pe_lst (pa_cons (pv 4) pa_nil)))
      (pss_cons (ps_set (i := 8) sc.nd rfl (.inl rfl) pe_int)
      (pss_cons (ps_while PassesOwn.never (pt_cmpR op_lt (pv 8) (pe_callB len1 (by rfl) T.len PySem.boot_len (pa_cons (pv 7) pa_nil)) (nomark _)) (pss_cons (ps_for PassesOwn.never rfl (piL K (pe_lc (own := [("part", 9)]) rfl sc.nd (piL K (pe_cal C_lets hr (pa_cons (pv 0) (pa_cons (pe_ix ixT (pv 1) (pe_ix (ixL K) (pv 7) (pv 8) (fun _ _ => rfl)) (fun _ _ => rfl)) pa_nil)))) (blkOk_by (N := ["heap", "wants", "gifts", "left", "k", "parts", "holders", "front", "at", "part", "other"]) (sc := defScope s_spread) (own := [("part", 9)]) (by decide +kernel)) (fun _ _ _ _ _ => (pg_name (i := 9) sc.nd rfl (.inl rfl))) (fun _ _ _ _ _ => (pts_one (pt_cmp (pc_dnotin hu (pv 9) (pv 5))))) (fun _ _ _ _ _ => (pv 9)))) (pg_name (i := 9) sc.nd rfl (.inl rfl)) (pss_cons (ps_dput hu (pv 5) (pv 9) (pe_ix (ixL K) (pv 7) (pv 8) (fun _ _ => rfl)) rfl)
      (pss_cons (ps_if (pt_cmpR op_gt (pe_dget2 hu (pv 3) (pv 9) pe_int ⟨rfl, rfl, rfl, rfl⟩) pe_int (nomark _)) (pss_one (ps_ret (pe_tup (pa_cons (pv 5) (pa_cons (pv 6) (pa_cons (pv 9) pa_nil)))))) pss_nil)
      (pss_one (ps_for PassesOwn.never rfl (pi_range1 rfl T.range (pa_cons (pe_callB len1 (by rfl) T.len PySem.boot_len (pa_cons (pv 1) pa_nil)) pa_nil)) (pg_name (i := 10) sc.nd rfl (.inl rfl)) (pss_one (ps_if (PW.pt (pw_and (pt_cmp (pc_dnotin hu (pv 10) (pv 6))) (pw_and1 (pt_cmpR op_gt (pe_dget2 hu (pe_ix (ixL K) (pv 2) (pv 10) (fun _ _ => rfl)) (pv 9) pe_int ⟨rfl, rfl, rfl, rfl⟩) pe_int (nomark _))))) (pss_cons (ps_dput hu (pv 6) (pv 10) (pv 9) rfl)
      (pss_one (ps_expr (pe_bm PySem.F.plainAttrs_list PySem.F.slot_list_append PySem.F.type_list_append mt_append (pv 7) (pa_cons (pv 10) pa_nil))))) pss_nil)))))))
      (pss_one (ps_set (i := 8) sc.nd rfl (.inl rfl) (pe_op op_add (pv 8) pe_int)))))
      (pss_one (ps_ret (pe_tup (pa_cons (pv 5) (pa_cons (pv 6) (pa_cons pe_non pa_nil))))))))))), ?_⟩
    -- parts = {}, holders = {k: None}, front = [k], at = 0
    refine fun Pa nPa => ?_
    have s1 : Same H (upd H Pa (.dT [])) := same_new nPa
    refine fun D nD => ⟨_, rfl, upd_same, [(.inl (k : Int), .non)], rfl, (by show 1 ≤ 15; decide), ?_⟩
    have nD0 : H D = none := by
      cases z : H D with
      | none => rfl
      | some o => rw [s1 _ _ z] at nD; cases nD
    have nPD : D ≠ Pa := fun z => by rw [z, upd_same] at nD; cases nD
    have s2 : Same H (upd (upd (upd H Pa (.dT [])) D (.dK [])) D (.dK (mergeK [] [(.inl (k : Int), .non)]))) := same_mut (s1.trans (same_new nD)) nD0
    refine ⟨_, rfl, (by show 1 ≤ sizeLine; decide), fun F nF => ?_⟩
    have nF0 : H F = none := by
      cases z : H F with
      | none => rfl
      | some o => rw [s2 _ _ z] at nF; cases nF
    have s3 := s2.trans (same_new (o := .lst [.int (k : Int)]) nF)
    have nPF : Pa ≠ F := fun z => by
      rw [← z, upd_ne nPD.symm, upd_ne nPD.symm, upd_same] at nF
      cases nF
    have nDF : D ≠ F := fun z => by
      rw [← z, upd_same] at nF
      cases nF
    have h0 : SpHeap H (upd (upd (upd (upd H Pa (.dT [])) D (.dK [])) D (.dK (mergeK [] [(.inl (k : Int), .non)]))) F (.lst [.int (k : Int)])) Pa D F [] [(k, none)] :=
      ⟨s3, by rw [upd_ne nPF, upd_ne nPD.symm, upd_ne nPD.symm, upd_same]; rfl, ⟨[(.inl (k : Int), .non)], by rw [upd_ne nDF, upd_same]; rfl, .cons ⟨rfl, rfl⟩ .nil⟩, upd_same⟩
    -- while at < len(front)
    refine while_by (fun σ H2 => ∃ pv hv at_ v9 v10, σ = [some v, some (.ref wa), some (.ref G), some (.ref L), some (.int (k : Int)), some (.ref Pa), some (.ref D), some (.ref F), some (.int ((at_ : Nat) : Int)), v9, v10] ∧
        SpHeap H H2 Pa D F pv hv ∧ SpS ws (gOf kvs) k pv hv ∧ at_ ≤ hv.length ∧ DoneAt rows ws pv hv at_ ∧ ∀ p ∈ pv.map (·.1), FinP (gOf kvs) (lOf lv) hv p)
      (fun σ H2 => muAt 7 8 σ) ⟨[], _, 0, none, none, rfl, h0, SpS.start hk, Nat.zero_le _, fun r j o w s h => by omega, fun p hp => by simp at hp⟩ ?_ ?_
    · rintro σ H2 ⟨pv, hv, at_, v9, v10, rfl, sh, sp, hat, hdone, hfin⟩
      have hlH := sp.lenH
      refine ⟨_, rfl, _, rfl, F, _, rfl, .inl sh.f, _, _, rfl, rfl, _, rfl, ite2 (fun hg => ?_) (fun hg => ?_)⟩
      · have hat2 : at_ < hv.length := by
          have := of_decide_eq_true hg
          rw [List.length_map] at this
          omega
        obtain ⟨⟨j0, o0⟩, hj0⟩ : ∃ x, hv[at_]? = some x := ⟨_, List.getElem?_eq_getElem hat2⟩
        have hj0n := (sp.b _ _ _ hj0).1
        obtain ⟨w0, hw0⟩ : ∃ x, ws[j0]? = some x := ⟨_, List.getElem?_eq_getElem hj0n⟩
        obtain ⟨wv, hwv, rw0⟩ := hwall.get' hw0
        have w0ok := wok.all w0 (List.mem_of_getElem? hw0)
        have hf0 : atI (hv.map fun e => V.int (e.1 : Int)) (at_ : Int) = some (.int (j0 : Int)) := atI_nat (by rw [List.getElem?_map, hj0]; rfl)
        -- lets(heap, wants[front[at]])
        refine ⟨_, rfl, _, rfl, _, rfl, _, rfl, F, _, _, _, rfl, rfl, SqL.of sh.f, hf0, wa, _, _, _, rfl, rfl, sh.s _ _ hwa, atI_nat hwv, ?_⟩
        refine ⟨_, _, rows, w0, rfl, HeapR.mo _ _ _ _ (Keep.of sh.s) hv0, WantR.mo _ _ _ _ (Keep.of sh.s) rw0, hok, w0ok, fun l H3 ys qs s3' hl hys hL' hq20 => ?_⟩
        have sh3 := sh.same s3'
        refine ⟨l, rfl, ⟨_, SqL.of hl⟩, fun D2 nD2 => ?_⟩
        refine lc_typed (walk_list (K := K) (a := l) (xs := ys)) nD2 PartR PartR.mo (fun i => (qs[i]?).bind (notF pv)) (by rw [hys.length]; omega) (fun H4 s4 => SqL.of (s4 _ _ hl)) (fun i y H4 H5 hi s4 hY kt kf => ?_) (fun H4 acc s4 hD2 hacc => ?_)
        · obtain ⟨rfl, hy⟩ := hY
          obtain ⟨q, hq, c, rfl, hc⟩ := hys.get hy
          have hc4 := s4 _ _ hc
          have sh4 := sh3.same s4
          refine ⟨rfl, ?_⟩
          refine ⟨_, rfl, _, rfl, Pa, _, rfl, DGet.t (k := encK q) sh4.p hc4, _, rfl, ?_⟩
          rw [enc_val, Option.isSome_map]
          cases hlk : look pv q with
          | none =>
            refine ite_t rfl ?_
            refine ⟨_, rfl, kt _ _ q (Same.refl _) ?_ ⟨c, rfl, hc4⟩⟩
            show (qs[i]?).bind (notF pv) = _
            rw [hq]
            show notF pv q = _
            unfold notF
            rw [hlk]; rfl
          | some z =>
            refine ite_f rfl (kf _ (Same.refl _) ?_)
            show (qs[i]?).bind (notF pv) = _
            rw [hq]
            show notF pv q = _
            unfold notF
            rw [hlk]; rfl
        · rw [hys.length, filterMap_range] at hacc
          have sh4 := sh3.same s4
          have hD2F : D2 ≠ F := fun z => by rw [z, sh3.f] at nD2; cases nD2
          have hD2P : D2 ≠ Pa := ne_of hD2 sh4.p (by intro z; cases z)
          obtain ⟨hk4, hD4, _⟩ := id sh4.d
          have hD2D : D2 ≠ D := ne_of hD2 hD4 (by intro z; cases z)
          -- for part in ..
          refine ⟨D2, rfl, ⟨_, SqL.of hD2⟩, for_list (K := K) (a := D2) (xs := acc) (fun i σ H5 => ∃ pv2 hv2 v9 v10, σ = [some v, some (.ref wa), some (.ref G), some (.ref L), some (.int (k : Int)), some (.ref Pa), some (.ref D), some (.ref F), some (.int (at_ : Int)), v9, v10] ∧
              SpHeap H H5 Pa D F pv2 hv2 ∧ SpS ws (gOf kvs) k pv2 hv2 ∧ H5 D2 = some (.lst acc) ∧ All2 (PartR H5) acc (qs.filterMap (notF pv)) ∧ (∃ hx, hv2 = hv ++ hx) ∧
              pv2.map (·.1) = pv.map (·.1) ++ (qs.filterMap (notF pv)).take i ∧ ∀ p ∈ pv2.map (·.1), FinP (gOf kvs) (lOf lv) hv2 p)
            ⟨pv, hv, v9, v10, rfl, sh4, sp, hD2, hacc, ⟨[], by simp⟩, by simp, hfin⟩ (fun i σ H5 _ ⟨_, _, _, _, _, _, _, h, _⟩ => SqL.of h) ?_ ?_⟩
          · rintro i y σ H5 hi ⟨pv2, hv2, u9, u10, rfl, sh5, sp5, hD5, hacc5, ⟨hx, rfl⟩, hkeys, hfin5⟩
            obtain ⟨q, hq, c, rfl, hc⟩ := hacc5.get hi
            have hqm := notF_mem.mp (List.mem_of_getElem? hq)
            obtain ⟨q1, q2, q3⟩ := hL'.ok q hqm.1
            have hqnew : look pv2 q = none := look_none.mpr fun z => by
              rw [hkeys] at z
              rcases List.mem_append.mp z with z | z
              · exact look_none.mp hqm.2 z
              · obtain ⟨r, hr1, hr2⟩ := List.mem_iff_getElem.mp z
                rw [List.length_take] at hr1
                rw [List.getElem_take] at hr2
                have e1 : (qs.filterMap (notF pv))[r]? = some q := by rw [List.getElem?_eq_getElem (by omega), hr2]
                have := (List.getElem?_inj (by omega) (notF_nodup hL'.nd)).mp (e1.trans hq.symm)
                omega
            have hj5 : (hv ++ hx)[at_]? = some (j0, o0) := by rw [List.getElem?_append_left hat2]; exact hj0
            have hf5 : atI ((hv ++ hx).map fun e => V.int (e.1 : Int)) (at_ : Int) = some (.int (j0 : Int)) := atI_nat (by rw [List.getElem?_map, hj5]; rfl)
            have sp6 : SpS ws (gOf kvs) k (put pv2 q (j0 : Int)) (hv ++ hx) := sp5.part hqnew hj5 hw0 q1 q2 q3 (by rw [q1]; exact w0ok.fm)
            have sh6 := sh5.putP nPa q (j0 : Int)
            have hkeys6 : (put pv2 q (j0 : Int)).map (·.1) = pv.map (·.1) ++ (qs.filterMap (notF pv)).take (i + 1) := by
              rw [put_keys, hqnew, take_next hq, ← List.append_assoc, ← hkeys]
              rfl
            -- parts[part] = front[at]
            refine ⟨_, rfl, _, rfl, F, _, _, _, rfl, rfl, SqL.of sh5.f, hf5, _, rfl, _, rfl, Pa, _, rfl, DPut.t (k := encK q) sh5.p hc (by rw [enc_len]; exact sz_lt (by have := sp5.lenP; omega)), ?_⟩
            have k6 : Keep H5 (upd H5 Pa (.dT (putK (enc V.int pv2) (encK q) (.int (j0 : Int))))) := Keep.dT sh5.p
            have hc6 := tup_keep k6 hc
            have hL6 := sh6.s _ _ hL
            -- left.get(part, 0) > 0
            refine ⟨_, rfl, L, rfl, .inr ⟨_, .inl hL6⟩, _, rfl, _, DGet.t (k := encK q) hL6 hc6, ?_⟩
            rw [enc_val, getD_int]
            refine ⟨_, _, rfl, rfl, _, rfl, ite2 (fun hg2 => ?_) (fun hg2 => ?_)⟩
            · refine ⟨_, rfl, _, rfl, _, rfl, (by show 3 ≤ sizeLine; decide), fun t nt => ?_⟩
              have sh7 := sh6.same (same_new (o := .tup [.ref Pa, .ref D, .ref c]) nt)
              obtain ⟨hk7, hD7, hr7⟩ := sh7.d
              exact kq t _ Pa D hk7 _ _ (.ref c) sh7.s nD0 upd_same sh7.p hD7 hr7 sp6 (.inr ⟨q, _, ⟨c, rfl, same_new nt _ _ hc6⟩, by rw [look_put, if_pos rfl], of_decide_eq_true hg2⟩)
            · have hleft : lOf lv q.1 q.2 = 0 := by
                have h1 : ¬ 0 < lOf lv q.1 q.2 := fun z => hg2 (decide_eq_true z)
                have h2 := fl.lnn q.1 q.2
                omega
              -- for other in range(len(wants))
              refine ⟨_, rfl, wa, _, rfl, .inr (sh6.s _ _ hwa), _, rfl, by omega, by omega, for_range (fun jj σ H7 => ∃ hx2 v10, σ = [some v, some (.ref wa), some (.ref G), some (.ref L), some (.int (k : Int)), some (.ref Pa), some (.ref D), some (.ref F), some (.int (at_ : Int)), some (.ref c), v10] ∧
                  SpHeap H H7 Pa D F (put pv2 q (j0 : Int)) (hv ++ hx ++ hx2) ∧ SpS ws (gOf kvs) k (put pv2 q (j0 : Int)) (hv ++ hx ++ hx2) ∧ H7 D2 = some (.lst acc) ∧ Keep H5 H7 ∧ ∀ j, j < jj → 0 < gOf kvs j q.1 q.2 → j ∈ (hv ++ hx ++ hx2).map (·.1))
                ⟨[], _, rfl, by simpa using sh6, by simpa using sp6, by rw [upd_ne hD2P]; exact hD5, k6, fun j hj => by omega⟩ ?_ ?_⟩
              · rintro jj σ H7 hjj ⟨hx2, v10, rfl, sh7, sp7, hD7, k7, hgs⟩
                have hjj' : jj < ws.length := by
                  rw [← hwl]
                  exact hjj
                rw [Int.zero_add]
                obtain ⟨hk7, hDD7, hr7⟩ := id sh7.d
                refine ⟨_, rfl, _, rfl, D, _, rfl, DGet.k (k := .inl (jj : Int)) hDD7, _, rfl, ?_⟩
                by_cases hin : jj ∈ (hv ++ hx ++ hx2).map (·.1)
                · obtain ⟨e, he, e2⟩ := List.mem_map.mp hin
                  obtain ⟨vv, hvv, _⟩ := HoR.some hr7 sp7.nd (j := jj) (o := e.2) (by rw [← e2]; exact he)
                  rw [hvv]
                  refine ite_f rfl ?_
                  refine ite_f rfl ?_
                  refine ⟨hx2, _, rfl, sh7, sp7, hD7, k7, fun j hj hg3 => ?_⟩
                  by_cases z : j = jj
                  · rw [z]; exact hin
                  · exact hgs j (by omega) hg3
                · rw [HoR.none hr7 hin]
                  refine ite_t rfl ?_
                  have hG7 := hG.same sh7.s
                  have hkj : jj < kvs.length := by omega
                  obtain ⟨ga, hga, hgd⟩ := hG7.2.get' (List.getElem?_eq_getElem hkj)
                  have hc7 := tup_keep k7 hc
                  refine ⟨_, rfl, _, rfl, G, _, _, _, rfl, rfl, SqL.of hG7.1, atI_nat (by rw [List.getElem?_map, hga]; rfl), ga, rfl, .inr ⟨_, .inl hgd⟩, _, rfl, _, DGet.t (k := encK q) hgd hc7, ?_⟩
                  rw [enc_val, getD_int]
                  have hge : (look kvs[jj] q).getD 0 = gOf kvs jj q.1 q.2 := by
                    unfold gOf
                    rw [List.getElem?_eq_getElem hkj]
                    rfl
                  rw [hge]
                  refine ⟨_, _, rfl, rfl, _, rfl, ite2 (fun hg3 => ?_) (fun hg3 => ?_)⟩
                  · have hpos : 0 < gOf kvs jj q.1 q.2 := of_decide_eq_true hg3
                    obtain ⟨w3, hw3, e3, _⟩ := fl.sup _ _ _ hpos
                    have sp8 := sp7.holder (p := q) (i := (j0 : Int)) (by rw [look_put, if_pos rfl]) hin hw3 e3 hpos
                    refine ⟨_, rfl, _, rfl, _, rfl, D, _, rfl, DPut.k (k := .inl (jj : Int)) hDD7 ?_, ?_⟩
                    · have := hr7.length
                      have := sp7.lenH
                      exact sz_lt (by omega)
                    · have sh8 := sh7.putD nD0 nF0 hDD7 hin (show PartR H7 (.ref c) q from ⟨c, rfl, hc7⟩)
                      have hDF7 : F ≠ D := ne_of sh7.f hDD7 (by intro z; cases z)
                      have hD27 : D2 ≠ D := hD2D
                      have hFF : (upd H7 D (.dK (putK hk7 (.inl (jj : Int)) (.ref c)))) F = some (.lst ((hv ++ hx ++ hx2).map fun e => V.int (e.1 : Int))) := by rw [upd_ne hDF7]; exact sh7.f
                      refine ⟨_, rfl, .inl ⟨rfl, _, SqL.of hFF⟩, _, rfl, F, _, _, rfl, rfl, hFF, ?_, ?_⟩
                      · have := sp7.lenH
                        rw [List.length_map]
                        exact sz_lt (by omega)
                      · refine ⟨hx2 ++ [(jj, some q)], _, rfl, by rw [← List.append_assoc]; exact sh8, by rw [← List.append_assoc]; exact sp8, ?_, ?_, fun j hj hg4 => ?_⟩
                        · rw [upd_ne hD2F, upd_ne hD27]
                          exact hD7
                        · exact (k7.trans (Keep.dK hDD7)).trans (Keep.lst (by rw [upd_ne hDF7]; exact sh7.f))
                        · rw [← List.append_assoc, List.map_append]
                          by_cases z : j = jj
                          · rw [z]; simp
                          · exact List.mem_append_left _ (hgs j (by omega) hg4)
                  · refine ⟨hx2, _, rfl, sh7, sp7, hD7, k7, fun j hj hg4 => ?_⟩
                    by_cases z : j = jj
                    · rw [z] at hg4
                      exact absurd (decide_eq_true hg4) hg3
                    · exact hgs j (by omega) hg4
              · rintro σ H7 ⟨hx2, v10, rfl, sh7, sp7, hD7, k7, hgs⟩
                refine ⟨put pv2 q (j0 : Int), hv ++ hx ++ hx2, _, _, rfl, sh7, sp7, hD7, All2.mo PartR.mo k7 hacc5, ⟨hx ++ hx2, by rw [List.append_assoc]⟩, hkeys6, fun p hp => ?_⟩
                rw [hkeys6, take_next hq, ← List.append_assoc, ← hkeys] at hp
                rcases List.mem_append.mp hp with z | z
                · obtain ⟨f1, f2⟩ := hfin5 p z
                  exact ⟨f1, fun j hj => by rw [List.map_append]; exact List.mem_append_left _ (f2 j hj)⟩
                · have : p = q := by simpa using z
                  subst this
                  refine ⟨hleft, fun j hj => ?_⟩
                  obtain ⟨w3, hw3, _⟩ := fl.sup _ _ _ hj
                  refine hgs j ?_ hj
                  rw [show (wxs.length : Int).toNat = wxs.length from rfl, hwl]
                  exact (List.getElem?_eq_some_iff.mp hw3).1
          · rintro σ H5 ⟨pv2, hv2, u9, u10, rfl, sh5, sp5, hD5, hacc5, ⟨hx, rfl⟩, hkeys, hfin5⟩
            rw [hacc5.length, take_all] at hkeys
            refine ⟨_, rfl, _, _, rfl, rfl, ⟨pv2, hv ++ hx, at_ + 1, _, _, rfl, sh5, sp5, by rw [List.length_append]; omega, ?_, hfin5⟩, ?_⟩
            · intro r j o w s hr hj hw hs hl
              by_cases z : r < at_
              · rw [List.getElem?_append_left (by omega)] at hj
                rcases hdone r j o w s z hj hw hs hl with q | q
                · exact .inl (by rw [hkeys]; exact List.mem_append_left _ q)
                · exact .inr q
              · have : r = at_ := by omega
                subst this
                rw [List.getElem?_append_left hat2, hj0] at hj
                have e1 : j0 = j := congrArg Prod.fst (Option.some.inj hj)
                subst e1
                have e2 : w0 = w := Option.some.inj (hw0.symm.trans hw)
                subst e2
                rcases hL'.all s hs hl with q | q
                · refine .inl ?_
                  rw [hkeys]
                  cases z2 : look pv (w0.1, s) with
                  | none => exact List.mem_append_right _ (notF_mem.mpr ⟨q, z2⟩)
                  | some x => exact List.mem_append_left _ (List.mem_map.mpr ⟨_, look_mem z2, rfl⟩)
                · exact .inr q
            · show 7 - ((at_ : Int) + 1).toNat < 7 - (at_ : Int).toNat
              omega
      · -- the end
        have hat3 : at_ = hv.length := by
          have : ¬ ((at_ : Int) < ((hv.map fun e => V.int (e.1 : Int)).length : Int)) := fun z => hg (decide_eq_true z)
          rw [List.length_map] at this
          omega
        subst hat3
        refine ⟨_, rfl, _, rfl, (by show 3 ≤ sizeLine; decide), fun t nt => ?_⟩
        have sh7 := sh.same (same_new (o := .tup [.ref Pa, .ref D, .non]) nt)
        obtain ⟨hk7, hD7, hr7⟩ := sh7.d
        exact kq t _ Pa D hk7 _ _ .non sh7.s nD0 upd_same sh7.p hD7 hr7 sp (.inl ⟨rfl, sp.closed fl hdone hfin⟩)
    · rintro σ H Q Q' i ⟨v1, e1, v2, e2, p, ys, h1, h2, a, b, h3, h4, c, h5, h6⟩
      exact ⟨v1, e1, v2, e2, p, ys, h1, h2, a, b, h3, h4, c, h5, i _ _ h6⟩
end
end Pk
end
section
set_option Elab.async false
set_option linter.all false
set_option maxRecDepth 100000
set_option maxHeartbeats 8000000
namespace Pk
open PySem PySem.Spec PyProof.Rows L2 FL
theorem DGet.t' {H : Hp} {a b : Addr} {kvs : List (List Key × V)} {k : List Key} {v : V} (e : H a = some (.dT kvs)) (eb : H b = some (.tup (k.map kV))) (h : valV kvs k = some v) : DGet H a (.ref b) (some v) := h ▸ DGet.t e eb
theorem DGet.k' {H : Hp} {a : Addr} {kvs : List (Key × V)} {k : Key} {v : V} (e : H a = some (.dK kvs)) (h : valV kvs k = some v) : DGet H a (kV k) (some v) := h ▸ DGet.k e
theorem enc_some {kv : List (Part × Int)} {p : Part} {x : Int} (h : look kv p = some x) : valV (enc V.int kv) (encK p) = some (.int x) := by rw [enc_val, h]; rfl
/-- one step of a way -/
def ElR : RX (El Str Str) := fun H v e => ∃ a pv ov, v = .ref a ∧ H a = some (.tup [.int (e.1 : Int), pv, ov]) ∧ PartR H pv e.2.1 ∧ OptPart H ov e.2.2
theorem ElR.mo : Mo ElR := fun H H' v e k ⟨a, pv, ov, e1, h, p, o⟩ => ⟨a, pv, ov, e1, tup_keep k h, PartR.mo _ _ _ _ k p, OptPart.mo _ _ _ _ k o⟩
def muLst (n : Nat) (F : Addr) (H : Hp) : Nat := match H F with
  | some (.lst xs) => n - xs.length
  | _ => 0
theorem at_start {t : TS} {D : Ends} {N : List Str} {vs : List V} {σ : L2.St} {H : Hp} (e : L2.start N vs = σ) (h : t D σ H) : t D (L2.start N vs) H := by
  rw [e]
  exact h
section
variable {P : Program} {w : World} {K : PySem.W.Frag} {mg : Str → Option Value} {base : Heap} {C : Addr}
def spWayOf : Sp := fun vs H Q _ => ∃ Pa D o hk pv hv p way, vs = [.ref Pa, .ref D, o] ∧ H Pa = some (.dT (enc V.int pv)) ∧ H D = some (.dK hk) ∧ All2 (HoR H) hk hv ∧ (hv.map (·.1)).Nodup ∧ PartR H o p ∧ Chain pv hv (some p) way ∧ way.length ≤ 1000 ∧
  ∀ l H' ys, Same H H' → H' l = some (.lst ys) → All2 (ElR H') ys way → Q (.ref l) H'
theorem sc_way_of : FnScope ["parts", "holders", "part", "found", "one"] ["parts", "holders", "part"] (defScope s_way_of) := ⟨rfl, rfl, rfl, by decide +kernel, rfl, by decide +kernel, by decide +kernel⟩
theorem c_way_of (T : Txt K mg C) : Cal P w K mg base CX0 1 "way_of" ["parts", "holders", "part"] spWayOf := by
  refine Cal.mk' T.d_way_of sc_way_of (fun vs H Q E h => ?_) (fun _ _ _ _ _ _ us hl => match us, hl with | [_, _, _], _ => rfl) (fun f cdv A outer s H vs Q E hr h => ?_)
  · obtain ⟨Pa, D, o, hk, pw, hv, p, way, rfl, _⟩ := h
    rfl
  · obtain ⟨Pa, D, o, hk, pw, hv, p, way, rfl, hP, hD, hall, nd, hp, hc, hlen, kq⟩ := h
    have sc := sc_way_of
    have hu := hu_of hr
    refine ⟨_, (pss_cons (ps_set (i := 3) sc.nd rfl (.inl rfl) (pe_lst pa_nil))
      (pss_cons (ps_while PassesOwn.never (pt_cmpR op_notN (pv 2) pe_non (nomark _)) (pss_cons (ps_set (i := 4) sc.nd rfl (.inl rfl) (pe_dget hu (pv 0) (pv 2) (fun _ _ => rfl)))
      (pss_cons (ps_expr (pe_bm PySem.F.plainAttrs_list PySem.F.slot_list_append PySem.F.type_list_append mt_append (pv 3) (pa_cons (pe_tup (pa_cons (pv 4) (pa_cons (pv 2) (pa_cons (pe_dget hu (pv 1) (pv 4) (fun _ _ => rfl)) pa_nil)))) pa_nil)))
      (pss_one (ps_set (i := 2) sc.nd rfl (.inl rfl) (pe_dget hu (pv 1) (pv 4) (fun _ _ => rfl)))))))
      (pss_one (ps_ret (pv 3))))), ?_⟩
    refine ⟨Nat.zero_le _, fun F nF => ?_⟩
    have s1 : Same H (upd H F (.lst [])) := same_new nF
    refine while_by (fun σ H2 => ∃ ov v4 oo ys dn rest, σ = [some (.ref Pa), some (.ref D), some ov, some (.ref F), v4] ∧ Same H H2 ∧ H2 F = some (.lst ys) ∧ All2 (ElR H2) ys dn ∧ way = dn ++ rest ∧ OptPart H2 ov oo ∧ Chain pw hv oo rest)
      (fun σ H2 => muLst way.length F H2) ⟨o, none, some p, [], [], way, rfl, s1, upd_same, .nil, rfl, PartR.mo _ _ _ _ (Keep.of s1) hp, hc⟩ ?_ ?_
    · rintro σ H2 ⟨ov, v4, oo, ys, dn, rest, rfl, s2, hF, hys, hway, ho, hch⟩
      refine ⟨_, rfl, rfl, _, rfl, ?_⟩
      cases hch with
      | nil =>
        have : ov = .non := ho
        subst this
        refine ite_f rfl ?_
        rw [List.append_nil] at hway
        subst hway
        exact ⟨_, rfl, kq F H2 ys s2 hF hys⟩
      | @cons q i o2 r hl hm hc2 =>
        obtain ⟨c, rfl, hcc⟩ := show PartR H2 ov q from ho
        refine ite_t rfl ?_
        have hP2 := s2 _ _ hP
        have hD2 := s2 _ _ hD
        have hall2 := HoR.mo (Keep.of s2) hall
        obtain ⟨vv, hvv, hov⟩ := HoR.some hall2 nd hm
        have gD : DGet H2 D (.int (i : Int)) (some vv) := DGet.k' (k := .inl (i : Int)) hD2 hvv
        have hyl : ys.length < way.length := by
          rw [hys.length, hway, List.length_append, List.length_cons]
          omega
        refine ⟨_, rfl, _, rfl, Pa, _, rfl, DGet.t' (k := encK q) hP2 hcc (enc_some hl), ?_⟩
        refine ⟨_, rfl, .inl ⟨rfl, _, SqL.of hF⟩, _, rfl, _, rfl, _, rfl, _, rfl, D, vv, rfl, gD, (by show 3 ≤ sizeLine; decide), fun t nt => ?_⟩
        have s3 := same_new (H := H2) (o := .tup [.int (i : Int), .ref c, vv]) nt
        have hF3 := s3 _ _ hF
        refine ⟨F, ys, _, rfl, rfl, hF3, sz_lt (by omega), ?_⟩
        have k4 := (Keep.of s3).trans (Keep.lst (o := .lst (ys ++ [.ref t])) hF3)
        have hDF : D ≠ F := ne_of hD2 hF (by intro z; cases z)
        have hD4 : (upd (upd H2 t (.tup [.int (i : Int), .ref c, vv])) F (.lst (ys ++ [.ref t]))) D = some (.dK hk) := by rw [upd_ne hDF]; exact s3 _ _ hD2
        refine ⟨_, rfl, _, rfl, D, vv, rfl, DGet.k' (k := .inl (i : Int)) hD4 hvv, ?_⟩
        refine ⟨⟨vv, _, o2, ys ++ [.ref t], dn ++ [(i, q, o2)], r, rfl, same_mut (s2.trans s3) nF, upd_same, ?_, ?_, OptPart.mo _ _ _ _ k4 hov, hc2⟩, ?_⟩
        · refine all2_snoc (All2.mo ElR.mo k4 hys) ⟨t, .ref c, vv, rfl, tup_keep (Keep.lst hF3) upd_same, ⟨c, rfl, tup_keep k4 hcc⟩, OptPart.mo _ _ _ _ k4 hov⟩
        · rw [hway, List.append_assoc]
          rfl
        · show muLst _ _ _ < muLst _ _ _
          unfold muLst
          rw [upd_same, hF]
          simp only [List.length_append, List.length_singleton]
          omega
    · rintro σ H Q Q' i ⟨v1, e1, h2, c, h3, h4⟩
      exact ⟨v1, e1, h2, c, h3, i _ _ h4⟩
/-! ### lead -/
structure DK (kv : List (Part × Int)) : Prop where
  nd : (kv.map (·.1)).Nodup
  ok : ∀ p ∈ kv.map (·.1), p.1 ∈ FM ∧ p.2 ∈ SH
theorem DK.len {kv : List (Part × Int)} (h : DK kv) : kv.length ≤ 20 := by
  have := nd_le h.nd (m := UN) fun a ha => UN_mem (h.ok a ha).1 (h.ok a ha).2
  rw [List.length_map, UN_len] at this
  exact this
theorem DK.put {kv : List (Part × Int)} (h : DK kv) {p : Part} (hp : p.1 ∈ FM ∧ p.2 ∈ SH) (v : Int) : DK (put kv p v) where
  nd := put_nodup h.nd
  ok := fun q hq => by
    rw [put_keys] at hq
    split at hq
    · exact h.ok q hq
    · rcases List.mem_append.mp hq with z | z
      · exact h.ok q z
      · have : q = p := by simpa using z
        subst this
        exact hp
theorem DK.nil : DK [] := ⟨by simp, fun p h => by simp at h⟩
theorem GiftsR.put {H : Hp} {G : Addr} {gs : List Addr} {kvs : List (List (Part × Int))} (h : GiftsR H G gs kvs) (nd : gs.Nodup) {i : Nat} {ga : Addr} (hi : gs[i]? = some ga) (kv : List (Part × Int)) :
    GiftsR (upd H ga (.dT (enc V.int kv))) G gs (kvs.set i kv) := by
  obtain ⟨kv0, hk0, hg0⟩ := h.2.get hi
  refine ⟨by rw [upd_ne (ne_of h.1 hg0 (by intro z; cases z))]; exact h.1, All2.of (by rw [List.length_set]; exact h.2.length) fun j a b ha hb => ?_⟩
  by_cases z : j = i
  · subst z
    have e1 : a = ga := Option.some.inj (ha.symm.trans hi)
    subst e1
    rw [List.getElem?_set_self (List.getElem?_eq_some_iff.mp hk0).1] at hb
    cases Option.some.inj hb
    exact upd_same
  · have hne : a ≠ ga := fun q => z ((List.getElem?_inj (List.getElem?_eq_some_iff.mp ha).1 nd).mp (by rw [ha, hi, q]))
    rw [List.getElem?_set_ne (fun q => z q.symm)] at hb
    obtain ⟨b', hb', r⟩ := h.2.get ha
    have : b' = b := Option.some.inj (hb'.symm.trans hb)
    subst this
    show (upd H ga _) a = _
    rw [upd_ne hne]
    exact r
theorem gOf_set {kvs : List (List (Part × Int))} {i : Nat} (hi : i < kvs.length) (kv : List (Part × Int)) (j : Nat) (f s : Str) : gOf (kvs.set i kv) j f s = if j = i then (look kv (f, s)).getD 0 else gOf kvs j f s := by
  unfold gOf
  by_cases z : j = i
  · subst z
    rw [List.getElem?_set_self hi, if_pos rfl]
    rfl
  · rw [List.getElem?_set_ne (fun q => z q.symm), if_neg z]
theorem gOf_at {kvs : List (List (Part × Int))} {i : Nat} {kv : List (Part × Int)} (h : kvs[i]? = some kv) (f s : Str) : gOf kvs i f s = (look kv (f, s)).getD 0 := by
  unfold gOf
  rw [h]
  rfl
/-- one step of the push, as the dicts do it -/
def stepKv (kv : List (Part × Int)) (m : Int) (e : El Str Str) : List (Part × Int) := match e.2.2 with
  | none => put kv e.2.1 ((look kv e.2.1).getD 0 + m)
  | some q => put (put kv e.2.1 ((look kv e.2.1).getD 0 + m)) q ((look (put kv e.2.1 ((look kv e.2.1).getD 0 + m)) q).getD 0 - m)
theorem getD_put (kv : List (Part × Int)) (p q : Part) (v : Int) : (look (put kv p v) q).getD 0 = if q = p then v else (look kv q).getD 0 := by
  rw [look_put]
  split <;> rfl
theorem stepKv_eq (kv : List (Part × Int)) (m : Int) (e : El Str Str) (p : Part) : (look (stepKv kv m e) p).getD 0 = (look kv p).getD 0 + m * net1 e p := by
  obtain ⟨i, got, gu⟩ := e
  cases gu with
  | none =>
    show (look (put kv got _) p).getD 0 = _
    rw [getD_put]
    unfold net1
    by_cases z : p = got
    · subst z; simp
    · have : ¬ got = p := fun q => z q.symm
      simp [z, this]
  | some q =>
    show (look (put (put kv got _) q _) p).getD 0 = _
    rw [getD_put, getD_put, getD_put]
    unfold net1
    by_cases z : p = got
    · subst z
      by_cases z2 : p = q
      · subst z2; simp
      · have : ¬ q = p := fun y => z2 y.symm
        simp [z2, this]
    · have h1 : ¬ got = p := fun y => z y.symm
      by_cases z2 : p = q
      · subst z2
        simp [z, h1]
        omega
      · have h2 : ¬ q = p := fun y => z2 y.symm
        simp [z, z2, h1, h2]
theorem step_push {kvs : List (List (Part × Int))} {m : Int} {e : El Str Str} {kv : List (Part × Int)} (h : kvs[e.1]? = some kv) : gOf (kvs.set e.1 (stepKv kv m e)) = pushOne m (gOf kvs) e := by
  funext j f s
  rw [gOf_set (List.getElem?_eq_some_iff.mp h).1]
  unfold pushOne
  by_cases z : j = e.1
  · rw [if_pos z, z, stepKv_eq, gOf_at h]
    simp
  · rw [if_neg z, if_neg (fun q => z q.symm)]
    simp
theorem push_snoc (m : Int) (g : Nat → Str → Str → Int) (a : List (El Str Str)) (e : El Str Str) : push m g (a ++ [e]) = pushOne m (push m g a) e := by
  unfold push
  rw [List.foldl_append]
  rfl
theorem look_of_pos {kv : List (Part × Int)} {p : Part} (h : 0 < (look kv p).getD 0) : ∃ x, look kv p = some x := by
  cases z : look kv p with
  | none => rw [z] at h; simp at h
  | some x => exact ⟨x, rfl⟩
theorem stepKv_keys {kv : List (Part × Int)} {m : Int} {e : El Str Str} {q : Part} (h : ∃ x, look kv q = some x) : ∃ x, look (stepKv kv m e) q = some x := by
  have h1 : ∀ {kv : List (Part × Int)} {p : Part} {v : Int}, (∃ x, look kv q = some x) → ∃ x, look (put kv p v) q = some x := fun ⟨x, hx⟩ => by
    rw [look_put]
    split
    · exact ⟨_, rfl⟩
    · exact ⟨x, hx⟩
  unfold stepKv
  split
  · exact h1 h
  · exact h1 (h1 h)
structure GivesOK (ws : List (Want Str Str)) (kvs : List (List (Part × Int))) (lv : List (Part × Int)) : Prop where
  len : kvs.length = ws.length
  ok : ∀ kv ∈ kvs, DK kv
  lv : DK lv
def spLead (C : Addr) : Sp := fun vs H Q _ => ∃ v rows u ws G L k gs kvs lv lack, vs = [v, u, .ref G, .ref L, .int ((k : Nat) : Int), .int (lack k)] ∧ HeapR C H v rows ∧ HeapOK rows ∧ WantsR H u ws ∧ WantsOK ws ∧ GiftsR H G gs kvs ∧ gs.Nodup ∧ L ∉ gs ∧ GivesOK ws kvs lv ∧ H L = some (.dT (enc V.int lv)) ∧
  FlowOK SH (cnt rows) ws (gOf kvs) (lOf lv) lack ∧ k < ws.length ∧ 0 < lack k ∧
  ∀ t H' m hd kvs' lv', But (L :: gs) H H' → H' t = some (.tup [.int m, hd]) → GiftsR H' G gs kvs' → H' L = some (.dT (enc V.int lv')) → GivesOK ws kvs' lv' → 0 ≤ m → m ≤ lack k →
    FlowOK SH (cnt rows) ws (gOf kvs') (lOf lv') (fun j => lack j - if j = k then m else 0) → (∀ R, Closed SH ws (gOf kvs) (lOf lv) R → Closed SH ws (gOf kvs') (lOf lv') R) →
    (m = 0 → ∃ R : Nat → Prop, R k ∧ Closed SH ws (gOf kvs') (lOf lv') R) → Q (.ref t) H'
theorem sc_lead : FnScope ["heap", "wants", "gifts", "left", "k", "most", "parts", "holders", "part", "way", "many", "one", "got", "given_up"] ["heap", "wants", "gifts", "left", "k", "most"] (defScope s_lead) := ⟨rfl, rfl, rfl, by decide +kernel, rfl, by decide +kernel, by decide +kernel⟩
theorem c_lead (T : Txt K mg C) : Cal P w K mg base CX0 4 "lead" ["heap", "wants", "gifts", "left", "k", "most"] (spLead C) := by
  have C_spread : Cal P w K mg base CX0 3 "spread" ["heap", "wants", "gifts", "left", "k"] (spSpread C) := c_spread T
  have C_way_of : Cal P w K mg base CX0 1 "way_of" ["parts", "holders", "part"] spWayOf := c_way_of T
  refine Cal.mk' T.d_lead sc_lead (fun vs H Q E h => ?_) (fun _ _ _ _ _ _ us hl => match us, hl with | [_, _, _, _, _, _], _ => rfl) (fun f cdv A outer s H vs Q E hr h => ?_)
  · obtain ⟨v, rows, u, ws, G, L, k, gs, kvs, lv, lack, rfl, _⟩ := h
    rfl
  · obtain ⟨v, rows, u, ws, G, L, k, gs, kvs, lv, lack, rfl, hv0, hok, hws, wok, hG, gnd, hLg, gok, hL, fl, hk, hlk, kq⟩ := h
    have sc := sc_lead
    have hu := hu_of hr
    refine ⟨_, (pss_cons (ps_asg (pe_cal C_spread hr (pa_cons (pv 0) (pa_cons (pv 1) (pa_cons (pv 2) (pa_cons (pv 3) (pa_cons (pv 4) pa_nil)))))) (pgT K (n := 3) rfl (pgs_cons (pg_name (i := 6) sc.nd rfl (.inl rfl)) (pgs_cons (pg_name (i := 7) sc.nd rfl (.inl rfl)) (pgs_cons (pg_name (i := 8) sc.nd rfl (.inl rfl)) pgs_nil)))))
      (pss_cons (ps_if (pt_cmpR op_isN (pv 8) pe_non (nomark _)) (pss_one (ps_ret (pe_tup (pa_cons pe_int (pa_cons (pv 7) pa_nil))))) pss_nil)
      (pss_cons (ps_set (i := 9) sc.nd rfl (.inl rfl) (pe_cal C_way_of hr (pa_cons (pv 6) (pa_cons (pv 7) (pa_cons (pv 8) pa_nil)))))
      (pss_cons (ps_set (i := 10) sc.nd rfl (.inl rfl) (pe_callB (min1 rfl) (by rfl) T.min (by decide +kernel) (pa_cons (pe_op op_cat (pe_lst (pa_cons (pv 5) (pa_cons (pe_dget hu (pv 3) (pv 8) (fun _ _ => rfl)) pa_nil))) (pe_lc (own := [("one", 11), ("got", 12), ("given_up", 13)]) rfl sc.nd (piL K (pv 9)) (blkOk_by (N := ["heap", "wants", "gifts", "left", "k", "most", "parts", "holders", "part", "way", "many", "one", "got", "given_up"]) (sc := defScope s_lead) (own := [("one", 11), ("got", 12), ("given_up", 13)]) (by decide +kernel)) (fun _ _ _ _ _ => (pgT K (n := 3) rfl (pgs_cons (pg_name (i := 11) sc.nd rfl (.inl rfl)) (pgs_cons (pg_name (i := 12) sc.nd rfl (.inl rfl)) (pgs_cons (pg_name (i := 13) sc.nd rfl (.inl rfl)) pgs_nil))))) (fun _ _ _ _ _ => (pts_one (pt_cmpR op_notN (pv 13) pe_non (nomark _)))) (fun _ _ _ _ _ => (pe_dget hu (pe_ix (ixL K) (pv 2) (pv 11) (fun _ _ => rfl)) (pv 13) (fun _ _ => rfl))))) pa_nil)))
      (pss_cons (ps_dput hu (pv 3) (pv 8) (pe_op op_sub (pe_dget hu (pv 3) (pv 8) (fun _ _ => rfl)) (pv 10)) rfl)
      (pss_cons (ps_for PassesOwn.never rfl (piL K (pv 9)) (pgT K (n := 3) rfl (pgs_cons (pg_name (i := 11) sc.nd rfl (.inl rfl)) (pgs_cons (pg_name (i := 12) sc.nd rfl (.inl rfl)) (pgs_cons (pg_name (i := 13) sc.nd rfl (.inl rfl)) pgs_nil)))) (pss_cons (ps_dput hu (pe_ix (ixL K) (pv 2) (pv 11) (fun _ _ => rfl)) (pv 12) (pe_op op_add (pe_dget2 hu (pe_ix (ixL K) (pv 2) (pv 11) (fun _ _ => rfl)) (pv 12) pe_int ⟨rfl, rfl, rfl, rfl⟩) (pv 10)) rfl)
      (pss_one (ps_if (pt_cmpR op_notN (pv 13) pe_non (nomark _)) (pss_one (ps_dput hu (pe_ix (ixL K) (pv 2) (pv 11) (fun _ _ => rfl)) (pv 13) (pe_op op_sub (pe_dget hu (pe_ix (ixL K) (pv 2) (pv 11) (fun _ _ => rfl)) (pv 13) (fun _ _ => rfl)) (pv 10)) rfl)) pss_nil))))
      (pss_one (ps_ret (pe_tup (pa_cons (pv 10) (pa_cons (pv 7) pa_nil))))))))))), ?_⟩
    refine at_start (σ := [some v, some u, some (.ref G), some (.ref L), some (.int k), some (.int (lack k)), none, none, none, none, none, none, none, none]) rfl ?_
    refine ⟨_, rfl, _, rfl, _, rfl, _, rfl, _, rfl, v, rows, u, ws, G, L, k, gs, kvs, lv, lack, rfl, hv0, hok, hws, wok, hG, gok.len, hL, fl, hk, fun t H1 Pa D hkk pv hv o s1 _ ht hP hD hho sp hres => ?_⟩
    refine ⟨t, _, rfl, SqT.of ht, rfl, _, _, rfl, _, _, rfl, _, _, rfl, rfl, ?_⟩
    refine ⟨_, rfl, rfl, _, rfl, ?_⟩
    rcases hres with ⟨rfl, cl⟩ | ⟨p, i, hp, hlook, hpos⟩
    · refine ite_t rfl ?_
      refine ⟨_, rfl, (by show 2 ≤ sizeLine; decide), fun t2 nt2 => ?_⟩
      have s2 := s1.trans (same_new (o := .tup [.int 0, .ref D]) nt2)
      refine kq t2 _ 0 (.ref D) kvs lv (But.of s2) upd_same (hG.same s2) (s2 _ _ hL) gok (Int.le_refl 0) (Int.le_of_lt hlk) ?_ (fun R h => h) (fun _ => ⟨_, sp.k0, cl⟩)
      have : (fun j => lack j - if j = k then (0 : Int) else 0) = lack := by funext j; split <;> omega
      rw [this]
      exact fl
    · obtain ⟨cp, rfl, hcp⟩ := id hp
      refine ite_f rfl ?_
      obtain ⟨way, hch, hwok, hwlen⟩ := sp.way hlook
      have hn6 := wok.len
      -- way = way_of(..)
      refine ⟨_, rfl, _, rfl, _, rfl, Pa, D, .ref cp, hkk, pv, hv, p, way, rfl, hP, hD, hho, sp.nd, hp, hch, by omega, fun W H2 ys s2 hW hys => ?_⟩
      have sA := s1.trans s2
      have hL2 := sA _ _ hL
      have hG2 := hG.same sA
      have hcp2 := s2 _ _ hcp
      obtain ⟨lx, hlx⟩ := look_of_pos (kv := lv) (p := p) hpos
      have hlx0 : lOf lv p.1 p.2 = lx := by unfold lOf; rw [show ((p.1, p.2) : Part) = p from rfl, hlx]; rfl
      have hposx : 0 < lx := by rw [← hlx0]; exact hpos
      have hyl : ys.length ≤ 6 := by rw [hys.length]; omega
      -- many = min(..)
      refine ⟨_, rfl, _, rfl, _, rfl, L, _, rfl, DGet.t' (k := encK p) hL2 hcp2 (enc_some hlx), (by show 2 ≤ sizeLine; decide), fun B nB => ?_⟩
      have s3 : Same H2 (upd H2 B (.lst [.int (lack k), .int lx])) := same_new nB
      refine ⟨_, rfl, W, rfl, ⟨_, SqL.of (s3 _ _ hW)⟩, fun D3 nD3 => ?_⟩
      refine lc_typed (walk_list (K := K) (a := W) (xs := ys)) nD3 IntR IntR.mo (fun i => (way[i]?).bind fun e => e.2.2.map fun q => gOf kvs e.1 q.1 q.2) (by omega) (fun H4 s4 => SqL.of (s4 _ _ (s3 _ _ hW))) (fun i y H4 H5 hi s4 hY kt kf => ?_) (fun H4 acc s4 hD3 hacc => ?_)
      · obtain ⟨rfl, hy⟩ := hY
        obtain ⟨e, he, c, pv', ov, rfl, hc, hpv, hov⟩ := hys.get hy
        have k4 := (Keep.of s3).trans (Keep.of s4)
        have hc4 := tup_keep k4 hc
        dsimp only [List.map, wipe, List.set]
        refine ⟨c, _, rfl, SqT.of hc4, rfl, _, _, rfl, _, _, rfl, _, _, rfl, rfl, ?_⟩
        dsimp only [List.set, wipe]
        refine ⟨rfl, ?_⟩
        refine ⟨_, rfl, rfl, _, rfl, ?_⟩
        obtain ⟨ei, ep, eo⟩ := e
        cases eo with
        | none =>
          have : ov = .non := hov
          subst this
          refine ite_f rfl (kf _ (Same.refl _) ?_)
          show (way[i]?).bind _ = _
          rw [he]; rfl
        | some q =>
          obtain ⟨cq, rfl, hcq⟩ := show PartR H2 ov q from hov
          refine ite_t rfl ?_
          have hin := List.mem_of_getElem? he
          have hg1 : 0 < gOf kvs ei q.1 q.2 := hwok.gives _ hin q rfl
          obtain ⟨w1, hw1, _⟩ := hwok.ok _ hin
          have hlt : ei < kvs.length := by rw [gok.len]; exact (List.getElem?_eq_some_iff.mp hw1).1
          have hG4 := (hG2.same s3).same s4
          obtain ⟨ga, hga, hgd⟩ := hG4.2.get' (List.getElem?_eq_getElem hlt)
          have hge := gOf_at (List.getElem?_eq_getElem hlt) q.1 q.2
          rw [hge] at hg1
          obtain ⟨x, hx⟩ := look_of_pos (p := q) hg1
          refine ⟨_, rfl, _, rfl, G, _, _, _, rfl, rfl, SqL.of hG4.1, atI_nat (by rw [List.getElem?_map, hga]; rfl), _, rfl, ga, _, rfl, DGet.t' (k := encK q) hgd (tup_keep k4 hcq) (enc_some hx), ?_⟩
          refine kt _ _ (gOf kvs ei q.1 q.2) (Same.refl _) ?_ ?_
          · show (way[i]?).bind _ = _
            rw [he]; rfl
          · show V.int x = .int _
            rw [hge, show ((q.1, q.2) : Part) = q from rfl, hx]
            rfl
      · rw [hys.length, filterMap_range] at hacc
        have hB4 := s4 _ _ (show (upd H2 B (.lst [.int (lack k), .int lx])) B = _ from upd_same)
        have hacc' := all2_int hacc
        refine ⟨B, D3, _, acc, rfl, rfl, hB4, hD3, ?_, fun M nM => ?_⟩
        · have h1 := hacc.length
          have h2 := List.length_filterMap_le (fun e : El Str Str => e.2.2.map fun q => gOf kvs e.1 q.1 q.2) way
          show 2 + acc.length ≤ sizeLine
          exact sz_of (by omega)
        · have s5 : Same H2 (upd H4 M (.lst ([.int (lack k), .int lx] ++ acc))) := (s3.trans s4).trans (same_new nM)
          refine ⟨M, lack k :: lx :: way.filterMap (fun e => e.2.2.map fun q => gOf kvs e.1 q.1 q.2), rfl, by rw [upd_same, hacc']; rfl, by simp, fun m hm hmin => ?_⟩
          have hm0 : 0 < m := by
            rcases List.mem_cons.mp hm with rfl | hm
            · exact hlk
            · rcases List.mem_cons.mp hm with rfl | hm
              · exact hposx
              · obtain ⟨e, he, e2⟩ := List.mem_filterMap.mp hm
                obtain ⟨q, hq, rfl⟩ := Option.map_eq_some_iff.mp e2
                exact hwok.gives e he q hq
          have hmk : m ≤ lack k := hmin _ (by simp)
          have hml : m ≤ lOf lv p.1 p.2 := by rw [hlx0]; exact hmin _ (by simp)
          have hmg : ∀ e ∈ way, ∀ q, e.2.2 = some q → m ≤ gOf kvs e.1 q.1 q.2 := fun e he q hq => hmin _ (by
            refine List.mem_cons_of_mem _ (List.mem_cons_of_mem _ (List.mem_filterMap.mpr ⟨e, he, ?_⟩))
            rw [hq]; rfl)
          have hL5 := s5 _ _ hL2
          have hG5 := hG2.same s5
          have hcp5 := s5 _ _ hcp2
          have hW5 := s5 _ _ hW
          have hys5 := All2.mo ElR.mo (Keep.of s5) hys
          -- left[part] = left[part] - many
          refine ⟨_, rfl, _, rfl, L, _, rfl, DGet.t' (k := encK p) hL5 hcp5 (enc_some hlx), _, rfl, _, _, rfl, rfl, _, rfl, _, rfl, L, _, rfl, DPut.t (k := encK p) hL5 hcp5 (by rw [enc_len]; exact sz_lt (by have := gok.lv.len; omega)), ?_⟩
          have hpok : p.1 ∈ FM ∧ p.2 ∈ SH := sp.ks p (List.mem_map.mpr ⟨_, look_mem hlook, rfl⟩)
          have k6 : Keep (upd H4 M (.lst ([.int (lack k), .int lx] ++ acc))) (upd (upd H4 M (.lst ([.int (lack k), .int lx] ++ acc))) L (.dT (putK (enc V.int lv) (encK p) (.int (lx - m))))) := Keep.dT hL5
          have hb6 : But (L :: gs) H (upd (upd H4 M (.lst ([.int (lack k), .int lx] ++ acc))) L (.dT (putK (enc V.int lv) (encK p) (.int (lx - m))))) := (But.of (sA.trans s5)).upd (.inl (by simp))
          have hL6 : (upd (upd H4 M (.lst ([.int (lack k), .int lx] ++ acc))) L (.dT (putK (enc V.int lv) (encK p) (.int (lx - m))))) L = some (.dT (enc V.int (put lv p (lx - m)))) := by
            rw [upd_same]
            exact congrArg (fun z => some (HO.dT z)) (enc_put V.int p (lx - m) lv)
          have hWL : W ≠ L := ne_of hW5 hL5 (by intro z; cases z)
          have hGL : G ≠ L := ne_of hG5.1 hL5 (by intro z; cases z)
          have hG6 : GiftsR (upd (upd H4 M (.lst ([.int (lack k), .int lx] ++ acc))) L (.dT (putK (enc V.int lv) (encK p) (.int (lx - m))))) G gs kvs := by
            refine ⟨by rw [upd_ne hGL]; exact hG5.1, All2.of hG5.2.length fun j a b ha hb => ?_⟩
            obtain ⟨b', hb', r⟩ := hG5.2.get ha
            have : b' = b := Option.some.inj (hb'.symm.trans hb)
            subst this
            have : a ≠ L := fun z => hLg (z ▸ List.mem_of_getElem? ha)
            show (upd _ L _) a = _
            rw [upd_ne this]
            exact r
          -- for one, got, given_up in way
          refine ⟨_, rfl, W, rfl, ⟨_, SqL.of (by rw [upd_ne hWL]; exact hW5)⟩, for_list (K := K) (a := W) (xs := ys) (fun i σ H7 => ∃ kv7 v11 v12 v13, σ = [some v, some u, some (.ref G), some (.ref L), some (.int (k : Int)), some (.int (lack k)), some (.ref Pa), some (.ref D), some (.ref cp), some (.ref W), some (.int m), v11, v12, v13] ∧
              But (L :: gs) H H7 ∧ Keep (upd H4 M (.lst ([.int (lack k), .int lx] ++ acc))) H7 ∧ H7 W = some (.lst ys) ∧ GiftsR H7 G gs kv7 ∧ H7 L = some (.dT (enc V.int (put lv p (lx - m)))) ∧ gOf kv7 = push m (gOf kvs) (way.take i) ∧ (∀ kv ∈ kv7, DK kv) ∧ kv7.length = kvs.length ∧
              ∀ (j : Nat) (q : Part), (∃ kv x, kvs[j]? = some kv ∧ look kv q = some x) → ∃ kv x, kv7[j]? = some kv ∧ look kv q = some x)
            ⟨kvs, none, none, none, rfl, hb6, k6, by rw [upd_ne hWL]; exact hW5, hG6, hL6, rfl, gok.ok, rfl, fun j q h => h⟩ (fun i σ H7 _ ⟨_, _, _, _, _, _, _, h, _⟩ => SqL.of h) ?_ ?_⟩
          · rintro i y σ H7 hi ⟨kv7, v11, v12, v13, rfl, hb7, k7, hW7, hG7, hL7, hpush, hdk7, hl7, hkeys7⟩
            obtain ⟨e, he, c, pv', ov, rfl, hc, hpv, hov⟩ := hys5.get hi
            have hc7 := tup_keep k7 hc
            obtain ⟨cg, rfl, hcg⟩ := PartR.mo _ _ _ _ k7 hpv
            have hov7 := OptPart.mo _ _ _ _ k7 hov
            have hin := List.mem_of_getElem? he
            obtain ⟨w1, hw1, e1, _, e3⟩ := hwok.ok _ hin
            have w1ok := wok.all w1 (List.mem_of_getElem? hw1)
            have hlt : e.1 < kv7.length := by rw [hl7, gok.len]; exact (List.getElem?_eq_some_iff.mp hw1).1
            obtain ⟨ga, hga, hgd⟩ := hG7.2.get' (List.getElem?_eq_getElem hlt)
            have hget := List.getElem?_eq_getElem hlt
            generalize kv7[e.1] = kv at hgd hget
            have hdk := hdk7 kv (List.mem_of_getElem? hget)
            have hgot : e.2.1.1 ∈ FM ∧ e.2.1.2 ∈ SH := ⟨by rw [e1]; exact w1ok.fm, e3⟩
            have hgaW : W ≠ ga := ne_of hW7 hgd (by intro z; cases z)
            have hgain : ga ∈ L :: gs := List.mem_cons_of_mem _ (List.mem_of_getElem? hga)
            have hgaL : L ≠ ga := fun z => hLg (z ▸ List.mem_of_getElem? hga)
            have ga1 : atI (gs.map V.ref) (e.1 : Int) = some (.ref ga) := atI_nat (by rw [List.getElem?_map, hga]; rfl)
            refine ⟨c, _, rfl, SqT.of hc7, rfl, _, _, rfl, _, _, rfl, _, _, rfl, rfl, ?_⟩
            dsimp only [List.set]
            -- gifts[one][got] = gifts[one].get(got, 0) + many
            refine ⟨_, rfl, _, rfl, G, _, _, _, rfl, rfl, SqL.of hG7.1, ga1, ga, rfl, .inr ⟨_, .inl hgd⟩, _, rfl, _, DGet.t (k := encK e.2.1) hgd hcg, ?_⟩
            rw [enc_val, getD_int]
            refine ⟨_, rfl, _, _, rfl, rfl, _, rfl, _, rfl, G, _, _, _, rfl, rfl, SqL.of hG7.1, ga1, _, rfl, ga, _, rfl, DPut.t (k := encK e.2.1) hgd hcg (by rw [enc_len]; exact sz_lt (by have := hdk.len; omega)), ?_⟩
            have hdk8 := hdk.put hgot ((look kv e.2.1).getD 0 + m)
            have eput : enc V.int (put kv e.2.1 ((look kv e.2.1).getD 0 + m)) = putK (enc V.int kv) (encK e.2.1) (.int ((look kv e.2.1).getD 0 + m)) := (enc_put V.int e.2.1 ((look kv e.2.1).getD 0 + m) kv).symm
            rw [← eput]
            have k8 : Keep H7 (upd H7 ga (.dT (enc V.int (put kv e.2.1 ((look kv e.2.1).getD 0 + m))))) := Keep.dT hgd
            have hG8 := hG7.put gnd hga (put kv e.2.1 ((look kv e.2.1).getD 0 + m))
            have hb8 := hb7.upd (o := .dT (enc V.int (put kv e.2.1 ((look kv e.2.1).getD 0 + m)))) (.inl hgain)
            have hgd8 : (upd H7 ga (.dT (enc V.int (put kv e.2.1 ((look kv e.2.1).getD 0 + m))))) ga = some (.dT (enc V.int (put kv e.2.1 ((look kv e.2.1).getD 0 + m)))) := upd_same
            refine ⟨_, rfl, rfl, _, rfl, ?_⟩
            have fin : ∀ H9 (v11 v12 v13 : Option V), But (L :: gs) H H9 → Keep H7 H9 → H9 W = some (.lst ys) → GiftsR H9 G gs (kv7.set e.1 (stepKv kv m e)) → H9 L = some (.dT (enc V.int (put lv p (lx - m)))) → DK (stepKv kv m e) →
                ∃ kv9 v11' v12' v13', [some v, some u, some (.ref G), some (.ref L), some (.int (k : Int)), some (.int (lack k)), some (.ref Pa), some (.ref D), some (.ref cp), some (.ref W), some (.int m), v11, v12, v13] = [some v, some u, some (.ref G), some (.ref L), some (.int (k : Int)), some (.int (lack k)), some (.ref Pa), some (.ref D), some (.ref cp), some (.ref W), some (.int m), v11', v12', v13'] ∧
                But (L :: gs) H H9 ∧ Keep (upd H4 M (.lst ([.int (lack k), .int lx] ++ acc))) H9 ∧ H9 W = some (.lst ys) ∧ GiftsR H9 G gs kv9 ∧ H9 L = some (.dT (enc V.int (put lv p (lx - m)))) ∧ gOf kv9 = push m (gOf kvs) (way.take (i + 1)) ∧ (∀ kv ∈ kv9, DK kv) ∧ kv9.length = kvs.length ∧
                ∀ (j : Nat) (q : Part), (∃ kv x, kvs[j]? = some kv ∧ look kv q = some x) → ∃ kv x, kv9[j]? = some kv ∧ look kv q = some x := by
              intro H9 v11 v12 v13 hb9 k9 hW9 hG9 hL9 hdk9
              refine ⟨_, _, _, _, rfl, hb9, k7.trans k9, hW9, hG9, hL9, ?_, fun z hz => ?_, by rw [List.length_set]; exact hl7, fun j q hq => ?_⟩
              · rw [take_next he, push_snoc, ← hpush]
                exact step_push hget
              · rcases List.mem_or_eq_of_mem_set hz with z1 | z1
                · exact hdk7 z z1
                · rw [z1]; exact hdk9
              · obtain ⟨kv1, x, h1, h2⟩ := hkeys7 j q hq
                by_cases z : j = e.1
                · subst z
                  have e2 : kv1 = kv := Option.some.inj (h1.symm.trans hget)
                  subst e2
                  obtain ⟨x', hx'⟩ := stepKv_keys (m := m) (e := e) ⟨x, h2⟩
                  exact ⟨_, x', List.getElem?_set_self hlt, hx'⟩
                · exact ⟨kv1, x, by rw [List.getElem?_set_ne (fun q => z q.symm)]; exact h1, h2⟩
            obtain ⟨ei, ep, eo⟩ := e
            cases eo with
            | none =>
              have : ov = .non := hov7
              subst this
              refine ite_f rfl ?_
              exact fin _ _ _ _ hb8 k8 (by rw [upd_ne hgaW]; exact hW7) hG8 (by rw [upd_ne hgaL]; exact hL7) hdk8
            | some q =>
              obtain ⟨cq, rfl, hcq⟩ := show PartR H7 ov q from hov7
              refine ite_t rfl ?_
              have hg1 : 0 < gOf kvs ei q.1 q.2 := hwok.gives _ hin q rfl
              have hlt0 : ei < kvs.length := by rw [gok.len]; exact (List.getElem?_eq_some_iff.mp hw1).1
              have hge := gOf_at (List.getElem?_eq_getElem hlt0) q.1 q.2
              rw [hge] at hg1
              obtain ⟨x, hx⟩ := look_of_pos (p := q) hg1
              obtain ⟨kv1, x1, h1, h2⟩ := hkeys7 ei q ⟨_, x, List.getElem?_eq_getElem hlt0, hx⟩
              have e2 : kv1 = kv := Option.some.inj (h1.symm.trans hget)
              subst e2
              have hqok : q.1 ∈ FM ∧ q.2 ∈ SH := hdk.ok q (List.mem_map.mpr ⟨_, look_mem h2, rfl⟩)
              obtain ⟨x8, hx8⟩ : ∃ x8, look (put kv1 ep ((look kv1 ep).getD 0 + m)) q = some x8 := by
                rw [look_put]
                split
                · exact ⟨_, rfl⟩
                · exact ⟨x1, h2⟩
              have hcq8 := tup_keep k8 hcq
              have hl8 : (enc V.int (put kv1 ep ((look kv1 ep).getD 0 + m))).length < sizeLine := by
                rw [enc_len]; exact Nat.lt_of_le_of_lt hdk8.len (sz_lt (by decide))
              refine ⟨_, rfl, _, rfl, G, _, _, _, rfl, rfl, SqL.of hG8.1, ga1, _, rfl, ga, _, rfl, DGet.t' (k := encK q) hgd8 hcq8 (enc_some hx8), _, rfl, _, _, rfl, rfl, _, rfl, _, rfl, G, _, _, _, rfl, rfl, SqL.of hG8.1, ga1, _, rfl, ga, _, rfl, DPut.t (k := encK q) hgd8 hcq8 hl8, ?_⟩
              have eput2 : enc V.int (put (put kv1 ep ((look kv1 ep).getD 0 + m)) q (x8 - m)) = putK (enc V.int (put kv1 ep ((look kv1 ep).getD 0 + m))) (encK q) (.int (x8 - m)) := (enc_put V.int q (x8 - m) _).symm
              rw [← eput2]
              have hst : stepKv kv1 m (ei, ep, some q) = put (put kv1 ep ((look kv1 ep).getD 0 + m)) q (x8 - m) := by
                show put (put kv1 ep _) q ((look (put kv1 ep _) q).getD 0 - m) = _
                rw [hx8]; rfl
              have hG9 := hG8.put gnd hga (put (put kv1 ep ((look kv1 ep).getD 0 + m)) q (x8 - m))
              rw [List.set_set, ← hst] at hG9
              have k9 := k8.trans (Keep.dT (o := .dT (enc V.int (put (put kv1 ep ((look kv1 ep).getD 0 + m)) q (x8 - m)))) hgd8)
              refine fin _ _ _ _ (hb8.upd (.inl hgain)) k9 (by rw [upd_ne hgaW, upd_ne hgaW]; exact hW7) ?_ (by rw [upd_ne hgaL, upd_ne hgaL]; exact hL7) (by rw [hst]; exact hdk8.put hqok _)
              rw [← hst]
              exact hG9
          · rintro σ H7 ⟨kv7, v11, v12, v13, rfl, hb7, k7, hW7, hG7, hL7, hpush, hdk7, hl7, hkeys7⟩
            rw [hys.length, take_all] at hpush
            refine ⟨_, rfl, _, rfl, (by show 2 ≤ sizeLine; decide), fun t2 nt2 => ?_⟩
            have s8 : Same H7 (upd H7 t2 (.tup [.int m, .ref D])) := same_new nt2
            have hlOf : lOf (put lv p (lx - m)) = fun f s => lOf lv f s - (if p = (f, s) then m else 0) := by
              funext f s
              unfold lOf
              rw [getD_put]
              by_cases z : (f, s) = p
              · rw [if_pos z, if_pos z.symm, z, hlx]; rfl
              · rw [if_neg z, if_neg (fun q => z q.symm)]; omega
            refine kq t2 _ m (.ref D) kv7 (put lv p (lx - m)) (hb7.trans (But.of s8)) upd_same (hG7.same s8) (s8 _ _ hL7) ⟨by rw [hl7, gok.len], hdk7, gok.lv.put hpok _⟩ (Int.le_of_lt hm0) hmk ?_ (fun R hR => ?_) (fun z => by omega)
            · rw [hpush, hlOf]
              exact push_ok SH_nd fl hwok hm0 hmk hml hmg
            · rw [hpush, hlOf]
              exact closed_push hR hwok hpos
end
end Pk
end
section
set_option Elab.async false
set_option linter.all false
set_option maxRecDepth 100000
set_option maxHeartbeats 8000000
namespace Pk
open PySem PySem.Spec PyProof.Rows L2 FL
theorem same_but {H H1 H2 : Hp} {S : List Addr} (s : Same H H1) (b : But S H1 H2) (h : ∀ a ∈ S, H a = none) : Same H H2 := fun a o e => b a o (fun z => by rw [h a z] at e; cases e) (s a o e)
/-- d.update(e), keys ints and texts -/
def tDUpd (td ty : TE) : TE := fun σ H Q => td σ H fun x H1 => ∃ a, x = .ref a ∧ IsD H1 a ∧ ty σ H1 fun y H2 => ∃ (kvs more : List (Key × V)) (b : Addr), H2 a = some (.dK kvs) ∧ y = .ref b ∧ H2 b = some (.dK more) ∧ a ≠ b ∧ kvs.length + more.length ≤ sizeLine ∧ Q .non (upd H2 a (.dK (mergeK kvs more)))
section
variable {X : Cx} {o e : Expr} {td ty : TE} {apos cpos : Pos}
theorem d_upd {pins : List (Addr × Obj)} {σ : L2.St} {H : Hp} {s : Shared} {a b : Addr} {A : Around} {E : Value → Shared → Prop} {kvs more : List (Key × V)} {Q : Value → Shared → Prop} (I : Inv X pins σ H s) (e : H a = some (.dK kvs)) (eb : H b = some (.dK more)) (ne : a ≠ b)
    (hl : kvs.length + more.length ≤ sizeLine) (h : ∀ (s' : Shared), Inv X pins σ (upd H a (.dK (mergeK kvs more))) s' → Q .none s') : wpAny (model X.prog X.w) A (call (.builtin "dict.update") [.ref a, .ref b]) Q E s := by
  obtain ⟨z, hd, vs, rel, dd⟩ := dk_of I.hok e
  obtain ⟨z2, hd2, vs2, rel2, dd2⟩ := dk_of I.hok eb
  have l1 := Paired.length rel
  have l2 := Paired.length rel2
  refine call_meetsIn PySem.F.slot_dict_update dd.typeIs PySem.F.entry_dict_update (PySem.F.args_dict_update_2 _ _) (meets_dict_update (mixKind X.prog X.w) a b ne hd2) ⟨vs, vs2, dd, dd2, by omega, fun h' dd' _ hs => ?_⟩
  have hz : (mergeK kvs more).length ≤ sizeLine := Nat.le_trans (length_mergeK more kvs) hl
  have he : ∃ q, h'.get? a = some q := let ⟨q, _, _, hq, _⟩ := dd'; ⟨q, hq⟩
  exact h _ (d_write (t' := s.toks) I (by rw [e]; exact True.intro) hs he (dk_new hz hd (rel2.merge rel) dd'))
theorem pe_dupd (ho : PE X o td) (he : PE X e ty) (m : M1 X o "update" apos e cpos := by exact ⟨rfl, rfl, rfl, rfl⟩) : PE X (.Call (.Attribute o "update" apos) [e] [] cpos) (tDUpd td ty) := by
  refine ⟨fun pins s σ H Q I h => ?_⟩
  refine wpAny_Call_method m.base m.few m.line PySem.F.plainAttrs_dict PySem.F.slot_dict_update PySem.F.type_dict_update (thn (ho.run pins s σ H _ I h) fun u s1 ⟨x, H1, I1, rx, a, ex, d, q1⟩ => ?_)
  subst ex
  obtain rfl : u = Value.ref a := rx
  obtain ⟨t1, t2, _⟩ := isD_at I1 d
  refine ⟨t1, t2, ?_⟩
  rw [m.trees]
  refine Calls.callWith_builtin rfl (Calls.evalArgs_plain (Calls.spliced_cons (thn (he.run pins s1 σ H1 _ I1 q1) fun iv s2 ⟨y, H2, I2, ry, kvs, more, b, ea, ey, eb, ne, hl, q2⟩ => Calls.spliced_nil ?_)))
  subst ey
  obtain rfl : iv = Value.ref b := ry
  exact d_upd I2 ea eb ne hl fun s3 I3 => ⟨.non, _, I3, rfl, q2⟩
end
theorem mem_putK {kvs : List (Key × V)} {k x : Key} {v : V} : x ∈ (putK kvs k v).map (·.1) ↔ x ∈ kvs.map (·.1) ∨ x = k := by
  unfold putK
  split
  · rename_i h
    rw [List.map_map]
    have e : (fun kv : Key × V => kv.1) ∘ (fun kv : Key × V => if kv.1 = k then (kv.1, v) else kv) = fun kv => kv.1 := by
      funext kv
      show (if kv.1 = k then (kv.1, v) else kv).1 = kv.1
      split <;> rfl
    rw [e]
    constructor
    · exact .inl
    · rintro (z | z)
      · exact z
      · subst z
        obtain ⟨kv, hkv, e2⟩ := List.any_eq_true.mp h
        have : kv.1 = x := of_decide_eq_true e2
        rw [← this]
        exact List.mem_map_of_mem (f := fun kv : Key × V => kv.1) hkv
  · rw [List.map_append, List.mem_append]
    simp
theorem mem_mergeK {x : Key} : ∀ {more kvs : List (Key × V)}, x ∈ (mergeK kvs more).map (·.1) ↔ x ∈ kvs.map (·.1) ∨ x ∈ more.map (·.1)
  | [], kvs => by
    show x ∈ kvs.map (·.1) ↔ _
    simp
  | p :: r, kvs => by
    show x ∈ (mergeK (putK kvs p.1 p.2) r).map (·.1) ↔ _
    rw [mem_mergeK (more := r), mem_putK, List.map_cons, List.mem_cons]
    constructor
    · rintro ((h | h) | h)
      · exact .inl h
      · exact .inr (.inl h)
      · exact .inr (.inr h)
    · rintro (h | h | h)
      · exact .inl (.inl h)
      · exact .inl (.inr h)
      · exact .inr h
theorem putK_nodup {kvs : List (Key × V)} {k : Key} {v : V} (h : (kvs.map (·.1)).Nodup) : ((putK kvs k v).map (·.1)).Nodup := by
  unfold putK
  split
  · rw [List.map_map]
    have e : (fun kv : Key × V => kv.1) ∘ (fun kv : Key × V => if kv.1 = k then (kv.1, v) else kv) = fun kv => kv.1 := by
      funext kv
      show (if kv.1 = k then (kv.1, v) else kv).1 = kv.1
      split <;> rfl
    rw [e]
    exact h
  · rename_i hn
    rw [List.map_append, List.nodup_append]
    refine ⟨h, by simp, fun a ha b hb z => hn ?_⟩
    have : b = k := by simpa using hb
    obtain ⟨kv, hkv, e⟩ := List.mem_map.mp ha
    exact List.any_eq_true.mpr ⟨kv, hkv, decide_eq_true (by rw [e, z, this])⟩
theorem mergeK_nodup : ∀ {more kvs : List (Key × V)}, (kvs.map (·.1)).Nodup → ((mergeK kvs more).map (·.1)).Nodup
  | [], _, h => h
  | p :: r, kvs, h => mergeK_nodup (more := r) (kvs := putK kvs p.1 p.2) (putK_nodup h)
theorem ixN_at {n j : Nat} (hj : j < n) : ixN n (j : Int) = some j := by
  unfold ixN
  rw [if_pos (by omega), if_pos (by omega)]
  rfl
def lkOf (lk : List Int) (j : Nat) : Int := (lk[j]?).getD 0
theorem lkOf_set {lk : List Int} {k : Nat} (hk : k < lk.length) (v : Int) (j : Nat) : lkOf (lk.set k v) j = if j = k then v else lkOf lk j := by
  unfold lkOf
  by_cases z : j = k
  · subst z
    rw [List.getElem?_set_self hk, if_pos rfl]
    rfl
  · rw [List.getElem?_set_ne (fun q => z q.symm), if_neg z]
/-- what led keeps on the heap -/
structure LedH (ws : List (Want Str Str)) (rows : List Row) (H0 H : Hp) (G L Kl : Addr) (gs : List Addr) (kvs : List (List (Part × Int))) (lv : List (Part × Int)) (lk : List Int) : Prop where
  s : Same H0 H
  g : GiftsR H G gs kvs
  l : H L = some (.dT (enc V.int lv))
  k : H Kl = some (.lst (lk.map V.int))
  gok : GivesOK ws kvs lv
  lkl : lk.length = ws.length
  fl : FlowOK SH (cnt rows) ws (gOf kvs) (lOf lv) (lkOf lk)
theorem LedH.same {ws : List (Want Str Str)} {rows : List Row} {H0 H H' : Hp} {G L Kl : Addr} {gs : List Addr} {kvs : List (List (Part × Int))} {lv : List (Part × Int)} {lk : List Int} (h : LedH ws rows H0 H G L Kl gs kvs lv lk) (s : Same H H') : LedH ws rows H0 H' G L Kl gs kvs lv lk :=
  ⟨h.s.trans s, h.g.same s, s _ _ h.l, s _ _ h.k, h.gok, h.lkl, h.fl⟩
theorem flow_start {ws : List (Want Str Str)} (wok : WantsOK ws) {rows : List Row} (hok : HeapOK rows) {lv : List (Part × Int)} (hc : CD lv (cnt rows)) : FlowOK SH (cnt rows) ws (gOf (ws.map fun _ => [])) (lOf lv) (lkOf (ws.map fun w => w.2.2)) := by
  have g0 : ∀ j f s, gOf (ws.map fun _ => ([] : List (Part × Int))) j f s = 0 := fun j f s => by
    unfold gOf
    rw [List.getElem?_map]
    cases ws[j]? <;> rfl
  have l0 : ∀ f s, lOf lv f s = cnt rows f s := fun f s => hc.eq f s
  refine ⟨fun k f s => by rw [g0]; exact Int.le_refl 0, fun f s => by rw [l0]; exact cnt_nonneg hok.1 f s, fun k => ?_, fun f s => ?_, fun k w hw => ?_, fun k f s h => by rw [g0] at h; omega⟩
  · unfold lkOf
    rw [List.getElem?_map]
    cases h : ws[k]? with
    | none => exact Int.le_refl 0
    | some w =>
      have := (wok.all w (List.mem_of_getElem? h)).lo
      show 0 ≤ w.2.2
      omega
  · rw [su_zero fun a _ => g0 a f s, l0]
    omega
  · rw [su_zero fun s _ => g0 k w.1 s]
    unfold lkOf
    rw [List.getElem?_map, hw]
    show 0 + w.2.2 = w.2.2
    omega
theorem CD.dk {kv : List (Part × Int)} {c : Str → Str → Int} (h : CD kv c) : DK kv := ⟨h.nd, fun p hp => by
  obtain ⟨e, he, rfl⟩ := List.mem_map.mp hp
  exact ⟨(h.ok e he).1, (h.ok e he).2.1⟩⟩
/-- the wants below n with a lack each stand in a closed set -/
def ShutAt (ws : List (Want Str Str)) (g : Nat → Str → Str → Int) (l : Str → Str → Int) (lack : Nat → Int) (n : Nat) : Prop := ∀ k, k < n → 0 < lack k → ∃ R : Nat → Prop, R k ∧ Closed SH ws g l R
def muLed (Kl : Addr) (k : Nat) (σ : L2.St) (H : Hp) : Nat := (match H Kl with
  | some (.lst xs) => match xs[k]? with
    | some (V.int a) => 2 * a.toNat
    | _ => 0
  | _ => 0) + (match σ[6]? with
  | some (some (V.int m)) => if 0 < m then 1 else 0
  | _ => 0)
section
variable {P : Program} {w : World} {K : PySem.W.Frag} {mg : Str → Option Value} {base : Heap} {C : Addr}
def spLed (C : Addr) : Sp := fun vs H Q _ => ∃ v rows u ws, vs = [v, u] ∧ HeapR C H v rows ∧ HeapOK rows ∧ WantsR H u ws ∧ WantsOK ws ∧
  ∀ t H' G gs kvs L lv Kl R (rs : List Int) lack, Same H H' → H' t = some (.tup [.ref G, .ref L, .ref Kl, .ref R]) → GiftsR H' G gs kvs → GivesOK ws kvs lv → H' R = some (.lst (rs.map V.int)) → FlowOK SH (cnt rows) ws (gOf kvs) (lOf lv) lack →
    Closed SH ws (gOf kvs) (lOf lv) (fun i => ((i : Nat) : Int) ∈ rs) → (∀ i ∈ rs, ∃ (j k : Nat) (x y : Want Str Str), i = (j : Int) ∧ ws[j]? = some x ∧ ws[k]? = some y ∧ x.1 = y.1 ∧ 0 < lack k ∧ (k : Int) ∈ rs) →
    (∀ k, k < ws.length → 0 < lack k → ((k : Nat) : Int) ∈ rs) → rs.Nodup → Q (.ref t) H'
theorem sc_led : FnScope ["heap", "wants", "gifts", "left", "lacks", "k", "many", "holders", "reached", "want"] ["heap", "wants"] (defScope s_led) := ⟨rfl, rfl, rfl, by decide +kernel, rfl, by decide +kernel, by decide +kernel⟩
theorem c_led (T : Txt K mg C) : Cal P w K mg base CX0 5 "led" ["heap", "wants"] (spLed C) := by
  have C_spread : Cal P w K mg base CX0 3 "spread" ["heap", "wants", "gifts", "left", "k"] (spSpread C) := c_spread T
  have C_lead : Cal P w K mg base CX0 4 "lead" ["heap", "wants", "gifts", "left", "k", "most"] (spLead C) := c_lead T
  have C_parts_left : Cal P w K mg base CX0 2 "parts_left" ["heap"] (spPartsLeft C) := c_parts_left T
  refine Cal.mk' T.d_led sc_led (fun vs H Q E h => ?_) (fun _ _ _ _ _ _ us hl => match us, hl with | [_, _], _ => rfl) (fun f cdv A outer s H vs Q E hr h => ?_)
  · obtain ⟨v, rows, u, ws, rfl, _⟩ := h
    rfl
  · obtain ⟨v, rows, u, ws, rfl, hv0, hok, hws, wok, kq⟩ := h
    have sc := sc_led
    have hu := hu_of hr
    obtain ⟨wa, wxs, rfl, hwa, hwall⟩ := id hws
    have hwl : wxs.length = ws.length := hwall.length
    have hn6 := wok.len
    refine ⟨_, (pss_cons (ps_setLc (i := 2) (own := [("want", 9)]) rfl sc.nd rfl rfl (sw_true rfl rfl rfl (by decide +kernel)) (piT K (pv 1)) (blkOk_by (N := ["heap", "wants", "gifts", "left", "lacks", "k", "many", "holders", "reached", "want"]) (sc := defScope s_led) (own := [("want", 9)]) (by decide +kernel)) (fun _ _ _ _ _ => (pg_name (i := 9) sc.nd rfl (.inl rfl))) (fun _ _ _ _ _ => pts_nil) (fun _ _ _ _ _ => pe_dnewT))
      (pss_cons (ps_set (i := 3) sc.nd rfl (.inl rfl) (pe_cal C_parts_left hr (pa_cons (pv 0) pa_nil)))
      (pss_cons (ps_setLc (i := 4) (own := [("want", 9)]) rfl sc.nd rfl rfl (sw_true rfl rfl rfl (by decide +kernel)) (piT K (pv 1)) (blkOk_by (N := ["heap", "wants", "gifts", "left", "lacks", "k", "many", "holders", "reached", "want"]) (sc := defScope s_led) (own := [("want", 9)]) (by decide +kernel)) (fun _ _ _ _ _ => (pg_name (i := 9) sc.nd rfl (.inl rfl))) (fun _ _ _ _ _ => pts_nil) (fun _ _ _ _ _ => (pe_ix ixT (pv 9) pe_int (fun _ _ => rfl))))
      (pss_cons (ps_for PassesOwn.never rfl (pi_range1 rfl T.range (pa_cons (pe_callB len1 (by rfl) T.len PySem.boot_len (pa_cons (pv 1) pa_nil)) pa_nil)) (pg_name (i := 5) sc.nd rfl (.inl rfl)) (pss_cons (ps_set (i := 6) sc.nd rfl (.inl rfl) pe_int)
      (pss_one (ps_while PassesOwn.never (PW.pt (pw_and (pt_cmpR op_gt (pe_ix (ixL K) (pv 4) (pv 5) (fun _ _ => rfl)) pe_int (nomark _)) (pw_and1 (pt_cmpR op_gt (pv 6) pe_int (nomark _))))) (pss_cons (ps_asg (pe_cal C_lead hr (pa_cons (pv 0) (pa_cons (pv 1) (pa_cons (pv 2) (pa_cons (pv 3) (pa_cons (pv 5) (pa_cons (pe_ix (ixL K) (pv 4) (pv 5) (fun _ _ => rfl)) pa_nil))))))) (pgT K (n := 2) rfl (pgs_cons (pg_name (i := 6) sc.nd rfl (.inl rfl)) (pgs_cons (pg_name (i := 7) sc.nd rfl (.inl rfl)) pgs_nil))))
      (pss_one (ps_asg (pe_op op_sub (pe_ix (ixL K) (pv 4) (pv 5) (fun _ _ => rfl)) (pv 6)) (pg_sub (pv 4) (pv 5) set_list))))))))
      (pss_cons (ps_set (i := 8) sc.nd rfl (.inl rfl) pe_dnewK)
      (pss_cons (ps_for PassesOwn.never rfl (pi_range1 rfl T.range (pa_cons (pe_callB len1 (by rfl) T.len PySem.boot_len (pa_cons (pv 1) pa_nil)) pa_nil)) (pg_name (i := 5) sc.nd rfl (.inl rfl)) (pss_one (ps_if (pt_cmpR op_gt (pe_ix (ixL K) (pv 4) (pv 5) (fun _ _ => rfl)) pe_int (nomark _)) (pss_one (ps_expr (pe_dupd (pv 8) (pe_ix ixT (pe_cal C_spread hr (pa_cons (pv 0) (pa_cons (pv 1) (pa_cons (pv 2) (pa_cons (pv 3) (pa_cons (pv 5) pa_nil)))))) pe_int (fun _ _ => rfl))))) pss_nil)))
      (pss_one (ps_ret (pe_tup (pa_cons (pv 2) (pa_cons (pv 3) (pa_cons (pv 4) (pa_cons (pe_callB (call_sortedDI rfl) (by rfl) T.sorted (by decide +kernel) (pa_cons (pv 8) pa_nil)) pa_nil))))))))))))), ?_⟩
    -- gifts = [{} for want in wants]
    refine ⟨_, rfl, wa, rfl, ⟨_, SqT.of hwa⟩, fun G nG => ?_⟩
    refine lc_it (walk_tup (K := K) (a := wa) (xs := wxs)) (fun i Hh => Same H Hh ∧ ∃ as, Hh G = some (.lst (as.map V.ref)) ∧ as.length = i ∧ as.Nodup ∧ ∀ a ∈ as, Hh a = some (.dT []) ∧ H a = none)
      ⟨same_new nG, [], upd_same, rfl, List.nodup_nil, fun a ha => by simp at ha⟩ (fun i Hh _ h => SqT.of (h.1 _ _ hwa)) (fun i x H2 H3 hi hp hY => ?_) (fun Hg hg => ?_)
    · obtain ⟨s2, as, hG, hal, hand, has⟩ := hp
      obtain ⟨rfl, hy⟩ := hY
      refine ⟨rfl, yesT ?_⟩
      refine fun p np => ⟨as.map V.ref, same_new np _ _ hG, by rw [List.length_map]; exact sz_lt (by omega), same_mut (s2.trans (same_new np)) nG, as ++ [p], by rw [upd_same, List.map_append]; rfl, by simp; omega, ?_, fun a ha => ?_⟩
      · rw [List.nodup_append]
        refine ⟨hand, by simp, fun a ha b hb z => ?_⟩
        have : b = p := by simpa using hb
        rw [z, this] at ha
        rw [(has p ha).1] at np
        cases np
      · have hGp : p ≠ G := fun z => by rw [z, hG] at np; cases np
        rcases List.mem_append.mp ha with z | z
        · refine ⟨?_, (has a z).2⟩
          have h1 := same_new (o := .dT []) np _ _ (has a z).1
          rw [upd_ne (ne_of h1 (same_new (o := .dT []) np _ _ hG) (by intro z; cases z))]
          exact h1
        · have : a = p := by simpa using z
          subst this
          refine ⟨by rw [upd_ne hGp, upd_same], ?_⟩
          cases z2 : H a with
          | none => rfl
          | some o => rw [s2 _ _ z2] at np; cases np
    obtain ⟨sg, gs, hG0, hgl, gnd, hgs⟩ := hg
    rw [hwl] at hgl
    have hGR : GiftsR Hg G gs (ws.map fun _ => []) := ⟨hG0, All2.of (by rw [List.length_map]; exact hgl) fun j a b ha hb => by
      rw [List.getElem?_map] at hb
      cases z : ws[j]? with
      | none => rw [z] at hb; cases hb
      | some x =>
        rw [z] at hb
        cases Option.some.inj hb
        exact (hgs a (List.mem_of_getElem? ha)).1⟩
    -- left = parts_left(heap)
    refine ⟨_, rfl, _, rows, rfl, HeapR.mo _ _ _ _ (Keep.of sg) hv0, hok, fun L lv H1 nL s1 hL hc => ?_⟩
    have nL0 : H L = none := by
      cases z : H L with
      | none => rfl
      | some o => rw [sg _ _ z] at nL; cases nL
    have hLg : L ∉ gs := fun z => by rw [(hgs L z).1] at nL; cases nL
    have sA := sg.trans s1
    -- lacks = [want[2] for want in wants]
    refine ⟨_, rfl, wa, rfl, ⟨_, SqT.of (sA _ _ hwa)⟩, fun Kl nKl => ?_⟩
    have nKl0 : H Kl = none := by
      cases z : H Kl with
      | none => rfl
      | some o => rw [sA _ _ z] at nKl; cases nKl
    refine lc_typed (walk_tup (K := K) (a := wa) (xs := wxs)) nKl IntR IntR.mo (fun i => (ws[i]?).map fun x => x.2.2) (by omega) (fun H3 s3 => SqT.of (s3 _ _ (sA _ _ hwa))) (fun i y H3 H4 hi s3 hY kt kf => ?_) (fun H2 acc s2 hKl hacc => ?_)
    · obtain ⟨rfl, hy⟩ := hY
      obtain ⟨x, hx, b, b2, rfl, hb, hb2⟩ := hwall.get hy
      refine ⟨rfl, yesT ?_⟩
      refine ⟨_, rfl, b, _, _, _, rfl, rfl, s3 _ _ (sA _ _ hb), at2, ?_⟩
      refine kt _ _ x.2.2 (Same.refl _) ?_ rfl
      show (ws[i]?).map _ = _
      rw [hx]
      rfl
    · rw [hwl, filterMap_get] at hacc
      have hacc' := all2_int hacc
      subst hacc'
      have led0 : LedH ws rows H H2 G L Kl gs (ws.map fun _ => []) lv (ws.map fun w => w.2.2) :=
        ⟨sA.trans s2, (hGR.same s1).same s2, s2 _ _ hL, hKl, ⟨by rw [List.length_map], fun kv hkv => by
          obtain ⟨_, _, rfl⟩ := List.mem_map.mp hkv
          exact DK.nil, hc.dk⟩, by rw [List.length_map], flow_start wok hok hc⟩
      have hfree : ∀ a ∈ L :: gs, H a = none := fun a ha => by
        rcases List.mem_cons.mp ha with rfl | ha
        · exact nL0
        · exact (hgs a ha).2
      -- for k in range(len(wants))
      refine ⟨_, rfl, wa, _, rfl, .inr (led0.s _ _ hwa), _, rfl, by omega, by omega, for_range (fun kk σ H3 => ∃ kvs lv lk v5 v6 v7, σ = [some v, some (.ref wa), some (.ref G), some (.ref L), some (.ref Kl), v5, v6, v7, none, none] ∧ LedH ws rows H H3 G L Kl gs kvs lv lk ∧ ShutAt ws (gOf kvs) (lOf lv) (lkOf lk) kk)
        ⟨_, _, _, none, none, none, rfl, led0, fun k hk => by omega⟩ ?_ ?_⟩
      · rintro kk σ H3 hkk ⟨kvs, lv, lk, v5, v6, v7, rfl, led, shut⟩
        have hkk' : kk < ws.length := by
          rw [← hwl]
          exact hkk
        rw [Int.zero_add]
        -- many = 1
        refine while_by (fun σ H4 => ∃ kvs lv lk m v7, σ = [some v, some (.ref wa), some (.ref G), some (.ref L), some (.ref Kl), some (.int (kk : Int)), some (.int m), v7, none, none] ∧ LedH ws rows H H4 G L Kl gs kvs lv lk ∧ ShutAt ws (gOf kvs) (lOf lv) (lkOf lk) kk ∧ 0 ≤ m ∧
            (m = 0 → ∃ R : Nat → Prop, R kk ∧ Closed SH ws (gOf kvs) (lOf lv) R)) (fun σ H4 => muLed Kl kk σ H4) ⟨kvs, lv, lk, 1, v7, rfl, led, shut, by omega, fun z => by omega⟩ ?_ ?_
        · rintro σ H4 ⟨kvs, lv, lk, m, v7, rfl, led, shut, hm0, hmz⟩
          have hkl : kk < lk.length := by rw [led.lkl]; exact hkk'
          have hlkat : lk[kk]? = some (lkOf lk kk) := by
            unfold lkOf
            rw [List.getElem?_eq_getElem hkl]
            rfl
          have hat : atI (lk.map V.int) (kk : Int) = some (.int (lkOf lk kk)) := atI_nat (by rw [List.getElem?_map, hlkat]; rfl)
          refine ⟨_, rfl, _, rfl, Kl, _, _, _, rfl, rfl, SqL.of led.k, hat, _, _, rfl, rfl, _, rfl, ite2 (fun hg => ?_) (fun hg => ?_)⟩
          · refine ⟨_, rfl, _, _, rfl, rfl, _, rfl, ite2 (fun hg2 => ?_) (fun hg2 => ?_)⟩
            · have hpos : 0 < lkOf lk kk := of_decide_eq_true hg
              have hm : 0 < m := of_decide_eq_true hg2
              refine ⟨_, rfl, _, rfl, _, rfl, _, rfl, _, rfl, _, rfl, _, rfl, Kl, _, _, _, rfl, rfl, SqL.of led.k, hat, ?_⟩
              refine ⟨v, rows, _, ws, G, L, kk, gs, kvs, lv, lkOf lk, rfl, HeapR.mo _ _ _ _ (Keep.of led.s) hv0, hok, WantsR.mo _ _ _ _ (Keep.of led.s) hws, wok, led.g, gnd, hLg, led.gok, led.l, led.fl, hkk', hpos, fun t H5 m2 hd kvs5 lv5 but ht hG5 hL5 gok5 h0 hle fl5 cl5 hz5 => ?_⟩
              have s5 := same_but led.s but hfree
              have hKn : Kl ∉ L :: gs := fun z => by
                rcases List.mem_cons.mp z with z | z
                · exact ne_of led.k led.l (by intro q; cases q) z
                · obtain ⟨i, hi⟩ := List.mem_iff_getElem?.mp z
                  obtain ⟨b, _, hb⟩ := led.g.2.get hi
                  rw [led.k] at hb
                  cases hb
              have hK5 := but _ _ hKn led.k
              refine ⟨t, _, rfl, SqT.of ht, rfl, _, _, rfl, _, _, rfl, rfl, ?_⟩
              refine ⟨_, rfl, _, rfl, Kl, _, _, _, rfl, rfl, SqL.of hK5, hat, _, rfl, _, _, rfl, rfl, _, rfl, _, rfl, Kl, _, (kk : Int), kk, rfl, rfl, hK5, ?_, ?_⟩
              · rw [List.length_map]
                exact ixN_at hkl
              · have el : (lk.map V.int).set kk (.int (lkOf lk kk - m2)) = (lk.set kk (lkOf lk kk - m2)).map V.int := by rw [List.map_set]
                rw [el]
                have hKL : L ≠ Kl := ne_of hL5 hK5 (by intro q; cases q)
                have hGK : G ≠ Kl := fun z => by
                  have h1 := s1 _ _ hG0
                  rw [z, nKl] at h1
                  cases h1
                have hlkf : lkOf (lk.set kk (lkOf lk kk - m2)) = fun j => lkOf lk j - if j = kk then m2 else 0 := by
                  funext j
                  rw [lkOf_set hkl]
                  by_cases z : j = kk
                  · rw [if_pos z, if_pos z, z]
                  · rw [if_neg z, if_neg z]; omega
                have led6 : LedH ws rows H (upd H5 Kl (.lst ((lk.set kk (lkOf lk kk - m2)).map V.int))) G L Kl gs kvs5 lv5 (lk.set kk (lkOf lk kk - m2)) := by
                  refine ⟨same_mut s5 nKl0, ⟨by rw [upd_ne hGK]; exact hG5.1, All2.imp hG5.2 fun a b e => ?_⟩, by rw [upd_ne hKL]; exact hL5, upd_same, gok5, by rw [List.length_set]; exact led.lkl, by rw [hlkf]; exact fl5⟩
                  rw [upd_ne (ne_of e hK5 (by intro q; cases q))]
                  exact e
                refine ⟨⟨kvs5, lv5, _, m2, _, rfl, led6, fun k hk hl => ?_, h0, hz5⟩, ?_⟩
                · rw [hlkf] at hl
                  have hl2 : 0 < lkOf lk k := by
                    have : ¬ k = kk := by omega
                    have hl' : 0 < lkOf lk k - (if k = kk then m2 else 0) := hl
                    rw [if_neg this] at hl'
                    omega
                  obtain ⟨R, hR, hcl⟩ := shut k hk hl2
                  exact ⟨R, hR, cl5 R hcl⟩
                · show muLed _ _ _ _ < muLed _ _ _ _
                  unfold muLed
                  rw [upd_same, led.k]
                  show (match ((lk.set kk (lkOf lk kk - m2)).map V.int)[kk]? with | some (V.int a) => 2 * a.toNat | _ => 0) + (if 0 < m2 then 1 else 0) < (match (lk.map V.int)[kk]? with | some (V.int a) => 2 * a.toNat | _ => 0) + (if 0 < m then 1 else 0)
                  rw [List.getElem?_map, List.getElem?_map, List.getElem?_set_self hkl, hlkat, if_pos hm]
                  show 2 * (lkOf lk kk - m2).toNat + _ < 2 * (lkOf lk kk).toNat + 1
                  split <;> omega
            · have hm1 : m = 0 := by
                have : ¬ 0 < m := fun z => hg2 (decide_eq_true z)
                omega
              refine ⟨kvs, lv, lk, _, _, _, rfl, led, fun k hk hl => ?_⟩
              by_cases z : k = kk
              · subst z
                exact hmz hm1
              · exact shut k (by omega) hl
          · refine ite_f rfl ?_
            refine ⟨kvs, lv, lk, _, _, _, rfl, led, fun k hk hl => ?_⟩
            by_cases z : k = kk
            · subst z
              exact absurd (decide_eq_true hl) hg
            · exact shut k (by omega) hl
        · rintro σ H Q Q' i ⟨v1, e1, v2, e2, a1, a2, a3, a4, e3, e4, e5, e6, i1, i2, e7, e8, c, e9, h⟩
          refine ⟨v1, e1, v2, e2, a1, a2, a3, a4, e3, e4, e5, e6, i1, i2, e7, e8, c, e9, ?_⟩
          split at h
          · rename_i z
            rw [if_pos z]
            obtain ⟨v1, e1, i1, i2, e2, e3, c, e4, h⟩ := h
            exact ⟨v1, e1, i1, i2, e2, e3, c, e4, i _ _ h⟩
          · rename_i z
            rw [if_neg z]
            exact i _ _ h
      · rintro σ H3 ⟨kvs, lv, lk, v5, v6, v7, rfl, led, shut⟩
        rw [show (wxs.length : Int).toNat = wxs.length from rfl, hwl] at shut
        -- reached = {}
        refine fun R nR => ?_
        have nR0 : H R = none := by
          cases z : H R with
          | none => rfl
          | some o => rw [led.s _ _ z] at nR; cases nR
        have ledR := led.same (same_new (o := .dK []) nR)
        refine ⟨_, rfl, wa, _, rfl, .inr (ledR.s _ _ hwa), _, rfl, by omega, by omega, for_range (fun kk σ H4 => ∃ rk v5, σ = [some v, some (.ref wa), some (.ref G), some (.ref L), some (.ref Kl), v5, v6, v7, some (.ref R), none] ∧ LedH ws rows H H4 G L Kl gs kvs lv lk ∧ H4 R = some (.dK rk) ∧ rk.length ≤ 6 * kk ∧ (rk.map (·.1)).Nodup ∧
            Closed SH ws (gOf kvs) (lOf lv) (fun i => (.inl ((i : Nat) : Int) : Key) ∈ rk.map (·.1)) ∧ (∀ x ∈ rk.map (·.1), ∃ (j k : Nat) (x' y : Want Str Str), x = .inl (j : Int) ∧ ws[j]? = some x' ∧ ws[k]? = some y ∧ x'.1 = y.1 ∧ 0 < lkOf lk k ∧ (.inl (k : Int) : Key) ∈ rk.map (·.1)) ∧
            ∀ k, k < kk → 0 < lkOf lk k → (.inl ((k : Nat) : Int) : Key) ∈ rk.map (·.1))
          ⟨[], _, rfl, ledR, upd_same, by simp, by simp, fun i w s h => by simp at h, fun x hx => by simp at hx, fun k hk => by omega⟩ ?_ ?_⟩
        · rintro kk σ H4 hkk ⟨rk, v5, rfl, led4, hR, hrl, hrn, hcl, hin, hall⟩
          have hkk' : kk < ws.length := by
            rw [← hwl]
            exact hkk
          rw [Int.zero_add]
          have hkl : kk < lk.length := by rw [led4.lkl]; exact hkk'
          have hlkat : lk[kk]? = some (lkOf lk kk) := by
            unfold lkOf
            rw [List.getElem?_eq_getElem hkl]
            rfl
          have hat : atI (lk.map V.int) (kk : Int) = some (.int (lkOf lk kk)) := atI_nat (by rw [List.getElem?_map, hlkat]; rfl)
          refine ⟨_, rfl, _, rfl, Kl, _, _, _, rfl, rfl, SqL.of led4.k, hat, _, _, rfl, rfl, _, rfl, ite2 (fun hg => ?_) (fun hg => ?_)⟩
          · have hpos : 0 < lkOf lk kk := of_decide_eq_true hg
            refine ⟨_, rfl, R, rfl, .inl ⟨_, .inl hR⟩, _, rfl, _, rfl, _, rfl, _, rfl, _, rfl, ?_⟩
            refine ⟨v, rows, _, ws, G, L, kk, gs, kvs, lv, lkOf lk, rfl, HeapR.mo _ _ _ _ (Keep.of led4.s) hv0, hok, WantsR.mo _ _ _ _ (Keep.of led4.s) hws, wok, led4.g, led4.gok.len, led4.l, led4.fl, hkk', fun t H5 Pa D hk pw hv o s5 nD ht hP hD hho sp hres => ?_⟩
            have hRD : R ≠ D := fun z => by rw [z] at hR; rw [hR] at nD; cases nD
            refine ⟨t, _, _, _, rfl, rfl, ht, at1, ?_⟩
            have hl5 : hk.length ≤ 6 := by
              have := hho.length
              have := sp.lenH
              omega
            have clo : Closed SH ws (gOf kvs) (lOf lv) (fun i => i ∈ hv.map (·.1)) := by
              rcases hres with ⟨_, cl⟩ | ⟨p, i, _, hlook, hpos2⟩
              · exact cl
              · obtain ⟨way, _, hwok, _⟩ := sp.way hlook
                obtain ⟨Rs, hRs, hcs⟩ := shut kk hkk' hpos
                have := closed_no_way hcs hRs hwok
                omega
            have hkeys : ∀ x : Key, x ∈ hk.map (·.1) ↔ ∃ j : Nat, x = .inl (j : Int) ∧ j ∈ hv.map (·.1) := fun x => by
              clear hD sp hres clo hl5
              induction hho with
              | nil => simp
              | cons r _ ih =>
                rw [List.map_cons, List.map_cons, List.mem_cons, ih, r.1]
                constructor
                · rintro (h | ⟨j, h1, h2⟩)
                  · exact ⟨_, h, by simp⟩
                  · exact ⟨j, h1, List.mem_cons_of_mem _ h2⟩
                · rintro ⟨j, h1, h2⟩
                  rcases List.mem_cons.mp h2 with z | z
                  · exact .inl (by rw [h1, z])
                  · exact .inr ⟨j, h1, z⟩
            have hin2 : ∀ j : Nat, (.inl (j : Int) : Key) ∈ hk.map (·.1) ↔ j ∈ hv.map (·.1) := fun j => by
              rw [hkeys]
              constructor
              · rintro ⟨j2, h1, h2⟩
                have : j = j2 := by have := Sum.inl.inj h1; omega
                rw [this]; exact h2
              · exact fun h => ⟨j, rfl, h⟩
            refine ⟨rk, hk, D, s5 _ _ hR, rfl, hD, hRD, sz_of (by omega), ?_⟩
            have led5 := led4.same s5
            have hR5 := s5 _ _ hR
            have hGR : G ≠ R := ne_of led5.g.1 hR5 (by intro z; cases z)
            have hLR : L ≠ R := ne_of led5.l hR5 (by intro z; cases z)
            have hKR : Kl ≠ R := ne_of led5.k hR5 (by intro z; cases z)
            refine ⟨mergeK rk hk, _, rfl, ⟨same_mut led5.s nR0, ⟨by rw [upd_ne hGR]; exact led5.g.1, All2.imp led5.g.2 fun a b e => ?_⟩, by rw [upd_ne hLR]; exact led5.l, by rw [upd_ne hKR]; exact led5.k, led5.gok, led5.lkl, led5.fl⟩, upd_same, ?_, mergeK_nodup hrn, ?_, ?_, ?_⟩
            · rw [upd_ne (ne_of e hR5 (by intro z; cases z))]
              exact e
            · have := length_mergeK hk rk
              omega
            · intro i x s hi hx hl hs
              have hi' := mem_mergeK.mp hi
              rcases hi' with z | z
              · exact ⟨(hcl i x s z hx hl hs).1, fun j hj => mem_mergeK.mpr (.inl ((hcl i x s z hx hl hs).2 j hj))⟩
              · have z' := (hin2 i).mp z
                exact ⟨(clo i x s z' hx hl hs).1, fun j hj => mem_mergeK.mpr (.inr ((hin2 j).mpr ((clo i x s z' hx hl hs).2 j hj)))⟩
            · intro x hx
              rcases mem_mergeK.mp hx with z | z
              · obtain ⟨j, k, x', y, h1, h2, h3, h4, h5, h6⟩ := hin x z
                exact ⟨j, k, x', y, h1, h2, h3, h4, h5, mem_mergeK.mpr (.inl h6)⟩
              · obtain ⟨j, h1, h2⟩ := (hkeys x).mp z
                obtain ⟨e, he, e2⟩ := List.mem_map.mp h2
                obtain ⟨x', y, h3, h4, h5⟩ := sp.fm e he
                exact ⟨j, kk, x', y, h1, by rw [← e2]; exact h3, h4, h5, hpos, mem_mergeK.mpr (.inr ((hin2 kk).mpr sp.k0))⟩
            · intro k hk2 hl
              by_cases z : k = kk
              · subst z
                exact mem_mergeK.mpr (.inr ((hin2 k).mpr sp.k0))
              · exact mem_mergeK.mpr (.inl (hall k (by omega) hl))
          · refine ⟨rk, _, rfl, led4, hR, by omega, hrn, hcl, hin, fun k hk hl => ?_⟩
            by_cases z : k = kk
            · subst z
              exact absurd (decide_eq_true hl) hg
            · exact hall k (by omega) hl
        · rintro σ H4 ⟨rk, v5, rfl, led4, hR, hrl, hrn, hcl, hin, hall⟩
          rw [show (wxs.length : Int).toNat = wxs.length from rfl, hwl] at hrl hall
          -- sorted(reached)
          have hints : ∃ ks : List Int, rk.map (·.1) = ks.map Sum.inl := by
            refine ⟨rk.map fun kv => match kv.1 with | .inl i => i | .inr _ => 0, ?_⟩
            rw [List.map_map]
            refine List.map_congr_left fun kv hkv => ?_
            obtain ⟨j, _, _, _, h1, _⟩ := hin kv.1 (List.mem_map_of_mem (f := (·.1)) hkv)
            show kv.1 = Sum.inl (match kv.1 with | .inl i => i | .inr _ => 0)
            rw [h1]
          obtain ⟨ks, hks⟩ := hints
          have hkl : ks.length ≤ 36 := by
            have := congrArg List.length hks
            rw [List.length_map, List.length_map] at this
            omega
          refine ⟨_, rfl, _, rfl, _, rfl, _, rfl, R, rk, ks, rfl, .inl hR, hks, by omega, fun ys p hperm _ np => ?_⟩
          refine ⟨(by show 4 ≤ sizeLine; decide), fun t nt => ?_⟩
          have s6 : Same H4 (upd H4 p (.lst (ys.map V.int))) := same_new np
          have s7 := s6.trans (same_new (o := .tup [.ref G, .ref L, .ref Kl, .ref p]) nt)
          have led7 := led4.same s7
          have hmem : ∀ x : Int, x ∈ ys ↔ (.inl x : Key) ∈ rk.map (·.1) := fun x => by
            rw [hperm.mem_iff, hks]
            constructor
            · exact fun h => List.mem_map_of_mem (f := Sum.inl) h
            · intro h
              obtain ⟨y, hy, e⟩ := List.mem_map.mp h
              have := Sum.inl.inj e
              rw [← this]; exact hy
          refine kq t _ G gs kvs L lv Kl p ys (lkOf lk) led7.s upd_same led7.g led7.gok (same_new (o := .tup [.ref G, .ref L, .ref Kl, .ref p]) nt _ _ upd_same) led7.fl ?_ ?_ ?_ ?_
          · intro i x s hi hx hl hs
            have := hcl i x s ((hmem _).mp hi) hx hl hs
            exact ⟨this.1, fun j hj => (hmem _).mpr (this.2 j hj)⟩
          · intro i hi
            obtain ⟨j, k, x, y, h1, h2, h3, h4, h5, h6⟩ := hin _ ((hmem i).mp hi)
            exact ⟨j, k, x, y, Sum.inl.inj h1, h2, h3, h4, h5, (hmem _).mpr h6⟩
          · exact fun k hk hl => (hmem _).mpr (hall k hk hl)
          · refine hperm.nodup_iff.mpr ?_
            have h1 := hrn
            rw [hks] at h1
            exact List.Pairwise.of_map Sum.inl (fun a b h z => h (by rw [z])) h1
end
end Pk
end
section
set_option Elab.async false
set_option linter.all false
set_option maxRecDepth 100000
set_option maxHeartbeats 4000000
/-! sorted of a list of (text, int) -/
namespace Pk
open PySem PySem.Spec PyProof.Rows L2 FL
def StrLt (a b : Str) : Prop := a.cps.toList < b.cps.toList
abbrev Rise (l : List Str) : Prop := l.Pairwise StrLt
theorem str_ext {a b : Str} (h : a.cps.toList = b.cps.toList) : a = b := by
  obtain ⟨x⟩ := a
  obtain ⟨y⟩ := b
  have : x = y := Array.toList_inj.mp h
  rw [this]
theorem strLt_of {a b : Str} (h : ¬ b.cps.toList < a.cps.toList) (ne : a ≠ b) : StrLt a b := Classical.byContradiction fun z => ne (str_ext (List.le_antisymm (List.not_lt.mp h) (List.not_lt.mp z)))
theorem rise_nodup {l : List Str} (h : Rise l) : l.Nodup := List.Pairwise.imp (fun {a b} (r : StrLt a b) (z : a = b) => by
  subst z
  exact List.lt_irrefl _ r) h
theorem perm_pairsB {β : Type} {R : Addr → β → Prop} {bs : List Addr} {ps : List β} (h : All2 R bs ps) {us : List Value} (p : us.Perm (bs.map Value.ref)) : ∃ bs' ps', us = bs'.map Value.ref ∧ ps'.Perm ps ∧ All2 R bs' ps' := by
  have e : bs.map Value.ref = (bs.zip ps).map fun z => Value.ref z.1 := by
    have : bs = (bs.zip ps).map (·.1) := (List.map_fst_zip (by rw [h.length]; exact Nat.le_refl _)).symm
    conv => lhs; rw [this]
    rw [List.map_map]
    rfl
  rw [e] at p
  obtain ⟨L, pl, el⟩ := perm_lift p (L := bs.zip ps) rfl
  refine ⟨L.map (·.1), L.map (·.2), by rw [el, List.map_map]; rfl, ?_, ?_⟩
  · have := pl.map (·.2)
    rw [List.map_snd_zip (by rw [h.length]; exact Nat.le_refl _)] at this
    exact this
  · have hm : ∀ z ∈ L, R z.1 z.2 := fun z hz => by
      have hz' := pl.mem_iff.mp hz
      obtain ⟨i, hi, ez⟩ := List.mem_iff_getElem.mp hz'
      rw [List.getElem_zip] at ez
      have h1 : i < bs.length := by rw [List.length_zip] at hi; omega
      have h2 : i < ps.length := by rw [List.length_zip] at hi; omega
      obtain ⟨b, hb, r⟩ := h.get (k := i) (a := bs[i]) (List.getElem?_eq_getElem h1)
      rw [List.getElem?_eq_getElem h2] at hb
      cases hb
      rw [← ez]
      exact r
    clear pl el p e
    induction L with
    | nil => exact .nil
    | cons z r ih => exact .cons (hm z (by simp)) (ih fun y hy => hm y (by simp [hy]))
section
variable {X : Cx} {pins : List (Addr × Obj)} {σ : L2.St} {H : Hp} {s : Shared}
def ShAt (H : Hp) (b : Addr) (q : Str × Int) : Prop := H b = some (.tup [.str q.1, .int q.2])
def rSortedSI : List V → Hp → VK → Prop := fun xs H Q => ∃ (l : Addr) (bs : List Addr) (ps : List (Str × Int)), xs = [.ref l] ∧ H l = some (.lst (bs.map V.ref)) ∧ All2 (ShAt H) bs ps ∧ (ps.map (·.1)).Nodup ∧ ps.length ≤ 1000 ∧
  ∀ (p : Addr) (bs' : List Addr) (qs : List (Str × Int)), H p = none → qs.Perm ps → Rise (qs.map (·.1)) → All2 (ShAt H) bs' qs → Q (.ref p) (upd H p (.lst (bs'.map V.ref)))
theorem call_sortedSI : CallR X (.builtin "sorted") rSortedSI := by
  intro pins s σ H xs us Q I r q
  obtain ⟨l, bs, ps, rfl, hl, hall, hnd, h1000, q⟩ := q
  obtain ⟨its, rv, hL, hz⟩ := I.list (SqL.of hl)
  rw [Vals.ref1 r]
  have eits := vals_refs_eq rv
  have hit0 : ∀ {bs : List Addr} {qs : List (Str × Int)}, All2 (ShAt H) bs qs → ItemsAt s.heap (bs.map Value.ref) (qs.map kS) shS := by
    intro bs qs h
    induction h with
    | nil => exact .nil
    | cons r _ ih => exact .cons (sh_key I r) ih
  have hit : ItemsAt s.heap its (ps.map kS) shS := by rw [eits]; exact hit0 hall
  have hlen0 : its.length = ps.length := by rw [eits, List.length_map]; exact hall.length
  obtain ⟨fs, hfs⟩ := itemsAt_tups hit
  refine G.sorted_tups (shape := shS) hL.isList hfs (itemsAt_mem hit) (by rw [hlen0]; exact sz_of (by omega)) fun st' hp hs hst => ?_
  obtain ⟨ep, he'⟩ := PyProof.Rows.sortedAll_at s.heap its ((arrOf st').map (·.2))
  have hpm : ((arrOf st').map (·.2)).toList.Perm (bs.map Value.ref) := by
    rw [← eits]
    exact Srt.out_perm hp
  obtain ⟨bs', qs, eb, pq, hb⟩ := perm_pairsB hall hpm
  have hlen : (bs'.map V.ref).length ≤ sizeLine := by
    rw [List.length_map, hb.length, pq.length_eq]
    exact sz_of (by omega)
  have hndq : (qs.map (·.1)).Nodup := (pq.map (·.1)).nodup_iff.mpr hnd
  have hrise : Rise (qs.map (·.1)) := by
    have hsz : (arrOf st').toList.length = bs'.length := by
      have := congrArg List.length eb
      rw [Array.toList_map, List.length_map, List.length_map] at this
      exact this
    have hpz : (pairsOf its).size = bs'.length := by
      have := (Array.perm_iff_toList_perm.mp hp).length_eq
      rw [← Array.length_toList, ← hsz]
      exact this.symm
    refine List.pairwise_iff_getElem.mpr fun i j hi hj hij => ?_
    rw [List.length_map] at hi hj
    rw [List.getElem_map, List.getElem_map]
    have key : ∀ (n : Nat) (hn : n < qs.length), KK (G.tupKindC s.heap shS) (arrOf st') n = kS qs[n] := by
      intro n hn
      obtain ⟨b, hb1, hb2⟩ := hb.get' (List.getElem?_eq_getElem hn)
      have hb3 : ((arrOf st').map (·.2)).toList[n]? = some (.ref b) := by rw [eb, List.getElem?_map, hb1]; rfl
      rw [Array.toList_map, List.getElem?_map] at hb3
      obtain ⟨p, hp1, hp2⟩ := Option.map_eq_some_iff.mp hb3
      have hmem : p ∈ (pairsOf its).toList := (Array.perm_iff_toList_perm.mp hp).mem_iff.mp (List.mem_of_getElem? hp1)
      rw [pairsOf_toList] at hmem
      obtain ⟨e1, _⟩ := mem_zip_self hmem
      have hp3 : (arrOf st')[n]? = some p := by rw [← Array.getElem?_toList]; exact hp1
      unfold KK
      rw [hp3]
      show ((G.tupKeyC s.heap shS p.1).getD []) = _
      rw [e1, hp2, (sh_key I hb2).1]
      rfl
    have h1 := hs i j (Nat.le_of_lt hij) (by rw [hpz, hb.length]; exact hj)
    rw [key i hi, key j hj] at h1
    have h2 : lexLt itemOrd (kS qs[j]) (kS qs[i]) = false := h1
    have h3 : itemLt (.inr qs[j].1.cps.toList) (.inr qs[i].1.cps.toList) = false := (lex_false.mp h2).1
    have h4 : ¬ qs[j].1.cps.toList < qs[i].1.cps.toList := of_decide_eq_false h3
    refine strLt_of h4 fun e => ?_
    have e1 : (qs.map (·.1))[i]? = (qs.map (·.1))[j]? := by
      rw [List.getElem?_map, List.getElem?_map, List.getElem?_eq_getElem hi, List.getElem?_eq_getElem hj]
      exact congrArg some e
    have := (List.getElem?_inj (by rw [List.length_map]; exact hi) hndq).mp e1
    omega
  exact ⟨.ref _, upd H (s.heap.objs.size + 1) (.lst (bs'.map V.ref)), I.laid (t' := s.toks) (fun _ _ => PyProof.Rows.sortedAll_old) (Nat.le_succ _) ⟨hlen, ((arrOf st').map (·.2)).toList, ep, by rw [eb]; exact refs_vals bs', by rw [Array.toArray_toList]; exact he'⟩, rfl,
    q _ bs' qs (I.hok.fresh (Nat.le_succ _)) pq hrise hb⟩
end
theorem pe_sortedSI {X : Cx} {e : Expr} {te : TE} {p pos : Pos} (hc : X.calm = true) (hm : X.mg "sorted" = none) (he : PE X e te) (hg : Gl X "sorted" := by rfl)
    (hst : starEach (e :: []) X.env = (false, eval e X.env) :: starEach [] X.env := by rfl) (hpl : (backTo pos (starEach [] X.env)).any (·.1) = false := by rfl) : PE X (.Call (.Name "sorted" p) [e] [] pos) (tCB rSortedSI (tCons te tNil)) :=
  pe_callB call_sortedSI hg hm (by decide +kernel) (pa_cons he pa_nil (hs := hst)) (he := hst) (hpl := hpl)
end Pk
end
section
set_option Elab.async false
set_option linter.all false
set_option maxRecDepth 100000
set_option maxHeartbeats 4000000
/-! sets of texts: set(a list), sorted(a set). Printed by mkM5.py. -/
namespace L2
open PySem PySem.Spec PyProof.Rows
def keyS (e : Int × Value) : Str := match e.2 with | .str k _ => k | _ => Str.empty
def GoodS (w : World) (e : Int × Value) : Prop := ∃ k tk, e.2 = Value.str k tk ∧ e.1 = hashStr w k
/-- the set of texts at a: S its members, n their number; its table rises and can be walked -/
def SetT (w : World) (h : Heap) (a : Addr) (S : Str → Bool) (n : Nat) : Prop :=
  ∃ o es ep t, h.get? a = some o ∧ o.ExactSet ∧ o.data = .set es ep t ∧ (∀ e ∈ es.toList, GoodS w e) ∧ (es.toList.map keyS).Nodup ∧ (∀ k, S k = true ↔ k ∈ es.toList.map keyS) ∧
    es.size < scanBound ∧ t.fits es.size = true ∧ es.size = n ∧ Ris t.place.toList ∧ (w.params.followText "set-order" = true ∨ t.led = true)
section
variable {P : Program} {w : World} {h h' : Heap} {a : Addr} {S : Str → Bool} {n : Nat}
theorem SetT.at (R : SetT w h a S n) (k : ∀ o, h.get? a = some o → h'.get? a = some o) : SetT w h' a S n := by
  obtain ⟨o, es, ep, t, ho, r⟩ := R
  exact ⟨o, es, ep, t, k o ho, r⟩
theorem SetT.congr {S' : Str → Bool} (R : SetT w h a S n) (e : ∀ k, S' k = S k) : SetT w h a S' n := by
  have q : S' = S := funext e
  rw [q]; exact R
theorem strK_is (k : Str) (tk : Tok) : (PySem.strKind P w).is k (.str k tk) = true := PySem.strKind_is P w k tk
theorem goodS_elems {l : List (Int × Value)} (g : ∀ e ∈ l, GoodS w e) : ElemsOf (PySem.strKind P w) l := fun e he => by
  obtain ⟨k, tk, h1, h2⟩ := g e he
  exact ⟨⟨k, by rw [h1]; exact strK_is k tk, h2⟩, by rw [h1] <;> rfl⟩
theorem goodS_is {e : Int × Value} (g : GoodS w e) (k : Str) : (PySem.strKind P w).is k e.2 = true ↔ keyS e = k := by
  obtain ⟨k0, tk, h1, _⟩ := g
  unfold keyS
  rw [h1]
  constructor
  · intro z
    obtain ⟨t, z2⟩ := Value.isStrOf_shape (show Value.isStrOf k (.str k0 tk) = true from z)
    injection z2
  · intro z
    subst z
    exact strK_is k0 tk
theorem goodS_mem {l : List (Int × Value)} (g : ∀ e ∈ l, GoodS w e) (k : Str) : k ∈ l.map keyS ↔ ∃ e ∈ l, (PySem.strKind P w).is k e.2 = true := by
  rw [List.mem_map]
  constructor
  · rintro ⟨e, he, q⟩
    exact ⟨e, he, (goodS_is (g e he) k).2 q⟩
  · rintro ⟨e, he, q⟩
    exact ⟨e, he, (goodS_is (g e he) k).1 q⟩
end
section
variable {P : Program} {w : World} {A : Around} {E : Value → Shared → Prop} {s : Shared} {a : Addr} {S : Str → Bool} {n : Nat}
theorem setT_add_tail {g : Bool → Sem Unit} (hg : ∀ (b : Bool) (s₁ : Shared) (Q' : Unit → Shared → Prop), Q' () s₁ → wpAny (model P w) A (g b) Q' E s₁)
    {o : Obj} {es : Array (Int × Value)} {ep : Nat} {t : SetTable} (ho : s.heap.get? a = some o) (hex : o.ExactSet) (hd : o.data = .set es ep t)
    {es1 : Array (Int × Value)} {t2 : SetTable} {S' : Str → Bool} (g1 : ∀ e ∈ es1.toList, GoodS w e) (nd1 : (es1.toList.map keyS).Nodup) (m1 : ∀ k, S' k = true ↔ k ∈ es1.toList.map keyS)
    (hb1 : es1.size < scanBound) (hf2 : t2.fits es1.size = true) (hr : Ris t2.place.toList) (hl : w.params.followText "set-order" = true ∨ t2.led = true) {wasDummy : Bool} {R : Option Bool → Shared → Prop}
    (hR : ∀ h', Heap.SameBut a s.heap h' → SetT w h' a S' es1.size → R (some true) { s with heap := h' }) :
    wpAny (model P w) A (do
        storeSet a es1 t2
        if (!wasDummy && t2.tooFull) = true then do
            g (relayAll t2 es1 (SetTable.grown es1.size)).2.2
            storeSet a (relayAll t2 es1 (SetTable.grown es1.size)).1 (relayAll t2 es1 (SetTable.grown es1.size)).2.1
            pure (some true)
          else pure (some true)) R E s := by
  refine wpAny_bind (wpAny_storeSet_of ho hd ?_ (fits_of_scanBound hb1))
  have ho1 := store_at (es' := es1) (t' := t2) ho hd
  have sb1 := Heap.SameBut.update s.heap a (Obj.putSet es1 t2)
  split
  · have pm := relayAll_perm t2 es1 (SetTable.grown es1.size)
    have hf3 := relayAll_fits t2 es1 (SetTable.grown es1.size)
    have hr3 := relayAll_ris t2 es1 (SetTable.grown es1.size)
    have hl3 := relayAll_led t2 es1 (SetTable.grown es1.size)
    generalize relayAll t2 es1 (SetTable.grown es1.size) = Z at pm hf3 hr3 hl3 ⊢
    obtain ⟨es2, t3, gave⟩ := Z
    dsimp only at pm hf3 hr3 hl3 ⊢
    have hsz : es2.size = es1.size := by rw [← Array.length_toList, pm.length_eq, Array.length_toList]
    have hb2 : es2.size < scanBound := by rw [hsz]; exact hb1
    refine wpAny_bind (hg _ _ _ ?_)
    refine wpAny_bind (wpAny_storeSet_of ho1 rfl ?_ (fits_of_scanBound hb2))
    have ho2 := store_at (es' := es2) (t' := t3) ho1 rfl
    refine wpAny_pure (hR _ (sb1.trans (Heap.SameBut.update _ a _)) ?_)
    exact ⟨_, es2, _, t3, ho2, hex, rfl, fun e he => g1 e (pm.mem_iff.mp he), (pm.map keyS).nodup_iff.mpr nd1, fun k => (m1 k).trans (pm.map keyS).mem_iff.symm, hb2, hf3, hsz, hr3,
      hl.imp id fun z => by rw [hl3]; exact z⟩
  · exact wpAny_pure (hR _ sb1 ⟨_, es1, _, t2, ho1, hex, rfl, g1, nd1, m1, hb1, hf2, rfl, hr, hl⟩)

theorem setT_add_hashed {k : Str} {tk : Tok} {Q : Bool → Shared → Prop} (R : SetT w s.heap a S n) (room : n + 1 < scanBound)
    (hQ : ∀ h', Heap.SameBut a s.heap h' → SetT w h' a (fun j => S j || decide (j = k)) (if S k = true then n else n + 1) → Q (!S k) { s with heap := h' }) :
    wpAny (model P w) A (setAddHashed a (.str k tk) ((PySem.strKind P w).hash k)) Q E s := by
  obtain ⟨o, es, ep, t, ho, hex, hd, g, nd, hm, hb, hf, hn, hr, hl⟩ := R
  have hkey : (PySem.strKind P w).is k (.str k tk) = true := strK_is k tk
  have hsc : (Value.str k tk).scannable = true := rfl
  have hel : ElemsOf (PySem.strKind P w) es.toList := goodS_elems g
  unfold setAddHashed setAddHashedIn
  refine wpAny_holding (wpAny_bind (wpAny_setState_of ho hd hf ?_))
  dsimp only
  rw [byScan_of hsc hb hel]
  simp only [↓reduceIte]
  unfold setAddByScan
  refine wpAny_bind ?_
  refine wpAny_bind (wpAny_rule ?_)
  refine wpAny_bind (wpAny_setScan_of hkey ho hd hf hel ?_)
  cases hfi : List.findIdx? (fun e => (PySem.strKind P w).is k e.2) es.toList with
  | some j =>
    dsimp only
    obtain ⟨hj, pj, _⟩ := List.findIdx?_eq_some_iff_getElem.mp hfi
    have hSk : S k = true := (hm k).2 ((goodS_mem (P := P) (w := w) g k).2 ⟨es.toList[j], List.getElem_mem hj, pj⟩)
    refine wpAny_pure (wpAny_pure ?_)
    have q := hQ s.heap (Heap.SameBut.refl a s.heap) ⟨o, es, ep, t, ho, hex, hd, g, nd, fun i => by
      rw [Bool.or_eq_true, decide_eq_true_eq, ← hm i]
      exact ⟨fun z => z.elim id (fun e => e ▸ hSk), .inl⟩, hb, hf, by rw [if_pos hSk]; exact hn, hr, hl⟩
    rw [hSk] at q
    exact q
  | none =>
    dsimp only
    have hnk : k ∉ es.toList.map keyS := fun z => by
      obtain ⟨e, he, q⟩ := (goodS_mem (P := P) (w := w) g k).1 z
      have c := List.findIdx?_eq_none_iff.mp hfi e he
      rw [q] at c
      cases c
    have hSk : S k = false := by
      cases q : S k with
      | false => rfl
      | true => exact absurd ((hm k).1 q) hnk
    have hgw : ∀ (b : Bool) {s₁ : Shared} {Q' : Unit → Shared → Prop}, Q' () s₁ → wpAny (model P w) A (match b with | true => rule "set.scan.the-table-gave-way" | false => pure ()) Q' E s₁ :=
      fun b s₁ Q' q => by cases b <;> first | exact wpAny_pure q | exact wpAny_rule q
    have pm := layNew_perm t es ((PySem.strKind P w).hash k) (.str k tk)
    have hf1 := layNew_fits t es ((PySem.strKind P w).hash k) (.str k tk)
    have hr1 := layNew_ris t es ((PySem.strKind P w).hash k) (.str k tk) hr
    have hl1 := layNew_led t es ((PySem.strKind P w).hash k) (.str k tk)
    generalize layNew t es ((PySem.strKind P w).hash k) (.str k tk) = Z at pm hf1 hr1 hl1 ⊢
    obtain ⟨es1, t1, wasDummy, gave⟩ := Z
    dsimp only at pm hf1 hr1 hl1 ⊢
    rw [Array.toList_push] at pm
    have pc : es1.toList.Perm (((PySem.strKind P w).hash k, Value.str k tk) :: es.toList) := pm.trans (List.perm_append_singleton _ _)
    have pk : (es1.toList.map keyS).Perm (k :: es.toList.map keyS) := pc.map keyS
    have g1 : ∀ e ∈ es1.toList, GoodS w e := fun e he => by
      rcases List.mem_cons.mp (pc.mem_iff.mp he) with z | z
      · rw [z]; exact ⟨k, tk, rfl, rfl⟩
      · exact g e z
    have nd1 : (es1.toList.map keyS).Nodup := pk.nodup_iff.mpr (List.nodup_cons.mpr ⟨hnk, nd⟩)
    have m1 : ∀ i, (S i || decide (i = k)) = true ↔ i ∈ es1.toList.map keyS := fun i => by
      rw [Bool.or_eq_true, decide_eq_true_eq, hm i, pk.mem_iff, List.mem_cons]
      exact Or.comm
    have hsz : es1.size = n + 1 := by rw [← Array.length_toList, pc.length_eq, List.length_cons, Array.length_toList, hn]
    have hb1 : es1.size < scanBound := by rw [hsz]; exact room
    have hled : w.params.followText "set-order" = true ∨ t1.led = true := hl.imp id fun z => by rw [hl1]; exact z
    have fin : ∀ h', Heap.SameBut a s.heap h' → SetT w h' a (fun j => S j || decide (j = k)) es1.size → Q true { s with heap := h' } := fun h' sb r => by
      have q := hQ h' sb
      rw [hSk] at q
      rw [hsz] at r
      exact q r
    refine wpAny_bind (hgw _ ?_)
    split
    · refine wpAny_bind ?_
      rw [hashByValue_scannable 8 hsc]
      refine wpAny_pure ?_
      refine setT_add_tail ?_ ho hex hd g1 nd1 m1 hb1 ?_ ?_ ?_ ?_
      · intro b s₁ Q' q; cases b <;> first | exact wpAny_pure q | exact wpAny_rule q
      · first | (split <;> first | exact hf1 | exact SetTable.fits_plain_off hf1) | exact hf1
      · first | (split <;> exact hr1) | exact hr1
      · first | (split <;> exact hled) | exact hled
      · intro h' sb r; dsimp only; exact wpAny_pure (fin h' sb r)
    · refine wpAny_bind (wpAny_pure ?_)
      simp only [↓reduceIte]
      refine setT_add_tail ?_ ho hex hd g1 nd1 m1 hb1 hf1 hr1 hled ?_
      · intro b s₁ Q' q; cases b <;> first | exact wpAny_pure q | exact wpAny_rule q
      · intro h' sb r; dsimp only; exact wpAny_pure (fin h' sb r)

theorem setT_new_at {w : World} {h : Heap} {a : Addr} {ns : List Str} (ho : h.get? a = some { cls := .type "set", dict := none, data := .set #[] 0 (.fresh 0 0 (!w.params.followText "set-order")) }) : SetT w h a (fun j => decide (j ∈ ns.take 0)) 0 :=
  ⟨_, #[], 0, _, ho, ⟨rfl, rfl, rfl⟩, rfl, (fun e he => by simp at he), (by simp), (fun k => by simp), (by decide), (by rfl), rfl, List.Pairwise.nil, by
    show _ ∨ (!w.params.followText "set-order") = true
    cases w.params.followText "set-order"
    · exact .inr rfl
    · exact .inl rfl⟩
theorem set_update_strs {I : Addr} {fp wr : List Addr} {G : Array GenState → Array GenState → Prop} {n : Nat} {Pv : Nat → Value → Prop} {St : Nat → Shared → Prop} {R : Result → Shared → Prop}
    (W : WalksS P w A.in1 I fp wr G n Pv St) (S : Addr) (hSf : S ∉ fp) (ns : List Str) (hn : n = ns.length) (hb : ns.length + 1 < scanBound) (hval : ∀ i v, Pv i v → ∃ k t, ns[i]? = some k ∧ v = .str k t) :
    ∀ (k i : Nat) (s : Shared), n - i = k → i ≤ n → St i s → (∃ c, c ≤ i ∧ SetT w s.heap S (fun j => decide (j ∈ ns.take i)) c) →
      (∀ s' c, Moved (S :: wr) G s s' → c ≤ n → SetT w s'.heap S (fun j => decide (j ∈ ns)) c → R (.ok (.ret .none)) s') →
      codeAny (model P w) A (.builtin "set.update.loop" ⟨[.ref S, .ref I], []⟩) R s := by
  have hSw : S ∉ wr := fun h => hSf (W.sub _ h)
  have hsub : ∀ b ∈ wr, b ∈ S :: wr := fun b hb => List.mem_cons_of_mem _ hb
  intro k
  induction k with
  | zero =>
    intro i s hk' hi hst ⟨c, hc, hS⟩ hR
    have hin : i = n := by omega
    subst hin
    refine codeAny_builtin F.entry_set_update_loop ?_
    rw [Around.under_plainId F.plain_set_update_loop _]
    show wpAny _ A.in1 (pyNext (.ref I) >>= _) _ _ s
    refine wpAny_bind (W.done s _ _ hst fun s' hm => ?_)
    show wpAny _ A.in1 (ret Value.none) _ _ s'
    have e : ns.take i = ns := List.take_of_length_le (by omega)
    rw [e] at hS
    exact wpAny_pure (hR s' c (hm.mono hsub) hc (hS.at fun o e => hm.heap S o hSw e))
  | succ k ih =>
    intro i s hk' hi hst ⟨c, hc, hS⟩ hR
    have hlt : i < n := by omega
    refine codeAny_builtin F.entry_set_update_loop ?_
    rw [Around.under_plainId F.plain_set_update_loop _]
    show wpAny _ A.in1 (pyNext (.ref I) >>= _) _ _ s
    refine wpAny_bind (W.item i s _ _ hlt hst fun v s' hP hst' hm => ?_)
    obtain ⟨z, t, hz, rfl⟩ := hval i v hP
    have hS' : SetT w s'.heap S (fun j => decide (j ∈ ns.take i)) c := hS.at fun o e => hm.heap S o hSw e
    show wpAny _ A.in1 (holding [Value.str z t] (setAdd S (.str z t)) >>= _) _ _ s'
    refine wpAny_bind (wpAny_holding ?_)
    unfold setAdd
    refine wpAny_holding ?_
    refine wpAny_bind ((PySem.strKind P w).pyHash (k := z) (strK_is _ _) ?_)
    refine setT_add_hashed (s := { s' with toks := s'.toks + 1 }) hS' (by omega) fun h' hsb hS2 => ?_
    have hS3 : SetT w h' S (fun j => decide (j ∈ ns.take (i + 1))) (if decide (z ∈ ns.take i) = true then c else c + 1) := hS2.congr fun j => by
      rw [List.take_add_one, hz]
      simp [List.mem_append]
    have hc3 : (if decide (z ∈ ns.take i) = true then c else c + 1) ≤ i + 1 := by
      split <;> omega
    refine wpAny_pure ⟨plainId_quiet F.plain_set_update_loop _, ih (i + 1) _ (by omega) hlt (W.frame _ s' _ _ hst' (Nat.le_succ _) fun b hb o e => ?_) ⟨_, hc3, hS3⟩ fun s'' c2 hm'' hc'' hS'' => ?_⟩
    · rw [hsb.2 b (fun h : b = S => hSf (by rw [← h]; exact hb))]; exact e
    · refine hR s'' c2 (Moved.trans W.gtrans ((hm.mono hsub).then_heap (Nat.le_succ _) fun b o hb e => ?_) hm'') hc'' hS''
      rw [hsb.2 b (fun h : b = S => hb (by rw [h]; exact List.mem_cons_self))]; exact e

set_option maxHeartbeats 8000000 in
theorem call_set_lstT {l : Addr} {items : Array Value} (ns : List Str) {Q : Value → Shared → Prop} (hh : A.handled = none) (hl : s.heap.IsList l items) (hit : StrsAre items.toList ns) (hb : ns.length + 1 < scanBound)
    (h : ∀ (h' : Heap) (tk c : Nat), SetT w h' s.heap.objs.size (fun j => decide (j ∈ ns)) c → c ≤ ns.length → (∀ b o, s.heap.get? b = some o → h'.get? b = some o) → Q (.ref s.heap.objs.size) { s with heap := h', toks := tk }) :
    wpAny (model P w) A (call (.type "set") [.ref l]) Q E s := by
  have hisz : items.size = ns.length := by
    have q := StrsAre.len_eq hit
    rw [Array.length_toList] at q
    exact q
  obtain ⟨c, tl, hmro⟩ := F.called_set.mro
  have hmade := F.called_set.made
  have hsub := F.called_set.sub
  refine wpAny_call (codeAny_of_tree ?_)
  show wpAny _ _ (callAny (.type "set") _) _ _ _
  refine wpAny_pure ⟨Code.quiet_builtin _ (by decide +kernel), codeAny_builtin F.entry_type_call ?_⟩
  rw [Around.under_plain (weight_type_call_type "set" [.ref l] []) rfl]
  have h1 := F.called_set.notType
  have h2 := F.called_set.canCreate
  have hct := F.typeCall_set_1 (.ref l)
  repeat (any_goals (first | assumption | wp_step))

  refine codeAny_mono (code_set_led1 (.ref l) (E := E) (Q₁ := fun obj s₁ => obj = .ref s.heap.objs.size ∧ s₁ = { s with heap := s.heap.push { cls := .type "set", dict := none, data := .set #[] 0 (.fresh 0 0 (!w.params.followText "set-order")) } }) ⟨rfl, rfl⟩) fun r s₁ hr => ?_
  cases r with
  | error e => exact hr
  | ok fl =>
    cases fl with
    | ret obj =>
      obtain ⟨rfl, rfl⟩ := hr
      have hS : (s.heap.push { cls := .type "set", dict := none, data := .set #[] 0 (.fresh 0 0 (!w.params.followText "set-order")) }).get? s.heap.objs.size = some { cls := .type "set", dict := none, data := .set #[] 0 (.fresh 0 0 (!w.params.followText "set-order")) } := Heap.get?_push_size _ rfl
      have hT : Shared.TypeIs { s with heap := s.heap.push { cls := .type "set", dict := none, data := .set #[] 0 (.fresh 0 0 (!w.params.followText "set-order")) } } (.ref s.heap.objs.size) "set" := ⟨_, hS, rfl⟩
      have hli := F.called_set.init.lookup
      have hbi := F.called_set.init.bind (.ref s.heap.objs.size)
      repeat (any_goals (first | assumption | wp_step))

      refine codeAny_mono (codeAny_call_builtin (R := wants (fun r s₂ => r = .none ∧ ∃ h' tk c, s₂ = { s with heap := h', toks := tk } ∧ SetT w h' s.heap.objs.size (fun j => decide (j ∈ ns)) c ∧ c ≤ ns.length ∧
          (∀ b o, s.heap.get? b = some o → h'.get? b = some o)) E) F.called_set.init.plain F.entry_set_init (check_set_init_1 hT ?_)) fun r₂ s₂ hr₂ => ?_
      · obtain ⟨ol, hol, hcl, nl, hdl⟩ := hl
        obtain ⟨ocls, odict, odata, oslots⟩ := ol
        simp only at hcl hdl
        subst hcl; subst hdl
        have hol' : (s.heap.push { cls := .type "set", dict := none, data := .set #[] 0 (.fresh 0 0 (!w.params.followText "set-order")) }).get? l = some { cls := .type "list", dict := odict, data := .seq items nl, slots := oslots } := Heap.get?_push_of_some _ hol
        have hsls := F.sub_list_set
        have hslf := F.sub_list_frozenset
        have hne : (Value.type "list" == Value.type "dict") = false := by decide
        have hl1 : (s.heap.push { cls := .type "set", dict := none, data := .set #[] 0 (.fresh 0 0 (!w.params.followText "set-order")) }).IsList l items := ⟨_, hol', rfl, nl, rfl⟩
        unfold Builtin.«set.__init__» noKeywords Builtin.Frozenset.updateFrom
        generalize hPI : pyIter = PI
        wp_walk
        subst hPI

        refine wpAny_pyIter_list hl1 ?_
        refine wpAny_bind (wpAny_runValue ?_)
        have hlS : l < s.heap.objs.size := Heap.lt_size hol
        have hh3 : A.in1.in1.in1.handled = none := by simp [hh]
        have hz1 : (s.heap.push { cls := .type "set", dict := none, data := .set #[] 0 (.fresh 0 0 (!w.params.followText "set-order")) }).objs.size = s.heap.objs.size + 1 := Heap.size_push ..
        have hneI : l ≠ (s.heap.push { cls := .type "set", dict := none, data := .set #[] 0 (.fresh 0 0 (!w.params.followText "set-order")) }).objs.size := by
          rw [Heap.size_push]; exact Nat.ne_of_lt (Nat.lt_succ_of_lt hlS)
        have hSf : s.heap.objs.size ∉ [(s.heap.push { cls := .type "set", dict := none, data := .set #[] 0 (.fresh 0 0 (!w.params.followText "set-order")) }).objs.size, l] := by
          rw [Heap.size_push]; simp only [List.mem_cons, List.mem_singleton, List.not_mem_nil, or_false, not_or]
          exact ⟨Nat.ne_of_lt (Nat.lt_succ_self _), Nat.ne_of_gt hlS⟩
        have hval : ∀ (i : Nat) (v : Value), items[i]? = some v → ∃ k t, ns[i]? = some k ∧ v = .str k t := fun i v hv => by
          have hi : i < ns.length := by rw [← hisz]; exact (Array.getElem?_eq_some_iff.mp hv).1
          obtain ⟨t, e⟩ := SS.strs_at hit i v (by rw [Array.getElem?_toList]; exact hv)
          refine ⟨ns[i], t, List.getElem?_eq_getElem hi, ?_⟩
          rw [e, List.getD_eq_getElem?_getD, List.getElem?_eq_getElem hi] <;> rfl
        refine set_update_strs ((Walks.list hh3 _ l hneI items).toS) s.heap.objs.size
          hSf ns hisz hb hval (items.size - 0) 0 _ (by omega) (Nat.zero_le _)
          ⟨⟨_, Heap.get?_push_size _ rfl, rfl, rfl⟩, (hl1.push _)⟩ ?hS0 ?hR
        case hS0 =>
          have hget : ((s.heap.push { cls := .type "set", dict := none, data := .set #[] 0 (.fresh 0 0 (!w.params.followText "set-order")) }).push { cls := .type "list_iterator", data := .fields #[.ref l, .int 0 0] }).get? s.heap.objs.size
              = some { cls := .type "set", dict := none, data := .set #[] 0 (.fresh 0 0 (!w.params.followText "set-order")) } := Heap.get?_push_of_some _ hS
          exact ⟨0, Nat.le_refl 0, setT_new_at hget⟩
        case hR =>
          intro s' c' hm hc' hS'
          obtain ⟨h', g2, d', tk', os'⟩ := s'
          have eg : g2 = s.gens := hm.gens
          have ed : d' = s.drawn := hm.drawn
          have eo : os' = s.os := hm.os
          subst eg; subst ed; subst eo
          show wpAny _ _ _ _ _ _
          refine wpAny_pure ?_
          show wpAny _ _ (ret Value.none) _ _ _
          rw [hisz] at hc'
          refine wpAny_pure ⟨rfl, h', tk', c', rfl, hS', hc', fun b o e => ?_⟩
          have hb0 : b < s.heap.objs.size := Heap.lt_size e
          have hb1 : b ≠ s.heap.objs.size := Nat.ne_of_lt hb0
          have hb2 : b ≠ (s.heap.push { cls := .type "set", dict := none, data := .set #[] 0 (.fresh 0 0 (!w.params.followText "set-order")) }).objs.size := by
            rw [Heap.size_push]; exact Nat.ne_of_lt (Nat.lt_succ_of_lt hb0)
          exact hm.heap b o (by simp only [List.mem_cons, List.mem_singleton, List.not_mem_nil, or_false, not_or]; exact ⟨hb1, hb2⟩) (Heap.get?_push_of_some _ (Heap.get?_push_of_some _ e))

      · cases r₂ with
        | error e => exact hr₂
        | ok fl₂ =>
          cases fl₂ with
          | ret r =>
            obtain ⟨rfl, h', tk, c', rfl, hS', hc', hk'⟩ := hr₂
            repeat (any_goals (first | assumption | wp_step))
            exact h _ _ _ hS' hc' hk'
          | _ => exact hr₂.elim
    | _ => exact hr.elim

theorem strs_of : ∀ (vs : List Value), (∀ v ∈ vs, ∃ k tk, v = Value.str k tk) → StrsAre vs (vs.map fun v => keyS (0, v))
  | [], _ => .nil
  | v :: r, h => by
    obtain ⟨k, tk, rfl⟩ := h v (by simp)
    exact .cons k tk (strs_of r fun x hx => h x (by simp [hx]))
theorem ltCps_iff : ∀ (a b : List Nat), ltCps a b = decide (a < b)
  | [], [] => by simp [ltCps]
  | [], _ :: _ => by simp [ltCps]
  | _ :: _, [] => by simp [ltCps]
  | a :: r, b :: t => by
    rw [ltCps, ltCps_iff r t]
    by_cases h : a < b
    · simp [h, List.cons_lt_cons_iff]
    · by_cases h2 : a = b
      · subst h2; simp [List.cons_lt_cons_iff]
      · simp [h, h2, List.cons_lt_cons_iff]
theorem risingS_le : ∀ {r : List Str} {x : Str}, risingS x r = true → ∀ y ∈ r, ¬ y.cps.toList < x.cps.toList
  | [], _, _, y, hy => by simp at hy
  | z :: r, x, h, y, hy => by
    rw [risingS, Bool.and_eq_true] at h
    have h1 : ¬ z.cps.toList < x.cps.toList := by
      have := h.1
      rw [ltCps_iff] at this
      simpa using this
    rcases List.mem_cons.mp hy with q | q
    · rw [q]; exact h1
    · have h2 := risingS_le h.2 y q
      intro h3
      exact h1 (List.lt_of_le_of_lt (List.not_lt.mp h2) h3)
theorem strs_rise : ∀ (l : List Str), sortedS l = true → l.Nodup → l.Pairwise Pk.StrLt
  | [], _, _ => List.Pairwise.nil
  | x :: r, h, nd => by
    rw [List.nodup_cons] at nd
    refine List.pairwise_cons.mpr ⟨fun y hy => Pk.strLt_of (risingS_le (show risingS x r = true from h) y hy) fun e => nd.1 (e ▸ hy), strs_rise r ?_ nd.2⟩
    cases r with
    | nil => rfl
    | cons z r =>
      have h' : (!ltCps z.cps.toList x.cps.toList && risingS z r) = true := h
      rw [Bool.and_eq_true] at h'
      exact h'.2

theorem sorted_setT2 {S : Str → Bool} {n : Nat} {Q : Value → Shared → Prop} (R : SetT w s.heap a S n) (hh : A.handled = none) (h64 : n < 64)
    (hQ : ∀ s' p (out : Array Value) (c : Nat) (ns : List Str), (∀ b o, s.heap.get? b = some o → s'.heap.get? b = some o) → s'.gens = s.gens → s'.os = s.os → s.heap.objs.size ≤ p →
      s'.heap.get? p = some (seqObj "list" out c) → StrsAre out.toList ns → ns.Pairwise Pk.StrLt → (∀ k, k ∈ ns ↔ S k = true) → ns.length = n → Q (.ref p) s') :
    wpAny (model P w) A (call (.builtin "sorted") [.ref a]) Q E s := by
  obtain ⟨o, es, ep, t, ho, hex, hd, g, nd, hm, hb, hf, hn, hr, hl⟩ := R
  refine Calls.call_function_entry kind_sorted plain_sorted entry_sorted (args_sorted1 _) ?_
  unfold Builtin.«sorted»
  refine wpAny_bind (m := checkCount "sorted" 1 1 _) (wpAny_pure ?_)
  refine wpAny_bind (collect_set (A := A.in1) hh ⟨o, ho, hex.1, hd⟩ hf hb hr hl fun s1 vs k1 hz g1 o1 pm => ?_)
  have hvl : vs.length = n := by rw [pm.length_eq, List.length_map, Array.length_toList]; exact hn
  have hS : ∀ v ∈ vs, ∃ k tk, v = Value.str k tk := fun v hv => by
    obtain ⟨e, he, q⟩ := List.mem_map.mp (pm.mem_iff.mp hv)
    obtain ⟨k, tk, h1, _⟩ := g e he
    exact ⟨k, tk, by rw [← q]; exact h1⟩
  have hI : StrsAre vs (vs.map fun v => keyS (0, v)) := strs_of vs hS
  have pk : (vs.map fun v => keyS (0, v)).Perm (es.toList.map keyS) := by
    have q := pm.map fun v => keyS (0, v)
    rw [List.map_map] at q
    exact q
  refine wpAny_bind (wpAny_newList ?_ (by rw [hvl, sizeLine_eq]; omega))
  have hoL : (s1.heap.push (seqObj "list" vs.toArray 0)).get? s1.heap.objs.size = some (seqObj "list" vs.toArray 0) := Heap.get?_push_size _ rfl
  refine wpAny_bind (wpAny_holding (wpAny_call_entry slot_list_sort ⟨_, hoL, rfl⟩ entry_list_sort (list_sort_treeK strKind_oneLt hoL hI.keysOf (fun v₁ v₂ rest e => keyKind_strs (by rw [← e]; exact hI)) (by rw [hvl]; exact h64) fun st' hp hs => ⟨_, rfl, ?_⟩) (args_list_sort _)))
  obtain ⟨ns', a1, a2, a3⟩ := sorted_out_str hI hp hs
  obtain ⟨c, hc⟩ := sortedHeap_at (vs := vs) (out := (arrOf st').map (·.2)) hoL
  have pn : ns'.Perm (es.toList.map keyS) := a2.trans pk
  refine wpAny_pure ⟨_, rfl, hQ _ s1.heap.objs.size ((arrOf st').map (·.2)) c ns' (fun b u e => ?_) g1 o1 hz hc a1 (strs_rise ns' a3 (pn.nodup_iff.mpr nd)) (fun k => by rw [pn.mem_iff, ← hm k]) ?_⟩
  · have q := k1 b u e
    have hlt := Heap.lt_size q
    show (sortedHeap (s1.heap.push (seqObj "list" vs.toArray 0)) s1.heap.objs.size vs ((arrOf st').map (·.2))).get? b = some u
    rw [sortedHeap_old (Nat.ne_of_lt hlt) (by rw [size_push']; exact Nat.lt_succ_of_lt hlt)]
    exact Heap.get?_push_of_some _ q
  · rw [pn.length_eq, List.length_map, Array.length_toList]; exact hn
end

end L2
namespace Pk
open PySem PySem.Spec PyProof.Rows L2 FL
def SetTO (w : World) (a : Addr) (S : Str → Bool) (n : Nat) : HO := .ext fun h => SetT w h a S n
section
variable {X : Cx}
/-- sorted(set(xs)), xs a list of texts -/
def rSortedSet2 (w : World) : List V → Hp → VK → Prop := fun vs H Q => ∃ (a : Addr) (S : Str → Bool) (n : Nat), vs = [V.ref a] ∧ H a = some (SetTO w a S n) ∧ n < 64 ∧
  ∀ (ns : List Str) (p : Addr), Rise ns → (∀ k : Str, k ∈ ns ↔ S k = true) → H p = none → Q (.ref p) (upd H p (.lst (ns.map V.str)))
theorem setTO_get {pins : List (Addr × Obj)} {σ : L2.St} {H : Hp} {s : Shared} {a : Addr} {S : Str → Bool} {n : Nat} (I : Inv X pins σ H s) (ha : H a = some (SetTO X.w a S n)) : SetT X.w s.heap a S n := (I.hok a _ ha).1
theorem setTO_new {w : World} {P : Program} {H : Hp} {h : Heap} {a : Addr} {S : Str → Bool} {n : Nat} (R : SetT w h a S n) : ObjOk P w H h a (SetTO w a S n) := by
  have ⟨o, _, _, _, ho, _⟩ := R
  exact ⟨R, ⟨o, ho⟩, fun h1 h2 p k => SetT.at p k⟩
theorem cr_sortedSet2 (hc : X.calm = true) : CallR X (.builtin "sorted") (rSortedSet2 X.w) := by
  intro pins s σ H vs us Q I r h
  obtain ⟨a, S, n, rfl, ha, h64, q⟩ := h
  have R := setTO_get I ha
  rw [Vals.ref1 r]
  refine sorted_setT2 R (I.ok.hd hc) h64 fun s' p out c ns k g o hp hg hi hs hm hl => ?_
  have hlen : (ns.map V.str).length ≤ sizeLine := by rw [List.length_map, hl, sizeLine_eq]; omega
  have hn : H p = none := I.hok.fresh hp
  have J : Inv X pins σ (upd H p (.lst (ns.map V.str))) { s with heap := s'.heap, gens := s'.gens, drawn := s'.drawn, toks := s'.toks } :=
    I.call (ch := []) (Un.laid k hp hn) (I.hok.laid k hp ⟨hlen, out.toList, c, vals_of_strs hi, hg⟩) (by rw [g]; exact I.bare) (fun _ z => nomatch z)
  have e : s' = { s with heap := s'.heap, gens := s'.gens, drawn := s'.drawn, toks := s'.toks } := by
    cases s'
    cases s
    cases o
    rfl
  rw [e]
  exact ⟨.ref p, _, J, rfl, q ns p hs hm hn⟩
/-- set(xs), xs a list of texts -/
def rSetOf2 (w : World) : List V → Hp → VK → Prop := fun vs H Q => ∃ (l : Addr) (xs : List Str), vs = [V.ref l] ∧ H l = some (.lst (xs.map V.str)) ∧ xs.length < 60 ∧
  ∀ (a : Addr) (n : Nat), H a = none → n ≤ xs.length → Q (.ref a) (upd H a (SetTO w a (fun j => decide (j ∈ xs)) n))
theorem cr_setOf2 (hc : X.calm = true) : CallR X (.type "set") (rSetOf2 X.w) := by
  intro pins s σ H vs us Q I r h
  obtain ⟨l, xs, rfl, hl, hlen, q⟩ := h
  obtain ⟨its, rv, hL, hz⟩ := I.list (SqL.of hl)
  rw [Vals.ref1 r]
  refine call_set_lstT xs (I.ok.hd hc) hL.isList (by simpa using rv.strs) (by unfold scanBound; omega) fun h' tk c hS hcl hk => ?_
  have hn : H s.heap.objs.size = none := I.hok.fresh (Nat.le_refl _)
  exact ⟨.ref s.heap.objs.size, _, I.laid (t' := tk) hk (Nat.le_refl _) (setTO_new hS), rfl, q _ c hn hcl⟩
end
/-- sorted(set(xs)) as one reading -/
theorem pe_sortedSet {X : Cx} {e : Expr} {te : TE} {p p2 pos pos2 : Pos} (hc : X.calm = true) (hm : X.mg "sorted" = none) (hm2 : X.mg "set" = none) (he : PE X e te) (hg : Gl X "sorted" := by rfl) (hg2 : Gl X "set" := by rfl)
    (hst : starEach (e :: []) X.env = (false, eval e X.env) :: starEach [] X.env := by rfl) (hpl : (backTo pos (starEach [] X.env)).any (·.1) = false := by rfl) (hpl2 : (backTo pos2 (starEach [] X.env)).any (·.1) = false := by rfl)
    (hst2 : starEach (.Call (.Name "set" p2) [e] [] pos2 :: []) X.env = (false, eval (.Call (.Name "set" p2) [e] [] pos2) X.env) :: starEach [] X.env := by rfl) :
    PE X (.Call (.Name "sorted" p) [.Call (.Name "set" p2) [e] [] pos2] [] pos) (tCB (rSortedSet2 X.w) (tCons (tCB (rSetOf2 X.w) (tCons te tNil)) tNil)) :=
  pe_callB (cr_sortedSet2 hc) hg hm (by decide +kernel) (pa_cons (pe_callTy (cr_setOf2 hc) hg2 hm2 (by decide +kernel) (pa_cons he pa_nil (hs := hst)) (he := hst) (hpl := hpl2)) pa_nil (hs := hst2)) (he := hst2) (hpl := hpl)
end Pk
end
section
set_option Elab.async false
set_option linter.all false
set_option maxRecDepth 100000
set_option maxHeartbeats 8000000
/-! list.extend(a tuple); comprehensions with a relation for each item. -/
namespace Pk
open PySem PySem.Spec PyProof.Rows L2 FL
theorem list_extend_tup (l : Addr) (items : Array Value) (n : Nat) (b : Addr) (items2 : Array Value) (n2 : Nat) (dd : Option Addr) (sl : Array (Option Value)) (hs0 : ¬(!items.isEmpty && Builtin.List.listTooLong (items.size + items2.size)) = true) (hs1 : items.size ≤ sizeLine) (hs2 : items.size + items2.size ≤ sizeLine + 1) :
    Meets (Builtin.«list.extend» ⟨[.ref l, .ref b], []⟩) (fun _ R s => s.heap.get? l = some { cls := .type "list", dict := none, data := .seq items n, slots := #[] } ∧ s.heap.get? b = some { cls := .type "tuple", dict := dd, data := .seq items2 n2, slots := sl } ∧ R (.ok (.ret Value.none)) { s with heap := s.heap.update l (Obj.mapSeq fun x => x ++ items2), toks := s.toks }) :=
  .of_wp fun prog w A R s h => by
    obtain ⟨hp, g, d, tk, os⟩ := s
    obtain ⟨hl, hb, h⟩ := h
    have f1 := AutoSeq1.idx_int
    have f2 := AutoSeq1.sub_tuple_tuple
    have f3 := AutoSeq1.sub_list_list
    have f4 := AutoSeq1.sub_tuple_list
    have f5 := AutoSeq1.sub_list_tuple
    have hz' : (items ++ items2).size ≤ sizeLine + 1 := by rw [Array.size_append]; exact hs2
    wp_walk using (wpAny_updateSeq hl rfl (hz := hs1) (_hz' := hz')), wpAny_loadPart' hl, wpAny_loadPart' hb
    exact ⟨_, rfl, h⟩
def rExtendT : V → List V → Hp → VK → Prop := fun x vs H Q => ∃ l b xs zs, x = .ref l ∧ vs = [.ref b] ∧ H l = some (.lst xs) ∧ H b = some (.tup zs) ∧ xs.length + zs.length ≤ 16000000 ∧ Q .non (upd H l (.lst (xs ++ zs)))
theorem mt_extendT {X : Cx} : MtM X "list.extend" rExtendT := by
  intro pins s σ H x vs v us Q I rx rv h
  obtain ⟨l, b, xs, zs, rfl, rfl, hH, hB, hz0, q⟩ := h
  have hz := sz_of hz0
  cases rx
  obtain ⟨u, rfl, ru⟩ := rv.one
  cases ru
  obtain ⟨z, its, n, r, hl, e⟩ := I.lstM hH
  obtain ⟨its2, r2, ⟨⟨cls, dd, data, sl⟩, e2, hc, n2, hd⟩, _⟩ := I.tuple (SqT.of hB)
  simp only at hc hd
  subst hc hd
  have hl2 := r2.length
  have hsz : its.toArray.size + its2.toArray.size ≤ sizeLine := by rw [List.size_toArray, List.size_toArray]; omega
  have hlong : ¬ (!its.toArray.isEmpty && Builtin.List.listTooLong (its.toArray.size + its2.toArray.size)) = true := by
    rw [notLongL hsz, Bool.and_false]
    exact Bool.false_ne_true
  refine call_meets PySem.F.slot_list_extend ⟨_, e, rfl⟩ PySem.F.entry_list_extend (PySem.F.args_list_extend_2 _ _)
    (list_extend_tup l its.toArray n b its2.toArray n2 dd sl hlong (by rw [List.size_toArray]; omega) (by omega)) ⟨e, e2, ?_⟩
  refine ⟨.non, _, I.lset (its' := its ++ its2) hH e (by simp) (r.append r2) ?_, rfl, q⟩
  rw [List.length_append]
  omega
section
variable {J : It} {n : Nat} {G : Hp → Prop} {Y : Nat → Hp → V → Hp → Prop} {β : Type}
/-- the state within a comprehension whose items each answer a relation -/
def LcR (D : Addr) (R : RX β) (f : Nat → β → Prop) (I : Nat → Hp → Prop) (i : Nat) (H : Hp) : Prop := I i H ∧ ∃ acc bs, H D = some (.lst acc) ∧ acc.length = i ∧ All2 (R H) acc bs ∧ ∀ j b, bs[j]? = some b → f j b
theorem lc_rel (w : Walk J n G Y) {g : TG} {tt : TT} {te : TE} {vs : List Nat} {σ : L2.St} {H1 : Hp} {D : Addr} {Qd : Hp → Prop} (R : RX β) (mR : Mo R) (f : Nat → β → Prop) (hn : n ≤ 16000000)
    (I : Nat → Hp → Prop) (h0 : I 0 (upd H1 D (.lst []))) (hI : ∀ i H acc acc', I i H → H D = some (.lst acc) → I i (upd H D (.lst acc'))) (hG : ∀ i H, i ≤ n → I i H → G H)
    (hs : ∀ i x H H' acc, i < n → I i H → H D = some (.lst acc) → Y i H x H' → (∀ y H4 b, Keep H H4 → H4 D = some (.lst acc) → f i b → R H4 y b → I (i + 1) H4 → ∃ acc, H4 D = some (.lst acc) ∧ acc.length < sizeLine ∧ LcR D R f I (i + 1) (upd H4 D (.lst (acc ++ [y])))) →
      g x (wipe σ vs) H' fun σ2 H2 => wipe σ2 vs = wipe σ vs ∧ tt σ2 H2 fun b H3 =>
        if b = true then te σ2 H3 fun y H4 => ∃ acc, H4 D = some (.lst acc) ∧ acc.length < sizeLine ∧ LcR D R f I (i + 1) (upd H4 D (.lst (acc ++ [y]))) else LcR D R f I (i + 1) H3)
    (hd : ∀ H acc bs, I n H → H D = some (.lst acc) → acc.length = n → All2 (R H) acc bs → (∀ j b, bs[j]? = some b → f j b) → Qd H) :
    ∃ W : Nat → Nat → Hp → Prop, (∃ m, W 0 m (upd H1 D (.lst []))) ∧ ∀ i m H, W i m H →
      (J.stop i H ∧ Qd H) ∨ (J.go i H ∧ ∃ Nx : Hp → Prop, (∀ H', Nx H' → ∃ m', m' < m ∧ W (i + 1) m' H') ∧ ∀ x H', J.yld i H x H' → g x (wipe σ vs) H' fun σ2 H2 => wipe σ2 vs = wipe σ vs ∧ tt σ2 H2 fun b H3 =>
        if b = true then te σ2 H3 fun y H4 => ∃ acc, H4 D = some (.lst acc) ∧ acc.length < sizeLine ∧ Nx (upd H4 D (.lst (acc ++ [y]))) else Nx H3) := by
  refine lc_it w (LcR D R f I) ⟨h0, [], [], upd_same, rfl, .nil, fun j b h => by simp at h⟩ (fun i H hi p => hG i H hi p.1) ?_ ?_
  · rintro i x H H' hi ⟨hI0, acc, bs, hD, hal, hall, hf⟩ hY
    refine hs i x H H' acc hi hI0 hD hY fun y H4 b k4 hD4 hfb rb hI4 => ?_
    refine ⟨acc, hD4, sz_lt (by omega), hI (i + 1) H4 acc _ hI4 hD4, acc ++ [y], bs ++ [b], upd_same, by simp; omega, ?_, fun j c hj => ?_⟩
    · have k5 : Keep H4 (upd H4 D (.lst (acc ++ [y]))) := Keep.lst hD4
      exact all2_snoc (All2.mo mR (k4.trans k5) hall) (mR _ _ _ _ k5 rb)
    · have hbl : bs.length = i := by rw [← hall.length]; exact hal
      by_cases z : j < bs.length
      · rw [List.getElem?_append_left z] at hj
        exact hf j c hj
      · have hlt := (List.getElem?_eq_some_iff.mp hj).1
        rw [List.length_append, List.length_singleton] at hlt
        have : j = i := by omega
        subst this
        rw [List.getElem?_append_right (by omega), hbl, Nat.sub_self] at hj
        cases Option.some.inj hj
        exact hfb
  · rintro H ⟨hI0, acc, bs, hD, hal, hall, hf⟩
    exact hd H acc bs hI0 hD hal hall hf
end
end Pk
end
section
set_option linter.unusedSectionVars false
set_option linter.unusedVariables false
namespace FL
section
variable {F S : Type} [DecidableEq F] [DecidableEq S]
abbrev Cnt (F S : Type) := F → S → Int
/-- so many of each kit -/
def mixK : List (Cnt F S) → List Int → F → S → Int
  | k :: ks, n :: ns, f, s => n * k f s + mixK ks ns f s
  | _, _, _, _ => 0
def mix (h : Cnt F S) (ks : List (Cnt F S)) (n : List Int) : Cnt F S := fun f s => h f s + mixK ks n f s
def hasK (SH : List S) : List (Cnt F S) → List Int → F → Option (List S) → Int
  | k :: ks, n :: ns, f, p => n * hasAt SH k f p + hasK SH ks ns f p
  | _, _, _, _ => 0
theorem hasAt_add (SH : List S) (a b : Cnt F S) (f : F) (p : Option (List S)) : hasAt SH (fun f s => a f s + b f s) f p = hasAt SH a f p + hasAt SH b f p := by
  cases p with
  | none => exact su_add _ _ _
  | some T => exact su_add _ _ _
theorem hasAt_mul (SH : List S) (n : Int) (a : Cnt F S) (f : F) (p : Option (List S)) : hasAt SH (fun f s => n * a f s) f p = n * hasAt SH a f p := by
  cases p with
  | none => exact su_mul _ _ _
  | some T => exact su_mul _ _ _
theorem hasAt_zero (SH : List S) (f : F) (p : Option (List S)) : hasAt SH (fun (_ : F) (_ : S) => (0 : Int)) f p = 0 := by
  cases p with
  | none => exact su_zero fun _ _ => rfl
  | some T => exact su_zero fun _ _ => rfl
theorem hasAt_nonneg {SH : List S} {c : Cnt F S} (h : ∀ f s, 0 ≤ c f s) (f : F) (p : Option (List S)) : 0 ≤ hasAt SH c f p := by
  cases p with
  | none => exact su_nonneg fun _ _ => h _ _
  | some T => exact su_nonneg fun _ _ => h _ _
theorem hasAt_mixK (SH : List S) : ∀ (ks : List (Cnt F S)) (n : List Int) (f : F) (p : Option (List S)), hasAt SH (mixK ks n) f p = hasK SH ks n f p
  | [], n, f, p => by
    have : mixK ([] : List (Cnt F S)) n = fun _ _ => 0 := by funext f s; simp [mixK]
    rw [this, hasAt_zero]; simp [hasK]
  | k :: ks, [], f, p => by
    have : mixK (k :: ks) [] = fun _ _ => 0 := by funext f s; simp [mixK]
    rw [this, hasAt_zero]; simp [hasK]
  | k :: ks, n :: ns, f, p => by
    have : mixK (k :: ks) (n :: ns) = fun f s => n * k f s + mixK ks ns f s := by funext f s; rfl
    rw [this, hasAt_add, hasAt_mul, hasAt_mixK SH ks ns]; rfl
theorem hasAt_mix (SH : List S) (h : Cnt F S) (ks : List (Cnt F S)) (n : List Int) (f : F) (p : Option (List S)) : hasAt SH (mix h ks n) f p = hasAt SH h f p + hasK SH ks n f p := by
  rw [← hasAt_mixK]; exact hasAt_add SH h (mixK ks n) f p
theorem mixK_nonneg : ∀ {ks : List (Cnt F S)} {n : List Int}, (∀ k ∈ ks, ∀ f s, 0 ≤ k f s) → (∀ x ∈ n, 0 ≤ x) → ∀ f s, 0 ≤ mixK ks n f s
  | [], _, _, _, _, _ => by simp [mixK]
  | _ :: _, [], _, _, _, _ => by simp [mixK]
  | k :: ks, x :: n, hk, hn, f, s => by
    have a := Int.mul_nonneg (hn x (by simp)) (hk k (by simp) f s)
    have b := mixK_nonneg (ks := ks) (n := n) (fun k h => hk k (by simp [h])) (fun x h => hn x (by simp [h])) f s
    show 0 ≤ x * k f s + mixK ks n f s
    omega
theorem hasK_zero {SH : List S} {f : F} {p : Option (List S)} : ∀ {ks : List (Cnt F S)} {n : List Int}, (∀ k ∈ ks, hasAt SH k f p = 0) → hasK SH ks n f p = 0
  | [], _, _ => by simp [hasK]
  | _ :: _, [], _ => by simp [hasK]
  | k :: ks, x :: n, h => by
    show x * hasAt SH k f p + hasK SH ks n f p = 0
    rw [h k (by simp), hasK_zero (fun k q => h k (by simp [q]))]; simp
theorem hasK_ge {SH : List S} {f : F} {p : Option (List S)} {most : Int} (h0 : 0 ≤ most) : ∀ {ks : List (Cnt F S)}, (∀ k ∈ ks, 0 ≤ hasAt SH k f p) → ∀ k ∈ ks, most * hasAt SH k f p ≤ hasK SH ks (ks.map fun _ => most) f p
  | [], _, k, hk => by simp at hk
  | a :: ks, h, k, hk => by
    have ih := hasK_ge (SH := SH) (f := f) (p := p) h0 (ks := ks) (fun k q => h k (by simp [q]))
    have h2 : 0 ≤ most * hasAt SH a f p := Int.mul_nonneg h0 (h a (by simp))
    have h3 : 0 ≤ hasK SH ks (ks.map fun _ => most) f p := by
      clear ih h2 hk
      induction ks with
      | nil => simp [hasK]
      | cons b r ih =>
        have := ih (fun k q => h k (by
          rcases List.mem_cons.mp q with z | z
          · simp [z]
          · simp [z]))
        have h4 : 0 ≤ most * hasAt SH b f p := Int.mul_nonneg h0 (h b (by simp))
        show 0 ≤ most * hasAt SH b f p + hasK SH r (r.map fun _ => most) f p
        omega
    show most * hasAt SH k f p ≤ most * hasAt SH a f p + hasK SH ks (ks.map fun _ => most) f p
    rcases List.mem_cons.mp hk with z | z
    · rw [z]; omega
    · have := ih k z
      omega
def total (ws : List (Want F S)) : Int := su (fun w => w.2.2) ws
theorem wantedAt_le {ws : List (Want F S)} (h : ∀ w ∈ ws, 0 ≤ w.2.2) (f : F) (p : Option (List S)) : wantedAt ws f p ≤ total ws := by
  cases p with
  | none =>
    refine su_le fun w hw => ?_
    have := h w hw
    show (if w.1 = f then w.2.2 else 0) ≤ w.2.2
    split <;> omega
  | some T =>
      refine su_le fun w hw => ?_
      have := h w hw
      show (if w.1 = f ∧ w.2.1 ≠ [] ∧ ∀ s ∈ w.2.1, s ∈ T then w.2.2 else 0) ≤ w.2.2
      split <;> omega
/-- a bar with enough of each kit bars with any -/
theorem never {SH : List S} {h : Cnt F S} {ks : List (Cnt F S)} {ws : List (Want F S)} {f : F} {p : Option (List S)} {most : Int} (hk : ∀ k ∈ ks, ∀ f s, 0 ≤ k f s) (hh : ∀ f s, 0 ≤ h f s) (hw : ∀ w ∈ ws, 0 ≤ w.2.2) (hm : total ws < most)
    (b : IsBar SH (mix h ks (ks.map fun _ => most)) ws f p) (n : List Int) : IsBar SH (mix h ks n) ws f p := by
  have h0 : 0 ≤ total ws := su_nonneg hw
  have z : ∀ k ∈ ks, hasAt SH k f p = 0 := fun k q => by
    refine Classical.byContradiction fun ne => ?_
    have nn := hasAt_nonneg (SH := SH) (hk k q) f p
    have a := hasK_ge (SH := SH) (f := f) (p := p) (most := most) (by omega) (ks := ks) (fun k q => hasAt_nonneg (hk k q) f p) k q
    have b' : hasAt SH (mix h ks (ks.map fun _ => most)) f p < wantedAt ws f p := b
    rw [hasAt_mix] at b'
    have c := wantedAt_le hw f p
    have d := hasAt_nonneg (SH := SH) hh f p
    have e : most * 1 ≤ most * hasAt SH k f p := Int.mul_le_mul_of_nonneg_left (by omega) (by omega)
    omega
  have b' : hasAt SH (mix h ks (ks.map fun _ => most)) f p < wantedAt ws f p := b
  show hasAt SH (mix h ks n) f p < wantedAt ws f p
  rw [hasAt_mix, hasK_zero z] at b'
  rw [hasAt_mix, hasK_zero z]
  exact b'
/-- one kit raised -/
theorem bump {p : F × S} {d : Int} (hd : 0 ≤ d) : ∀ {ks : List (Cnt F S)} {n : List Int}, n.length = ks.length → (∀ k ∈ ks, ∀ f s, 0 ≤ k f s) → (∀ x ∈ n, 0 ≤ x) → (∃ k ∈ ks, 1 ≤ k p.1 p.2) →
    ∃ n' : List Int, n'.length = ks.length ∧ (∀ x ∈ n', 0 ≤ x) ∧ n'.sum = n.sum + d ∧ (∀ f s, mixK ks n f s ≤ mixK ks n' f s) ∧ mixK ks n p.1 p.2 + d ≤ mixK ks n' p.1 p.2
  | [], _, _, _, _, h => by obtain ⟨k, q, _⟩ := h; simp at q
  | k :: ks, [], h, _, _, _ => by simp at h
  | k :: ks, x :: n, hl, hk, hn, h => by
    by_cases q : 1 ≤ k p.1 p.2
    · refine ⟨(x + d) :: n, by simpa using hl, fun y hy => ?_, by simp only [List.sum_cons]; omega, fun f s => ?_, ?_⟩
      · rcases List.mem_cons.mp hy with z | z
        · have := hn x (by simp)
          omega
        · exact hn y (by simp [z])
      · show x * k f s + mixK ks n f s ≤ (x + d) * k f s + mixK ks n f s
        have := Int.mul_nonneg hd (hk k (by simp) f s)
        rw [Int.add_mul]; omega
      · show x * k p.1 p.2 + mixK ks n p.1 p.2 + d ≤ (x + d) * k p.1 p.2 + mixK ks n p.1 p.2
        have : d * 1 ≤ d * k p.1 p.2 := Int.mul_le_mul_of_nonneg_left q hd
        rw [Int.add_mul]; omega
    · have h' : ∃ k ∈ ks, 1 ≤ k p.1 p.2 := by
        obtain ⟨j, hj, h1⟩ := h
        rcases List.mem_cons.mp hj with z | z
        · rw [z] at h1; exact absurd h1 q
        · exact ⟨j, z, h1⟩
      obtain ⟨n', l', nn', s', m', e'⟩ := bump hd (ks := ks) (n := n) (by simpa using hl) (fun k h => hk k (by simp [h])) (fun x h => hn x (by simp [h])) h'
      refine ⟨x :: n', by simp [l'], fun y hy => ?_, by simp only [List.sum_cons]; omega, fun f s => ?_, ?_⟩
      · rcases List.mem_cons.mp hy with z | z
        · rw [z]; exact hn x (by simp)
        · exact nn' y z
      · have := m' f s
        show x * k f s + mixK ks n f s ≤ x * k f s + mixK ks n' f s
        omega
      · show x * k p.1 p.2 + mixK ks n p.1 p.2 + d ≤ x * k p.1 p.2 + mixK ks n' p.1 p.2
        omega
theorem mixK_pos {p : F × S} : ∀ {ks : List (Cnt F S)} {n : List Int}, (∀ k ∈ ks, ∀ f s, 0 ≤ k f s) → 0 < mixK ks n p.1 p.2 → ∃ k ∈ ks, 1 ≤ k p.1 p.2
  | [], _, _, h => by simp [mixK] at h
  | _ :: _, [], _, h => by simp [mixK] at h
  | k :: ks, x :: n, hk, h => by
    by_cases q : 1 ≤ k p.1 p.2
    · exact ⟨k, by simp, q⟩
    · have nn := hk k (by simp) p.1 p.2
      have e : k p.1 p.2 = 0 := by omega
      have h' : 0 < x * k p.1 p.2 + mixK ks n p.1 p.2 := h
      rw [e, Int.mul_zero] at h'
      obtain ⟨j, hj, h1⟩ := mixK_pos (p := p) (ks := ks) (n := n) (fun k h => hk k (by simp [h])) (by omega)
      exact ⟨j, by simp [hj], h1⟩
theorem gsum_nonneg {SH : List S} : ∀ {ws : List (Want F S)} {gs : List (Gift S)}, All2 (GiftOK SH) ws gs → ∀ f s, 0 ≤ gsum ws gs f s
  | _, _, .nil, _, _ => by simp [gsum]
  | w :: ws, g :: gs, .cons r t, f, s => by
    have a := gat_nonneg r.pos s
    have b := gsum_nonneg t f s
    show 0 ≤ (if w.1 = f then gat g s else 0) + gsum ws gs f s
    split <;> omega
theorem gat_sum {SH : List S} (nd : SH.Nodup) : ∀ {g : Gift S}, (∀ e ∈ g, e.1 ∈ SH) → su (gat g) SH = su (fun e => e.2) g
  | [], _ => su_zero fun _ _ => rfl
  | e :: g, h => by
    have e1 : su (gat (e :: g)) SH = su (fun s => if s = e.1 then e.2 else 0) SH + su (gat g) SH := by
      rw [← su_add]
      refine su_congr fun s _ => ?_
      show (if e.1 = s then e.2 else 0) + gat g s = _
      by_cases q : e.1 = s
      · simp [q]
      · simp [q, Ne.symm q]
    rw [e1, su_ite nd (h e (by simp)), gat_sum nd (fun x hx => h x (by simp [hx]))]
    rfl
theorem gsum_total {SH : List S} {FM : List F} (nd : SH.Nodup) (ndF : FM.Nodup) : ∀ {ws : List (Want F S)} {gs : List (Gift S)}, All2 (GiftOK SH) ws gs → (∀ w ∈ ws, w.1 ∈ FM) → su (fun f => su (fun s => gsum ws gs f s) SH) FM = total ws
  | _, _, .nil, _ => by
    refine su_zero fun f _ => su_zero fun s _ => ?_
    simp [gsum]
  | w :: ws, g :: gs, .cons r t, h => by
    have ih := gsum_total nd ndF t (fun w q => h w (by simp [q]))
    have e1 : su (fun f => su (fun s => gsum (w :: ws) (g :: gs) f s) SH) FM = su (fun f => if f = w.1 then w.2.2 else 0) FM + su (fun f => su (fun s => gsum ws gs f s) SH) FM := by
      rw [← su_add]
      refine su_congr fun f _ => ?_
      have : su (fun s => gsum (w :: ws) (g :: gs) f s) SH = su (fun s => if w.1 = f then gat g s else 0) SH + su (fun s => gsum ws gs f s) SH := by
        rw [← su_add]
        exact su_congr fun s _ => rfl
      rw [this]
      by_cases q : w.1 = f
      · simp only [q, if_true]
        rw [gat_sum nd r.uni, r.sum]
      · simp only [q, Ne.symm q, if_false]
        rw [su_zero fun _ _ => rfl]
    rw [e1, su_ite ndF (h w (by simp)), ih]
    rfl
theorem gsum_out {SH : List S} {FM : List F} : ∀ {ws : List (Want F S)} {gs : List (Gift S)}, All2 (GiftOK SH) ws gs → (∀ w ∈ ws, w.1 ∈ FM) → ∀ f s, ¬ (f ∈ FM ∧ s ∈ SH) → gsum ws gs f s = 0
  | _, _, .nil, _, _, _, _ => by simp [gsum]
  | w :: ws, g :: gs, .cons r t, h, f, s, hn => by
    have ih := gsum_out t (fun w q => h w (by simp [q])) f s hn
    show (if w.1 = f then gat g s else 0) + gsum ws gs f s = 0
    rw [ih]
    by_cases q : w.1 = f
    · have : s ∉ SH := fun z => hn ⟨q ▸ h w (by simp), z⟩
      have : gat g s = 0 := su_zero fun e he => by
        have : e.1 ≠ s := fun z => this (z ▸ r.uni e he)
        simp [this]
      simp [q, this]
    · simp [q]
/-- what enough of each kit make, few kits make -/
theorem few {SH : List S} {FM : List F} (nd : SH.Nodup) (ndF : FM.Nodup) {h : Cnt F S} {ks : List (Cnt F S)} {ws : List (Want F S)} {gs : List (Gift S)} {n0 : List Int} (hk : ∀ k ∈ ks, ∀ f s, 0 ≤ k f s) (hh : ∀ f s, 0 ≤ h f s) (hf : ∀ w ∈ ws, w.1 ∈ FM)
    (G : GivenOK SH (mix h ks n0) ws gs) : ∃ n : List Int, n.length = ks.length ∧ (∀ x ∈ n, 0 ≤ x) ∧ n.sum ≤ total ws ∧ GivenOK SH (mix h ks n) ws gs := by
  obtain ⟨g1, g2⟩ := G
  have step : ∀ P : List (F × S), ∃ n : List Int, n.length = ks.length ∧ (∀ x ∈ n, 0 ≤ x) ∧ n.sum ≤ su (fun p => gsum ws gs p.1 p.2) P ∧ ∀ p ∈ P, gsum ws gs p.1 p.2 ≤ mix h ks n p.1 p.2 := by
    intro P
    induction P with
    | nil => exact ⟨ks.map fun _ => 0, by simp, fun x hx => by simp at hx; omega, by
        have : ∀ l : List (Cnt F S), (l.map fun _ => (0 : Int)).sum = 0 := fun l => by
          induction l with
          | nil => rfl
          | cons a r ih => simp only [List.map_cons, List.sum_cons, ih]; rfl
        rw [this]; simp, fun p hp => by simp at hp⟩
    | cons p P ih =>
      obtain ⟨n, l, nn, sm, ok⟩ := ih
      have hg := gsum_nonneg g1 p.1 p.2
      by_cases q : gsum ws gs p.1 p.2 ≤ h p.1 p.2
      · refine ⟨n, l, nn, by simp only [su_cons]; omega, fun r hr => ?_⟩
        rcases List.mem_cons.mp hr with z | z
        · rw [z]
          have := mixK_nonneg hk nn p.1 p.2
          show _ ≤ h p.1 p.2 + mixK ks n p.1 p.2
          omega
        · exact ok r z
      · have h1 := g2 p.1 p.2
        have h1' : gsum ws gs p.1 p.2 ≤ h p.1 p.2 + mixK ks n0 p.1 p.2 := h1
        obtain ⟨n', l', nn', s', m', e'⟩ := bump (p := p) (d := gsum ws gs p.1 p.2 - h p.1 p.2) (by omega) l hk nn (mixK_pos (n := n0) hk (by omega))
        have hhp := hh p.1 p.2
        refine ⟨n', l', nn', by simp only [su_cons]; omega, fun r hr => ?_⟩
        rcases List.mem_cons.mp hr with z | z
        · rw [z]
          have := mixK_nonneg hk nn p.1 p.2
          show _ ≤ h p.1 p.2 + mixK ks n' p.1 p.2
          omega
        · have a := ok r z
          have b := m' r.1 r.2
          have a' : gsum ws gs r.1 r.2 ≤ h r.1 r.2 + mixK ks n r.1 r.2 := a
          show _ ≤ h r.1 r.2 + mixK ks n' r.1 r.2
          omega
  obtain ⟨n, l, nn, sm, ok⟩ := step (FM.flatMap fun f => SH.map fun s => (f, s))
  have es : su (fun p : F × S => gsum ws gs p.1 p.2) (FM.flatMap fun f => SH.map fun s => (f, s)) = su (fun f => su (fun s => gsum ws gs f s) SH) FM := by
    have : ∀ L : List F, su (fun p : F × S => gsum ws gs p.1 p.2) (L.flatMap fun f => SH.map fun s => (f, s)) = su (fun f => su (fun s => gsum ws gs f s) SH) L := fun L => by
      induction L with
      | nil => rfl
      | cons a r ih => rw [List.flatMap_cons, su_append, ih, su_map]; rfl
    exact this FM
  rw [es, gsum_total nd ndF g1 hf] at sm
  refine ⟨n, l, nn, sm, g1, fun f s => ?_⟩
  by_cases q : f ∈ FM ∧ s ∈ SH
  · exact ok (f, s) (List.mem_flatMap.mpr ⟨f, q.1, List.mem_map.mpr ⟨s, q.2, rfl⟩⟩)
  · rw [gsum_out g1 hf f s q]
    have := mixK_nonneg hk nn f s
    have := hh f s
    show 0 ≤ h f s + mixK ks n f s
    omega
end
end FL
end
section
set_option Elab.async false
set_option linter.all false
set_option maxRecDepth 100000
set_option maxHeartbeats 8000000
namespace Pk
open PySem PySem.Spec PyProof.Rows L2 FL
/-! ### gifts as data -/
def posF (e : Part × Int) : Option (Str × Int) := if 0 < e.2 then some (e.1.2, e.2) else none
theorem posF_mem {kv : List (Part × Int)} {x : Str × Int} (h : x ∈ kv.filterMap posF) : ∃ e ∈ kv, 0 < e.2 ∧ x = (e.1.2, e.2) := by
  obtain ⟨e, he, q⟩ := List.mem_filterMap.mp h
  unfold posF at q
  split at q
  · rename_i z
    exact ⟨e, he, z, (Option.some.inj q).symm⟩
  · cases q
theorem posF_cons (e : Part × Int) (r : List (Part × Int)) : (e :: r).filterMap posF = if 0 < e.2 then (e.1.2, e.2) :: r.filterMap posF else r.filterMap posF := by
  rw [List.filterMap_cons]
  unfold posF
  split
  · rename_i h
    split at h
    · cases h
    · rename_i z; rw [if_neg z]
  · rename_i b h
    split at h
    · rename_i z; rw [if_pos z, ← Option.some.inj h]
    · cases h
theorem gat_pos {f : Str} : ∀ {kv : List (Part × Int)}, (kv.map (·.1)).Nodup → (∀ e ∈ kv, 0 < e.2 → e.1.1 = f) → (∀ e ∈ kv, 0 ≤ e.2) → ∀ s, gat (kv.filterMap posF) s = (look kv (f, s)).getD 0
  | [], _, _, _, s => rfl
  | e :: r, nd, hf, hp, s => by
    rw [List.map_cons, List.nodup_cons] at nd
    have ih := gat_pos nd.2 (fun x hx => hf x (by simp [hx])) (fun x hx => hp x (by simp [hx])) s
    rw [posF_cons, look_cons]
    by_cases z : e.1 = (f, s)
    · rw [if_pos z]
      have h0 : look r (f, s) = none := look_none.mpr (z ▸ nd.1)
      rw [h0] at ih
      by_cases hpos : 0 < e.2
      · rw [if_pos hpos]
        show (if e.1.2 = s then e.2 else 0) + gat (r.filterMap posF) s = _
        rw [ih, z]
        simp
      · rw [if_neg hpos, ih]
        have := hp e (by simp)
        show (0 : Int) = e.2
        omega
    · rw [if_neg z]
      by_cases hpos : 0 < e.2
      · rw [if_pos hpos]
        show (if e.1.2 = s then e.2 else 0) + gat (r.filterMap posF) s = _
        have : ¬ e.1.2 = s := fun q => z (by rw [← hf e (by simp) hpos, ← q])
        rw [if_neg this, ih]
        omega
      · rw [if_neg hpos, ih]
theorem pos_nodup {f : Str} : ∀ {kv : List (Part × Int)}, (kv.map (·.1)).Nodup → (∀ e ∈ kv, 0 < e.2 → e.1.1 = f) → ((kv.filterMap posF).map (·.1)).Nodup
  | [], _, _ => List.nodup_nil
  | e :: r, nd, hf => by
    rw [List.map_cons, List.nodup_cons] at nd
    have ih := pos_nodup nd.2 (fun x hx => hf x (by simp [hx]))
    rw [posF_cons]
    split
    · rename_i hpos
      rw [List.map_cons, List.nodup_cons]
      refine ⟨fun z => ?_, ih⟩
      obtain ⟨x, hx, e1⟩ := List.mem_map.mp z
      obtain ⟨e2, he2, hp2, rfl⟩ := posF_mem hx
      have h1 : e2.1 = e.1 := by
        have a := hf e2 (by simp [he2]) hp2
        have b := hf e (by simp) hpos
        exact Prod.ext (a.trans b.symm) e1
      exact nd.1 (h1 ▸ List.mem_map_of_mem (f := (·.1)) he2)
    · exact ih
theorem gat_perm {g g' : List (Str × Int)} (p : g.Perm g') (s : Str) : gat g s = gat g' s := su_perm p
section
variable {ws : List (Want Str Str)} {rows : List Row} {kvs : List (List (Part × Int))} {lv : List (Part × Int)} {lack : Nat → Int}
theorem kv_form (fl : FlowOK SH (cnt rows) ws (gOf kvs) (lOf lv) lack) {j : Nat} {kv : List (Part × Int)} {w : Want Str Str} (hj : kvs[j]? = some kv) (hw : ws[j]? = some w) (dk : DK kv) : (∀ e ∈ kv, 0 < e.2 → e.1.1 = w.1 ∧ FL.lets w e.1.2 ∧ e.1.2 ∈ SH) ∧ ∀ e ∈ kv, 0 ≤ e.2 := by
  have hg : ∀ e ∈ kv, gOf kvs j e.1.1 e.1.2 = e.2 := fun e he => by
    rw [gOf_at hj, show ((e.1.1, e.1.2) : Part) = e.1 from rfl, mem_look dk.nd he]
    rfl
  refine ⟨fun e he hp => ?_, fun e he => by rw [← hg e he]; exact fl.gnn _ _ _⟩
  obtain ⟨w2, hw2, h1, h2, h3⟩ := fl.sup j e.1.1 e.1.2 (by rw [hg e he]; exact hp)
  have : w2 = w := Option.some.inj (hw2.symm.trans hw)
  subst this
  exact ⟨h1, h2, h3⟩
theorem gift_ok (fl : FlowOK SH (cnt rows) ws (gOf kvs) (lOf lv) lack) {j : Nat} {kv : List (Part × Int)} {w : Want Str Str} (hj : kvs[j]? = some kv) (hw : ws[j]? = some w) (dk : DK kv) (hl : lack j = 0) {g : List (Str × Int)} (hp : g.Perm (kv.filterMap posF)) :
    GiftOK SH w g ∧ ∀ s, gat g s = gOf kvs j w.1 s := by
  obtain ⟨hf, hnn⟩ := kv_form fl hj hw dk
  have hmem : ∀ e ∈ g, ∃ x ∈ kv, 0 < x.2 ∧ e = (x.1.2, x.2) := fun e he => posF_mem (hp.mem_iff.mp he)
  have hgat : ∀ s, gat g s = gOf kvs j w.1 s := fun s => by
    rw [gat_perm hp, gat_pos dk.nd (fun e he h => (hf e he h).1) hnn, gOf_at hj]
  refine ⟨⟨fun e he => ?_, fun e he => ?_, fun e he => ?_, ?_⟩, hgat⟩
  · obtain ⟨x, hx, hp, rfl⟩ := hmem e he
    show 1 ≤ x.2
    omega
  · obtain ⟨x, hx, hp, rfl⟩ := hmem e he
    exact (hf x hx hp).2.1
  · obtain ⟨x, hx, hp, rfl⟩ := hmem e he
    exact (hf x hx hp).2.2
  · rw [← gat_sum SH_nd (g := g) fun e he => by
      obtain ⟨x, hx, hp, rfl⟩ := hmem e he
      exact (hf x hx hp).2.2]
    have h1 := fl.full j w hw
    rw [hl] at h1
    rw [su_congr (g := fun s => gOf kvs j w.1 s) fun s _ => hgat s]
    omega
theorem gsum_zip : ∀ (ws : List (Want Str Str)) (gs : List (List (Str × Int))) (f s : Str), gsum ws gs f s = su (fun p : Want Str Str × List (Str × Int) => if p.1.1 = f then gat p.2 s else 0) (ws.zip gs)
  | [], _, _, _ => rfl
  | _ :: _, [], _, _ => rfl
  | w :: ws, g :: gs, f, s => by
    show (if w.1 = f then gat g s else 0) + gsum ws gs f s = _
    rw [gsum_zip ws gs f s]
    rfl
theorem given_ok (fl : FlowOK SH (cnt rows) ws (gOf kvs) (lOf lv) lack) (gok : GivesOK ws kvs lv) (h0 : ∀ k, k < ws.length → lack k = 0) {gs : List (List (Str × Int))} (hl : gs.length = ws.length) (hg : ∀ (j : Nat) (g : List (Str × Int)), gs[j]? = some g → ∃ kv, kvs[j]? = some kv ∧ g.Perm (kv.filterMap posF)) :
    GivenOK SH (cnt rows) ws gs := by
  have one : ∀ (j : Nat) (w : Want Str Str) (g : List (Str × Int)), ws[j]? = some w → gs[j]? = some g → GiftOK SH w g ∧ ∀ s, gat g s = gOf kvs j w.1 s := fun j w g hw hgj => by
    obtain ⟨kv, hkv, hp⟩ := hg j g hgj
    exact gift_ok fl hkv hw (gok.ok kv (List.mem_of_getElem? hkv)) (h0 j (List.getElem?_eq_some_iff.mp hw).1) hp
  refine ⟨All2.of hl.symm fun j w g hw hgj => (one j w g hw hgj).1, fun f s => ?_⟩
  rw [gsum_zip, su_range]
  have hlz : (ws.zip gs).length = ws.length := by rw [List.length_zip]; omega
  rw [hlz]
  have h1 : su (fun k => (((ws.zip gs)[k]?).elim 0 fun p : Want Str Str × List (Str × Int) => if p.1.1 = f then gat p.2 s else 0)) (List.range ws.length) ≤ su (fun k => gOf kvs k f s) (List.range ws.length) := by
    refine su_le fun k hk => ?_
    have hk' := List.mem_range.mp hk
    have e1 := List.getElem?_eq_getElem hk'
    have e2 := List.getElem?_eq_getElem (l := gs) (i := k) (by omega)
    have e3 : (ws.zip gs)[k]? = some (ws[k], gs[k]'(by omega)) := by
      rw [List.getElem?_zip_eq_some]
      exact ⟨e1, e2⟩
    rw [e3]
    show (if ws[k].1 = f then gat (gs[k]'(by omega)) s else 0) ≤ gOf kvs k f s
    split
    · rename_i z
      rw [(one k _ _ e1 e2).2 s, z]
      exact Int.le_refl _
    · exact fl.gnn _ _ _
  have h2 := fl.cons f s
  have h3 := fl.lnn f s
  omega
end
section
variable {P : Program} {w : World} {K : PySem.W.Frag} {mg : Str → Option Value} {base : Heap} {C : Addr}
def spAsGift : Sp := fun vs H Q _ => ∃ d kv, vs = [.ref d] ∧ H d = some (.dT (enc V.int kv)) ∧ (kv.map (·.1)).Nodup ∧ ((kv.filterMap posF).map (·.1)).Nodup ∧ kv.length ≤ 1000 ∧
  ∀ v' H' g, Same H H' → GiftR H' v' g → g.Perm (kv.filterMap posF) → Rise (g.map (·.1)) → Q v' H'
theorem sc_as_gift : FnScope ["some", "part"] ["some"] (defScope s_as_gift) := ⟨rfl, rfl, rfl, by decide +kernel, rfl, by decide +kernel, by decide +kernel⟩
theorem c_as_gift (T : Txt K mg C) : Cal P w K mg base CX0 1 "as_gift" ["some"] spAsGift := by
  refine Cal.mk' T.d_as_gift sc_as_gift (fun vs H Q E h => ?_) (fun _ _ _ _ _ _ us hl => match us, hl with | [_], _ => rfl) (fun f cdv A outer s H vs Q E hr h => ?_)
  · obtain ⟨d, kv, rfl, _⟩ := h
    rfl
  · obtain ⟨d, kv, rfl, hd, hnd, hpn, hlen, k⟩ := h
    have sc := sc_as_gift
    have hu := hu_of hr
    refine ⟨_, (pss_one (ps_ret (pe_callTy tup1 (by rfl) T.tuple (by decide +kernel) (pa_cons (pe_sortedSI rfl T.sorted (pe_lock (pe_lc (own := [("part", 1)]) rfl sc.nd (pi_keys (pv 0)) (blkOk_by (N := ["some", "part"]) (sc := defScope s_as_gift) (own := [("part", 1)]) (by decide +kernel)) (fun _ _ _ _ _ => (pg_name (i := 1) sc.nd rfl (.inl rfl))) (fun _ _ _ _ _ => (pts_one (pt_cmpR op_gt (pe_dget hu (pv 0) (pv 1) (fun _ _ => rfl)) pe_int (nomark _)))) (fun _ _ _ _ _ => (pe_tup (pa_cons (pe_ix ixT (pv 1) pe_int (fun _ _ => rfl)) (pa_cons (pe_dget hu (pv 0) (pv 1) (fun _ _ => rfl)) pa_nil))))))) pa_nil)))), ?_⟩
    refine ⟨d, _, hd, trivial, fun od => ?_⟩
    refine ⟨_, rfl, d, od, rfl, .inr ⟨_, upd_same, fun D nD => ?_⟩⟩
    have hdD : D ≠ d := fun z => by rw [z, upd_same] at nD; cases nD
    refine lc_typed (walk_keysT (d := d) (o := od) (kvs := enc V.int kv)) nD ShR ShR.mo (fun i => (kv[i]?).bind posF) (by rw [enc_len]; omega) (fun H3 s3 => s3 _ _ upd_same) (fun i y H3 H4 hi s3 hY kt kf => ?_) (fun H3 acc s3 hD hacc => ?_)
    · obtain ⟨rfl, kk, vv, q, hkv, rfl, hq⟩ := hY
      unfold enc at hkv
      rw [List.getElem?_map] at hkv
      cases he : kv[i]? with
      | none => rw [he] at hkv; cases hkv
      | some e =>
        rw [he] at hkv
        have e1 := Option.some.inj hkv
        have e2 : encK e.1 = kk := congrArg Prod.fst e1
        subst e2
        have hl : look kv e.1 = some e.2 := mem_look hnd (List.mem_of_getElem? he)
        have hfr := s3 _ _ (show (upd H d (.frz od (.dT (enc V.int kv)))) d = _ from upd_same)
        have gd : ∀ H5, Same H4 H5 → DGet H5 d (.ref q) (some (.int e.2)) := fun H5 s5 => .inr ⟨_, encK e.1, q, .inr ⟨od, s5 _ _ hfr⟩, rfl, s5 _ _ hq, (enc_some hl).symm⟩
        refine ⟨rfl, ?_⟩
        refine ⟨_, rfl, _, rfl, d, _, rfl, gd _ (Same.refl _), _, _, rfl, rfl, _, rfl, ?_⟩
        by_cases hp : 0 < e.2
        · refine ite_t (decide_eq_true hp) ?_
          refine ⟨_, rfl, q, _, _, _, rfl, rfl, hq, at1, _, rfl, _, rfl, d, _, rfl, gd _ (Same.refl _), (by show 2 ≤ sizeLine; decide), fun t nt => ?_⟩
          refine kt _ _ (e.1.2, e.2) (same_new nt) ?_ ⟨t, rfl, upd_same⟩
          show (kv[i]?).bind posF = _
          rw [he]
          exact if_pos hp
        · refine ite_f (decide_eq_false hp) (kf _ (Same.refl _) ?_)
          show (kv[i]?).bind posF = _
          rw [he]
          exact if_neg hp
    · rw [enc_len, filterMap_range] at hacc
      have hfr := s3 _ _ (show (upd H d (.frz od (.dT (enc V.int kv)))) d = _ from upd_same)
      refine ⟨hfr, ?_⟩
      have sF : Same H (upd H3 d (.dT (enc V.int kv))) := fun b o e => by
        by_cases z : b = d
        · rw [z, upd_same, ← hd, ← z, e]
        · rw [upd_ne z]
          exact s3 _ _ (by rw [upd_ne z]; exact e)
      have kF : Keep H3 (upd H3 d (.dT (enc V.int kv))) := Keep.upd fun u e i => by rw [hfr] at e; cases e; exact i
      have hDF : (upd H3 d (.dT (enc V.int kv))) D = some (.lst acc) := by rw [upd_ne hdD]; exact hD
      have haccF := All2.mo ShR.mo kF hacc
      obtain ⟨bs, hbs⟩ : ∃ bs : List Addr, acc = bs.map V.ref := by
        clear hD hDF haccF
        generalize kv.filterMap posF = zs at hacc
        induction hacc with
        | nil => exact ⟨[], rfl⟩
        | cons r _ ih =>
          obtain ⟨bs, rfl⟩ := ih
          obtain ⟨a, rfl, _⟩ := r
          exact ⟨a :: bs, rfl⟩
      subst hbs
      have hall : All2 (ShAt (upd H3 d (.dT (enc V.int kv)))) bs (kv.filterMap posF) := by
        refine All2.of (by rw [← haccF.length, List.length_map]) fun j b x hb hx => ?_
        obtain ⟨y, hy, a, rfl, ha⟩ := haccF.get' hx
        rw [List.getElem?_map, hb] at hy
        cases Option.some.inj hy
        exact ha
      refine ⟨D, bs, _, rfl, hDF, hall, hpn, Nat.le_trans (List.length_filterMap_le _ _) hlen, fun p bs' g np hperm hrise hb' => ?_⟩
      refine ⟨p, _, rfl, upd_same, fun c H5 s5 nc hc => ?_⟩
      have s6 : Same (upd H3 d (.dT (enc V.int kv))) H5 := (same_new np).trans s5
      refine k _ H5 g (sF.trans s6) ⟨c, _, rfl, hc, All2.of (by rw [List.length_map]; exact hb'.length) fun j v x hv hx => ?_⟩ hperm hrise
      rw [List.getElem?_map] at hv
      obtain ⟨b, hb, rfl⟩ := Option.map_eq_some_iff.mp hv
      obtain ⟨x2, hx2, r⟩ := hb'.get hb
      have : x2 = x := Option.some.inj (hx2.symm.trans hx)
      subst this
      exact ⟨b, rfl, s6 _ _ r⟩
/-! ### shades_of -/
def shOf (ws : List (Want Str Str)) (i : Int) : List Str := ((ws[i.toNat]?).elim [] fun w => w.2.1)
def spShadesOf : Sp := fun vs H Q _ => ∃ u ws l, ∃ js : List Int, vs = [u, .ref l] ∧ WantsR H u ws ∧ WantsOK ws ∧ H l = some (.lst (js.map V.int)) ∧ js.Nodup ∧ (∀ i ∈ js, ∃ j : Nat, i = (j : Int) ∧ j < ws.length) ∧
  ∀ (c : Addr) H' T, Same H H' → H' c = some (.tup (T.map V.str)) → Rise T → (∀ s, s ∈ T ↔ ∃ i ∈ js, s ∈ shOf ws i) → Q (.ref c) H'
theorem sc_shades_of : FnScope ["wants", "some", "found", "k"] ["wants", "some"] (defScope s_shades_of) := ⟨rfl, rfl, rfl, by decide +kernel, rfl, by decide +kernel, by decide +kernel⟩
theorem c_shades_of (T : Txt K mg C) : Cal P w K mg base CX0 1 "shades_of" ["wants", "some"] spShadesOf := by
  refine Cal.mk' T.d_shades_of sc_shades_of (fun vs H Q E h => ?_) (fun _ _ _ _ _ _ us hl => match us, hl with | [_, _], _ => rfl) (fun f cdv A outer s H vs Q E hr h => ?_)
  · obtain ⟨u, ws, l, js, rfl, _⟩ := h
    rfl
  · obtain ⟨u, ws, l, js, rfl, ⟨wa, wxs, rfl, hwa, hwall⟩, wok, hl, hjn, hjs, k⟩ := h
    have sc := sc_shades_of
    have hu := hu_of hr
    have hn6 := wok.len
    have hj6 : js.length ≤ 6 := by
      have := nd_le hjn (m := (List.range ws.length).map fun j : Nat => (j : Int)) fun i hi => by
        obtain ⟨j, rfl, hj⟩ := hjs i hi
        exact List.mem_map.mpr ⟨j, List.mem_range.mpr hj, rfl⟩
      rw [List.length_map, List.length_range] at this
      omega
    refine ⟨_, (pss_cons (ps_set (i := 2) sc.nd rfl (.inl rfl) (pe_lst pa_nil))
      (pss_cons (ps_for PassesOwn.never rfl (piL K (pv 1)) (pg_name (i := 3) sc.nd rfl (.inl rfl)) (pss_one (ps_expr (pe_bm PySem.F.plainAttrs_list PySem.F.slot_list_extend PySem.F.type_list_extend mt_extendT (pv 2) (pa_cons (pe_ix ixT (pe_ix ixT (pv 0) (pv 3) (fun _ _ => rfl)) pe_int (fun _ _ => rfl)) pa_nil)))))
      (pss_one (ps_ret (pe_callTy tup1 (by rfl) T.tuple (by decide +kernel) (pa_cons (pe_sortedSet rfl T.sorted T.set (pv 2)) pa_nil)))))), ?_⟩
    refine ⟨Nat.zero_le _, fun D nD => ?_⟩
    have s1 : Same H (upd H D (.lst [])) := same_new nD
    refine ⟨_, rfl, l, rfl, ⟨_, SqL.of (s1 _ _ hl)⟩, for_list (K := K) (a := l) (xs := js.map V.int) (fun i σ H2 => ∃ xs v3, σ = [some (.ref wa), some (.ref l), some (.ref D), v3] ∧ Same H H2 ∧ H2 D = some (.lst (xs.map V.str)) ∧ xs.length ≤ 5 * i ∧ ∀ s, s ∈ xs ↔ ∃ x ∈ js.take i, s ∈ shOf ws x)
      ⟨[], none, rfl, s1, upd_same, by simp, fun s => by simp⟩ (fun i σ H2 _ ⟨_, _, _, s2, _⟩ => SqL.of (s2 _ _ hl)) ?_ ?_⟩
    · rintro i y σ H2 hi ⟨xs, v3, rfl, s2, hD, hxl, hmem⟩
      rw [List.getElem?_map] at hi
      obtain ⟨x, hx, rfl⟩ := Option.map_eq_some_iff.mp hi
      obtain ⟨j, rfl, hj⟩ := hjs x (List.mem_of_getElem? hx)
      have hwj := List.getElem?_eq_getElem hj
      obtain ⟨wv, hwv, b, b2, rfl, hb, hb2⟩ := hwall.get' hwj
      have wj := wok.all _ (List.mem_of_getElem? hwj)
      have hsh : shOf ws ((j : Nat) : Int) = ws[j].2.1 := by
        unfold shOf
        rw [show ((j : Nat) : Int).toNat = j from rfl, hwj]
        rfl
      have hi6 : i < 6 := by
        have := (List.getElem?_eq_some_iff.mp hx).1
        omega
      refine ⟨_, rfl, .inl ⟨rfl, _, SqL.of hD⟩, _, rfl, _, rfl, wa, _, _, _, rfl, rfl, s2 _ _ hwa, atI_nat hwv, b, _, _, _, rfl, rfl, s2 _ _ hb, at1, D, b2, _, _, rfl, rfl, hD, s2 _ _ hb2, ?_, ?_⟩
      · have := wj.len
        rw [List.length_map, List.length_map]
        omega
      · refine ⟨xs ++ ws[j].2.1, _, rfl, same_mut s2 nD, by rw [upd_same, List.map_append], ?_, fun s => ?_⟩
        · have := wj.len
          rw [List.length_append]
          omega
        · rw [List.mem_append, hmem s, take_next hx]
          constructor
          · rintro (⟨x, hx1, hx2⟩ | h)
            · exact ⟨x, List.mem_append_left _ hx1, hx2⟩
            · exact ⟨(j : Int), List.mem_append_right _ (by simp), by rw [hsh]; exact h⟩
          · rintro ⟨x, hx1, hx2⟩
            rcases List.mem_append.mp hx1 with z | z
            · exact .inl ⟨x, z, hx2⟩
            · have : x = (j : Int) := by simpa using z
              subst this
              rw [hsh] at hx2
              exact .inr hx2
    · rintro σ H2 ⟨xs, v3, rfl, s2, hD, hxl, hmem⟩
      rw [List.length_map] at hxl hmem
      rw [take_all] at hmem
      refine ⟨_, rfl, D, xs, rfl, hD, by omega, fun a n na hn => ?_⟩
      refine ⟨a, _, n, rfl, upd_same, by omega, fun T p hrise hT np => ?_⟩
      refine ⟨p, _, rfl, upd_same, fun c H5 s5 nc hc => ?_⟩
      refine k c H5 T (((s2.trans (same_new na)).trans (same_new np)).trans s5) hc hrise fun s => ?_
      rw [hT s, decide_eq_true_iff, hmem s]
end
end Pk
end
section
set_option Elab.async false
set_option linter.all false
set_option maxRecDepth 100000
set_option maxHeartbeats 8000000
namespace Pk
open PySem PySem.Spec PyProof.Rows L2 FL
/-- a place: (form, None) or (form, shades) -/
def PlaceR : RX (Str × Option (List Str)) := fun H v p => ∃ a, v = .ref a ∧ match p.2 with
  | none => H a = some (.tup [.str p.1, .non])
  | some T => ∃ b, H a = some (.tup [.str p.1, .ref b]) ∧ H b = some (.tup (T.map V.str))
theorem PlaceR.mo : Mo PlaceR := fun H H' v p k ⟨a, e, h⟩ => ⟨a, e, by
  obtain ⟨f, o⟩ := p
  cases o with
  | none => exact tup_keep k h
  | some T =>
    obtain ⟨b, h1, h2⟩ := h
    exact ⟨b, tup_keep k h1, tup_keep k h2⟩⟩
structure PlaceOK (p : Str × Option (List Str)) : Prop where
  fm : p.1 ∈ FM
  ne : ∀ T, p.2 = some T → T ≠ [] ∧ Rise T ∧ ∀ s ∈ T, s ∈ SH
inductive DealV (rows : List Row) (ws : List (Want Str Str)) (H : Hp) (t : Addr) : Prop
  | dealt (v : V) (gs : List (List (Str × Int))) : H t = some (.tup [.str "dealt", v]) → GivenR H v gs → GivenOK SH (cnt rows) ws gs → (∀ g ∈ gs, Rise (g.map (·.1))) → DealV rows ws H t
  | bar (v : V) (p : Str × Option (List Str)) : H t = some (.tup [.str "bar", v]) → PlaceR H v p → PlaceOK p → IsBar SH (cnt rows) ws p.1 p.2 → DealV rows ws H t
def formOf (ws : List (Want Str Str)) (i : Int) : Option Str := (ws[i.toNat]?).map (·.1)
def selF (ws : List (Want Str Str)) (f : Str) (i : Int) : Option Int := if formOf ws i = some f then some i else none
theorem selF_mem {ws : List (Want Str Str)} {f : Str} {rs : List Int} {i : Int} : i ∈ rs.filterMap (selF ws f) ↔ i ∈ rs ∧ formOf ws i = some f := by
  rw [List.mem_filterMap]
  constructor
  · rintro ⟨a, ha, e⟩
    unfold selF at e
    split at e
    · rename_i z
      cases Option.some.inj e
      exact ⟨ha, z⟩
    · cases e
  · rintro ⟨h1, h2⟩
    exact ⟨i, h1, if_pos h2⟩
theorem selF_nodup {ws : List (Want Str Str)} {f : Str} {rs : List Int} (h : rs.Nodup) : (rs.filterMap (selF ws f)).Nodup := by
  induction rs with
  | nil => exact List.nodup_nil
  | cons a r ih =>
    rw [List.nodup_cons] at h
    rw [List.filterMap_cons]
    split
    · exact ih h.2
    · rename_i b hb
      unfold selF at hb
      split at hb
      · cases Option.some.inj hb
        exact List.nodup_cons.mpr ⟨fun z => h.1 (selF_mem.mp z).1, ih h.2⟩
      · cases hb
def emptyF (ws : List (Want Str Str)) (i : Int) : Option Int := if shOf ws i = [] then some i else none
theorem formOf_nat {ws : List (Want Str Str)} {j : Nat} {x : Want Str Str} (h : ws[j]? = some x) : formOf ws (j : Int) = some x.1 := by
  unfold formOf
  rw [show ((j : Nat) : Int).toNat = j from rfl, h]
  rfl
theorem shOf_nat {ws : List (Want Str Str)} {j : Nat} {x : Want Str Str} (h : ws[j]? = some x) : shOf ws (j : Int) = x.2.1 := by
  unfold shOf
  rw [show ((j : Nat) : Int).toNat = j from rfl, h]
  rfl
section
variable {P : Program} {w : World} {K : PySem.W.Frag} {mg : Str → Option Value} {base : Heap} {C : Addr}
def spDeal (C : Addr) : Sp := fun vs H Q _ => ∃ v rows u ws, vs = [v, u] ∧ HeapR C H v rows ∧ HeapOK rows ∧ WantsR H u ws ∧ WantsOK ws ∧ ∀ t H', Same H H' → DealV rows ws H' t → Q (.ref t) H'
theorem sc_deal : FnScope ["heap", "wants", "gifts", "left", "lacks", "reached", "form", "some", "k"] ["heap", "wants"] (defScope s_deal) := ⟨rfl, rfl, rfl, by decide +kernel, rfl, by decide +kernel, by decide +kernel⟩
theorem c_deal (T : Txt K mg C) : Cal P w K mg base CX0 6 "deal" ["heap", "wants"] (spDeal C) := by
  have C_led : Cal P w K mg base CX0 5 "led" ["heap", "wants"] (spLed C) := c_led T
  have C_as_gift : Cal P w K mg base CX0 1 "as_gift" ["some"] spAsGift := c_as_gift T
  have C_shades_of : Cal P w K mg base CX0 1 "shades_of" ["wants", "some"] spShadesOf := c_shades_of T
  refine Cal.mk' T.d_deal sc_deal (fun vs H Q E h => ?_) (fun _ _ _ _ _ _ us hl => match us, hl with | [_, _], _ => rfl) (fun f cdv A outer s H vs Q E hr h => ?_)
  · obtain ⟨v, rows, u, ws, rfl, _⟩ := h
    rfl
  · obtain ⟨v, rows, u, ws, rfl, hv0, hok, hws, wok, k⟩ := h
    have sc := sc_deal
    have hu := hu_of hr
    refine ⟨_, (pss_cons (ps_asg (pe_cal C_led hr (pa_cons (pv 0) (pa_cons (pv 1) pa_nil))) (pgT K (n := 4) rfl (pgs_cons (pg_name (i := 2) sc.nd rfl (.inl rfl)) (pgs_cons (pg_name (i := 3) sc.nd rfl (.inl rfl)) (pgs_cons (pg_name (i := 4) sc.nd rfl (.inl rfl)) (pgs_cons (pg_name (i := 5) sc.nd rfl (.inl rfl)) pgs_nil))))))
      (pss_cons (ps_if (pt_cmpR (eqEmpL hu) (pv 5) (pe_lst pa_nil) (nomark _)) (pss_one (ps_ret (pe_tup (pa_cons pe_str (pa_cons (pe_callTy tup1 (by rfl) T.tuple (by decide +kernel) (pa_cons (pe_lc (own := [("some", 7)]) rfl sc.nd (piL K (pv 2)) (blkOk_by (N := ["heap", "wants", "gifts", "left", "lacks", "reached", "form", "some", "k"]) (sc := defScope s_deal) (own := [("some", 7)]) (by decide +kernel)) (fun _ _ _ _ _ => (pg_name (i := 7) sc.nd rfl (.inl rfl))) (fun _ _ _ _ _ => pts_nil) (fun _ _ _ _ _ => (pe_cal C_as_gift hr (pa_cons (pv 7) pa_nil)))) pa_nil)) pa_nil))))) pss_nil)
      (pss_cons (ps_set (i := 6) sc.nd rfl (.inr rfl) (pe_ix ixT (pe_ix ixT (pv 1) (pe_ix (ixL K) (pv 5) pe_int (fun _ _ => rfl)) (fun _ _ => rfl)) pe_int (fun _ _ => rfl)))
      (pss_cons (ps_setLc (i := 7) (own := [("k", 8)]) rfl sc.nd rfl rfl (sw_true rfl rfl rfl (by decide +kernel)) (piL K (pv 5)) (blkOk_by (N := ["heap", "wants", "gifts", "left", "lacks", "reached", "form", "some", "k"]) (sc := defScope s_deal) (own := [("k", 8)]) (by decide +kernel)) (fun _ _ _ _ _ => (pg_name (i := 8) sc.nd rfl (.inl rfl))) (fun _ _ _ _ _ => (pts_one (pt_cmpR op_eq (pe_ix ixT (pe_ix ixT (pv 1) (pv 8) (fun _ _ => rfl)) pe_int (fun _ _ => rfl)) (pv 6) (nomark _)))) (fun _ _ _ _ _ => (pv 8)))
      (pss_cons (ps_if (pt_cmpR (neEmpL hu) (pe_lc (own := [("k", 8)]) rfl sc.nd (piL K (pv 7)) (blkOk_by (N := ["heap", "wants", "gifts", "left", "lacks", "reached", "form", "some", "k"]) (sc := defScope s_deal) (own := [("k", 8)]) (by decide +kernel)) (fun _ _ _ _ _ => (pg_name (i := 8) sc.nd rfl (.inl rfl))) (fun _ _ _ _ _ => (pts_one (pt_cmpR (eqEmpT hu) (pe_ix ixT (pe_ix ixT (pv 1) (pv 8) (fun _ _ => rfl)) pe_int (fun _ _ => rfl)) (pe_tup pa_nil) (nomark _)))) (fun _ _ _ _ _ => (pv 8))) (pe_lst pa_nil) (nomark _)) (pss_one (ps_ret (pe_tup (pa_cons pe_str (pa_cons (pe_tup (pa_cons (pv 6) (pa_cons pe_non pa_nil))) pa_nil))))) pss_nil)
      (pss_one (ps_ret (pe_tup (pa_cons pe_str (pa_cons (pe_tup (pa_cons (pv 6) (pa_cons (pe_cal C_shades_of hr (pa_cons (pv 1) (pa_cons (pv 7) pa_nil))) pa_nil))) pa_nil)))))))))), ?_⟩
    refine ⟨_, rfl, _, rfl, v, rows, u, ws, rfl, hv0, hok, hws, wok, fun t H1 G gs kvs L lv Kl R rs lack s1 ht hG gok hR fl cl hrs hall hnd => ?_⟩
    refine ⟨t, _, rfl, SqT.of ht, rfl, _, _, rfl, _, _, rfl, _, _, rfl, _, _, rfl, rfl, ?_⟩
    dsimp only [List.set]
    obtain ⟨wa, wxs, rfl, hwa, hwall⟩ := WantsR.mo _ _ _ _ (Keep.of s1) hws
    have hn6 := wok.len
    -- reached == []
    refine ⟨_, rfl, Nat.zero_le _, fun e0 ne0 => ?_⟩
    have s2 : Same H1 (upd H1 e0 (.lst [])) := same_new ne0
    have hR2 := s2 _ _ hR
    refine ⟨R, e0, _, rfl, rfl, hR2, upd_same, _, rfl, ?_⟩
    have sA := s1.trans s2
    cases rs with
    | nil =>
      refine ite_t rfl ?_
      have hG2 := hG.same s2
      refine ⟨_, rfl, G, rfl, ⟨_, SqL.of hG2.1⟩, fun D nD => ?_⟩
      have h0 : ∀ k, k < ws.length → lack k = 0 := fun k hk => by
        have h1 := fl.knn k
        by_cases z : 0 < lack k
        · have := hall k hk z
          simp at this
        · omega
      have hgl : gs.length = ws.length := hG.2.length.trans gok.len
      refine lc_rel (walk_list (K := K) (a := G) (xs := gs.map V.ref)) GiftR (TupR.mo ShR.mo) (fun i (g : List (Str × Int)) => Rise (g.map (·.1)) ∧ ∃ kv, kvs[i]? = some kv ∧ g.Perm (kv.filterMap posF)) (by rw [List.length_map]; omega) (fun i Hh => Same (upd H1 e0 (.lst [])) Hh)
        (same_new nD) (fun i Hh acc acc' sI hD => same_mut sI nD) (fun i Hh _ sI => SqL.of (sI _ _ hG2.1)) (fun i y H3 H4 acc hi sI hD hY kt => ?_) (fun H3 acc gl sI hD hal hacc hf => ?_)
      · obtain ⟨rfl, hy⟩ := hY
        rw [List.getElem?_map] at hy
        obtain ⟨ga, hga, rfl⟩ := Option.map_eq_some_iff.mp hy
        obtain ⟨kv, hkv, hgd⟩ := hG2.2.get hga
        have hgd3 := sI _ _ hgd
        have hi2 : i < ws.length := by
          rw [List.length_map] at hi
          omega
        have dk := gok.ok kv (List.mem_of_getElem? hkv)
        obtain ⟨hf, hnn⟩ := kv_form fl hkv (List.getElem?_eq_getElem hi2) dk
        refine ⟨rfl, yesT ?_⟩
        refine ⟨_, rfl, ga, kv, rfl, hgd3, dk.nd, pos_nodup dk.nd (fun e he h => (hf e he h).1), by have := dk.len; omega, fun v' H5 g s5 hg hperm hrise => ?_⟩
        exact kt _ H5 g (Keep.of s5) (s5 _ _ hD) ⟨hrise, kv, hkv, hperm⟩ hg (sI.trans s5)
      · refine ⟨D, acc, rfl, hD, fun c H5 s5 nc hc => ?_⟩
        refine ⟨(by show 2 ≤ sizeLine; decide), fun t2 nt2 => ?_⟩
        have s6 : Same H5 (upd H5 t2 (.tup [.str "dealt", .ref c])) := same_new nt2
        have hacc6 := All2.mo (TupR.mo ShR.mo) (Keep.of (s5.trans s6)) hacc
        have hgll : gl.length = ws.length := by rw [← hacc.length, hal, List.length_map]; exact hgl
        refine k t2 _ (sA.trans ((Same.trans sI s5).trans s6)) (.dealt (.ref c) gl upd_same ⟨c, acc, rfl, s6 _ _ hc, hacc6⟩ (given_ok fl gok h0 hgll fun j g hj => (hf j g hj).2) fun g hg => ?_)
        obtain ⟨j, hj⟩ := List.mem_iff_getElem?.mp hg
        exact (hf j g hj).1
    | cons r0 rest =>
      refine ite_f rfl ?_
      obtain ⟨j0, k0, x0, y0, rfl, hx0, hy0, hxy, hlk, hk0⟩ := hrs r0 (by simp)
      obtain ⟨wv0, hwv0, b0, bb0, rfl, hb0, hbb0⟩ := hwall.get' hx0
      -- form = wants[reached[0]][0]
      refine ⟨_, rfl, _, rfl, R, _, _, _, rfl, rfl, SqL.of hR2, at0, wa, _, _, _, rfl, rfl, s2 _ _ hwa, atI_nat hwv0, b0, _, _, _, rfl, rfl, s2 _ _ hb0, at0, ?_⟩
      -- some = [k for k in reached if ..]
      refine ⟨_, rfl, R, rfl, ⟨_, SqL.of hR2⟩, fun D nD => ?_⟩
      have hrl : (((j0 : Int) :: rest).map V.int).length ≤ 6 := by
        have := nd_le hnd (m := (List.range ws.length).map fun j : Nat => (j : Int)) fun i hi => by
          obtain ⟨j, _, x, _, rfl, hx, _⟩ := hrs i hi
          exact List.mem_map.mpr ⟨j, List.mem_range.mpr (List.getElem?_eq_some_iff.mp hx).1, rfl⟩
        rw [List.length_map, List.length_range] at this
        rw [List.length_map]
        omega
      refine lc_typed (walk_list (K := K) (a := R) (xs := ((j0 : Int) :: rest).map V.int)) nD IntR IntR.mo (fun i => (((j0 : Int) :: rest)[i]?).bind (selF ws x0.1)) (by omega) (fun H3 s3 => SqL.of (s3 _ _ hR2)) (fun i y H3 H4 hi s3 hY kt kf => ?_) (fun H3 acc s3 hD hacc => ?_)
      · obtain ⟨rfl, hy⟩ := hY
        rw [List.getElem?_map] at hy
        obtain ⟨r, hr1, rfl⟩ := Option.map_eq_some_iff.mp hy
        obtain ⟨j, _, x, _, rfl, hx, _⟩ := hrs r (List.mem_of_getElem? hr1)
        obtain ⟨wv, hwv, b, bb, rfl, hb, hbb⟩ := hwall.get' hx
        refine ⟨rfl, ?_⟩
        refine ⟨_, rfl, _, rfl, wa, _, _, _, rfl, rfl, s3 _ _ (s2 _ _ hwa), atI_nat hwv, b, _, _, _, rfl, rfl, s3 _ _ (s2 _ _ hb), at0, _, rfl, rfl, _, rfl, ?_⟩
        by_cases hg : x.1 = x0.1
        · refine ite_t (decide_eq_true (congrArg V.str hg)) ?_
          refine ⟨_, rfl, kt _ _ (j : Int) (Same.refl _) ?_ rfl⟩
          show (((j0 : Int) :: rest)[i]?).bind _ = _
          rw [hr1]
          exact if_pos (by rw [formOf_nat hx, hg])
        · refine ite_f (decide_eq_false fun z => hg (V.str.inj z)) (kf _ (Same.refl _) ?_)
          show (((j0 : Int) :: rest)[i]?).bind _ = _
          rw [hr1]
          exact if_neg fun z => hg (Option.some.inj ((formOf_nat hx).symm.trans z))
      · rw [List.length_map, filterMap_range] at hacc
        have hacc' := all2_int hacc
        generalize hsel : ((j0 : Int) :: rest).filterMap (selF ws x0.1) = sel at hacc hacc'
        subst hacc'
        have hselm : ∀ i, i ∈ sel ↔ i ∈ (j0 : Int) :: rest ∧ formOf ws i = some x0.1 := fun i => by rw [← hsel]; exact selF_mem
        have hseln : sel.Nodup := by rw [← hsel]; exact selF_nodup hnd
        have hsl : sel.length ≤ 6 := by
          rw [← hsel]
          rw [List.length_map] at hrl
          exact Nat.le_trans (List.length_filterMap_le _ _) hrl
        have hjx : ∀ i ∈ sel, ∃ (j : Nat) (x : Want Str Str), i = (j : Int) ∧ ws[j]? = some x ∧ x.1 = x0.1 := fun i hi => by
          obtain ⟨h1, h2⟩ := (hselm i).mp hi
          obtain ⟨j, _, x, _, rfl, hx, _⟩ := hrs i h1
          exact ⟨j, x, rfl, hx, Option.some.inj ((formOf_nat hx).symm.trans h2)⟩
        have hk0s : (k0 : Int) ∈ sel := (hselm _).mpr ⟨hk0, by rw [formOf_nat hy0, ← hxy]⟩
        -- [k for k in some if wants[k][1] == ()] != []
        refine ⟨_, rfl, D, rfl, ⟨_, SqL.of hD⟩, fun D2 nD2 => ?_⟩
        refine lc_typed (walk_list (K := K) (a := D) (xs := sel.map V.int)) nD2 IntR IntR.mo (fun i => (sel[i]?).bind (emptyF ws)) (by rw [List.length_map]; omega) (fun H4 s4 => SqL.of (s4 _ _ hD)) (fun i y H4 H5 hi s4 hY kt kf => ?_) (fun H4 acc2 s4 hD2 hacc2 => ?_)
        · obtain ⟨rfl, hy⟩ := hY
          rw [List.getElem?_map] at hy
          obtain ⟨r, hr1, rfl⟩ := Option.map_eq_some_iff.mp hy
          obtain ⟨j, x, rfl, hx, _⟩ := hjx r (List.mem_of_getElem? hr1)
          obtain ⟨wv, hwv, b, bb, rfl, hb, hbb⟩ := hwall.get' hx
          have sB := (s2.trans s3).trans s4
          refine ⟨rfl, ?_⟩
          refine ⟨_, rfl, _, rfl, wa, _, _, _, rfl, rfl, sB _ _ hwa, atI_nat hwv, b, _, _, _, rfl, rfl, sB _ _ hb, at1, Nat.zero_le _, fun e1 ne1 => ?_⟩
          have s5 := same_new (o := .tup []) ne1
          refine ⟨bb, e1, _, rfl, rfl, s5 _ _ (sB _ _ hbb), upd_same, _, rfl, ?_⟩
          by_cases hg : x.2.1 = []
          · refine ite_t (by rw [hg]; rfl) ?_
            refine ⟨_, rfl, kt _ _ (j : Int) s5 ?_ rfl⟩
            show (sel[i]?).bind _ = _
            rw [hr1]
            exact if_pos (by rw [shOf_nat hx, hg])
          · refine ite_f (by cases q : x.2.1 with | nil => exact absurd q hg | cons _ _ => rfl) (kf _ s5 ?_)
            show (sel[i]?).bind _ = _
            rw [hr1]
            exact if_neg (by rw [shOf_nat hx]; exact hg)
        · rw [List.length_map, filterMap_range] at hacc2
          refine ⟨Nat.zero_le _, fun e2 ne2 => ?_⟩
          have s5 : Same H4 (upd H4 e2 (.lst [])) := same_new ne2
          refine ⟨D2, e2, acc2, rfl, rfl, s5 _ _ hD2, upd_same, _, rfl, ?_⟩
          have sC : Same H1 (upd H4 e2 (.lst [])) := ((s2.trans s3).trans s4).trans s5
          have hfm : x0.1 ∈ FM := (wok.all x0 (List.mem_of_getElem? hx0)).fm
          by_cases hemp : sel.filterMap (emptyF ws) = []
          · -- shades
            rw [hemp] at hacc2
            cases hacc2
            refine ite_f rfl ?_
            have hne : ∀ i ∈ sel, shOf ws i ≠ [] := fun i hi z => by
              have : i ∈ sel.filterMap (emptyF ws) := List.mem_filterMap.mpr ⟨i, hi, if_pos z⟩
              rw [hemp] at this
              simp at this
            have hD5 := s5 _ _ (s4 _ _ hD)
            refine ⟨_, rfl, _, rfl, _, rfl, .ref wa, ws, D, sel, rfl, ⟨wa, wxs, rfl, sC _ _ hwa, All2.mo WantR.mo (Keep.of sC) hwall⟩, wok, hD5, hseln, fun i hi => ?_, fun c H6 T s6 hc hrise hT => ?_⟩
            · obtain ⟨j, x, rfl, hx, _⟩ := hjx i hi
              exact ⟨j, rfl, (List.getElem?_eq_some_iff.mp hx).1⟩
            · refine ⟨(by show 2 ≤ sizeLine; decide), fun t1 nt1 => ?_⟩
              refine ⟨(by show 2 ≤ sizeLine; decide), fun t2 nt2 => ?_⟩
              have s7 : Same H6 (upd H6 t1 (.tup [.str x0.1, .ref c])) := same_new nt1
              have s8 : Same (upd H6 t1 (.tup [.str x0.1, .ref c])) (upd (upd H6 t1 (.tup [.str x0.1, .ref c])) t2 (.tup [.str "bar", .ref t1])) := same_new nt2
              have hTS : ∀ s ∈ T, s ∈ SH ∧ ∃ i w, (fun i : Nat => (i : Int) ∈ (j0 : Int) :: rest) i ∧ ws[i]? = some w ∧ w.1 = x0.1 ∧ s ∈ w.2.1 := fun s hs => by
                obtain ⟨i, hi, hsi⟩ := (hT s).mp hs
                obtain ⟨j, x, rfl, hx, hxf⟩ := hjx i hi
                rw [shOf_nat hx] at hsi
                exact ⟨(wok.all x (List.mem_of_getElem? hx)).sh s hsi, j, x, ((hselm _).mp hi).1, hx, hxf, hsi⟩
              refine k t2 _ (((s1.trans sC).trans s6).trans (s7.trans s8)) (.bar (.ref t1) (x0.1, some T) upd_same ⟨t1, rfl, c, s8 _ _ upd_same, s8 _ _ (s7 _ _ hc)⟩ ⟨hfm, fun T' e => ?_⟩ ?_)
              · cases e
                refine ⟨fun z => ?_, hrise, fun s hs => (hTS s hs).1⟩
                have h1 := hne _ hk0s
                rw [shOf_nat hy0] at h1
                cases q : y0.2.1 with
                | nil => exact h1 q
                | cons a r =>
                  have : a ∈ T := (hT a).mpr ⟨_, hk0s, by rw [shOf_nat hy0, q]; simp⟩
                  rw [z] at this
                  simp at this
              · refine bar_some SH_nd fl cl (rise_nodup hrise) hTS (fun i x hi hx hf => ?_) hy0 hxy.symm hk0 hlk (fun x hx => by have := (wok.all x hx).lo; omega)
                have his : (i : Int) ∈ sel := (hselm _).mpr ⟨hi, by rw [formOf_nat hx, hf]⟩
                refine ⟨fun z => hne _ his (by rw [shOf_nat hx]; exact z), fun s hs => (hT s).mpr ⟨_, his, by rw [shOf_nat hx]; exact hs⟩⟩
          · -- None
            refine ite_t (by
              have : acc2 ≠ [] := fun z => by
                rw [z] at hacc2
                generalize sel.filterMap (emptyF ws) = zs at hacc2 hemp
                cases hacc2
                exact hemp rfl
              cases q : acc2 with
              | nil => exact absurd q this
              | cons _ _ => rfl) ?_
            obtain ⟨i, hi⟩ := List.exists_mem_of_ne_nil _ hemp
            obtain ⟨i2, hi2, e⟩ := List.mem_filterMap.mp hi
            have hie : shOf ws i2 = [] := by
              unfold emptyF at e
              split at e
              · assumption
              · cases e
            obtain ⟨j, x, rfl, hx, hxf⟩ := hjx i2 hi2
            rw [shOf_nat hx] at hie
            refine ⟨_, rfl, (by show 2 ≤ sizeLine; decide), fun t1 nt1 => ?_⟩
            refine ⟨(by show 2 ≤ sizeLine; decide), fun t2 nt2 => ?_⟩
            have s7 := same_new (o := .tup [.str x0.1, .non]) nt1
            have s8 := same_new (o := .tup [.str "bar", .ref t1]) nt2
            refine k t2 _ ((s1.trans sC).trans (s7.trans s8)) (.bar (.ref t1) (x0.1, none) upd_same ⟨t1, rfl, s8 _ _ upd_same⟩ ⟨hfm, fun T' e => by cases e⟩ ?_)
            exact bar_all fl cl ((hselm _).mp hi2).1 hx hxf hie hy0 hxy.symm hlk
end
end Pk
end
section
set_option Elab.async false
set_option linter.all false
set_option maxRecDepth 100000
set_option maxHeartbeats 4000000
/-! zip of a tuple and a list (or of two tuples). -/
namespace Pk
open PySem PySem.Spec PyProof.Rows L2 FL
theorem draws_tup {prog : Program} {w : World} {A : Around} (hh : A.handled = none) (it l : Addr) (hne : l ≠ it) (items : Array Value) :
    Draws prog w A it [it, l] items.size (fun i v => items[i]? = some v) (fun i h => h.IsTupleIter it l i ∧ h.IsTuple l items) where
  live := fun _ _ st => let ⟨o, ho, _⟩ := st.1; ⟨o, ho⟩
  frame := fun _ _ _ st hk => ⟨st.1.at fun o e => hk it (by simp) o e, st.2.at fun o e => hk l (by simp) o e⟩
  item := fun i s Q E hi st hQ => by
    refine RZ.nextOf_tuple_item st.1 st.2 (x := items[i]) (by simp [hi]) fun h' hit' hs' => ?_
    exact hQ _ h' s.toks (by simp [hi]) ⟨hit', st.2.extBut hs'.extBut hne⟩ hs'
  done := fun s Q E st hE => RZ.nextOf_tuple_end hh st.1 st.2 (by simp) hE
theorem sep_of {z TI TO i1 i2 a b : Addr} (D : ZipApart z TI TO i1 i2 a b) : ZipSep2 z TI TO i1 i2 [i1, a] [i2, b] where
  TIz := D.TIz
  TOz := D.TOz
  TITO := D.TITO
  TIi1 := D.TIi1
  mem1 := by simp
  zf1 := by simp only [List.mem_cons, List.not_mem_nil, or_false, not_or]; exact ⟨D.i1z.symm, D.l1z.symm⟩
  Tf1 := by simp only [List.mem_cons, List.not_mem_nil, or_false, not_or]; exact ⟨D.TOi1, D.l1TO.symm⟩
  TIi2 := D.TIi2
  mem2 := by simp
  zf2 := by simp only [List.mem_cons, List.not_mem_nil, or_false, not_or]; exact ⟨D.i2z.symm, D.l2z.symm⟩
  Tf2 := by simp only [List.mem_cons, List.not_mem_nil, or_false, not_or]; exact ⟨D.TOi2, D.l2TO.symm⟩
  sep1_2 := by simp only [List.mem_cons, List.not_mem_nil, or_false, not_or]; exact ⟨D.i12, D.l2i1.symm⟩
  sep2_1 := by simp only [List.mem_cons, List.not_mem_nil, or_false, not_or]; exact ⟨D.i12.symm, D.l1i2.symm⟩
/-- the tuple at a and the list at b as they stand at each turn -/
def ItzM (K : PySem.W.Frag) (a b : Addr) : It :=
  ⟨fun i H => ∃ (xs ys : List V) (x y : V), SqT K H a xs ∧ SqL K H b ys ∧ xs[i]? = some x ∧ ys[i]? = some y,
    fun i H v H' => ∃ T x y, v = .ref T ∧ H T = none ∧ H' = upd H T (.tup [x, y]) ∧ (∀ xs, SqT K H a xs → xs[i]? = some x) ∧ ∀ ys, SqL K H b ys → ys[i]? = some y,
    fun i H => ∃ xs ys : List V, SqT K H a xs ∧ SqL K H b ys ∧ i ≤ xs.length ∧ i ≤ ys.length ∧ (i = xs.length ∨ i = ys.length)⟩
theorem turn_zipM {P : Program} {w : World} {K : PySem.W.Frag} {elts : List Expr} {kk : Nat} {tpos : Pos} {a b z TI TO i1 i2 : Addr} (D : ZipApart z TI TO i1 i2 a b) :
    Turn P w K (.Tuple elts kk tpos) (ItzM K a b) [z, TI, TO, i1, i2] z (fun i h => IsZip h z TI TO .none ∧ IsPair h TI (.ref i1) (.ref i2) ∧ (∃ x y, IsPair h TO x y) ∧ h.IsTupleIter i1 a i ∧ h.IsListIter i2 b i) where
  mem := by simp
  obj := fun i h st c hc => by
    obtain ⟨hz, hTI, ⟨x, y, hTO⟩, ⟨o1, e1, _, d1⟩, ⟨o2, e2, _, d2⟩⟩ := st
    have e' : c = z ∨ c = TI ∨ c = TO ∨ c = i1 ∨ c = i2 := by simpa using hc
    rcases e' with q | q | q | q | q
    · rw [q]; exact ⟨_, hz, fun v q => nomatch q⟩
    · rw [q]; exact ⟨_, hTI, fun v q => nomatch q⟩
    · rw [q]; exact ⟨_, hTO, fun v q => nomatch q⟩
    · rw [q]; exact ⟨o1, e1, fun v q => by rw [d1] at q; cases q⟩
    · rw [q]; exact ⟨o2, e2, fun v q => by rw [d2] at q; cases q⟩
  keep := fun i h h' st k => by
    obtain ⟨hz, hTI, ⟨x, y, hTO⟩, h1, h2⟩ := st
    exact ⟨k z (by simp) _ hz, k TI (by simp) _ hTI, ⟨x, y, k TO (by simp) _ hTO⟩, h1.at fun o q => k i1 (by simp) o q, h2.at fun o q => k i2 (by simp) o q⟩
  item := by
    intro X hP hw hK hc i pins s σ H E I hf st hg
    subst hP hw hK
    obtain ⟨hz, hTI, ⟨x0, y0, hTO⟩, h1, h2⟩ := st
    obtain ⟨xs, ys, x, y, hqx, hqy, hx, hy⟩ := hg
    obtain ⟨its, rv, p, _⟩ := I.tuple hqx
    obtain ⟨its2, rv2, p2, _⟩ := I.list hqy
    obtain ⟨u, hu, ru⟩ := rv.get hx
    obtain ⟨u2, hu2, ru2⟩ := rv2.get hy
    have hzl : z < s.heap.objs.size := Heap.lt_size hz
    have hl1 : i < its.toArray.size := by
      have := (List.getElem?_eq_some_iff.mp hu).1
      simpa using this
    have hl2 : i < its2.toArray.size := by
      have := (List.getElem?_eq_some_iff.mp hu2).1
      simpa using this
    refine wpAny_pyNext_zipD2_item (sep_of D) (draws_tup (show X.A.in1.handled = none from I.ok.hd hc) i1 a D.l1i1 its.toArray) (Draws.list (show X.A.in1.handled = none from I.ok.hd hc) i2 b D.l2i2 its2.toArray) hz hTI hTO ⟨h1, p⟩ ⟨h2, p2.isList⟩ hl1 hl2 fun x1 x2 h' tk y1 y2 z' TO' st1 st2 hT hsz hk => ?_
    have e1 : x1 = u := by
      have q : its.toArray[i]? = some u := by simpa using hu
      exact Option.some.inj (y1.symm.trans q)
    have e2 : x2 = u2 := by
      have q : its2.toArray[i]? = some u2 := by simpa using hu2
      exact Option.some.inj (y2.symm.trans q)
    subst e1 e2
    refine ⟨_, rfl, wpAny_letOwnedTupleGo_zip (s := { s with heap := h', toks := tk }) z' fun h'' z'' sb => ?_⟩
    have hT2 : h''.get? s.heap.objs.size = some { cls := .type "tuple", data := .seq #[x1, x2] } := (sb.2 _ (Nat.ne_of_gt hzl)).trans hT
    have new : ObjOk X.prog X.w (upd H s.heap.objs.size (.tup [x, y])) h'' s.heap.objs.size (.tup [x, y]) :=
      ⟨by show 2 ≤ sizeLine; decide, [x1, x2], .cons ru (.cons ru2 .nil), ⟨_, hT2, rfl, _, rfl⟩⟩
    have I1 : Inv X pins σ (upd H s.heap.objs.size (.tup [x, y])) { s with heap := h'', toks := tk } :=
      I.turnedNew (t' := tk) (ch := [z, TI, TO, i1, i2]) (fun c o hb q => (sb.2 c (fun q' => hb (by simp [q']))).trans (hk c o (fun q' => hb (by simp [q'])) (fun q' => hb (by simp [q'])) (fun q' => hb (by simp [q'])) (fun q' => hb (by simp [q'])) q)) hf (Nat.le_refl _) new
    refine ⟨.ref s.heap.objs.size, _, I1, rfl, ⟨_, x, y, rfl, I.hok.fresh (Nat.le_refl _), rfl, fun l hl => by rw [I.tuple_inj hl hqx]; exact hx, fun l hl => by rw [I.list_inj hl hqy]; exact hy⟩, ⟨z'', ?_, ⟨x1, x2, ?_⟩, ?_, ?_⟩, fun c hcm => ?_⟩
    · exact (sb.2 _ D.TIz).trans (hk _ _ D.TIz D.TITO D.TIi1 D.TIi2 hTI)
    · exact (sb.2 _ D.TOz).trans TO'
    · exact st1.1.at fun o q => (sb.2 _ D.i1z).trans q
    · exact st2.1.at fun o q => (sb.2 _ D.i2z).trans q
    · have hlt : c < s.heap.objs.size := by
        have e' : c = z ∨ c = TI ∨ c = TO ∨ c = i1 ∨ c = i2 := by simpa using hcm
        rcases e' with q | q | q | q | q
        · rw [q]; exact hzl
        · rw [q]; exact Heap.lt_size hTI
        · rw [q]; exact Heap.lt_size hTO
        · rw [q]; obtain ⟨_, e1, _⟩ := h1; exact Heap.lt_size e1
        · rw [q]; obtain ⟨_, e2, _⟩ := h2; exact Heap.lt_size e2
      rw [upd_ne (Nat.ne_of_lt hlt)]
      exact (hf c hcm).1
  done := by
    intro X hP hw hK hc i pins s σ H E I hf st hg
    subst hP hw hK
    obtain ⟨hz, hTI, ⟨x0, y0, hTO⟩, h1, h2⟩ := st
    obtain ⟨xs, ys, hqx, hqy, hi1, hi2, hend⟩ := hg
    obtain ⟨its, rv, p, _⟩ := I.tuple hqx
    obtain ⟨its2, rv2, p2, _⟩ := I.list hqy
    have l1 := rv.length
    have l2 := rv2.length
    refine wpAny_pyNext_zipD2_end (sep_of D) (draws_tup (show X.A.in1.handled = none from I.ok.hd hc) i1 a D.l1i1 its.toArray) (Draws.list (show X.A.in1.handled = none from I.ok.hd hc) i2 b D.l2i2 its2.toArray) hz hTI hTO ⟨h1, p⟩ ⟨h2, p2.isList⟩ (by simp; omega) (by simp; omega) (by simp; omega) fun h' tk hk => ⟨rfl, I.turnedL (t' := tk) (ch := [z, TI, TO, i1, i2]) (fun c o hb q =>
      hk c o (fun q' => hb (by simp [q'])) (fun q' => hb (by simp [q'])) (fun q' => hb (by simp [q'])) (fun q' => hb (by simp [q'])) q) hf⟩
  self := fun A i s Q E st h => wpAny_pyIter_zip st.1 h
abbrev zmH1 (h : Heap) (l1 : Addr) : Heap := h.push { cls := .type "tuple_iterator", data := .fields #[.ref l1, .int 0 0] }
abbrev zmH2 (h : Heap) (l1 l2 : Addr) : Heap := (zmH1 h l1).push { cls := .type "list_iterator", data := .fields #[.ref l2, .int 0 0] }
abbrev zmH3 (h : Heap) (l1 l2 : Addr) : Heap := (zmH2 h l1 l2).push { cls := .type "tuple", data := .seq #[.ref h.objs.size, .ref (zmH1 h l1).objs.size] }
abbrev zmH4 (h : Heap) (l1 l2 : Addr) : Heap := (zmH3 h l1 l2).push { cls := .type "tuple", data := .seq #[.none, .none] }
abbrev zmH5 (h : Heap) (l1 l2 : Addr) : Heap := (zmH4 h l1 l2).push { cls := .type "zip", data := .fields #[.none, .bool false, .bool false, .ref (zmH2 h l1 l2).objs.size, .ref (zmH3 h l1 l2).objs.size] }
theorem meets_zipM_new (l1 l2 : Addr) (xs ys : Array Value) :
    Meets (Builtin.«zip.__new__» ⟨[.type "zip", .ref l1, .ref l2], []⟩) (fun _ R s => s.heap.IsTuple l1 xs ∧ s.heap.IsList l2 ys ∧
      R (.ok (.ret (.ref (zmH4 s.heap l1 l2).objs.size))) { s with heap := zmH5 s.heap l1 l2 }) :=
  .of_wp fun prog w A R s h => by
    obtain ⟨hp, g, d, tk, os⟩ := s
    obtain ⟨hl1, hl2, h⟩ := h
    have hsub := sub_zip
    have hL1 : Heap.IsTuple (Shared.heap ⟨hp, g, d, tk, os⟩) l1 xs := hl1
    have hL2 : Heap.IsList (Shared.heap ⟨hp.push { cls := .type "tuple_iterator", data := .fields #[.ref l1, .int 0 0] }, g, d, tk, os⟩) l2 ys := Heap.IsList.push hl2 _
    wp_walk using wpAny_pyIter_tuple hL1, wpAny_pyIter_list hL2
    exact ⟨_, rfl, h⟩
section
variable {prog : Program} {w : World} {A : Around} {E : Value → Shared → Prop} {s : Shared}
theorem call_zipM {l1 l2 : Addr} {xs ys : Array Value} {Q : Value → Shared → Prop} (hl1 : s.heap.IsTuple l1 xs) (hl2 : s.heap.IsList l2 ys)
    (h : ∀ h', IsZip h' (s.heap.objs.size + 4) (s.heap.objs.size + 2) (s.heap.objs.size + 3) .none → IsPair h' (s.heap.objs.size + 2) (.ref s.heap.objs.size) (.ref (s.heap.objs.size + 1)) →
      IsPair h' (s.heap.objs.size + 3) .none .none → h'.IsTupleIter s.heap.objs.size l1 0 → h'.IsListIter (s.heap.objs.size + 1) l2 0 → h'.objs.size = s.heap.objs.size + 5 →
      (∀ c o, s.heap.get? c = some o → h'.get? c = some o) → Q (.ref (s.heap.objs.size + 4)) { s with heap := h' }) :
    wpAny (model prog w) A (call (.type "zip") [.ref l1, .ref l2]) Q E s := by
  refine callType_new F.called_zip (by decide) (F.typeCall_zip_2 _ _) (F.newCall_zip_2 _ _) (fun obj => F.args_object_init_3 obj _ _) F.entry_zip_new
    (meets_zipM_new l1 l2 xs ys) ⟨hl1, hl2, ?_⟩
  have z1 : (zmH1 s.heap l1).objs.size = s.heap.objs.size + 1 := Heap.size_push ..
  have z2 : (zmH2 s.heap l1 l2).objs.size = s.heap.objs.size + 2 := by rw [Heap.size_push, z1]
  have z3 : (zmH3 s.heap l1 l2).objs.size = s.heap.objs.size + 3 := by rw [Heap.size_push, z2]
  have z4 : (zmH4 s.heap l1 l2).objs.size = s.heap.objs.size + 4 := by rw [Heap.size_push, z3]
  have z5 : (zmH5 s.heap l1 l2).objs.size = s.heap.objs.size + 5 := by rw [Heap.size_push, z4]
  have g5 : (zmH5 s.heap l1 l2).get? (zmH4 s.heap l1 l2).objs.size = some _ := Heap.get?_push_size _ rfl
  have g4 : (zmH5 s.heap l1 l2).get? (zmH3 s.heap l1 l2).objs.size = some _ := Heap.get?_push_of_some _ (Heap.get?_push_size _ rfl)
  have g3 : (zmH5 s.heap l1 l2).get? (zmH2 s.heap l1 l2).objs.size = some _ := Heap.get?_push_of_some _ (Heap.get?_push_of_some _ (Heap.get?_push_size _ rfl))
  have g2 : (zmH5 s.heap l1 l2).get? (zmH1 s.heap l1).objs.size = some _ := Heap.get?_push_of_some _ (Heap.get?_push_of_some _ (Heap.get?_push_of_some _ (Heap.get?_push_size _ rfl)))
  have g1 : (zmH5 s.heap l1 l2).get? s.heap.objs.size = some _ := Heap.get?_push_of_some _ (Heap.get?_push_of_some _ (Heap.get?_push_of_some _ (Heap.get?_push_of_some _ (Heap.get?_push_size _ rfl))))
  show _ ∧ _
  rw [z2, z3, z4] at g5
  rw [z1, z2] at g3
  rw [z3] at g4
  rw [z1] at g2
  rw [z4]
  exact ⟨⟨_, g5, rfl⟩, h _ g5 g3 g4 ⟨_, g1, rfl, rfl⟩ ⟨_, g2, rfl, rfl⟩ z5 fun c o x =>
    Heap.get?_push_of_some _ (Heap.get?_push_of_some _ (Heap.get?_push_of_some _ (Heap.get?_push_of_some _ (Heap.get?_push_of_some _ x))))⟩
end
def iZipM (K : PySem.W.Frag) (ta : TA) : TI := fun σ H R => ta σ H fun vs H1 => ∃ a b xs ys, vs = [.ref a, .ref b] ∧ ((SqT K H1 a xs ∧ SqT K H1 b ys ∧ R (RZ.ItzT K a b) H1) ∨ (SqT K H1 a xs ∧ SqL K H1 b ys ∧ R (ItzM K a b) H1))
theorem pi_zipM {X : Cx} {e e2 : Expr} {ta : TA} {p pos tpos : Pos} {elts : List Expr} {kk : Nat} (hg : Gl X "zip") (hm : X.mg "zip" = none) (ha : PA X [e, e2] ta)
    (hs : starEach [e, e2] X.env = (false, eval e X.env) :: starEach [e2] X.env := by rfl) (hpl : (backTo pos (starEach [e2] X.env)).any (·.1) = false := by rfl) :
    PI X (.Tuple elts kk tpos) (.Call (.Name "zip" p) [e, e2] [] pos) (iZipM X.K ta) := by
  refine ⟨fun pins s σ H R I h => ?_⟩
  refine Call_ (ld_blt I hg hm PyProof.Rows.boot_zip (PyProof.Rows.callWith_type1 (thn (ha.run pos pins s σ H _ I h) fun us s1 ⟨vs, H1, I1, r1, q1⟩ => ?_) hs hpl))
  obtain ⟨a, b, xs, ys, ex, q1⟩ := q1
  subst ex
  cases r1 with
  | cons r rr =>
    cases rr with
    | cons r' rr =>
      cases rr
      cases r
      cases r'
      have fresh5 : ∀ c, c ∈ [s1.heap.objs.size + 4, s1.heap.objs.size + 2, s1.heap.objs.size + 3, s1.heap.objs.size, s1.heap.objs.size + 1] → FpOk X pins H1 c := fun c hcm => by
        have e' : c = s1.heap.objs.size + 4 ∨ c = s1.heap.objs.size + 2 ∨ c = s1.heap.objs.size + 3 ∨ c = s1.heap.objs.size ∨ c = s1.heap.objs.size + 1 := by simpa using hcm
        have hle : s1.heap.objs.size ≤ c := by
          rcases e' with z | z | z | z | z
          · rw [z]; exact Nat.le_add_right _ _
          · rw [z]; exact Nat.le_add_right _ _
          · rw [z]; exact Nat.le_add_right _ _
          · rw [z]; exact Nat.le_refl _
          · rw [z]; exact Nat.le_add_right _ _
        exact I1.fpOk hle (I1.hok.fresh hle)
      rcases q1 with ⟨hqx, hqy, q⟩ | ⟨hqx, hqy, q⟩
      · obtain ⟨its, rv, p1, _⟩ := I1.tuple hqx
        obtain ⟨its2, rv2, p2, _⟩ := I1.tuple hqy
        obtain ⟨o1, ho1, _⟩ := id p1
        obtain ⟨o2, ho2, _⟩ := id p2
        refine RZ.call_zipT (show s1.heap.IsTuple a its.toArray from p1) (show s1.heap.IsTuple b its2.toArray from p2) fun h' hz hTI hTO h1 h2 hsz hk => wpAny_pyIter_zip hz ?_
        have I2 : Inv X pins σ H1 { s1 with heap := h' } := I1.kept (t' := s1.toks) hk
        exact ⟨s1.heap.objs.size + 4, [s1.heap.objs.size + 4, s1.heap.objs.size + 2, s1.heap.objs.size + 3, s1.heap.objs.size, s1.heap.objs.size + 1], _, _, H1, rfl, I2, RZ.turn_zipT (PySem.W.ktu_apart s1.heap.objs.size a b (Heap.lt_size ho1) (Heap.lt_size ho2)), ⟨hz, hTI, ⟨_, _, hTO⟩, h1, h2⟩, fresh5, q⟩
      · obtain ⟨its, rv, p1, _⟩ := I1.tuple hqx
        obtain ⟨its2, rv2, p2, _⟩ := I1.list hqy
        obtain ⟨o1, ho1, _⟩ := id p1
        refine call_zipM (show s1.heap.IsTuple a its.toArray from p1) p2.isList fun h' hz hTI hTO h1 h2 hsz hk => wpAny_pyIter_zip hz ?_
        have I2 : Inv X pins σ H1 { s1 with heap := h' } := I1.kept (t' := s1.toks) hk
        exact ⟨s1.heap.objs.size + 4, [s1.heap.objs.size + 4, s1.heap.objs.size + 2, s1.heap.objs.size + 3, s1.heap.objs.size, s1.heap.objs.size + 1], _, _, H1, rfl, I2, turn_zipM (PySem.W.ktu_apart s1.heap.objs.size a b (Heap.lt_size ho1) p2.lt), ⟨hz, hTI, ⟨_, _, hTO⟩, h1, h2⟩, fresh5, q⟩
theorem zipM {X : Cx} (K : PySem.W.Frag) {e e2 : Expr} {ta : TA} {p pos tpos : Pos} {elts : List Expr} {kk : Nat} (hg : Gl X "zip") (hm : X.mg "zip" = none) (ha : PA X [e, e2] ta)
    (hs : starEach [e, e2] X.env = (false, eval e X.env) :: starEach [e2] X.env := by rfl) (hpl : (backTo pos (starEach [e2] X.env)).any (·.1) = false := by rfl) (h : X.K = K := by rfl) :
    PI X (.Tuple elts kk tpos) (.Call (.Name "zip" p) [e, e2] [] pos) (iZipM K ta) := h ▸ pi_zipM hg hm ha hs hpl
theorem walk_zipM {K : PySem.W.Frag} {a b : Addr} {xs ys : List V} {n : Nat} (hn : n = min xs.length ys.length) : Walk (ItzM K a b) n (fun H => SqT K H a xs ∧ SqL K H b ys) (YPair (fun i => xs[i]?) (fun i => ys[i]?)) := by
  subst hn
  refine ⟨fun i _ hi q => ?_, fun _ q => ⟨xs, ys, q.1, q.2, by omega, by omega, by omega⟩, fun i H v H' _ q y => ?_⟩
  · have h1 : i < xs.length := by omega
    have h2 : i < ys.length := by omega
    exact ⟨xs, ys, xs[i], ys[i], q.1, q.2, by simp [h1], by simp [h2]⟩
  · obtain ⟨T, x, z, h1, h2, h3, h4, h5⟩ := y
    exact ⟨T, x, z, h1, h2, h3, h4 xs q.1, h5 ys q.2⟩
end Pk
end
section
set_option Elab.async false
set_option linter.all false
set_option maxRecDepth 100000
set_option maxHeartbeats 4000000
/-! sum(a list of ints, start=i). -/
namespace Pk
open PySem PySem.Spec PyProof.Rows L2 FL
section
variable {prog : Program} {w : World} {A : Around} {I : Addr} {fp wr : List Addr} {G : Array GenState → Array GenState → Prop} {n : Nat} {P : Nat → Value → Prop} {St : Nat → Shared → Prop}
def upP (P : Nat → Value → Prop) : Nat → Value → Prop
  | 0, _ => False
  | i + 1, v => P i v
def upS (St : Nat → Shared → Prop) : Nat → Shared → Prop
  | 0, _ => False
  | i + 1, s => St i s
theorem walks_up (W : WalksS prog w A I fp wr G n P St) : WalksS prog w A I fp wr G (n + 1) (upP P) (upS St) where
  sub := W.sub
  grefl := W.grefl
  gtrans := W.gtrans
  frame := fun i s h' tk hs ht hk => by
    cases i with
    | zero => exact hs.elim
    | succ i => exact W.frame i s h' tk hs ht hk
  item := fun i s Q E hi hs hQ => by
    cases i with
    | zero => exact hs.elim
    | succ i => exact W.item i s Q E (by omega) hs fun v s' hp hs' hm => hQ v s' hp hs' hm
  done := fun s Q E hs hQ => W.done s Q E hs hQ
  self := fun i s Q E hs hQ => by
    cases i with
    | zero => exact hs.elim
    | succ i => exact W.self i s Q E hs hQ
end
theorem args_sumK (a b : Value) : argsOk "sum" ⟨[a], [(Str.ofString "start", b)]⟩ := by unfold argsOk; kernel_rfl
section
variable {prog : Program} {w : World} {A : Around} {E : Value → Shared → Prop} {s : Shared}
theorem call_fn_treeK {id : String} {b : Builtin} {args : List Value} {kw : List (Str × Value)} {Q : Value → Shared → Prop} (hk : builtinKind id = none) (hp : plainId id = true)
    (hb : entryFor table id = some b) (ha : argsOk id ⟨args, kw⟩)
    (hc : wpAny (model prog w) A.in1 (b ⟨args, kw⟩) (fun fin s' => match fin with
      | .done f => (match (Except.ok f : Result) with | .ok (.ret v) => Q v s' | .ok _ => False | .error e => E e s')
      | .again c' => c'.quiet = true ∧ codeAny (model prog w) A c' (fun r s' => match r with | .ok (.ret v) => Q v s' | .ok _ => False | .error e => E e s') s') E s) :
    wpAny (model prog w) A (call (.builtin id) args kw) Q E s := by
  refine wpAny_call (codeAny_call_builtin hp hb ?_)
  simp only [checkBuiltinCall, hk]
  cases hsig : Manifest.signature? id with
  | none => exact wpAny_pure hc
  | some sig =>
    simp only [argsOk, hsig] at ha
    have h2 : Bind.checkArgs id sig ⟨args, kw⟩ = pure () := ha
    show wpAny _ A.in1 (Bind.checkArgs id sig ⟨args, kw⟩) _ _ s
    rw [h2]; exact wpAny_pure hc
theorem call_sum_one {x : Value} {tk0 : Tok} {Q : Value → Shared → Prop}
    (h : wpAny (model prog w) A.in1 (pyIter x) (fun it s₂ => ∃ I fp wr G n P St val, it = .ref I ∧ WalksS prog w A.in1 I fp wr G n P St ∧ St 0 s₂ ∧ (∀ b ∈ fp, b < s₂.heap.objs.size) ∧
      (∀ i v, P i v → ∃ t, v = .int (val i) t) ∧
      ∀ s' t', Moved wr G s₂ s' → Q (.int (1 + preSum val n) t') s') E s) :
    wpAny (model prog w) A (call (.builtin "sum") [x] [(Str.ofString "start", .int 1 tk0)]) Q E s := by
  refine call_fn_treeK F.kind_sum F.plain_sum F.entry_sum (args_sumK _ _) ?_
  unfold Builtin.«sum»
  simp only [List.length_cons, List.length_nil]
  rw [if_neg (by decide)]
  refine wpAny_bind (wpAny_of_eq (show Builtin.Builtins.bindParams "sum" ["start"] 0 ⟨[], [(Str.ofString "start", .int 1 tk0)]⟩ = pure [some (.int 1 tk0)] from by kernel_rfl) ?_)
  refine wpAny_bind (wpAny_mono h (fun it s₂ h₂ => ?_) fun _ _ e => e)
  obtain ⟨I, fp, wr, G, n, P, St, val, rfl, W, hst, hfp, hval, hQ⟩ := h₂
  have hSf : s₂.heap.objs.size ∉ fp := fun hm => Nat.lt_irrefl _ (hfp _ hm)
  have hsum : ∀ m, preSum (fun i => match i with | 0 => 1 | i + 1 => val i) (m + 1) = 1 + preSum val m := fun m => by
    rw [PySem.W.kdu_shift]
  have hv' : ∀ i v, upP P i v → ∃ t, v = .int ((fun i => match i with | 0 => 1 | i + 1 => val i : Nat → Int) i) t := fun i v hv => by
    cases i with
    | zero => exact hv.elim
    | succ i => exact hval i v hv
  dsimp only
  split
  · refine wpAny_bind (wpAny_rule (wpAny_bind (wpAny_mkInt (wpAny_bind (wpAny_pure ?_)))))
    simp only [List.forIn_cons, List.forIn_nil]
    refine wpAny_bind (wpAny_bind (wpAny_bind (wpAny_isInstance (T := "int") (b := false) (typeIs_int _ _ _) PyProof.Rows.sub_int_str ?_)))
    simp only [Bool.false_eq_true, if_false]
    refine wpAny_pure (wpAny_bind (wpAny_bind (wpAny_isInstance (T := "int") (b := false) (typeIs_int _ _ _) sub_int_bytes ?_)))
    simp only [Bool.false_eq_true, if_false]
    refine wpAny_pure (wpAny_bind (wpAny_bind (wpAny_isInstance (T := "int") (b := false) (typeIs_int _ _ _) sub_int_bytearray ?_)))
    simp only [Bool.false_eq_true, if_false]
    refine wpAny_pure (wpAny_pure ?_)
    refine wpAny_bind (wpAny_newObj_type ?_)
    refine wpAny_pure ⟨plainId_quiet F.plain_sum_loop _, codeAny_sum_loopAnyS (walks_up W) _ hv' s₂.heap.objs.size hSf n 1 _ s₂.toks 0 0 (.inl rfl) (by omega) (by omega)
      (W.frame 0 s₂ _ _ hst (by first | exact Nat.le_refl _ | exact Nat.le_succ _ | omega) fun b _ o e => Heap.get?_push_of_some _ e) (Heap.get?_push_size _ rfl) fun s' t' hm => ?_⟩
    rw [hsum]
    exact hQ s' t' (hm.drop_new (by first | exact Nat.le_refl _ | exact Nat.le_succ _ | omega))
  · refine wpAny_bind (wpAny_pure ?_)
    simp only [List.forIn_cons, List.forIn_nil]
    refine wpAny_bind (wpAny_bind (wpAny_bind (wpAny_isInstance (T := "int") (b := false) (typeIs_int _ _ _) PyProof.Rows.sub_int_str ?_)))
    simp only [Bool.false_eq_true, if_false]
    refine wpAny_pure (wpAny_bind (wpAny_bind (wpAny_isInstance (T := "int") (b := false) (typeIs_int _ _ _) sub_int_bytes ?_)))
    simp only [Bool.false_eq_true, if_false]
    refine wpAny_pure (wpAny_bind (wpAny_bind (wpAny_isInstance (T := "int") (b := false) (typeIs_int _ _ _) sub_int_bytearray ?_)))
    simp only [Bool.false_eq_true, if_false]
    refine wpAny_pure (wpAny_pure ?_)
    refine wpAny_bind (wpAny_newObj_type ?_)
    refine wpAny_pure ⟨plainId_quiet F.plain_sum_loop _, codeAny_sum_loopAnyS (walks_up W) _ hv' s₂.heap.objs.size hSf n 1 _ tk0 0 2 (.inr rfl) (by omega) (by omega)
      (W.frame 0 s₂ _ _ hst (by first | exact Nat.le_refl _ | exact Nat.le_succ _ | omega) fun b _ o e => Heap.get?_push_of_some _ e) (Heap.get?_push_size _ rfl) fun s' t' hm => ?_⟩
    rw [hsum]
    exact hQ s' t' (hm.drop_new (by first | exact Nat.le_refl _ | exact Nat.le_succ _ | omega))
end
/-! ### the rule -/
section
variable {X : Cx}
def rSumOne : List V → List V → Hp → VK → Prop := fun vs zs H Q => ∃ (a : Addr) (ns : List Int), vs = [V.ref a] ∧ zs = [.int 1] ∧ H a = some (.lst (ns.map V.int)) ∧ Q (.int (1 + ns.sum)) H
theorem cr_sumOne (hc : X.calm = true) : CallRK X (.builtin "sum") [Str.ofString "start"] rSumOne := by
  intro pins s σ H vs zs us ws Q I r rz h
  obtain ⟨a, ns, rfl, rfl, hs, q⟩ := h
  obtain rfl := Vals.ref1 r
  obtain ⟨w1, rfl, t1, rfl⟩ := vals1 rz
  obtain ⟨its, rv, hl, _⟩ := I.list (SqL.of hs)
  have hi := rv.ints
  obtain ⟨xs, e⟩ := hi.allInts.items
  have hn : numsOf (intItems xs).toList = ns := by rw [← e]; exact hi.numsOf
  rw [nums_intItems] at hn
  have hL := hl.isList
  rw [e] at hL
  refine call_sum_one (iter_intList hL fun s₂ e2 st hfp hlI => ?_)
  subst e2
  refine ⟨_, _, _, _, _, _, _, numAt xs, rfl, (Walks.list (A := X.A.in1) (I.ok.hd hc) _ a hlI (intItems xs)).toS, st, hfp, (fun _ _ => intItems_at), fun s' t' hm => ?_⟩
  obtain ⟨h', g', d', tk', os'⟩ := s'
  have eg : g' = s.gens := hm.gens
  have ed : d' = s.drawn := hm.drawn
  have eo : os' = s.os := hm.os
  subst eg; subst ed; subst eo
  have ep : preSum (numAt xs) (intItems xs).size = ns.sum := by
    rw [preSum_eq, List.take_of_length_le (by simp [intItems]), hn]
  rw [ep]
  exact ⟨.int _, H, I.kept (t' := tk') (old_kept hm.heap), ⟨_, rfl⟩, q⟩
end
theorem pe_sumOne {X : Cx} {e : Expr} {te : TE} {tk : TA} {p pos : Pos} {kws : List Keyword} (hc : X.calm = true) (hm : X.mg "sum" = none) (he : PE X e te) (hk : PK X kws tk) (hg : Gl X "sum" := by rfl)
    (hst : starEach (e :: []) X.env = (false, eval e X.env) :: starEach [] X.env := by rfl)
    (h1 : backTo pos (starEach (e :: []) X.env) = (false, eval e X.env) :: backTo pos (starEach [] X.env) := by rfl) (h2 : (backTo pos (starEach (e :: []) X.env)).any (·.1) = false := by rfl)
    (h3 : (backToKw pos (keywordEach kws X.env)).all (·.1.isSome) = true := by rfl) (h4 : (backToKw pos (keywordEach kws X.env)).any (·.1.isNone) = false := by rfl) (h5 : (backToKw pos (keywordEach kws X.env)).filterMap (·.1) = [Str.ofString "start"] := by rfl) :
    PE X (.Call (.Name "sum" p) [e] kws pos) (tCKw rSumOne (tCons te tNil) tk) := pe_callBK (cr_sumOne hc) hg hm (by decide +kernel) (pa_cons he pa_nil (hs := hst)) hk (by decide) (by decide) h1 h2 h3 h4 h5
end Pk
end
section
set_option Elab.async false
set_option linter.all false
set_option maxRecDepth 100000
set_option maxHeartbeats 8000000
namespace Pk
open PySem PySem.Spec PyProof.Rows L2 FL
/-! ### counts -/
theorem cnt_map_mul (n : Int) : ∀ (rows : List Row) (f s : Str), cnt (rows.map fun r => (r.1, r.2.1, n * r.2.2)) f s = n * cnt rows f s
  | [], _, _ => by simp [cnt]
  | r :: rs, f, s => by
    show (if r.1 = f ∧ r.2.1 = s then n * r.2.2 else 0) + cnt (rs.map fun r => (r.1, r.2.1, n * r.2.2)) f s = n * ((if r.1 = f ∧ r.2.1 = s then r.2.2 else 0) + cnt rs f s)
    rw [cnt_map_mul n rs f s, Int.mul_add]
    split <;> simp
theorem rows_mul {n : Int} (hn : 1 ≤ n) {rows : List Row} (h : RowsOK rows) : RowsOK (rows.map fun r => (r.1, r.2.1, n * r.2.2)) := fun r hr => by
  obtain ⟨x, hx, rfl⟩ := List.mem_map.mp hr
  obtain ⟨h1, h2, h3⟩ := h x hx
  exact ⟨h1, h2, show 1 ≤ n * x.2.2 from Int.le_trans h3 (by
    have := Int.mul_le_mul_of_nonneg_right hn (show 0 ≤ x.2.2 by omega)
    omega)⟩
theorem mixK_app (f s : Str) : ∀ (ks : List (Cnt Str Str)) (ns : List Int) (k : Cnt Str Str) (n : Int), ks.length = ns.length → mixK (ks ++ [k]) (ns ++ [n]) f s = mixK ks ns f s + n * k f s
  | [], [], k, n, _ => by simp [mixK]
  | [], _ :: _, _, _, h => by simp at h
  | _ :: _, [], _, _, h => by simp at h
  | a :: ks, b :: ns, k, n, h => by
    show b * a f s + mixK (ks ++ [k]) (ns ++ [n]) f s = b * a f s + mixK ks ns f s + n * k f s
    rw [mixK_app f s ks ns k n (by simpa using h)]
    omega
theorem manyOf_one : ∀ (rows : List Row) (f s : Str), manyOf rows f (some s) = cnt rows f s
  | [], _, _ => rfl
  | r :: rs, f, s => by
    unfold manyOf
    rw [List.filterMap_cons]
    have ih := manyOf_one rs f s
    unfold manyOf at ih
    show _ = (if r.1 = f ∧ r.2.1 = s then r.2.2 else 0) + cnt rs f s
    unfold manyF
    by_cases h : r.1 = f ∧ r.2.1 = s
    · rw [if_pos ⟨h.1, .inr (by rw [h.2])⟩, if_pos h]
      show (r.2.2 :: rs.filterMap (manyF f (some s))).sum = _
      rw [List.sum_cons, ih]
    · rw [if_neg (fun z => h ⟨z.1, z.2.elim (fun q => by cases q) fun q => (Option.some.inj q).symm⟩), if_neg h]
      show (rs.filterMap (manyF f (some s))).sum = _
      rw [ih]; omega
theorem manyOf_all : ∀ (rows : List Row) (f : Str), RowsOK rows → manyOf rows f none = su (cnt rows f) SH
  | [], f, _ => by
    exact (su_zero fun s _ => rfl).symm
  | r :: rs, f, h => by
    unfold manyOf
    rw [List.filterMap_cons]
    have ih := manyOf_all rs f fun x hx => h x (by simp [hx])
    unfold manyOf at ih
    have e : su (cnt (r :: rs) f) SH = su (fun s => if r.1 = f ∧ r.2.1 = s then r.2.2 else 0) SH + su (cnt rs f) SH := by
      rw [← su_add]
      exact su_congr fun s _ => rfl
    rw [e]
    unfold manyF
    by_cases h1 : r.1 = f
    · rw [if_pos ⟨h1, .inl rfl⟩]
      show (r.2.2 :: rs.filterMap (manyF f none)).sum = _
      rw [List.sum_cons, ih]
      have : su (fun s => if r.1 = f ∧ r.2.1 = s then r.2.2 else 0) SH = su (fun s => if s = r.2.1 then r.2.2 else 0) SH := su_congr fun s _ => by
        by_cases z : s = r.2.1
        · rw [if_pos z, if_pos ⟨h1, z.symm⟩]
        · rw [if_neg z, if_neg (fun q => z q.2.symm)]
      rw [this, su_ite SH_nd (h r (by simp)).2.1]
    · rw [if_neg (fun z => h1 z.1)]
      show (rs.filterMap (manyF f none)).sum = _
      rw [ih, su_zero fun s _ => if_neg fun z => h1 z.1]
      omega
def wF (f : Str) (o : Option (List Str)) (w : Want Str Str) : Int := match o with
  | none => if w.1 = f then w.2.2 else 0
  | some T => if w.1 = f ∧ w.2.1 ≠ [] ∧ ∀ s ∈ w.2.1, s ∈ T then w.2.2 else 0
theorem wanted_su (ws : List (Want Str Str)) (f : Str) (o : Option (List Str)) : wantedAt ws f o = su (wF f o) ws := by cases o <;> rfl
/-- shades: None or a tuple of texts -/
def OptSh : RX (Option (List Str)) := fun H v o => match o with
  | none => v = .non
  | some T => ∃ b, v = .ref b ∧ H b = some (.tup (T.map V.str))
theorem OptSh.mo : Mo OptSh := fun H H' v o k h => by
  cases o with
  | none => exact h
  | some T =>
    obtain ⟨b, e, h⟩ := h
    exact ⟨b, e, tup_keep k h⟩
def BlR : RX Bool := fun _ v b => v = .bl b
theorem BlR.mo : Mo BlR := fun _ _ _ _ _ h => h
theorem all2_bl {H : Hp} : ∀ {xs : List V} {bs : List Bool}, All2 (BlR H) xs bs → xs = bs.map V.bl
  | _, _, .nil => rfl
  | _, _, .cons r t => by rw [List.map_cons, all2_bl t, r]
theorem inV_str (s : Str) : ∀ T : List Str, inV (.str s) (T.map V.str) = decide (s ∈ T)
  | [] => rfl
  | a :: r => by
    show (eqV (.str a) (.str s) || inV (.str s) (r.map V.str)) = _
    rw [str_beq, inV_str s r]
    by_cases h : a = s
    · subst h; simp
    · have : ¬ s = a := fun z => h z.symm
      simp [h, this]
theorem strs_flat (T : List Str) : (T.map V.str).all flatV = true := by
  rw [List.all_eq_true]
  intro x hx
  obtain ⟨s, _, rfl⟩ := List.mem_map.mp hx
  rfl
section
variable {P : Program} {w : World} {K : PySem.W.Frag} {mg : Str → Option Value} {base : Heap} {C : Addr}
/-! ### times -/
def spTimes (C : Addr) : Sp := fun vs H Q _ => ∃ v rows n, vs = [v, .int n] ∧ HeapR C H v rows ∧ HeapOK rows ∧ 1 ≤ n ∧ n ≤ 1000000 ∧
  ∀ v' H' rows', Same H H' → HeapR C H' v' rows' → HeapOK rows' → (∀ f s, cnt rows' f s = n * cnt rows f s) → Q v' H'
theorem sc_times : FnScope ["heap", "number", "form", "shade", "many"] ["heap", "number"] (defScope s_times) := ⟨rfl, rfl, rfl, by decide +kernel, rfl, by decide +kernel, by decide +kernel⟩
theorem c_times (T : Txt K mg C) : Cal P w K mg base CX0 4 "times" ["heap", "number"] (spTimes C) := by
  have C_Heap_init : Maker P w K mg base C 2 ["self", "rows"] (spInit C) := c_Heap_init T
  have M_rows : Mal P w K mg base C 1 "rows" ["self"] (spRows C) [] := M_rows_ T
  refine Cal.mk' T.d_times sc_times (fun vs H Q E h => ?_) (fun _ _ _ _ _ _ us hl => match us, hl with | [_, _], _ => rfl) (fun f cdv A outer s H vs Q E hr h => ?_)
  · obtain ⟨v, rows, n, rfl, _⟩ := h
    rfl
  · obtain ⟨v, rows, n, rfl, hv, hok, hn1, hn2, k⟩ := h
    have sc := sc_times
    refine ⟨_, (pss_one (ps_ret (pe_heap T.mgC C_Heap_init hr (pe_callTy tup1 (by rfl) T.tuple (by decide +kernel) (pa_cons (pe_lc (own := [("form", 2), ("shade", 3), ("many", 4)]) rfl sc.nd (piT K (pe_mal0 T.cl M_rows hr (pv 0))) (blkOk_by (N := ["heap", "number", "form", "shade", "many"]) (sc := defScope s_times) (own := [("form", 2), ("shade", 3), ("many", 4)]) (by decide +kernel)) (fun _ _ _ _ _ => (pgT K (n := 3) rfl (pgs_cons (pg_name (i := 2) sc.nd rfl (.inl rfl)) (pgs_cons (pg_name (i := 3) sc.nd rfl (.inl rfl)) (pgs_cons (pg_name (i := 4) sc.nd rfl (.inl rfl)) pgs_nil))))) (fun _ _ _ _ _ => pts_nil) (fun _ _ _ _ _ => (pe_tup (pa_cons (pv 2) (pa_cons (pv 3) (pa_cons (pe_op op_mul (pv 1) (pv 4)) pa_nil)))))) pa_nil))))), ?_⟩
    obtain ⟨ah, dx, p, rfl, hah, _⟩ := id hv
    refine ⟨_, rfl, ah, dx, _, rfl, hah, rfl, _, rows, rfl, hv, fun v' hv' => ?_⟩
    obtain ⟨q, zs, rfl, hq, hzs⟩ := hv'
    refine ⟨q, rfl, ⟨_, SqT.of hq⟩, fun D nD => ?_⟩
    have hlen := hok.len
    refine lc_typed (walk_tup (K := K) (a := q) (xs := zs)) nD RowR RowR.mo (fun i => (rows[i]?).map fun r => (r.1, r.2.1, n * r.2.2)) (by rw [hzs.length]; omega) (fun H3 s3 => SqT.of (s3 _ _ hq)) (fun i y H3 H4 hi s3 hY kt kf => ?_) (fun H3 acc s3 hD hacc => ?_)
    · obtain ⟨rfl, hy⟩ := hY
      obtain ⟨r, hr1, c, rfl, hc⟩ := hzs.get hy
      have hc4 := s3 _ _ hc
      refine ⟨c, _, rfl, SqT.of hc4, rfl, _, _, rfl, _, _, rfl, _, _, rfl, rfl, rfl, yesT ?_⟩
      refine ⟨_, rfl, _, rfl, _, rfl, _, rfl, _, _, rfl, rfl, .inl ⟨by omega, by omega⟩, (by show 3 ≤ sizeLine; decide), fun t nt => ?_⟩
      refine kt _ _ (r.1, r.2.1, n * r.2.2) (same_new nt) ?_ ⟨t, rfl, upd_same⟩
      show (rows[i]?).map _ = _
      rw [hr1]
      rfl
    · rw [hzs.length, filterMap_get] at hacc
      refine ⟨D, acc, rfl, hD, fun c H5 s5 nc hc => ?_⟩
      refine ⟨rows.map fun r => (r.1, r.2.1, n * r.2.2), ⟨c, acc, rfl, hc, All2.mo RowR.mo (Keep.of s5) hacc⟩, rows_mul hn1 hok.1, fun v' H6 rows' s6 hH sc' => ?_⟩
      exact k v' H6 rows' ((s3.trans s5).trans s6) hH sc'.ok fun f s => by rw [sc'.eq, cnt_map_mul]
/-! ### with_kits -/
abbrev KitsR (C : Addr) : RX (List (List Row)) := TupR (HeapR C)
def cnts (krows : List (List Row)) : List (Cnt Str Str) := krows.map cnt
def spWithKits (C : Addr) : Sp := fun vs H Q _ => ∃ v rows u krows m ns, vs = [v, u, .ref m] ∧ HeapR C H v rows ∧ HeapOK rows ∧ KitsR C H u krows ∧ (∀ r ∈ krows, HeapOK r) ∧ (H m = some (.tup (ns.map V.int)) ∨ H m = some (.lst (ns.map V.int))) ∧ ns.length = krows.length ∧ (∀ n ∈ ns, n ≤ 1000000 ∧ 0 ≤ n) ∧
  ∀ v' H' rows', Same H H' → HeapR C H' v' rows' → HeapOK rows' → (∀ f s, cnt rows' f s = mix (cnt rows) (cnts krows) ns f s) → Q v' H'
theorem mix_step (h : Cnt Str Str) {krows : List (List Row)} {ns : List Int} (hl : ns.length = krows.length) {i : Nat} {r : List Row} {n : Int} (hr : krows[i]? = some r) (hn : ns[i]? = some n) (f s : Str) :
    mix h (cnts (krows.take (i + 1))) (ns.take (i + 1)) f s = mix h (cnts (krows.take i)) (ns.take i) f s + n * cnt r f s := by
  unfold mix cnts
  rw [take_next hr, take_next hn, List.map_append]
  have := mixK_app f s ((krows.take i).map cnt) (ns.take i) (cnt r) n (by rw [List.length_map, List.length_take, List.length_take, hl])
  show h f s + mixK (((krows.take i).map cnt) ++ [cnt r]) _ f s = _
  rw [this]
  omega
theorem sc_with_kits : FnScope ["heap", "kits", "many", "found", "kit", "number"] ["heap", "kits", "many"] (defScope s_with_kits) := ⟨rfl, rfl, rfl, by decide +kernel, rfl, by decide +kernel, by decide +kernel⟩
theorem c_with_kits (T : Txt K mg C) : Cal P w K mg base CX0 5 "with_kits" ["heap", "kits", "many"] (spWithKits C) := by
  have M_plus : Mal P w K mg base C 4 "plus" ["self", "other"] (spPlus C) [] := M_plus_ T
  have C_times : Cal P w K mg base CX0 4 "times" ["heap", "number"] (spTimes C) := c_times T
  refine Cal.mk' T.d_with_kits sc_with_kits (fun vs H Q E h => ?_) (fun _ _ _ _ _ _ us hl => match us, hl with | [_, _, _], _ => rfl) (fun f cdv A outer s H vs Q E hr h => ?_)
  · obtain ⟨v, rows, u, krows, m, ns, rfl, _⟩ := h
    rfl
  · obtain ⟨v, rows, u, krows, m, ns, rfl, hv, hok, ⟨ka, kxs, rfl, hka, hkall⟩, hkok, hm, hl, hns, k⟩ := h
    have sc := sc_with_kits
    refine ⟨_, (pss_cons (ps_set (i := 3) sc.nd rfl (.inl rfl) (pv 0))
      (pss_cons (ps_for PassesOwn.never rfl (zipM K (by rfl) T.zip (pa_cons (pv 1) (pa_cons (pv 2) pa_nil))) (pgT K (n := 2) rfl (pgs_cons (pg_name (i := 4) sc.nd rfl (.inl rfl)) (pgs_cons (pg_name (i := 5) sc.nd rfl (.inl rfl)) pgs_nil))) (pss_one (ps_if (pt_cmpR op_gt (pv 5) pe_int (nomark _)) (pss_one (ps_set (i := 3) sc.nd rfl (.inl rfl) (pe_mal T.cl M_plus hr (pv 3) (pa_cons (pe_cal C_times hr (pa_cons (pv 4) (pa_cons (pv 5) pa_nil))) pa_nil)))) pss_nil)))
      (pss_one (ps_ret (pv 3))))), ?_⟩
    have hkl : kxs.length = krows.length := hkall.length
    have Pv : Nat → L2.St → Hp → Prop := fun _ _ _ => True
    refine ⟨_, rfl, _, rfl, _, rfl, ka, m, kxs, ns.map V.int, rfl, ?_⟩
    rcases hm with hm | hm
    all_goals
      first
      | refine .inl ⟨SqT.of hka, SqT.of hm, for_it (walk_zipT (n := krows.length) (by rw [List.length_map]; omega)) (fun i σ H2 => ∃ v' rows' v4 v5, σ = [some v, some (.ref ka), some (.ref m), some v', v4, v5] ∧ Same H H2 ∧ HeapR C H2 v' rows' ∧ HeapOK rows' ∧ ∀ f s, cnt rows' f s = mix (cnt rows) (cnts (krows.take i)) (ns.take i) f s)
          ⟨v, rows, none, none, rfl, Same.refl _, hv, hok, fun f s => by simp [mix, cnts, mixK]⟩ (fun i σ H2 _ ⟨_, _, _, _, _, s2, _⟩ => ⟨SqT.of (s2 _ _ hka), SqT.of (s2 _ _ hm)⟩) ?_ ?_⟩
      | refine .inr ⟨SqT.of hka, SqL.of hm, for_it (walk_zipM (n := krows.length) (by rw [List.length_map]; omega)) (fun i σ H2 => ∃ v' rows' v4 v5, σ = [some v, some (.ref ka), some (.ref m), some v', v4, v5] ∧ Same H H2 ∧ HeapR C H2 v' rows' ∧ HeapOK rows' ∧ ∀ f s, cnt rows' f s = mix (cnt rows) (cnts (krows.take i)) (ns.take i) f s)
          ⟨v, rows, none, none, rfl, Same.refl _, hv, hok, fun f s => by simp [mix, cnts, mixK]⟩ (fun i σ H2 _ ⟨_, _, _, _, _, s2, _⟩ => ⟨SqT.of (s2 _ _ hka), SqL.of (s2 _ _ hm)⟩) ?_ ?_⟩
      · rintro i x σ H2 H3 hi ⟨v', rows', v4, v5, rfl, s2, hv', hok', hcnt⟩ ⟨Tt, x1, x2, rfl, nT, rfl, hx1, hx2⟩
        obtain ⟨r, hr1, hkr⟩ := hkall.get hx1
        have hx2' : (ns.map V.int)[i]? = some x2 := hx2
        rw [List.getElem?_map] at hx2'
        obtain ⟨n, hn, rfl⟩ := Option.map_eq_some_iff.mp hx2'
        have hnn := hns n (List.mem_of_getElem? hn)
        have sT := same_new (o := .tup [x1, .int n]) nT
        have s3 := s2.trans sT
        refine ⟨Tt, _, rfl, SqT.of upd_same, rfl, _, _, rfl, _, _, rfl, rfl, ?_⟩
        refine ⟨_, rfl, _, _, rfl, rfl, _, rfl, ite2 (fun hg => ?_) (fun hg => ?_)⟩
        · have hpos : 0 < n := of_decide_eq_true hg
          have hv3 := HeapR.mo _ _ _ _ (Keep.of sT) hv'
          obtain ⟨ah, dx, p, rfl, hah, _⟩ := id hv3
          refine ⟨_, rfl, ah, dx, _, rfl, hah, rfl, _, rfl, _, rfl, x1, r, n, rfl, HeapR.mo _ _ _ _ (Keep.of s3) hkr, hkok r (List.mem_of_getElem? hr1), by omega, hnn.1, fun w' H4 rows4 s4 hw' hok4 hc4 => ?_⟩
          refine ⟨_, _, rows', rows4, rfl, HeapR.mo _ _ _ _ (Keep.of s4) hv3, hw', hok', hok4, fun v5 H5 rows5 s5 hv5 sc5 => ?_⟩
          refine ⟨v5, rows5, _, _, rfl, (s3.trans s4).trans s5, hv5, sc5.ok, fun f s => ?_⟩
          rw [sc5.eq, cnt_append, hcnt, hc4, mix_step _ hl hr1 hn]
        · have hz : n = 0 := by
            have : ¬ 0 < n := fun z => hg (decide_eq_true z)
            omega
          refine ⟨v', rows', _, _, rfl, s3, HeapR.mo _ _ _ _ (Keep.of sT) hv', hok', fun f s => ?_⟩
          rw [hcnt, mix_step _ hl hr1 hn, hz]
          omega
      · rintro σ H2 ⟨v', rows', v4, v5, rfl, s2, hv', hok', hcnt⟩
        rw [take_all, ← hl, take_all] at hcnt
        exact ⟨_, rfl, k v' H2 rows' s2 hv' hok' hcnt⟩
/-! ### has_at -/
def spHasAt (C : Addr) : Sp := fun vs H Q _ => ∃ v rows f ov o, vs = [v, .str f, ov] ∧ HeapR C H v rows ∧ HeapOK rows ∧ OptSh H ov o ∧ (∀ T, o = some T → T.length ≤ 1000) ∧ ∀ H', Same H H' → Q (.int (hasAt SH (cnt rows) f o)) H'
theorem su_sum {α : Type} (f : α → Int) : ∀ l : List α, su f l = (l.map f).sum
  | [] => rfl
  | a :: r => by
    show f a + su f r = _
    rw [su_sum f r, List.map_cons, List.sum_cons]
theorem sc_has_at : FnScope ["heap", "form", "shades", "shade"] ["heap", "form", "shades"] (defScope s_has_at) := ⟨rfl, rfl, rfl, by decide +kernel, rfl, by decide +kernel, by decide +kernel⟩
theorem c_has_at (T : Txt K mg C) : Cal P w K mg base CX0 2 "has_at" ["heap", "form", "shades"] (spHasAt C) := by
  have M_many1 : Mal P w K mg base C 1 "many" ["self", "form", "shade"] (spMany C) [.non] := M_many1_ T
  have M_manyK : MalK P w K mg base C 1 1 "many" ["shade"] ["self", "form", "shade"] (spMany C) (fun vs zs => vs ++ zs) := M_manyK_ T
  refine Cal.mk' T.d_has_at sc_has_at (fun vs H Q E h => ?_) (fun _ _ _ _ _ _ us hl => match us, hl with | [_, _, _], _ => rfl) (fun f cdv A outer s H vs Q E hr h => ?_)
  · obtain ⟨v, rows, g, ov, o, rfl, _⟩ := h
    rfl
  · obtain ⟨v, rows, g, ov, o, rfl, hv, hok, ho, hTl, k⟩ := h
    have sc := sc_has_at
    have hlen := hok.len
    refine ⟨_, (pss_cons (ps_if (pt_cmpR op_isN (pv 2) pe_non (nomark _)) (pss_one (ps_ret (pe_mal T.cl M_many1 hr (pv 0) (pa_cons (pv 1) pa_nil)))) pss_nil)
      (pss_one (ps_ret (pe_callB (sum1 rfl) (by rfl) T.sum (by decide +kernel) (pa_cons (pe_lc (own := [("shade", 3)]) rfl sc.nd (piT K (pv 2)) (blkOk_by (N := ["heap", "form", "shades", "shade"]) (sc := defScope s_has_at) (own := [("shade", 3)]) (by decide +kernel)) (fun _ _ _ _ _ => (pg_name (i := 3) sc.nd rfl (.inl rfl))) (fun _ _ _ _ _ => pts_nil) (fun _ _ _ _ _ => (pe_malK T.cl M_manyK hr (pv 0) (pa_cons (pv 1) pa_nil) (pk_cons (pv 3) pk_nil)))) pa_nil))))), ?_⟩
    obtain ⟨ah, dx, p, rfl, hah, _⟩ := id hv
    refine ⟨_, rfl, rfl, _, rfl, ?_⟩
    cases o with
    | none =>
      obtain rfl : ov = .non := ho
      refine ite_t rfl ?_
      refine ⟨_, rfl, ah, dx, _, rfl, hah, rfl, _, rfl, _, rows, g, none, rfl, hv, by omega, fun H1 s1 => ?_⟩
      have := k H1 s1
      rw [manyOf_all rows g hok.1]
      exact this
    | some T' =>
      obtain ⟨b, rfl, hb⟩ := ho
      have hT := hTl T' rfl
      refine ite_f rfl ?_
      refine ⟨_, rfl, b, rfl, ⟨_, SqT.of hb⟩, fun D nD => ?_⟩
      refine lc_typed (walk_tup (K := K) (a := b) (xs := T'.map V.str)) nD IntR IntR.mo (fun i => (T'[i]?).map fun z => cnt rows g z) (by rw [List.length_map]; omega) (fun H3 s3 => SqT.of (s3 _ _ hb)) (fun i y H3 H4 hi s3 hY kt kf => ?_) (fun H3 acc s3 hD hacc => ?_)
      · obtain ⟨rfl, hy⟩ := hY
        rw [List.getElem?_map] at hy
        obtain ⟨z, hz, rfl⟩ := Option.map_eq_some_iff.mp hy
        refine ⟨rfl, yesT ?_⟩
        refine ⟨_, rfl, ah, dx, _, rfl, s3 _ _ hah, rfl, _, rfl, _, rfl, rfl, rfl, _, rows, g, some z, rfl, HeapR.mo _ _ _ _ (Keep.of s3) hv, by omega, fun H5 s5 => ?_⟩
        rw [manyOf_one]
        refine kt _ H5 (cnt rows g z) s5 ?_ rfl
        show (T'[i]?).map _ = _
        rw [hz]
        rfl
      · rw [List.length_map, filterMap_get] at hacc
        refine ⟨D, _, rfl, by rw [hD, all2_int hacc], ?_⟩
        have := k H3 s3
        show Q (.int (T'.map (cnt rows g)).sum) H3
        rw [← su_sum]
        exact this
end
end Pk
end
section
set_option Elab.async false
set_option linter.all false
set_option maxRecDepth 100000
set_option maxHeartbeats 8000000
namespace Pk
open PySem PySem.Spec PyProof.Rows L2 FL
theorem take_su {α : Type} (g : α → Int) {l : List α} {i : Nat} {x : α} (h : l[i]? = some x) : su g (l.take (i + 1)) = su g (l.take i) + g x := by
  rw [take_next h, su_append]
  show _ + (g x + 0) = _
  omega
section
variable {P : Program} {w : World} {K : PySem.W.Frag} {mg : Str → Option Value} {base : Heap} {C : Addr}
def spWantedAt : Sp := fun vs H Q _ => ∃ u ws f ov o, vs = [u, .str f, ov] ∧ WantsR H u ws ∧ WantsOK ws ∧ OptSh H ov o ∧ (∀ T, o = some T → T.length ≤ 1000) ∧ ∀ H', Same H H' → Q (.int (wantedAt ws f o)) H'
theorem sc_wanted_at : FnScope ["wants", "form", "shades", "found", "own", "some", "many", "is_there", "shade"] ["wants", "form", "shades"] (defScope s_wanted_at) := ⟨rfl, rfl, rfl, by decide +kernel, rfl, by decide +kernel, by decide +kernel⟩
theorem c_wanted_at (T : Txt K mg C) : Cal P w K mg base CX0 1 "wanted_at" ["wants", "form", "shades"] spWantedAt := by
  refine Cal.mk' T.d_wanted_at sc_wanted_at (fun vs H Q E h => ?_) (fun _ _ _ _ _ _ us hl => match us, hl with | [_, _, _], _ => rfl) (fun f cdv A outer s H vs Q E hr h => ?_)
  · obtain ⟨u, ws, g, ov, o, rfl, _⟩ := h
    rfl
  · obtain ⟨u, ws, g, ov, o, rfl, ⟨wa, wxs, rfl, hwa, hwall⟩, wok, ho, hTl, k⟩ := h
    have sc := sc_wanted_at
    have hu := hu_of hr
    refine ⟨_, (pss_cons (ps_set (i := 3) sc.nd rfl (.inl rfl) pe_int)
      (pss_cons (ps_for PassesOwn.never rfl (piT K (pv 0)) (pgT K (n := 3) rfl (pgs_cons (pg_name (i := 4) sc.nd rfl (.inl rfl)) (pgs_cons (pg_name (i := 5) sc.nd rfl (.inl rfl)) (pgs_cons (pg_name (i := 6) sc.nd rfl (.inl rfl)) pgs_nil)))) (pss_cons (ps_set (i := 7) sc.nd rfl (.inl rfl) (pe_or (pe_cmpR op_isN (pv 2) pe_non (nomark _)) (pe_one (pe_and (pe_cmpR (neEmpT hu) (pv 5) (pe_tup pa_nil) (nomark _)) (pe_one (pe_callB (all1 rfl) (by rfl) T.all (by decide +kernel) (pa_cons (pe_lc (own := [("shade", 8)]) rfl sc.nd (piT K (pv 5)) (blkOk_by (N := ["wants", "form", "shades", "found", "own", "some", "many", "is_there", "shade"]) (sc := defScope s_wanted_at) (own := [("shade", 8)]) (by decide +kernel)) (fun _ _ _ _ _ => (pg_name (i := 8) sc.nd rfl (.inl rfl))) (fun _ _ _ _ _ => pts_nil) (fun _ _ _ _ _ => (pe_cmpR inT (pv 8) (pv 2) (by rfl)))) pa_nil)))))))
      (pss_one (ps_if (PW.pt (pw_and (pt_cmpR op_eq (pv 4) (pv 1) (nomark _)) (pw_and1 (pt_val (pv 7))))) (pss_one (ps_set (i := 3) sc.nd rfl (.inl rfl) (pe_op op_add (pv 3) (pv 6)))) pss_nil))))
      (pss_one (ps_ret (pv 3))))), ?_⟩
    refine ⟨_, rfl, wa, rfl, ⟨_, SqT.of hwa⟩, for_tup (K := K) (a := wa) (xs := wxs) (fun i σ H2 => ∃ v4 v5 v6 v7, σ = [some (.ref wa), some (.str g), some ov, some (.int (su (wF g o) (ws.take i))), v4, v5, v6, v7, none] ∧ Same H H2)
      ⟨none, none, none, none, rfl, Same.refl _⟩ (fun i σ H2 _ ⟨_, _, _, _, _, s2⟩ => SqT.of (s2 _ _ hwa)) ?_ ?_⟩
    · rintro i y σ H2 hi ⟨v4, v5, v6, v7, rfl, s2⟩
      obtain ⟨x, hx, b, bb, rfl, hb, hbb⟩ := hwall.get hi
      have hb2 := s2 _ _ hb
      have hbb2 := s2 _ _ hbb
      have xok := wok.all x (List.mem_of_getElem? hx)
      have xl := xok.len
      refine ⟨b, _, rfl, SqT.of hb2, rfl, _, _, rfl, _, _, rfl, _, _, rfl, rfl, ?_⟩
      dsimp only [List.set]
      -- the rest, once is_there is known
      have fin : ∀ (c : Bool) H3, Same H2 H3 → (wF g o x = if x.1 = g ∧ c = true then x.2.2 else 0) →
          (tIfS (tAnd (tTest (tOp rEq (tVar 4) (tVar 1))) (tB (tVar 7))) (tAsg (tOp (rI0 fun i j => V.int (i + j)) (tVar 3) (tVar 6)) (gName 3)) tNext)
            { nx := fun σ H2 => ∃ v4 v5 v6 v7, σ = [some (.ref wa), some (.str g), some ov, some (.int (su (wF g o) (ws.take (i + 1)))), v4, v5, v6, v7, none] ∧ Same H H2,
              ct := fun σ H2 => ∃ v4 v5 v6 v7, σ = [some (.ref wa), some (.str g), some ov, some (.int (su (wF g o) (ws.take (i + 1)))), v4, v5, v6, v7, none] ∧ Same H H2,
              bk := tRet (tVar 3) { nx := fun x H' => Q V.non H', rt := Q }, rt := Q }
            [some (.ref wa), some (.str g), some ov, some (.int (su (wF g o) (ws.take i))), some (.str x.1), some (.ref bb), some (.int x.2.2), some (.bl c), none] H3 := by
        intro c H3 s3 hw
        refine ⟨_, rfl, _, rfl, rfl, _, rfl, ?_⟩
        have hsum := take_su (wF g o) hx
        by_cases hg : x.1 = g
        · refine ite_t (decide_eq_true (congrArg V.str hg)) ?_
          refine ⟨_, rfl, _, rfl, ?_⟩
          cases c with
          | true =>
            refine ite_t rfl ?_
            refine ⟨_, rfl, _, rfl, _, _, rfl, rfl, ?_⟩
            rw [if_pos ⟨hg, rfl⟩] at hw
            rw [hw] at hsum
            exact ⟨_, _, _, _, by rw [hsum]; rfl, s2.trans s3⟩
          | false =>
            refine ite_f rfl ?_
            rw [if_neg (fun z => by cases z.2)] at hw
            rw [hw, Int.add_zero] at hsum
            exact ⟨_, _, _, _, by rw [hsum], s2.trans s3⟩
        · refine ite_f (decide_eq_false fun z => hg (V.str.inj z)) ?_
          refine ite_f rfl ?_
          rw [if_neg (fun z => hg z.1)] at hw
          rw [hw, Int.add_zero] at hsum
          exact ⟨_, _, _, _, by rw [hsum], s2.trans s3⟩
      refine ⟨_, rfl, rfl, _, rfl, ?_⟩
      cases o with
      | none =>
        obtain rfl : ov = .non := ho
        refine ite_t rfl ?_
        refine fin true H2 (Same.refl _) ?_
        show (if x.1 = g then x.2.2 else 0) = _
        by_cases z : x.1 = g <;> simp [z]
      | some T' =>
        obtain ⟨tb, rfl, htb⟩ := ho
        have hT := hTl T' rfl
        refine ite_f rfl ?_
        refine ⟨_, rfl, Nat.zero_le _, fun e ne => ?_⟩
        have s3 : Same H2 (upd H2 e (.tup [])) := same_new ne
        refine ⟨bb, e, _, rfl, rfl, s3 _ _ hbb2, upd_same, _, rfl, ?_⟩
        by_cases hemp : x.2.1 = []
        · refine ite_f (by rw [hemp]; rfl) ?_
          refine fin false _ s3 ?_
          show (if x.1 = g ∧ x.2.1 ≠ [] ∧ ∀ s ∈ x.2.1, s ∈ T' then x.2.2 else 0) = _
          rw [if_neg fun z => z.2.1 hemp, if_neg fun z => by cases z.2]
        · refine ite_t (by cases q : x.2.1 with | nil => exact absurd q hemp | cons _ _ => rfl) ?_
          refine ⟨_, rfl, bb, rfl, ⟨_, SqT.of (s3 _ _ hbb2)⟩, fun D nD => ?_⟩
          refine lc_typed (walk_tup (K := K) (a := bb) (xs := x.2.1.map V.str)) nD BlR BlR.mo (fun i => (x.2.1[i]?).map fun z => decide (z ∈ T')) (by rw [List.length_map]; omega) (fun H3 s4 => SqT.of (s4 _ _ (s3 _ _ hbb2))) (fun j y H3 H4 hj s4 hY kt kf => ?_) (fun H3 acc s4 hD hacc => ?_)
          · obtain ⟨rfl, hy⟩ := hY
            rw [List.getElem?_map] at hy
            obtain ⟨z, hz, rfl⟩ := Option.map_eq_some_iff.mp hy
            refine ⟨rfl, yesT ?_⟩
            refine ⟨_, rfl, _, rfl, tb, _, rfl, s4 _ _ (s3 _ _ (s2 _ _ htb)), rfl, strs_flat T', ?_⟩
            rw [inV_str]
            refine kt _ _ (decide (z ∈ T')) (Same.refl _) ?_ rfl
            show (x.2.1[j]?).map _ = _
            rw [hz]
            rfl
          · rw [List.length_map, filterMap_get] at hacc
            refine ⟨D, _, rfl, by rw [hD, all2_bl hacc], ?_⟩
            refine fin _ H3 (s3.trans s4) ?_
            show (if x.1 = g ∧ x.2.1 ≠ [] ∧ ∀ s ∈ x.2.1, s ∈ T' then x.2.2 else 0) = _
            have hall : ((x.2.1.map fun z => decide (z ∈ T')).all id = true) ↔ ∀ s ∈ x.2.1, s ∈ T' := by simp
            by_cases q : ∀ s ∈ x.2.1, s ∈ T'
            · by_cases z : x.1 = g
              · rw [if_pos ⟨z, hemp, q⟩, if_pos ⟨z, hall.mpr q⟩]
              · rw [if_neg fun y => z y.1, if_neg fun y => z y.1]
            · rw [if_neg fun y => q y.2.2, if_neg fun y => q (hall.mp y.2)]
    · rintro σ H2 ⟨v4, v5, v6, v7, rfl, s2⟩
      refine ⟨_, rfl, ?_⟩
      rw [hwall.length, take_all, ← wanted_su]
      exact k H2 s2
/-! ### fills -/
abbrev Place := Str × Option (List Str)
def fillsB (ws : List (Want Str Str)) (h : Cnt Str Str) (ks : List (Cnt Str Str)) (ns : List Int) (p : Place) : Bool := decide (wantedAt ws p.1 p.2 ≤ hasAt SH (mix h ks ns) p.1 p.2)
def spFills (C : Addr) : Sp := fun vs H Q _ => ∃ v rows ka krows u ws pl ps m ns, vs = [v, ka, u, .ref pl, .ref m] ∧ HeapR C H v rows ∧ HeapOK rows ∧ KitsR C H ka krows ∧ (∀ r ∈ krows, HeapOK r) ∧ WantsR H u ws ∧ WantsOK ws ∧ (∃ pxs, H pl = some (.lst pxs) ∧ All2 (PlaceR H) pxs ps) ∧ (∀ p ∈ ps, PlaceOK p) ∧ H m = some (.tup (ns.map V.int)) ∧
  ns.length = krows.length ∧ (∀ n ∈ ns, n ≤ 1000000 ∧ 0 ≤ n) ∧ ∀ H', Same H H' → Q (.bl (ps.all (fillsB ws (cnt rows) (cnts krows) ns))) H'
theorem PlaceOK.len {p : Place} (h : PlaceOK p) (T : List Str) (e : p.2 = some T) : T.length ≤ 1000 := by
  obtain ⟨_, h2, h3⟩ := h.ne T e
  have := nd_le (rise_nodup h2) h3
  have e5 : SH.length = 5 := rfl
  omega
theorem place_sh {H : Hp} {v : V} {p : Place} (h : PlaceR H v p) : ∃ a pv, v = .ref a ∧ H a = some (.tup [.str p.1, pv]) ∧ OptSh H pv p.2 := by
  obtain ⟨f, o⟩ := p
  obtain ⟨a, rfl, h⟩ := h
  cases o with
  | none => exact ⟨a, .non, rfl, h, rfl⟩
  | some T =>
    obtain ⟨b, h1, h2⟩ := h
    exact ⟨a, .ref b, rfl, h1, b, rfl, h2⟩
theorem hasK_app (f : Str) (p : Option (List Str)) : ∀ (ks : List (Cnt Str Str)) (ns : List Int) (k : Cnt Str Str) (n : Int), ks.length = ns.length → hasK SH (ks ++ [k]) (ns ++ [n]) f p = hasK SH ks ns f p + n * hasAt SH k f p
  | [], [], k, n, _ => by simp [hasK]
  | [], _ :: _, _, _, h => by simp at h
  | _ :: _, [], _, _, h => by simp at h
  | a :: ks, b :: ns, k, n, h => by
    show b * hasAt SH a f p + hasK SH (ks ++ [k]) (ns ++ [n]) f p = b * hasAt SH a f p + hasK SH ks ns f p + n * hasAt SH k f p
    rw [hasK_app f p ks ns k n (by simpa using h)]
    omega
theorem sc_fills : FnScope ["heap", "kits", "wants", "places", "many", "form", "shades", "there", "kit", "number"] ["heap", "kits", "wants", "places", "many"] (defScope s_fills) := ⟨rfl, rfl, rfl, by decide +kernel, rfl, by decide +kernel, by decide +kernel⟩
theorem c_fills (T : Txt K mg C) : Cal P w K mg base CX0 3 "fills" ["heap", "kits", "wants", "places", "many"] (spFills C) := by
  have C_has_at : Cal P w K mg base CX0 2 "has_at" ["heap", "form", "shades"] (spHasAt C) := c_has_at T
  have C_wanted_at : Cal P w K mg base CX0 1 "wanted_at" ["wants", "form", "shades"] spWantedAt := c_wanted_at T
  refine Cal.mk' T.d_fills sc_fills (fun vs H Q E h => ?_) (fun _ _ _ _ _ _ us hl => match us, hl with | [_, _, _, _, _], _ => rfl) (fun f cdv A outer s H vs Q E hr h => ?_)
  · obtain ⟨v, rows, ka, krows, u, ws, pl, ps, m, ns, rfl, _⟩ := h
    rfl
  · obtain ⟨v, rows, ka, krows, u, ws, pl, ps, m, ns, rfl, hv, hok, ⟨ka, kxs, rfl, hka, hkall⟩, hkok, hws, wok, ⟨pxs, hpl, hpall⟩, hpok, hm, hl, hns, k⟩ := h
    have sc := sc_fills
    refine ⟨_, (pss_cons (ps_for PassesOwn.never rfl (piL K (pv 3)) (pgT K (n := 2) rfl (pgs_cons (pg_name (i := 5) sc.nd rfl (.inl rfl)) (pgs_cons (pg_name (i := 6) sc.nd rfl (.inl rfl)) pgs_nil))) (pss_cons (ps_set (i := 7) sc.nd rfl (.inl rfl) (pe_cal C_has_at hr (pa_cons (pv 0) (pa_cons (pv 5) (pa_cons (pv 6) pa_nil)))))
      (pss_cons (ps_for PassesOwn.never rfl (zipK K (by rfl) T.zip (pa_cons (pv 1) (pa_cons (pv 4) pa_nil))) (pgT K (n := 2) rfl (pgs_cons (pg_name (i := 8) sc.nd rfl (.inl rfl)) (pgs_cons (pg_name (i := 9) sc.nd rfl (.inl rfl)) pgs_nil))) (pss_one (ps_set (i := 7) sc.nd rfl (.inl rfl) (pe_op op_add (pv 7) (pe_op op_mul (pv 9) (pe_cal C_has_at hr (pa_cons (pv 8) (pa_cons (pv 5) (pa_cons (pv 6) pa_nil)))))))))
      (pss_one (ps_if (pt_cmpR op_lt (pv 7) (pe_cal C_wanted_at hr (pa_cons (pv 2) (pa_cons (pv 5) (pa_cons (pv 6) pa_nil)))) (nomark _)) (pss_one (ps_ret pe_bl)) pss_nil)))))
      (pss_one (ps_ret pe_bl))), ?_⟩
    have hkl : kxs.length = krows.length := hkall.length
    refine ⟨_, rfl, pl, rfl, ⟨_, SqL.of hpl⟩, for_list (K := K) (a := pl) (xs := pxs) (fun i σ H2 => ∃ v5 v6 v7 v8 v9, σ = [some v, some (.ref ka), some u, some (.ref pl), some (.ref m), v5, v6, v7, v8, v9] ∧ Same H H2 ∧ (ps.take i).all (fillsB ws (cnt rows) (cnts krows) ns) = true)
      ⟨none, none, none, none, none, rfl, Same.refl _, rfl⟩ (fun i σ H2 _ ⟨_, _, _, _, _, _, s2, _⟩ => SqL.of (s2 _ _ hpl)) ?_ ?_⟩
    · rintro i y σ H2 hi ⟨v5, v6, v7, v8, v9, rfl, s2, hall⟩
      obtain ⟨p, hp, hpr⟩ := hpall.get hi
      have pok := hpok p (List.mem_of_getElem? hp)
      obtain ⟨pa, pw, rfl, hpa, hsh⟩ := place_sh (PlaceR.mo _ _ _ _ (Keep.of s2) hpr)
      refine ⟨pa, _, rfl, SqT.of hpa, rfl, _, _, rfl, _, _, rfl, rfl, ?_⟩
      dsimp only [List.set]
      refine ⟨_, rfl, _, rfl, _, rfl, v, rows, p.1, pw, p.2, rfl, HeapR.mo _ _ _ _ (Keep.of s2) hv, hok, hsh, pok.len, fun H3 s3 => ?_⟩
      have sA := s2.trans s3
      refine ⟨_, rfl, _, rfl, ka, m, kxs, ns.map V.int, rfl, .inr ⟨SqT.of (sA _ _ hka), SqT.of (sA _ _ hm), for_it (walk_zipT (n := krows.length) (by rw [List.length_map]; omega))
        (fun j σ H4 => ∃ v8 v9, σ = [some v, some (.ref ka), some u, some (.ref pl), some (.ref m), some (.str p.1), some pw, some (.int (hasAt SH (cnt rows) p.1 p.2 + hasK SH (cnts (krows.take j)) (ns.take j) p.1 p.2)), v8, v9] ∧ Same H3 H4)
        ⟨v8, v9, by simp [cnts, hasK], Same.refl _⟩ (fun j σ H4 _ ⟨_, _, _, s4⟩ => ⟨SqT.of (s4 _ _ (sA _ _ hka)), SqT.of (s4 _ _ (sA _ _ hm))⟩) ?_ ?_⟩⟩
      · rintro j x σ H4 H5 hj ⟨v8, v9, rfl, s4⟩ ⟨Tt, x1, x2, rfl, nT, rfl, hx1, hx2⟩
        obtain ⟨r, hr1, hkr⟩ := hkall.get hx1
        have hx2' : (ns.map V.int)[j]? = some x2 := hx2
        rw [List.getElem?_map] at hx2'
        obtain ⟨n, hn, rfl⟩ := Option.map_eq_some_iff.mp hx2'
        have hnn := hns n (List.mem_of_getElem? hn)
        have sT := same_new (o := .tup [x1, .int n]) nT
        have s5 := (sA.trans s4).trans sT
        refine ⟨Tt, _, rfl, SqT.of upd_same, rfl, _, _, rfl, _, _, rfl, rfl, ?_⟩
        dsimp only [List.set]
        refine ⟨_, rfl, _, rfl, _, rfl, _, rfl, _, rfl, x1, r, p.1, pw, p.2, rfl, HeapR.mo _ _ _ _ (Keep.of s5) hkr, hkok r (List.mem_of_getElem? hr1), OptSh.mo _ _ _ _ (Keep.of ((s3.trans s4).trans sT)) hsh, pok.len, fun H6 s6 => ?_⟩
        refine ⟨_, _, rfl, rfl, .inl ⟨by omega, by omega⟩, _, _, rfl, rfl, ?_⟩
        refine ⟨some x1, some (.int n), ?_, (s4.trans sT).trans s6⟩
        have e1 : hasK SH (cnts (krows.take (j + 1))) (ns.take (j + 1)) p.1 p.2 = hasK SH (cnts (krows.take j)) (ns.take j) p.1 p.2 + n * hasAt SH (cnt r) p.1 p.2 := by
          unfold cnts
          rw [take_next hr1, take_next hn, List.map_append]
          exact hasK_app p.1 p.2 _ _ (cnt r) n (by rw [List.length_map, List.length_take, List.length_take, hl])
        rw [e1, ← Int.add_assoc]
        rfl
      · rintro σ H4 ⟨v8, v9, rfl, s4⟩
        rw [take_all, ← hl, take_all, ← hasAt_mix]
        have s5 := sA.trans s4
        refine ⟨_, rfl, _, rfl, _, rfl, _, rfl, u, ws, p.1, pw, p.2, rfl, WantsR.mo _ _ _ _ (Keep.of s5) hws, wok, OptSh.mo _ _ _ _ (Keep.of (s3.trans s4)) hsh, pok.len, fun H6 s6 => ?_⟩
        refine ⟨_, _, rfl, rfl, _, rfl, ite2 (fun hg => ?_) (fun hg => ?_)⟩
        · have hlt : hasAt SH (mix (cnt rows) (cnts krows) ns) p.1 p.2 < wantedAt ws p.1 p.2 := of_decide_eq_true hg
          have : ps.all (fillsB ws (cnt rows) (cnts krows) ns) = false := by
            refine List.all_eq_false.mpr ⟨p, List.mem_of_getElem? hp, ?_⟩
            unfold fillsB
            simp
            omega
          have kk := k H6 (s5.trans s6)
          rw [this] at kk
          exact kk
        · refine ⟨_, _, _, _, _, rfl, s5.trans s6, ?_⟩
          rw [take_next hp, List.all_append, hall]
          have hle : ¬ hasAt SH (mix (cnt rows) (cnts krows) ns) p.1 p.2 < wantedAt ws p.1 p.2 := fun z => hg (decide_eq_true z)
          simp [fillsB]
          omega
    · rintro σ H2 ⟨v5, v6, v7, v8, v9, rfl, s2, hall⟩
      rw [hpall.length, take_all] at hall
      have kk := k H2 s2
      rw [hall] at kk
      exact kk
end
end Pk
end
section
set_option Elab.async false
set_option linter.all false
set_option maxRecDepth 100000
set_option maxHeartbeats 8000000
namespace Pk
open PySem PySem.Spec PyProof.Rows L2 FL
/-! ### sums_of as data -/
structure SumsAt (k j : Nat) (t : Int) (rs : List (List Int × Int)) : Prop where
  ok : ∀ x ∈ rs, x.1.length = j ∧ (∀ n ∈ x.1, 0 ≤ n) ∧ x.1.sum + x.2 = t ∧ 0 ≤ x.2
  all : ∀ m : List Int, m.length = j → (∀ n ∈ m, 0 ≤ n) → m.sum ≤ t → (j = k → 0 < k → m.sum = t) → (m, t - m.sum) ∈ rs
  len : rs.length ≤ 37 ^ (if j = k then j - 1 else j)
def beginOf (k j : Nat) (x : List Int × Int) : Int := if j + 1 = k then x.2 else 0
def expand (k j : Nat) (x : List Int × Int) : List (List Int × Int) := (List.range (x.2 + 1 - beginOf k j x).toNat).map fun i => (x.1 ++ [beginOf k j x + (i : Nat)], x.2 - (beginOf k j x + (i : Nat)))
theorem expand_len {k j : Nat} {x : List Int × Int} (h : x.2 ≤ 36) (h0 : 0 ≤ x.2) : (expand k j x).length ≤ 37 := by
  unfold expand
  rw [List.length_map, List.length_range]
  unfold beginOf
  split <;> omega
theorem flat_len {k j : Nat} : ∀ {rs : List (List Int × Int)}, (∀ x ∈ rs, x.2 ≤ 36 ∧ 0 ≤ x.2) → (rs.flatMap (expand k j)).length ≤ 37 * rs.length
  | [], _ => by simp
  | x :: r, h => by
    rw [List.flatMap_cons, List.length_append, List.length_cons]
    have h1 := expand_len (k := k) (j := j) (h x (by simp)).1 (h x (by simp)).2
    have h2 := flat_len (k := k) (j := j) (rs := r) fun y hy => h y (by simp [hy])
    omega
theorem sum_nonneg : ∀ {m : List Int}, (∀ n ∈ m, 0 ≤ n) → 0 ≤ m.sum
  | [], _ => by simp
  | a :: r, h => by
    rw [List.sum_cons]
    have h1 := h a (by simp)
    have h2 := sum_nonneg (m := r) fun n hn => h n (by simp [hn])
    omega
theorem SumsAt.start (k : Nat) {t : Int} (h : 0 ≤ t) : SumsAt k 0 t [([], t)] where
  ok := fun x hx => by
    have : x = ([], t) := by simpa using hx
    subst this
    exact ⟨rfl, fun n hn => by simp at hn, by simp, h⟩
  all := fun m hm _ _ _ => by
    have : m = [] := List.length_eq_zero_iff.mp hm
    subst this
    simp
  len := by
    have : 0 < 37 ^ (if 0 = k then 0 - 1 else 0) := Nat.pow_pos (by decide)
    exact this
theorem expand_last {k j : Nat} {x : List Int × Int} (h : j + 1 = k) : (expand k j x).length = 1 := by
  unfold expand beginOf
  rw [List.length_map, List.length_range, if_pos h]
  omega
theorem flat_last {k j : Nat} (h : j + 1 = k) : ∀ (rs : List (List Int × Int)), (rs.flatMap (expand k j)).length = rs.length
  | [] => rfl
  | x :: r => by rw [List.flatMap_cons, List.length_append, List.length_cons, expand_last h, flat_last h r]; omega
theorem SumsAt.small {k j : Nat} {t : Int} {rs : List (List Int × Int)} (h : SumsAt k j t rs) (ht : t ≤ 36) : ∀ x ∈ rs, x.2 ≤ 36 ∧ 0 ≤ x.2 := fun x hx => by
  obtain ⟨_, h2, h3, h4⟩ := h.ok x hx
  have := sum_nonneg h2
  exact ⟨by omega, h4⟩
theorem SumsAt.step {k j : Nat} {t : Int} {rs : List (List Int × Int)} (h : SumsAt k j t rs) (hj : j < k) (ht : t ≤ 36) : SumsAt k (j + 1) t (rs.flatMap (expand k j)) where
  ok := fun y hy => by
    obtain ⟨x, hx, hy2⟩ := List.mem_flatMap.mp hy
    obtain ⟨h1, h2, h3, h4⟩ := h.ok x hx
    unfold expand at hy2
    obtain ⟨i, hi, rfl⟩ := List.mem_map.mp hy2
    have hi' := List.mem_range.mp hi
    have hb : 0 ≤ beginOf k j x := by unfold beginOf; split <;> omega
    refine ⟨by simp [h1], fun n hn => ?_, ?_, ?_⟩
    · rcases List.mem_append.mp hn with z | z
      · exact h2 n z
      · have : n = beginOf k j x + (i : Nat) := by simpa using z
        omega
    · show (x.1 ++ [beginOf k j x + (i : Nat)]).sum + (x.2 - (beginOf k j x + (i : Nat))) = t
      rw [List.sum_append, List.sum_cons, List.sum_nil]
      omega
    · show 0 ≤ x.2 - (beginOf k j x + (i : Nat))
      omega
  all := fun m hm hn hs hk => by
    have hne : m ≠ [] := fun z => by rw [z] at hm; simp at hm
    have e := List.dropLast_concat_getLast hne
    generalize hd : m.dropLast = m' at e
    generalize hg : m.getLast hne = n at e
    subst e
    have hm' : m'.length = j := by simpa using hm
    have hn0 : 0 ≤ n := hn n (by simp)
    have hs' : m'.sum + n ≤ t := by simpa using hs
    have hmem := h.all m' hm' (fun y hy => hn y (by simp [hy])) (by omega) (fun z => by omega)
    refine List.mem_flatMap.mpr ⟨_, hmem, ?_⟩
    unfold expand
    have hb : beginOf k j (m', t - m'.sum) ≤ n ∧ 0 ≤ beginOf k j (m', t - m'.sum) := by
      unfold beginOf
      split
      · rename_i z
        have := hk z (by omega)
        have e2 : m'.sum + n = t := by simpa using this
        show t - m'.sum ≤ n ∧ 0 ≤ t - m'.sum
        omega
      · exact ⟨hn0, Int.le_refl 0⟩
    refine List.mem_map.mpr ⟨(n - beginOf k j (m', t - m'.sum)).toNat, List.mem_range.mpr ?_, ?_⟩
    · show (n - beginOf k j (m', t - m'.sum)).toNat < (t - m'.sum + 1 - beginOf k j (m', t - m'.sum)).toNat
      omega
    · have e3 : beginOf k j (m', t - m'.sum) + ((n - beginOf k j (m', t - m'.sum)).toNat : Nat) = n := by omega
      show (m' ++ [beginOf k j (m', t - m'.sum) + _], t - m'.sum - (beginOf k j (m', t - m'.sum) + _)) = _
      rw [e3]
      have e4 : (m' ++ [n]).sum = m'.sum + n := by simp
      rw [e4]
      congr 1
      omega
  len := by
    have h1 := flat_len (k := k) (j := j) (h.small ht)
    have h2 := h.len
    rw [if_neg (by omega)] at h2
    by_cases hl : j + 1 = k
    · rw [if_pos hl, flat_last hl]
      exact h2
    · rw [if_neg hl, Nat.pow_succ]
      omega
def restF (x : List Int × Int) : Option (List Int) := if x.2 = 0 then some x.1 else none
theorem SumsAt.done {k : Nat} {t : Int} {rs : List (List Int × Int)} (h : SumsAt k k t rs) {m : List Int} : m ∈ rs.filterMap restF ↔ m.length = k ∧ (∀ n ∈ m, 0 ≤ n) ∧ m.sum = t := by
  rw [List.mem_filterMap]
  constructor
  · rintro ⟨x, hx, e⟩
    obtain ⟨h1, h2, h3, h4⟩ := h.ok x hx
    unfold restF at e
    split at e
    · rename_i z
      cases Option.some.inj e
      exact ⟨h1, h2, by omega⟩
    · cases e
  · rintro ⟨h1, h2, h3⟩
    refine ⟨(m, t - m.sum), h.all m h1 h2 (by omega) (fun _ _ => h3), ?_⟩
    unfold restF
    rw [if_pos (show t - m.sum = 0 by omega)]
def RestR : RX (List Int × Int) := fun H v x => ∃ a b, v = .ref a ∧ H a = some (.tup [.ref b, .int x.2]) ∧ H b = some (.tup (x.1.map V.int))
theorem RestR.mo : Mo RestR := fun _ _ _ _ k ⟨a, b, e, h1, h2⟩ => ⟨a, b, e, tup_keep k h1, tup_keep k h2⟩
section
variable {P : Program} {w : World} {K : PySem.W.Frag} {mg : Str → Option Value} {base : Heap} {C : Addr}
def spSums : Sp := fun vs H Q _ => ∃ (k : Nat) (t : Int), vs = [.int (k : Int), .int t] ∧ k ≤ 4 ∧ 0 ≤ t ∧ t ≤ 36 ∧ ∀ l H' ys (ms : List (List Int)), H l = none → Same H H' → H' l = some (.lst ys) → All2 (IntsR H') ys ms → (∀ m, m ∈ ms ↔ m.length = k ∧ (∀ n ∈ m, 0 ≤ n) ∧ m.sum = t) → ms.length ≤ 60000 → Q (.ref l) H'
theorem sc_sums_of : FnScope ["parts", "total", "rows", "k", "longer", "row", "rest", "begin", "number"] ["parts", "total"] (defScope s_sums_of) := ⟨rfl, rfl, rfl, by decide +kernel, rfl, by decide +kernel, by decide +kernel⟩
theorem c_sums_of (T : Txt K mg C) : Cal P w K mg base CX0 1 "sums_of" ["parts", "total"] spSums := by
  refine Cal.mk' T.d_sums_of sc_sums_of (fun vs H Q E h => ?_) (fun _ _ _ _ _ _ us hl => match us, hl with | [_, _], _ => rfl) (fun f cdv A outer s H vs Q E hr h => ?_)
  · obtain ⟨k, t, rfl, _⟩ := h
    rfl
  · obtain ⟨k, t, rfl, hk4, ht0, ht36, kq⟩ := h
    have sc := sc_sums_of
    have pow4 : ∀ j, j ≤ 4 → 37 ^ j ≤ 1874161 := fun j hj => by
      have : 37 ^ j ≤ 37 ^ 4 := Nat.pow_le_pow_right (by decide) hj
      have e : 37 ^ 4 = 1874161 := by decide
      omega
    refine ⟨_, (pss_cons (ps_set (i := 2) sc.nd rfl (.inl rfl) (pe_lst (pa_cons (pe_tup (pa_cons (pe_tup pa_nil) (pa_cons (pv 1) pa_nil))) pa_nil)))
      (pss_cons (ps_for PassesOwn.never rfl (pi_range1 rfl T.range (pa_cons (pv 0) pa_nil)) (pg_name (i := 3) sc.nd rfl (.inl rfl)) (pss_cons (ps_set (i := 4) sc.nd rfl (.inl rfl) (pe_lst pa_nil))
      (pss_cons (ps_for PassesOwn.never rfl (piL K (pv 2)) (pgT K (n := 2) rfl (pgs_cons (pg_name (i := 5) sc.nd rfl (.inr rfl)) (pgs_cons (pg_name (i := 6) sc.nd rfl (.inr rfl)) pgs_nil))) (pss_cons (ps_set (i := 7) sc.nd rfl (.inl rfl) (pe_ifExp (pt_cmpR op_eq (pv 3) (pe_op op_sub (pv 0) pe_int) (nomark _)) (pv 6) pe_int))
      (pss_one (ps_expr (pe_bm PySem.F.plainAttrs_list PySem.F.slot_list_extend PySem.F.type_list_extend mt_extend (pv 4) (pa_cons (pe_lc (own := [("number", 8)]) rfl sc.nd (pi_range2 rfl T.range (pa_cons (pv 7) (pa_cons (pe_op op_add (pv 6) pe_int) pa_nil))) (blkOk_by (N := ["parts", "total", "rows", "k", "longer", "row", "rest", "begin", "number"]) (sc := defScope s_sums_of) (own := [("number", 8)]) (by decide +kernel)) (fun _ _ _ _ _ => (pg_name (i := 8) sc.nd rfl (.inl rfl))) (fun _ _ _ _ _ => pts_nil) (fun _ _ _ _ _ => (pe_tup (pa_cons (pe_op catT (pv 5) (pe_tup (pa_cons (pv 8) pa_nil))) (pa_cons (pe_op op_sub (pv 6) (pv 8)) pa_nil))))) pa_nil))))))
      (pss_one (ps_set (i := 2) sc.nd rfl (.inl rfl) (pv 4))))))
      (pss_one (ps_ret (pe_lc (own := [("row", 5), ("rest", 6)]) rfl sc.nd (piL K (pv 2)) (blkOk_by (N := ["parts", "total", "rows", "k", "longer", "row", "rest", "begin", "number"]) (sc := defScope s_sums_of) (own := [("row", 5), ("rest", 6)]) (by decide +kernel)) (fun _ _ _ _ _ => (pgT K (n := 2) rfl (pgs_cons (pg_name (i := 5) sc.nd rfl (.inl rfl)) (pgs_cons (pg_name (i := 6) sc.nd rfl (.inl rfl)) pgs_nil)))) (fun _ _ _ _ _ => (pts_one (pt_cmpR op_eq (pv 6) pe_int (nomark _)))) (fun _ _ _ _ _ => (pv 5))))))), ?_⟩
    -- rows = [((), total)]
    refine ⟨Nat.zero_le _, fun t0 nt0 => ⟨_, rfl, (by show 2 ≤ sizeLine; decide), fun t1 nt1 => ⟨(by show 1 ≤ sizeLine; decide), fun R0 nR0 => ?_⟩⟩⟩
    have s1 : Same H (upd H t0 (.tup [])) := same_new nt0
    have s2 := same_new (o := .tup [.ref t0, .int t]) nt1
    have s3 := same_new (o := .lst [.ref t1]) nR0
    have hR0 : All2 (RestR (upd (upd (upd H t0 (.tup [])) t1 (.tup [.ref t0, .int t])) R0 (.lst [.ref t1]))) [.ref t1] [([], t)] := .cons ⟨t1, t0, rfl, s3 _ _ upd_same, s3 _ _ (s2 _ _ upd_same)⟩ .nil
    refine ⟨_, rfl, (k : Int), rfl, by omega, by omega, for_range (fun j σ H2 => ∃ Rw ys rs v3 v4 v5 v6 v7 v8, σ = [some (.int (k : Int)), some (.int t), some (.ref Rw), v3, v4, v5, v6, v7, v8] ∧ Same H H2 ∧ H2 Rw = some (.lst ys) ∧ All2 (RestR H2) ys rs ∧ SumsAt k j t rs)
      ⟨R0, _, _, none, none, none, none, none, none, rfl, s1.trans (s2.trans s3), upd_same, hR0, SumsAt.start k ht0⟩ ?_ ?_⟩
    · rintro j σ H2 hj ⟨Rw, ys, rs, v3, v4, v5, v6, v7, v8, rfl, sA, hRw, hall, hsum⟩
      have hj' : j < k := hj
      rw [Int.zero_add]
      have hsm := hsum.small ht36
      have hrl := hsum.len
      rw [if_neg (by omega)] at hrl
      have hp4 : 37 ^ j ≤ 50653 := by
        have : 37 ^ j ≤ 37 ^ 3 := Nat.pow_le_pow_right (by decide) (by omega)
        have e : 37 ^ 3 = 50653 := by decide
        omega
      -- longer = []
      refine ⟨Nat.zero_le _, fun Lg nLg => ?_⟩
      have nLg0 : H Lg = none := by
        cases z : H Lg with
        | none => rfl
        | some o => rw [sA _ _ z] at nLg; cases nLg
      have sB : Same H2 (upd H2 Lg (.lst [])) := same_new nLg
      have hRL : Rw ≠ Lg := fun z => by rw [← z, hRw] at nLg; cases nLg
      refine ⟨_, rfl, Rw, rfl, ⟨_, SqL.of (sB _ _ hRw)⟩, for_list (K := K) (a := Rw) (xs := ys) (fun i σ H3 => ∃ zs v5 v6 v7 v8, σ = [some (.int (k : Int)), some (.int t), some (.ref Rw), some (.int (j : Int)), some (.ref Lg), v5, v6, v7, v8] ∧ Same H2 H3 ∧ H3 Lg = some (.lst zs) ∧ All2 (RestR H3) zs ((rs.take i).flatMap (expand k j)) ∧ zs.length ≤ 37 * i)
        ⟨[], _, _, _, _, rfl, sB, upd_same, .nil, Nat.zero_le _⟩ (fun i σ H3 _ ⟨_, _, _, _, _, _, s, _⟩ => SqL.of (s _ _ hRw)) ?_ ?_⟩
      · rintro i y σ H3 hi ⟨zs, v5, v6, v7, v8, rfl, sC, hLg, hzs, hzl⟩
        obtain ⟨x, hx, a, b, rfl, ha, hb⟩ := hall.get hi
        have ha3 := sC _ _ ha
        have hb3 := sC _ _ hb
        have hxm := List.mem_of_getElem? hx
        obtain ⟨hx36, hx0⟩ := hsm x hxm
        have hxlen := (hsum.ok x hxm).1
        have hi37 : i < 50653 := by
          have := (List.getElem?_eq_some_iff.mp hx).1
          omega
        refine ⟨a, _, rfl, SqT.of ha3, rfl, _, _, rfl, _, _, rfl, rfl, ?_⟩
        dsimp only [List.set]
        have key : ∀ (bg : Int), bg = beginOf k j x → 0 ≤ bg → bg ≤ x.2 → ∀ (D : Ends), (∀ σ H4, (∃ zs v5 v6 v7 v8, σ = [some (.int (k : Int)), some (.int t), some (.ref Rw), some (.int (j : Int)), some (.ref Lg), v5, v6, v7, v8] ∧ Same H2 H4 ∧ H4 Lg = some (.lst zs) ∧ All2 (RestR H4) zs ((rs.take (i + 1)).flatMap (expand k j)) ∧ zs.length ≤ 37 * (i + 1)) → D.nx σ H4) →
            (tDrop (tBM K "list" rExtend (tVar 4) (tCons (tLc (iRng2 (tCons (tVar 7) (tCons (tOp (rI0 fun i j => V.int (i + j)) (tVar 6) (tC (V.int 1))) tNil))) (gName 8) tYes (tTup (tCons (tOp rCat1 (tVar 5) (tTup (tCons (tVar 8) tNil))) (tCons (tOp (rI0 fun i j => V.int (i - j)) (tVar 6) (tVar 8)) tNil))) [8]) tNil))) D
              [some (.int (k : Int)), some (.int t), some (.ref Rw), some (.int (j : Int)), some (.ref Lg), some (.ref b), some (.int x.2), some (.int bg), v8] H3 := by
          intro bg hbg hbg0 hbg1 D hD
          refine ⟨_, rfl, .inl ⟨rfl, _, SqL.of hLg⟩, ?_⟩
          refine ⟨_, rfl, _, rfl, _, _, rfl, rfl, bg, x.2 + 1, rfl, ⟨by omega, by omega, by omega, by omega⟩, fun D2 nD2 => ?_⟩
          have hcount : (x.2 + 1 - bg).toNat ≤ 37 := by omega
          refine lc_typed (walk_range (lo := bg) (n := (x.2 + 1 - bg).toNat)) nD2 RestR RestR.mo (fun q => some (x.1 ++ [bg + (q : Nat)], x.2 - (bg + (q : Nat)))) (by omega) (fun _ _ => trivial) (fun q y H5 H6 hq s5 hY kt kf => ?_) (fun H5 acc s5 hD5 hacc => ?_)
          · obtain ⟨rfl, rfl⟩ := hY
            dsimp only [List.map, wipe, List.set]
            refine ⟨rfl, yesT ?_⟩
            dsimp only [List.set]
            refine ⟨_, rfl, _, rfl, (by show 1 ≤ sizeLine; decide), fun t1 nt1 => ?_⟩
            have s6 := same_new (o := .tup [.int (bg + (q : Nat))]) nt1
            refine ⟨b, t1, _, _, rfl, rfl, s6 _ _ (s5 _ _ hb3), upd_same, ?_, fun c H7 s7 hc => ?_⟩
            · rw [List.length_map, hxlen]
              show j + 1 ≤ 16000000
              omega
            · refine ⟨_, rfl, _, rfl, _, _, rfl, rfl, (by show 2 ≤ sizeLine; decide), fun t2 nt2 => ?_⟩
              have s8 := same_new (o := .tup [.ref c, .int (x.2 - (bg + (q : Nat)))]) nt2
              refine kt _ _ (x.1 ++ [bg + (q : Nat)], x.2 - (bg + (q : Nat))) ((s6.trans s7).trans s8) rfl ⟨t2, c, rfl, upd_same, ?_⟩
              rw [s8 _ _ hc, List.map_append]
              rfl
          · have hLg5 := s5 _ _ hLg
            have hex : ((List.range (x.2 + 1 - bg).toNat).filterMap fun q => some (x.1 ++ [bg + (q : Nat)], x.2 - (bg + (q : Nat)))) = expand k j x := by
              unfold expand
              rw [← hbg, ← List.filterMap_eq_map]
              rfl
            rw [hex] at hacc
            have hal : acc.length ≤ 37 := by rw [hacc.length]; exact expand_len hx36 hx0
            have hDL : D2 ≠ Lg := fun z => by rw [z, hLg] at nD2; cases nD2
            refine ⟨Lg, D2, zs, acc, rfl, rfl, hLg5, hD5, sz_of (by omega), hD _ _ ⟨zs ++ acc, _, _, _, _, rfl, same_mut (sC.trans s5) nLg, upd_same, ?_, ?_⟩⟩
            · have k6 : Keep H5 (upd H5 Lg (.lst (zs ++ acc))) := Keep.lst hLg5
              rw [take_next hx, List.flatMap_append]
              refine (All2.mo RestR.mo ((Keep.of s5).trans k6) hzs).append ?_
              show All2 _ acc (expand k j x ++ [])
              rw [List.append_nil]
              exact All2.mo RestR.mo k6 hacc
            · rw [List.length_append]
              omega
        refine ⟨_, rfl, _, rfl, _, _, rfl, rfl, rfl, _, rfl, ?_⟩
        by_cases hlast : j + 1 = k
        · refine ite_t (decide_eq_true (congrArg V.int (by omega))) ?_
          refine ⟨_, rfl, ?_⟩
          exact key x.2 (by unfold beginOf; rw [if_pos hlast]) hx0 (Int.le_refl _) _ fun _ _ h => h
        · refine ite_f (decide_eq_false fun z => hlast (by have := V.int.inj z; omega)) ?_
          exact key 0 (by unfold beginOf; rw [if_neg hlast]) (Int.le_refl 0) hx0 _ fun _ _ h => h
      · rintro σ H3 ⟨zs, v5, v6, v7, v8, rfl, sC, hLg, hzs, hzl⟩
        rw [hall.length, take_all] at hzs
        exact ⟨_, rfl, Lg, zs, _, _, _, _, _, _, _, rfl, sA.trans sC, hLg, hzs, hsum.step hj' ht36⟩
    · rintro σ H2 ⟨Rw, ys, rs, v3, v4, v5, v6, v7, v8, rfl, sA, hRw, hall, hsum⟩
      rw [show ((k : Int)).toNat = k from rfl] at hsum
      have hrl := hsum.len
      rw [if_pos rfl] at hrl
      have hp4 : 37 ^ (k - 1) ≤ 50653 := by
        have : 37 ^ (k - 1) ≤ 37 ^ 3 := Nat.pow_le_pow_right (by decide) (by omega)
        have e : 37 ^ 3 = 50653 := by decide
        omega
      refine ⟨_, rfl, Rw, rfl, ⟨_, SqL.of hRw⟩, fun D nD => ?_⟩
      refine lc_typed (walk_list (K := K) (a := Rw) (xs := ys)) nD IntsR IntsR.mo (fun i => (rs[i]?).bind restF) (by rw [hall.length]; omega) (fun H3 s3 => SqL.of (s3 _ _ hRw)) (fun i y H3 H4 hi s3 hY kt kf => ?_) (fun H3 acc s3 hD hacc => ?_)
      · obtain ⟨rfl, hy⟩ := hY
        obtain ⟨x, hx, a, b, rfl, ha, hb⟩ := hall.get hy
        have ha4 := s3 _ _ ha
        have hb4 := s3 _ _ hb
        dsimp only [List.map, wipe, List.set]
        refine ⟨a, _, rfl, SqT.of ha4, rfl, _, _, rfl, _, _, rfl, rfl, ?_⟩
        dsimp only [List.set, wipe]
        refine ⟨rfl, ?_⟩
        refine ⟨_, rfl, rfl, _, rfl, ?_⟩
        by_cases hz : x.2 = 0
        · refine ite_t (decide_eq_true (congrArg V.int hz)) ?_
          refine ⟨_, rfl, kt _ _ x.1 (Same.refl _) ?_ ⟨b, _, rfl, hb4, all2_int' _⟩⟩
          show (rs[i]?).bind restF = _
          rw [hx]
          exact if_pos hz
        · refine ite_f (decide_eq_false fun q => hz (V.int.inj q)) (kf _ (Same.refl _) ?_)
          show (rs[i]?).bind restF = _
          rw [hx]
          exact if_neg hz
      · rw [hall.length, filterMap_range] at hacc
        have nD0 : H D = none := by
          cases z : H D with
          | none => rfl
          | some o => rw [sA _ _ z] at nD; cases nD
        exact kq D H3 acc _ nD0 (sA.trans s3) hD hacc (fun m => hsum.done) (Nat.le_trans (List.length_filterMap_le _ _) (by omega))
end
end Pk
end
section
set_option Elab.async false
set_option linter.all false
set_option maxRecDepth 100000
set_option maxHeartbeats 4000000
/-! enumerate(a tuple). -/
namespace Pk
open PySem PySem.Spec PyProof.Rows L2 FL
theorem meets_enum_newT (l : Addr) (items : Array Value) : Meets (Builtin.«enumerate.__new__» ⟨[.type "enumerate", .ref l], []⟩) (fun _ R s => s.heap.IsTuple l items ∧
    R (.ok (.ret (.ref (s.heap.push { cls := .type "tuple_iterator", data := .fields #[.ref l, .int 0 0] }).objs.size))) { s with heap := (s.heap.push { cls := .type "tuple_iterator", data := .fields #[.ref l, .int 0 0] }).push { cls := .type "enumerate", data := .fields #[.none, .bool false, .ref s.heap.objs.size, rawInt 0, .none, .none] } }) :=
  .of_wp fun prog w A R s h => by
    obtain ⟨hp, g, d, tk, os⟩ := s
    obtain ⟨hl1, h⟩ := h
    have hL1 : Heap.IsTuple (Shared.heap ⟨hp, g, d, tk, os⟩) l items := hl1
    have hsub := sub_enumerate
    wp_walk
    refine wpAny_stack_any fun st => wpAny_pure ?_
    split
    · rename_i c _ _ _ _ _
      cases (c == Value.type "enumerate")
      · wp_walk using wpAny_pyIter_tuple hL1
        exact ⟨_, rfl, h⟩
      · wp_walk using wpAny_pyIter_tuple hL1
        exact ⟨_, rfl, h⟩
    · wp_walk using wpAny_pyIter_tuple hL1
      exact ⟨_, rfl, h⟩
section
variable {prog : Program} {w : World} {A : Around} {E : Value → Shared → Prop} {s : Shared}
theorem call_enumT {l : Addr} {items : Array Value} {Q : Value → Shared → Prop} (hL : s.heap.IsTuple l items)
    (h : ∀ h', IsEnum h' (s.heap.objs.size + 1) s.heap.objs.size 0 .none → h'.IsTupleIter s.heap.objs.size l 0 → h'.objs.size = s.heap.objs.size + 2 →
      (∀ b o, s.heap.get? b = some o → h'.get? b = some o) → Q (.ref (s.heap.objs.size + 1)) { s with heap := h' }) :
    wpAny (model prog w) A (call (.type "enumerate") [.ref l]) Q E s := by
  refine callType_new F.called_enumerate (by decide) (F.typeCall_enumerate_1 _) (F.newCall_enumerate_1 _) (fun obj => F.args_object_init_2 obj _) F.entry_enumerate_new
    (meets_enum_newT l items) ⟨hL, ?_⟩
  have hz : (s.heap.push { cls := .type "tuple_iterator", data := .fields #[.ref l, .int 0 0] }).objs.size = s.heap.objs.size + 1 := Heap.size_push ..
  show _ ∧ _
  rw [hz]
  have he : IsEnum ((s.heap.push { cls := .type "tuple_iterator", data := .fields #[.ref l, .int 0 0] }).push
      { cls := .type "enumerate", data := .fields #[.none, .bool false, .ref s.heap.objs.size, rawInt 0, .none, .none] }) (s.heap.objs.size + 1) s.heap.objs.size 0 .none := by
    have := Heap.get?_push_size (s.heap.push { cls := .type "tuple_iterator", data := .fields #[.ref l, .int 0 0] })
      (o := { cls := .type "enumerate", data := .fields #[.none, .bool false, .ref s.heap.objs.size, rawInt 0, .none, .none] }) rfl
    rw [hz] at this; exact this
  refine ⟨⟨_, he, rfl⟩, h _ he ⟨_, Heap.get?_push_of_some _ (Heap.get?_push_size _ rfl), rfl, rfl⟩ (by rw [Heap.size_push, hz]) fun b o x => Heap.get?_push_of_some _ (Heap.get?_push_of_some _ x)⟩
end
def IteT (K : PySem.W.Frag) (a : Addr) : It :=
  ⟨fun i H => ∃ (xs : List V) (x : V), SqT K H a xs ∧ xs[i]? = some x, fun i H v H' => ∃ T x, v = .ref T ∧ H T = none ∧ H' = upd H T (.tup [.int (i : Nat), x]) ∧ ∀ xs, SqT K H a xs → xs[i]? = some x, fun i H => ∃ xs : List V, SqT K H a xs ∧ xs.length = i⟩
theorem turn_enumT {P : Program} {w : World} {K : PySem.W.Frag} {elts : List Expr} {kk : Nat} {tpos : Pos} (a e it : Addr) :
    Turn P w K (.Tuple elts kk tpos) (IteT K a) [e, it] e (fun i h => (∃ old, IsEnum h e it ((i : Nat) : Int) old) ∧ h.IsTupleIter it a i ∧ e ≠ it ∧ e ≠ a ∧ a ≠ it) where
  mem := by simp
  obj := fun i h st b hb => by
    obtain ⟨⟨old, he⟩, ⟨o, ho, hc, hd⟩, _⟩ := st
    have e' : b = e ∨ b = it := by simpa using hb
    rcases e' with z | z
    · rw [z]; exact ⟨_, he, fun v q => nomatch q⟩
    · rw [z]; exact ⟨o, ho, fun v q => by rw [hd] at q; cases q⟩
  keep := fun i h h' st k => let ⟨⟨old, he⟩, hi, hne⟩ := st; ⟨⟨old, k e (by simp) _ he⟩, hi.at fun o q => k it (by simp) o q, hne⟩
  item := by
    intro X hP hw hK hc i pins s σ H E I hf st hg
    subst hP hw hK
    obtain ⟨⟨old, he⟩, hit, hne, hea, hai⟩ := st
    obtain ⟨xs, x, hq, hx⟩ := hg
    obtain ⟨its, rv, p, hz⟩ := I.tuple hq
    obtain ⟨u, hu, ru⟩ := rv.get hx
    have hel : e < s.heap.objs.size := Heap.lt_size he
    have hil : it < s.heap.objs.size := by obtain ⟨_, q, _⟩ := hit; exact Heap.lt_size q
    have hlt : i < its.toArray.size := by
      have := (List.getElem?_eq_some_iff.mp hu).1
      simpa using this
    refine wpAny_pyNext_enum_itemD (draws_tup (show X.A.in1.handled = none from I.ok.hd hc) it a hai its.toArray) he ⟨hit, p⟩ hlt hne (by simp only [List.mem_cons, List.not_mem_nil, or_false, not_or]; exact ⟨hne, hea⟩) fun x1 h' tk y1 ho st1 hT hsz hk => ?_
    have e1 : x1 = u := by
      have q : its.toArray[i]? = some u := by simpa using hu
      exact Option.some.inj (y1.symm.trans q)
    subst e1
    refine ⟨_, rfl, wpAny_letOwnedTupleGo_enum (s := { s with heap := h', toks := tk + 1 }) ho fun h'' he' sb => ?_⟩
    have hT2 : h''.get? s.heap.objs.size = some { cls := .type "tuple", data := .seq #[.int i tk, x1] } := (sb.2 _ (Nat.ne_of_gt hel)).trans hT
    have new : ObjOk X.prog X.w (upd H s.heap.objs.size (.tup [.int (i : Nat), x])) h'' s.heap.objs.size (.tup [.int (i : Nat), x]) :=
      ⟨by show 2 ≤ sizeLine; decide, [.int i tk, x1], .cons ⟨_, rfl⟩ (.cons ru .nil), ⟨_, hT2, rfl, _, rfl⟩⟩
    have I1 : Inv X pins σ (upd H s.heap.objs.size (.tup [.int (i : Nat), x])) { s with heap := h'', toks := tk + 1 } :=
      I.turnedNew (ch := [e, it]) (fun b ob hb q => (sb.2 b (fun z => hb (by simp [z]))).trans (hk b ob (fun z => hb (by simp [z])) (fun z => hb (by simp [z])) q)) hf (Nat.le_refl _) new
    refine ⟨.ref s.heap.objs.size, _, I1, rfl, ⟨_, x, rfl, I.hok.fresh (Nat.le_refl _), rfl, fun ys hy => by rw [I.tuple_inj hy hq]; exact hx⟩, ⟨⟨x1, ?_⟩, st1.1.at fun o q => (sb.2 it (Ne.symm hne)).trans q, hne, hea, hai⟩, fun b hb => ?_⟩
    · have e1 : ((i + 1 : Nat) : Int) = (i : Int) + 1 := by omega
      rw [e1]; exact he'
    · have hb' : b < s.heap.objs.size := by
        have e' : b = e ∨ b = it := by simpa using hb
        rcases e' with z | z
        · rw [z]; exact hel
        · rw [z]; exact hil
      rw [upd_ne (Nat.ne_of_lt hb')]
      exact (hf b hb).1
  done := by
    intro X hP hw hK hc i pins s σ H E I hf st hg
    subst hP hw hK
    obtain ⟨⟨old, he⟩, hit, hne, hea, hai⟩ := st
    obtain ⟨xs, hq, hx⟩ := hg
    obtain ⟨its, rv, p, hz⟩ := I.tuple hq
    obtain ⟨f0, f1, f2, f3, f4, f5⟩ := hf it (by simp)
    have hl := rv.length
    have e2 : its.toArray.size = i := by simp; omega
    exact wpAny_pyNext_enum_endD (draws_tup (show X.A.in1.handled = none from I.ok.hd hc) it a hai its.toArray) he (by rw [e2]; exact ⟨hit, p⟩) fun h' eb => ⟨rfl, I.turned (t' := s.toks) (fun b o hb q => eb b o hb q) f0 f1 f3 f4 f5⟩
  self := fun A i s Q E st h => let ⟨⟨_, he⟩, _⟩ := st; wpAny_pyIter_enum he h
def iEnumT (K : PySem.W.Frag) (ta : TA) : TI := fun σ H R => ta σ H fun vs H1 => ∃ a xs, vs = [.ref a] ∧ SqT K H1 a xs ∧ R (IteT K a) H1
theorem pi_enumT {X : Cx} {e : Expr} {ta : TA} {p pos tpos : Pos} {elts : List Expr} {kk : Nat} (hg : Gl X "enumerate") (hm : X.mg "enumerate" = none) (ha : PA X [e] ta) (hs : starEach [e] X.env = [(false, eval e X.env)] := by rfl) :
    PI X (.Tuple elts kk tpos) (.Call (.Name "enumerate" p) [e] [] pos) (iEnumT X.K ta) := by
  refine ⟨fun pins s σ H R I h => ?_⟩
  refine Call_ (ld_blt I hg hm boot_enumerate (PyProof.Rows.callWith_type1 (thn (ha.run pos pins s σ H _ I h) fun us s1 ⟨vs, H1, I1, r1, q1⟩ => ?_) hs rfl))
  obtain ⟨a, xs, ex, hq, q⟩ := q1
  subst ex
  cases r1 with
  | cons r rr =>
    cases rr
    cases r
    obtain ⟨its, rv, p', hz⟩ := I1.tuple hq
    obtain ⟨o1, ho1, _⟩ := id p'
    have hlt := Heap.lt_size ho1
    refine call_enumT (show s1.heap.IsTuple a its.toArray from p') fun h' he hit hsz hk => wpAny_pyIter_enum he ?_
    have I2 : Inv X pins σ H1 { s1 with heap := h' } := I1.kept (t' := s1.toks) hk
    refine ⟨s1.heap.objs.size + 1, [s1.heap.objs.size + 1, s1.heap.objs.size], _, _, H1, rfl, I2, turn_enumT a (s1.heap.objs.size + 1) s1.heap.objs.size, ⟨⟨.none, he⟩, hit, Nat.succ_ne_self _, Nat.ne_of_gt (Nat.lt_succ_of_lt hlt), Nat.ne_of_lt hlt⟩, fun b hb => ?_, q⟩
    have e' : b = s1.heap.objs.size + 1 ∨ b = s1.heap.objs.size := by simpa using hb
    have hle : s1.heap.objs.size ≤ b := by
      rcases e' with z | z
      · rw [z]; exact Nat.le_add_right _ _
      · rw [z]; exact Nat.le_refl _
    exact I1.fpOk hle (I1.hok.fresh hle)
theorem enumT {X : Cx} (K : PySem.W.Frag) {e : Expr} {ta : TA} {p pos tpos : Pos} {elts : List Expr} {kk : Nat} (hg : Gl X "enumerate") (hm : X.mg "enumerate" = none) (ha : PA X [e] ta) (hs : starEach [e] X.env = [(false, eval e X.env)] := by rfl) (h : X.K = K := by rfl) :
    PI X (.Tuple elts kk tpos) (.Call (.Name "enumerate" p) [e] [] pos) (iEnumT K ta) := h ▸ pi_enumT hg hm ha hs
theorem walk_enumT {K : PySem.W.Frag} {a : Addr} {xs : List V} : Walk (IteT K a) xs.length (fun H => SqT K H a xs) (YPair (fun i => some (.int (i : Nat))) (fun i => xs[i]?)) := by
  refine ⟨fun i _ hi q => ⟨xs, xs[i], q, by simp [hi]⟩, fun _ q => ⟨xs, q, rfl⟩, fun i H v H' _ q y => ?_⟩
  obtain ⟨T, x, h1, h2, h3, h4⟩ := y
  exact ⟨T, .int (i : Nat), x, h1, h2, h3, rfl, h4 xs q⟩
end Pk
end
section
set_option Elab.async false
set_option linter.all false
set_option maxRecDepth 100000
set_option maxHeartbeats 8000000
namespace Pk
open PySem PySem.Spec PyProof.Rows L2 FL
/-- a def with defaults as it is called -/
structure CalD (P : Program) (w : World) (K : PySem.W.Frag) (mg : Str → Option Value) (base : Heap) (CX : CXT) (k : Nat) (x : Str) (ps : List Str) (sp : Sp) (dvs : List V) : Prop where
  ex : ∃ f fd, FnOk P w K mg base CX k f fd ps sp ∧ mg x = some (.ref f) ∧ PySem.W.keepIn K (.ref f) = true ∧ ∃ ds, Vals dvs ds ∧ Binds K fd ps ds
structure CalK (P : Program) (w : World) (K : PySem.W.Frag) (mg : Str → Option Value) (base : Heap) (CX : CXT) (k n : Nat) (x : Str) (ks ps : List Str) (sp : Sp) (gV : List V → List V → List V) : Prop where
  ex : ∃ f fd g, FnOk P w K mg base CX k f fd ps sp ∧ mg x = some (.ref f) ∧ PySem.W.keepIn K (.ref f) = true ∧ KBn K fd ps n ks g gV
section
variable {X : Cx} {k j n : Nat} {ps ks : List Str} {sp : Sp} {x : Str} {p pos : Pos} {e : Expr} {es : List Expr} {t tk : TA} {dvs : List V} {gV : List V → List V → List V} {kws : List Keyword}
theorem pe_calD (C : CalD X.prog X.w X.K X.mg X.base CX0 k x ps sp dvs) (hr : Room j X.A) (ha : PA X (e :: es) t) (hkj : k ≤ j := by decide) (hg : Gl X x := by rfl)
    (hdb : (x == ("__debug__" : Str)) = false := by decide) (he : starEach (e :: es) X.env = (false, eval e X.env) :: starEach es X.env := by rfl) (hpl : (backTo pos (starEach es X.env)).any (·.1) = false := by rfl) :
    PE X (.Call (.Name x p) (e :: es) [] pos) (tCall sp dvs E0 t) := by
  obtain ⟨f, fd, F, g, kp, ds, rd, b⟩ := C.ex
  exact pe_call F (hr.mono hkj) hg g kp b rd pass0 ha hdb he hpl
end
/-! ### wants_of -/
def RowWR : RX (List (Want Str Str)) := fun H v ws => ∃ a u, v = .ref a ∧ H a = some (.tup [u]) ∧ WantsR H u ws
theorem RowWR.mo : Mo RowWR := fun _ _ _ _ k ⟨a, u, e, h, r⟩ => ⟨a, u, e, tup_keep k h, WantsR.mo _ _ _ _ k r⟩
abbrev SheetR : RX (List (List (Want Str Str))) := TupR RowWR
def OptZ : RX (Option Nat) := fun H v o => match o with
  | none => v = .non
  | some n => ∃ c, v = .ref c ∧ H c = some (.tup (List.replicate n (.int 0)))
theorem OptZ.mo : Mo OptZ := fun H H' v o k h => by
  cases o with
  | none => exact h
  | some n =>
    obtain ⟨c, e, h⟩ := h
    exact ⟨c, e, tup_keep k h⟩
section
variable {P : Program} {w : World} {K : PySem.W.Frag} {mg : Str → Option Value} {base : Heap} {C : Addr}
def spWantsOf : Sp := fun vs H Q _ => ∃ sv ov wss o, vs = [sv, ov] ∧ SheetR H sv wss ∧ OptZ H ov o ∧ (∀ n, o = some n → n = wss.length) ∧ wss.flatten.length ≤ 1000 ∧ ∀ v' H', Same H H' → WantsR H' v' wss.flatten → Q v' H'
theorem sc_wants_of : FnScope ["sheet", "choice", "found", "k", "row"] ["sheet", "choice"] (defScope s_wants_of) := ⟨rfl, rfl, rfl, by decide +kernel, rfl, by decide +kernel, by decide +kernel⟩
theorem F_wants_of {f : Addr} {fd : FuncData} (T : Txt K mg C) (F : FunD K "wants_of" "wants_of" (defArgs s_wants_of) (defBody s_wants_of) (defScope s_wants_of) [.non] [] f fd) : FnOk P w K mg base CX0 1 f fd ["sheet", "choice"] spWantsOf := by
  refine F.ok sc_wants_of (fun vs H Q E h => ?_) (fun cdv A outer s H vs Q E hr h => ?_)
  · obtain ⟨sv, ov, wss, o, rfl, _⟩ := h
    rfl
  · obtain ⟨sv, ov, wss, o, rfl, ⟨sa, sxs, rfl, hsa, hsall⟩, ho, hon, hfl, k⟩ := h
    have sc := sc_wants_of
    refine ⟨_, PSs.nox (pss_cons (ps_set (i := 2) sc.nd rfl (.inl rfl) (pe_tup pa_nil))
      (pss_cons (ps_for PassesOwn.never rfl (enumT K (by rfl) T.enumerate (pa_cons (pv 0) pa_nil)) (pgT K (n := 2) rfl (pgs_cons (pg_name (i := 3) sc.nd rfl (.inl rfl)) (pgs_cons (pg_name (i := 4) sc.nd rfl (.inl rfl)) pgs_nil))) (pss_one (ps_set (i := 2) sc.nd rfl (.inl rfl) (pe_op catT (pv 2) (pe_ix ixT (pv 4) (pe_ifExp (pt_cmpR op_isN (pv 1) pe_non (nomark _)) pe_int (pe_ix ixT (pv 1) (pv 3) (fun _ _ => rfl))) (fun _ _ => rfl))))))
      (pss_one (ps_ret (pv 2))))), ?_⟩
    refine ⟨Nat.zero_le _, fun t0 nt0 => ?_⟩
    have s1 : Same H (upd H t0 (.tup [])) := same_new nt0
    refine ⟨_, rfl, sa, sxs, rfl, SqT.of (s1 _ _ hsa), for_it (walk_enumT (K := K) (a := sa) (xs := sxs)) (fun i σ H2 => ∃ fa fxs v3 v4, σ = [some (.ref sa), some ov, some (.ref fa), v3, v4] ∧ Same H H2 ∧ H2 fa = some (.tup fxs) ∧ All2 (WantR H2) fxs (wss.take i).flatten)
      ⟨t0, [], none, none, rfl, s1, upd_same, .nil⟩ (fun i σ H2 _ ⟨_, _, _, _, _, s2, _⟩ => SqT.of (s2 _ _ hsa)) ?_ ?_⟩
    · rintro i x σ H2 H3 hi ⟨fa, fxs, v3, v4, rfl, s2, hfa, hfall⟩ ⟨Tt, x1, x2, rfl, nT, rfl, hx1, hx2⟩
      cases Option.some.inj hx1
      obtain ⟨ws, hws, a, u, rfl, ha, ⟨ua, uxs, rfl, hua, huall⟩⟩ := hsall.get hx2
      have sT := same_new (o := .tup [.int (i : Nat), .ref a]) nT
      have s3 := s2.trans sT
      refine ⟨Tt, _, rfl, SqT.of upd_same, rfl, _, _, rfl, _, _, rfl, rfl, ?_⟩
      have htk : (wss.take (i + 1)).flatten = (wss.take i).flatten ++ ws := by
        rw [take_next hws, List.flatten_append]
        simp
      have hlen : ((wss.take (i + 1)).flatten).length ≤ wss.flatten.length := by
        have : wss.flatten = (wss.take (i + 1)).flatten ++ (wss.drop (i + 1)).flatten := by rw [← List.flatten_append, List.take_append_drop]
        rw [this, List.length_append]
        omega
      have hidx : ∀ (D : Ends), (∀ c H4, Same (upd H2 Tt (.tup [.int (i : Nat), .ref a])) H4 → H4 c = some (.tup (fxs ++ uxs)) → D.nx [some (.ref sa), some ov, some (.ref c), some (.int (i : Nat)), some (.ref a)] H4) →
          rCat1 (.ref fa) (.ref ua) (upd H2 Tt (.tup [.int (i : Nat), .ref a])) fun v H4 => D.nx [some (.ref sa), some ov, some v, some (.int (i : Nat)), some (.ref a)] H4 := by
        intro D hD
        refine ⟨fa, ua, fxs, uxs, rfl, rfl, sT _ _ hfa, s3 _ _ hua, ?_, fun c H4 s4 hc => hD c H4 s4 hc⟩
        rw [hfall.length, huall.length]
        rw [htk, List.length_append] at hlen
        omega
      have fin : ∀ c H4, Same (upd H2 Tt (.tup [.int (i : Nat), .ref a])) H4 → H4 c = some (.tup (fxs ++ uxs)) → ∃ fa fxs v3 v4, [some (.ref sa), some ov, some (.ref c), some (.int (i : Nat)), some (.ref a)] = [some (.ref sa), some ov, some (.ref fa), v3, v4] ∧ Same H H4 ∧ H4 fa = some (.tup fxs) ∧ All2 (WantR H4) fxs (wss.take (i + 1)).flatten := by
        intro c H4 s4 hc
        refine ⟨c, _, _, _, rfl, s3.trans s4, hc, ?_⟩
        rw [htk]
        exact (All2.mo WantR.mo (Keep.of (sT.trans s4)) hfall).append (All2.mo WantR.mo (Keep.of (s3.trans s4)) huall)
      cases o with
      | none =>
        obtain rfl : ov = .non := ho
        refine ⟨_, rfl, _, rfl, _, rfl, rfl, _, rfl, ite_t rfl ?_⟩
        refine ⟨a, _, _, _, rfl, rfl, s3 _ _ ha, at0, ?_⟩
        refine ⟨fa, ua, fxs, uxs, rfl, rfl, sT _ _ hfa, s3 _ _ hua, ?_, fun c H4 s4 hc => fin c H4 s4 hc⟩
        rw [hfall.length, huall.length]
        rw [htk, List.length_append] at hlen
        omega
      | some n =>
        obtain ⟨c, rfl, hc⟩ := ho
        have hn := hon n rfl
        have hin : i < n := by
          rw [hn, ← hsall.length]
          exact hi
        refine ⟨_, rfl, _, rfl, _, rfl, rfl, _, rfl, ite_f rfl ?_⟩
        refine ⟨_, rfl, _, rfl, c, _, _, .int 0, rfl, rfl, s3 _ _ hc, atI_nat (by rw [List.getElem?_replicate, if_pos hin]), ?_⟩
        refine ⟨a, _, _, _, rfl, rfl, s3 _ _ ha, at0, ?_⟩
        refine ⟨fa, ua, fxs, uxs, rfl, rfl, sT _ _ hfa, s3 _ _ hua, ?_, fun c H4 s4 hc => fin c H4 s4 hc⟩
        rw [hfall.length, huall.length]
        rw [htk, List.length_append] at hlen
        omega
    · rintro σ H2 ⟨fa, fxs, v3, v4, rfl, s2, hfa, hfall⟩
      rw [hsall.length, take_all] at hfall
      exact ⟨_, rfl, k _ H2 s2 ⟨fa, fxs, rfl, hfa, hfall⟩⟩
theorem c_wants_of (T : Txt K mg C) : CalD P w K mg base CX0 1 "wants_of" ["sheet", "choice"] spWantsOf [.non] := by
  obtain ⟨f, fd, F, g⟩ := T.d_wants_of
  obtain ⟨ds, rd, hb⟩ := F.binds1 (ps := ["sheet", "choice"]) 1 0 (by simp) rfl (fun Tt kV doc pm an cdv ct us its l1 l2 => by
    match us, its, l1, l2 with
    | [_], [_], _, _ => exact ⟨_, rfl, rfl⟩)
  exact ⟨f, fd, F_wants_of T F, g, F.kp, ds, rd, hb⟩
theorem k_wants_of (T : Txt K mg C) : CalK P w K mg base CX0 1 1 "wants_of" ["choice"] ["sheet", "choice"] spWantsOf (fun vs zs => vs ++ zs) := by
  obtain ⟨f, fd, F, g⟩ := T.d_wants_of
  obtain ⟨oc, od, dV, kV, doc, pm, an, cdv, ct, osl, rfl, lk, hcd, hD, hK⟩ := id F.ex
  refine ⟨f, _, fun us ws => us ++ ws, F_wants_of T F, g, F.kp, ⟨fun s us ws X l1 l2 => ?_, fun r1 r2 => r1.append r2⟩⟩
  rcases hD with ⟨e, _⟩ | ⟨_, Tt, o, its, m, rfl, lT, oT, rT⟩
  · cases e
  · match us, ws, its, l1, l2, rT.length with
    | [u1], [w1], [i1], _, _, _ =>
      refine BindsTo.of_looks fun M => ?_
      obtain ⟨kk, e1, e2⟩ : ∃ kk, bindArgs (PySem.W.fnOf "wants_of" "wants_of" (defArgs s_wants_of) (defBody s_wants_of) (defScope s_wants_of) (.ref Tt) kV doc pm an cdv ct) ⟨[u1], (["choice"] : List Str).zip [w1]⟩ = seqItems? (.ref Tt) >>= kk ∧ kk (some [i1].toArray) = pure ((["sheet", "choice"] : List Str).zip ([u1] ++ [w1])) := ⟨_, rfl, by first | with_unfolding_all rfl | kernel_rfl⟩
      rw [e1]
      exact looks_items X lT oT (.of_pure e2)
end
end Pk
end
section
set_option Elab.async false
set_option linter.all false
set_option maxRecDepth 100000
set_option maxHeartbeats 8000000
namespace Pk
open PySem PySem.Spec PyProof.Rows L2 FL
theorem total_sum (ws : List (Want Str Str)) : total ws = (ws.map fun w => w.2.2).sum := by
  unfold total
  rw [su_sum]
theorem total_le {ws : List (Want Str Str)} (wok : WantsOK ws) : 0 ≤ total ws ∧ total ws ≤ 36 := by
  have h : ∀ l : List (Want Str Str), (∀ w ∈ l, WantOK w) → 0 ≤ total l ∧ total l ≤ 6 * (l.length : Int) := by
    intro l hl
    induction l with
    | nil => exact ⟨Int.le_refl 0, by show (0 : Int) ≤ _; omega⟩
    | cons a r ih =>
      have h1 := hl a (by simp)
      have h2 := ih fun w hw => hl w (by simp [hw])
      have e : total (a :: r) = a.2.2 + total r := rfl
      rw [e, List.length_cons]
      have := h1.lo
      have := h1.hi
      omega
  have h1 := h ws wok.all
  have h2 := wok.len
  omega
section
variable {P : Program} {w : World} {K : PySem.W.Frag} {mg : Str → Option Value} {base : Heap} {C : Addr}
def mostK (ws : List (Want Str Str)) (krows : List (List Row)) : List Int := krows.map fun _ => 1 + total ws
def spNever (C : Addr) : Sp := fun vs H Q _ => ∃ v rows ka krows u ws, vs = [v, ka, u] ∧ HeapR C H v rows ∧ HeapOK rows ∧ KitsR C H ka krows ∧ (∀ r ∈ krows, HeapOK r) ∧ krows.length ≤ 1000 ∧ WantsR H u ws ∧ WantsOK ws ∧
  (∀ v' H' p, Same H H' → PlaceR H' v' p → PlaceOK p → IsBar SH (mix (cnt rows) (cnts krows) (mostK ws krows)) ws p.1 p.2 → Q v' H') ∧ ∀ H' gs, Same H H' → GivenOK SH (mix (cnt rows) (cnts krows) (mostK ws krows)) ws gs → Q .non H'
theorem sc_never_at : FnScope ["heap", "kits", "wants", "most", "word", "thing", "form", "shades", "many", "kit"] ["heap", "kits", "wants"] (defScope s_never_at) := ⟨rfl, rfl, rfl, by decide +kernel, rfl, by decide +kernel, by decide +kernel⟩
theorem c_never_at (T : Txt K mg C) : Cal P w K mg base CX0 7 "never_at" ["heap", "kits", "wants"] (spNever C) := by
  have C_deal : Cal P w K mg base CX0 6 "deal" ["heap", "wants"] (spDeal C) := c_deal T
  have C_with_kits : Cal P w K mg base CX0 5 "with_kits" ["heap", "kits", "many"] (spWithKits C) := c_with_kits T
  refine Cal.mk' T.d_never_at sc_never_at (fun vs H Q E h => ?_) (fun _ _ _ _ _ _ us hl => match us, hl with | [_, _, _], _ => rfl) (fun f cdv A outer s H vs Q E hr h => ?_)
  · obtain ⟨v, rows, ka, krows, u, ws, rfl, _⟩ := h
    rfl
  · obtain ⟨v, rows, ka, krows, u, ws, rfl, hv, hok, ⟨ka, kxs, rfl, hka, hkall⟩, hkok, hkn, ⟨wa, wxs, rfl, hwa, hwall⟩, wok, kbar, kgiv⟩ := h
    have sc := sc_never_at
    refine ⟨_, (pss_cons (ps_set (i := 3) sc.nd rfl (.inr rfl) (pe_sumOne rfl T.sum (pe_lc (own := [("form", 6), ("shades", 7), ("many", 8)]) rfl sc.nd (piT K (pv 2)) (blkOk_by (N := ["heap", "kits", "wants", "most", "word", "thing", "form", "shades", "many", "kit"]) (sc := defScope s_never_at) (own := [("form", 6), ("shades", 7), ("many", 8)]) (by decide +kernel)) (fun _ _ _ _ _ => (pgT K (n := 3) rfl (pgs_cons (pg_name (i := 6) sc.nd rfl (.inl rfl)) (pgs_cons (pg_name (i := 7) sc.nd rfl (.inl rfl)) (pgs_cons (pg_name (i := 8) sc.nd rfl (.inl rfl)) pgs_nil))))) (fun _ _ _ _ _ => pts_nil) (fun _ _ _ _ _ => (pv 8))) (pk_cons pe_int pk_nil)))
      (pss_cons (ps_asg (pe_cal C_deal hr (pa_cons (pe_cal C_with_kits hr (pa_cons (pv 0) (pa_cons (pv 1) (pa_cons (pe_lc (own := [("kit", 9)]) rfl sc.nd (piT K (pv 1)) (blkOk_by (N := ["heap", "kits", "wants", "most", "word", "thing", "form", "shades", "many", "kit"]) (sc := defScope s_never_at) (own := [("kit", 9)]) (by decide +kernel)) (fun _ _ _ _ _ => (pg_name (i := 9) sc.nd rfl (.inl rfl))) (fun _ _ _ _ _ => pts_nil) (fun _ _ _ _ _ => (pv 3))) pa_nil)))) (pa_cons (pv 2) pa_nil))) (pgT K (n := 2) rfl (pgs_cons (pg_name (i := 4) sc.nd rfl (.inl rfl)) (pgs_cons (pg_name (i := 5) sc.nd rfl (.inl rfl)) pgs_nil))))
      (pss_one (ps_ret (pe_ifExp (pt_cmpR op_eq (pv 4) pe_str (nomark _)) (pv 5) pe_non))))), ?_⟩
    have hn6 := wok.len
    have htot := total_le wok
    -- most = sum(.., start=1)
    refine ⟨_, rfl, wa, rfl, ⟨_, SqT.of hwa⟩, fun D nD => ?_⟩
    refine lc_typed (walk_tup (K := K) (a := wa) (xs := wxs)) nD IntR IntR.mo (fun i => (ws[i]?).map fun w => w.2.2) (by rw [hwall.length]; omega) (fun H3 s3 => SqT.of (s3 _ _ hwa)) (fun i y H3 H4 hi s3 hY kt kf => ?_) (fun H1 acc s1 hD hacc => ?_)
    · obtain ⟨rfl, hy⟩ := hY
      obtain ⟨x, hx, b, bb, rfl, hb, hbb⟩ := hwall.get hy
      dsimp only [List.map, wipe, List.set]
      refine ⟨b, _, rfl, SqT.of (s3 _ _ hb), rfl, _, _, rfl, _, _, rfl, _, _, rfl, rfl, ?_⟩
      dsimp only [List.set, wipe]
      refine ⟨rfl, yesT ?_⟩
      refine ⟨_, rfl, kt _ _ x.2.2 (Same.refl _) ?_ rfl⟩
      show (ws[i]?).map _ = _
      rw [hx]
      rfl
    · rw [hwall.length, filterMap_get] at hacc
      refine ⟨D, ws.map (fun w => w.2.2), rfl, rfl, by rw [hD, all2_int hacc], ?_⟩
      rw [← total_sum]
      -- deal(with_kits(..), wants)
      have hka1 := s1 _ _ hka
      refine ⟨_, rfl, _, rfl, _, rfl, ka, rfl, ⟨_, SqT.of hka1⟩, fun D2 nD2 => ?_⟩
      refine lc_typed (walk_tup (K := K) (a := ka) (xs := kxs)) nD2 IntR IntR.mo (fun i => (krows[i]?).map fun _ => 1 + total ws) (by rw [hkall.length]; omega) (fun H3 s3 => SqT.of (s3 _ _ hka1)) (fun i y H3 H4 hi s3 hY kt kf => ?_) (fun H2 acc2 s2 hD2 hacc2 => ?_)
      · obtain ⟨rfl, hy⟩ := hY
        obtain ⟨r, hr1, _⟩ := hkall.get hy
        refine ⟨rfl, yesT ?_⟩
        refine ⟨_, rfl, kt _ _ (1 + total ws) (Same.refl _) ?_ rfl⟩
        show (krows[i]?).map _ = _
        rw [hr1]
        rfl
      · rw [hkall.length, filterMap_get] at hacc2
        have sA := s1.trans s2
        refine ⟨v, rows, .ref ka, krows, D2, mostK ws krows, rfl, HeapR.mo _ _ _ _ (Keep.of sA) hv, hok, ⟨ka, kxs, rfl, s2 _ _ hka1, All2.mo HeapR.mo (Keep.of sA) hkall⟩, hkok, .inr (by rw [hD2, all2_int hacc2]; rfl), by unfold mostK; rw [List.length_map], fun n hn => ?_, fun v' H3 rows' s3 hv' hok' hcnt => ?_⟩
        · obtain ⟨_, _, rfl⟩ := List.mem_map.mp hn
          omega
        · have hce : cnt rows' = mix (cnt rows) (cnts krows) (mostK ws krows) := by
            funext f s
            exact hcnt f s
          have sB := sA.trans s3
          refine ⟨_, rfl, v', rows', .ref wa, ws, rfl, hv', hok', ⟨wa, wxs, rfl, sB _ _ hwa, All2.mo WantR.mo (Keep.of sB) hwall⟩, wok, fun t H4 s4 hdeal => ?_⟩
          have sC := sB.trans s4
          rcases hdeal with ⟨gv, gs, ht, hg, hgiv, _⟩ | ⟨pv', p, ht, hp, hpok, hbar⟩
          · refine ⟨t, _, rfl, SqT.of ht, rfl, _, _, rfl, _, _, rfl, rfl, ?_⟩
            dsimp only [List.set]
            refine ⟨_, rfl, rfl, _, rfl, ?_⟩
            refine ite_f (by decide +kernel) ?_
            rw [hce] at hgiv
            exact kgiv H4 gs sC hgiv
          · refine ⟨t, _, rfl, SqT.of ht, rfl, _, _, rfl, _, _, rfl, rfl, ?_⟩
            dsimp only [List.set]
            refine ⟨_, rfl, rfl, _, rfl, ?_⟩
            refine ite_t (by decide +kernel) ?_
            rw [hce] at hbar
            exact ⟨_, rfl, kbar _ H4 p sC hp hpok hbar⟩
end
end Pk
end
section
set_option Elab.async false
set_option linter.all false
set_option maxRecDepth 100000
set_option maxHeartbeats 8000000
namespace Pk
open PySem PySem.Spec PyProof.Rows L2 FL
/-- PaperError's attributes are read as a class's are -/
structure TxtY (K : PySem.W.Frag) (mg : Str → Option Value) : Prop where
  ex : ∃ CP, mg "PaperError" = some (.ref CP) ∧ ClX.CRead K CP (.type "type")
section
variable {X : Cx} {e : Expr} {es : List Expr} {ta : TA} {p1 p2 pos : Pos} {CP : Addr}
theorem pe_peinit {pl : Sem Bool} (hg : Gl X "PaperError") (hm : X.mg "PaperError" = some (.ref CP)) (R : ClX.CRead X.K CP (.type "type")) (vV : PySem.W.findCls X.K (.ref CP) (.type "type") "__init__" = some (.val (.builtin "ValueError.__init__"))) (ha : PA X (e :: es) ta)
    (hc : eval (.Call (.Attribute (.Name "PaperError" p1) "__init__" p2) (e :: es) [] pos) X.env = (do
      let ov ← eval (.Name "PaperError" p1) X.env
      standAt p2.atName
      let (f, first) ← holding [ov] (getMethod ov "__init__" pl)
      callWith pos f first (backTo pos (starEach (e :: es) X.env)) (backToKw pos (keywordEach [] X.env))) := by rfl)
    (he : starEach (e :: es) X.env = (false, eval e X.env) :: starEach es X.env := by rfl) (hpl : (backTo pos (starEach es X.env)).any (·.1) = false := by rfl) :
    PE X (.Call (.Attribute (.Name "PaperError" p1) "__init__" p2) (e :: es) [] pos) (tVeI X.K ta) := by
  refine ⟨fun pins s σ H Q I h => ?_⟩
  refine PySem.W.methodCall_KW (ld_glob I hg hm ?_ (by decide)) hc
  refine PySem.W.method_cls I.kIn R.ga (PySem.W.cls_value I.kIn R.rd vV (by decide +kernel) ?_)
  show wpAny _ _ (callWith pos (Value.builtin "ValueError.__init__") [] (backTo pos (starEach (e :: es) X.env)) []) _ _ _
  refine PyProof.Rows.callWith_method1 (thn (ha.run pos pins _ σ H _ (I.tok _) h) fun us s1 ⟨vs, H1, I1, r1, a, C, ws, ev, hl, T, ea, q⟩ => ?_) he hpl
  subst ev
  cases r1 with
  | @cons _ u0 _ ur ra rw' =>
    obtain rfl : u0 = Value.ref a := ra
    have hlen : ur.length ≤ sizeLine := by
      rw [← Paired.length rw', sizeLine_eq]
      omega
    exact oinit_ok T I1 ea hlen fun s' J => ⟨.non, H1, J, rfl, q⟩
end
section
variable {P : Program} {w : World} {K : PySem.W.Frag} {mg : Str → Option Value} {base : Heap} {C : Addr}
def spNoK (CN : Addr) : Sp := fun vs H Q _ => ∃ a v, vs = [.ref a, v] ∧ H a = some (exo a CN none) ∧ ∀ dx, H dx = none → dx ≠ a → Q .non (upd (upd H dx (exd dx [("paper", v)])) a (exo a CN (some dx)))
/-- NoKits(..) -/
structure NoK (P : Program) (w : World) (K : PySem.W.Frag) (mg : Str → Option Value) (base : Heap) (CN : Addr) : Prop where
  mgN : mg "NoKits" = some (.ref CN)
  oex : OexC K CN
  one : PySem.W.exmOne K (.ref CN) (.ref CN) = some true
  ini : ∃ fN fd, PySem.W.findIn K (.ref CN) "__init__" = some (some (.ref fN)) ∧ PySem.W.typeIn K (.ref fN) = some (.type "function") ∧ FnOk P w K mg base CX0 1 fN fd ["self", "paper"] (spNoK CN) ∧ Binds K fd ["self", "paper"] []
theorem sc_NoKits_init : FnScope ["self", "paper"] ["self", "paper"] (defScope s_NoKits_init) := ⟨rfl, rfl, rfl, by decide +kernel, rfl, by decide +kernel, by decide +kernel⟩
theorem c_NoKits (T : TxtX K mg) (Y : TxtY K mg) : ∃ CN, NoK P w K mg base CN := by
  obtain ⟨CN, fN, CP, h1, h2, h3, h4, ⟨fd, F⟩, h6, h7, h8, h9, h10⟩ := T.ex
  obtain ⟨CP', h11, R⟩ := Y.ex
  have e : CP' = CP := by
    rw [h8] at h11
    injection (Option.some.inj h11) with e
    exact e.symm
  subst e
  refine ⟨CN, h1, h2, h7, fN, fd, h3, h4, F.ok sc_NoKits_init (fun vs H Q E h => ?_) (fun cdv A outer s H vs Q E hr h => ?_), F.bindsN (fun _ _ _ _ _ _ us hl => match us, hl with | [_, _], _ => rfl)⟩
  · obtain ⟨a, v, rfl, _⟩ := h
    rfl
  · obtain ⟨a, v, rfl, ha, k⟩ := h
    have sc := sc_NoKits_init
    refine ⟨_, PSs.nox (pss_cons (ps_expr (pe_peinit rfl h8 R h9 (pa_cons (pv 0) (pa_cons pe_str pa_nil)))) (pss_one (ps_ost (pv 0) (pv 1)))), ?_⟩
    refine ⟨_, rfl, a, CN, [.str "no kits make it"], rfl, by simp, h2, ha, ?_⟩
    exact ⟨_, rfl, _, rfl, a, CN, rfl, h2, h6, .inl ⟨ha, fun dx nd ne => k dx nd ne⟩⟩
end
end Pk
end
section
set_option Elab.async false
set_option linter.all false
set_option maxRecDepth 100000
set_option maxHeartbeats 8000000
namespace Pk
open PySem PySem.Spec PyProof.Rows L2 FL
def OKn (krows : List (List Row)) (ns : List Int) : Prop := ns.length = krows.length ∧ ∀ n ∈ ns, 0 ≤ n
def Fd (rows : List Row) (krows : List (List Row)) (ws : List (Want Str Str)) (n : List Int) : Prop := ∃ gs, GivenOK SH (mix (cnt rows) (cnts krows) n) ws gs
theorem mem_le_sum : ∀ {m : List Int}, (∀ n ∈ m, 0 ≤ n) → ∀ n ∈ m, n ≤ m.sum
  | [], _, n, h => by simp at h
  | a :: r, h0, n, h => by
    rw [List.sum_cons]
    have h1 := h0 a (by simp)
    have h2 := sum_nonneg (m := r) fun x hx => h0 x (by simp [hx])
    rcases List.mem_cons.mp h with rfl | h
    · omega
    · have := mem_le_sum (m := r) (fun x hx => h0 x (by simp [hx])) n h
      omega
theorem cnts_nonneg {krows : List (List Row)} (h : ∀ r ∈ krows, HeapOK r) : ∀ k ∈ cnts krows, ∀ f s, 0 ≤ k f s := fun k hk f s => by
  obtain ⟨r, hr, rfl⟩ := List.mem_map.mp hk
  exact cnt_nonneg (h r hr).1 f s
def muF (σ : L2.St) : Nat := match σ[7]?, σ[6]? with
  | some (some V.non), some (some (V.int t)) => 1 + (37 - t.toNat)
  | _, _ => 0
section
variable {P : Program} {w : World} {K : PySem.W.Frag} {mg : Str → Option Value} {base : Heap} {C : Addr}
def spFewest (C CN : Addr) : Sp := fun vs H Q E => ∃ v rows ka krows sv wss ws, vs = [v, ka, sv] ∧ HeapR C H v rows ∧ HeapOK rows ∧ KitsR C H ka krows ∧ (∀ r ∈ krows, HeapOK r) ∧ krows.length ≤ 4 ∧ SheetR H sv wss ∧ ws = wss.flatten ∧ WantsOK ws ∧
  (∀ m H' ns, Same H H' → H' m = some (.tup (ns.map V.int)) → OKn krows ns → ns.sum ≤ 36 → Fd rows krows ws ns → (∀ n, OKn krows n → n.sum < ns.sum → ¬ Fd rows krows ws n) → Q (.ref m) H') ∧
  (∀ d H' (p : Place), Same H H' → (∀ n, IsBar SH (mix (cnt rows) (cnts krows) n) ws p.1 p.2) → E (.ref CN) (some d) H')
theorem sc_fewest : FnScope ["heap", "kits", "sheet", "wants", "never", "places", "total", "found", "many", "word", "thing"] ["heap", "kits", "sheet"] (defScope s_fewest) := ⟨rfl, rfl, rfl, by decide +kernel, rfl, by decide +kernel, by decide +kernel⟩
theorem c_fewest (T : Txt K mg C) {CN : Addr} (N : NoK P w K mg base CN) : Cal P w K mg base (L2.CX P w) 8 "fewest" ["heap", "kits", "sheet"] (spFewest C CN) := by
  have C_wants_of : CalD P w K mg base CX0 1 "wants_of" ["sheet", "choice"] spWantsOf [.non] := c_wants_of T
  have C_never_at : Cal P w K mg base CX0 7 "never_at" ["heap", "kits", "wants"] (spNever C) := c_never_at T
  have C_sums_of : Cal P w K mg base CX0 1 "sums_of" ["parts", "total"] spSums := c_sums_of T
  have C_fills : Cal P w K mg base CX0 3 "fills" ["heap", "kits", "wants", "places", "many"] (spFills C) := c_fills T
  have C_deal : Cal P w K mg base CX0 6 "deal" ["heap", "wants"] (spDeal C) := c_deal T
  have C_with_kits : Cal P w K mg base CX0 5 "with_kits" ["heap", "kits", "many"] (spWithKits C) := c_with_kits T
  obtain ⟨f, fd, F, g⟩ := T.d_fewest
  obtain ⟨fN, fdN, iC, tI, FN, bN⟩ := N.ini
  refine ⟨f, fd, F.ok sc_fewest (fun vs H Q E h => ?_) (fun cdv A outer s H vs Q E hr h => ?_), g, F.kp, F.bindsN (fun _ _ _ _ _ _ us hl => match us, hl with | [_, _, _], _ => rfl)⟩
  · obtain ⟨v, rows, ka, krows, sv, wss, ws, rfl, _⟩ := h
    rfl
  · obtain ⟨v, rows, ka, krows, sv, wss, ws, rfl, hv, hok, hka0, hkok, hk4, hsv, hwss, wok, kfound, kraise⟩ := h
    have sc := sc_fewest
    refine ⟨_, (pss_cons (ps_set (i := 3) sc.nd rfl (.inl rfl) (pe_calD C_wants_of hr (pa_cons (pv 2) pa_nil)))
      (pss_cons (ps_set (i := 4) sc.nd rfl (.inl rfl) (pe_cal C_never_at hr (pa_cons (pv 0) (pa_cons (pv 1) (pa_cons (pv 3) pa_nil)))))
      (pss_cons (ps_if (pt_cmpR op_notN (pv 4) pe_non (nomark _)) (pss_one (ps_raise rfl (takes_of rfl rfl rfl rfl) (pmk_oex N.oex iC tI FN (hr.mono (by decide)) bN .nil pass0 rfl N.mgN (pa_cons (pv 4) pa_nil)))) pss_nil)
      (pss_cons (ps_par (i := 5) (j := 6) rfl sc.nd rfl rfl (by decide) rfl rfl (pa_cons (pe_lst pa_nil) (pa_cons pe_int pa_nil)) (by rfl))
      (pss_cons (ps_set (i := 7) sc.nd rfl (.inl rfl) pe_non)
      (pss_cons (ps_while (passes_of rfl) (pt_cmpR op_isN (pv 7) pe_non (nomark _)) (pss_cons (ps_for (passes_of rfl) rfl (piL K (pe_cal C_sums_of hr (pa_cons (pe_callB len1 (by rfl) T.len PySem.boot_len (pa_cons (pv 1) pa_nil)) (pa_cons (pv 6) pa_nil)))) (pg_name (i := 8) sc.nd rfl (.inl rfl)) (pss_one (ps_if (PW.pt (pw_and (pt_cmpR op_isN (pv 7) pe_non (nomark _)) (pw_and1 (pt_val (pe_cal C_fills hr (pa_cons (pv 0) (pa_cons (pv 1) (pa_cons (pv 3) (pa_cons (pv 5) (pa_cons (pv 8) pa_nil)))))))))) (pss_cons (ps_asg (pe_cal C_deal hr (pa_cons (pe_cal C_with_kits hr (pa_cons (pv 0) (pa_cons (pv 1) (pa_cons (pv 8) pa_nil)))) (pa_cons (pv 3) pa_nil))) (pgT K (n := 2) rfl (pgs_cons (pg_name (i := 9) sc.nd rfl (.inl rfl)) (pgs_cons (pg_name (i := 10) sc.nd rfl (.inl rfl)) pgs_nil))))
      (pss_one (ps_if (pt_cmpR op_eq (pv 9) pe_str (nomark _)) (pss_one (ps_set (i := 7) sc.nd rfl (.inl rfl) (pv 8))) (pss_one (ps_expr (pe_bm PySem.F.plainAttrs_list PySem.F.slot_list_append PySem.F.type_list_append mt_append (pv 5) (pa_cons (pv 10) pa_nil))))))) pss_nil)))
      (pss_one (ps_set (i := 6) sc.nd rfl (.inl rfl) (pe_op op_add (pv 6) pe_int)))))
      (pss_one (ps_ret (pv 7))))))))), ?_⟩
    obtain ⟨ka, kxs, rfl, hka, hkall⟩ := id hka0
    have hkl : kxs.length = krows.length := hkall.length
    have hn6 := wok.len
    have htot := total_le wok
    refine ⟨_, rfl, sv, .non, wss, none, rfl, hsv, rfl, fun n hn => (by cases hn), by rw [← hwss]; omega, fun wv H1 s1 hws1 => ?_⟩
    rw [← hwss] at hws1
    refine ⟨_, rfl, _, rfl, _, rfl, v, rows, .ref ka, krows, wv, ws, rfl, HeapR.mo _ _ _ _ (Keep.of s1) hv, hok, ⟨ka, kxs, rfl, s1 _ _ hka, All2.mo HeapR.mo (Keep.of s1) hkall⟩, hkok, by omega, hws1, wok, fun nv H2 p s2 hp hpok hbar => ?_, fun H2 gs0 s2 hgiv0 => ?_⟩
    · -- never
      obtain ⟨na, rfl, _⟩ := id hp
      refine ⟨_, rfl, rfl, _, rfl, ite_t rfl ?_⟩
      refine ⟨_, rfl, (by show 1 ≤ 1000; decide), fun a hna => ?_⟩
      refine ⟨a, .ref na, rfl, upd_same, fun dx nd ne => ⟨rfl, dx, [("paper", .ref na)], upd_same, ?_, ?_, ?_⟩⟩
      · rw [upd_ne ne, upd_same]
      · rw [upd_ne ne] at nd
        exact nd
      · rw [upd_ne ne] at nd
        refine kraise dx _ p ((s1.trans s2).trans fun b o e => ?_) fun n => ?_
        · have hb1 : b ≠ dx := ne_of_none e nd
          have hb2 : b ≠ a := ne_of_none e hna
          rw [upd_ne hb1, del_ne hb2, upd_ne hb2, upd_ne hb1, upd_ne hb2]
          exact e
        · have hb : IsBar SH (mix (cnt rows) (cnts krows) ((cnts krows).map fun _ => 1 + total ws)) ws p.1 p.2 := by
            have e : ((cnts krows).map fun _ => 1 + total ws) = mostK ws krows := by
              unfold cnts mostK
              rw [List.map_map]
              rfl
            rw [e]
            exact hbar
          exact never (cnts_nonneg hkok) (fun f s => cnt_nonneg hok.1 f s) (fun w hw => by have := (wok.all w hw).lo; omega) (by omega) hb n
    · have hex : ∃ n0, OKn krows n0 ∧ n0.sum ≤ 36 ∧ Fd rows krows ws n0 := by
        obtain ⟨n, h1, h2, h3, h4⟩ := few SH_nd FM_nd (cnts_nonneg hkok) (fun f s => cnt_nonneg hok.1 f s) (fun w hw => (wok.all w hw).fm) hgiv0
        refine ⟨n, ⟨by rw [h1]; unfold cnts; rw [List.length_map], h2⟩, by omega, gs0, h4⟩
      obtain ⟨n0, hn0, hn36, hFd0⟩ := hex
      have sA := s1.trans s2
      have hws2 := WantsR.mo _ _ _ _ (Keep.of s2) hws1
      refine ⟨_, rfl, rfl, _, rfl, ite_f rfl ?_⟩
      refine ⟨Nat.zero_le _, fun Pl nPl => ⟨_, _, rfl, ?_⟩⟩
      have nPl0 : H Pl = none := by
        cases z : H Pl with
        | none => rfl
        | some o => rw [sA _ _ z] at nPl; cases nPl
      have nPl1 : H1 Pl = none := by
        cases z : H1 Pl with
        | none => rfl
        | some o => rw [s2 _ _ z] at nPl; cases nPl
      -- while found is None
      refine while_by (fun σ H3 => ∃ t fv v8 v9 v10 pxs ps, σ = [some v, some (.ref ka), some sv, some wv, some .non, some (.ref Pl), some (.int t), some fv, v8, v9, v10] ∧ Same H H3 ∧ WantsR H3 wv ws ∧ H3 Pl = some (.lst pxs) ∧ All2 (PlaceR H3) pxs ps ∧ (∀ p ∈ ps, PlaceOK p) ∧ (pxs.length : Int) ≤ 60000 * t ∧ 0 ≤ t ∧
          ((fv = .non ∧ ∀ n, OKn krows n → n.sum < t → ¬ Fd rows krows ws n) ∨ ∃ m ns, fv = .ref m ∧ H3 m = some (.tup (ns.map V.int)) ∧ OKn krows ns ∧ ns.sum ≤ 36 ∧ Fd rows krows ws ns ∧ ∀ n, OKn krows n → n.sum < ns.sum → ¬ Fd rows krows ws n))
        (fun σ _ => muF σ) ⟨0, .non, none, none, none, [], [], rfl, same_mut sA nPl0, WantsR.mo _ _ _ _ (Keep.new nPl) hws2, upd_same, .nil, fun p hp => by simp at hp, by simp, Int.le_refl 0, .inl ⟨rfl, fun n hn hs => by have := sum_nonneg hn.2; omega⟩⟩ ?_ ?_
      · rintro σ H3 ⟨t, fv, v8, v9, v10, pxs, ps, rfl, s3, hws3, hPl, hpall, hpok, hpl, ht0, hst⟩
        refine ⟨_, rfl, rfl, _, rfl, ?_⟩
        rcases hst with ⟨rfl, hnone⟩ | ⟨m, ns, rfl, hm, hns, hs36, hFd, hmin⟩
        · refine ite_t rfl ?_
          have ht36 : t ≤ 36 := by
            by_cases z : n0.sum < t
            · exact absurd hFd0 (hnone n0 hn0 z)
            · omega
          -- for many in sums_of(len(kits), total)
          refine ⟨_, rfl, ka, kxs, rfl, .inr (s3 _ _ hka), _, rfl, kxs.length, t, rfl, by omega, ht0, ht36, fun l H4 ys ms nl s4 hl hys hms hml => ?_⟩
          have hlPl : l ≠ Pl := fun z => by rw [z, hPl] at nl; cases nl
          have hws4 := WantsR.mo _ _ _ _ (Keep.of s4) hws3
          refine ⟨l, rfl, ⟨_, SqL.of hl⟩, for_list (K := K) (a := l) (xs := ys) (fun i σ H5 => ∃ fv v8 v9 v10 pxs5 ps5, σ = [some v, some (.ref ka), some sv, some wv, some .non, some (.ref Pl), some (.int t), some fv, v8, v9, v10] ∧ Same H H5 ∧ WantsR H5 wv ws ∧ H5 l = some (.lst ys) ∧ All2 (IntsR H5) ys ms ∧ H5 Pl = some (.lst pxs5) ∧ All2 (PlaceR H5) pxs5 ps5 ∧
              (∀ p ∈ ps5, PlaceOK p) ∧ pxs5.length ≤ pxs.length + i ∧ ((fv = .non ∧ ∀ n ∈ ms.take i, ¬ Fd rows krows ws n) ∨ ∃ m ns, fv = .ref m ∧ H5 m = some (.tup (ns.map V.int)) ∧ ns ∈ ms ∧ Fd rows krows ws ns))
            ⟨.non, v8, v9, v10, pxs, ps, rfl, s3.trans s4, hws4, hl, hys, s4 _ _ hPl, All2.mo PlaceR.mo (Keep.of s4) hpall, hpok, by omega, .inl ⟨rfl, fun n hn => by simp at hn⟩⟩ (fun i σ H5 _ ⟨_, _, _, _, _, _, _, _, _, h, _⟩ => SqL.of h) ?_ ?_⟩
          · rintro i y σ H5 hi ⟨fv, v8, v9, v10, pxs5, ps5, rfl, s5, hws5, hl5, hys5, hPl5, hpall5, hpok5, hpl5, hst5⟩
            obtain ⟨n, hn, mm, mxs, rfl, hmm, hmall⟩ := hys5.get hi
            have hnm := List.mem_of_getElem? hn
            obtain ⟨hnl, hnn, hnsum⟩ := (hms n).mp hnm
            have hOKn : OKn krows n := ⟨by rw [hnl, hkl], hnn⟩
            have hmx := all2_int hmall
            subst hmx
            have hsmall : ∀ x ∈ n, x ≤ 1000000 ∧ 0 ≤ x := fun x hx => by
              have := mem_le_sum hnn x hx
              have := hnn x hx
              omega
            have hi6 : i < 60000 := by
              have := (List.getElem?_eq_some_iff.mp hn).1
              omega
            refine ⟨_, rfl, rfl, _, rfl, ?_⟩
            rcases hst5 with ⟨rfl, hnot⟩ | ⟨m, ns, rfl, hm, hns, hFd⟩
            · refine ite_t rfl ?_
              refine ⟨_, rfl, _, rfl, _, rfl, _, rfl, _, rfl, v, rows, .ref ka, krows, wv, ws, Pl, ps5, mm, n, rfl, HeapR.mo _ _ _ _ (Keep.of s5) hv, hok, ⟨ka, kxs, rfl, s5 _ _ hka, All2.mo HeapR.mo (Keep.of s5) hkall⟩, hkok, hws5, wok, ⟨pxs5, hPl5, hpall5⟩, hpok5, hmm, hOKn.1, hsmall, fun H6 s6 => ⟨_, rfl, ?_⟩⟩
              have s56 := s5.trans s6
              have hws6 := WantsR.mo _ _ _ _ (Keep.of s6) hws5
              have hPl6 := s6 _ _ hPl5
              have hpall6 := All2.mo PlaceR.mo (Keep.of s6) hpall5
              cases hb : ps5.all (fillsB ws (cnt rows) (cnts krows) n) with
              | false =>
                refine ite_f rfl ?_
                refine ⟨.non, _, _, _, pxs5, ps5, rfl, s56, hws6, s6 _ _ hl5, All2.mo IntsR.mo (Keep.of s6) hys5, hPl6, hpall6, hpok5, by omega, .inl ⟨rfl, fun x hx => ?_⟩⟩
                rw [take_next hn] at hx
                rcases List.mem_append.mp hx with z | z
                · exact hnot x z
                · have : x = n := by simpa using z
                  subst this
                  rintro ⟨gs, hg⟩
                  obtain ⟨p, hp, hpf⟩ := List.all_eq_false.mp hb
                  refine weak hg p.1 p.2 ?_
                  unfold fillsB at hpf
                  show hasAt _ _ _ _ < wantedAt _ _ _
                  simp at hpf
                  exact hpf
              | true =>
                refine ite_t rfl ?_
                refine ⟨_, rfl, _, rfl, _, rfl, v, rows, .ref ka, krows, mm, n, rfl, HeapR.mo _ _ _ _ (Keep.of s56) hv, hok, ⟨ka, kxs, rfl, s56 _ _ hka, All2.mo HeapR.mo (Keep.of s56) hkall⟩, hkok, .inl (s6 _ _ hmm), hOKn.1, hsmall, fun v' H7 rows' s7 hv' hok' hcnt => ?_⟩
                have hce : cnt rows' = mix (cnt rows) (cnts krows) n := by
                  funext f s
                  exact hcnt f s
                have hws7 := WantsR.mo _ _ _ _ (Keep.of s7) hws6
                refine ⟨_, rfl, v', rows', wv, ws, rfl, hv', hok', hws7, wok, fun tt H8 s8 hdeal => ?_⟩
                have s68 := s7.trans s8
                have hPl8 := s68 _ _ hPl6
                have hws8 := WantsR.mo _ _ _ _ (Keep.of s8) hws7
                have hl8 := s68 _ _ (s6 _ _ hl5)
                have hys8 := All2.mo IntsR.mo (Keep.of (s6.trans s68)) hys5
                have hpall8 := All2.mo PlaceR.mo (Keep.of s68) hpall6
                have hmm8 := s68 _ _ (s6 _ _ hmm)
                rcases hdeal with ⟨gv, gs, ht, hg, hgiv, _⟩ | ⟨pv', p, ht, hp, hpok', hbar⟩
                · rw [hce] at hgiv
                  refine ⟨tt, _, rfl, SqT.of ht, rfl, _, _, rfl, _, _, rfl, rfl, ?_⟩
                  dsimp only [List.set]
                  refine ⟨_, rfl, rfl, _, rfl, ite_t (by decide +kernel) ?_⟩
                  refine ⟨_, rfl, ?_⟩
                  exact ⟨.ref mm, _, _, _, pxs5, ps5, rfl, s56.trans s68, hws8, hl8, hys8, hPl8, hpall8, hpok5, by omega, .inr ⟨mm, n, rfl, hmm8, hnm, gs, hgiv⟩⟩
                · rw [hce] at hbar
                  refine ⟨tt, _, rfl, SqT.of ht, rfl, _, _, rfl, _, _, rfl, rfl, ?_⟩
                  dsimp only [List.set]
                  refine ⟨_, rfl, rfl, _, rfl, ite_f (by decide +kernel) ?_⟩
                  refine ⟨_, rfl, .inl ⟨rfl, _, SqL.of hPl8⟩, _, rfl, Pl, pxs5, _, rfl, rfl, hPl8, sz_lt (by omega), ?_⟩
                  have k9 : Keep H8 (upd H8 Pl (.lst (pxs5 ++ [pv']))) := Keep.lst hPl8
                  refine ⟨.non, _, _, _, pxs5 ++ [pv'], ps5 ++ [p], rfl, same_mut (s56.trans s68) nPl0, WantsR.mo _ _ _ _ k9 hws8, by rw [upd_ne hlPl]; exact hl8, All2.mo IntsR.mo k9 hys8, upd_same, all2_snoc (All2.mo PlaceR.mo k9 hpall8) (PlaceR.mo _ _ _ _ k9 hp), fun q hq => ?_, by rw [List.length_append, List.length_singleton]; omega, .inl ⟨rfl, fun x hx => ?_⟩⟩
                  · rcases List.mem_append.mp hq with z | z
                    · exact hpok5 q z
                    · have : q = p := by simpa using z
                      subst this
                      exact hpok'
                  · rw [take_next hn] at hx
                    rcases List.mem_append.mp hx with z | z
                    · exact hnot x z
                    · have : x = n := by simpa using z
                      subst this
                      rintro ⟨gs, hg⟩
                      exact weak hg p.1 p.2 hbar
            · refine ite_f rfl ?_
              refine ite_f rfl ?_
              exact ⟨.ref m, _, _, _, pxs5, ps5, rfl, s5, hws5, hl5, hys5, hPl5, hpall5, hpok5, by omega, .inr ⟨m, ns, rfl, hm, hns, hFd⟩⟩
          · rintro σ H5 ⟨fv, v8, v9, v10, pxs5, ps5, rfl, s5, hws5, hl5, hys5, hPl5, hpall5, hpok5, hpl5, hst5⟩
            refine ⟨_, rfl, _, _, rfl, rfl, ⟨t + 1, fv, _, _, _, pxs5, ps5, rfl, s5, hws5, hPl5, hpall5, hpok5, ?_, by omega, ?_⟩, ?_⟩
            · have := hys.length
              omega
            · rcases hst5 with ⟨rfl, hnot⟩ | ⟨m, ns, rfl, hm, hns, hFd⟩
              · refine .inl ⟨rfl, fun n hn hs => ?_⟩
                by_cases z : n.sum < t
                · exact hnone n hn z
                · refine hnot n ?_
                  rw [hys.length, take_all]
                  exact (hms n).mpr ⟨by rw [hn.1, hkl], hn.2, by omega⟩
              · obtain ⟨h1, h2, h3⟩ := (hms ns).mp hns
                exact .inr ⟨m, ns, rfl, hm, ⟨by rw [h1, hkl], h2⟩, by omega, hFd, fun n hn hs => hnone n hn (by omega)⟩
            · show muF _ < muF _
              unfold muF
              rcases hst5 with ⟨rfl, _⟩ | ⟨m, ns, rfl, _⟩
              · show 1 + (37 - (t + 1).toNat) < 1 + (37 - t.toNat)
                omega
              · show 0 < 1 + (37 - t.toNat)
                omega
        · refine ite_f rfl ?_
          exact ⟨_, rfl, kfound m H3 ns s3 hm hns hs36 hFd hmin⟩
      · rintro σ H Q Q' i ⟨v1, e1, h2, c, h3, h4⟩
        exact ⟨v1, e1, h2, c, h3, i _ _ h4⟩
end
end Pk
end
section
set_option Elab.async false
set_option linter.all false
set_option maxRecDepth 100000
set_option maxHeartbeats 8000000
namespace Pk
open PySem PySem.Spec PyProof.Rows L2 FL
/-! ### isinstance -/
inductive TyN (H : Hp) : V → String → Prop
  | int (i : Int) : TyN H (.int i) "int"
  | str (x : Str) : TyN H (.str x) "str"
  | tup {a : Addr} {xs : List V} (e : H a = some (.tup xs)) : TyN H (.ref a) "tuple"
theorem isi_of {K : PySem.W.Frag} {H : Hp} {x : V} {t T : String} {b : Bool} {Q : VK} (h : TyN H x t) (hk : kitB t T = some b) (q : Q (.bl b) H) : rIsi K [x, .ty T] H Q := by
  refine ⟨x, .ty T, .type t, .type T, b, rfl, .ty T, ?_, kit_ty hk, q⟩
  cases h with
  | int i => exact .base (.int i)
  | str y => exact .base (.str y)
  | tup e => exact .base (.tup e)
def tIs (K : PySem.W.Frag) (T : String) (te : TE) : TE := fun σ H Q => te σ H fun x H1 => rIsi K [x, .ty T] H1 Q
theorem pe_is {X : Cx} {e : Expr} {te : TE} {c : Str} {T : String} {p p2 pos : Pos} (hg : Gl X "isinstance") (hm : X.mg "isinstance" = none) (hg2 : Gl X c) (hm2 : X.mg c = none) (hv : bootBuiltins c = some (.type T))
    (hst : starEach (e :: .Name c p2 :: []) X.env = (false, eval e X.env) :: starEach [.Name c p2] X.env) (he : PE X e te)
    (hn : c ≠ "__name__" := by decide) (hd : (c == ("__debug__" : Str)) = false := by decide) (hst2 : starEach (.Name c p2 :: []) X.env = (false, eval (.Name c p2) X.env) :: starEach [] X.env := by rfl)
    (hpl : (backTo pos (starEach [.Name c p2] X.env)).any (·.1) = false := by rfl) : PE X (.Call (.Name "isinstance" p) [e, .Name c p2] [] pos) (tIs X.K T te) := by
  exact pe_callB (X := X) (pos := pos) (p := p) (call_isi (X := X)) hg hm (by decide +kernel) (pa_cons he (pa_cons (pe_bltn (v := .ty T) (pos := p2) hg2 hm2 hv rfl hn hd) pa_nil (hs := hst2)) (hs := hst)) (he := hst) (hpl := hpl)
theorem pe_isK {X : Cx} (K : PySem.W.Frag) {e : Expr} {te : TE} {c : Str} {T : String} {p p2 pos : Pos} (hg : Gl X "isinstance") (hm : X.mg "isinstance" = none) (hg2 : Gl X c) (hm2 : X.mg c = none) (hv : bootBuiltins c = some (.type T))
    (hst : starEach (e :: .Name c p2 :: []) X.env = (false, eval e X.env) :: starEach [.Name c p2] X.env) (he : PE X e te)
    (hn : c ≠ "__name__" := by decide) (hd : (c == ("__debug__" : Str)) = false := by decide) (hst2 : starEach (.Name c p2 :: []) X.env = (false, eval (.Name c p2) X.env) :: starEach [] X.env := by rfl)
    (hpl : (backTo pos (starEach [.Name c p2] X.env)).any (·.1) = false := by rfl) (h : X.K = K := by rfl) : PE X (.Call (.Name "isinstance" p) [e, .Name c p2] [] pos) (tIs K T te) := h ▸ pe_is hg hm hg2 hm2 hv hst he hn hd hst2 hpl
def Wd (s : Str) : Prop := s ∈ FM ∨ s ∈ SH
/-- what is_word asks of a text -/
def wordB (s : Str) : Bool := decide (1 ≤ s.length) && decide (s.length ≤ 8) && (s.cps.toList.all fun c => !(Builtin.Str.occurrences "abcdefghijklmnopqrstuvwxyz" ⟨#[c]⟩ 0 ("abcdefghijklmnopqrstuvwxyz" : Str).length 1).isEmpty)
theorem word_ok {s : Str} (h : Wd s) : wordB s = true := by
  have hF : FM.all wordB = true := by decide +kernel
  have hS : SH.all wordB = true := by decide +kernel
  rcases h with h | h
  · exact List.all_eq_true.mp hF s h
  · exact List.all_eq_true.mp hS s h
section
variable {P : Program} {w : World} {K : PySem.W.Frag} {mg : Str → Option Value} {base : Heap} {C : Addr}
def spIsWord : Sp := fun vs H Q _ => ∃ s, vs = [.str s] ∧ Wd s ∧ ∀ H', Same H H' → Q (.bl true) H'
theorem sc_is_word : FnScope ["thing", "sign"] ["thing"] (defScope s_is_word) := ⟨rfl, rfl, rfl, by decide +kernel, rfl, by decide +kernel, by decide +kernel⟩
theorem c_is_word (T : Txt K mg C) : Cal P w K mg base CX0 1 "is_word" ["thing"] spIsWord := by
  refine Cal.mk' T.d_is_word sc_is_word (fun vs H Q E h => ?_) (fun _ _ _ _ _ _ us hl => match us, hl with | [_], _ => rfl) (fun f cdv A outer s H vs Q E hr h => ?_)
  · obtain ⟨s, rfl, _⟩ := h
    rfl
  · obtain ⟨z, rfl, hz, k⟩ := h
    have sc := sc_is_word
    obtain ⟨tl, hl⟩ := T.letters
    obtain ⟨tm, hm⟩ := T.mostl
    refine ⟨_, (pss_cons (ps_if (PW.pt (pw_or (pt_not (pt_val (pe_isK K (T := "str") (by rfl) T.isinstance (by rfl) T.str_ (by decide +kernel) (by rfl) (pv 0)))) (pw_or1 (pt_not (pt_chain op_le op_le pe_int (pe_callB call_len_str (by rfl) T.len PySem.boot_len (pa_cons (pv 0) pa_nil)) (pe_glob (v := .int 8) rfl hm ⟨_, rfl⟩)))))) (pss_one (ps_ret pe_bl)) pss_nil)
      (pss_one (ps_ret (pe_callB (all1 rfl) (by rfl) T.all (by decide +kernel) (pa_cons (pe_lc (own := [("sign", 1)]) rfl sc.nd (pi_str (pv 0)) (blkOk_by (N := ["thing", "sign"]) (sc := defScope s_is_word) (own := [("sign", 1)]) (by decide +kernel)) (fun _ _ _ _ _ => (pg_name (i := 1) sc.nd rfl (.inl rfl))) (fun _ _ _ _ _ => pts_nil) (fun _ _ _ _ _ => (pe_cmpR op_in_str (pv 1) (pe_glob (v := .str "abcdefghijklmnopqrstuvwxyz") rfl hl ⟨_, rfl⟩) (by rfl)))) pa_nil))))), ?_⟩
    have hw := word_ok hz
    unfold wordB at hw
    rw [Bool.and_eq_true, Bool.and_eq_true] at hw
    have h1 : 1 ≤ z.length := of_decide_eq_true hw.1.1
    have h8 : z.length ≤ 8 := of_decide_eq_true hw.1.2
    have hall := List.all_eq_true.mp hw.2
    have hsz : z.cps.size ≤ 8 := h8
    refine ⟨_, rfl, isi_of (.str z) (b := true) (by decide +kernel) ⟨_, rfl, ite_f rfl ?_⟩⟩
    refine ⟨_, rfl, z, rfl, sz_of (by omega), _, _, rfl, rfl, _, rfl, ite_t (decide_eq_true (by omega)) ?_⟩
    refine ⟨_, _, rfl, rfl, _, rfl, ite_f (by rw [decide_eq_true (by omega)]; rfl) ?_⟩
    refine ⟨_, rfl, z, rfl, fun D nD => ?_⟩
    refine lc_typed (walk_str (z := z)) nD BlR BlR.mo (fun i => (z.cps.toList[i]?).map fun c => !(Builtin.Str.occurrences "abcdefghijklmnopqrstuvwxyz" ⟨#[c]⟩ 0 ("abcdefghijklmnopqrstuvwxyz" : Str).length 1).isEmpty) (by omega) (fun _ _ => trivial) (fun i y H3 H4 hi s3 hY kt kf => ?_) (fun H3 acc s3 hD hacc => ?_)
    · obtain ⟨rfl, c, hc, rfl⟩ := hY
      refine ⟨rfl, yesT ?_⟩
      refine ⟨_, rfl, _, _, rfl, rfl, ?_⟩
      refine kt _ _ _ (Same.refl _) ?_ rfl
      show (z.cps.toList[i]?).map _ = _
      rw [Array.getElem?_toList, hc]
      rfl
    · rw [← Array.length_toList, filterMap_get] at hacc
      refine ⟨D, _, rfl, by rw [hD, all2_bl hacc], ?_⟩
      have e : ((z.cps.toList.map fun c => !(Builtin.Str.occurrences "abcdefghijklmnopqrstuvwxyz" ⟨#[c]⟩ 0 ("abcdefghijklmnopqrstuvwxyz" : Str).length 1).isEmpty).all id) = true := by
        rw [List.all_map]
        exact List.all_eq_true.mpr hall
      rw [e]
      exact k H3 s3
end
end Pk
end
section
set_option Elab.async false
set_option linter.all false
set_option maxRecDepth 100000
set_option maxHeartbeats 8000000
namespace Pk
open PySem PySem.Spec PyProof.Rows L2 FL
theorem all_map_id {α : Type} (g : α → Bool) (l : List α) : ((l.map g).all id) = l.all g := by rw [List.all_map]; rfl
theorem rise_drop {T : List Str} (h : Rise T) (n : Nat) : Rise (T.drop n) := h.sublist (List.drop_sublist n T)
theorem rise_take {T : List Str} (h : Rise T) (n : Nat) : Rise (T.take n) := h.sublist (List.take_sublist n T)
theorem cutV_eq {α : Type} [Inhabited α] (xs : List V) (lo hi : Option Int) : ∃ a b, cutV xs lo hi = (xs.drop a).take b := ⟨_, _, rfl⟩
theorem cut_from1 (xs : List V) : cutV xs (some 1) none = xs.drop 1 := by
  unfold cutV
  have h1 : HT.sIx xs.length xs.length none = xs.length := rfl
  rw [h1]
  cases xs with
  | nil => simp
  | cons a r =>
    have h2 : HT.sIx (a :: r).length 0 (some 1) = 1 := by
      unfold HT.sIx
      simp
    rw [h2]
    simp
section
variable {P : Program} {w : World} {K : PySem.W.Frag} {mg : Str → Option Value} {base : Heap} {C : Addr}
def spIsRising : Sp := fun vs H Q _ => ∃ b T, vs = [.ref b] ∧ H b = some (.tup (T.map V.str)) ∧ Rise T ∧ (∀ s ∈ T, Wd s) ∧ T.length ≤ 1000 ∧ ∀ H', Same H H' → Q (.bl true) H'
theorem sc_is_rising : FnScope ["some", "one", "other"] ["some"] (defScope s_is_rising) := ⟨rfl, rfl, rfl, by decide +kernel, rfl, by decide +kernel, by decide +kernel⟩
theorem c_is_rising (T : Txt K mg C) : Cal P w K mg base CX0 2 "is_rising" ["some"] spIsRising := by
  have C_is_word : Cal P w K mg base CX0 1 "is_word" ["thing"] spIsWord := c_is_word T
  refine Cal.mk' T.d_is_rising sc_is_rising (fun vs H Q E h => ?_) (fun _ _ _ _ _ _ us hl => match us, hl with | [_], _ => rfl) (fun f cdv A outer s H vs Q E hr h => ?_)
  · obtain ⟨b, T', rfl, _⟩ := h
    rfl
  · obtain ⟨b, T', rfl, hb, hrise, hwd, hlen, k⟩ := h
    have sc := sc_is_rising
    refine ⟨_, (pss_cons (ps_if (pt_not (pt_val (pe_callB (all1 rfl) (by rfl) T.all (by decide +kernel) (pa_cons (pe_lc (own := [("one", 1)]) rfl sc.nd (piT K (pv 0)) (blkOk_by (N := ["some", "one", "other"]) (sc := defScope s_is_rising) (own := [("one", 1)]) (by decide +kernel)) (fun _ _ _ _ _ => (pg_name (i := 1) sc.nd rfl (.inl rfl))) (fun _ _ _ _ _ => pts_nil) (fun _ _ _ _ _ => (pe_cal C_is_word hr (pa_cons (pv 1) pa_nil)))) pa_nil)))) (pss_one (ps_ret pe_bl)) pss_nil)
      (pss_one (ps_ret (pe_callB (all1 rfl) (by rfl) T.all (by decide +kernel) (pa_cons (pe_lc (own := [("one", 1), ("other", 2)]) rfl sc.nd (zipK K (by rfl) T.zip (pa_cons (pv 0) (pa_cons (pe_slice slT (pv 0) (po_some pe_int) po_none) pa_nil))) (blkOk_by (N := ["some", "one", "other"]) (sc := defScope s_is_rising) (own := [("one", 1), ("other", 2)]) (by decide +kernel)) (fun _ _ _ _ _ => (pgT K (n := 2) rfl (pgs_cons (pg_name (i := 1) sc.nd rfl (.inl rfl)) (pgs_cons (pg_name (i := 2) sc.nd rfl (.inl rfl)) pgs_nil)))) (fun _ _ _ _ _ => pts_nil) (fun _ _ _ _ _ => (pe_cmpR op_lt_str (pv 1) (pv 2) (nomark _)))) pa_nil))))), ?_⟩
    refine ⟨_, rfl, b, rfl, ⟨_, SqT.of hb⟩, fun D nD => ?_⟩
    refine lc_typed (walk_tup (K := K) (a := b) (xs := T'.map V.str)) nD BlR BlR.mo (fun i => (T'[i]?).map fun _ => true) (by rw [List.length_map]; omega) (fun H3 s3 => SqT.of (s3 _ _ hb)) (fun i y H3 H4 hi s3 hY kt kf => ?_) (fun H1 acc s1 hD hacc => ?_)
    · obtain ⟨rfl, hy⟩ := hY
      rw [List.getElem?_map] at hy
      obtain ⟨z, hz, rfl⟩ := Option.map_eq_some_iff.mp hy
      refine ⟨rfl, yesT ?_⟩
      refine ⟨_, rfl, z, rfl, hwd z (List.mem_of_getElem? hz), fun H5 s5 => ?_⟩
      refine kt _ H5 true s5 ?_ rfl
      show (T'[i]?).map _ = _
      rw [hz]
      rfl
    · rw [List.length_map, filterMap_get] at hacc
      have hb1 := s1 _ _ hb
      refine ⟨D, _, rfl, by rw [hD, all2_bl hacc], _, rfl, ite_f (by rw [all_map_id]; simp) ?_⟩
      -- zip(some, some[1:])
      refine ⟨_, rfl, _, rfl, 1, rfl, b, _, rfl, hb1, fun c H2 s2 hc => ?_⟩
      have hb2 := s2 _ _ hb1
      have hcut : cutV (T'.map V.str) (some 1) none = (T'.drop 1).map V.str := by
        rw [cut_from1, List.map_drop]
      rw [hcut] at hc
      refine ⟨b, c, _, _, rfl, .inr ⟨SqT.of hb2, SqT.of hc, fun D2 nD2 => ?_⟩⟩
      refine lc_typed (walk_zipT (n := (T'.drop 1).length) (by rw [List.length_map, List.length_map, List.length_drop]; omega)) nD2 BlR BlR.mo (fun i => ((T'.drop 1)[i]?).map fun _ => true) (by rw [List.length_drop]; omega) (fun H3 s3 => ⟨SqT.of (s3 _ _ hb2), SqT.of (s3 _ _ hc)⟩) (fun i y H3 H4 hi s3 hY kt kf => ?_) (fun H3 acc2 s3 hD2 hacc2 => ?_)
      · obtain ⟨Tt, x1, x2, rfl, nT, rfl, hx1, hx2⟩ := hY
        have hx1' : (T'.map V.str)[i]? = some x1 := hx1
        have hx2' : ((T'.drop 1).map V.str)[i]? = some x2 := hx2
        rw [List.getElem?_map] at hx1' hx2'
        obtain ⟨z1, hz1, rfl⟩ := Option.map_eq_some_iff.mp hx1'
        obtain ⟨z2, hz2, rfl⟩ := Option.map_eq_some_iff.mp hx2'
        have hlt : StrLt z1 z2 := by
          rw [List.getElem?_drop] at hz2
          obtain ⟨h1, e1⟩ := List.getElem?_eq_some_iff.mp hz1
          obtain ⟨h2, e2⟩ := List.getElem?_eq_some_iff.mp hz2
          rw [← e1, ← e2]
          exact List.pairwise_iff_getElem.mp hrise i (1 + i) h1 h2 (by omega)
        have sT := same_new (o := .tup [.str z1, .str z2]) nT
        refine ⟨Tt, _, rfl, SqT.of upd_same, rfl, _, _, rfl, _, _, rfl, rfl, rfl, yesT ?_⟩
        refine ⟨_, rfl, _, rfl, _, _, rfl, rfl, ?_⟩
        rw [show decide (z1.cps.toList < z2.cps.toList) = true from decide_eq_true hlt]
        refine kt _ _ true sT ?_ rfl
        show ((T'.drop 1)[i]?).map _ = _
        rw [hz2]
        rfl
      · rw [filterMap_get] at hacc2
        refine ⟨D2, _, rfl, by rw [hD2, all2_bl hacc2], ?_⟩
        rw [all_map_id, show ((T'.drop 1).all fun _ => true) = true by simp]
        exact k H3 ((s1.trans s2).trans s3)
end
end Pk
end
section
set_option Elab.async false
set_option linter.all false
set_option maxRecDepth 100000
set_option maxHeartbeats 8000000
namespace Pk
open PySem PySem.Spec PyProof.Rows L2 FL
theorem cut_strs (T : List Str) (lo hi : Option Int) : ∃ a b, cutV (T.map V.str) lo hi = ((T.drop a).take b).map V.str := by
  unfold cutV
  exact ⟨_, _, by rw [List.map_take, List.map_drop]⟩
theorem su_fm {α : Type} (g : α → Int) (h : α → Option α) (he : ∀ a b, h a = some b → b = a) : ∀ l : List α, su g (l.filterMap h) = su (fun a => if (h a).isSome = true then g a else 0) l
  | [] => rfl
  | a :: r => by
    rw [List.filterMap_cons]
    show _ = (if (h a).isSome = true then g a else 0) + su _ r
    cases e : h a with
    | none =>
      show su g (r.filterMap h) = _
      rw [su_fm g h he r]
      simp
    | some b =>
      show g b + su g (r.filterMap h) = _
      rw [su_fm g h he r, he a b e]
      simp
def wantF (f : Str) (w : Want Str Str) : Option (Want Str Str) := if w.1 = f then some w else none
def wantT (T : List Str) (w : Want Str Str) : Option (Want Str Str) := if w.2.1 ≠ [] ∧ ∀ s ∈ w.2.1, s ∈ T then some w else none
theorem wantF_sub {f : Str} {ws : List (Want Str Str)} {w : Want Str Str} (h : w ∈ ws.filterMap (wantF f)) : w ∈ ws := by
  obtain ⟨a, ha, e⟩ := List.mem_filterMap.mp h
  unfold wantF at e
  split at e
  · cases Option.some.inj e; exact ha
  · cases e
theorem wanted_none (ws : List (Want Str Str)) (f : Str) : su (fun w => w.2.2) (ws.filterMap (wantF f)) = wantedAt ws f none := by
  rw [su_fm _ _ fun a b e => by
    unfold wantF at e
    split at e
    · exact (Option.some.inj e).symm
    · cases e]
  show _ = su (fun w : Want Str Str => if w.1 = f then w.2.2 else 0) ws
  refine su_congr fun w _ => ?_
  unfold wantF
  by_cases h : w.1 = f <;> simp [h]
theorem wanted_someT (ws : List (Want Str Str)) (f : Str) (T : List Str) : su (fun w => w.2.2) ((ws.filterMap (wantF f)).filterMap (wantT T)) = wantedAt ws f (some T) := by
  rw [su_fm _ _ fun a b e => by
    unfold wantT at e
    split at e
    · exact (Option.some.inj e).symm
    · cases e]
  rw [su_fm _ _ fun a b e => by
    unfold wantF at e
    split at e
    · exact (Option.some.inj e).symm
    · cases e]
  show _ = su (fun w : Want Str Str => if w.1 = f ∧ w.2.1 ≠ [] ∧ ∀ s ∈ w.2.1, s ∈ T then w.2.2 else 0) ws
  refine su_congr fun w _ => ?_
  show (if (wantF f w).isSome = true then (if (wantT T w).isSome = true then w.2.2 else 0) else 0) = _
  by_cases h : w.1 = f
  · have e1 : (wantF f w).isSome = true := by unfold wantF; rw [if_pos h]; rfl
    rw [if_pos e1]
    by_cases h2 : w.2.1 ≠ [] ∧ ∀ s ∈ w.2.1, s ∈ T
    · have e2 : (wantT T w).isSome = true := by unfold wantT; rw [if_pos h2]; rfl
      rw [if_pos e2, if_pos ⟨h, h2⟩]
    · have e2 : ¬ (wantT T w).isSome = true := by unfold wantT; rw [if_neg h2]; simp
      rw [if_neg e2, if_neg fun z => h2 z.2]
  · have e1 : ¬ (wantF f w).isSome = true := by unfold wantF; rw [if_neg h]; simp
    rw [if_neg e1, if_neg fun z => h z.1]
section
variable {P : Program} {w : World} {K : PySem.W.Frag} {mg : Str → Option Value} {base : Heap} {C : Addr}
/-! ### need -/
def spNeed : Sp := fun vs H Q _ => ∃ v u, vs = [.bl true, v, u] ∧ Q .non H
theorem sc_need : FnScope ["truth", "word", "at"] ["truth", "word", "at"] (defScope s_need) := ⟨rfl, rfl, rfl, by decide +kernel, rfl, by decide +kernel, by decide +kernel⟩
theorem c_need (T : Txt K mg C) : Cal P w K mg base CX0 1 "need" ["truth", "word", "at"] spNeed := by
  refine Cal.mk' T.d_need sc_need (fun vs H Q E h => ?_) (fun _ _ _ _ _ _ us hl => match us, hl with | [_, _, _], _ => rfl) (fun f cdv A outer s H vs Q E hr h => ?_)
  · obtain ⟨v, u, rfl, _⟩ := h
    rfl
  · obtain ⟨v, u, rfl, k⟩ := h
    have sc := sc_need
    refine ⟨_, (pss_one (ps_if (pt_not (pt_val (pv 0))) (pss_one ps_never) pss_nil)), ?_⟩
    exact ⟨_, rfl, _, rfl, ite_f rfl k⟩
/-! ### is_shaped -/
theorem place_wd {p : Place} (h : PlaceOK p) : Wd p.1 := .inl h.fm
def spShaped : Sp := fun vs H Q _ => ∃ v p, vs = [v] ∧ PlaceR H v p ∧ PlaceOK p ∧ ∀ H', Same H H' → Q (.bl true) H'
theorem sc_is_shaped : FnScope ["thing"] ["thing"] (defScope s_is_shaped) := ⟨rfl, rfl, rfl, by decide +kernel, rfl, by decide +kernel, by decide +kernel⟩
theorem c_is_shaped (T : Txt K mg C) : Cal P w K mg base CX0 2 "is_shaped" ["thing"] spShaped := by
  have C_is_word : Cal P w K mg base CX0 1 "is_word" ["thing"] spIsWord := c_is_word T
  refine Cal.mk' T.d_is_shaped sc_is_shaped (fun vs H Q E h => ?_) (fun _ _ _ _ _ _ us hl => match us, hl with | [_], _ => rfl) (fun f cdv A outer s H vs Q E hr h => ?_)
  · obtain ⟨v, p, rfl, _⟩ := h
    rfl
  · obtain ⟨v, p, rfl, hp, hok, k⟩ := h
    have sc := sc_is_shaped
    refine ⟨_, (pss_cons (ps_if (PW.pt (pw_or (pt_not (pt_val (pe_isK K (T := "tuple") (by rfl) T.isinstance (by rfl) T.tuple (by decide +kernel) (by rfl) (pv 0)))) (pw_or (pt_cmpR op_ne (pe_callB len1 (by rfl) T.len PySem.boot_len (pa_cons (pv 0) pa_nil)) pe_int (nomark _)) (pw_or1 (pt_not (pt_val (pe_cal C_is_word hr (pa_cons (pe_ix ixT (pv 0) pe_int (fun _ _ => rfl)) pa_nil)))))))) (pss_one (ps_ret pe_bl)) pss_nil)
      (pss_one (ps_ret (pe_or (pe_cmpR op_isN (pe_ix ixT (pv 0) pe_int (fun _ _ => rfl)) pe_non (nomark _)) (pe_one (pe_and (pe_isK K (T := "tuple") (by rfl) T.isinstance (by rfl) T.tuple (by decide +kernel) (by rfl) (pe_ix ixT (pv 0) pe_int (fun _ _ => rfl))) (pe_one (pe_cmpR op_gt (pe_callB len1 (by rfl) T.len PySem.boot_len (pa_cons (pe_ix ixT (pv 0) pe_int (fun _ _ => rfl)) pa_nil)) pe_int (nomark _))))))))), ?_⟩
    obtain ⟨a, pw, rfl, ha, hsh⟩ := place_sh hp
    refine ⟨_, rfl, isi_of (.tup ha) (b := true) (by decide +kernel) ⟨_, rfl, ite_f rfl ?_⟩⟩
    refine ⟨_, rfl, a, _, rfl, .inr ha, rfl, _, rfl, ite_f (by show (!decide (V.int 2 = V.int 2)) = false; decide) ?_⟩
    refine ⟨_, rfl, a, _, _, _, rfl, rfl, ha, at0, p.1, rfl, place_wd hok, fun H1 s1 => ⟨_, rfl, ite_f rfl ?_⟩⟩
    have ha1 := s1 _ _ ha
    refine ⟨_, rfl, a, _, _, _, rfl, rfl, ha1, at1, rfl, _, rfl, ?_⟩
    obtain ⟨g, o⟩ := p
    cases o with
    | none =>
      obtain rfl : pw = .non := hsh
      exact ite_t rfl (k H1 s1)
    | some T' =>
      obtain ⟨b, rfl, hb⟩ := hsh
      have hb1 := s1 _ _ hb
      refine ite_f rfl ?_
      refine ⟨_, rfl, a, _, _, _, rfl, rfl, ha1, at1, isi_of (.tup hb1) (b := true) (by decide +kernel) ⟨_, rfl, ite_t rfl ?_⟩⟩
      refine ⟨_, rfl, a, _, _, _, rfl, rfl, ha1, at1, b, _, rfl, .inr hb1, _, _, rfl, rfl, ?_⟩
      have hne := (hok.ne T' rfl).1
      have e : decide ((0 : Int) < ((T'.map V.str).length : Int)) = true := decide_eq_true (by
        rw [List.length_map]
        have := List.length_pos_iff.mpr hne
        omega)
      show Q (.bl (decide ((0 : Int) < ((T'.map V.str).length : Int)))) H1
      rw [e]
      exact k H1 s1
/-! ### there -/
def spThere (C : Addr) : Sp := fun vs H Q _ => ∃ v rows f ov o, vs = [v, .str f, ov] ∧ HeapR C H v rows ∧ HeapOK rows ∧ OptSh H ov o ∧ (∀ T, o = some T → T.length ≤ 1000) ∧ ∀ H', Same H H' → Q (.int (hasAt SH (cnt rows) f o)) H'
theorem sc_there : FnScope ["heap", "form", "shades", "shade"] ["heap", "form", "shades"] (defScope s_there) := ⟨rfl, rfl, rfl, by decide +kernel, rfl, by decide +kernel, by decide +kernel⟩
theorem c_there (T : Txt K mg C) : Cal P w K mg base CX0 2 "there" ["heap", "form", "shades"] (spThere C) := by
  have M_many1 : Mal P w K mg base C 1 "many" ["self", "form", "shade"] (spMany C) [.non] := M_many1_ T
  have M_many2 : Mal P w K mg base C 1 "many" ["self", "form", "shade"] (spMany C) [] := M_many2_ T
  refine Cal.mk' T.d_there sc_there (fun vs H Q E h => ?_) (fun _ _ _ _ _ _ us hl => match us, hl with | [_, _, _], _ => rfl) (fun f cdv A outer s H vs Q E hr h => ?_)
  · obtain ⟨v, rows, g, ov, o, rfl, _⟩ := h
    rfl
  · obtain ⟨v, rows, g, ov, o, rfl, hv, hok, ho, hTl, k⟩ := h
    have sc := sc_there
    have hlen := hok.len
    refine ⟨_, (pss_one (ps_ret (pe_ifExp (pt_cmpR op_isN (pv 2) pe_non (nomark _)) (pe_mal T.cl M_many1 hr (pv 0) (pa_cons (pv 1) pa_nil)) (pe_callB (sum1 rfl) (by rfl) T.sum (by decide +kernel) (pa_cons (pe_lc (own := [("shade", 3)]) rfl sc.nd (piT K (pv 2)) (blkOk_by (N := ["heap", "form", "shades", "shade"]) (sc := defScope s_there) (own := [("shade", 3)]) (by decide +kernel)) (fun _ _ _ _ _ => (pg_name (i := 3) sc.nd rfl (.inl rfl))) (fun _ _ _ _ _ => pts_nil) (fun _ _ _ _ _ => (pe_mal T.cl M_many2 hr (pv 0) (pa_cons (pv 1) (pa_cons (pv 3) pa_nil))))) pa_nil))))), ?_⟩
    obtain ⟨ah, dx, p, rfl, hah, _⟩ := id hv
    refine ⟨_, rfl, rfl, _, rfl, ?_⟩
    cases o with
    | none =>
      obtain rfl : ov = .non := ho
      refine ite_t rfl ?_
      refine ⟨_, rfl, ah, dx, _, rfl, hah, rfl, _, rfl, _, rows, g, none, rfl, hv, by omega, fun H1 s1 => ?_⟩
      have := k H1 s1
      rw [manyOf_all rows g hok.1]
      exact this
    | some T' =>
      obtain ⟨b, rfl, hb⟩ := ho
      have hT := hTl T' rfl
      refine ite_f rfl ?_
      refine ⟨_, rfl, b, rfl, ⟨_, SqT.of hb⟩, fun D nD => ?_⟩
      refine lc_typed (walk_tup (K := K) (a := b) (xs := T'.map V.str)) nD IntR IntR.mo (fun i => (T'[i]?).map fun z => cnt rows g z) (by rw [List.length_map]; omega) (fun H3 s3 => SqT.of (s3 _ _ hb)) (fun i y H3 H4 hi s3 hY kt kf => ?_) (fun H3 acc s3 hD hacc => ?_)
      · obtain ⟨rfl, hy⟩ := hY
        rw [List.getElem?_map] at hy
        obtain ⟨z, hz, rfl⟩ := Option.map_eq_some_iff.mp hy
        refine ⟨rfl, yesT ?_⟩
        refine ⟨_, rfl, ah, dx, _, rfl, s3 _ _ hah, rfl, _, rfl, _, rfl, _, rows, g, some z, rfl, HeapR.mo _ _ _ _ (Keep.of s3) hv, by omega, fun H5 s5 => ?_⟩
        rw [manyOf_one]
        refine kt _ H5 (cnt rows g z) s5 ?_ rfl
        show (T'[i]?).map _ = _
        rw [hz]
        rfl
      · rw [List.length_map, filterMap_get] at hacc
        refine ⟨D, _, rfl, by rw [hD, all2_int hacc], ?_⟩
        have := k H3 s3
        show Q (.int (T'.map (cnt rows g)).sum) H3
        rw [← su_sum]
        exact this
end
end Pk
end
section
set_option Elab.async false
set_option linter.all false
set_option maxRecDepth 100000
set_option maxHeartbeats 8000000
namespace Pk
open PySem PySem.Spec PyProof.Rows L2 FL
section
variable {P : Program} {w : World} {K : PySem.W.Frag} {mg : Str → Option Value} {base : Heap} {C : Addr}
/-! ### wanted -/
def wScope : Scope := { kind := .function, names := [(".0", .local), ("want", .local), ("all", .globalImplicit), ("shades", .cell)], isGenerator := false, isCoroutine := false }
theorem sc_wanted : FnScope ["wants", "form", "shades", "some", "want", "shade"] ["wants", "form", "shades"] (defScope s_wanted) := ⟨rfl, rfl, rfl, by decide +kernel, rfl, by decide +kernel, by decide +kernel⟩
theorem c_wanted (T : Txt K mg C) : Cal P w K mg base CX0 1 "wanted" ["wants", "form", "shades"] spWantedAt := by
  refine Cal.mk' T.d_wanted sc_wanted (fun vs H Q E h => ?_) (fun _ _ _ _ _ _ us hl => match us, hl with | [_, _, _], _ => rfl) (fun f cdv A outer s H vs Q E hr h => ?_)
  · obtain ⟨u, ws, g, ov, o, rfl, _⟩ := h
    rfl
  · obtain ⟨u, ws, g, ov, o, rfl, ⟨wa, wxs, rfl, hwa, hwall⟩, wok, ho, hTl, k⟩ := h
    have sc := sc_wanted
    have hu := hu_of hr
    have hn6 := wok.len
    refine ⟨_, (pss_cons (ps_setLc (i := 3) (own := [("want", 4)]) rfl sc.nd rfl rfl (sw_true rfl rfl rfl (by decide +kernel)) (piT K (pv 0)) (blkOk_by (N := ["wants", "form", "shades", "some", "want", "shade"]) (sc := defScope s_wanted) (own := [("want", 4)]) (by decide +kernel)) (fun _ _ _ _ _ => (pg_name (i := 4) sc.nd rfl (.inl rfl))) (fun _ _ _ _ _ => (pts_one (pt_cmpR op_eq (pe_ix ixT (pv 4) pe_int (fun _ _ => rfl)) (pv 1) (nomark _)))) (fun _ _ _ _ _ => (pv 4)))
      (pss_cons (ps_if (pt_cmpR op_notN (pv 2) pe_non (nomark _)) (pss_one (ps_setLc (i := 3) (own := [("want", 4)]) rfl sc.nd rfl rfl (sw_true rfl rfl rfl (by decide +kernel)) (piL K (pv 3)) (blkOk_by (N := ["wants", "form", "shades", "some", "want", "shade"]) (sc := defScope s_wanted) (own := [("want", 4)]) (by decide +kernel)) (fun _ _ _ _ _ => (pg_name (i := 4) sc.nd rfl (.inl rfl))) (fun _ _ _ _ _ => (pts_one (PW.pt (pw_and (pt_cmpR (neEmpT hu) (pe_ix ixT (pv 4) pe_int (fun _ _ => rfl)) (pe_tup pa_nil) (nomark _)) (pw_and1 (pt_val (pe_callB (all1 rfl) (by rfl) T.all (by decide +kernel) (pa_cons (pe_lc (own := [("shade", 5)]) rfl sc.nd (piT K (pe_ix ixT (pv 4) pe_int (fun _ _ => rfl))) (blkOk_by (N := ["wants", "form", "shades", "some", "want", "shade"]) (sc := wScope) (own := [("shade", 5)]) (by decide +kernel)) (fun _ _ _ _ _ => (pg_name (i := 5) sc.nd rfl (.inl rfl))) (fun _ _ _ _ _ => pts_nil) (fun _ _ _ _ _ => (pe_cmpR inT (pv 5) (pv 2) (by rfl)))) pa_nil)))))))) (fun _ _ _ _ _ => (pv 4)))) pss_nil)
      (pss_one (ps_ret (pe_callB (sum1 rfl) (by rfl) T.sum (by decide +kernel) (pa_cons (pe_lc (own := [("want", 4)]) rfl sc.nd (piL K (pv 3)) (blkOk_by (N := ["wants", "form", "shades", "some", "want", "shade"]) (sc := defScope s_wanted) (own := [("want", 4)]) (by decide +kernel)) (fun _ _ _ _ _ => (pg_name (i := 4) sc.nd rfl (.inl rfl))) (fun _ _ _ _ _ => pts_nil) (fun _ _ _ _ _ => (pe_ix ixT (pv 4) pe_int (fun _ _ => rfl)))) pa_nil)))))), ?_⟩
    refine ⟨_, rfl, wa, rfl, ⟨_, SqT.of hwa⟩, fun D nD => ?_⟩
    refine lc_typed (walk_tup (K := K) (a := wa) (xs := wxs)) nD WantR WantR.mo (fun i => (ws[i]?).bind (wantF g)) (by rw [hwall.length]; omega) (fun H3 s3 => SqT.of (s3 _ _ hwa)) (fun i y H3 H4 hi s3 hY kt kf => ?_) (fun H1 acc s1 hD hacc => ?_)
    · obtain ⟨rfl, hy⟩ := hY
      obtain ⟨x, hx, hxr⟩ := hwall.get hy
      have hxr4 := WantR.mo _ _ _ _ (Keep.of s3) hxr
      obtain ⟨b, bb, rfl, hb, hbb⟩ := id hxr4
      refine ⟨rfl, ?_⟩
      refine ⟨_, rfl, b, _, _, _, rfl, rfl, hb, at0, _, rfl, rfl, _, rfl, ?_⟩
      by_cases hg : x.1 = g
      · refine ite_t (decide_eq_true (congrArg V.str hg)) ?_
        refine ⟨_, rfl, kt _ _ x (Same.refl _) ?_ hxr4⟩
        show (ws[i]?).bind _ = _
        rw [hx]
        exact if_pos hg
      · refine ite_f (decide_eq_false fun z => hg (V.str.inj z)) (kf _ (Same.refl _) ?_)
        show (ws[i]?).bind _ = _
        rw [hx]
        exact if_neg hg
    · rw [hwall.length, filterMap_range] at hacc
      -- the sum at the end
      have fin : ∀ (D2 : Addr) (acc2 : List V) (l : List (Want Str Str)) (H2 : Hp), Same H1 H2 → H2 D2 = some (.lst acc2) → All2 (WantR H2) acc2 l → l.length ≤ 6 → su (fun w => w.2.2) l = wantedAt ws g o →
          (tRet (tCB (fun vs H Q => ∃ (a : Addr) (ns : List Int), vs = [V.ref a] ∧ H a = some (.lst (ns.map V.int)) ∧ Q (.int ns.sum) H) (tCons (tLc (iList K (tVar 3)) (gName 4) tYes (tOp rIxT1 (tVar 4) (tC (V.int 2))) [4]) tNil))) { nx := fun _ H' => Q .non H', rt := Q } [some (.ref wa), some (.str g), some ov, some (.ref D2), none, none] H2 := by
        intro D2 acc2 l H2 s2 hD2 hacc2 hll hsum
        refine ⟨_, rfl, D2, rfl, ⟨_, SqL.of hD2⟩, fun D3 nD3 => ?_⟩
        refine lc_typed (walk_list (K := K) (a := D2) (xs := acc2)) nD3 IntR IntR.mo (fun i => (l[i]?).map fun w => w.2.2) (by rw [hacc2.length]; omega) (fun H3 s3 => SqL.of (s3 _ _ hD2)) (fun i y H3 H4 hi s3 hY kt kf => ?_) (fun H3 acc3 s3 hD3 hacc3 => ?_)
        · obtain ⟨rfl, hy⟩ := hY
          obtain ⟨x, hx, b, bb, rfl, hb, hbb⟩ := hacc2.get hy
          refine ⟨rfl, yesT ?_⟩
          refine ⟨_, rfl, b, _, _, _, rfl, rfl, s3 _ _ hb, at2, ?_⟩
          refine kt _ _ x.2.2 (Same.refl _) ?_ rfl
          show (l[i]?).map _ = _
          rw [hx]
          rfl
        · rw [hacc2.length, filterMap_get] at hacc3
          refine ⟨D3, _, rfl, by rw [hD3, all2_int hacc3], ?_⟩
          show Q (.int (l.map fun w => w.2.2).sum) H3
          rw [← su_sum, hsum]
          exact k H3 ((s1.trans s2).trans s3)
      have hl1 : (ws.filterMap (wantF g)).length ≤ 6 := Nat.le_trans (List.length_filterMap_le _ _) hn6
      refine ⟨_, rfl, rfl, _, rfl, ?_⟩
      cases o with
      | none =>
        obtain rfl : ov = .non := ho
        refine ite_f rfl ?_
        exact fin D acc _ H1 (Same.refl _) hD hacc hl1 (wanted_none ws g)
      | some T' =>
        obtain ⟨tb, rfl, htb⟩ := ho
        have hT := hTl T' rfl
        refine ite_t rfl ?_
        refine ⟨_, rfl, D, rfl, ⟨_, SqL.of hD⟩, fun D2 nD2 => ?_⟩
        refine lc_typed (walk_list (K := K) (a := D) (xs := acc)) nD2 WantR WantR.mo (fun i => ((ws.filterMap (wantF g))[i]?).bind (wantT T')) (by rw [hacc.length]; omega) (fun H3 s3 => SqL.of (s3 _ _ hD)) (fun i y H3 H4 hi s3 hY kt kf => ?_) (fun H2 acc2 s2 hD2 hacc2 => ?_)
        · obtain ⟨rfl, hy⟩ := hY
          obtain ⟨x, hx, hxr⟩ := hacc.get hy
          have hxr4 := WantR.mo _ _ _ _ (Keep.of s3) hxr
          obtain ⟨b, bb, rfl, hb, hbb⟩ := id hxr4
          have xok := wok.all x (wantF_sub (List.mem_of_getElem? hx))
          have xl := xok.len
          refine ⟨rfl, ?_⟩
          refine ⟨_, rfl, b, _, _, _, rfl, rfl, hb, at1, Nat.zero_le _, fun e ne => ?_⟩
          have s5 := same_new (o := .tup []) ne
          refine ⟨bb, e, _, rfl, rfl, s5 _ _ hbb, upd_same, _, rfl, ?_⟩
          by_cases hemp : x.2.1 = []
          · refine ite_f (by rw [hemp]; rfl) ?_
            refine ite_f rfl (kf _ s5 ?_)
            show ((ws.filterMap (wantF g))[i]?).bind _ = _
            rw [hx]
            exact if_neg fun z => z.1 hemp
          · refine ite_t (by cases q : x.2.1 with | nil => exact absurd q hemp | cons _ _ => rfl) ?_
            refine ⟨_, rfl, b, _, _, _, rfl, rfl, s5 _ _ hb, at1, bb, rfl, ⟨_, SqT.of (s5 _ _ hbb)⟩, fun D3 nD3 => ?_⟩
            refine lc_typed (walk_tup (K := K) (a := bb) (xs := x.2.1.map V.str)) nD3 BlR BlR.mo (fun i => (x.2.1[i]?).map fun z => decide (z ∈ T')) (by rw [List.length_map]; omega) (fun H6 s6 => SqT.of (s6 _ _ (s5 _ _ hbb))) (fun j y H6 H7 hj s6 hY kt2 kf2 => ?_) (fun H6 acc3 s6 hD3 hacc3 => ?_)
            · obtain ⟨rfl, hy⟩ := hY
              rw [List.getElem?_map] at hy
              obtain ⟨z, hz, rfl⟩ := Option.map_eq_some_iff.mp hy
              refine ⟨rfl, yesT ?_⟩
              refine ⟨_, rfl, _, rfl, tb, _, rfl, s6 _ _ (s5 _ _ (s3 _ _ (s1 _ _ htb))), rfl, strs_flat T', ?_⟩
              rw [inV_str]
              refine kt2 _ _ (decide (z ∈ T')) (Same.refl _) ?_ rfl
              show (x.2.1[j]?).map _ = _
              rw [hz]
              rfl
            · rw [List.length_map, filterMap_get] at hacc3
              refine ⟨D3, _, rfl, by rw [hD3, all2_bl hacc3], _, rfl, ?_⟩
              have hall : ((x.2.1.map fun z => decide (z ∈ T')).all id = true) ↔ ∀ s ∈ x.2.1, s ∈ T' := by simp
              by_cases q : ∀ s ∈ x.2.1, s ∈ T'
              · refine ite_t (hall.mpr q) ?_
                refine ⟨_, rfl, kt _ _ x (s5.trans s6) ?_ (WantR.mo _ _ _ _ (Keep.of (s5.trans s6)) hxr4)⟩
                show ((ws.filterMap (wantF g))[i]?).bind _ = _
                rw [hx]
                exact if_pos ⟨hemp, q⟩
              · refine ite_f (by
                  cases q2 : ((x.2.1.map fun z => decide (z ∈ T')).all id) with
                  | false => rfl
                  | true => exact absurd (hall.mp q2) q) (kf _ (s5.trans s6) ?_)
                show ((ws.filterMap (wantF g))[i]?).bind _ = _
                rw [hx]
                exact if_neg fun z => q z.2
        · rw [hacc.length, filterMap_range] at hacc2
          exact fin D2 acc2 _ H2 s2 hD2 hacc2 (Nat.le_trans (List.length_filterMap_le _ _) hl1) (wanted_someT ws g T')
end
end Pk
end
section
set_option Elab.async false
set_option linter.all false
set_option maxRecDepth 100000
set_option maxHeartbeats 8000000
namespace Pk
open PySem PySem.Spec PyProof.Rows L2 FL
section
variable {P : Program} {w : World} {K : PySem.W.Frag} {mg : Str → Option Value} {base : Heap} {C : Addr}
def spIsBar (C : Addr) : Sp := fun vs H Q _ => ∃ v rows u ws x p, vs = [v, u, x] ∧ HeapR C H v rows ∧ HeapOK rows ∧ WantsR H u ws ∧ WantsOK ws ∧ PlaceR H x p ∧ PlaceOK p ∧ IsBar SH (cnt rows) ws p.1 p.2 ∧ ∀ H', Same H H' → Q (.bl true) H'
theorem PlaceOK.wd {p : Place} (h : PlaceOK p) {T : List Str} (e : p.2 = some T) : ∀ s ∈ T, Wd s := fun s hs => .inr ((h.ne T e).2.2 s hs)
theorem sc_is_bar : FnScope ["heap", "wants", "thing"] ["heap", "wants", "thing"] (defScope s_is_bar) := ⟨rfl, rfl, rfl, by decide +kernel, rfl, by decide +kernel, by decide +kernel⟩
theorem c_is_bar (T : Txt K mg C) : Cal P w K mg base CX0 3 "is_bar" ["heap", "wants", "thing"] (spIsBar C) := by
  have C_is_shaped : Cal P w K mg base CX0 2 "is_shaped" ["thing"] spShaped := c_is_shaped T
  have C_is_rising : Cal P w K mg base CX0 2 "is_rising" ["some"] spIsRising := c_is_rising T
  have C_wanted : Cal P w K mg base CX0 1 "wanted" ["wants", "form", "shades"] spWantedAt := c_wanted T
  have C_there : Cal P w K mg base CX0 2 "there" ["heap", "form", "shades"] (spThere C) := c_there T
  refine Cal.mk' T.d_is_bar sc_is_bar (fun vs H Q E h => ?_) (fun _ _ _ _ _ _ us hl => match us, hl with | [_, _, _], _ => rfl) (fun f cdv A outer s H vs Q E hr h => ?_)
  · obtain ⟨v, rows, u, ws, x, p, rfl, _⟩ := h
    rfl
  · obtain ⟨v, rows, u, ws, x, p, rfl, hv, hok, hws, wok, hp, hpok, hbar, k⟩ := h
    have sc := sc_is_bar
    refine ⟨_, (pss_cons (ps_if (PW.pt (pw_or (pt_not (pt_val (pe_cal C_is_shaped hr (pa_cons (pv 2) pa_nil)))) (pw_or1 (PW.pt (pw_and (pt_cmpR op_notN (pe_ix ixT (pv 2) pe_int (fun _ _ => rfl)) pe_non (nomark _)) (pw_and1 (pt_not (pt_val (pe_cal C_is_rising hr (pa_cons (pe_ix ixT (pv 2) pe_int (fun _ _ => rfl)) pa_nil)))))))))) (pss_one (ps_ret pe_bl)) pss_nil)
      (pss_one (ps_ret (pe_cmpR op_gt (pe_cal C_wanted hr (pa_cons (pv 1) (pa_cons (pe_ix ixT (pv 2) pe_int (fun _ _ => rfl)) (pa_cons (pe_ix ixT (pv 2) pe_int (fun _ _ => rfl)) pa_nil)))) (pe_cal C_there hr (pa_cons (pv 0) (pa_cons (pe_ix ixT (pv 2) pe_int (fun _ _ => rfl)) (pa_cons (pe_ix ixT (pv 2) pe_int (fun _ _ => rfl)) pa_nil)))) (nomark _))))), ?_⟩
    obtain ⟨a, pw, rfl, ha, hsh⟩ := place_sh hp
    refine ⟨_, rfl, .ref a, p, rfl, hp, hpok, fun H1 s1 => ⟨_, rfl, ite_f rfl ?_⟩⟩
    have ha1 := s1 _ _ ha
    -- the comparison
    have fin : ∀ H2, Same H H2 → (tRet (tOp (rI0 fun i j => V.bl (decide (j < i))) (tCall spWantedAt [] E0 (tCons (tVar 1) (tCons (tOp rIxT1 (tVar 2) (tC (V.int 0))) (tCons (tOp rIxT1 (tVar 2) (tC (V.int 1))) tNil)))) (tCall (spThere C) [] E0 (tCons (tVar 0) (tCons (tOp rIxT1 (tVar 2) (tC (V.int 0))) (tCons (tOp rIxT1 (tVar 2) (tC (V.int 1))) tNil)))))) { nx := fun _ H' => Q .non H', rt := Q } [some v, some u, some (.ref a)] H2 := by
      intro H2 s2
      have ha2 := s2 _ _ ha
      refine ⟨_, rfl, _, rfl, a, _, _, _, rfl, rfl, ha2, at0, _, rfl, a, _, _, _, rfl, rfl, ha2, at1, u, ws, p.1, pw, p.2, rfl, WantsR.mo _ _ _ _ (Keep.of s2) hws, wok, OptSh.mo _ _ _ _ (Keep.of s2) hsh, hpok.len, fun H3 s3 => ?_⟩
      have s23 := s2.trans s3
      have ha3 := s23 _ _ ha
      refine ⟨_, rfl, _, rfl, a, _, _, _, rfl, rfl, ha3, at0, _, rfl, a, _, _, _, rfl, rfl, ha3, at1, v, rows, p.1, pw, p.2, rfl, HeapR.mo _ _ _ _ (Keep.of s23) hv, hok, OptSh.mo _ _ _ _ (Keep.of s23) hsh, hpok.len, fun H4 s4 => ?_⟩
      refine ⟨_, _, rfl, rfl, ?_⟩
      show Q (.bl (decide (hasAt SH (cnt rows) p.1 p.2 < wantedAt ws p.1 p.2))) H4
      rw [decide_eq_true (show hasAt SH (cnt rows) p.1 p.2 < wantedAt ws p.1 p.2 from hbar)]
      exact k H4 (s23.trans s4)
    refine ⟨_, rfl, a, _, _, _, rfl, rfl, ha1, at1, rfl, _, rfl, ?_⟩
    obtain ⟨g, o⟩ := p
    cases o with
    | none =>
      obtain rfl : pw = .non := hsh
      refine ite_f rfl ?_
      refine ite_f rfl ?_
      exact fin H1 s1
    | some T' =>
      obtain ⟨b, rfl, hb⟩ := id hsh
      refine ite_t rfl ?_
      refine ⟨_, rfl, a, _, _, _, rfl, rfl, ha1, at1, b, T', rfl, s1 _ _ hb, (hpok.ne T' rfl).2.1, hpok.wd rfl, hpok.len T' rfl, fun H2 s2 => ⟨_, rfl, ite_f rfl ?_⟩⟩
      exact fin H2 (s1.trans s2)
theorem sc_lets_bar : FnScope ["heap", "wants", "thing", "k", "shade"] ["heap", "wants", "thing"] (defScope s_lets_bar) := ⟨rfl, rfl, rfl, by decide +kernel, rfl, by decide +kernel, by decide +kernel⟩
theorem c_lets_bar (T : Txt K mg C) : Cal P w K mg base CX0 4 "lets_bar" ["heap", "wants", "thing"] (spIsBar C) := by
  have C_need : Cal P w K mg base CX0 1 "need" ["truth", "word", "at"] spNeed := c_need T
  have C_is_shaped : Cal P w K mg base CX0 2 "is_shaped" ["thing"] spShaped := c_is_shaped T
  have C_is_rising : Cal P w K mg base CX0 2 "is_rising" ["some"] spIsRising := c_is_rising T
  have C_is_bar : Cal P w K mg base CX0 3 "is_bar" ["heap", "wants", "thing"] (spIsBar C) := c_is_bar T
  refine Cal.mk' T.d_lets_bar sc_lets_bar (fun vs H Q E h => ?_) (fun _ _ _ _ _ _ us hl => match us, hl with | [_, _, _], _ => rfl) (fun f cdv A outer s H vs Q E hr h => ?_)
  · obtain ⟨v, rows, u, ws, x, p, rfl, _⟩ := h
    rfl
  · obtain ⟨v, rows, u, ws, x, p, rfl, hv, hok, hws, wok, hp, hpok, hbar, k⟩ := h
    have sc := sc_lets_bar
    refine ⟨_, (pss_cons (ps_expr (pe_cal C_need hr (pa_cons (pe_cal C_is_shaped hr (pa_cons (pv 2) pa_nil)) (pa_cons pe_str (pa_cons (pe_un un_neg pe_int) pa_nil)))))
      (pss_cons (ps_if (pt_cmpR op_notN (pe_ix ixT (pv 2) pe_int (fun _ _ => rfl)) pe_non (nomark _)) (pss_one (ps_for PassesOwn.never rfl (enumT K (by rfl) T.enumerate (pa_cons (pe_ix ixT (pv 2) pe_int (fun _ _ => rfl)) pa_nil)) (pgT K (n := 2) rfl (pgs_cons (pg_name (i := 3) sc.nd rfl (.inl rfl)) (pgs_cons (pg_name (i := 4) sc.nd rfl (.inl rfl)) pgs_nil))) (pss_one (ps_expr (pe_cal C_need hr (pa_cons (pe_cal C_is_rising hr (pa_cons (pe_slice slT (pe_ix ixT (pv 2) pe_int (fun _ _ => rfl)) (po_some (pe_callB (call_max2 rfl) (by rfl) T.max (by decide +kernel) (pa_cons pe_int (pa_cons (pe_op op_sub (pv 3) pe_int) pa_nil)))) (po_some (pe_op op_add (pv 3) pe_int))) pa_nil)) (pa_cons pe_str (pa_cons (pv 3) pa_nil)))))))) pss_nil)
      (pss_cons (ps_expr (pe_cal C_need hr (pa_cons (pe_cal C_is_bar hr (pa_cons (pv 0) (pa_cons (pv 1) (pa_cons (pv 2) pa_nil)))) (pa_cons pe_str (pa_cons (pe_un un_neg pe_int) pa_nil)))))
      (pss_one (ps_ret pe_bl))))), ?_⟩
    obtain ⟨a, pw, rfl, ha, hsh⟩ := place_sh hp
    refine ⟨_, rfl, .ref a, p, rfl, hp, hpok, fun H1 s1 => ?_⟩
    refine ⟨_, rfl, _, _, rfl, ?_⟩
    have ha1 := s1 _ _ ha
    refine ⟨_, rfl, a, _, _, _, rfl, rfl, ha1, at1, rfl, _, rfl, ?_⟩
    have fin : ∀ (v3 v4 : Option V) H2, Same H H2 → (tSeq (tDrop (tCall spNeed [] E0 (tCons (tCall (spIsBar C) [] E0 (tCons (tVar 0) (tCons (tVar 1) (tCons (tVar 2) tNil)))) (tCons (tC (V.str "more")) (tCons (tUn (rU fun i => V.int (-i)) (tC (V.int 1))) tNil))))) (tRet (tC (V.bl true)))) { nx := fun _ H' => Q .non H', rt := Q } [some v, some u, some (.ref a), v3, v4] H2 := by
      intro v3 v4 H2 s2
      refine ⟨_, rfl, _, rfl, _, rfl, v, rows, u, ws, .ref a, p, rfl, HeapR.mo _ _ _ _ (Keep.of s2) hv, hok, WantsR.mo _ _ _ _ (Keep.of s2) hws, wok, PlaceR.mo _ _ _ _ (Keep.of s2) hp, hpok, hbar, fun H3 s3 => ?_⟩
      exact ⟨_, rfl, _, _, rfl, k H3 (s2.trans s3)⟩
    obtain ⟨g, o⟩ := p
    cases o with
    | none =>
      obtain rfl : pw = .non := hsh
      exact ite_f rfl (fin _ _ H1 s1)
    | some T' =>
      obtain ⟨b, rfl, hb⟩ := id hsh
      have hb1 := s1 _ _ hb
      refine ite_t rfl ?_
      refine ⟨_, rfl, a, _, _, _, rfl, rfl, ha1, at1, b, _, rfl, SqT.of hb1, for_it (walk_enumT (K := K) (a := b) (xs := T'.map V.str)) (fun i σ H2 => ∃ v3 v4, σ = [some v, some u, some (.ref a), v3, v4] ∧ Same H1 H2)
        ⟨none, none, rfl, Same.refl _⟩ (fun i σ H2 _ ⟨_, _, _, s2⟩ => SqT.of (s2 _ _ hb1)) ?_ ?_⟩
      · rintro i x σ H2 H3 hi ⟨v3, v4, rfl, s2⟩ ⟨Tt, x1, x2, rfl, nT, rfl, hx1, hx2⟩
        cases Option.some.inj hx1
        have sT := same_new (o := .tup [.int (i : Nat), x2]) nT
        have s3 := s2.trans sT
        refine ⟨Tt, _, rfl, SqT.of upd_same, rfl, _, _, rfl, _, _, rfl, rfl, ?_⟩
        dsimp only [List.set]
        have hb3 := s3 _ _ hb1
        refine ⟨_, rfl, a, _, _, _, rfl, rfl, s3 _ _ ha1, at1, _, rfl, _, _, rfl, rfl, _, _, rfl, _, rfl, _, rfl, _, _, rfl, rfl, _, rfl, b, _, rfl, hb3, fun c H4 s4 hc => ?_⟩
        obtain ⟨m1, m2, hcut⟩ := cut_strs T' (some (if (i : Int) - 1 > 0 then (i : Int) - 1 else 0)) (some ((i : Int) + 1))
        rw [hcut] at hc
        have hsub : (T'.drop m1).take m2 |>.Sublist T' := (List.take_sublist _ _).trans (List.drop_sublist _ _)
        refine ⟨c, _, rfl, hc, (hpok.ne T' rfl).2.1.sublist hsub, fun z hz => hpok.wd rfl z (hsub.subset hz), Nat.le_trans hsub.length_le (hpok.len T' rfl), fun H5 s5 => ?_⟩
        exact ⟨_, rfl, _, _, rfl, _, _, rfl, s3.trans (s4.trans s5)⟩
      · rintro σ H2 ⟨v3, v4, rfl, s2⟩
        exact fin _ _ H2 (s1.trans s2)
end
end Pk
end
section
set_option Elab.async false
set_option linter.all false
set_option maxRecDepth 100000
set_option maxHeartbeats 8000000
namespace Pk
open PySem PySem.Spec PyProof.Rows L2 FL
section
variable {P : Program} {w : World} {K : PySem.W.Frag} {mg : Str → Option Value} {base : Heap} {C : Addr}
def spIsNumber : Sp := fun vs H Q _ => ∃ n, vs = [.int n] ∧ Q (.bl true) H
theorem sc_is_number : FnScope ["thing"] ["thing"] (defScope s_is_number) := ⟨rfl, rfl, rfl, by decide +kernel, rfl, by decide +kernel, by decide +kernel⟩
theorem c_is_number (T : Txt K mg C) : Cal P w K mg base CX0 1 "is_number" ["thing"] spIsNumber := by
  refine Cal.mk' T.d_is_number sc_is_number (fun vs H Q E h => ?_) (fun _ _ _ _ _ _ us hl => match us, hl with | [_], _ => rfl) (fun f cdv A outer s H vs Q E hr h => ?_)
  · obtain ⟨n, rfl, _⟩ := h
    rfl
  · obtain ⟨n, rfl, k⟩ := h
    have sc := sc_is_number
    refine ⟨_, (pss_one (ps_ret (pe_and (pe_isK K (T := "int") (by rfl) T.isinstance (by rfl) T.int (by decide +kernel) (by rfl) (pv 0)) (pe_one (pe_not (pe_isK K (T := "bool") (by rfl) T.isinstance (by rfl) T.bool (by decide +kernel) (by rfl) (pv 0))))))), ?_⟩
    refine ⟨_, rfl, isi_of (.int n) (b := true) (by decide +kernel) ⟨_, rfl, ite_t rfl ?_⟩⟩
    exact ⟨_, rfl, isi_of (.int n) (b := false) (by decide +kernel) ⟨_, rfl, k⟩⟩
/-! ### is_gift -/
structure GiftC (g : List (Str × Int)) : Prop where
  rise : Rise (g.map (·.1))
  ok : ∀ e ∈ g, Wd e.1 ∧ 1 ≤ e.2
  len : g.length ≤ 1000
def spIsGift : Sp := fun vs H Q _ => ∃ gv g, vs = [.int (su (fun e : Str × Int => e.2) g), gv] ∧ GiftR H gv g ∧ GiftC g ∧ ∀ H', Same H H' → Q (.bl true) H'
theorem alltrue {α : Type} (l : List α) : ((l.map fun _ => true).all id) = true := by simp
theorem sc_is_gift : FnScope ["many", "thing", "one", "other"] ["many", "thing"] (defScope s_is_gift) := ⟨rfl, rfl, rfl, by decide +kernel, rfl, by decide +kernel, by decide +kernel⟩
theorem c_is_gift (T : Txt K mg C) : Cal P w K mg base CX0 2 "is_gift" ["many", "thing"] spIsGift := by
  have C_is_word : Cal P w K mg base CX0 1 "is_word" ["thing"] spIsWord := c_is_word T
  have C_is_number : Cal P w K mg base CX0 1 "is_number" ["thing"] spIsNumber := c_is_number T
  refine Cal.mk' T.d_is_gift sc_is_gift (fun vs H Q E h => ?_) (fun _ _ _ _ _ _ us hl => match us, hl with | [_, _], _ => rfl) (fun f cdv A outer s H vs Q E hr h => ?_)
  · obtain ⟨gv, g, rfl, _⟩ := h
    rfl
  · obtain ⟨gv, g, rfl, ⟨ga, gxs, rfl, hga, hgall⟩, hc, k⟩ := h
    have sc := sc_is_gift
    have hlen := hc.len
    refine ⟨_, (pss_cons (ps_if (PW.pt (pw_or (pt_not (pt_val (pe_isK K (T := "tuple") (by rfl) T.isinstance (by rfl) T.tuple (by decide +kernel) (by rfl) (pv 1)))) (pw_or1 (pt_not (pt_val (pe_callB (all1 rfl) (by rfl) T.all (by decide +kernel) (pa_cons (pe_lc (own := [("one", 2)]) rfl sc.nd (piT K (pv 1)) (blkOk_by (N := ["many", "thing", "one", "other"]) (sc := defScope s_is_gift) (own := [("one", 2)]) (by decide +kernel)) (fun _ _ _ _ _ => (pg_name (i := 2) sc.nd rfl (.inl rfl))) (fun _ _ _ _ _ => pts_nil) (fun _ _ _ _ _ => (pe_and (pe_isK K (T := "tuple") (by rfl) T.isinstance (by rfl) T.tuple (by decide +kernel) (by rfl) (pv 2)) (pe_one (pe_cmpR op_eq (pe_callB len1 (by rfl) T.len PySem.boot_len (pa_cons (pv 2) pa_nil)) pe_int (nomark _)))))) pa_nil))))))) (pss_one (ps_ret pe_bl)) pss_nil)
      (pss_cons (ps_if (pt_not (pt_val (pe_callB (all1 rfl) (by rfl) T.all (by decide +kernel) (pa_cons (pe_lc (own := [("one", 2)]) rfl sc.nd (piT K (pv 1)) (blkOk_by (N := ["many", "thing", "one", "other"]) (sc := defScope s_is_gift) (own := [("one", 2)]) (by decide +kernel)) (fun _ _ _ _ _ => (pg_name (i := 2) sc.nd rfl (.inl rfl))) (fun _ _ _ _ _ => pts_nil) (fun _ _ _ _ _ => (pe_and (pe_cal C_is_word hr (pa_cons (pe_ix ixT (pv 2) pe_int (fun _ _ => rfl)) pa_nil)) (pe_and (pe_cal C_is_number hr (pa_cons (pe_ix ixT (pv 2) pe_int (fun _ _ => rfl)) pa_nil)) (pe_one (pe_cmpR op_gt (pe_ix ixT (pv 2) pe_int (fun _ _ => rfl)) pe_int (nomark _))))))) pa_nil)))) (pss_one (ps_ret pe_bl)) pss_nil)
      (pss_cons (ps_if (pt_not (pt_val (pe_callB (all1 rfl) (by rfl) T.all (by decide +kernel) (pa_cons (pe_lc (own := [("one", 2), ("other", 3)]) rfl sc.nd (zipK K (by rfl) T.zip (pa_cons (pv 1) (pa_cons (pe_slice slT (pv 1) (po_some pe_int) po_none) pa_nil))) (blkOk_by (N := ["many", "thing", "one", "other"]) (sc := defScope s_is_gift) (own := [("one", 2), ("other", 3)]) (by decide +kernel)) (fun _ _ _ _ _ => (pgT K (n := 2) rfl (pgs_cons (pg_name (i := 2) sc.nd rfl (.inl rfl)) (pgs_cons (pg_name (i := 3) sc.nd rfl (.inl rfl)) pgs_nil)))) (fun _ _ _ _ _ => pts_nil) (fun _ _ _ _ _ => (pe_cmpR op_lt_str (pe_ix ixT (pv 2) pe_int (fun _ _ => rfl)) (pe_ix ixT (pv 3) pe_int (fun _ _ => rfl)) (nomark _)))) pa_nil)))) (pss_one (ps_ret pe_bl)) pss_nil)
      (pss_one (ps_ret (pe_cmpR op_eq (pe_callB (sum1 rfl) (by rfl) T.sum (by decide +kernel) (pa_cons (pe_lc (own := [("one", 2)]) rfl sc.nd (piT K (pv 1)) (blkOk_by (N := ["many", "thing", "one", "other"]) (sc := defScope s_is_gift) (own := [("one", 2)]) (by decide +kernel)) (fun _ _ _ _ _ => (pg_name (i := 2) sc.nd rfl (.inl rfl))) (fun _ _ _ _ _ => pts_nil) (fun _ _ _ _ _ => (pe_ix ixT (pv 2) pe_int (fun _ _ => rfl)))) pa_nil)) (pv 0) (nomark _))))))), ?_⟩
    refine ⟨_, rfl, isi_of (.tup hga) (b := true) (by decide +kernel) ⟨_, rfl, ite_f rfl ?_⟩⟩
    refine ⟨_, rfl, ga, rfl, ⟨_, SqT.of hga⟩, fun D nD => ?_⟩
    refine lc_typed (walk_tup (K := K) (a := ga) (xs := gxs)) nD BlR BlR.mo (fun i => (g[i]?).map fun _ => true) (by rw [hgall.length]; omega) (fun H3 s3 => SqT.of (s3 _ _ hga)) (fun i y H3 H4 hi s3 hY kt kf => ?_) (fun H1 acc s1 hD hacc => ?_)
    · obtain ⟨rfl, hy⟩ := hY
      obtain ⟨x, hx, b, rfl, hb⟩ := hgall.get hy
      have hb4 := s3 _ _ hb
      refine ⟨rfl, yesT ?_⟩
      refine ⟨_, rfl, isi_of (.tup hb4) (b := true) (by decide +kernel) ⟨_, rfl, ite_t rfl ?_⟩⟩
      refine ⟨_, rfl, b, _, rfl, .inr hb4, rfl, ?_⟩
      refine kt _ _ true (Same.refl _) ?_ (by show V.bl (decide (V.int 2 = V.int 2)) = .bl true; decide)
      show (g[i]?).map _ = _
      rw [hx]; rfl
    · rw [hgall.length, filterMap_get] at hacc
      refine ⟨D, _, rfl, by rw [hD, all2_bl hacc], _, rfl, ite_f (by rw [alltrue]; rfl) ?_⟩
      have hga1 := s1 _ _ hga
      refine ⟨_, rfl, ga, rfl, ⟨_, SqT.of hga1⟩, fun D2 nD2 => ?_⟩
      refine lc_typed (walk_tup (K := K) (a := ga) (xs := gxs)) nD2 BlR BlR.mo (fun i => (g[i]?).map fun _ => true) (by rw [hgall.length]; omega) (fun H3 s3 => SqT.of (s3 _ _ hga1)) (fun i y H3 H4 hi s3 hY kt kf => ?_) (fun H2 acc2 s2 hD2 hacc2 => ?_)
      · obtain ⟨rfl, hy⟩ := hY
        obtain ⟨x, hx, b, rfl, hb⟩ := hgall.get hy
        have hb4 := s3 _ _ (s1 _ _ hb)
        obtain ⟨hwd, hpos⟩ := hc.ok x (List.mem_of_getElem? hx)
        refine ⟨rfl, yesT ?_⟩
        refine ⟨_, rfl, b, _, _, _, rfl, rfl, hb4, at0, x.1, rfl, hwd, fun H5 s5 => ⟨_, rfl, ite_t rfl ?_⟩⟩
        have hb5 := s5 _ _ hb4
        refine ⟨_, rfl, b, _, _, _, rfl, rfl, hb5, at1, x.2, rfl, _, rfl, ite_t rfl ?_⟩
        refine ⟨_, rfl, b, _, _, _, rfl, rfl, hb5, at1, _, _, rfl, rfl, ?_⟩
        refine kt _ _ true s5 ?_ (by show V.bl (decide (0 < x.2)) = .bl true; rw [decide_eq_true (by omega)])
        show (g[i]?).map _ = _
        rw [hx]; rfl
      · rw [hgall.length, filterMap_get] at hacc2
        refine ⟨D2, _, rfl, by rw [hD2, all2_bl hacc2], _, rfl, ite_f (by rw [alltrue]; rfl) ?_⟩
        have hga2 := s2 _ _ hga1
        refine ⟨_, rfl, _, rfl, 1, rfl, ga, _, rfl, hga2, fun c H3 s3 hcc => ?_⟩
        rw [cut_from1] at hcc
        have hga3 := s3 _ _ hga2
        refine ⟨ga, c, _, _, rfl, .inr ⟨SqT.of hga3, SqT.of hcc, fun D3 nD3 => ?_⟩⟩
        refine lc_typed (walk_zipT (n := (g.drop 1).length) (by rw [List.length_drop, List.length_drop, hgall.length]; omega)) nD3 BlR BlR.mo (fun i => ((g.drop 1)[i]?).map fun _ => true) (by rw [List.length_drop]; omega) (fun H4 s4 => ⟨SqT.of (s4 _ _ hga3), SqT.of (s4 _ _ hcc)⟩) (fun i y H4 H5 hi s4 hY kt kf => ?_) (fun H4 acc3 s4 hD3 hacc3 => ?_)
        · obtain ⟨Tt, x1, x2, rfl, nT, rfl, hx1, hx2⟩ := hY
          have hx2' : (gxs.drop 1)[i]? = some x2 := hx2
          rw [List.getElem?_drop] at hx2'
          obtain ⟨z1, hz1, b1, rfl, hb1⟩ := hgall.get hx1
          obtain ⟨z2, hz2, b2, rfl, hb2⟩ := hgall.get hx2'
          have hlt : StrLt z1.1 z2.1 := by
            have h1 : (g.map (·.1))[i]? = some z1.1 := by rw [List.getElem?_map, hz1]; rfl
            have h2 : (g.map (·.1))[1 + i]? = some z2.1 := by rw [List.getElem?_map, hz2]; rfl
            obtain ⟨l1, e1⟩ := List.getElem?_eq_some_iff.mp h1
            obtain ⟨l2, e2⟩ := List.getElem?_eq_some_iff.mp h2
            rw [← e1, ← e2]
            exact List.pairwise_iff_getElem.mp hc.rise i (1 + i) l1 l2 (by omega)
          have sT := same_new (o := .tup [.ref b1, .ref b2]) nT
          have sx := (s1.trans (s2.trans s3)).trans (s4.trans sT)
          refine ⟨Tt, _, rfl, SqT.of upd_same, rfl, _, _, rfl, _, _, rfl, rfl, rfl, yesT ?_⟩
          refine ⟨_, rfl, b1, _, _, _, rfl, rfl, sx _ _ hb1, at0, _, rfl, b2, _, _, _, rfl, rfl, sx _ _ hb2, at0, _, _, rfl, rfl, ?_⟩
          rw [show decide (z1.1.cps.toList < z2.1.cps.toList) = true from decide_eq_true hlt]
          refine kt _ _ true sT ?_ rfl
          show ((g.drop 1)[i]?).map _ = _
          rw [List.getElem?_drop, hz2]
          rfl
        · rw [filterMap_get] at hacc3
          refine ⟨D3, _, rfl, by rw [hD3, all2_bl hacc3], _, rfl, ite_f (by rw [alltrue]; rfl) ?_⟩
          have hga4 := s4 _ _ hga3
          refine ⟨_, rfl, ga, rfl, ⟨_, SqT.of hga4⟩, fun D4 nD4 => ?_⟩
          have s1234 := (s1.trans (s2.trans s3)).trans s4
          refine lc_typed (walk_tup (K := K) (a := ga) (xs := gxs)) nD4 IntR IntR.mo (fun i => (g[i]?).map fun e => e.2) (by rw [hgall.length]; omega) (fun H5 s5 => SqT.of (s5 _ _ hga4)) (fun i y H5 H6 hi s5 hY kt kf => ?_) (fun H5 acc4 s5 hD4 hacc4 => ?_)
          · obtain ⟨rfl, hy⟩ := hY
            obtain ⟨x, hx, b, rfl, hb⟩ := hgall.get hy
            refine ⟨rfl, yesT ?_⟩
            refine ⟨_, rfl, b, _, _, _, rfl, rfl, s5 _ _ (s1234 _ _ hb), at1, ?_⟩
            refine kt _ _ x.2 (Same.refl _) ?_ rfl
            show (g[i]?).map _ = _
            rw [hx]; rfl
          · rw [hgall.length, filterMap_get] at hacc4
            refine ⟨D4, _, rfl, by rw [hD4, all2_int hacc4], _, rfl, rfl, ?_⟩
            show Q (.bl (decide (V.int (g.map fun e => e.2).sum = V.int (su (fun e : Str × Int => e.2) g)))) H5
            rw [su_sum, decide_eq_true rfl]
            exact k H5 (s1234.trans s5)
/-! ### is_right -/
def spIsRight : Sp := fun vs H Q _ => ∃ wv x gv g, vs = [wv, gv] ∧ WantR H wv x ∧ WantOK x ∧ GiftR H gv g ∧ g.length ≤ 1000 ∧ (∀ e ∈ g, FL.lets x e.1) ∧ ∀ H', Same H H' → Q (.bl true) H'
theorem sc_is_right : FnScope ["want", "gift", "shade", "many"] ["want", "gift"] (defScope s_is_right) := ⟨rfl, rfl, rfl, by decide +kernel, rfl, by decide +kernel, by decide +kernel⟩
theorem c_is_right (T : Txt K mg C) : Cal P w K mg base CX0 1 "is_right" ["want", "gift"] spIsRight := by
  refine Cal.mk' T.d_is_right sc_is_right (fun vs H Q E h => ?_) (fun _ _ _ _ _ _ us hl => match us, hl with | [_, _], _ => rfl) (fun f cdv A outer s H vs Q E hr h => ?_)
  · obtain ⟨wv, x, gv, g, rfl, _⟩ := h
    rfl
  · obtain ⟨wv, x, gv, g, rfl, ⟨b, bb, rfl, hb, hbb⟩, xok, ⟨ga, gxs, rfl, hga, hgall⟩, hlen, hlets, k⟩ := h
    have sc := sc_is_right
    have hu := hu_of hr
    have xl := xok.len
    refine ⟨_, (pss_one (ps_ret (pe_or (pe_cmpR (eqEmpT hu) (pe_ix ixT (pv 0) pe_int (fun _ _ => rfl)) (pe_tup pa_nil) (nomark _)) (pe_one (pe_callB (all1 rfl) (by rfl) T.all (by decide +kernel) (pa_cons (pe_lc (own := [("shade", 2), ("many", 3)]) rfl sc.nd (piT K (pv 1)) (blkOk_by (N := ["want", "gift", "shade", "many"]) (sc := defScope s_is_right) (own := [("shade", 2), ("many", 3)]) (by decide +kernel)) (fun _ _ _ _ _ => (pgT K (n := 2) rfl (pgs_cons (pg_name (i := 2) sc.nd rfl (.inl rfl)) (pgs_cons (pg_name (i := 3) sc.nd rfl (.inl rfl)) pgs_nil)))) (fun _ _ _ _ _ => pts_nil) (fun _ _ _ _ _ => (pe_cmpR inT (pv 2) (pe_ix ixT (pv 0) pe_int (fun _ _ => rfl)) (by rfl)))) pa_nil)))))), ?_⟩
    refine ⟨_, rfl, b, _, _, _, rfl, rfl, hb, at1, Nat.zero_le _, fun e ne => ?_⟩
    have s1 : Same H (upd H e (.tup [])) := same_new ne
    refine ⟨bb, e, _, rfl, rfl, s1 _ _ hbb, upd_same, _, rfl, ?_⟩
    by_cases hemp : x.2.1 = []
    · exact ite_t (by rw [hemp]; rfl) (k _ s1)
    · refine ite_f (by cases q : x.2.1 with | nil => exact absurd q hemp | cons _ _ => rfl) ?_
      have hga1 := s1 _ _ hga
      refine ⟨_, rfl, ga, rfl, ⟨_, SqT.of hga1⟩, fun D nD => ?_⟩
      refine lc_typed (walk_tup (K := K) (a := ga) (xs := gxs)) nD BlR BlR.mo (fun i => (g[i]?).map fun _ => true) (by rw [hgall.length]; omega) (fun H3 s3 => SqT.of (s3 _ _ hga1)) (fun i y H3 H4 hi s3 hY kt kf => ?_) (fun H2 acc s2 hD hacc => ?_)
      · obtain ⟨rfl, hy⟩ := hY
        obtain ⟨z, hz, c, rfl, hcc⟩ := hgall.get hy
        have sx := s1.trans s3
        refine ⟨c, _, rfl, SqT.of (sx _ _ hcc), rfl, _, _, rfl, _, _, rfl, rfl, rfl, yesT ?_⟩
        have hin : z.1 ∈ x.2.1 := (hlets z (List.mem_of_getElem? hz)).resolve_left hemp
        refine ⟨_, rfl, _, rfl, b, _, _, _, rfl, rfl, sx _ _ hb, at1, bb, _, rfl, sx _ _ hbb, rfl, strs_flat _, ?_⟩
        rw [inV_str]
        refine kt _ _ true (Same.refl _) ?_ (by show V.bl (decide (z.1 ∈ x.2.1)) = .bl true; rw [decide_eq_true hin])
        show (g[i]?).map _ = _
        rw [hz]; rfl
      · rw [hgall.length, filterMap_get] at hacc
        refine ⟨D, _, rfl, by rw [hD, all2_bl hacc], ?_⟩
        rw [alltrue]
        exact k H2 (s1.trans s2)
end
end Pk
end
section
set_option Elab.async false
set_option linter.all false
set_option maxRecDepth 100000
set_option maxHeartbeats 8000000
namespace Pk
open PySem PySem.Spec PyProof.Rows L2 FL
structure DealC (ws : List (Want Str Str)) (gs : List (List (Str × Int))) : Prop where
  all : All2 (GiftOK SH) ws gs
  rise : ∀ g ∈ gs, Rise (g.map (·.1))
  wok : WantsOK ws
theorem DealC.at {ws : List (Want Str Str)} {gs : List (List (Str × Int))} (h : DealC ws gs) {i : Nat} {x : Want Str Str} {g : List (Str × Int)} (hx : ws[i]? = some x) (hg : gs[i]? = some g) : GiftOK SH x g ∧ GiftC g ∧ WantOK x ∧ g.length ≤ 5 := by
  obtain ⟨g', hg', ok⟩ := h.all.get hx
  have : g' = g := Option.some.inj (hg'.symm.trans hg)
  subst this
  have hr := h.rise g' (List.mem_of_getElem? hg)
  have h5 : g'.length ≤ 5 := by
    have := nd_le (rise_nodup hr) (m := SH) fun s hs => by
      obtain ⟨e, he, rfl⟩ := List.mem_map.mp hs
      exact ok.uni e he
    rw [List.length_map] at this
    exact this
  exact ⟨ok, ⟨hr, fun e he => ⟨.inr (ok.uni e he), ok.pos e he⟩, by omega⟩, h.wok.all x (List.mem_of_getElem? hx), h5⟩
def rowsG (p : Want Str Str × List (Str × Int)) : List Row := p.2.map fun e => (p.1.1, e.1, e.2)
theorem cnt_rowsG (w : Want Str Str) (g : List (Str × Int)) (f s : Str) : cnt (rowsG (w, g)) f s = if w.1 = f then gat g s else 0 := by
  unfold rowsG
  induction g with
  | nil => simp [cnt, gat, su]
  | cons e r ih =>
    show (if w.1 = f ∧ e.1 = s then e.2 else 0) + cnt (r.map fun e => (w.1, e.1, e.2)) f s = _
    have ih' : cnt (r.map fun e => (w.1, e.1, e.2)) f s = if w.1 = f then gat r s else 0 := ih
    rw [ih']
    by_cases h : w.1 = f
    · rw [if_pos h, if_pos h]
      show _ = (if e.1 = s then e.2 else 0) + gat r s
      by_cases h2 : e.1 = s
      · rw [if_pos ⟨h, h2⟩, if_pos h2]
      · rw [if_neg (fun z => h2 z.2), if_neg h2]
    · rw [if_neg h, if_neg h, if_neg (fun z => h z.1)]
      rfl
theorem cnt_flat : ∀ (ws : List (Want Str Str)) (gs : List (List (Str × Int))) (f s : Str), cnt ((ws.zip gs).flatMap rowsG) f s = gsum ws gs f s
  | [], _, _, _ => rfl
  | _ :: _, [], _, _ => rfl
  | w :: ws, g :: gs, f, s => by
    show cnt (rowsG (w, g) ++ (ws.zip gs).flatMap rowsG) f s = (if w.1 = f then gat g s else 0) + gsum ws gs f s
    rw [cnt_append, cnt_rowsG, cnt_flat ws gs f s]
theorem cnt_self : ∀ {rows : List Row}, (rows.map fun r => (r.1, r.2.1)).Nodup → ∀ r ∈ rows, cnt rows r.1 r.2.1 = r.2.2
  | [], _, r, h => by simp at h
  | a :: l, nd, r, h => by
    rw [List.map_cons, List.nodup_cons] at nd
    show (if a.1 = r.1 ∧ a.2.1 = r.2.1 then a.2.2 else 0) + cnt l r.1 r.2.1 = r.2.2
    rcases List.mem_cons.mp h with z | z
    · subst z
      rw [if_pos ⟨rfl, rfl⟩]
      have : cnt l r.1 r.2.1 = 0 := by
        have key : ∀ l : List Row, (r.1, r.2.1) ∉ l.map (fun r => (r.1, r.2.1)) → cnt l r.1 r.2.1 = 0 := by
          intro l
          induction l with
          | nil => intro _; rfl
          | cons b l ih =>
            intro hn
            rw [List.map_cons, List.mem_cons, not_or] at hn
            show (if b.1 = r.1 ∧ b.2.1 = r.2.1 then b.2.2 else 0) + cnt l r.1 r.2.1 = 0
            rw [ih hn.2, if_neg fun q => hn.1 (by rw [← q.1, ← q.2])]
            rfl
        exact key l nd.1
      rw [this]; omega
    · have hne : ¬ (a.1 = r.1 ∧ a.2.1 = r.2.1) := fun q => nd.1 (by
        rw [show (a.1, a.2.1) = (r.1, r.2.1) by rw [q.1, q.2]]
        exact List.mem_map.mpr ⟨r, z, rfl⟩)
      rw [if_neg hne, cnt_self nd.2 r z]
      omega
section
variable {P : Program} {w : World} {K : PySem.W.Frag} {mg : Str → Option Value} {base : Heap} {C : Addr}
def spAreGifts : Sp := fun vs H Q _ => ∃ u ws gv gs, vs = [u, gv] ∧ WantsR H u ws ∧ GivenR H gv gs ∧ DealC ws gs ∧ ∀ H', Same H H' → Q (.bl true) H'
theorem zlen {α β γ δ : Type} {R : α → β → Prop} {S : γ → δ → Prop} {a : List α} {b : List β} {c : List γ} {d : List δ} (h1 : All2 R a b) (h2 : All2 S c d) (e : b.length = d.length) : b.length = min a.length c.length := by
  rw [h1.length, h2.length]; omega
theorem sc_are_gifts : FnScope ["wants", "thing", "want", "one"] ["wants", "thing"] (defScope s_are_gifts) := ⟨rfl, rfl, rfl, by decide +kernel, rfl, by decide +kernel, by decide +kernel⟩
theorem c_are_gifts (T : Txt K mg C) : Cal P w K mg base CX0 3 "are_gifts" ["wants", "thing"] spAreGifts := by
  have C_is_gift : Cal P w K mg base CX0 2 "is_gift" ["many", "thing"] spIsGift := c_is_gift T
  refine Cal.mk' T.d_are_gifts sc_are_gifts (fun vs H Q E h => ?_) (fun _ _ _ _ _ _ us hl => match us, hl with | [_, _], _ => rfl) (fun f cdv A outer s H vs Q E hr h => ?_)
  · obtain ⟨u, ws, gv, gs, rfl, _⟩ := h
    rfl
  · obtain ⟨u, ws, gv, gs, rfl, ⟨wa, wxs, rfl, hwa, hwall⟩, ⟨ga, gxs, rfl, hga, hgall⟩, hd, k⟩ := h
    have sc := sc_are_gifts
    have hl := hd.all.length
    have hn6 := hd.wok.len
    refine ⟨_, (pss_cons (ps_if (PW.pt (pw_or (pt_not (pt_val (pe_isK K (T := "tuple") (by rfl) T.isinstance (by rfl) T.tuple (by decide +kernel) (by rfl) (pv 1)))) (pw_or1 (pt_cmpR op_ne (pe_callB len1 (by rfl) T.len PySem.boot_len (pa_cons (pv 1) pa_nil)) (pe_callB len1 (by rfl) T.len PySem.boot_len (pa_cons (pv 0) pa_nil)) (nomark _))))) (pss_one (ps_ret pe_bl)) pss_nil)
      (pss_one (ps_ret (pe_callB (all1 rfl) (by rfl) T.all (by decide +kernel) (pa_cons (pe_lc (own := [("want", 2), ("one", 3)]) rfl sc.nd (zipK K (by rfl) T.zip (pa_cons (pv 0) (pa_cons (pv 1) pa_nil))) (blkOk_by (N := ["wants", "thing", "want", "one"]) (sc := defScope s_are_gifts) (own := [("want", 2), ("one", 3)]) (by decide +kernel)) (fun _ _ _ _ _ => (pgT K (n := 2) rfl (pgs_cons (pg_name (i := 2) sc.nd rfl (.inl rfl)) (pgs_cons (pg_name (i := 3) sc.nd rfl (.inl rfl)) pgs_nil)))) (fun _ _ _ _ _ => pts_nil) (fun _ _ _ _ _ => (pe_cal C_is_gift hr (pa_cons (pe_ix ixT (pv 2) pe_int (fun _ _ => rfl)) (pa_cons (pv 3) pa_nil))))) pa_nil))))), ?_⟩
    refine ⟨_, rfl, isi_of (.tup hga) (b := true) (by decide +kernel) ⟨_, rfl, ite_f rfl ?_⟩⟩
    refine ⟨_, rfl, ga, _, rfl, .inr hga, _, rfl, wa, _, rfl, .inr hwa, rfl, _, rfl, ite_f (by
      rw [hgall.length, hwall.length, hl, decide_eq_true rfl]
      rfl) ?_⟩
    refine ⟨_, rfl, _, rfl, wa, ga, _, _, rfl, .inr ⟨SqT.of hwa, SqT.of hga, fun D nD => ?_⟩⟩
    refine lc_typed (walk_zipT (zlen hwall hgall hl)) nD BlR BlR.mo (fun i => (ws[i]?).map fun _ => true) (by omega) (fun H3 s3 => ⟨SqT.of (s3 _ _ hwa), SqT.of (s3 _ _ hga)⟩) (fun i y H3 H4 hi s3 hY kt kf => ?_) (fun H1 acc s1 hD hacc => ?_)
    · obtain ⟨Tt, x1, x2, rfl, nT, rfl, hx1, hx2⟩ := hY
      obtain ⟨x, hx, b, bb, rfl, hb, hbb⟩ := hwall.get hx1
      obtain ⟨g, hg, hgr⟩ := hgall.get hx2
      obtain ⟨ok, gc, xok, g5⟩ := hd.at hx hg
      have sT := same_new (o := .tup [.ref b, x2]) nT
      have sx := s3.trans sT
      refine ⟨Tt, _, rfl, SqT.of upd_same, rfl, _, _, rfl, _, _, rfl, rfl, rfl, yesT ?_⟩
      refine ⟨_, rfl, b, _, _, _, rfl, rfl, sx _ _ hb, at2, _, rfl, x2, g, by rw [ok.sum]; rfl, TupR.mo ShR.mo _ _ _ _ (Keep.of sx) hgr, gc, fun H5 s5 => ?_⟩
      refine kt _ H5 true (sT.trans s5) ?_ rfl
      show (ws[i]?).map _ = _
      rw [hx]; rfl
    · rw [filterMap_get] at hacc
      refine ⟨D, _, rfl, by rw [hD, all2_bl hacc], ?_⟩
      rw [alltrue]
      exact k H1 s1
theorem sc_is_given : FnScope ["wants", "thing", "want", "one"] ["wants", "thing"] (defScope s_is_given) := ⟨rfl, rfl, rfl, by decide +kernel, rfl, by decide +kernel, by decide +kernel⟩
theorem c_is_given (T : Txt K mg C) : Cal P w K mg base CX0 4 "is_given" ["wants", "thing"] spAreGifts := by
  have C_are_gifts : Cal P w K mg base CX0 3 "are_gifts" ["wants", "thing"] spAreGifts := c_are_gifts T
  have C_is_right : Cal P w K mg base CX0 1 "is_right" ["want", "gift"] spIsRight := c_is_right T
  refine Cal.mk' T.d_is_given sc_is_given (fun vs H Q E h => ?_) (fun _ _ _ _ _ _ us hl => match us, hl with | [_, _], _ => rfl) (fun f cdv A outer s H vs Q E hr h => ?_)
  · obtain ⟨u, ws, gv, gs, rfl, _⟩ := h
    rfl
  · obtain ⟨u, ws, gv, gs, rfl, ⟨wa, wxs, rfl, hwa, hwall⟩, ⟨ga, gxs, rfl, hga, hgall⟩, hd, k⟩ := h
    have sc := sc_is_given
    have hl := hd.all.length
    have hn6 := hd.wok.len
    refine ⟨_, (pss_one (ps_ret (pe_and (pe_cal C_are_gifts hr (pa_cons (pv 0) (pa_cons (pv 1) pa_nil))) (pe_one (pe_callB (all1 rfl) (by rfl) T.all (by decide +kernel) (pa_cons (pe_lc (own := [("want", 2), ("one", 3)]) rfl sc.nd (zipK K (by rfl) T.zip (pa_cons (pv 0) (pa_cons (pv 1) pa_nil))) (blkOk_by (N := ["wants", "thing", "want", "one"]) (sc := defScope s_is_given) (own := [("want", 2), ("one", 3)]) (by decide +kernel)) (fun _ _ _ _ _ => (pgT K (n := 2) rfl (pgs_cons (pg_name (i := 2) sc.nd rfl (.inl rfl)) (pgs_cons (pg_name (i := 3) sc.nd rfl (.inl rfl)) pgs_nil)))) (fun _ _ _ _ _ => pts_nil) (fun _ _ _ _ _ => (pe_cal C_is_right hr (pa_cons (pv 2) (pa_cons (pv 3) pa_nil))))) pa_nil)))))), ?_⟩
    refine ⟨_, rfl, _, rfl, .ref wa, ws, .ref ga, gs, rfl, ⟨wa, wxs, rfl, hwa, hwall⟩, ⟨ga, gxs, rfl, hga, hgall⟩, hd, fun H1 s1 => ⟨_, rfl, ite_t rfl ?_⟩⟩
    have hwa1 := s1 _ _ hwa
    have hga1 := s1 _ _ hga
    refine ⟨_, rfl, _, rfl, wa, ga, _, _, rfl, .inr ⟨SqT.of hwa1, SqT.of hga1, fun D nD => ?_⟩⟩
    refine lc_typed (walk_zipT (zlen hwall hgall hl)) nD BlR BlR.mo (fun i => (ws[i]?).map fun _ => true) (by omega) (fun H3 s3 => ⟨SqT.of (s3 _ _ hwa1), SqT.of (s3 _ _ hga1)⟩) (fun i y H3 H4 hi s3 hY kt kf => ?_) (fun H2 acc s2 hD hacc => ?_)
    · obtain ⟨Tt, x1, x2, rfl, nT, rfl, hx1, hx2⟩ := hY
      obtain ⟨x, hx, hxr⟩ := hwall.get hx1
      obtain ⟨g, hg, hgr⟩ := hgall.get hx2
      obtain ⟨ok, gc, xok, g5⟩ := hd.at hx hg
      have sT := same_new (o := .tup [x1, x2]) nT
      have sx := (s1.trans s3).trans sT
      refine ⟨Tt, _, rfl, SqT.of upd_same, rfl, _, _, rfl, _, _, rfl, rfl, rfl, yesT ?_⟩
      refine ⟨_, rfl, _, rfl, x1, x, x2, g, rfl, WantR.mo _ _ _ _ (Keep.of sx) hxr, xok, TupR.mo ShR.mo _ _ _ _ (Keep.of sx) hgr, by omega, ok.ok, fun H5 s5 => ?_⟩
      refine kt _ H5 true (sT.trans s5) ?_ rfl
      show (ws[i]?).map _ = _
      rw [hx]; rfl
    · rw [filterMap_get] at hacc
      refine ⟨D, _, rfl, by rw [hD, all2_bl hacc], ?_⟩
      rw [alltrue]
      exact k H2 (s1.trans s2)
/-! ### given_sum, serves -/
def spGivenSum (C : Addr) : Sp := fun vs H Q _ => ∃ u ws gv gs, vs = [u, gv] ∧ WantsR H u ws ∧ GivenR H gv gs ∧ DealC ws gs ∧ ∀ v' H' rows', Same H H' → HeapR C H' v' rows' → HeapOK rows' → (∀ f s, cnt rows' f s = gsum ws gs f s) → Q v' H'
theorem sc_given_sum : FnScope ["wants", "given", "rows", "want", "gift", "shade", "many"] ["wants", "given"] (defScope s_given_sum) := ⟨rfl, rfl, rfl, by decide +kernel, rfl, by decide +kernel, by decide +kernel⟩
theorem c_given_sum (T : Txt K mg C) : Cal P w K mg base CX0 4 "given_sum" ["wants", "given"] (spGivenSum C) := by
  have C_Heap_init : Maker P w K mg base C 2 ["self", "rows"] (spInit C) := c_Heap_init T
  refine Cal.mk' T.d_given_sum sc_given_sum (fun vs H Q E h => ?_) (fun _ _ _ _ _ _ us hl => match us, hl with | [_, _], _ => rfl) (fun f cdv A outer s H vs Q E hr h => ?_)
  · obtain ⟨u, ws, gv, gs, rfl, _⟩ := h
    rfl
  · obtain ⟨u, ws, gv, gs, rfl, ⟨wa, wxs, rfl, hwa, hwall⟩, ⟨ga, gxs, rfl, hga, hgall⟩, hd, k⟩ := h
    have sc := sc_given_sum
    have hl := hd.all.length
    have hn6 := hd.wok.len
    have hzl : (ws.zip gs).length = ws.length := by rw [List.length_zip]; omega
    refine ⟨_, (pss_cons (ps_set (i := 2) sc.nd rfl (.inl rfl) (pe_lst pa_nil))
      (pss_cons (ps_for PassesOwn.never rfl (zipK K (by rfl) T.zip (pa_cons (pv 0) (pa_cons (pv 1) pa_nil))) (pgT K (n := 2) rfl (pgs_cons (pg_name (i := 3) sc.nd rfl (.inr rfl)) (pgs_cons (pg_name (i := 4) sc.nd rfl (.inl rfl)) pgs_nil))) (pss_one (ps_expr (pe_bm PySem.F.plainAttrs_list PySem.F.slot_list_extend PySem.F.type_list_extend mt_extend (pv 2) (pa_cons (pe_lc (own := [("shade", 5), ("many", 6)]) rfl sc.nd (piT K (pv 4)) (blkOk_by (N := ["wants", "given", "rows", "want", "gift", "shade", "many"]) (sc := defScope s_given_sum) (own := [("shade", 5), ("many", 6)]) (by decide +kernel)) (fun _ _ _ _ _ => (pgT K (n := 2) rfl (pgs_cons (pg_name (i := 5) sc.nd rfl (.inl rfl)) (pgs_cons (pg_name (i := 6) sc.nd rfl (.inl rfl)) pgs_nil)))) (fun _ _ _ _ _ => pts_nil) (fun _ _ _ _ _ => (pe_tup (pa_cons (pe_ix ixT (pv 3) pe_int (fun _ _ => rfl)) (pa_cons (pv 5) (pa_cons (pv 6) pa_nil)))))) pa_nil)))))
      (pss_one (ps_ret (pe_heap T.mgC C_Heap_init hr (pe_callTy tup1 (by rfl) T.tuple (by decide +kernel) (pa_cons (pv 2) pa_nil))))))), ?_⟩
    refine ⟨Nat.zero_le _, fun D nD => ?_⟩
    have s1 : Same H (upd H D (.lst [])) := same_new nD
    refine ⟨_, rfl, _, rfl, wa, ga, _, _, rfl, .inr ⟨SqT.of (s1 _ _ hwa), SqT.of (s1 _ _ hga), for_it (walk_zipT (zlen hwall hgall hl)) (fun i σ H2 => ∃ zs v3 v4, σ = [some (.ref wa), some (.ref ga), some (.ref D), v3, v4, none, none] ∧ Same H H2 ∧ H2 D = some (.lst zs) ∧ All2 (RowR H2) zs (((ws.zip gs).take i).flatMap rowsG) ∧ zs.length ≤ 5 * i)
      ⟨[], none, none, rfl, s1, upd_same, .nil, Nat.zero_le _⟩ (fun i σ H2 _ ⟨_, _, _, _, s2, _⟩ => ⟨SqT.of (s2 _ _ hwa), SqT.of (s2 _ _ hga)⟩) ?_ ?_⟩⟩
    · rintro i x σ H2 H3 hi ⟨zs, v3, v4, rfl, s2, hD, hzs, hzl2⟩ ⟨Tt, x1, x2, rfl, nT, rfl, hx1, hx2⟩
      obtain ⟨x, hx, b, bb, rfl, hb, hbb⟩ := hwall.get hx1
      obtain ⟨g, hg, gg, gxs2, rfl, hgg, hggall⟩ := hgall.get hx2
      obtain ⟨ok, gc, xok, g5⟩ := hd.at hx hg
      have sT := same_new (o := .tup [.ref b, .ref gg]) nT
      have s3 := s2.trans sT
      have hD3 := sT _ _ hD
      refine ⟨Tt, _, rfl, SqT.of upd_same, rfl, _, _, rfl, _, _, rfl, rfl, ?_⟩
      dsimp only [List.set]
      refine ⟨_, rfl, .inl ⟨rfl, _, SqL.of hD3⟩, ?_⟩
      refine ⟨_, rfl, gg, rfl, ⟨_, SqT.of (s3 _ _ hgg)⟩, fun D2 nD2 => ?_⟩
      refine lc_typed (walk_tup (K := K) (a := gg) (xs := gxs2)) nD2 RowR RowR.mo (fun i => (g[i]?).map fun e => (x.1, e.1, e.2)) (by rw [hggall.length]; omega) (fun H4 s4 => SqT.of (s4 _ _ (s3 _ _ hgg))) (fun j y H4 H5 hj s4 hY kt kf => ?_) (fun H4 acc s4 hD2 hacc => ?_)
      · obtain ⟨rfl, hy⟩ := hY
        obtain ⟨z, hz, c, rfl, hcc⟩ := hggall.get hy
        have sx := s3.trans s4
        dsimp only [List.map, wipe, List.set]
        refine ⟨c, _, rfl, SqT.of (sx _ _ hcc), rfl, _, _, rfl, _, _, rfl, rfl, ?_⟩
        dsimp only [List.set, wipe]
        refine ⟨rfl, yesT ?_⟩
        refine ⟨_, rfl, b, _, _, _, rfl, rfl, sx _ _ hb, at0, _, rfl, _, rfl, (by show 3 ≤ sizeLine; decide), fun t nt => ?_⟩
        refine kt _ _ (x.1, z.1, z.2) (same_new nt) ?_ ⟨t, rfl, upd_same⟩
        show (g[j]?).map _ = _
        rw [hz]; rfl
      · rw [hggall.length, filterMap_get] at hacc
        have hD4 := s4 _ _ hD3
        have hal : acc.length ≤ 5 := by rw [hacc.length, List.length_map]; exact g5
        refine ⟨D, D2, zs, acc, rfl, rfl, hD4, hD2, sz_of (by omega), ?_⟩
        have k5 : Keep H4 (upd H4 D (.lst (zs ++ acc))) := Keep.lst hD4
        refine ⟨zs ++ acc, _, _, rfl, same_mut (s3.trans s4) nD, upd_same, ?_, by rw [List.length_append]; omega⟩
        have hz : (ws.zip gs)[i]? = some (x, g) := List.getElem?_zip_eq_some.mpr ⟨hx, hg⟩
        rw [take_next hz, List.flatMap_append]
        refine (All2.mo RowR.mo ((Keep.of (sT.trans s4)).trans k5) hzs).append ?_
        show All2 _ acc (rowsG (x, g) ++ [])
        rw [List.append_nil]
        exact All2.mo RowR.mo k5 hacc
    · rintro σ H2 ⟨zs, v3, v4, rfl, s2, hD, hzs, hzl2⟩
      rw [← hzl, take_all] at hzs
      refine ⟨_, rfl, D, zs, rfl, hD, fun c H3 s3 nc hc => ?_⟩
      refine ⟨(ws.zip gs).flatMap rowsG, ⟨c, zs, rfl, hc, All2.mo RowR.mo (Keep.of s3) hzs⟩, fun r hr => ?_, fun v' H4 rows' s4 hH sc' => ?_⟩
      · obtain ⟨p, hp, hr2⟩ := List.mem_flatMap.mp hr
        obtain ⟨i, hi⟩ := List.mem_iff_getElem?.mp hp
        obtain ⟨h1, h2⟩ := List.getElem?_zip_eq_some.mp hi
        obtain ⟨ok, gc, xok, g5⟩ := hd.at h1 h2
        obtain ⟨e, he, rfl⟩ := List.mem_map.mp hr2
        exact ⟨xok.fm, ok.uni e he, ok.pos e he⟩
      · exact k v' H4 rows' ((s2.trans s3).trans s4) hH sc'.ok fun f s => by rw [sc'.eq, cnt_flat]
def spServes (C : Addr) : Sp := fun vs H Q _ => ∃ v rows u ws gv gs, vs = [v, u, gv] ∧ HeapR C H v rows ∧ HeapOK rows ∧ WantsR H u ws ∧ GivenR H gv gs ∧ DealC ws gs ∧ (∀ f s, gsum ws gs f s ≤ cnt rows f s) ∧ ∀ H', Same H H' → Q (.bl true) H'
theorem sc_serves : FnScope ["heap", "wants", "given"] ["heap", "wants", "given"] (defScope s_serves) := ⟨rfl, rfl, rfl, by decide +kernel, rfl, by decide +kernel, by decide +kernel⟩
theorem c_serves (T : Txt K mg C) : Cal P w K mg base CX0 5 "serves" ["heap", "wants", "given"] (spServes C) := by
  have C_given_sum : Cal P w K mg base CX0 4 "given_sum" ["wants", "given"] (spGivenSum C) := c_given_sum T
  have M_holds : Mal P w K mg base C 3 "holds" ["self", "other"] (spHolds C) [] := M_holds_ T
  refine Cal.mk' T.d_serves sc_serves (fun vs H Q E h => ?_) (fun _ _ _ _ _ _ us hl => match us, hl with | [_, _, _], _ => rfl) (fun f cdv A outer s H vs Q E hr h => ?_)
  · obtain ⟨v, rows, u, ws, gv, gs, rfl, _⟩ := h
    rfl
  · obtain ⟨v, rows, u, ws, gv, gs, rfl, hv, hok, hws, hgs, hd, hle, k⟩ := h
    have sc := sc_serves
    refine ⟨_, (pss_one (ps_ret (pe_mal T.cl M_holds hr (pv 0) (pa_cons (pe_cal C_given_sum hr (pa_cons (pv 1) (pa_cons (pv 2) pa_nil))) pa_nil)))), ?_⟩
    obtain ⟨ah, dx, p, rfl, hah, _⟩ := id hv
    refine ⟨_, rfl, ah, dx, _, rfl, hah, rfl, _, rfl, _, rfl, u, ws, gv, gs, rfl, hws, hgs, hd, fun v' H1 rows' s1 hv' hok' hc => ?_⟩
    refine ⟨.ref ah, v', rows, rows', rfl, HeapR.mo _ _ _ _ (Keep.of s1) hv, hv', by have := hok.len; omega, by have := hok'.len; omega, fun H2 s2 => ?_⟩
    have e : (rows'.filterMap (lackF rows)).isEmpty = true := by
      rw [List.isEmpty_iff, List.filterMap_eq_nil_iff]
      intro r hr
      unfold lackF
      refine if_neg ?_
      rw [manyOf_one]
      have h1 := cnt_self hok'.2 r hr
      have h2 := hle r.1 r.2.1
      rw [← hc, h1] at h2
      omega
    rw [e]
    exact k H2 (s1.trans s2)
end
end Pk
end
section
set_option Elab.async false
set_option linter.all false
set_option maxRecDepth 100000
set_option maxHeartbeats 8000000
namespace Pk
open PySem PySem.Spec PyProof.Rows L2 FL
section
variable {P : Program} {w : World} {K : PySem.W.Frag} {mg : Str → Option Value} {base : Heap} {C : Addr}
def spChoices : Sp := fun vs H Q _ => ∃ sv wss, vs = [sv] ∧ SheetR H sv wss ∧ wss.length ≤ 1000 ∧ ∀ t c H', Same H H' → H' t = some (.tup [.ref c]) → H' c = some (.tup (List.replicate wss.length (.int 0))) → Q (.ref t) H'
theorem sc_choices : FnScope ["sheet", "found", "row", "longer", "choice", "k"] ["sheet"] (defScope s_choices) := ⟨rfl, rfl, rfl, by decide +kernel, rfl, by decide +kernel, by decide +kernel⟩
theorem c_choices (T : Txt K mg C) : Cal P w K mg base CX0 1 "choices" ["sheet"] spChoices := by
  refine Cal.mk' T.d_choices sc_choices (fun vs H Q E h => ?_) (fun _ _ _ _ _ _ us hl => match us, hl with | [_], _ => rfl) (fun f cdv A outer s H vs Q E hr h => ?_)
  · obtain ⟨sv, wss, rfl, _⟩ := h
    rfl
  · obtain ⟨sv, wss, rfl, ⟨sa, sxs, rfl, hsa, hsall⟩, hlen, k⟩ := h
    have sc := sc_choices
    refine ⟨_, (pss_cons (ps_set (i := 1) sc.nd rfl (.inl rfl) (pe_lst (pa_cons (pe_tup pa_nil) pa_nil)))
      (pss_cons (ps_for PassesOwn.never rfl (piT K (pv 0)) (pg_name (i := 2) sc.nd rfl (.inl rfl)) (pss_cons (ps_set (i := 3) sc.nd rfl (.inl rfl) (pe_lst pa_nil))
      (pss_cons (ps_for PassesOwn.never rfl (piL K (pv 1)) (pg_name (i := 4) sc.nd rfl (.inr rfl)) (pss_one (ps_expr (pe_bm PySem.F.plainAttrs_list PySem.F.slot_list_extend PySem.F.type_list_extend mt_extend (pv 3) (pa_cons (pe_lc (own := [("k", 5)]) rfl sc.nd (pi_range1 rfl T.range (pa_cons (pe_callB len1 (by rfl) T.len PySem.boot_len (pa_cons (pv 2) pa_nil)) pa_nil)) (blkOk_by (N := ["sheet", "found", "row", "longer", "choice", "k"]) (sc := defScope s_choices) (own := [("k", 5)]) (by decide +kernel)) (fun _ _ _ _ _ => (pg_name (i := 5) sc.nd rfl (.inl rfl))) (fun _ _ _ _ _ => pts_nil) (fun _ _ _ _ _ => (pe_op catT (pv 4) (pe_tup (pa_cons (pv 5) pa_nil))))) pa_nil)))))
      (pss_one (ps_set (i := 1) sc.nd rfl (.inl rfl) (pv 3))))))
      (pss_one (ps_ret (pe_callTy tup1 (by rfl) T.tuple (by decide +kernel) (pa_cons (pv 1) pa_nil)))))), ?_⟩
    refine ⟨Nat.zero_le _, fun t0 nt0 => ⟨(by show 1 ≤ sizeLine; decide), fun R0 nR0 => ?_⟩⟩
    have s1 : Same H (upd H t0 (.tup [])) := same_new nt0
    have s2 := same_new (o := .lst [.ref t0]) nR0
    refine ⟨_, rfl, sa, rfl, ⟨_, SqT.of ((s1.trans s2) _ _ hsa)⟩, for_tup (K := K) (a := sa) (xs := sxs) (fun i σ H2 => ∃ F c v2 v3 v4 v5, σ = [some (.ref sa), some (.ref F), v2, v3, v4, v5] ∧ Same H H2 ∧ H2 F = some (.lst [.ref c]) ∧ H2 c = some (.tup (List.replicate i (.int 0))))
      ⟨R0, t0, none, none, none, none, rfl, s1.trans s2, upd_same, s2 _ _ upd_same⟩ (fun i σ H2 _ ⟨_, _, _, _, _, _, _, s, _⟩ => SqT.of (s _ _ hsa)) ?_ ?_⟩
    · rintro i y σ H2 hi ⟨F, c, v2, v3, v4, v5, rfl, sA, hF, hc⟩
      obtain ⟨ws, hws, a, u, rfl, ha, hu⟩ := hsall.get hi
      have hi2 : i < 1000 := by
        have := (List.getElem?_eq_some_iff.mp hws).1
        omega
      refine ⟨Nat.zero_le _, fun Lg nLg => ?_⟩
      have sB : Same H2 (upd H2 Lg (.lst [])) := same_new nLg
      refine ⟨_, rfl, F, rfl, ⟨_, SqL.of (sB _ _ hF)⟩, for_list (K := K) (a := F) (xs := [.ref c]) (fun j σ H3 => ∃ ys v4 v5, σ = [some (.ref sa), some (.ref F), some (.ref a), some (.ref Lg), v4, v5] ∧ Same H2 H3 ∧ H3 Lg = some (.lst ys) ∧ (j = 0 → ys = []) ∧ (1 ≤ j → ∃ c', ys = [.ref c'] ∧ H3 c' = some (.tup (List.replicate (i + 1) (.int 0)))))
        ⟨[], _, _, rfl, sB, upd_same, fun _ => rfl, fun z => absurd z (by omega)⟩ (fun i σ H3 _ ⟨_, _, _, _, s, _⟩ => SqL.of (s _ _ hF)) ?_ ?_⟩
      · rintro j y σ H3 hj ⟨ys, v4, v5, rfl, sC, hLg, hy0, _⟩
        have hj0 : j = 0 ∧ y = .ref c := by
          cases j with
          | zero => exact ⟨rfl, (Option.some.inj hj).symm⟩
          | succ j => simp at hj
        obtain ⟨rfl, rfl⟩ := hj0
        obtain rfl : ys = [] := hy0 rfl
        refine ⟨_, rfl, .inl ⟨rfl, _, SqL.of hLg⟩, ?_⟩
        refine ⟨_, rfl, a, [u], rfl, .inr ((sA.trans sC) _ _ ha), (1 : Int), rfl, by omega, by omega, fun D nD => ?_⟩
        refine lc_typed (walk_range (lo := 0) (n := 1)) nD IntsR IntsR.mo (fun q => some (List.replicate (i + 1) 0)) (by omega) (fun _ _ => trivial) (fun q y H5 H6 hq s5 hY kt kf => ?_) (fun H5 acc s5 hD5 hacc => ?_)
        · obtain ⟨rfl, rfl⟩ := hY
          dsimp only [List.map, wipe, List.set]
          refine ⟨rfl, yesT ?_⟩
          dsimp only [List.set]
          refine ⟨_, rfl, _, rfl, (by show 1 ≤ sizeLine; decide), fun t1 nt1 => ?_⟩
          have s6 := same_new (o := .tup [.int (0 + (q : Nat))]) nt1
          refine ⟨c, t1, _, _, rfl, rfl, s6 _ _ ((sC.trans s5) _ _ hc), upd_same, ?_, fun c1 H7 s7 hc1 => ?_⟩
          · rw [List.length_replicate]
            show i + 1 ≤ 16000000
            omega
          · obtain rfl : q = 0 := by omega
            refine kt _ _ (List.replicate (i + 1) 0) (s6.trans s7) rfl ⟨c1, _, rfl, hc1, ?_⟩
            have e : List.replicate i (V.int 0) ++ [V.int (0 + ((0 : Nat) : Int))] = (List.replicate (i + 1) (0 : Int)).map V.int := by
              rw [List.map_replicate, List.replicate_succ']
              rfl
            rw [e]
            exact all2_int' _
        · obtain ⟨c', rfl, hc'⟩ : ∃ c', acc = [.ref c'] ∧ H5 c' = some (.tup (List.replicate (i + 1) (.int 0))) := by
            have hr1 : ((List.range 1).filterMap fun q => some (List.replicate (i + 1) (0 : Int))) = [List.replicate (i + 1) 0] := rfl
            rw [hr1] at hacc
            cases hacc with
            | cons r t =>
              cases t
              obtain ⟨c', xs, rfl, hc', hx⟩ := r
              have := all2_int hx
              rw [List.map_replicate] at this
              subst this
              exact ⟨c', rfl, hc'⟩
          have hDL : D ≠ Lg := fun z => by rw [z, hLg] at nD; cases nD
          have hLg5 := s5 _ _ hLg
          refine ⟨Lg, D, [], [.ref c'], rfl, rfl, hLg5, hD5, sz_of (by show 0 + 1 ≤ 16000000; omega), ?_⟩
          exact ⟨[.ref c'], _, _, rfl, same_mut (sC.trans s5) nLg, upd_same, fun z => absurd z (by omega), fun _ => ⟨c', rfl, tup_keep (Keep.lst hLg5) hc'⟩⟩
      · rintro σ H3 ⟨ys, v4, v5, rfl, sC, hLg, _, hy1⟩
        obtain ⟨c', rfl, hc'⟩ := hy1 (by simp)
        exact ⟨_, rfl, Lg, c', _, _, _, _, rfl, sA.trans sC, hLg, hc'⟩
    · rintro σ H2 ⟨F, c, v2, v3, v4, v5, rfl, sA, hF, hc⟩
      refine ⟨_, rfl, F, _, rfl, hF, fun t H3 s3 _ ht => ?_⟩
      rw [hsall.length] at hc
      exact k t c _ (sA.trans s3) ht (s3 _ _ hc)
/-! ### is_dealing -/
theorem u4 {k : Nat} {A : Around} (h : Room k A) : A.units + 4 < cLine := by have := h.un; omega
theorem pe_calK {X : Cx} {k j n : Nat} {ks ps : List Str} {sp : Sp} {gV : List V → List V → List V} {x : Str} {p pos : Pos} {e : Expr} {es : List Expr} {kws : List Keyword} {t tk : TA} (C : CalK X.prog X.w X.K X.mg X.base CX0 k n x ks ps sp gV) (hr : Room j X.A)
    (ha : PA X (e :: es) t) (hkw : PK X kws tk) (hkj : k ≤ j := by decide) (hg : Gl X x := by rfl) (hall : (backToKw pos (keywordEach kws X.env)).all (·.1.isSome) = true := by rfl) (hks : (backToKw pos (keywordEach kws X.env)).filterMap (·.1) = ks := by rfl)
    (hdb : (x == ("__debug__" : Str)) = false := by decide) (he : starEach (e :: es) X.env = (false, eval e X.env) :: starEach es X.env := by rfl)
    (hpl : ((backTo pos (starEach (e :: es) X.env)).any (·.1) || (backToKw pos (keywordEach kws X.env)).any (·.1.isNone)) = false := by rfl) :
    PE X (.Call (.Name x p) (e :: es) kws pos) (tCallN n ks.length sp gV E0 t tk) := by
  obtain ⟨f, fd, g, F, hm, kp, b⟩ := C.ex
  exact pe_callN F (hr.mono hkj) hg hm kp b pass0 ha hkw hall hks hdb he hpl
def spIsDealing (C : Addr) : Sp := fun vs H Q _ => ∃ v rows sv wss tv t gv gs, vs = [v, sv, tv] ∧ HeapR C H v rows ∧ HeapOK rows ∧ SheetR H sv wss ∧ DealC wss.flatten gs ∧ tv = .ref t ∧ (∃ c, H t = some (.tup [.ref c, gv]) ∧ H c = some (.tup (List.replicate wss.length (.int 0)))) ∧ wss.length ≤ 1000 ∧ GivenR H gv gs ∧ (∀ f s, gsum wss.flatten gs f s ≤ cnt rows f s) ∧ ∀ H', Same H H' → Q (.bl true) H'
theorem sc_is_dealing : FnScope ["heap", "sheet", "thing", "wants", "place"] ["heap", "sheet", "thing"] (defScope s_is_dealing) := ⟨rfl, rfl, rfl, by decide +kernel, rfl, by decide +kernel, by decide +kernel⟩
theorem c_is_dealing (T : Txt K mg C) : Cal P w K mg base CX0 6 "is_dealing" ["heap", "sheet", "thing"] (spIsDealing C) := by
  have C_is_number : Cal P w K mg base CX0 1 "is_number" ["thing"] spIsNumber := c_is_number T
  have C_choices : Cal P w K mg base CX0 1 "choices" ["sheet"] spChoices := c_choices T
  have C_wants_of : CalK P w K mg base CX0 1 1 "wants_of" ["choice"] ["sheet", "choice"] spWantsOf (fun vs zs => vs ++ zs) := k_wants_of T
  have C_is_given : Cal P w K mg base CX0 4 "is_given" ["wants", "thing"] spAreGifts := c_is_given T
  have C_serves : Cal P w K mg base CX0 5 "serves" ["heap", "wants", "given"] (spServes C) := c_serves T
  refine Cal.mk' T.d_is_dealing sc_is_dealing (fun vs H Q E h => ?_) (fun _ _ _ _ _ _ us hl => match us, hl with | [_, _, _], _ => rfl) (fun f cdv A outer s H vs Q E hr h => ?_)
  · obtain ⟨v, rows, sv, wss, tv, t, gv, gs, rfl, _⟩ := h
    rfl
  · obtain ⟨v, rows, sv, wss, tv, t, gv, gs, rfl, hv, hok, hs, hd, rfl, ⟨c, ht, hc⟩, hlen, hgs, hle, k⟩ := h
    have sc := sc_is_dealing
    have hu := u4 hr
    refine ⟨_, (pss_cons (ps_if (PW.pt (pw_or (pt_not (pt_val (pe_isK K (T := "tuple") (by rfl) T.isinstance (by rfl) T.tuple (by decide +kernel) (by rfl) (pv 2)))) (pw_or (pt_cmpR op_ne (pe_callB len1 (by rfl) T.len PySem.boot_len (pa_cons (pv 2) pa_nil)) pe_int (nomark _)) (pw_or1 (pt_not (pt_val (pe_isK K (T := "tuple") (by rfl) T.isinstance (by rfl) T.tuple (by decide +kernel) (by rfl) (pe_ix ixT (pv 2) pe_int (fun _ _ => rfl))))))))) (pss_one (ps_ret pe_bl)) pss_nil)
      (pss_cons (ps_if (PW.pt (pw_or (pt_not (pt_val (pe_callB (all1 rfl) (by rfl) T.all (by decide +kernel) (pa_cons (pe_lc (own := [("place", 4)]) rfl sc.nd (piT K (pe_ix ixT (pv 2) pe_int (fun _ _ => rfl))) (blkOk_by (N := ["heap", "sheet", "thing", "wants", "place"]) (sc := defScope s_is_dealing) (own := [("place", 4)]) (by decide +kernel)) (fun _ _ _ _ _ => (pg_name (i := 4) sc.nd rfl (.inl rfl))) (fun _ _ _ _ _ => pts_nil) (fun _ _ _ _ _ => (pe_cal C_is_number hr (pa_cons (pv 4) pa_nil)))) pa_nil)))) (pw_or1 (pt_cmpR (notInTT hu) (pe_ix ixT (pv 2) pe_int (fun _ _ => rfl)) (pe_cal C_choices hr (pa_cons (pv 1) pa_nil)) (by rfl))))) (pss_one (ps_ret pe_bl)) pss_nil)
      (pss_cons (ps_set (i := 3) sc.nd rfl (.inl rfl) (pe_calK C_wants_of hr (pa_cons (pv 1) pa_nil) (pk_cons (pe_ix ixT (pv 2) pe_int (fun _ _ => rfl)) pk_nil)))
      (pss_one (ps_ret (pe_and (pe_cal C_is_given hr (pa_cons (pv 3) (pa_cons (pe_ix ixT (pv 2) pe_int (fun _ _ => rfl)) pa_nil))) (pe_one (pe_cal C_serves hr (pa_cons (pv 0) (pa_cons (pv 3) (pa_cons (pe_ix ixT (pv 2) pe_int (fun _ _ => rfl)) pa_nil))))))))))), ?_⟩
    refine ⟨_, rfl, isi_of (.tup ht) (b := true) (by decide +kernel) ?_⟩
    refine ⟨_, rfl, ite_f rfl ?_⟩
    refine ⟨_, rfl, t, _, rfl, .inr ht, rfl, _, rfl, ite_f (by show (!decide (V.int 2 = V.int 2)) = false; decide) ?_⟩
    refine ⟨_, rfl, t, _, _, _, rfl, rfl, ht, at0, isi_of (.tup hc) (b := true) (by decide +kernel) ?_⟩
    refine ⟨_, rfl, ite_f rfl ?_⟩
    refine ⟨_, rfl, t, _, _, _, rfl, rfl, ht, at0, c, rfl, ⟨_, SqT.of hc⟩, fun D nD => ?_⟩
    refine lc_typed (walk_tup (K := K) (a := c) (xs := List.replicate wss.length (.int 0))) nD BlR BlR.mo (fun i => some true) (by rw [List.length_replicate]; omega) (fun H3 s3 => SqT.of (s3 _ _ hc)) (fun i y H3 H4 hi s3 hY kt kf => ?_) (fun H1 acc s1 hD hacc => ?_)
    · obtain ⟨rfl, hy⟩ := hY
      obtain rfl : y = .int 0 := List.eq_of_mem_replicate (List.mem_of_getElem? hy)
      dsimp only [List.map, wipe, List.set]
      refine ⟨rfl, yesT ?_⟩
      exact ⟨_, rfl, 0, rfl, kt _ _ true (Same.refl _) rfl rfl⟩
    · have hbl : acc = ((List.range (List.replicate wss.length (V.int 0)).length).filterMap fun _ => some true).map V.bl := all2_bl hacc
      refine ⟨D, _, rfl, by rw [hD, hbl], ?_⟩
      have hall : (((List.range (List.replicate wss.length (V.int 0)).length).filterMap fun _ => some true).all id) = true := by
        rw [List.all_eq_true]
        intro b hb
        obtain ⟨_, _, e⟩ := List.mem_filterMap.mp hb
        rw [← Option.some.inj e]
        rfl
      rw [hall]
      have ht1 := s1 _ _ ht
      have hc1 := s1 _ _ hc
      refine ⟨_, rfl, ite_f rfl ?_⟩
      refine ⟨_, rfl, t, _, _, _, rfl, rfl, ht1, at0, ?_⟩
      refine ⟨_, rfl, sv, wss, rfl, TupR.mo RowWR.mo _ _ _ _ (Keep.of s1) hs, hlen, fun t2 c2 H2 s2 ht2 hc2 => ?_⟩
      have er : List.replicate wss.length (V.int 0) = (List.replicate wss.length (0 : Int)).map V.int := by rw [List.map_replicate]
      refine ⟨c, t2, c2, List.replicate wss.length 0, List.replicate wss.length 0, rfl, rfl, by rw [s2 _ _ hc1, er], ht2, by rw [hc2, er], ?_⟩
      rw [decide_eq_true rfl]
      refine ⟨_, rfl, ite_f rfl ?_⟩
      have s12 := s1.trans s2
      have ht3 := s12 _ _ ht
      have hc3 := s12 _ _ hc
      refine ⟨_, rfl, _, rfl, t, _, _, _, rfl, rfl, ht3, at0, rfl, rfl, ?_⟩
      refine ⟨sv, .ref c, wss, some wss.length, rfl, TupR.mo RowWR.mo _ _ _ _ (Keep.of s12) hs, ⟨c, rfl, hc3⟩, fun n e => (Option.some.inj e).symm, by have := hd.wok.len; omega, fun u H3 s3 hu3 => ?_⟩
      have s13 := s12.trans s3
      have hg3 := GivenR.mo _ _ _ _ (Keep.of s13) hgs
      refine ⟨_, rfl, _, rfl, t, _, _, _, rfl, rfl, s13 _ _ ht, at1, u, _, gv, gs, rfl, hu3, hg3, hd, fun H4 s4 => ?_⟩
      have s14 := s13.trans s4
      refine ⟨true, rfl, ite_t rfl ?_⟩
      refine ⟨_, rfl, _, rfl, _, rfl, t, _, _, _, rfl, rfl, s14 _ _ ht, at1, ?_⟩
      refine ⟨v, rows, u, _, gv, gs, rfl, HeapR.mo _ _ _ _ (Keep.of s14) hv, hok, WantsR.mo _ _ _ _ (Keep.of s4) hu3, GivenR.mo _ _ _ _ (Keep.of s4) hg3, hd, hle, fun H5 s5 => ?_⟩
      exact k H5 (s14.trans s5)
end
end Pk
end
section
set_option Elab.async false
set_option linter.all false
set_option maxRecDepth 100000
set_option maxHeartbeats 8000000
namespace Pk
open PySem PySem.Spec PyProof.Rows L2 FL
/-- the tap: cells (at cl), at, rest, turn; at most n turns so far -/
def TapC (H : Hp) (t cl : Addr) (n : Nat) : Prop := ∃ (cs : List Int) (i r k : Int), H t = some (.lst [.ref cl, .int i, .int r, .int k]) ∧ H cl = some (.lst (cs.map V.int)) ∧ cs.length ≤ 63 ∧ 0 ≤ i ∧ 0 ≤ k ∧ k ≤ n ∧ cl ≠ t
theorem TapC.but {S : List Addr} {H H' : Hp} {t cl : Addr} {n : Nat} (h : TapC H t cl n) (b : But S H H') (h1 : t ∉ S) (h2 : cl ∉ S) : TapC H' t cl n := by
  obtain ⟨cs, i, r, k, e1, e2, e3⟩ := h
  exact ⟨cs, i, r, k, b _ _ h1 e1, b _ _ h2 e2, e3⟩
theorem TapC.same {H H' : Hp} {t cl : Addr} {n : Nat} (s : Same H H') (h : TapC H t cl n) : TapC H' t cl n := by
  obtain ⟨cs, i, r, k, h1, h2, h3⟩ := h
  exact ⟨cs, i, r, k, s _ _ h1, s _ _ h2, h3⟩
theorem TapC.le {H : Hp} {t cl : Addr} {n m : Nat} (h : TapC H t cl n) (hm : n ≤ m) : TapC H t cl m := by
  obtain ⟨cs, i, r, k, h1, h2, h3, h4, h5, h6, h7⟩ := h
  exact ⟨cs, i, r, k, h1, h2, h3, h4, h5, by omega, h7⟩
theorem TapC.t_ne {H : Hp} {t cl p : Addr} {n : Nat} (h : TapC H t cl n) (hp : H p = none) : t ≠ p ∧ cl ≠ p := by
  obtain ⟨cs, i, r, k, h1, h2, _⟩ := h
  exact ⟨fun z => (by rw [z, hp] at h1; cases h1), fun z => (by rw [z, hp] at h2; cases h2)⟩
theorem cut63 (cs : List Int) : ∃ cs' : List Int, cutV (cs.map V.int) none (some 63) = cs'.map V.int ∧ cs'.length ≤ 63 := by
  refine ⟨(cs.drop (HT.sIx (cs.map V.int).length 0 none)).take (HT.sIx (cs.map V.int).length (cs.map V.int).length (some 63) - HT.sIx (cs.map V.int).length 0 none), ?_, ?_⟩
  · unfold cutV
    rw [List.map_take, List.map_drop]
  · have h : HT.sIx (cs.map V.int).length (cs.map V.int).length (some 63) ≤ 63 := by
      rw [show (63 : Int) = ((63 : Nat) : Int) from rfl, HT.sIx_nat]
      omega
    rw [List.length_take]
    omega
theorem te_gen {te : TE} {σ : L2.St} {H : Hp} {Q : VK} (R : V → Hp → Prop) (h : ∀ Q' : VK, (∀ v H4, R v H4 → Q' v H4) → te σ H Q') (k : ∀ v H4, R v H4 → Q v H4) : te σ H Q := h Q k
section
variable {P : Program} {w : World} {K : PySem.W.Frag} {mg : Str → Option Value} {base : Heap} {C : Addr}
def spTap (K : PySem.W.Frag) : Sp := fun vs H Q _ => ∃ (a : Addr) (cs : List Int), vs = [.ref a] ∧ SqL K H a (cs.map V.int) ∧ ∀ t cl H', H t = none → Same H H' → TapC H' t cl 0 → Q (.ref t) H'
theorem sc_law_tap : FnScope ["_law_script"] ["_law_script"] (defScope s_law_tap) := ⟨rfl, rfl, rfl, by decide +kernel, rfl, by decide +kernel, by decide +kernel⟩
theorem c_law_tap (T : Txt K mg C) : Cal P w K mg base CX0 1 "_law_tap" ["_law_script"] (spTap K) := by
  refine Cal.mk' T.d_law_tap sc_law_tap (fun vs H Q E h => ?_) (fun _ _ _ _ _ _ us hl => match us, hl with | [_], _ => rfl) (fun f cdv A outer s H vs Q E hr h => ?_)
  · obtain ⟨a, cs, rfl, _⟩ := h
    rfl
  · obtain ⟨a, cs, rfl, ha, k⟩ := h
    have sc := sc_law_tap
    refine ⟨_, (pss_one (ps_ret (pe_lst (pa_cons (pe_callTy call_list_of (by rfl) T.list (by decide +kernel) (pa_cons (pe_slice (slL K) (pv 0) po_none (po_some pe_int)) pa_nil)) (pa_cons pe_int (pa_cons pe_int (pa_cons pe_int pa_nil))))))), ?_⟩
    refine ⟨_, rfl, _, rfl, a, _, rfl, ha, fun p np => ?_⟩
    have s1 := same_new (o := .lst (cutV (cs.map V.int) none (some 63))) np
    refine ⟨p, _, rfl, .inl (SqL.of upd_same), fun q nq => ?_⟩
    have s2 := same_new (o := .lst (cutV (cs.map V.int) none (some 63))) nq
    refine ⟨(by show 4 ≤ sizeLine; decide), fun t nt => ?_⟩
    have s3 := same_new (o := .lst [.ref q, .int 0, .int 0, .int 0]) nt
    have s13 := (s1.trans s2).trans s3
    have nt0 : H t = none := by
      cases z : H t with
      | none => rfl
      | some o => rw [(s1.trans s2) _ _ z] at nt; cases nt
    obtain ⟨cs', hcs, hcl⟩ := cut63 cs
    refine k t q _ nt0 s13 ⟨cs', 0, 0, 0, upd_same, ?_, hcl, Int.le_refl _, Int.le_refl _, Int.le_refl _, ?_⟩
    · rw [← hcs]
      exact s3 _ _ upd_same
    · intro z
      rw [z, upd_same] at nt
      cases nt
def spPick : Sp := fun vs H Q _ => ∃ (t cl : Addr) (many : Int) (n : Nat), vs = [.ref t, .int many] ∧ TapC H t cl n ∧ n ≤ 100000 ∧ 0 < many ∧ many ≤ 100 ∧ ∀ r H', 0 ≤ r → r < many → But [t] H H' → TapC H' t cl (n + 1) → Q (.int r) H'
theorem sc_law_pick : FnScope ["_law_tap_here", "_law_many", "_law_cells", "_law_at", "_law_rest", "_law_turn", "_law_cell", "_law_mixed"] ["_law_tap_here", "_law_many"] (defScope s_law_pick) := ⟨rfl, rfl, rfl, by decide +kernel, rfl, by decide +kernel, by decide +kernel⟩
theorem c_law_pick (T : Txt K mg C) : Cal P w K mg base CX0 1 "_law_pick" ["_law_tap_here", "_law_many"] spPick := by
  refine Cal.mk' T.d_law_pick sc_law_pick (fun vs H Q E h => ?_) (fun _ _ _ _ _ _ us hl => match us, hl with | [_, _], _ => rfl) (fun f cdv A outer s H vs Q E hr h => ?_)
  · obtain ⟨t, cl, many, n, rfl, _⟩ := h
    rfl
  · obtain ⟨t, cl, many, n, rfl, hT, hn, hm0, hm1, k⟩ := h
    have sc := sc_law_pick
    have hu := hu_of hr
    refine ⟨_, (pss_cons (ps_asg (pv 0) (pg_unl (n := 4) rfl (pgs_cons (pg_name (i := 2) sc.nd rfl (.inl rfl)) (pgs_cons (pg_name (i := 3) sc.nd rfl (.inl rfl)) (pgs_cons (pg_name (i := 4) sc.nd rfl (.inl rfl)) (pgs_cons (pg_name (i := 5) sc.nd rfl (.inl rfl)) pgs_nil))))))
      (pss_cons (ps_asg (pe_op op_add (pv 5) pe_int) (pg_sub (pv 0) pe_int set_list))
      (pss_cons (ps_if (pt_cmpR op_gt (pv 4) pe_int (nomark _)) (pss_cons (ps_asg (pe_op op_fdivN (pv 4) (pv 1)) (pg_sub (pv 0) pe_int set_list))
      (pss_one (ps_ret (pe_op op_modN (pv 4) (pv 1))))) pss_nil)
      (pss_cons (ps_asg (pe_op op_add (pv 3) pe_int) (pg_sub (pv 0) pe_int set_list))
      (pss_cons (ps_set (i := 6) sc.nd rfl (.inl rfl) (pe_ifExp (pt_cmpR (neEmpL hu) (pv 2) (pe_lst pa_nil) (nomark _)) (pe_ix (ixL K) (pv 2) (pe_op op_modN (pv 3) (pe_callB len1 (by rfl) T.len PySem.boot_len (pa_cons (pv 2) pa_nil))) (fun _ _ => rfl)) pe_int))
      (pss_cons (ps_if (PW.pt (pw_and (pt_cmpR op_ge (pv 6) (pe_op op_pow pe_int pe_int) (nomark _)) (pw_and1 (pt_cmpR op_lt (pv 3) (pe_callB len1 (by rfl) T.len PySem.boot_len (pa_cons (pv 2) pa_nil)) (nomark _))))) (pss_cons (ps_asg (pe_op op_fdivN (pv 6) (pv 1)) (pg_sub (pv 0) pe_int set_list))
      (pss_one (ps_ret (pe_op op_modN (pv 6) (pv 1))))) pss_nil)
      (pss_cons (ps_set (i := 7) sc.nd rfl (.inl rfl) (pe_op op_mod (pe_op op_pow (pe_op op_add (pe_op op_mod (pv 6) pe_int) (pe_op op_mul pe_int (pe_op op_add (pv 5) pe_int))) pe_int) pe_int))
      (pss_cons (ps_set (i := 7) sc.nd rfl (.inl rfl) (pe_op op_mod (pe_op op_pow (pe_op op_add (pe_op op_add (pv 7) (pe_op op_mul pe_int (pv 5))) pe_int) pe_int) pe_int))
      (pss_cons (ps_set (i := 7) sc.nd rfl (.inl rfl) (pe_op op_mod (pe_op op_pow (pe_op op_add (pe_op op_add (pv 7) (pe_op op_mul (pe_op op_mod (pv 6) pe_int) pe_int)) (pv 5)) pe_int) pe_int))
      (pss_one (ps_ret (pe_op op_modN (pe_op op_fdiv (pv 7) pe_int) (pv 1))))))))))))), ?_⟩
    obtain ⟨cs, i, r, tn, ht, hcl, hcs, hi0, hk0, hkn, hne⟩ := hT
    refine ⟨_, rfl, t, _, rfl, SqL.of ht, rfl, ?_⟩
    refine ⟨_, _, rfl, _, _, rfl, _, _, rfl, _, _, rfl, rfl, ?_⟩
    dsimp only [List.set]
    -- turn
    refine ⟨_, rfl, _, _, rfl, rfl, _, rfl, t, _, _, 3, rfl, rfl, ht, rfl, ?_⟩
    dsimp only [List.set]
    have b1 : But [t] H (upd H t (.lst [.ref cl, .int i, .int r, .int (tn + 1)])) := (But.refl _ _).upd (.inl (by simp))
    have hcl1 := b1 _ _ (by simpa using hne) hcl
    generalize hH1 : upd H t (.lst [.ref cl, .int i, .int r, .int (tn + 1)]) = H1 at *
    have ht1 : H1 t = some (.lst [.ref cl, .int i, .int r, .int (tn + 1)]) := by rw [← hH1, upd_same]
    have fin : ∀ (v : Int) (i' r' : Int) (H2 : Hp), 0 ≤ v → v < many → But [t] H H2 → H2 t = some (.lst [.ref cl, .int i', .int r', .int (tn + 1)]) → 0 ≤ i' → Q (.int v) H2 := by
      intro v i' r' H2 h0 h1 hb ht2 hi'
      exact k v H2 h0 h1 hb ⟨cs, i', r', tn + 1, ht2, hb _ _ (by simpa using hne) hcl, hcs, hi', by omega, by omega, hne⟩
    have cond : ∀ (x : Int), CDivN x many := fun x => ⟨by omega, by omega⟩
    have modv : ∀ (x : Int), 0 ≤ x.fmod many ∧ x.fmod many < many := fun x => ⟨Int.fmod_nonneg_of_pos _ hm0, Int.fmod_lt_of_pos _ hm0⟩
    refine ⟨_, rfl, _, _, rfl, rfl, _, rfl, ?_⟩
    by_cases hrest : 0 < r
    · refine ite_t (decide_eq_true hrest) ?_
      refine ⟨_, rfl, _, rfl, _, _, rfl, rfl, cond r, _, rfl, t, _, _, 2, rfl, rfl, ht1, rfl, ?_⟩
      dsimp only [List.set]
      refine ⟨_, rfl, _, rfl, _, _, rfl, rfl, (cond r).1, ?_⟩
      exact fin _ i _ _ (modv r).1 (modv r).2 (b1.upd (.inl (by simp))) upd_same hi0
    · refine ite_f (decide_eq_false hrest) ?_
      refine ⟨_, rfl, _, _, rfl, rfl, _, rfl, t, _, _, 1, rfl, rfl, ht1, rfl, ?_⟩
      dsimp only [List.set]
      have b2 := b1.upd (p := t) (o := .lst [.ref cl, .int (i + 1), .int r, .int (tn + 1)]) (.inl (by simp))
      have ht2 : upd H1 t (.lst [.ref cl, .int (i + 1), .int r, .int (tn + 1)]) t = _ := upd_same
      generalize upd H1 t (.lst [.ref cl, .int (i + 1), .int r, .int (tn + 1)]) = H2 at *
      refine te_gen (te := tIf _ _ _) (fun v H4 => ∃ cell : Int, v = .int cell ∧ But [t] H H4 ∧ H4 t = some (.lst [.ref cl, .int (i + 1), .int r, .int (tn + 1)])) ?_ ?_
      · intro Q' kq
        refine ⟨_, rfl, Nat.zero_le _, fun D nD => ?_⟩
        have nDH : D ≠ t := fun z => by rw [z, ht2] at nD; cases nD
        have nDc : H D = none := by
          cases z : H D with
          | none => rfl
          | some o => rw [b2 _ _ (by simpa using nDH) z] at nD; cases nD
        have b3 := b2.upd (p := D) (o := .lst []) (.inr nDc)
        have hcl3 := b3 _ _ (by simpa using hne) hcl
        have ht3 : upd H2 D (.lst []) t = _ := (upd_ne (Ne.symm nDH)).trans ht2
        refine ⟨cl, D, _, rfl, rfl, hcl3, upd_same, _, rfl, ?_⟩
        by_cases hcs0 : cs = []
        · refine ite_f (by rw [hcs0]; rfl) ?_
          exact kq _ _ ⟨11, rfl, b3, ht3⟩
        · refine ite_t (by cases cs with | nil => exact absurd rfl hcs0 | cons a b => rfl) ?_
          have hlp : 0 < cs.length := List.length_pos_iff.mpr hcs0
          refine ⟨_, rfl, _, rfl, _, rfl, cl, _, rfl, .inl hcl3, _, _, rfl, rfl, ?_, ?_⟩
          · show ((cs.map V.int).length : Int) ≠ 0
            rw [List.length_map]
            omega
          · have hl : (0 : Int) < ((cs.map V.int).length : Int) := by rw [List.length_map]; omega
            have h0 := Int.fmod_nonneg_of_pos i hl
            have h1 := Int.fmod_lt_of_pos i hl
            have hlt : (i.fmod ((cs.map V.int).length : Int)).toNat < cs.length := by rw [List.length_map] at h1 h0 ⊢; omega
            have e : i.fmod ((cs.map V.int).length : Int) = (((i.fmod ((cs.map V.int).length : Int)).toNat : Nat) : Int) := by omega
            show rIxL1 K (V.ref cl) (.int (i.fmod ((cs.map V.int).length : Int))) _ Q'
            rw [e]
            refine ⟨cl, _, _, .int cs[(i.fmod ((cs.map V.int).length : Int)).toNat], rfl, rfl, SqL.of hcl3, atI_nat (by rw [List.getElem?_map, List.getElem?_eq_getElem hlt]; rfl), ?_⟩
            exact kq _ _ ⟨_, rfl, b3, ht3⟩
      · rintro _ H4 ⟨cell, rfl, b4, ht4⟩
        dsimp only [List.set]
        have hcl4 := b4 _ _ (by simpa using hne) hcl
        refine ⟨_, rfl, _, _, rfl, rfl, ⟨by decide, by decide, by decide⟩, _, _, rfl, rfl, _, rfl, ?_⟩
        have hlen4 : ((cs.map V.int).length : Int) = cs.length := by rw [List.length_map]
        have big : ∀ (Q2 : Bool → Hp → Prop) (d : Bool), Q2 true H4 → Q2 false H4 → Q2 d H4 := fun Q2 d h1 h2 => by cases d <;> assumption
        have tail : ∀ m : Int, 0 ≤ m → 0 < many := fun _ _ => hm0
        by_cases hbig : (10 : Int) ^ (18 : Int).toNat ≤ cell
        · refine ite_t (decide_eq_true hbig) ?_
          refine ⟨_, rfl, _, rfl, cl, _, rfl, .inl hcl4, _, _, rfl, rfl, _, rfl, ?_⟩
          by_cases hin : i < ((cs.map V.int).length : Int)
          · refine ite_t (decide_eq_true hin) ?_
            refine ⟨_, rfl, _, rfl, _, _, rfl, rfl, cond cell, _, rfl, t, _, _, 2, rfl, rfl, ht4, rfl, ?_⟩
            refine ⟨_, rfl, _, rfl, _, _, rfl, rfl, (cond cell).1, ?_⟩
            exact fin _ (i + 1) _ _ (modv cell).1 (modv cell).2 (b4.upd (.inl (by simp))) upd_same (by omega)
          · refine ite_f (decide_eq_false hin) ?_
            have m1 : 0 ≤ cell % 2147483549 ∧ cell % 2147483549 < 2147483549 := by omega
            have m2 : 0 ≤ cell % 999983 ∧ cell % 999983 < 999983 := by omega
            refine ⟨_, rfl, _, _, rfl, rfl, (by show (0 : Int) < _; decide), _, rfl, _, _, rfl, rfl, _, _, rfl, rfl, .inl ⟨by decide, by decide⟩, _, _, rfl, rfl, _, _, rfl, rfl, ⟨by decide, by decide, by omega⟩, _, _, rfl, rfl, (by show (0 : Int) < _; decide), ?_⟩
            have x1 : ∀ z : Int, 0 ≤ z % 2147483629 ∧ z % 2147483629 < 2147483629 := fun z => by omega
            have y1 := x1 ((cell % 2147483549 + 5915587 * (tn + 3)) ^ (2 : Int).toNat)
            generalize (cell % 2147483549 + 5915587 * (tn + 3)) ^ (2 : Int).toNat % 2147483629 = mx at *
            dsimp only [List.set]
            refine ⟨_, rfl, _, rfl, _, _, rfl, rfl, .inl ⟨by decide, by decide⟩, _, _, rfl, rfl, _, _, rfl, rfl, _, _, rfl, rfl, ⟨by decide, by decide, by omega⟩, _, _, rfl, rfl, (by show (0 : Int) < _; decide), ?_⟩
            have x2 : ∀ z : Int, 0 ≤ z % 2147483647 ∧ z % 2147483647 < 2147483647 := fun z => by omega
            have y2 := x2 ((mx + 7368791 * tn + 5) ^ (2 : Int).toNat)
            generalize (mx + 7368791 * tn + 5) ^ (2 : Int).toNat % 2147483647 = my at *
            dsimp only [List.set]
            refine ⟨_, rfl, _, rfl, _, _, rfl, rfl, (by show (0 : Int) < _; decide), _, _, rfl, rfl, .inr ⟨by decide, by decide⟩, _, _, rfl, rfl, _, rfl, _, _, rfl, rfl, _, _, rfl, rfl, ⟨by decide, by decide, by omega⟩, _, _, rfl, rfl, (by show (0 : Int) < _; decide), ?_⟩
            dsimp only [List.set]
            refine ⟨_, rfl, _, _, rfl, rfl, ⟨by decide, by decide⟩, _, rfl, _, _, rfl, rfl, (cond cell).1, ?_⟩
            exact fin _ (i + 1) _ _ (modv _).1 (modv _).2 b4 ht4 (by omega)
        · refine ite_f (decide_eq_false hbig) (ite_f rfl ?_)
          · have m1 : 0 ≤ cell % 2147483549 ∧ cell % 2147483549 < 2147483549 := by omega
            have m2 : 0 ≤ cell % 999983 ∧ cell % 999983 < 999983 := by omega
            refine ⟨_, rfl, _, _, rfl, rfl, (by show (0 : Int) < _; decide), _, rfl, _, _, rfl, rfl, _, _, rfl, rfl, .inl ⟨by decide, by decide⟩, _, _, rfl, rfl, _, _, rfl, rfl, ⟨by decide, by decide, by omega⟩, _, _, rfl, rfl, (by show (0 : Int) < _; decide), ?_⟩
            have x1 : ∀ z : Int, 0 ≤ z % 2147483629 ∧ z % 2147483629 < 2147483629 := fun z => by omega
            have y1 := x1 ((cell % 2147483549 + 5915587 * (tn + 3)) ^ (2 : Int).toNat)
            generalize (cell % 2147483549 + 5915587 * (tn + 3)) ^ (2 : Int).toNat % 2147483629 = mx at *
            dsimp only [List.set]
            refine ⟨_, rfl, _, rfl, _, _, rfl, rfl, .inl ⟨by decide, by decide⟩, _, _, rfl, rfl, _, _, rfl, rfl, _, _, rfl, rfl, ⟨by decide, by decide, by omega⟩, _, _, rfl, rfl, (by show (0 : Int) < _; decide), ?_⟩
            have x2 : ∀ z : Int, 0 ≤ z % 2147483647 ∧ z % 2147483647 < 2147483647 := fun z => by omega
            have y2 := x2 ((mx + 7368791 * tn + 5) ^ (2 : Int).toNat)
            generalize (mx + 7368791 * tn + 5) ^ (2 : Int).toNat % 2147483647 = my at *
            dsimp only [List.set]
            refine ⟨_, rfl, _, rfl, _, _, rfl, rfl, (by show (0 : Int) < _; decide), _, _, rfl, rfl, .inr ⟨by decide, by decide⟩, _, _, rfl, rfl, _, rfl, _, _, rfl, rfl, _, _, rfl, rfl, ⟨by decide, by decide, by omega⟩, _, _, rfl, rfl, (by show (0 : Int) < _; decide), ?_⟩
            dsimp only [List.set]
            refine ⟨_, rfl, _, _, rfl, rfl, ⟨by decide, by decide⟩, _, rfl, _, _, rfl, rfl, (cond cell).1, ?_⟩
            exact fin _ (i + 1) _ _ (modv _).1 (modv _).2 b4 ht4 (by omega)
end
end Pk
end
section
set_option Elab.async false
set_option linter.all false
set_option maxRecDepth 100000
set_option maxHeartbeats 8000000
namespace Pk
open PySem PySem.Spec PyProof.Rows L2 FL
section
variable {P : Program} {w : World} {K : PySem.W.Frag} {mg : Str → Option Value} {base : Heap} {C : Addr}
def spLHas : Sp := fun vs H Q _ => ∃ rv rows f ov o, vs = [rv, .str f, ov] ∧ RowsR H rv rows ∧ rows.length ≤ 1000 ∧ OptSh H ov o ∧ (∀ T, o = some T → T.length ≤ 1000) ∧ ∀ z H', Same H H' → Q (.int z) H'
theorem sc_law_has : FnScope ["_law_rows_here", "_law_form", "_law_shades", "_law_own", "_law_shade", "_law_many"] ["_law_rows_here", "_law_form", "_law_shades"] (defScope s_law_has) := ⟨rfl, rfl, rfl, by decide +kernel, rfl, by decide +kernel, by decide +kernel⟩
def lhF (f : Str) (o : Option (List Str)) (r : Str × Str × Int) : Option Int := if r.1 = f ∧ (∀ T, o = some T → r.2.1 ∈ T) then some r.2.2 else none
theorem c_law_has (T : Txt K mg C) : Cal P w K mg base CX0 1 "_law_has" ["_law_rows_here", "_law_form", "_law_shades"] spLHas := by
  refine Cal.mk' T.d_law_has sc_law_has (fun vs H Q E h => ?_) (fun _ _ _ _ _ _ us hl => match us, hl with | [_, _, _], _ => rfl) (fun f cdv A outer s H vs Q E hr h => ?_)
  · obtain ⟨rv, rows, f, ov, o, rfl, _⟩ := h
    rfl
  · obtain ⟨rv, rows, f, ov, o, rfl, ⟨ra, rxs, rfl, hra, hrall⟩, hlen, ho, hol, k⟩ := h
    have sc := sc_law_has
    refine ⟨_, (pss_one (ps_ret (pe_callB (sum1 rfl) (by rfl) T.sum (by decide +kernel) (pa_cons (pe_lc (own := [("_law_own", 3), ("_law_shade", 4), ("_law_many", 5)]) rfl sc.nd (piT K (pv 0)) (blkOk_by (N := ["_law_rows_here", "_law_form", "_law_shades", "_law_own", "_law_shade", "_law_many"]) (sc := defScope s_law_has) (own := [("_law_own", 3), ("_law_shade", 4), ("_law_many", 5)]) (by decide +kernel)) (fun _ _ _ _ _ => (pgT K (n := 3) rfl (pgs_cons (pg_name (i := 3) sc.nd rfl (.inl rfl)) (pgs_cons (pg_name (i := 4) sc.nd rfl (.inl rfl)) (pgs_cons (pg_name (i := 5) sc.nd rfl (.inl rfl)) pgs_nil))))) (fun _ _ _ _ _ => (pts_one (PW.pt (pw_and (pt_cmpR op_eq (pv 3) (pv 1) (nomark _)) (pw_and1 (PW.pt (pw_or (pt_cmpR op_isN (pv 2) pe_non (nomark _)) (pw_or1 (pt_cmpR inT (pv 4) (pv 2) (by rfl)))))))))) (fun _ _ _ _ _ => (pv 5))) pa_nil)))), ?_⟩
    refine ⟨_, rfl, ra, rfl, ⟨_, SqT.of hra⟩, fun D nD => ?_⟩
    refine lc_typed (walk_tup (K := K) (a := ra) (xs := rxs)) nD IntR IntR.mo (fun i => (rows[i]?).bind (lhF f o)) (by rw [hrall.length]; omega) (fun H3 s3 => SqT.of (s3 _ _ hra)) (fun i y H3 H4 hi s3 hY kt kf => ?_) (fun H1 acc s1 hD hacc => ?_)
    · obtain ⟨rfl, hy⟩ := hY
      obtain ⟨x, hx, a, rfl, ha⟩ := hrall.get hy
      have ha3 := s3 _ _ ha
      dsimp only [List.map, wipe, List.set]
      refine ⟨a, _, rfl, SqT.of ha3, rfl, _, _, rfl, _, _, rfl, _, _, rfl, rfl, rfl, ?_⟩
      refine ⟨_, rfl, _, rfl, rfl, _, rfl, ?_⟩
      have no : lhF f o x = none → (rows[i]?).bind (lhF f o) = none := fun z => by rw [hx]; exact z
      have yes : lhF f o x = some x.2.2 → (rows[i]?).bind (lhF f o) = some x.2.2 := fun z => by rw [hx]; exact z
      by_cases hf : x.1 = f
      · refine ite_t (decide_eq_true (congrArg V.str hf)) ?_
        cases o with
        | none =>
          obtain rfl : ov = .non := ho
          refine ⟨_, rfl, rfl, _, rfl, ite_t rfl (ite_t rfl ?_)⟩
          exact ⟨_, rfl, kt _ _ x.2.2 (Same.refl _) (yes (if_pos ⟨hf, fun T e => by cases e⟩)) rfl⟩
        | some T' =>
          obtain ⟨c, rfl, hc⟩ := ho
          refine ⟨_, rfl, rfl, _, rfl, ite_f rfl ?_⟩
          refine ⟨_, rfl, _, rfl, c, _, rfl, s3 _ _ hc, rfl, strs_flat _, _, rfl, ?_⟩
          rw [inV_str]
          by_cases hT : x.2.1 ∈ T'
          · refine ite_t (decide_eq_true hT) ?_
            exact ⟨_, rfl, kt _ _ x.2.2 (Same.refl _) (yes (if_pos ⟨hf, fun T e => by cases e; exact hT⟩)) rfl⟩
          · refine ite_f (decide_eq_false hT) ?_
            exact kf _ (Same.refl _) (no (if_neg fun z => hT (z.2 _ rfl)))
      · refine ite_f (decide_eq_false fun z => hf (V.str.inj z)) ?_
        refine ite_f rfl ?_
        exact kf _ (Same.refl _) (no (if_neg fun z => hf z.1))
    · have := all2_int hacc
      subst this
      exact ⟨D, _, rfl, hD, k _ H1 s1⟩
def spLWanted : Sp := fun vs H Q _ => ∃ u ws f ov o, vs = [u, .str f, ov] ∧ WantsR H u ws ∧ WantsOK ws ∧ OptSh H ov o ∧ (∀ T, o = some T → T.length ≤ 1000) ∧ ∀ z H', Same H H' → Q (.int z) H'
theorem sc_law_wanted : FnScope ["_law_wants_here", "_law_form", "_law_shades", "_law_found", "_law_own", "_law_some_here", "_law_many", "_law_strange", "_law_one"] ["_law_wants_here", "_law_form", "_law_shades"] (defScope s_law_wanted) := ⟨rfl, rfl, rfl, by decide +kernel, rfl, by decide +kernel, by decide +kernel⟩
theorem c_law_wanted (T : Txt K mg C) : Cal P w K mg base CX0 1 "_law_wanted" ["_law_wants_here", "_law_form", "_law_shades"] spLWanted := by
  refine Cal.mk' T.d_law_wanted sc_law_wanted (fun vs H Q E h => ?_) (fun _ _ _ _ _ _ us hl => match us, hl with | [_, _, _], _ => rfl) (fun f cdv A outer s H vs Q E hr h => ?_)
  · obtain ⟨u, ws, f, ov, o, rfl, _⟩ := h
    rfl
  · obtain ⟨u, ws, f, ov, o, rfl, ⟨wa, wxs, rfl, hwa, hwall⟩, wok, ho, hol, k⟩ := h
    have sc := sc_law_wanted
    have hu := hu_of hr
    refine ⟨_, (pss_cons (ps_set (i := 3) sc.nd rfl (.inl rfl) pe_int)
      (pss_cons (ps_for PassesOwn.never rfl (piT K (pv 0)) (pgT K (n := 3) rfl (pgs_cons (pg_name (i := 4) sc.nd rfl (.inl rfl)) (pgs_cons (pg_name (i := 5) sc.nd rfl (.inl rfl)) (pgs_cons (pg_name (i := 6) sc.nd rfl (.inl rfl)) pgs_nil)))) (pss_cons (ps_set (i := 7) sc.nd rfl (.inl rfl) (pe_ifExp (pt_cmpR op_isN (pv 2) pe_non (nomark _)) (pe_lst pa_nil) (pe_lc (own := [("_law_one", 8)]) rfl sc.nd (piT K (pv 5)) (blkOk_by (N := ["_law_wants_here", "_law_form", "_law_shades", "_law_found", "_law_own", "_law_some_here", "_law_many", "_law_strange", "_law_one"]) (sc := defScope s_law_wanted) (own := [("_law_one", 8)]) (by decide +kernel)) (fun _ _ _ _ _ => (pg_name (i := 8) sc.nd rfl (.inl rfl))) (fun _ _ _ _ _ => (pts_one (pt_cmpR notInT (pv 8) (pv 2) (by rfl)))) (fun _ _ _ _ _ => (pv 8)))))
      (pss_one (ps_if (PW.pt (pw_and (pt_cmpR op_eq (pv 4) (pv 1) (nomark _)) (pw_and (pt_cmpR (eqEmpL hu) (pv 7) (pe_lst pa_nil) (nomark _)) (pw_and1 (PW.pt (pw_or (pt_cmpR op_isN (pv 2) pe_non (nomark _)) (pw_or1 (pt_cmpR (neEmpT hu) (pv 5) (pe_tup pa_nil) (nomark _))))))))) (pss_one (ps_set (i := 3) sc.nd rfl (.inl rfl) (pe_op op_add (pv 3) (pv 6)))) pss_nil))))
      (pss_one (ps_ret (pv 3))))), ?_⟩
    refine ⟨_, rfl, wa, rfl, ⟨_, SqT.of hwa⟩, for_tup (K := K) (a := wa) (xs := wxs) (fun i σ H2 => ∃ (z : Int), ∃ v4 v5 v6 v7, σ = [some (.ref wa), some (.str f), some ov, some (.int z), v4, v5, v6, v7, none] ∧ Same H H2)
      ⟨0, none, none, none, none, rfl, Same.refl _⟩ (fun i σ H2 _ ⟨_, _, _, _, _, _, s⟩ => SqT.of (s _ _ hwa)) ?_ ?_⟩
    · rintro i y σ H2 hi ⟨z, v4, v5, v6, v7, rfl, s2⟩
      obtain ⟨x, hx, a, b, rfl, ha, hb⟩ := hwall.get hi
      have ha2 := s2 _ _ ha
      have hb2 := s2 _ _ hb
      have xok := wok.all _ (List.mem_of_getElem? hx)
      refine ⟨a, _, rfl, SqT.of ha2, rfl, _, _, rfl, _, _, rfl, _, _, rfl, rfl, ?_⟩
      dsimp only [List.set]
      refine te_gen (te := tIf _ _ _) (fun v H4 => ∃ l xs, v = .ref l ∧ Same H2 H4 ∧ H4 l = some (.lst xs)) ?_ ?_
      · intro Q' kq
        refine ⟨_, rfl, rfl, _, rfl, ?_⟩
        cases o with
        | none =>
          obtain rfl : ov = .non := ho
          refine ite_t rfl ?_
          exact ⟨Nat.zero_le _, fun D nD => kq _ _ ⟨D, [], rfl, same_new nD, upd_same⟩⟩
        | some T' =>
          obtain ⟨c, rfl, hc⟩ := ho
          refine ite_f rfl ?_
          refine ⟨_, rfl, b, rfl, ⟨_, SqT.of hb2⟩, fun D nD => ?_⟩
          refine lc_typed (walk_tup (K := K) (a := b) (xs := x.2.1.map V.str)) nD StrR StrR.mo (fun j => (x.2.1[j]?).bind fun t => if t ∈ T' then none else some t) (by have := xok.len; rw [List.length_map]; omega) (fun H3 s3 => SqT.of (s3 _ _ hb2)) (fun j y H3 H4 hj s3 hY kt kf => ?_) (fun H1 acc s1 hD hacc => ?_)
          · obtain ⟨rfl, hy⟩ := hY
            rw [List.getElem?_map] at hy
            obtain ⟨t, ht, rfl⟩ := Option.map_eq_some_iff.mp hy
            dsimp only [List.map, wipe, List.set]
            refine ⟨rfl, ?_⟩
            refine ⟨_, rfl, _, rfl, c, _, rfl, (s2.trans s3) _ _ hc, rfl, strs_flat _, _, rfl, ?_⟩
            rw [inV_str]
            by_cases hT : t ∈ T'
            · refine ite_f (by rw [decide_eq_true hT]; rfl) ?_
              exact kf _ (Same.refl _) (by rw [ht]; exact if_pos hT)
            · refine ite_t (by rw [decide_eq_false hT]; rfl) ?_
              exact ⟨_, rfl, kt _ _ t (Same.refl _) (by rw [ht]; exact if_neg hT) rfl⟩
          · exact kq _ _ ⟨D, acc, rfl, s1, hD⟩
      · rintro _ H4 ⟨l, xs, rfl, s4, hl⟩
        dsimp only [List.set]
        have fin : ∀ (z' : Int) H5, Same H4 H5 → ∃ (z : Int), ∃ v4 v5 v6 v7, [some (V.ref wa), some (.str f), some ov, some (.int z'), some (.str x.1), some (.ref b), some (.int x.2.2), some (.ref l), none] = [some (.ref wa), some (.str f), some ov, some (.int z), v4, v5, v6, v7, none] ∧ Same H H5 := fun z' H5 s5 => ⟨z', _, _, _, _, rfl, (s2.trans s4).trans s5⟩
        refine ⟨_, rfl, _, rfl, rfl, _, rfl, ?_⟩
        by_cases hf : x.1 = f
        · refine ite_t (decide_eq_true (congrArg V.str hf)) ?_
          refine ⟨_, rfl, Nat.zero_le _, fun E1 nE => ?_⟩
          have s5 := same_new (o := .lst []) nE
          refine ⟨l, E1, _, rfl, rfl, s5 _ _ hl, upd_same, _, rfl, ?_⟩
          by_cases hxs : xs = []
          · refine ite_t (by rw [hxs]; rfl) ?_
            refine ⟨_, rfl, rfl, _, rfl, ?_⟩
            cases o with
            | none =>
              obtain rfl : ov = .non := ho
              refine ite_t rfl (ite_t rfl ?_)
              exact ⟨_, rfl, _, rfl, _, _, rfl, rfl, fin _ _ s5⟩
            | some T' =>
              obtain ⟨c, rfl, hc⟩ := ho
              refine ite_f rfl ?_
              refine ⟨_, rfl, Nat.zero_le _, fun E2 nE2 => ?_⟩
              have s6 := same_new (o := .tup []) nE2
              refine ⟨b, E2, _, rfl, rfl, s6 _ _ (s5 _ _ (s4 _ _ hb2)), upd_same, _, rfl, ?_⟩
              by_cases he : x.2.1 = []
              · refine ite_f (by rw [he]; rfl) ?_
                exact fin z _ (s5.trans s6)
              · refine ite_t (by cases q : x.2.1 with | nil => exact absurd q he | cons _ _ => rfl) ?_
                exact ⟨_, rfl, _, rfl, _, _, rfl, rfl, fin _ _ (s5.trans s6)⟩
          · refine ite_f (by cases q : xs with | nil => exact absurd q hxs | cons _ _ => rfl) (ite_f rfl ?_)
            exact fin z _ s5
        · refine ite_f (decide_eq_false fun z => hf (V.str.inj z)) ?_
          refine ite_f rfl ?_
          exact fin z _ (Same.refl _)
    · rintro σ H2 ⟨z, v4, v5, v6, v7, rfl, s2⟩
      exact ⟨_, rfl, k z H2 s2⟩
end
end Pk
end
section
set_option Elab.async false
set_option linter.all false
set_option maxRecDepth 100000
set_option maxHeartbeats 8000000
namespace Pk
open PySem PySem.Spec PyProof.Rows L2 FL
/-- the words: a tuple of two lists -/
def WordsR (H : Hp) (tp t : Addr) (fs ss : List Str) : Prop := ∃ lf ls, H t = some (.tup [.ref lf, .ref ls]) ∧ H lf = some (.lst (fs.map V.str)) ∧ H ls = some (.lst (ss.map V.str)) ∧ lf ≠ tp ∧ ls ≠ tp ∧ t ≠ tp
structure WordsC (fs ss : List Str) : Prop where
  fm : ∀ f ∈ fs, f ∈ FM
  sh : ∀ s ∈ ss, s ∈ SH
  nd : ss.Nodup
  f1 : 1 ≤ fs.length
  f2 : fs.length ≤ 5
  s1 : 1 ≤ ss.length
  s2 : ss.length ≤ 5
theorem WordsR.but {H H' : Hp} {tp t : Addr} {fs ss : List Str} (h : WordsR H tp t fs ss) (b : But [tp] H H') : WordsR H' tp t fs ss := by
  obtain ⟨lf, ls, h1, h2, h3, n1, n2, n3⟩ := h
  exact ⟨lf, ls, b _ _ (by simpa using n3) h1, b _ _ (by simpa using n1) h2, b _ _ (by simpa using n2) h3, n1, n2, n3⟩
theorem TapC.upd {H : Hp} {t cl p : Addr} {n : Nat} {o : HO} (h : TapC H t cl n) (e1 : t ≠ p) (e2 : cl ≠ p) : TapC (L2.upd H p o) t cl n := by
  obtain ⟨cs, i, r, k, h1, h2, h3⟩ := h
  exact ⟨cs, i, r, k, by rw [upd_ne e1]; exact h1, by rw [upd_ne e2]; exact h2, h3⟩
theorem three_new {H : Hp} {a b c : Addr} {o1 o2 o3 : HO} (na : H a = none) (nb : upd H a o1 b = none) (nc : upd (upd H a o1) b o2 c = none) :
    Same H (upd (upd (upd H a o1) b o2) c o3) ∧ upd (upd (upd H a o1) b o2) c o3 a = some o1 ∧ upd (upd (upd H a o1) b o2) c o3 b = some o2 ∧ upd (upd (upd H a o1) b o2) c o3 c = some o3 ∧ b ≠ a ∧ H b = none ∧ H c = none := by
  have s1 := same_new (o := o1) na
  have s2 := same_new (o := o2) nb
  have s3 := same_new (o := o3) nc
  have hne : b ≠ a := fun z => by rw [z, upd_same] at nb; cases nb
  refine ⟨(s1.trans s2).trans s3, s3 _ _ (s2 _ _ upd_same), s3 _ _ upd_same, upd_same, hne, by rw [upd_ne hne] at nb; exact nb, ?_⟩
  cases z : H c with
  | none => rfl
  | some o => rw [(s1.trans s2) _ _ z] at nc; cases nc
theorem but_none {S : List Addr} {H H' : Hp} (b : But S H H') {p : Addr} (hp : p ∉ S) (e : H' p = none) : H p = none := by
  cases z : H p with
  | none => rfl
  | some o => rw [b _ _ hp z] at e; cases e
theorem erase_perm {α : Type} : ∀ (l : List α) (i : Nat) (h : i < l.length), (l.eraseIdx i ++ [l[i]]).Perm l
  | [], i, h => by simp at h
  | a :: r, 0, _ => by
    show (r ++ [a]).Perm (a :: r)
    exact List.perm_append_comm
  | a :: r, i + 1, h => by
    show (a :: (r.eraseIdx i ++ [r[i]'(by simpa using h)])).Perm (a :: r)
    exact (erase_perm r i (by simpa using h)).cons a
theorem eraseIdx_mp {α β : Type} (f : α → β) : ∀ (l : List α) (i : Nat), (l.map f).eraseIdx i = (l.eraseIdx i).map f
  | [], _ => rfl
  | _ :: _, 0 => rfl
  | a :: r, i + 1 => by
    show f a :: (r.map f).eraseIdx i = f a :: (r.eraseIdx i).map f
    rw [eraseIdx_mp f r i]
section
variable {X : Cx} (K : PySem.W.Frag) {o e : Expr} {es : List Expr} {to : TE} {t : TA} {name : Str} {apos cpos : Pos} {T id : String} {r : V → List V → Hp → VK → Prop}
theorem pe_bmK (pa : PlainAttrs T) (slot : Slot T name id) (hty : typeOf (.builtin id) = pure (.type "method_descriptor")) (hm : MtR X id r) (ho : PE X o to) (ha : PA X (e :: es) t)
    (hbase : attributeBase o name X.env (eval o X.env) = eval o X.env := by rfl)
    (hfew : ((backTo cpos (starEach (e :: es) X.env)).all (fun x => !x.1) && (backToKw cpos (keywordEach [] X.env)).all (fun x => x.1.isSome)
      && decide ((e :: es).length + ([] : List Keyword).length + (if ([] : List Keyword).isEmpty then 0 else 1) < 30)) = true := by rfl)
    (hline : (apos.endLine == cpos.line) = true := by rfl) (hs : starEach (e :: es) X.env = (false, eval e X.env) :: starEach es X.env := by rfl) (hplain : (backTo cpos (starEach es X.env)).any (·.1) = false := by rfl) (h : X.K = K := by rfl) :
    PE X (.Call (.Attribute o name apos) (e :: es) [] cpos) (tBM K T r to t) := h ▸ pe_bm pa slot hty hm ho ha hbase hfew hline hs hplain
end
section
variable {P : Program} {w : World} {K : PySem.W.Frag} {mg : Str → Option Value} {base : Heap} {C : Addr}
/-- l.pop(_law_pick(tap, len(l))) -/
theorem pop_turn {L fs : List Str} {acc : List Str} {tp cl Fl D : Addr} {n : Nat} {H : Hp} {Q : VK} {E : XK} (hT : TapC H tp cl n) (hn : n ≤ 60000) (hF : H Fl = some (.lst (fs.map V.str))) (hD : H D = some (.lst (acc.map V.str))) (hp : (fs ++ acc).Perm L) (h1 : 0 < fs.length) (h2 : fs.length ≤ 50)
    (e1 : tp ≠ Fl) (e2 : cl ≠ Fl) (e3 : D ≠ Fl) (e4 : D ≠ tp)
    (k : ∀ y fs' H', But [tp, Fl] H H' → TapC H' tp cl (n + 1) → H' Fl = some (.lst (fs'.map V.str)) → H' D = some (.lst (acc.map V.str)) → (fs' ++ (acc ++ [y])).Perm L → fs'.length + 1 = fs.length → Q (.str y) H') :
    spPick [.ref tp, .int ((fs.map V.str).length : Nat)] H (fun v H4 => rPopAt (.ref Fl) [v] H4 Q) E := by
  refine ⟨tp, cl, _, n, rfl, hT, by omega, by rw [List.length_map]; omega, by rw [List.length_map]; omega, fun r H4 h0 h1' b4 hT4 => ?_⟩
  rw [List.length_map] at h1'
  have hF4 := b4 _ _ (by simpa using Ne.symm e1) hF
  have hD4 := b4 _ _ (by simpa using e4) hD
  have hlt : r.toNat < fs.length := by omega
  refine ⟨Fl, _, r, r.toNat, .str fs[r.toNat], rfl, rfl, hF4, by omega, by omega, seqIndex_of h0 (by rw [List.length_map]; omega), by rw [List.getElem?_map, List.getElem?_eq_getElem hlt]; rfl, ?_⟩
  rw [eraseIdx_mp]
  have b5 : But [tp, Fl] H (upd H4 Fl (.lst ((fs.eraseIdx r.toNat).map V.str))) := (b4.mono fun a ha => by simp at ha; simp [ha]).upd (.inl (by simp))
  refine k _ _ _ b5 ?_ upd_same (by rw [upd_ne e3]; exact hD4) ?_ ?_
  · obtain ⟨cs, i, r', k', t1, t2, t3⟩ := hT4
    exact ⟨cs, i, r', k', by rw [upd_ne e1]; exact t1, by rw [upd_ne e2]; exact t2, t3⟩
  · refine List.Perm.trans ?_ hp
    have : (fs.eraseIdx r.toNat ++ (acc ++ [fs[r.toNat]])).Perm ((fs.eraseIdx r.toNat ++ [fs[r.toNat]]) ++ acc) := by
      rw [List.append_assoc]
      exact List.Perm.append_left _ List.perm_append_comm
    exact this.trans ((erase_perm fs r.toNat hlt).append_right acc)
  · rw [List.length_eraseIdx, if_pos hlt]
    omega
/-- what a comprehension of pops leaves at its turns -/
def PopS (L : List Str) (H3 : Hp) (tp cl Fl D : Addr) (n i : Nat) (H : Hp) : Prop := But [tp, Fl] H3 H ∧ TapC H tp cl (n + i) ∧ ∃ fs acc : List Str, H Fl = some (.lst (fs.map V.str)) ∧ H D = some (.lst (acc.map V.str)) ∧ (fs ++ acc).Perm L ∧ fs.length + i = L.length ∧ acc.length = i
theorem PopS.start {L : List Str} {H3 : Hp} {tp cl Fl D : Addr} {n : Nat} (hT : TapC H3 tp cl n) (nD : H3 D = none) (hF : H3 Fl = some (.lst (L.map V.str))) : PopS L H3 tp cl Fl D n 0 (upd H3 D (.lst [])) :=
  ⟨But.of (same_new nD), TapC.same (same_new nD) hT, L, [], same_new nD _ _ hF, upd_same, by rw [List.append_nil], rfl, rfl⟩
theorem PopS.next {L : List Str} {H3 H5 H7 : Hp} {tp cl Fl D : Addr} {n i : Nat} {fs' acc : List Str} {y : Str} (b5 : But [tp, Fl] H3 H5) (b7 : But [tp, Fl] H5 H7) (hT7 : TapC H7 tp cl (n + i + 1)) (hF7 : H7 Fl = some (.lst (fs'.map V.str))) (hp : (fs' ++ (acc ++ [y])).Perm L) (hl : fs'.length + (i + 1) = L.length) (ha : acc.length = i)
    (nD : H3 D = none) (e4 : D ≠ tp) (e2 : cl ≠ D) (e3 : D ≠ Fl) : PopS L H3 tp cl Fl D n (i + 1) (upd H7 D (.lst (acc.map V.str ++ [.str y]))) :=
  ⟨(b5.trans b7).upd (.inr nD), hT7.upd (Ne.symm e4) e2, fs', acc ++ [y], by rw [upd_ne (Ne.symm e3)]; exact hF7, by rw [upd_same, List.map_append]; rfl, hp, hl, by rw [List.length_append, ha]; rfl⟩
def spWords : Sp := fun vs H Q _ => ∃ (tp cl : Addr) (n : Nat), vs = [.ref tp] ∧ TapC H tp cl n ∧ n ≤ 50000 ∧ ∀ t H' fs ss, But [tp] H H' → TapC H' tp cl (n + 200) → WordsR H' tp t fs ss → WordsC fs ss → Q (.ref t) H'
theorem sc_law_words : FnScope ["_law_tap_here", "_law_forms", "_law_shades", "_law_some_here", "_law_many", "_law_k"] ["_law_tap_here"] (defScope s_law_words) := ⟨rfl, rfl, rfl, by decide +kernel, rfl, by decide +kernel, by decide +kernel⟩
theorem c_law_words (T : Txt K mg C) : Cal P w K mg base CX0 2 "_law_words" ["_law_tap_here"] spWords := by
  have C_law_pick : Cal P w K mg base CX0 1 "_law_pick" ["_law_tap_here", "_law_many"] spPick := c_law_pick T
  refine Cal.mk' T.d_law_words sc_law_words (fun vs H Q E h => ?_) (fun _ _ _ _ _ _ us hl => match us, hl with | [_], _ => rfl) (fun f cdv A outer s H vs Q E hr h => ?_)
  · obtain ⟨tp, cl, n, rfl, _⟩ := h
    rfl
  · obtain ⟨tp, cl, n, rfl, hT, hn, k⟩ := h
    have sc := sc_law_words
    refine ⟨_, (pss_cons (ps_asg (pe_tup (pa_cons (pe_lst (pa_cons pe_str (pa_cons pe_str (pa_cons pe_str (pa_cons pe_str pa_nil))))) (pa_cons (pe_lst (pa_cons pe_str (pa_cons pe_str (pa_cons pe_str (pa_cons pe_str (pa_cons pe_str pa_nil)))))) pa_nil))) (pgT K (n := 2) rfl (pgs_cons (pg_name (i := 1) sc.nd rfl (.inr rfl)) (pgs_cons (pg_name (i := 2) sc.nd rfl (.inr rfl)) pgs_nil))))
      (pss_cons (ps_setLc (i := 3) (own := [("_law_k", 5)]) rfl sc.nd rfl rfl (sw_true rfl rfl rfl (by decide +kernel)) (pi_range1 rfl T.range (pa_cons (pe_op op_add pe_int (pe_cal C_law_pick hr (pa_cons (pv 0) (pa_cons pe_int pa_nil)))) pa_nil)) (blkOk_by (N := ["_law_tap_here", "_law_forms", "_law_shades", "_law_some_here", "_law_many", "_law_k"]) (sc := defScope s_law_words) (own := [("_law_k", 5)]) (by decide +kernel)) (fun _ _ _ _ _ => (pg_name (i := 5) sc.nd rfl (.inl rfl))) (fun _ _ _ _ _ => pts_nil) (fun _ _ _ _ _ => (pe_bmK K PySem.F.plainAttrs_list PySem.F.slot_list_pop PySem.F.type_list_pop mt_popAt (pv 1) (pa_cons (pe_cal C_law_pick hr (pa_cons (pv 0) (pa_cons (pe_callB len1 (by rfl) T.len PySem.boot_len (pa_cons (pv 1) pa_nil)) pa_nil))) pa_nil))))
      (pss_cons (ps_set (i := 4) sc.nd rfl (.inl rfl) (pe_op op_add pe_int (pe_cal C_law_pick hr (pa_cons (pv 0) (pa_cons pe_int pa_nil)))))
      (pss_one (ps_ret (pe_tup (pa_cons (pe_callB cr_sortedS (by rfl) T.sorted (by decide +kernel) (pa_cons (pv 3) pa_nil)) (pa_cons (pe_callB cr_sortedS (by rfl) T.sorted (by decide +kernel) (pa_cons (pe_lc (own := [("_law_k", 5)]) rfl sc.nd (pi_range1 rfl T.range (pa_cons (pv 4) pa_nil)) (blkOk_by (N := ["_law_tap_here", "_law_forms", "_law_shades", "_law_some_here", "_law_many", "_law_k"]) (sc := defScope s_law_words) (own := [("_law_k", 5)]) (by decide +kernel)) (fun _ _ _ _ _ => (pg_name (i := 5) sc.nd rfl (.inl rfl))) (fun _ _ _ _ _ => pts_nil) (fun _ _ _ _ _ => (pe_bmK K PySem.F.plainAttrs_list PySem.F.slot_list_pop PySem.F.type_list_pop mt_popAt (pv 2) (pa_cons (pe_cal C_law_pick hr (pa_cons (pv 0) (pa_cons (pe_callB len1 (by rfl) T.len PySem.boot_len (pa_cons (pv 2) pa_nil)) pa_nil))) pa_nil)))) pa_nil)) pa_nil)))))))), ?_⟩
    refine ⟨(by show 4 ≤ sizeLine; decide), fun Fl nF => ⟨(by show 5 ≤ sizeLine; decide), fun Sl nS => ⟨(by show 2 ≤ sizeLine; decide), fun t0 nt0 => ?_⟩⟩⟩
    obtain ⟨sA, hF0, hS0, ht0, nFS, nS0, ntp⟩ := three_new nF nS nt0 (o3 := .tup [.ref Fl, .ref Sl])
    refine ⟨t0, _, rfl, SqT.of ht0, rfl, _, _, rfl, _, _, rfl, rfl, ?_⟩
    dsimp only [List.set]
    obtain ⟨eF1, eF2⟩ := hT.t_ne nF
    obtain ⟨eS1, eS2⟩ := hT.t_ne nS0
    refine ⟨_, rfl, tp, cl, 2, n, rfl, TapC.same sA hT, by omega, by decide, by decide, fun r H4 r0 r1 b4 hT4 => ?_⟩
    have hF4 : H4 Fl = some (.lst (FM.map V.str)) := b4 _ _ (by simpa using Ne.symm eF1) hF0
    have hS4 : H4 Sl = some (.lst (SH.map V.str)) := b4 _ _ (by simpa using Ne.symm eS1) hS0
    have bA : But [tp] H H4 := (But.of sA).trans b4
    refine ⟨_, _, rfl, rfl, 2 + r, rfl, by omega, by omega, fun D nD => ?_⟩
    obtain ⟨eD1, eD2⟩ := hT4.t_ne nD
    have eDF : D ≠ Fl := fun z => by rw [z, hF4] at nD; cases nD
    have eDS : D ≠ Sl := fun z => by rw [z, hS4] at nD; cases nD
    have nD0 : H D = none := but_none bA (by simpa using Ne.symm eD1) nD
    have hr3 : (2 + r).toNat ≤ 3 := by omega
    refine lc_it (walk_range (lo := 0) (n := (2 + r).toNat)) (PopS FM H4 tp cl Fl D (n + 1)) (PopS.start hT4 nD hF4) (fun _ _ _ _ => trivial) (fun i x H5 H6 hi p5 hY => ?_) (fun H5 p5 => ?_)
    · obtain ⟨rfl, rfl⟩ := hY
      obtain ⟨b5, hT5, fs, acc, hF5, hD5, hp, hl, ha⟩ := p5
      have hl4 : FM.length = 4 := rfl
      dsimp only [List.map, wipe, List.set]
      refine ⟨rfl, yesT ?_⟩
      refine ⟨_, rfl, .inl ⟨rfl, _, SqL.of hF5⟩, _, rfl, _, rfl, Fl, _, rfl, .inl hF5, ?_⟩
      refine pop_turn (Q := fun y H7 => ∃ acc, H7 D = some (.lst acc) ∧ acc.length < sizeLine ∧ PopS FM H4 tp cl Fl D (n + 1) (i + 1) (upd H7 D (.lst (acc ++ [y])))) (E := E0) hT5 (by omega) hF5 hD5 hp (by omega) (by omega) eF1 eF2 eDF (Ne.symm eD1) fun y fs' H7 b7 hT7 hF7 hD7 hp7 hl7 => ?_
      exact ⟨_, hD7, by rw [List.length_map]; exact sz_lt (by omega), PopS.next b5 b7 hT7 hF7 hp7 (by omega) (by omega) nD (Ne.symm eD1) eD2 eDF⟩
    · obtain ⟨b5, hT5, fs, acc, hF5, hD5, hp, hl, ha⟩ := p5
      have hS5 := b5 _ _ (by simp [nFS, Ne.symm eS1]) hS4
      refine ⟨_, rfl, tp, cl, 2, _, rfl, hT5, by omega, by decide, by decide, fun r2 H6 q0 q1 b6 hT6 => ?_⟩
      refine ⟨_, _, rfl, rfl, ?_⟩
      have hS6 := b6 _ _ (by simpa using Ne.symm eS1) hS5
      have hD6 := b6 _ _ (by simpa using Ne.symm eD1) hD5
      have bF : But [tp, Fl] H4 H6 := b5.trans (b6.mono fun a h => by simp at h; simp [h])
      have bB : But [tp] H H6 := fun b o hb e => bF b o (by
        simp only [List.mem_cons, List.not_mem_nil, or_false, not_or]
        exact ⟨by simpa using hb, fun z => by rw [z, nF] at e; cases e⟩) (bA b o hb e)
      refine ⟨_, rfl, D, acc, rfl, SqL.of hD6, by omega, fun ys p hperm _ np => ?_⟩
      have s7 := same_new (o := .lst (ys.map V.str)) np
      have hT7 := TapC.same s7 hT6
      have hS7 := s7 _ _ hS6
      have bC := bB.trans (But.of s7)
      obtain ⟨ep1, ep2⟩ := hT6.t_ne np
      have epS : p ≠ Sl := fun z => by rw [z, hS6] at np; cases np
      have np0 : H p = none := but_none bB (by simpa using Ne.symm ep1) np
      refine ⟨_, rfl, 3 + r2, rfl, by omega, by omega, fun D2 nD2 => ?_⟩
      obtain ⟨gD1, gD2⟩ := hT7.t_ne nD2
      have gDS : D2 ≠ Sl := fun z => by rw [z, hS7] at nD2; cases nD2
      have gDp : p ≠ D2 := fun z => by rw [← z, upd_same] at nD2; cases nD2
      have hr4 : (3 + r2).toNat ≤ 4 := by omega
      refine lc_it (walk_range (lo := 0) (n := (3 + r2).toNat)) (PopS SH (upd H6 p (.lst (ys.map V.str))) tp cl Sl D2 (n + 1 + (2 + r).toNat + 1)) (PopS.start hT7 nD2 hS7) (fun _ _ _ _ => trivial) (fun i x H8 H9 hi p8 hY => ?_) (fun H8 p8 => ?_)
      · obtain ⟨rfl, rfl⟩ := hY
        obtain ⟨b8, hT8, fs8, acc8, hS8, hD8, hp8, hl8, ha8⟩ := p8
        have hl5 : SH.length = 5 := rfl
        dsimp only [List.map, wipe, List.set]
        refine ⟨rfl, yesT ?_⟩
        refine ⟨_, rfl, .inl ⟨rfl, _, SqL.of hS8⟩, _, rfl, _, rfl, Sl, _, rfl, .inl hS8, ?_⟩
        refine pop_turn (Q := fun y H7 => ∃ acc, H7 D2 = some (.lst acc) ∧ acc.length < sizeLine ∧ PopS SH (upd H6 p (.lst (ys.map V.str))) tp cl Sl D2 (n + 1 + (2 + r).toNat + 1) (i + 1) (upd H7 D2 (.lst (acc ++ [y])))) (E := E0) hT8 (by omega) hS8 hD8 hp8 (by omega) (by omega) eS1 eS2 gDS (Ne.symm gD1) fun y fs' H7 b7 hT7 hF7 hD7 hp7 hl7 => ?_
        exact ⟨_, hD7, by rw [List.length_map]; exact sz_lt (by omega), PopS.next b8 b7 hT7 hF7 hp7 (by omega) (by omega) nD2 (Ne.symm gD1) gD2 gDS⟩
      · obtain ⟨b8, hT8, fs8, acc8, hS8, hD8, hp8, hl8, ha8⟩ := p8
        have bD : But [tp] H H8 := fun b o hb e => b8 b o (by
          simp only [List.mem_cons, List.not_mem_nil, or_false, not_or]
          exact ⟨by simpa using hb, fun z => by rw [z, nS0] at e; cases e⟩) (bC b o hb e)
        have hp9 := b8 _ _ (by simp [epS, Ne.symm ep1]) (upd_same (H := H6) (a := p) (o := .lst (ys.map V.str)))
        refine ⟨D2, acc8, rfl, SqL.of hD8, by omega, fun ys2 p2 hperm2 _ np2 => ⟨(by show 2 ≤ sizeLine; decide), fun t nt => ?_⟩⟩
        have s9 := same_new (o := .lst (ys2.map V.str)) np2
        have s10 := same_new (o := .tup [.ref p, .ref p2]) nt
        obtain ⟨ex1, _⟩ := hT8.t_ne np2
        obtain ⟨ey1, _⟩ := (TapC.same s9 hT8).t_ne nt
        have hsub : ∀ {L fs acc ys : List Str}, (fs ++ acc).Perm L → ys.Perm acc → ∀ y ∈ ys, y ∈ L := fun h1 h2 y hy => h1.subset (List.mem_append.mpr (.inr (h2.subset hy)))
        refine k t _ ys ys2 (bD.trans (But.of (s9.trans s10))) ((TapC.same (s9.trans s10) hT8).le (by omega)) ⟨p, p2, upd_same, s10 _ _ (s9 _ _ hp9), s10 _ _ upd_same, Ne.symm ep1, Ne.symm ex1, Ne.symm ey1⟩ ?_
        have l1 := hperm.length_eq
        have l2 := hperm2.length_eq
        exact ⟨hsub hp hperm, hsub hp8 hperm2, hperm2.nodup_iff.mpr (List.nodup_append.mp (hp8.nodup_iff.mpr SH_nd)).2.1, by omega, by omega, by omega, by omega⟩
end
end Pk
end
section
set_option Elab.async false
set_option linter.all false
set_option maxRecDepth 100000
set_option maxHeartbeats 8000000
namespace Pk
open PySem PySem.Spec PyProof.Rows L2 FL
theorem atI_int {α : Type} {xs : List α} {r : Int} (h0 : 0 ≤ r) (h1 : r.toNat < xs.length) : atI xs r = some xs[r.toNat] := by
  obtain ⟨m, rfl⟩ := Int.eq_ofNat_of_zero_le h0
  exact atI_nat (List.getElem?_eq_getElem h1)
section
variable {P : Program} {w : World} {K : PySem.W.Frag} {mg : Str → Option Value} {base : Heap} {C : Addr}
/-- l[_law_pick(tap, len(l))] -/
theorem pick_of {xs : List Str} {l tp cl : Addr} {n : Nat} {H : Hp} {Q : VK} {E : XK} (hT : TapC H tp cl n) (hn : n ≤ 90000) (hl : H l = some (.lst (xs.map V.str))) (h1 : 1 ≤ xs.length) (h2 : xs.length ≤ 50) (ne : l ≠ tp)
    (k : ∀ s ∈ xs, ∀ H', But [tp] H H' → TapC H' tp cl (n + 1) → Q (.str s) H') : spPick [.ref tp, .int ((xs.map V.str).length : Nat)] H (fun v H4 => rIxL1 K (.ref l) v H4 Q) E := by
  refine ⟨tp, cl, _, n, rfl, hT, by omega, by rw [List.length_map]; omega, by rw [List.length_map]; omega, fun r H4 h0 h1' b4 hT4 => ?_⟩
  rw [List.length_map] at h1'
  have hlt : r.toNat < xs.length := by omega
  refine ⟨l, _, r, .str xs[r.toNat], rfl, rfl, SqL.of (b4 _ _ (by simpa using ne) hl), ?_, k _ (List.getElem_mem hlt) H4 b4 hT4⟩
  rw [atI_int h0 (by rw [List.length_map]; exact hlt), List.getElem_map]
def spLRows : Sp := fun vs H Q _ => ∃ (tp cl wv : Addr) (n : Nat) (fs ss : List Str) (many : Nat) (most : Int), vs = [.ref tp, .ref wv, .int (many : Int), .int most] ∧ TapC H tp cl n ∧ n ≤ 50000 ∧ WordsR H tp wv fs ss ∧ WordsC fs ss ∧ many ≤ 6 ∧ 1 ≤ most ∧ most ≤ 6 ∧
  ∀ v rows H', But [tp] H H' → TapC H' tp cl (n + 200) → RowsR H' v rows → RowsOK rows → rows.length ≤ 6 → Q v H'
theorem sc_law_rows : FnScope ["_law_tap_here", "_law_words_here", "_law_many", "_law_most_now", "_law_forms", "_law_shades", "_law_found", "_law_k", "_law_part"] ["_law_tap_here", "_law_words_here", "_law_many", "_law_most_now"] (defScope s_law_rows) := ⟨rfl, rfl, rfl, by decide +kernel, rfl, by decide +kernel, by decide +kernel⟩
theorem c_law_rows (T : Txt K mg C) : Cal P w K mg base CX0 2 "_law_rows" ["_law_tap_here", "_law_words_here", "_law_many", "_law_most_now"] spLRows := by
  have C_law_pick : Cal P w K mg base CX0 1 "_law_pick" ["_law_tap_here", "_law_many"] spPick := c_law_pick T
  refine Cal.mk' T.d_law_rows sc_law_rows (fun vs H Q E h => ?_) (fun _ _ _ _ _ _ us hl => match us, hl with | [_, _, _, _], _ => rfl) (fun f cdv A outer s H vs Q E hr h => ?_)
  · obtain ⟨tp, cl, wv, n, fs, ss, many, most, rfl, _⟩ := h
    rfl
  · obtain ⟨tp, cl, wv, n, fs, ss, many, most, rfl, hT, hn, ⟨lf, ls, hw, hlf, hls, nf, ns, nw⟩, hc, hm6, ho1, ho6, k⟩ := h
    have sc := sc_law_rows
    refine ⟨_, (pss_cons (ps_asg (pv 1) (pgT K (n := 2) rfl (pgs_cons (pg_name (i := 4) sc.nd rfl (.inl rfl)) (pgs_cons (pg_name (i := 5) sc.nd rfl (.inl rfl)) pgs_nil))))
      (pss_cons (ps_set (i := 6) sc.nd rfl (.inl rfl) (pe_lst pa_nil))
      (pss_cons (ps_for PassesOwn.never rfl (pi_range1 rfl T.range (pa_cons (pv 2) pa_nil)) (pg_name (i := 7) sc.nd rfl (.inl rfl)) (pss_cons (ps_set (i := 8) sc.nd rfl (.inl rfl) (pe_tup (pa_cons (pe_ix (ixL K) (pv 4) (pe_cal C_law_pick hr (pa_cons (pv 0) (pa_cons (pe_callB len1 (by rfl) T.len PySem.boot_len (pa_cons (pv 4) pa_nil)) pa_nil))) (fun _ _ => rfl)) (pa_cons (pe_ix (ixL K) (pv 5) (pe_cal C_law_pick hr (pa_cons (pv 0) (pa_cons (pe_callB len1 (by rfl) T.len PySem.boot_len (pa_cons (pv 5) pa_nil)) pa_nil))) (fun _ _ => rfl)) pa_nil))))
      (pss_one (ps_expr (pe_bm PySem.F.plainAttrs_list PySem.F.slot_list_append PySem.F.type_list_append mt_append (pv 6) (pa_cons (pe_op catT (pv 8) (pe_tup (pa_cons (pe_op op_add pe_int (pe_cal C_law_pick hr (pa_cons (pv 0) (pa_cons (pv 3) pa_nil)))) pa_nil))) pa_nil))))))
      (pss_one (ps_ret (pe_callTy tup1 (by rfl) T.tuple (by decide +kernel) (pa_cons (pv 6) pa_nil))))))), ?_⟩
    have f1 := hc.f1
    have f2 := hc.f2
    have q1 := hc.s1
    have q2 := hc.s2
    refine ⟨_, rfl, wv, _, rfl, SqT.of hw, rfl, _, _, rfl, _, _, rfl, rfl, ?_⟩
    dsimp only [List.set]
    refine ⟨Nat.zero_le _, fun F nF => ?_⟩
    obtain ⟨eF1, eF2⟩ := hT.t_ne nF
    refine ⟨_, rfl, (many : Int), rfl, by omega, by omega, for_range (fun i σ H2 => ∃ v7 v8 acc rows, σ = [some (.ref tp), some (.ref wv), some (.int (many : Int)), some (.int most), some (.ref lf), some (.ref ls), some (.ref F), v7, v8] ∧ But [tp] H H2 ∧ TapC H2 tp cl (n + 3 * i) ∧ H2 F = some (.lst acc) ∧ acc.length = i ∧ All2 (RowR H2) acc rows ∧ RowsOK rows)
      ⟨none, none, [], [], rfl, But.of (same_new nF), TapC.same (same_new nF) hT, upd_same, rfl, .nil, fun r h => by simp at h⟩ ?_ ?_⟩
    · rintro i σ H2 hi ⟨v7, v8, acc, rows, rfl, b2, hT2, hF, hal, hall, hok⟩
      have hi6 : i < 6 := by
        have : i < many := hi
        omega
      have hlf2 := b2 _ _ (by simpa using nf) hlf
      have hls2 := b2 _ _ (by simpa using ns) hls
      dsimp only [List.set]
      refine ⟨_, rfl, _, rfl, _, rfl, lf, _, rfl, .inl hlf2, pick_of (E := E0) hT2 (by omega) hlf2 f1 (by omega) nf fun ff hff H3 b3 hT3 => ?_⟩
      have hls3 := b3 _ _ (by simpa using ns) hls2
      refine ⟨_, rfl, _, rfl, _, rfl, ls, _, rfl, .inl hls3, pick_of (E := E0) hT3 (by omega) hls3 q1 (by omega) ns fun sh hsh H4 b4 hT4 => ?_⟩
      refine ⟨(by show 2 ≤ sizeLine; decide), fun p1 np1 => ?_⟩
      have s5 := same_new (o := .tup [.str ff, .str sh]) np1
      have b5 := (b2.trans (b3.trans b4)).trans (But.of s5)
      have hF5 := s5 _ _ (b4 _ _ (by simpa using Ne.symm eF1) (b3 _ _ (by simpa using Ne.symm eF1) hF))
      refine ⟨_, rfl, .inl ⟨rfl, _, SqL.of hF5⟩, _, rfl, _, rfl, _, rfl, tp, cl, most, _, rfl, TapC.same s5 hT4, by omega, by omega, by omega, fun r H6 r0 r1 b6 hT6 => ?_⟩
      refine ⟨_, _, rfl, rfl, (by show 1 ≤ sizeLine; decide), fun p2 np2 => ?_⟩
      have s7 := same_new (o := .tup [.int (1 + r)]) np2
      have ep1 : p1 ≠ tp := Ne.symm (hT4.t_ne np1).1
      have hp1 := s7 _ _ (b6 _ _ (by simpa using ep1) (upd_same (H := H4) (a := p1) (o := .tup [.str ff, .str sh])))
      refine ⟨p1, p2, _, _, rfl, rfl, hp1, upd_same, (by show 2 + 1 ≤ 16000000; decide), fun c H8 s8 hc8 => ?_⟩
      have hF8 := s8 _ _ (s7 _ _ (b6 _ _ (by simpa using Ne.symm eF1) hF5))
      refine ⟨F, acc, _, rfl, rfl, hF8, sz_lt (by omega), ?_⟩
      have b8 := ((b3.trans b4).trans (But.of s5)).trans (b6.trans (But.of (s7.trans s8)))
      have k9 : Keep H8 (upd H8 F (.lst (acc ++ [.ref c]))) := Keep.lst hF8
      have kB : Keep H2 H8 := fun b o i e => b8 b o (fun z => by
        obtain ⟨cs, i', r', k', t1, _⟩ := hT2
        have : b = tp := by simpa using z
        rw [this, t1] at e
        cases e
        exact i) e
      refine ⟨_, _, acc ++ [.ref c], rows ++ [(ff, sh, 1 + r)], rfl, (b2.trans b8).upd (.inr nF), ((TapC.same (s7.trans s8) hT6).upd eF1 eF2).le (by omega), upd_same, by rw [List.length_append, hal]; rfl, all2_snoc (All2.mo RowR.mo (kB.trans k9) hall) ⟨c, rfl, tup_keep k9 hc8⟩, fun x hx => ?_⟩
      rcases List.mem_append.mp hx with z | z
      · exact hok x z
      · have : x = (ff, sh, 1 + r) := by simpa using z
        subst this
        exact ⟨hc.fm _ hff, hc.sh _ hsh, by show 1 ≤ 1 + r; omega⟩
    · rintro σ H2 ⟨v7, v8, acc, rows, rfl, b2, hT2, hF, hal, hall, hok⟩
      have hmn : ((many : Int)).toNat = many := rfl
      refine ⟨_, rfl, F, _, rfl, hF, fun t H3 s3 _ ht => ?_⟩
      exact k (.ref t) rows H3 (b2.trans (But.of s3)) ((TapC.same s3 hT2).le (by omega)) ⟨t, acc, rfl, ht, All2.mo RowR.mo (Keep.of s3) hall⟩ hok (by rw [← hall.length]; omega)
/-! ### some shades, wants -/
def spLSome : Sp := fun vs H Q _ => ∃ (tp cl ls : Addr) (n : Nat) (ss : List Str), vs = [.ref tp, .ref ls] ∧ TapC H tp cl n ∧ n ≤ 60000 ∧ H ls = some (.lst (ss.map V.str)) ∧ ls ≠ tp ∧ 1 ≤ ss.length ∧ ss.length ≤ 5 ∧
  ∀ (b : Addr) (T : List Str) H', But [tp] H H' → TapC H' tp cl (n + 20) → H' b = some (.tup (T.map V.str)) → b ≠ tp → T.Sublist ss → Q (.ref b) H'
theorem sc_law_some : FnScope ["_law_tap_here", "_law_shades", "_law_way", "_law_some_here", "_law_shade"] ["_law_tap_here", "_law_shades"] (defScope s_law_some) := ⟨rfl, rfl, rfl, by decide +kernel, rfl, by decide +kernel, by decide +kernel⟩
theorem c_law_some (T : Txt K mg C) : Cal P w K mg base CX0 2 "_law_some" ["_law_tap_here", "_law_shades"] spLSome := by
  have C_law_pick : Cal P w K mg base CX0 1 "_law_pick" ["_law_tap_here", "_law_many"] spPick := c_law_pick T
  refine Cal.mk' T.d_law_some sc_law_some (fun vs H Q E h => ?_) (fun _ _ _ _ _ _ us hl => match us, hl with | [_, _], _ => rfl) (fun f cdv A outer s H vs Q E hr h => ?_)
  · obtain ⟨tp, cl, ls, n, ss, rfl, _⟩ := h
    rfl
  · obtain ⟨tp, cl, ls, n, ss, rfl, hT, hn, hls, ns, q1, q2, k⟩ := h
    have sc := sc_law_some
    refine ⟨_, (pss_cons (ps_set (i := 2) sc.nd rfl (.inr rfl) (pe_cal C_law_pick hr (pa_cons (pv 0) (pa_cons pe_int pa_nil))))
      (pss_cons (ps_if (pt_cmpR op_eq (pv 2) pe_int (nomark _)) (pss_one (ps_ret (pe_tup pa_nil))) pss_nil)
      (pss_cons (ps_set (i := 3) sc.nd rfl (.inr rfl) (pe_lst (pa_cons (pe_ix (ixL K) (pv 1) (pe_cal C_law_pick hr (pa_cons (pv 0) (pa_cons (pe_callB len1 (by rfl) T.len PySem.boot_len (pa_cons (pv 1) pa_nil)) pa_nil))) (fun _ _ => rfl)) pa_nil)))
      (pss_one (ps_ret (pe_callTy tup1 (by rfl) T.tuple (by decide +kernel) (pa_cons (pe_lc (own := [("_law_shade", 4)]) rfl sc.nd (piL K (pv 1)) (blkOk_by (N := ["_law_tap_here", "_law_shades", "_law_way", "_law_some_here", "_law_shade"]) (sc := defScope s_law_some) (own := [("_law_shade", 4)]) (by decide +kernel)) (fun _ _ _ _ _ => (pg_name (i := 4) sc.nd rfl (.inl rfl))) (fun _ _ _ _ _ => (pts_one (PW.pt (pw_or (pt_cmpR inL (pv 4) (pv 3) (by rfl)) (pw_or1 (PW.pt (pw_and (pt_cmpR op_gt (pv 2) pe_int (nomark _)) (pw_and1 (pt_cmpR op_eq (pe_cal C_law_pick hr (pa_cons (pv 0) (pa_cons pe_int pa_nil))) pe_int (nomark _)))))))))) (fun _ _ _ _ _ => (pv 4))) pa_nil))))))), ?_⟩
    refine ⟨_, rfl, tp, cl, 4, n, rfl, hT, by omega, by decide, by decide, fun r H2 r0 r1 b2 hT2 => ?_⟩
    have hls2 := b2 _ _ (by simpa using ns) hls
    refine ⟨_, rfl, rfl, _, rfl, ?_⟩
    by_cases hr0 : r = 0
    · refine ite_t (decide_eq_true (congrArg V.int hr0)) ?_
      refine ⟨Nat.zero_le _, fun e ne => ?_⟩
      obtain ⟨e1, _⟩ := hT2.t_ne ne
      exact k e [] _ (b2.trans (But.of (same_new ne))) ((TapC.same (same_new ne) hT2).le (by omega)) upd_same (Ne.symm e1) (List.nil_sublist _)
    · refine ite_f (decide_eq_false fun z => hr0 (V.int.inj z)) ?_
      refine ⟨_, rfl, _, rfl, _, rfl, ls, _, rfl, .inl hls2, pick_of (E := E0) hT2 (by omega) hls2 q1 (by omega) ns fun s1 hs1 H3 b3 hT3 => ?_⟩
      refine ⟨(by show 1 ≤ sizeLine; decide), fun S nS => ?_⟩
      obtain ⟨eS1, eS2⟩ := hT3.t_ne nS
      have s4 := same_new (o := .lst [.str s1]) nS
      have hT4 := TapC.same s4 hT3
      have hls4 := s4 _ _ (b3 _ _ (by simpa using ns) hls2)
      have b4 := (b2.trans b3).trans (But.of s4)
      refine ⟨_, rfl, ls, rfl, ⟨_, SqL.of hls4⟩, fun D nD => ?_⟩
      obtain ⟨eD1, eD2⟩ := hT4.t_ne nD
      have eDl : ls ≠ D := fun z => by rw [← z, hls4] at nD; cases nD
      have eSD : S ≠ D := fun z => by rw [← z, upd_same] at nD; cases nD
      have hl0 : (ss.map V.str).length = ss.length := List.length_map ..
      refine lc_it (walk_list (K := K) (a := ls) (xs := ss.map V.str)) (fun i H => But [tp] (upd H3 S (.lst [.str s1])) H ∧ TapC H tp cl (n + 1 + 1 + i) ∧ ∃ acc : List Str, H D = some (.lst (acc.map V.str)) ∧ acc.Sublist (ss.take i)) ⟨But.of (same_new nD), TapC.same (same_new nD) hT4, [], upd_same, List.nil_sublist _⟩ (fun i H _ p => SqL.of (p.1 _ _ (by simpa using ns) hls4)) (fun i y H5 H6 hi p5 hY => ?_) (fun H5 p5 => ?_)
      · obtain ⟨rfl, hy⟩ := hY
        obtain ⟨b5, hT5, acc, hD5, hsub⟩ := p5
        rw [List.getElem?_map] at hy
        obtain ⟨z, hz, rfl⟩ := Option.map_eq_some_iff.mp hy
        have hi5 : i < 5 := by
          have := (List.getElem?_eq_some_iff.mp hz).1
          omega
        have hal : acc.length ≤ i := by
          have := hsub.length_le
          rw [List.length_take] at this
          omega
        have hS5 := b5 _ _ (by simpa using Ne.symm eS1) (upd_same (H := H3) (a := S) (o := .lst [.str s1]))
        have yes : ∀ H7, But [tp] H6 H7 → TapC H7 tp cl (n + 1 + 1 + (i + 1)) → H7 D = some (.lst (acc.map V.str)) → ∃ acc0, H7 D = some (.lst acc0) ∧ acc0.length < sizeLine ∧ (But [tp] (upd H3 S (.lst [.str s1])) (upd H7 D (.lst (acc0 ++ [.str z]))) ∧ TapC (upd H7 D (.lst (acc0 ++ [.str z]))) tp cl (n + 1 + 1 + (i + 1)) ∧ ∃ acc : List Str, (upd H7 D (.lst (acc0 ++ [.str z]))) D = some (.lst (acc.map V.str)) ∧ acc.Sublist (ss.take (i + 1))) := fun H7 b7 hT7 hD7 => by
          refine ⟨_, hD7, by rw [List.length_map]; exact sz_lt (by omega), (b5.trans b7).upd (.inr nD), hT7.upd eD1 eD2, acc ++ [z], by rw [upd_same, List.map_append]; rfl, ?_⟩
          rw [take_next hz]
          exact hsub.append (List.Sublist.refl _)
        have no : ∀ H7, But [tp] H6 H7 → TapC H7 tp cl (n + 1 + 1 + (i + 1)) → H7 D = some (.lst (acc.map V.str)) → But [tp] (upd H3 S (.lst [.str s1])) H7 ∧ TapC H7 tp cl (n + 1 + 1 + (i + 1)) ∧ ∃ acc : List Str, H7 D = some (.lst (acc.map V.str)) ∧ acc.Sublist (ss.take (i + 1)) := fun H7 b7 hT7 hD7 => by
          refine ⟨b5.trans b7, hT7, acc, hD7, ?_⟩
          rw [take_next hz]
          exact hsub.trans (List.sublist_append_left _ _)
        dsimp only [List.map, wipe, List.set]
        refine ⟨rfl, ?_⟩
        refine ⟨_, rfl, _, rfl, S, _, rfl, hS5, rfl, rfl, _, rfl, ?_⟩
        by_cases hin : inV (.str z) [.str s1] = true
        · refine ite_t hin (ite_t rfl ?_)
          exact ⟨_, rfl, yes _ (But.refl _ _) (hT5.le (by omega)) hD5⟩
        · refine ite_f (by simpa using hin) ?_
          refine ⟨_, rfl, _, _, rfl, rfl, _, rfl, ?_⟩
          by_cases hw1 : r > 1
          · refine ite_t (decide_eq_true hw1) ?_
            refine ⟨_, rfl, tp, cl, 2, _, rfl, hT5, by omega, by decide, by decide, fun r2 H7 g0 g1 b7 hT7 => ?_⟩
            have hD7 := b7 _ _ (by simpa using Ne.symm eD1) hD5
            refine ⟨rfl, _, rfl, ?_⟩
            by_cases h20 : r2 = 0
            · refine ite_t (decide_eq_true (congrArg V.int h20)) ?_
              exact ⟨_, rfl, yes _ b7 hT7 hD7⟩
            · refine ite_f (decide_eq_false fun z => h20 (V.int.inj z)) ?_
              exact no _ b7 hT7 hD7
          · refine ite_f (decide_eq_false hw1) (ite_f rfl ?_)
            exact no _ (But.refl _ _) (hT5.le (by omega)) hD5
      · obtain ⟨b5, hT5, acc, hD5, hsub⟩ := p5
        refine ⟨D, _, rfl, hD5, fun c H6 s6 nc hc => ?_⟩
        obtain ⟨ec, _⟩ := hT5.t_ne nc
        refine k c acc H6 (b4.trans (b5.trans (But.of s6))) ((TapC.same s6 hT5).le (by omega)) hc (Ne.symm ec) ?_
        exact hsub.trans (List.take_sublist _ _)
end
end Pk
end
section
set_option Elab.async false
set_option linter.all false
set_option maxRecDepth 100000
set_option maxHeartbeats 8000000
namespace Pk
open PySem PySem.Spec PyProof.Rows L2 FL
theorem TapC.keep {H H' : Hp} {tp cl : Addr} {n : Nat} (h : TapC H tp cl n) (b : But [tp] H H') : Keep H H' := fun a o i e => b a o (fun z => by
  obtain ⟨cs, i', r', k', t1, _⟩ := h
  have : a = tp := by simpa using z
  rw [this, t1] at e
  cases e
  exact i) e
section
variable {P : Program} {w : World} {K : PySem.W.Frag} {mg : Str → Option Value} {base : Heap} {C : Addr}
def spLWants : Sp := fun vs H Q _ => ∃ (tp cl wv : Addr) (n : Nat) (fs ss : List Str) (many : Nat) (most : Int), vs = [.ref tp, .ref wv, .int (many : Int), .int most] ∧ TapC H tp cl n ∧ n ≤ 50000 ∧ WordsR H tp wv fs ss ∧ WordsC fs ss ∧ many ≤ 6 ∧ 1 ≤ most ∧ most ≤ 6 ∧
  ∀ v ws H', But [tp] H H' → TapC H' tp cl (n + 200) → WantsR H' v ws → WantsOK ws → Q v H'
theorem sc_law_wants : FnScope ["_law_tap_here", "_law_words_here", "_law_many", "_law_most_now", "_law_forms", "_law_shades", "_law_found", "_law_k", "_law_form"] ["_law_tap_here", "_law_words_here", "_law_many", "_law_most_now"] (defScope s_law_wants) := ⟨rfl, rfl, rfl, by decide +kernel, rfl, by decide +kernel, by decide +kernel⟩
theorem c_law_wants (T : Txt K mg C) : Cal P w K mg base CX0 3 "_law_wants" ["_law_tap_here", "_law_words_here", "_law_many", "_law_most_now"] spLWants := by
  have C_law_pick : Cal P w K mg base CX0 1 "_law_pick" ["_law_tap_here", "_law_many"] spPick := c_law_pick T
  have C_law_some : Cal P w K mg base CX0 2 "_law_some" ["_law_tap_here", "_law_shades"] spLSome := c_law_some T
  refine Cal.mk' T.d_law_wants sc_law_wants (fun vs H Q E h => ?_) (fun _ _ _ _ _ _ us hl => match us, hl with | [_, _, _, _], _ => rfl) (fun f cdv A outer s H vs Q E hr h => ?_)
  · obtain ⟨tp, cl, wv, n, fs, ss, many, most, rfl, _⟩ := h
    rfl
  · obtain ⟨tp, cl, wv, n, fs, ss, many, most, rfl, hT, hn, ⟨lf, ls, hw, hlf, hls, nf, ns, nw⟩, hc, hm6, ho1, ho6, k⟩ := h
    have sc := sc_law_wants
    refine ⟨_, (pss_cons (ps_asg (pv 1) (pgT K (n := 2) rfl (pgs_cons (pg_name (i := 4) sc.nd rfl (.inl rfl)) (pgs_cons (pg_name (i := 5) sc.nd rfl (.inl rfl)) pgs_nil))))
      (pss_cons (ps_set (i := 6) sc.nd rfl (.inl rfl) (pe_lst pa_nil))
      (pss_cons (ps_for PassesOwn.never rfl (pi_range1 rfl T.range (pa_cons (pv 2) pa_nil)) (pg_name (i := 7) sc.nd rfl (.inl rfl)) (pss_cons (ps_set (i := 8) sc.nd rfl (.inl rfl) (pe_ix (ixL K) (pv 4) (pe_cal C_law_pick hr (pa_cons (pv 0) (pa_cons (pe_callB len1 (by rfl) T.len PySem.boot_len (pa_cons (pv 4) pa_nil)) pa_nil))) (fun _ _ => rfl)))
      (pss_one (ps_expr (pe_bm PySem.F.plainAttrs_list PySem.F.slot_list_append PySem.F.type_list_append mt_append (pv 6) (pa_cons (pe_tup (pa_cons (pv 8) (pa_cons (pe_cal C_law_some hr (pa_cons (pv 0) (pa_cons (pv 5) pa_nil))) (pa_cons (pe_op op_add pe_int (pe_cal C_law_pick hr (pa_cons (pv 0) (pa_cons (pv 3) pa_nil)))) pa_nil)))) pa_nil))))))
      (pss_one (ps_ret (pe_callTy tup1 (by rfl) T.tuple (by decide +kernel) (pa_cons (pv 6) pa_nil))))))), ?_⟩
    have f1 := hc.f1
    have f2 := hc.f2
    have q1 := hc.s1
    have q2 := hc.s2
    refine ⟨_, rfl, wv, _, rfl, SqT.of hw, rfl, _, _, rfl, _, _, rfl, rfl, ?_⟩
    dsimp only [List.set]
    refine ⟨Nat.zero_le _, fun F nF => ?_⟩
    obtain ⟨eF1, eF2⟩ := hT.t_ne nF
    refine ⟨_, rfl, (many : Int), rfl, by omega, by omega, for_range (fun i σ H2 => ∃ v7 v8 acc ws, σ = [some (.ref tp), some (.ref wv), some (.int (many : Int)), some (.int most), some (.ref lf), some (.ref ls), some (.ref F), v7, v8] ∧ But [tp] H H2 ∧ TapC H2 tp cl (n + 30 * i) ∧ H2 F = some (.lst acc) ∧ acc.length = i ∧ All2 (WantR H2) acc ws ∧ ∀ x ∈ ws, WantOK x)
      ⟨none, none, [], [], rfl, But.of (same_new nF), TapC.same (same_new nF) hT, upd_same, rfl, .nil, fun r h => by simp at h⟩ ?_ ?_⟩
    · rintro i σ H2 hi ⟨v7, v8, acc, ws, rfl, b2, hT2, hF, hal, hall, hok⟩
      have hi6 : i < 6 := by
        have : i < many := hi
        omega
      have hlf2 := b2 _ _ (by simpa using nf) hlf
      have hls2 := b2 _ _ (by simpa using ns) hls
      dsimp only [List.set]
      refine ⟨_, rfl, _, rfl, _, rfl, lf, _, rfl, .inl hlf2, pick_of (E := E0) hT2 (by omega) hlf2 f1 (by omega) nf fun ff hff H3 b3 hT3 => ?_⟩
      have hls3 := b3 _ _ (by simpa using ns) hls2
      have hF3 := b3 _ _ (by simpa using Ne.symm eF1) hF
      refine ⟨_, rfl, .inl ⟨rfl, _, SqL.of hF3⟩, _, rfl, _, rfl, _, rfl, tp, cl, ls, _, ss, rfl, hT3, by omega, hls3, ns, q1, q2, fun b T' H4 b4 hT4 hb nb hsub => ?_⟩
      refine ⟨_, rfl, _, rfl, tp, cl, most, _, rfl, hT4, by omega, by omega, by omega, fun r H5 r0 r1 b5 hT5 => ?_⟩
      refine ⟨_, _, rfl, rfl, (by show 3 ≤ sizeLine; decide), fun p np => ?_⟩
      have hF5 := b5 _ _ (by simpa using Ne.symm eF1) (b4 _ _ (by simpa using Ne.symm eF1) hF3)
      have s6 := same_new (o := .tup [.str ff, .ref b, .int (1 + r)]) np
      have hF6 := s6 _ _ hF5
      refine ⟨F, acc, _, rfl, rfl, hF6, sz_lt (by omega), ?_⟩
      have b6 := (b3.trans (b4.trans b5)).trans (But.of s6)
      have k9 : Keep (upd H5 p (.tup [.str ff, .ref b, .int (1 + r)])) (upd (upd H5 p (.tup [.str ff, .ref b, .int (1 + r)])) F (.lst (acc ++ [.ref p]))) := Keep.lst hF6
      have hb6 := s6 _ _ (b5 _ _ (by simpa using nb) hb)
      refine ⟨_, _, acc ++ [.ref p], ws ++ [(ff, T', 1 + r)], rfl, (b2.trans b6).upd (.inr nF), ((TapC.same s6 hT5).upd eF1 eF2).le (by omega), upd_same, by rw [List.length_append, hal]; rfl, all2_snoc (All2.mo WantR.mo ((hT2.keep b6).trans k9) hall) ⟨p, b, rfl, tup_keep k9 upd_same, tup_keep k9 hb6⟩, fun x hx => ?_⟩
      rcases List.mem_append.mp hx with z | z
      · exact hok x z
      · have : x = (ff, T', 1 + r) := by simpa using z
        subst this
        exact ⟨hc.fm _ hff, fun s hs => hc.sh _ (hsub.subset hs), hsub.nodup hc.nd, by show 1 ≤ 1 + r; omega, by show 1 + r ≤ 6; omega⟩
    · rintro σ H2 ⟨v7, v8, acc, ws, rfl, b2, hT2, hF, hal, hall, hok⟩
      have hmn : ((many : Int)).toNat = many := rfl
      refine ⟨_, rfl, F, _, rfl, hF, fun t H3 s3 _ ht => ?_⟩
      exact k (.ref t) ws H3 (b2.trans (But.of s3)) ((TapC.same s3 hT2).le (by omega)) ⟨t, acc, rfl, ht, All2.mo WantR.mo (Keep.of s3) hall⟩ ⟨hok, by rw [← hall.length]; omega⟩
/-! ### the sheet -/
def spLSheet : Sp := fun vs H Q _ => ∃ (tp cl : Addr) (n : Nat) (u : V) (ws : List (Want Str Str)), vs = [.ref tp, u] ∧ TapC H tp cl n ∧ n ≤ 50000 ∧ WantsR H u ws ∧ ws.length ≤ 6 ∧
  ∀ v wss H', But [tp] H H' → TapC H' tp cl (n + 200) → SheetR H' v wss → wss.flatten = ws → wss.length ≤ 7 → 1 ≤ wss.length → Q v H'
theorem sc_law_sheet : FnScope ["_law_tap_here", "_law_wants_here", "_law_rows_here", "_law_own", "_law_want"] ["_law_tap_here", "_law_wants_here"] (defScope s_law_sheet) := ⟨rfl, rfl, rfl, by decide +kernel, rfl, by decide +kernel, by decide +kernel⟩
theorem c_law_sheet (T : Txt K mg C) : Cal P w K mg base CX0 2 "_law_sheet" ["_law_tap_here", "_law_wants_here"] spLSheet := by
  have C_law_pick : Cal P w K mg base CX0 1 "_law_pick" ["_law_tap_here", "_law_many"] spPick := c_law_pick T
  refine Cal.mk' T.d_law_sheet sc_law_sheet (fun vs H Q E h => ?_) (fun _ _ _ _ _ _ us hl => match us, hl with | [_, _], _ => rfl) (fun f cdv A outer s H vs Q E hr h => ?_)
  · obtain ⟨tp, cl, n, u, ws, rfl, _⟩ := h
    rfl
  · obtain ⟨tp, cl, n, u, ws, rfl, hT, hn, ⟨wa, wxs, rfl, hwa, hwall⟩, hw6, k⟩ := h
    have sc := sc_law_sheet
    refine ⟨_, (pss_cons (ps_par (i := 2) (j := 3) rfl sc.nd rfl rfl (by decide) rfl rfl (pa_cons (pe_lst pa_nil) (pa_cons (pe_lst pa_nil) pa_nil)) (by rfl))
      (pss_cons (ps_for PassesOwn.never rfl (piT K (pv 1)) (pg_name (i := 4) sc.nd rfl (.inl rfl)) (pss_cons (ps_expr (pe_bm PySem.F.plainAttrs_list PySem.F.slot_list_append PySem.F.type_list_append mt_append (pv 3) (pa_cons (pv 4) pa_nil)))
      (pss_one (ps_if (PW.pt (pw_or (pt_cmpR op_eq (pe_cal C_law_pick hr (pa_cons (pv 0) (pa_cons pe_int pa_nil))) pe_int (nomark _)) (pw_or1 (pt_cmpR op_eq (pe_callB len1 (by rfl) T.len PySem.boot_len (pa_cons (pv 3) pa_nil)) pe_int (nomark _))))) (pss_cons (ps_expr (pe_bm PySem.F.plainAttrs_list PySem.F.slot_list_append PySem.F.type_list_append mt_append (pv 2) (pa_cons (pe_tup (pa_cons (pe_callTy tup1 (by rfl) T.tuple (by decide +kernel) (pa_cons (pv 3) pa_nil)) pa_nil)) pa_nil)))
      (pss_one (ps_set (i := 3) sc.nd rfl (.inl rfl) (pe_lst pa_nil)))) pss_nil))))
      (pss_cons (ps_expr (pe_bm PySem.F.plainAttrs_list PySem.F.slot_list_append PySem.F.type_list_append mt_append (pv 2) (pa_cons (pe_tup (pa_cons (pe_callTy tup1 (by rfl) T.tuple (by decide +kernel) (pa_cons (pv 3) pa_nil)) pa_nil)) pa_nil)))
      (pss_one (ps_ret (pe_callTy tup1 (by rfl) T.tuple (by decide +kernel) (pa_cons (pv 2) pa_nil))))))), ?_⟩
    have nwt : wa ≠ tp := fun z => by
      obtain ⟨cs, i', r', k', t1, _⟩ := hT
      rw [z, t1] at hwa
      cases hwa
    refine ⟨Nat.zero_le _, fun R nR => ⟨Nat.zero_le _, fun O nO => ⟨_, _, rfl, ?_⟩⟩⟩
    have s1 := same_new (o := .lst []) nR
    have s2 := same_new (o := .lst []) nO
    have hRO : R ≠ O := fun z => by rw [← z, upd_same] at nO; cases nO
    have nO0 : H O = none := by rw [upd_ne (Ne.symm hRO)] at nO; exact nO
    obtain ⟨eR1, eR2⟩ := hT.t_ne nR
    dsimp only [List.set]
    refine ⟨_, rfl, wa, rfl, ⟨_, SqT.of (s2 _ _ (s1 _ _ hwa))⟩, for_tup (K := K) (a := wa) (xs := wxs) (fun i σ H2 => ∃ O v4 rxs oxs wss own, σ = [some (.ref tp), some (.ref wa), some (.ref R), some (.ref O), v4] ∧ But [tp] H H2 ∧ TapC H2 tp cl (n + i) ∧ H2 R = some (.lst rxs) ∧ All2 (RowWR H2) rxs wss ∧ H2 O = some (.lst oxs) ∧ All2 (WantR H2) oxs own ∧ wss.flatten ++ own = ws.take i ∧ rxs.length ≤ i ∧ oxs.length ≤ i ∧ R ≠ O ∧ H O = none)
      ⟨O, none, [], [], [], [], rfl, But.of (s1.trans s2), TapC.same (s1.trans s2) hT, s2 _ _ upd_same, .nil, upd_same, .nil, rfl, Nat.le_refl _, Nat.le_refl _, hRO, nO0⟩ (fun i σ H2 _ ⟨_, _, _, _, _, _, _, b, _⟩ => SqT.of (b _ _ (by simpa using nwt) hwa)) ?_ ?_⟩
    · rintro i y σ H2 hi ⟨O, v4, rxs, oxs, wss, own, rfl, b2, hT2, hR, hrall, hO, hoall, hfl, hrl, hol, hRO, nO0⟩
      obtain ⟨eO1, eO2⟩ := hT.t_ne nO0
      obtain ⟨x, hx, hxr⟩ := hwall.get hi
      have hi6 : i < 6 := by
        have := (List.getElem?_eq_some_iff.mp hx).1
        omega
      have hx2 := WantR.mo _ _ _ _ (hT.keep b2) hxr
      refine ⟨_, rfl, .inl ⟨rfl, _, SqL.of hO⟩, _, rfl, O, oxs, _, rfl, rfl, hO, sz_lt (by omega), ?_⟩
      have k3 : Keep H2 (upd H2 O (.lst (oxs ++ [y]))) := Keep.lst hO
      have b3 : But [tp] H (upd H2 O (.lst (oxs ++ [y]))) := b2.upd (.inr nO0)
      have hT3 := hT2.upd (o := .lst (oxs ++ [y])) eO1 eO2
      have hO3 : upd H2 O (.lst (oxs ++ [y])) O = some (.lst (oxs ++ [y])) := upd_same
      have hR3 : upd H2 O (.lst (oxs ++ [y])) R = some (.lst rxs) := by rw [upd_ne hRO]; exact hR
      have hrall3 := All2.mo RowWR.mo k3 hrall
      have hoall3 : All2 (WantR (upd H2 O (.lst (oxs ++ [y])))) (oxs ++ [y]) (own ++ [x]) := all2_snoc (All2.mo WantR.mo k3 hoall) (WantR.mo _ _ _ _ k3 hx2)
      have hfl3 : wss.flatten ++ (own ++ [x]) = ws.take (i + 1) := by rw [take_next hx, ← hfl, List.append_assoc]
      generalize upd H2 O (.lst (oxs ++ [y])) = H3 at *
      have hol3 : (oxs ++ [y]).length ≤ i + 1 := by rw [List.length_append]; exact Nat.succ_le_succ hol
      generalize oxs ++ [y] = oxs3 at *
      generalize own ++ [x] = own3 at *
      refine ⟨_, rfl, tp, cl, 2, _, rfl, hT3, by omega, by decide, by decide, fun r H4 r0 r1 b4 hT4 => ?_⟩
      have hR4 := b4 _ _ (by simpa using Ne.symm eR1) hR3
      have hO4 := b4 _ _ (by simpa using Ne.symm eO1) hO3
      have k4 := hT3.keep b4
      have hrall4 := All2.mo RowWR.mo k4 hrall3
      have hoall4 := All2.mo WantR.mo k4 hoall3
      have yes : ∀ (D : Ends), (∀ σ H5, (∃ O v4 rxs oxs wss own, σ = [some (.ref tp), some (.ref wa), some (.ref R), some (.ref O), v4] ∧ But [tp] H H5 ∧ TapC H5 tp cl (n + (i + 1)) ∧ H5 R = some (.lst rxs) ∧ All2 (RowWR H5) rxs wss ∧ H5 O = some (.lst oxs) ∧ All2 (WantR H5) oxs own ∧ wss.flatten ++ own = ws.take (i + 1) ∧ rxs.length ≤ i + 1 ∧ oxs.length ≤ i + 1 ∧ R ≠ O ∧ H O = none) → D.nx σ H5) →
          (tSeq (tDrop (tBM K "list" rAppend (tVar 2) (tCons (tTup (tCons (tCB rTup1 (tCons (tVar 3) tNil)) tNil)) tNil))) (tAsg (tLst tNil) (gName 3))) D [some (.ref tp), some (.ref wa), some (.ref R), some (.ref O), some y] H4 := by
        intro D hD
        refine ⟨_, rfl, .inl ⟨rfl, _, SqL.of hR4⟩, _, rfl, O, _, rfl, hO4, fun c H5 s5 _ hc => ⟨(by show 1 ≤ sizeLine; decide), fun a na => ?_⟩⟩
        have s6 := same_new (o := .tup [.ref c]) na
        have hR6 := s6 _ _ (s5 _ _ hR4)
        refine ⟨R, rxs, _, rfl, rfl, hR6, sz_lt (by omega), ?_⟩
        have k7 : Keep (upd H5 a (.tup [.ref c])) (upd (upd H5 a (.tup [.ref c])) R (.lst (rxs ++ [.ref a]))) := Keep.lst hR6
        have b7 : But [tp] H (upd (upd H5 a (.tup [.ref c])) R (.lst (rxs ++ [.ref a]))) := ((b3.trans b4).trans (But.of (s5.trans s6))).upd (.inr nR)
        have hT7 := (TapC.same (s5.trans s6) hT4).upd (o := .lst (rxs ++ [.ref a])) eR1 eR2
        have hR7 : upd (upd H5 a (.tup [.ref c])) R (.lst (rxs ++ [.ref a])) R = some (.lst (rxs ++ [.ref a])) := upd_same
        have k47 := ((Keep.of s5).trans (Keep.of s6)).trans k7
        have hrow : RowWR (upd (upd H5 a (.tup [.ref c])) R (.lst (rxs ++ [.ref a]))) (.ref a) own3 := ⟨a, .ref c, rfl, tup_keep k7 upd_same, c, oxs3, rfl, tup_keep ((Keep.of s6).trans k7) hc, All2.mo WantR.mo k47 hoall4⟩
        have hrall7 := all2_snoc (All2.mo RowWR.mo k47 hrall4) hrow
        generalize upd (upd H5 a (.tup [.ref c])) R (.lst (rxs ++ [.ref a])) = H7 at *
        refine ⟨Nat.zero_le _, fun O' nO' => ?_⟩
        have s8 := same_new (o := .lst []) nO'
        have nO'0 : H O' = none := but_none b7 (by simpa using Ne.symm (hT7.t_ne nO').1) nO'
        refine hD _ _ ⟨O', _, _, [], wss ++ [own3], [], rfl, b7.trans (But.of s8), (TapC.same s8 hT7).le (by omega), s8 _ _ hR7, All2.mo RowWR.mo (Keep.of s8) hrall7, upd_same, .nil, ?_, ?_, Nat.zero_le _, (fun z => by rw [← z, hR7] at nO'; cases nO'), nO'0⟩
        · rw [List.append_nil, List.flatten_append, show [own3].flatten = own3 by simp]
          exact hfl3
        · rw [List.length_append]
          exact Nat.succ_le_succ hrl
      refine ⟨rfl, _, rfl, ?_⟩
      by_cases h0 : r = 0
      · refine ite_t (decide_eq_true (congrArg V.int h0)) (ite_t rfl ?_)
        exact yes _ fun _ _ h => h
      · refine ite_f (decide_eq_false fun z => h0 (V.int.inj z)) ?_
        refine ⟨_, rfl, O, _, rfl, .inl hO4, rfl, _, rfl, ?_⟩
        by_cases h6 : (oxs3.length : Int) = 6
        · refine ite_t (decide_eq_true (congrArg V.int h6)) ?_
          exact yes _ fun _ _ h => h
        · refine ite_f (decide_eq_false fun z => h6 (V.int.inj z)) ?_
          exact ⟨O, _, rxs, oxs3, wss, own3, rfl, b3.trans b4, hT4, hR4, hrall4, hO4, hoall4, hfl3, by omega, hol3, hRO, nO0⟩
    · rintro σ H2 ⟨O, v4, rxs, oxs, wss, own, rfl, b2, hT2, hR, hrall, hO, hoall, hfl, hrl, hol, hRO, nO0⟩
      have hl := hwall.length
      refine ⟨_, rfl, .inl ⟨rfl, _, SqL.of hR⟩, _, rfl, O, _, rfl, hO, fun c H3 s3 _ hc => ⟨(by show 1 ≤ sizeLine; decide), fun a na => ?_⟩⟩
      have s4 := same_new (o := .tup [.ref c]) na
      have hR4 := s4 _ _ (s3 _ _ hR)
      refine ⟨R, rxs, _, rfl, rfl, hR4, sz_lt (by omega), ?_⟩
      have k5 : Keep (upd H3 a (.tup [.ref c])) (upd (upd H3 a (.tup [.ref c])) R (.lst (rxs ++ [.ref a]))) := Keep.lst hR4
      have k25 := ((Keep.of s3).trans (Keep.of s4)).trans k5
      have b5 : But [tp] H (upd (upd H3 a (.tup [.ref c])) R (.lst (rxs ++ [.ref a]))) := (b2.trans (But.of (s3.trans s4))).upd (.inr nR)
      have hT5 := (TapC.same (s3.trans s4) hT2).upd (o := .lst (rxs ++ [.ref a])) eR1 eR2
      refine ⟨_, rfl, R, _, rfl, upd_same, fun t H6 s6 _ ht => ?_⟩
      have k6 := k25.trans (Keep.of s6)
      refine k (.ref t) (wss ++ [own]) H6 (b5.trans (But.of s6)) ((TapC.same s6 hT5).le (by omega)) ⟨t, _, rfl, ht, all2_snoc (All2.mo RowWR.mo k6 hrall) ⟨a, .ref c, rfl, tup_keep (k5.trans (Keep.of s6)) upd_same, c, oxs, rfl, tup_keep (((Keep.of s4).trans k5).trans (Keep.of s6)) hc, All2.mo WantR.mo k6 hoall⟩⟩ ?_ ?_ (by rw [List.length_append]; exact Nat.le_add_left _ _)
      · rw [List.flatten_append, show [own].flatten = own by simp, hfl, hl, take_all]
      · rw [List.length_append, ← hrall.length]
        show _ + 1 ≤ 7
        omega
end
end Pk
end
section
set_option Elab.async false
set_option linter.all false
set_option maxRecDepth 100000
set_option maxHeartbeats 8000000
/-! A dict keyed by places (form, None), (form, shades): all its values True. -/
namespace Pk
open PySem PySem.Spec PyProof.Rows L2 FL
def keyP (p : Place) : NestedKey := match p.2 with
  | none => .tup [.text p.1, .none]
  | some T => .tup [.text p.1, .tup (T.map .text)]
def xsP (ps : List (Place × Addr)) : List (NestedKey × Addr × Value) := ps.map fun q => (keyP q.1, q.2, .bool true)
def phiN (P : Program) (w : World) (d : Addr) (ps : List (Place × Addr)) : Heap → Prop := fun h => (d == sysModules) = false ∧ ps.length ≤ sizeLine ∧
  ∃ o es ep, h.get? d = some o ∧ o.ExactDict ∧ o.data = .dict es ep ∧ es.toList = (xsP ps).map (entryOfKey (nestedKind P w)) ∧ ((xsP ps).map (·.1)).Nodup
def NdO (P : Program) (w : World) (d : Addr) (ps : List (Place × Addr)) : HO := .ext (phiN P w d ps)
section
variable {P : Program} {w : World} {H : Hp} {h : Heap} {d a : Addr} {ps : List (Place × Addr)}
theorem nd_ok (x : phiN P w d ps h) : ObjOk P w H h d (NdO P w d ps) :=
  ⟨x, (let ⟨_, _, o, _, _, e, _⟩ := x; ⟨o, e⟩), fun _ _ ⟨y1, y2, o, es, ep, e, r⟩ k => ⟨y1, y2, o, es, ep, k o e, r⟩⟩
theorem nd_phi (ok : HOk P w H h) (e : H d = some (NdO P w d ps)) : phiN P w d ps h := (show ObjOk P w H h d (NdO P w d ps) from ok d _ e).1
theorem depth_texts : ∀ T : List Str, NestedKey.depthAll (T.map .text) = 0
  | [] => by simp [NestedKey.depthAll]
  | s :: r => by simp [NestedKey.depthAll, NestedKey.depth, depth_texts r]
theorem nested_texts {h : Heap} : ∀ {T : List Str} {its : List Value}, Vals (T.map V.str) its → NestedAll h (T.map .text) its
  | [], _, r => by cases r; exact .nil
  | s :: t, _, r => by
    rw [List.map_cons] at r
    cases r with
    | cons r1 r2 =>
      obtain ⟨tk, rfl⟩ := r1
      exact .cons (.text _ _) (nested_texts r2)
/-- a place's tuple is a key -/
theorem place_is (ok : HOk P w H h) {p : Place} (hp : PlaceR H (.ref a) p) : (nestedKind P w).is h (keyP p) a := by
  obtain ⟨f, o⟩ := p
  obtain ⟨a', e, hm⟩ := hp
  cases e
  cases o with
  | none =>
    have hm : H a = some (.tup [.str f, .non]) := hm
    obtain ⟨_, its, r, ob, h1, h2, n, h3⟩ := (show ObjOk P w H h a (.tup [.str f, .non]) from ok a _ hm)
    refine ⟨.tup h1 h2 h3 ?_, by simp [keyP, NestedKey.depth, NestedKey.depthAll]⟩
    cases r with
    | cons r1 r2 =>
      cases r2 with
      | cons r3 r4 =>
        cases r4
        obtain ⟨tk, rfl⟩ := r1
        cases r3
        exact .cons (.text _ _) (.cons .none .nil)
  | some T =>
    obtain ⟨b, hm, hb⟩ := (show ∃ b, H a = some (.tup [.str f, .ref b]) ∧ H b = some (.tup (T.map V.str)) from hm)
    obtain ⟨_, its, r, ob, h1, h2, n, h3⟩ := (show ObjOk P w H h a (.tup [.str f, .ref b]) from ok a _ hm)
    obtain ⟨_, its', r', ob', h1', h2', n', h3'⟩ := (show ObjOk P w H h b (.tup (T.map V.str)) from ok b _ hb)
    refine ⟨.tup h1 h2 h3 ?_, by simp [keyP, NestedKey.depth, NestedKey.depthAll, depth_texts]⟩
    cases r with
    | cons r1 r2 =>
      cases r2 with
      | cons r3 r4 =>
        cases r4
        obtain ⟨tk, rfl⟩ := r1
        cases r3
        exact .cons (.text _ _) (.cons (.tup h1' h2' h3' (nested_texts r')) .nil)
theorem nd_dict (ok : HOk P w H h) (e : H d = some (NdO P w d ps)) (hp : ∀ q ∈ ps, PlaceR H (.ref q.2) q.1) : h.DictOfH (nestedKind P w) d (xsP ps) := by
  obtain ⟨_, _, o, es, ep, h1, h2, h3, h4, h5⟩ := nd_phi ok e
  refine ⟨o, es, ep, h1, h2, h3, h4, fun x hx => ?_, h5⟩
  obtain ⟨q, hq, rfl⟩ := List.mem_map.mp hx
  exact place_is ok (hp q hq)
theorem xsP_stored (p : Place) (b : Addr) : ∃ ps', (ps' = ps ∨ ps' = ps ++ [(p, b)]) ∧ storedH (xsP ps) (keyP p) b (.bool true) = xsP ps' := by
  unfold storedH
  split
  · refine ⟨ps, .inl rfl, ?_⟩
    refine (List.map_congr_left fun x hx => ?_).trans (List.map_id _)
    obtain ⟨q, _, rfl⟩ := List.mem_map.mp hx
    unfold putAt
    split <;> rfl
  · exact ⟨ps ++ [(p, b)], .inr rfl, by unfold xsP; rw [List.map_append]; rfl⟩
end
section
variable {X : Cx}
def tDNewN (P : Program) (w : World) : TE := fun _ H Q => ∀ p, H p = none → Q (.ref p) (upd H p (NdO P w p []))
theorem pe_dnewN0 {pos : Pos} : PE X (.Dict [] [] pos) (tDNewN X.prog X.w) := ⟨fun pins s σ H Q I h =>
  wpAny_Dict_empty ⟨.ref s.heap.objs.size, _, I.laid (a := s.heap.objs.size) (o := NdO X.prog X.w s.heap.objs.size []) (t' := s.toks) (fun _ _ q => Heap.get?_push_of_some _ q) (Nat.le_refl _)
    (nd_ok ⟨beq_eq_false_iff_ne.mpr (Ne.symm (Nat.ne_of_lt I.big)), Nat.zero_le _, _, #[], 0, Heap.get?_push_size _ rfl, ⟨rfl, rfl, rfl⟩, rfl, rfl, List.nodup_nil⟩), rfl, h _ (I.hok.fresh (Nat.le_refl _))⟩⟩
theorem nd_setItem {pins : List (Addr × Obj)} {σ : L2.St} {H : Hp} {s : Shared} {d b : Addr} {ps : List (Place × Addr)} {p : Place} {A : Around} {E : Value → Shared → Prop} {Q : Unit → Shared → Prop} (hu : A.units + 9 < cLine) (I : Inv X pins σ H s)
    (e : H d = some (NdO X.prog X.w d ps)) (hp : ∀ q ∈ ps, PlaceR H (.ref q.2) q.1) (hb : PlaceR H (.ref b) p) (hl : ps.length < sizeLine)
    (h : ∀ ps' s', (ps' = ps ∨ ps' = ps ++ [(p, b)]) → Inv X pins σ (upd H d (NdO X.prog X.w d ps')) s' → Q () s') : wpAny (model X.prog X.w) A (setItem (.ref d) (.ref b) (.bool true)) Q E s := by
  have ok := I.hok
  obtain ⟨g1, _⟩ := nd_phi ok e
  refine wpAny_setItem_heap (knd := nestedKind X.prog X.w) (hsz := by unfold xsP; rw [List.length_map]; omega) (by show A.units + 1 + 8 < cLine; omega) (place_is ok hb) (nd_dict ok e hp) fun h' dd hs => ?_
  obtain ⟨ps', hps, hst⟩ := xsP_stored (ps := ps) p b
  rw [hst] at dd
  obtain ⟨o, es, ep, h1, h2, h3, h4, _, h5⟩ := dd
  refine h ps' _ hps (d_write I (by rw [e]; exact True.intro) hs ⟨o, h1⟩ (nd_ok ⟨g1, ?_, o, es, ep, h1, h2, h3, h4, h5⟩))
  rcases hps with rfl | rfl
  · omega
  · rw [List.length_append]
    exact hl
/-- d[place] = True -/
def sNdPut (P : Program) (w : World) (td ty : TE) : TS := fun D σ H => td σ H fun x H2 => ty σ H2 fun y H3 => ∃ d b ps p, x = .ref d ∧ y = .ref b ∧ H3 d = some (NdO P w d ps) ∧ (∀ q ∈ ps, PlaceR H3 (.ref q.2) q.1) ∧ PlaceR H3 (.ref b) p ∧ ps.length < sizeLine ∧
  ∀ ps', (ps' = ps ∨ ps' = ps ++ [(p, b)]) → D.nx σ (upd H3 d (NdO P w d ps'))
theorem ps_ndput0 {o i value : Expr} {td ty : TE} {pos' pos : Pos} (hu : X.A.units + 9 < cLine) (ho : PE X o td) (hi : PE X i ty) (hv : PE X value (tC (.bl true))) (hs : swapsWith value (some (.Subscript o i pos')) pos.line X.env = pure false := by rfl) :
    PS X (.Assign [.Subscript o i pos'] value pos) (sNdPut X.prog X.w td ty) := by
  refine ⟨fun pins s σ H D I h => ?_⟩
  refine wpAny_Assign_Subscript (thn (hv.run pins s σ H (fun v H1 => v = V.bl true ∧ sNdPut X.prog X.w td ty D σ H1) I ⟨rfl, h⟩) fun r s1 ⟨v, H1, I1, rv, ev, q1⟩ => thn (ho.run pins s1 σ H1 _ I1 q1) fun u s2 ⟨x, H2, I2, rx, q2⟩ =>
    thn (hi.run pins s2 σ H2 _ I2 q2) fun iv s3 ⟨y, H3, I3, ry, d, b, ps, p, ex, ey, e, hp, hb, hl, q3⟩ => ?_) hs
  subst ev ex ey
  obtain rfl : u = Value.ref d := rx
  obtain rfl : iv = Value.ref b := ry
  obtain rfl : r = Value.bool true := rv
  exact nd_setItem hu I3 e hp hb hl fun ps' s4 hps I4 => ⟨σ, _, I4, q3 ps' hps⟩
theorem call_list_nd0 (hc : X.calm = true) : CallR X (.type "list") (fun xs H Q => ∃ d ps, xs = [V.ref d] ∧ H d = some (NdO X.prog X.w d ps) ∧ ∀ l, H l = none → Q (.ref l) (upd H l (.lst (ps.map fun q => V.ref q.2)))) := by
  intro pins s σ H xs us Q I r h
  obtain ⟨d, ps, rfl, hd, q⟩ := h
  obtain ⟨u, rfl, rx⟩ := r.one
  cases rx
  obtain ⟨hs, z, o, es, ep, ho, hx, hdt, he, hn⟩ := nd_phi I.hok hd
  have l1 : es.size = ps.length := by
    have := size_of_entries he
    rw [this]
    unfold xsP
    rw [List.length_map]
  refine PySem.W.kdl_call (kdl_raw hs hx hdt) (I.ok.hd hc) ho (by omega) fun h' tk acc' c' kp e it => ?_
  have eb : acc'.toList = (ps.map fun x => x.2).map Value.ref := by
    have hl : acc'.toList.length = ps.length := by rw [Array.length_toList, it.1]; exact l1
    rw [List.map_map]
    apply List.ext_getElem?
    intro j
    rw [List.getElem?_map]
    cases hj : acc'.toList[j]? with
    | none =>
      have h1 := List.getElem?_eq_none_iff.mp hj
      rw [List.getElem?_eq_none (by omega)]
      all_goals rfl
    | some v =>
      obtain ⟨en, hen, hv⟩ := it.2 j v (by rw [← Array.getElem?_toList]; exact hj)
      have qe := entry_at he j
      rw [hen] at qe
      unfold xsP at qe
      rw [List.getElem?_map] at qe
      cases hb : ps[j]? with
      | none =>
        rw [hb] at qe
        exact nomatch (show some en = none from qe)
      | some b =>
        rw [hb] at qe
        have e2 : en = entryOfKey (nestedKind X.prog X.w) (keyP b.1, b.2, .bool true) := Option.some.inj qe
        rw [hv, e2]
        all_goals rfl
  have rv : Vals ((ps.map fun x => x.2).map V.ref) acc'.toList := by rw [eb]; exact vals_refs _
  have em : (ps.map fun q => V.ref q.2) = (ps.map fun x => x.2).map V.ref := by rw [List.map_map]; rfl
  refine ⟨.ref s.heap.objs.size, _, I.laid (t' := tk) (o := .lst (ps.map fun q => V.ref q.2)) kp (Nat.le_refl _) ?_, rfl, q _ (I.hok.fresh (Nat.le_refl _))⟩
  exact ⟨by rw [List.length_map]; exact z, acc'.toList, c', by rw [em]; exact rv, by rw [Array.toArray_toList]; exact e⟩
theorem pe_dnewN (P : Program) (w : World) {pos : Pos} (h1 : X.prog = P := by rfl) (h2 : X.w = w := by rfl) : PE X (.Dict [] [] pos) (tDNewN P w) := by
  subst h1 h2
  exact pe_dnewN0
theorem ps_ndput (P : Program) (w : World) {o i value : Expr} {td ty : TE} {pos' pos : Pos} (hu : X.A.units + 9 < cLine) (ho : PE X o td) (hi : PE X i ty) (hv : PE X value (tC (.bl true))) (hs : swapsWith value (some (.Subscript o i pos')) pos.line X.env = pure false := by rfl)
    (h1 : X.prog = P := by rfl) (h2 : X.w = w := by rfl) : PS X (.Assign [.Subscript o i pos'] value pos) (sNdPut P w td ty) := by
  subst h1 h2
  exact ps_ndput0 hu ho hi hv hs
theorem call_list_nd (P : Program) (w : World) (hc : X.calm = true) (h1 : X.prog = P := by rfl) (h2 : X.w = w := by rfl) : CallR X (.type "list") (fun xs H Q => ∃ d ps, xs = [V.ref d] ∧ H d = some (NdO P w d ps) ∧ ∀ l, H l = none → Q (.ref l) (upd H l (.lst (ps.map fun q => V.ref q.2)))) := by
  subst h1 h2
  exact call_list_nd0 hc
end
end Pk
end
section
set_option Elab.async false
set_option linter.all false
set_option maxRecDepth 100000
set_option maxHeartbeats 8000000
namespace Pk
open PySem PySem.Spec PyProof.Rows L2 FL
theorem u9 {k : Nat} {A : Around} (h : Room k A) : A.units + 9 < cLine := by have := h.un; omega
/-- a pair (word, True) -/
def WTR : RX Str := fun H v s => ∃ p, v = .ref p ∧ H p = some (.tup [.str s, .bl true])
theorem WTR.mo : Mo WTR := fun _ _ _ _ k ⟨p, e, h⟩ => ⟨p, e, tup_keep k h⟩
def SetR : RX (List Str) := fun H v T => ∃ b, v = .ref b ∧ H b = some (.tup (T.map V.str))
theorem SetR.mo : Mo SetR := fun _ _ _ _ k ⟨p, e, h⟩ => ⟨p, e, tup_keep k h⟩
def kvW (s : Str) : Key × V := (Sum.inr s, V.bl true)
theorem wtr_pairs {K : PySem.W.Frag} {H : Hp} : ∀ {acc : List V} {ws : List Str}, All2 (WTR H) acc ws → ∃ ps : List Addr, acc = ps.map V.ref ∧ Paired (fun p (kv : Key × V) => SqT K H p [kV kv.1, kv.2]) ps (ws.map kvW)
  | _, _, .nil => ⟨[], rfl, .nil⟩
  | _, _, .cons (b := s) r t => by
    obtain ⟨p, rfl, hp⟩ := r
    obtain ⟨ps, rfl, hps⟩ := wtr_pairs (K := K) t
    exact ⟨p :: ps, rfl, .cons (SqT.of hp) hps⟩
theorem merge_keys : ∀ (ws : List Str) (kvs : List (Key × V)) (ks : List Str), kvs.map (·.1) = ks.map Sum.inr → ∃ ks' : List Str, (mergeK kvs (ws.map kvW)).map (·.1) = ks'.map Sum.inr ∧ ks'.length ≤ ks.length + ws.length
  | [], kvs, ks, h => ⟨ks, h, Nat.le_refl _⟩
  | w :: ws, kvs, ks, h => by
    have step : ∃ ks2 : List Str, (putK kvs (Sum.inr w) (V.bl true)).map (·.1) = ks2.map Sum.inr ∧ ks2.length ≤ ks.length + 1 := by
      unfold putK
      split
      · refine ⟨ks, ?_, Nat.le_succ _⟩
        rw [List.map_map, ← h]
        refine List.map_congr_left fun e _ => ?_
        show (if e.1 = Sum.inr w then (e.1, V.bl true) else e).1 = e.1
        split <;> rfl
      · refine ⟨ks ++ [w], ?_, by rw [List.length_append]; exact Nat.le_refl _⟩
        rw [List.map_append, List.map_append, h]
        rfl
    obtain ⟨ks2, h2, l2⟩ := step
    obtain ⟨ks3, h3, l3⟩ := merge_keys ws (putK kvs (Sum.inr w) (V.bl true)) ks2 h2
    refine ⟨ks3, h3, ?_⟩
    rw [List.length_cons]
    omega
section
variable {P : Program} {w : World} {K : PySem.W.Frag} {mg : Str → Option Value} {base : Heap} {C : Addr}
def spJoined : Sp := fun vs H Q _ => ∃ (a b : Addr) (T1 T2 : List Str), vs = [.ref a, .ref b] ∧ H a = some (.tup (T1.map V.str)) ∧ H b = some (.tup (T2.map V.str)) ∧ T1.length + T2.length < 64 ∧
  ∀ c (T : List Str) H', Same H H' → H' c = some (.tup (T.map V.str)) → T.length ≤ T1.length + T2.length → Q (.ref c) H'
theorem sc_law_joined : FnScope ["_law_one", "_law_other", "_law_word"] ["_law_one", "_law_other"] (defScope s_law_joined) := ⟨rfl, rfl, rfl, by decide +kernel, rfl, by decide +kernel, by decide +kernel⟩
theorem c_law_joined (T : Txt K mg C) : Cal P w K mg base CX0 1 "_law_joined" ["_law_one", "_law_other"] spJoined := by
  refine Cal.mk' T.d_law_joined sc_law_joined (fun vs H Q E h => ?_) (fun _ _ _ _ _ _ us hl => match us, hl with | [_, _], _ => rfl) (fun f cdv A outer s H vs Q E hr h => ?_)
  · obtain ⟨a, b, T1, T2, rfl, _⟩ := h
    rfl
  · obtain ⟨a, b, T1, T2, rfl, ha, hb, hl, k⟩ := h
    have sc := sc_law_joined
    refine ⟨_, (pss_one (ps_ret (pe_callTy tup1 (by rfl) T.tuple (by decide +kernel) (pa_cons (pe_callB (call_sortedD rfl) (by rfl) T.sorted (by decide +kernel) (pa_cons (pe_callTy (call_dictP rfl) (by rfl) T.dict (by decide +kernel) (pa_cons (pe_lc (own := [("_law_word", 2)]) rfl sc.nd (piT K (pe_op catT (pv 0) (pv 1))) (blkOk_by (N := ["_law_one", "_law_other", "_law_word"]) (sc := defScope s_law_joined) (own := [("_law_word", 2)]) (by decide +kernel)) (fun _ _ _ _ _ => (pg_name (i := 2) sc.nd rfl (.inl rfl))) (fun _ _ _ _ _ => pts_nil) (fun _ _ _ _ _ => (pe_tup (pa_cons (pv 2) (pa_cons pe_bl pa_nil))))) pa_nil)) pa_nil)) pa_nil)))), ?_⟩
    refine ⟨_, rfl, _, rfl, a, b, _, _, rfl, rfl, ha, hb, by rw [List.length_map, List.length_map]; omega, fun c H1 s1 hc => ⟨c, rfl, ⟨_, SqT.of hc⟩, fun D nD => ?_⟩⟩
    have eT : T1.map V.str ++ T2.map V.str = (T1 ++ T2).map V.str := (List.map_append ..).symm
    rw [eT] at hc
    refine lc_typed (walk_tup (K := K) (a := c) (xs := (T1 ++ T2).map V.str)) nD WTR WTR.mo (fun i => (T1 ++ T2)[i]?) (by rw [List.length_map, List.length_append]; omega) (fun H3 s3 => SqT.of (s3 _ _ hc)) (fun i y H3 H4 hi s3 hY kt kf => ?_) (fun H2 acc s2 hD hacc => ?_)
    · obtain ⟨rfl, hy⟩ := hY
      rw [List.getElem?_map] at hy
      obtain ⟨z, hz, rfl⟩ := Option.map_eq_some_iff.mp hy
      dsimp only [List.map, wipe, List.set]
      refine ⟨rfl, yesT ?_⟩
      refine ⟨_, rfl, (by show 2 ≤ sizeLine; decide), fun p np => ?_⟩
      exact kt _ _ z (same_new np) hz ⟨p, rfl, upd_same⟩
    · have hf : ((List.range ((T1 ++ T2).map V.str).length).filterMap fun i => (T1 ++ T2)[i]?) = T1 ++ T2 := by
        have := filterMap_get (fun s : Str => s) (T1 ++ T2)
        rw [List.length_map]
        simpa using this
      rw [hf] at hacc
      obtain ⟨ps, rfl, hps⟩ := wtr_pairs (K := K) hacc
      obtain ⟨ks, hks, hkl⟩ := merge_keys (T1 ++ T2) [] [] rfl
      rw [List.length_append, List.length_nil, Nat.zero_add] at hkl
      refine ⟨D, ps, _, rfl, SqL.of hD, hps, fun d nd => ?_⟩
      refine ⟨d, _, ks, rfl, Rd.of upd_same, hks, by omega, fun ys l hperm _ nl => ?_⟩
      refine ⟨l, _, rfl, upd_same, fun c' H' s' _ hc' => ?_⟩
      exact k c' ys H' ((s1.trans s2).trans (((same_new nd).trans (same_new nl)).trans s')) hc' (by rw [hperm.length_eq]; exact hkl)
/-! ### places -/
def spPlaces : Sp := fun vs H Q _ => ∃ u ws, vs = [u] ∧ WantsR H u ws ∧ WantsOK ws ∧ ∀ l xs (ps : List Place) H', H l = none → Same H H' → H' l = some (.lst xs) → All2 (PlaceR H') xs ps → ps.length ≤ 64 * ws.length → (∀ p ∈ ps, ∀ T, p.2 = some T → T.length ≤ 1000) → Q (.ref l) H'
/-- the dict of places, as it grows -/
structure PD (P : Program) (w : World) (H : Hp) (d : Addr) (ps : List (Place × Addr)) : Prop where
  at_ : H d = some (NdO P w d ps)
  pl : ∀ q ∈ ps, PlaceR H (.ref q.2) q.1
  sm : ∀ q ∈ ps, ∀ T, q.1.2 = some T → T.length ≤ 1000
theorem PD.same {H H' : Hp} {d : Addr} {ps : List (Place × Addr)} (h : PD P w H d ps) (s : Same H H') : PD P w H' d ps := ⟨s _ _ h.at_, fun q hq => PlaceR.mo _ _ _ _ (Keep.of s) (h.pl q hq), h.sm⟩
theorem Keep.nd {H : Hp} {d : Addr} {ps : List (Place × Addr)} {o : HO} (h : H d = some (NdO P w d ps)) : Keep H (L2.upd H d o) := Keep.upd fun u e i => by
  rw [h] at e
  cases e
  exact i
theorem PD.put {H : Hp} {d b : Addr} {ps ps' : List (Place × Addr)} {p : Place} (h : PD P w H d ps) (hb : PlaceR H (.ref b) p) (hs : ∀ T, p.2 = some T → T.length ≤ 1000) (e : ps' = ps ∨ ps' = ps ++ [(p, b)]) : PD P w (upd H d (NdO P w d ps')) d ps' ∧ ps'.length ≤ ps.length + 1 := by
  have k : Keep H (upd H d (NdO P w d ps')) := Keep.nd h.at_
  rcases e with rfl | rfl
  · exact ⟨⟨upd_same, fun q hq => PlaceR.mo _ _ _ _ k (h.pl q hq), h.sm⟩, Nat.le_succ _⟩
  · refine ⟨⟨upd_same, fun q hq => ?_, fun q hq => ?_⟩, by rw [List.length_append]; exact Nat.le_refl _⟩
    · rcases List.mem_append.mp hq with z | z
      · exact PlaceR.mo _ _ _ _ k (h.pl q z)
      · obtain rfl : q = (p, b) := by simpa using z
        exact PlaceR.mo _ _ _ _ k hb
    · rcases List.mem_append.mp hq with z | z
      · exact h.sm q z
      · obtain rfl : q = (p, b) := by simpa using z
        exact hs
theorem sc_law_places : FnScope ["_law_wants_here", "_law_found", "_law_form", "_law_sets", "_law_own", "_law_some_here", "_law_many", "_law_want", "_law_one_set"] ["_law_wants_here"] (defScope s_law_places) := ⟨rfl, rfl, rfl, by decide +kernel, rfl, by decide +kernel, by decide +kernel⟩
theorem c_law_places (T : Txt K mg C) : Cal P w K mg base CX0 2 "_law_places" ["_law_wants_here"] spPlaces := by
  have C_law_joined : Cal P w K mg base CX0 1 "_law_joined" ["_law_one", "_law_other"] spJoined := c_law_joined T
  refine Cal.mk' T.d_law_places sc_law_places (fun vs H Q E h => ?_) (fun _ _ _ _ _ _ us hl => match us, hl with | [_], _ => rfl) (fun f cdv A outer s H vs Q E hr h => ?_)
  · obtain ⟨u, ws, rfl, _⟩ := h
    rfl
  · obtain ⟨u, ws, rfl, ⟨wa, wxs, rfl, hwa, hwall⟩, wok, k⟩ := h
    have sc := sc_law_places
    have hu := hu_of hr
    have h9 := u9 hr
    have hn6 := wok.len
    refine ⟨_, (pss_cons (ps_set (i := 1) sc.nd rfl (.inl rfl) (pe_dnewN P w))
      (pss_cons (ps_for PassesOwn.never rfl (piL K (pe_callB (call_sortedD rfl) (by rfl) T.sorted (by decide +kernel) (pa_cons (pe_callTy (call_dictP rfl) (by rfl) T.dict (by decide +kernel) (pa_cons (pe_lc (own := [("_law_want", 7)]) rfl sc.nd (piT K (pv 0)) (blkOk_by (N := ["_law_wants_here", "_law_found", "_law_form", "_law_sets", "_law_own", "_law_some_here", "_law_many", "_law_want", "_law_one_set"]) (sc := defScope s_law_places) (own := [("_law_want", 7)]) (by decide +kernel)) (fun _ _ _ _ _ => (pg_name (i := 7) sc.nd rfl (.inl rfl))) (fun _ _ _ _ _ => pts_nil) (fun _ _ _ _ _ => (pe_tup (pa_cons (pe_ix ixT (pv 7) pe_int (fun _ _ => rfl)) (pa_cons pe_bl pa_nil))))) pa_nil)) pa_nil))) (pg_name (i := 2) sc.nd rfl (.inl rfl)) (pss_cons (ps_ndput P w h9 (pv 1) (pe_tup (pa_cons (pv 2) (pa_cons pe_non pa_nil))) pe_bl)
      (pss_cons (ps_set (i := 3) sc.nd rfl (.inl rfl) (pe_lst (pa_cons (pe_tup pa_nil) pa_nil)))
      (pss_cons (ps_for PassesOwn.never rfl (piT K (pv 0)) (pgT K (n := 3) rfl (pgs_cons (pg_name (i := 4) sc.nd rfl (.inl rfl)) (pgs_cons (pg_name (i := 5) sc.nd rfl (.inr rfl)) (pgs_cons (pg_name (i := 6) sc.nd rfl (.inl rfl)) pgs_nil)))) (pss_one (ps_if (PW.pt (pw_and (pt_cmpR op_eq (pv 4) (pv 2) (nomark _)) (pw_and1 (pt_cmpR (neEmpT hu) (pv 5) (pe_tup pa_nil) (nomark _))))) (pss_one (ps_set (i := 3) sc.nd rfl (.inl rfl) (pe_op op_cat (pv 3) (pe_lc (own := [("_law_one_set", 8)]) rfl sc.nd (piL K (pv 3)) (blkOk_by (N := ["_law_wants_here", "_law_found", "_law_form", "_law_sets", "_law_own", "_law_some_here", "_law_many", "_law_want", "_law_one_set"]) (sc := defScope s_law_places) (own := [("_law_one_set", 8)]) (by decide +kernel)) (fun _ _ _ _ _ => (pg_name (i := 8) sc.nd rfl (.inl rfl))) (fun _ _ _ _ _ => pts_nil) (fun _ _ _ _ _ => (pe_cal C_law_joined hr (pa_cons (pv 8) (pa_cons (pv 5) pa_nil)))))))) pss_nil)))
      (pss_one (ps_for PassesOwn.never rfl (piL K (pe_slice (slL K) (pv 3) (po_some pe_int) po_none)) (pg_name (i := 5) sc.nd rfl (.inr rfl)) (pss_one (ps_ndput P w h9 (pv 1) (pe_tup (pa_cons (pv 2) (pa_cons (pv 5) pa_nil))) pe_bl))))))))
      (pss_one (ps_ret (pe_callTy (call_list_nd P w rfl) (by rfl) T.list (by decide +kernel) (pa_cons (pv 1) pa_nil)))))), ?_⟩
    intro Fd nFd
    have s0 : Same H (upd H Fd (NdO P w Fd [])) := same_new nFd
    have pd0 : PD P w (upd H Fd (NdO P w Fd [])) Fd [] := ⟨upd_same, fun q h => by simp at h, fun q h => by simp at h⟩
    generalize upd H Fd (NdO P w Fd []) = H0 at *
    have hwa0 := s0 _ _ hwa
    have pow6 : ∀ j, j ≤ 6 → 2 ^ j ≤ 64 := fun j hj => Nat.le_trans (Nat.pow_le_pow_right (by decide) hj) (by decide)
    refine ⟨_, rfl, wa, rfl, ⟨_, SqT.of hwa0⟩, fun D nD => ?_⟩
    refine lc_typed (walk_tup (K := K) (a := wa) (xs := wxs)) nD WTR WTR.mo (fun i => (ws[i]?).map fun x => x.1) (by rw [hwall.length]; omega) (fun H3 s3 => SqT.of (s3 _ _ hwa0)) (fun i y H3 H4 hi s3 hY kt kf => ?_) (fun H1 acc s1 hD hacc => ?_)
    · obtain ⟨rfl, hy⟩ := hY
      obtain ⟨x, hx, a, b, rfl, ha, hb⟩ := hwall.get hy
      have ha3 := (s0.trans s3) _ _ ha
      dsimp only [List.map, wipe, List.set]
      refine ⟨rfl, yesT ?_⟩
      refine ⟨_, rfl, a, _, _, _, rfl, rfl, ha3, at0, (by show 2 ≤ sizeLine; decide), fun p np => ?_⟩
      exact kt _ _ x.1 (same_new np) (by show (ws[i]?).map _ = _; rw [hx]; rfl) ⟨p, rfl, upd_same⟩
    · rw [hwall.length, filterMap_get] at hacc
      obtain ⟨ps, rfl, hps⟩ := wtr_pairs (K := K) hacc
      obtain ⟨ks, hks, hkl⟩ := merge_keys (ws.map fun x => x.1) [] [] rfl
      rw [List.length_map, List.length_nil, Nat.zero_add] at hkl
      refine ⟨D, ps, _, rfl, SqL.of hD, hps, fun d nd => ?_⟩
      refine ⟨d, _, ks, rfl, Rd.of upd_same, hks, by omega, fun ys l hperm _ nl => ?_⟩
      have hyl := hperm.length_eq
      have s2 : Same H1 (upd (upd H1 d (.dK (mergeK [] ((ws.map fun x => x.1).map kvW)))) l (.lst (ys.map V.str))) := (same_new nd).trans (same_new nl)
      have hl2 : upd (upd H1 d (.dK (mergeK [] ((ws.map fun x => x.1).map kvW)))) l (.lst (ys.map V.str)) l = some (.lst (ys.map V.str)) := upd_same
      generalize upd (upd H1 d (.dK (mergeK [] ((ws.map fun x => x.1).map kvW)))) l (.lst (ys.map V.str)) = H2 at *
      have s02 := s0.trans (s1.trans s2)
      have pd2 := pd0.same (s1.trans s2)
      have hlF : l ≠ Fd := fun z => by rw [z, pd2.at_] at hl2; cases hl2
      have b02 : But [Fd] H H2 := But.of s02
      refine ⟨l, rfl, ⟨_, SqL.of hl2⟩, for_list (K := K) (a := l) (xs := ys.map V.str) (fun i σ H3 => ∃ ps v2 v3 v4 v5 v6, σ = [some (.ref wa), some (.ref Fd), v2, v3, v4, v5, v6, none, none] ∧ But [Fd] H2 H3 ∧ PD P w H3 Fd ps ∧ ps.length ≤ 64 * i)
        ⟨[], none, none, none, none, none, rfl, But.refl _ _, pd2, Nat.le_refl _⟩ (fun i σ H3 _ ⟨_, _, _, _, _, _, _, b, _⟩ => SqL.of (b _ _ (by simpa using hlF) hl2)) ?_ ?_⟩
      · rintro i y σ H3 hi ⟨ps, v2, v3, v4, v5, v6, rfl, b3, pd3, hl3⟩
        rw [List.getElem?_map] at hi
        obtain ⟨z, hz, rfl⟩ := Option.map_eq_some_iff.mp hi
        have hi6 : i < 6 := by
          have := (List.getElem?_eq_some_iff.mp hz).1
          omega
        dsimp only [List.set]
        refine ⟨_, rfl, _, rfl, (by show 2 ≤ sizeLine; decide), fun t nt => ?_⟩
        have s4 := same_new (o := .tup [.str z, .non]) nt
        have pd4 := pd3.same s4
        have ht4 : PlaceR (upd H3 t (.tup [.str z, .non])) (.ref t) (z, none) := ⟨t, rfl, upd_same⟩
        refine ⟨Fd, t, ps, (z, none), rfl, rfl, pd4.at_, pd4.pl, ht4, sz_lt (by omega), fun ps' hps => ?_⟩
        obtain ⟨pd5, hl5⟩ := pd4.put ht4 (fun T e => by cases e) hps
        have b5 : But [Fd] H2 (upd (upd H3 t (.tup [.str z, .non])) Fd (NdO P w Fd ps')) := (b3.trans (But.of s4)).upd (.inl (by simp))
        show tSeq _ _ _ _ (upd (upd H3 t (.tup [.str z, .non])) Fd (NdO P w Fd ps'))
        generalize upd (upd H3 t (.tup [.str z, .non])) Fd (NdO P w Fd ps') = H5 at *
        refine ⟨Nat.zero_le _, fun t0 nt0 => ⟨(by show 1 ≤ sizeLine; decide), fun S0 nS0 => ?_⟩⟩
        have s6 : Same H5 (upd (upd H5 t0 (.tup [])) S0 (.lst [.ref t0])) := (same_new nt0).trans (same_new nS0)
        have hS0 : upd (upd H5 t0 (.tup [])) S0 (.lst [.ref t0]) S0 = some (.lst [.ref t0]) := upd_same
        have hall0 : All2 (SetR (upd (upd H5 t0 (.tup [])) S0 (.lst [.ref t0]))) [.ref t0] [[]] := .cons ⟨t0, rfl, same_new nS0 _ _ upd_same⟩ .nil
        generalize upd (upd H5 t0 (.tup [])) S0 (.lst [.ref t0]) = H6 at *
        have nwF : wa ≠ Fd := fun q => by rw [q, nFd] at hwa; cases hwa
        have b06 : But [Fd] H H6 := (b02.trans b5).trans (But.of s6)
        have up : ∀ a o, H a = some o → H6 a = some o := fun a o e => b06 _ _ (by
          have : a ≠ Fd := fun q => by rw [q, nFd] at e; cases e
          simpa using this) e
        refine ⟨_, rfl, wa, rfl, ⟨_, SqT.of (up _ _ hwa)⟩, for_tup (K := K) (a := wa) (xs := wxs) (fun j σ H7 => ∃ S v4 v5 v6 sxs Ts, σ = [some (.ref wa), some (.ref Fd), some (.str z), some (.ref S), v4, v5, v6, none, none] ∧ Same H6 H7 ∧ H7 S = some (.lst sxs) ∧ All2 (SetR H7) sxs Ts ∧ sxs.length ≤ 2 ^ j ∧ ∀ T ∈ Ts, T.length ≤ 5 * j)
          ⟨S0, v4, v5, v6, _, _, rfl, Same.refl _, hS0, hall0, Nat.le_refl _, fun T hT => by
            obtain rfl : T = [] := by simpa using hT
            exact Nat.le_refl _⟩ (fun j σ H7 _ ⟨_, _, _, _, _, _, _, s, _⟩ => SqT.of (s _ _ (up _ _ hwa))) ?_ ?_⟩
        · rintro j y σ H7 hj ⟨S, v4, v5, v6, sxs, Ts, rfl, s7, hS, hall, hlen, hTl⟩
          obtain ⟨x, hx, a, b, rfl, ha, hb⟩ := hwall.get hj
          have hj6 : j < 6 := by
            have := (List.getElem?_eq_some_iff.mp hx).1
            omega
          have hp6 := pow6 (j + 1) (by omega)
          have hpj : 2 ^ (j + 1) = 2 * 2 ^ j := by rw [Nat.pow_succ]; omega
          have ha7 := s7 _ _ (up _ _ ha)
          have hb7 := s7 _ _ (up _ _ hb)
          have xok := wok.all _ (List.mem_of_getElem? hx)
          have xl := xok.len
          have fin : ∀ H8 v4 v5 v6, Same H7 H8 → ∃ S' v4' v5' v6' sxs' Ts', [some (V.ref wa), some (.ref Fd), some (.str z), some (.ref S), v4, v5, v6, none, none] = [some (.ref wa), some (.ref Fd), some (.str z), some (.ref S'), v4', v5', v6', none, none] ∧ Same H6 H8 ∧ H8 S' = some (.lst sxs') ∧ All2 (SetR H8) sxs' Ts' ∧ sxs'.length ≤ 2 ^ (j + 1) ∧ ∀ T ∈ Ts', T.length ≤ 5 * (j + 1) := fun H8 v4 v5 v6 s8 =>
            ⟨S, v4, v5, v6, sxs, Ts, rfl, s7.trans s8, s8 _ _ hS, All2.mo SetR.mo (Keep.of s8) hall, by omega, fun T hT => by have := hTl T hT; omega⟩
          refine ⟨a, _, rfl, SqT.of ha7, rfl, _, _, rfl, _, _, rfl, _, _, rfl, rfl, ?_⟩
          dsimp only [List.set]
          refine ⟨_, rfl, _, rfl, rfl, _, rfl, ?_⟩
          by_cases hf : x.1 = z
          · refine ite_t (decide_eq_true (congrArg V.str hf)) ?_
            refine ⟨_, rfl, Nat.zero_le _, fun e ne => ?_⟩
            have s8 := same_new (o := .tup []) ne
            refine ⟨b, e, _, rfl, rfl, s8 _ _ hb7, upd_same, _, rfl, ?_⟩
            by_cases he : x.2.1 = []
            · refine ite_f (by rw [he]; rfl) ?_
              exact fin _ _ _ _ s8
            · refine ite_t (by cases q : x.2.1 with | nil => exact absurd q he | cons _ _ => rfl) ?_
              have hS8 := s8 _ _ hS
              have hb8 := s8 _ _ hb7
              have hall8 := All2.mo SetR.mo (Keep.of s8) hall
              have s78 := s7.trans s8
              generalize upd H7 e (.tup []) = H8 at *
              refine ⟨_, rfl, _, rfl, S, rfl, ⟨_, SqL.of hS8⟩, fun D nD => ?_⟩
              refine lc_rel (walk_list (K := K) (a := S) (xs := sxs)) SetR SetR.mo (fun _ T => T.length ≤ 5 * (j + 1)) (by omega) (fun _ H => Same H8 H) (same_new nD) (fun i H acc acc' s _ => same_mut s nD) (fun i H _ s => SqL.of (s _ _ hS8)) (fun i y H9 H10 acc hi s9 hD9 hY kt => ?_) (fun H9 acc bs s9 hD9 hal hall9 hf => ?_)
              · obtain ⟨rfl, hy⟩ := hY
                obtain ⟨T1, hT1, bb, rfl, hbb⟩ := hall8.get hy
                have hT1l := hTl T1 (List.mem_of_getElem? hT1)
                dsimp only [List.map, wipe, List.set]
                refine ⟨rfl, yesT ?_⟩
                refine ⟨_, rfl, _, rfl, bb, b, T1, x.2.1, rfl, s9 _ _ hbb, s9 _ _ hb8, by omega, fun c T' H' s' hc hlT => ?_⟩
                exact kt _ H' T' (Keep.of s') (s' _ _ hD9) (by omega) ⟨c, rfl, hc⟩ (s9.trans s')
              · refine ⟨S, D, sxs, acc, rfl, rfl, s9 _ _ hS8, hD9, sz_of (by omega), fun p np => ?_⟩
                have s10 := same_new (o := .lst (sxs ++ acc)) np
                refine ⟨p, _, _, _, sxs ++ acc, Ts ++ bs, rfl, (s78.trans s9).trans s10, upd_same, (All2.mo SetR.mo (Keep.of (s9.trans s10)) hall8).append (All2.mo SetR.mo (Keep.of s10) hall9), by rw [List.length_append]; omega, fun T hT => ?_⟩
                rcases List.mem_append.mp hT with q | q
                · have := hTl T q; omega
                · obtain ⟨m, hm⟩ := List.mem_iff_getElem?.mp q
                  exact hf m T hm
          · refine ite_f (decide_eq_false fun q => hf (V.str.inj q)) ?_
            refine ite_f rfl ?_
            exact fin _ _ _ _ (Same.refl _)
        · rintro σ H7 ⟨S, v4, v5, v6, sxs, Ts, rfl, s7, hS, hall, hlen, hTl⟩
          have hwl := hwall.length
          have hlen64 : sxs.length ≤ 64 := Nat.le_trans hlen (pow6 _ (by omega))
          refine ⟨_, rfl, 1, rfl, S, _, rfl, SqL.of hS, fun L nL => ?_⟩
          have s8 := same_new (o := .lst (cutV sxs (some 1) none)) nL
          have hL8 : upd H7 L (.lst (cutV sxs (some 1) none)) L = some (.lst (cutV sxs (some 1) none)) := upd_same
          have pd8 := pd5.same (s6.trans (s7.trans s8))
          have b8 := b5.trans (But.of (s6.trans (s7.trans s8)))
          have hall8 := All2.mo SetR.mo (Keep.of s8) hall
          generalize upd H7 L (.lst (cutV sxs (some 1) none)) = H8 at *
          have nLF : L ≠ Fd := fun q => by rw [q, pd8.at_] at hL8; cases hL8
          refine ⟨L, rfl, ⟨_, SqL.of hL8⟩, for_list (K := K) (a := L) (xs := cutV sxs (some 1) none) (fun j σ H9 => ∃ ps v5, σ = [some (.ref wa), some (.ref Fd), some (.str z), some (.ref S), v4, v5, v6, none, none] ∧ But [Fd] H8 H9 ∧ Keep H8 H9 ∧ PD P w H9 Fd ps ∧ ps.length ≤ 64 * i + 1 + j)
            ⟨ps', v5, rfl, But.refl _ _, Keep.refl _, pd8, by omega⟩ (fun j σ H9 _ ⟨_, _, _, b, _⟩ => SqL.of (b _ _ (by simpa using nLF) hL8)) ?_ ?_⟩
          · rintro j y σ H9 hj ⟨ps, v5, rfl, b9, k9, pd9, hl9⟩
            rw [cut_from1, List.getElem?_drop] at hj
            have hj64 : j < 64 := by
              have := (List.getElem?_eq_some_iff.mp hj).1
              omega
            obtain ⟨T1, hT1, bb, rfl, hbb⟩ := hall8.get hj
            have hT1l := hTl T1 (List.mem_of_getElem? hT1)
            dsimp only [List.set]
            refine ⟨_, rfl, _, rfl, _, rfl, (by show 2 ≤ sizeLine; decide), fun t nt => ?_⟩
            have s10 := same_new (o := .tup [.str z, .ref bb]) nt
            have pd10 := pd9.same s10
            have ht10 : PlaceR (upd H9 t (.tup [.str z, .ref bb])) (.ref t) (z, some T1) := ⟨t, rfl, bb, upd_same, s10 _ _ (tup_keep k9 hbb)⟩
            refine ⟨Fd, t, ps, (z, some T1), rfl, rfl, pd10.at_, pd10.pl, ht10, sz_lt (by omega), fun ps' hps => ?_⟩
            obtain ⟨pd11, hl11⟩ := pd10.put ht10 (fun T e => by cases e; omega) hps
            exact ⟨ps', _, rfl, (b9.trans (But.of s10)).upd (.inl (by simp)), (k9.trans (Keep.of s10)).trans (Keep.nd pd10.at_), pd11, by omega⟩
          · rintro σ H9 ⟨ps, v5, rfl, b9, k9, pd9, hl9⟩
            rw [cut_from1, List.length_drop] at hl9
            exact ⟨ps, _, _, _, _, _, rfl, b8.trans b9, pd9, by omega⟩
      · rintro σ H3 ⟨ps, v2, v3, v4, v5, v6, rfl, b3, pd3, hl3⟩
        rw [List.length_map] at hl3
        refine ⟨_, rfl, Fd, ps, rfl, pd3.at_, fun l2 nl2 => ?_⟩
        have s4 := same_new (o := .lst (ps.map fun q => V.ref q.2)) nl2
        have b4 : But [Fd] H (upd H3 l2 (.lst (ps.map fun q => V.ref q.2))) := (b02.trans b3).trans (But.of s4)
        have b03 := b02.trans b3
        refine k l2 _ (ps.map (·.1)) _ (but_none b03 (by
          have : l2 ≠ Fd := fun q => by rw [q, pd3.at_] at nl2; cases nl2
          simpa using this) nl2) (fun a o e => b4 a o (by
          have : a ≠ Fd := fun q => by rw [q, nFd] at e; cases e
          simpa using this) e) upd_same ?_ (by rw [List.length_map]; omega) (fun p hp => ?_)
        · have pl4 := (pd3.same s4).pl
          generalize upd H3 l2 (.lst (ps.map fun q => V.ref q.2)) = H4 at *
          clear hl3 s4 b4 pd3 nl2
          induction ps with
          | nil => exact .nil
          | cons q r ih => exact .cons (pl4 q (by simp)) (ih fun q hq => pl4 q (by simp [hq]))
        · obtain ⟨q, hq, rfl⟩ := List.mem_map.mp hp
          exact pd3.sm q hq
end
end Pk
end
section
set_option Elab.async false
set_option linter.all false
set_option maxRecDepth 100000
set_option maxHeartbeats 8000000
namespace Pk
open PySem PySem.Spec PyProof.Rows L2 FL
section
variable {X : Cx}
def rSumT : List V → Hp → VK → Prop := fun vs H Q => ∃ (a : Addr) (ns : List Int), vs = [V.ref a] ∧ H a = some (.tup (ns.map V.int)) ∧ Q (.int ns.sum) H
theorem sumT (hc : X.calm = true) : CallR X (.builtin "sum") rSumT := by
  intro pins s σ H vs us Q I r h
  obtain ⟨a, ns, rfl, hs, q⟩ := h
  obtain rfl := Vals.ref1 r
  obtain ⟨its, rv, p, hz⟩ := I.tuple (SqT.of hs)
  have hi := rv.ints
  have hl : s.heap.IsTuple a its.toArray := p
  obtain ⟨xs, e⟩ := hi.allInts.items
  have hn : numsOf (intItems xs).toList = ns := by rw [← e]; exact hi.numsOf
  rw [nums_intItems] at hn
  rw [e] at hl
  refine PySem.W.ktm_sumG (I.ok.hd hc) hl fun h' tk t' hk => ?_
  rw [preSum_eq, List.take_of_length_le (by simp), hn]
  exact ⟨.int _, H, I.kept hk, ⟨_, rfl⟩, q⟩
end
/-! ### sums -/
structure LSums (t : Int) (j : Nat) (rs : List (List Int)) : Prop where
  ok : ∀ m ∈ rs, m.length = j ∧ (∀ n ∈ m, 0 ≤ n) ∧ m.sum ≤ t
  len : rs.length ≤ 37 ^ j
  ne : rs ≠ []
def lexp (t : Int) (m : List Int) : List (List Int) := (List.range (t - m.sum + 1).toNat).map fun i => m ++ [0 + ((i : Nat) : Int)]
theorem LSums.start {t : Int} (h : 0 ≤ t) : LSums t 0 [[]] := ⟨fun m hm => by
  obtain rfl : m = [] := by simpa using hm
  exact ⟨rfl, fun n hn => by simp at hn, by simpa using h⟩, Nat.le_refl _, by simp⟩
theorem lexp_len {t : Int} {m : List Int} (h0 : 0 ≤ m.sum) (h : t ≤ 36) : (lexp t m).length ≤ 37 := by
  unfold lexp
  rw [List.length_map, List.length_range]
  omega
theorem LSums.step {t : Int} {j : Nat} {rs : List (List Int)} (h : LSums t j rs) (ht : t ≤ 36) : LSums t (j + 1) (rs.flatMap (lexp t)) where
  ok := fun y hy => by
    obtain ⟨m, hm, hy2⟩ := List.mem_flatMap.mp hy
    obtain ⟨h1, h2, h3⟩ := h.ok m hm
    unfold lexp at hy2
    obtain ⟨i, hi, rfl⟩ := List.mem_map.mp hy2
    have hi' := List.mem_range.mp hi
    refine ⟨by simp [h1], fun n hn => ?_, ?_⟩
    · rcases List.mem_append.mp hn with z | z
      · exact h2 n z
      · have : n = 0 + ((i : Nat) : Int) := by simpa using z
        omega
    · rw [List.sum_append, List.sum_cons, List.sum_nil]
      omega
  len := by
    have key : ∀ l : List (List Int), (∀ m ∈ l, 0 ≤ m.sum) → (l.flatMap (lexp t)).length ≤ 37 * l.length := by
      intro l
      induction l with
      | nil => intro _; simp
      | cons a r ih =>
        intro hl
        rw [List.flatMap_cons, List.length_append, List.length_cons]
        have h1 := lexp_len (t := t) (m := a) (hl a (by simp)) ht
        have h2 := ih fun m hm => hl m (by simp [hm])
        omega
    have := key rs fun m hm => sum_nonneg (h.ok m hm).2.1
    have h2 := h.len
    rw [Nat.pow_succ]
    omega
  ne := by
    intro z
    cases q : rs with
    | nil => exact h.ne q
    | cons a r =>
      have h3 := (h.ok a (by rw [q]; simp)).2.2
      rw [q, List.flatMap_cons] at z
      have : lexp t a = [] := (List.append_eq_nil_iff.mp z).1
      have hl : (lexp t a).length = 0 := by rw [this]; rfl
      unfold lexp at hl
      rw [List.length_map, List.length_range] at hl
      omega
section
variable {P : Program} {w : World} {K : PySem.W.Frag} {mg : Str → Option Value} {base : Heap} {C : Addr}
def spLSums : Sp := fun vs H Q _ => ∃ (k : Nat) (t : Int), vs = [.int (k : Int), .int t] ∧ k ≤ 4 ∧ 0 ≤ t ∧ t ≤ 36 ∧ ∀ l H' ys (ms : List (List Int)), Same H H' → H' l = some (.lst ys) → All2 (IntsR H') ys ms → (∀ m ∈ ms, m.length = k ∧ (∀ n ∈ m, 0 ≤ n) ∧ m.sum = t) → (t = 0 → ms ≠ []) → Q (.ref l) H'
theorem sc_law_sums : FnScope ["_law_parts", "_law_total", "_law_rows_here", "_law_k", "_law_longer", "_law_row", "_law_number"] ["_law_parts", "_law_total"] (defScope s_law_sums) := ⟨rfl, rfl, rfl, by decide +kernel, rfl, by decide +kernel, by decide +kernel⟩
theorem c_law_sums (T : Txt K mg C) : Cal P w K mg base CX0 1 "_law_sums" ["_law_parts", "_law_total"] spLSums := by
  refine Cal.mk' T.d_law_sums sc_law_sums (fun vs H Q E h => ?_) (fun _ _ _ _ _ _ us hl => match us, hl with | [_, _], _ => rfl) (fun f cdv A outer s H vs Q E hr h => ?_)
  · obtain ⟨k, t, rfl, _⟩ := h
    rfl
  · obtain ⟨k, t, rfl, hk4, ht0, ht36, kq⟩ := h
    have sc := sc_law_sums
    have pow4 : ∀ j, j ≤ 4 → 37 ^ j ≤ 1874161 := fun j hj => by
      have : 37 ^ j ≤ 37 ^ 4 := Nat.pow_le_pow_right (by decide) hj
      have e : 37 ^ 4 = 1874161 := by decide
      omega
    refine ⟨_, (pss_cons (ps_set (i := 2) sc.nd rfl (.inl rfl) (pe_lst (pa_cons (pe_tup pa_nil) pa_nil)))
      (pss_cons (ps_for PassesOwn.never rfl (pi_range1 rfl T.range (pa_cons (pv 0) pa_nil)) (pg_name (i := 3) sc.nd rfl (.inl rfl)) (pss_cons (ps_set (i := 4) sc.nd rfl (.inl rfl) (pe_lst pa_nil))
      (pss_cons (ps_for PassesOwn.never rfl (piL K (pv 2)) (pg_name (i := 5) sc.nd rfl (.inr rfl)) (pss_one (ps_expr (pe_bm PySem.F.plainAttrs_list PySem.F.slot_list_extend PySem.F.type_list_extend mt_extend (pv 4) (pa_cons (pe_lc (own := [("_law_number", 6)]) rfl sc.nd (pi_range1 rfl T.range (pa_cons (pe_op op_add (pe_op op_sub (pv 1) (pe_callB (sumT rfl) (by rfl) T.sum (by decide +kernel) (pa_cons (pv 5) pa_nil))) pe_int) pa_nil)) (blkOk_by (N := ["_law_parts", "_law_total", "_law_rows_here", "_law_k", "_law_longer", "_law_row", "_law_number"]) (sc := defScope s_law_sums) (own := [("_law_number", 6)]) (by decide +kernel)) (fun _ _ _ _ _ => (pg_name (i := 6) sc.nd rfl (.inl rfl))) (fun _ _ _ _ _ => pts_nil) (fun _ _ _ _ _ => (pe_op catT (pv 5) (pe_tup (pa_cons (pv 6) pa_nil))))) pa_nil)))))
      (pss_one (ps_set (i := 2) sc.nd rfl (.inl rfl) (pv 4))))))
      (pss_one (ps_ret (pe_lc (own := [("_law_row", 5)]) rfl sc.nd (piL K (pv 2)) (blkOk_by (N := ["_law_parts", "_law_total", "_law_rows_here", "_law_k", "_law_longer", "_law_row", "_law_number"]) (sc := defScope s_law_sums) (own := [("_law_row", 5)]) (by decide +kernel)) (fun _ _ _ _ _ => (pg_name (i := 5) sc.nd rfl (.inl rfl))) (fun _ _ _ _ _ => (pts_one (pt_cmpR op_eq (pe_callB (sumT rfl) (by rfl) T.sum (by decide +kernel) (pa_cons (pv 5) pa_nil)) (pv 1) (nomark _)))) (fun _ _ _ _ _ => (pv 5))))))), ?_⟩
    refine ⟨Nat.zero_le _, fun t0 nt0 => ⟨(by show 1 ≤ sizeLine; decide), fun R0 nR0 => ?_⟩⟩
    have s1 : Same H (upd H t0 (.tup [])) := same_new nt0
    have s3 := same_new (o := .lst [.ref t0]) nR0
    have hR0 : All2 (IntsR (upd (upd H t0 (.tup [])) R0 (.lst [.ref t0]))) [.ref t0] [[]] := .cons ⟨t0, [], rfl, s3 _ _ upd_same, .nil⟩ .nil
    refine ⟨_, rfl, (k : Int), rfl, by omega, by omega, for_range (fun j σ H2 => ∃ Rw ys rs v3 v4 v5, σ = [some (.int (k : Int)), some (.int t), some (.ref Rw), v3, v4, v5, none] ∧ Same H H2 ∧ H2 Rw = some (.lst ys) ∧ All2 (IntsR H2) ys rs ∧ LSums t j rs)
      ⟨R0, _, _, none, none, none, rfl, s1.trans s3, upd_same, hR0, LSums.start ht0⟩ ?_ ?_⟩
    · rintro j σ H2 hj ⟨Rw, ys, rs, v3, v4, v5, rfl, sA, hRw, hall, hsum⟩
      have hj' : j < k := hj
      have hrl := hsum.len
      have hp4 := pow4 (j + 1) (by omega)
      have hpe : 37 ^ (j + 1) = 37 * 37 ^ j := by rw [Nat.pow_succ]; omega
      refine ⟨Nat.zero_le _, fun Lg nLg => ?_⟩
      have nLg0 : H Lg = none := by
        cases z : H Lg with
        | none => rfl
        | some o => rw [sA _ _ z] at nLg; cases nLg
      have sB : Same H2 (upd H2 Lg (.lst [])) := same_new nLg
      dsimp only [List.set]
      refine ⟨_, rfl, Rw, rfl, ⟨_, SqL.of (sB _ _ hRw)⟩, for_list (K := K) (a := Rw) (xs := ys) (fun i σ H3 => ∃ zs v5, σ = [some (.int (k : Int)), some (.int t), some (.ref Rw), some (.int (0 + (j : Int))), some (.ref Lg), v5, none] ∧ Same H2 H3 ∧ H3 Lg = some (.lst zs) ∧ All2 (IntsR H3) zs ((rs.take i).flatMap (lexp t)) ∧ zs.length ≤ 37 * i)
        ⟨[], _, rfl, sB, upd_same, .nil, Nat.zero_le _⟩ (fun i σ H3 _ ⟨_, _, _, s, _⟩ => SqL.of (s _ _ hRw)) ?_ ?_⟩
      · rintro i y σ H3 hi ⟨zs, v5, rfl, sC, hLg, hzs, hzl⟩
        obtain ⟨m, hm, a, xs, rfl, ha, hxs⟩ := hall.get hi
        have hx := all2_int hxs
        subst hx
        have ha3 := sC _ _ ha
        obtain ⟨hml, hmn, hmt⟩ := hsum.ok m (List.mem_of_getElem? hm)
        have hm0 := sum_nonneg hmn
        have hi37 : i < 37 ^ j := by
          have := (List.getElem?_eq_some_iff.mp hm).1
          omega
        dsimp only [List.set]
        refine ⟨_, rfl, .inl ⟨rfl, _, SqL.of hLg⟩, ?_⟩
        refine ⟨_, rfl, _, rfl, a, m, rfl, ha3, _, _, rfl, rfl, _, _, rfl, rfl, t - m.sum + 1, rfl, by omega, by omega, fun D2 nD2 => ?_⟩
        have hcount : (t - m.sum + 1).toNat ≤ 37 := by omega
        refine lc_typed (walk_range (lo := 0) (n := (t - m.sum + 1).toNat)) nD2 IntsR IntsR.mo (fun q => some (m ++ [0 + ((q : Nat) : Int)])) (by omega) (fun _ _ => trivial) (fun q y H5 H6 hq s5 hY kt kf => ?_) (fun H5 acc s5 hD5 hacc => ?_)
        · obtain ⟨rfl, rfl⟩ := hY
          dsimp only [List.map, wipe, List.set]
          refine ⟨rfl, yesT ?_⟩
          refine ⟨_, rfl, _, rfl, (by show 1 ≤ sizeLine; decide), fun t1 nt1 => ?_⟩
          have s6 := same_new (o := .tup [.int (0 + (q : Nat))]) nt1
          refine ⟨a, t1, _, _, rfl, rfl, s6 _ _ (s5 _ _ ha3), upd_same, ?_, fun c H7 s7 hc => ?_⟩
          · rw [List.length_map, hml]
            show j + 1 ≤ 16000000
            omega
          · refine kt _ _ (m ++ [0 + ((q : Nat) : Int)]) (s6.trans s7) rfl ⟨c, _, rfl, hc, ?_⟩
            have e : m.map V.int ++ [V.int (0 + ((q : Nat) : Int))] = (m ++ [0 + ((q : Nat) : Int)]).map V.int := by rw [List.map_append]; rfl
            rw [e]
            exact all2_int' _
        · have hLg5 := s5 _ _ hLg
          have hex : ((List.range (t - m.sum + 1).toNat).filterMap fun q => some (m ++ [0 + ((q : Nat) : Int)])) = lexp t m := by
            unfold lexp
            rw [← List.filterMap_eq_map]
            rfl
          rw [hex] at hacc
          have hal : acc.length ≤ 37 := by rw [hacc.length]; exact lexp_len hm0 ht36
          refine ⟨Lg, D2, zs, acc, rfl, rfl, hLg5, hD5, sz_of (by omega), ?_⟩
          have k6 : Keep H5 (upd H5 Lg (.lst (zs ++ acc))) := Keep.lst hLg5
          refine ⟨zs ++ acc, _, rfl, same_mut (sC.trans s5) nLg, upd_same, ?_, by rw [List.length_append]; omega⟩
          rw [take_next hm, List.flatMap_append]
          refine (All2.mo IntsR.mo ((Keep.of s5).trans k6) hzs).append ?_
          show All2 _ acc (lexp t m ++ [])
          rw [List.append_nil]
          exact All2.mo IntsR.mo k6 hacc
      · rintro σ H3 ⟨zs, v5, rfl, sC, hLg, hzs, hzl⟩
        rw [hall.length, take_all] at hzs
        exact ⟨_, rfl, Lg, zs, _, _, _, _, rfl, sA.trans sC, hLg, hzs, hsum.step ht36⟩
    · rintro σ H2 ⟨Rw, ys, rs, v3, v4, v5, rfl, sA, hRw, hall, hsum⟩
      rw [show ((k : Int)).toNat = k from rfl] at hsum
      have hrl := hsum.len
      have hp4 := pow4 k hk4
      refine ⟨_, rfl, Rw, rfl, ⟨_, SqL.of hRw⟩, fun D nD => ?_⟩
      refine lc_typed (walk_list (K := K) (a := Rw) (xs := ys)) nD IntsR IntsR.mo (fun i => (rs[i]?).bind fun m => if m.sum = t then some m else none) (by rw [hall.length]; omega) (fun H3 s3 => SqL.of (s3 _ _ hRw)) (fun i y H3 H4 hi s3 hY kt kf => ?_) (fun H3 acc s3 hD hacc => ?_)
      · obtain ⟨rfl, hy⟩ := hY
        obtain ⟨m, hm, a, xs, rfl, ha, hxs⟩ := hall.get hy
        have hx := all2_int hxs
        subst hx
        have ha4 := s3 _ _ ha
        dsimp only [List.map, wipe, List.set]
        refine ⟨rfl, ?_⟩
        refine ⟨_, rfl, a, m, rfl, ha4, _, rfl, rfl, _, rfl, ?_⟩
        by_cases hs : m.sum = t
        · refine ite_t (decide_eq_true (congrArg V.int hs)) ?_
          exact ⟨_, rfl, kt _ _ m (Same.refl _) (by rw [hm]; exact if_pos hs) ⟨a, _, rfl, ha4, all2_int' _⟩⟩
        · refine ite_f (decide_eq_false fun z => hs (V.int.inj z)) ?_
          exact kf _ (Same.refl _) (by rw [hm]; exact if_neg hs)
      · have hmem : ∀ m ∈ (List.range ys.length).filterMap (fun i => (rs[i]?).bind fun m => if m.sum = t then some m else none), m.length = k ∧ (∀ n ∈ m, 0 ≤ n) ∧ m.sum = t := fun m hm => by
          obtain ⟨i, _, hi⟩ := List.mem_filterMap.mp hm
          cases q : rs[i]? with
          | none => rw [q] at hi; cases hi
          | some m' =>
            rw [q] at hi
            have hi : (if m'.sum = t then some m' else none) = some m := hi
            split at hi
            · rename_i z
              cases hi
              obtain ⟨h1, h2, h3⟩ := hsum.ok m (List.mem_of_getElem? q)
              exact ⟨h1, h2, z⟩
            · cases hi
        refine kq D H3 acc _ (sA.trans s3) hD hacc hmem fun z hnil => ?_
        cases q : rs with
        | nil => exact hsum.ne q
        | cons m r =>
          have hm := hsum.ok m (by rw [q]; simp)
          have h0 := sum_nonneg hm.2.1
          have : m ∈ (List.range ys.length).filterMap (fun i => (rs[i]?).bind fun m => if m.sum = t then some m else none) := by
            refine List.mem_filterMap.mpr ⟨0, List.mem_range.mpr ?_, ?_⟩
            · rw [hall.length, q]; simp
            · rw [q]
              show (if m.sum = t then some m else none) = some m
              rw [if_pos (by omega)]
          rw [hnil] at this
          cases this
end
end Pk
end
section
set_option Elab.async false
set_option linter.all false
set_option maxRecDepth 100000
set_option maxHeartbeats 8000000
namespace Pk
open PySem PySem.Spec PyProof.Rows L2 FL
/-- a row of the tables: what lacks, what each kit has (a list, not at F) -/
def TabR (F : Addr) (H : Hp) (v : V) (x : Int × List Int) : Prop := ∃ a b, v = .ref a ∧ H a = some (.tup [.int x.1, .ref b]) ∧ H b = some (.lst (x.2.map V.int)) ∧ b ≠ F ∧ a ≠ F
theorem TabR.but {F : Addr} {H H' : Hp} (h : But [F] H H') {v : V} {x : Int × List Int} (r : TabR F H v x) : TabR F H' v x := by
  obtain ⟨a, b, e, h1, h2, n1, n2⟩ := r
  exact ⟨a, b, e, h _ _ (by simpa using n2) h1, h _ _ (by simpa using n1) h2, n1, n2⟩
section
variable {P : Program} {w : World} {K : PySem.W.Frag} {mg : Str → Option Value} {base : Heap} {C : Addr}
def spTables : Sp := fun vs H Q _ => ∃ rv rows ka kxs krows u ws, vs = [rv, .ref ka, u] ∧ RowsR H rv rows ∧ rows.length ≤ 1000 ∧ H ka = some (.lst kxs) ∧ All2 (RowsR H) kxs krows ∧ (∀ r ∈ krows, r.length ≤ 1000) ∧ krows.length ≤ 4 ∧ WantsR H u ws ∧ WantsOK ws ∧
  ∀ F xs ts H', Same H H' → H' F = some (.lst xs) → All2 (TabR F H') xs ts → xs.length ≤ 64 * ws.length → Q (.ref F) H'
theorem sc_law_tables : FnScope ["_law_rows_here", "_law_kits", "_law_wants_here", "_law_found", "_law_form", "_law_shades", "_law_lack", "_law_kit"] ["_law_rows_here", "_law_kits", "_law_wants_here"] (defScope s_law_tables) := ⟨rfl, rfl, rfl, by decide +kernel, rfl, by decide +kernel, by decide +kernel⟩
theorem c_law_tables (T : Txt K mg C) : Cal P w K mg base CX0 3 "_law_tables" ["_law_rows_here", "_law_kits", "_law_wants_here"] spTables := by
  have C_law_places : Cal P w K mg base CX0 2 "_law_places" ["_law_wants_here"] spPlaces := c_law_places T
  have C_law_wanted : Cal P w K mg base CX0 1 "_law_wanted" ["_law_wants_here", "_law_form", "_law_shades"] spLWanted := c_law_wanted T
  have C_law_has : Cal P w K mg base CX0 1 "_law_has" ["_law_rows_here", "_law_form", "_law_shades"] spLHas := c_law_has T
  refine Cal.mk' T.d_law_tables sc_law_tables (fun vs H Q E h => ?_) (fun _ _ _ _ _ _ us hl => match us, hl with | [_, _, _], _ => rfl) (fun f cdv A outer s H vs Q E hr h => ?_)
  · obtain ⟨rv, rows, ka, kxs, krows, u, ws, rfl, _⟩ := h
    rfl
  · obtain ⟨rv, rows, ka, kxs, krows, u, ws, rfl, hrv, hrl, hka, hkall, hkl, hk4, hws, wok, k⟩ := h
    have sc := sc_law_tables
    refine ⟨_, (pss_cons (ps_set (i := 3) sc.nd rfl (.inl rfl) (pe_lst pa_nil))
      (pss_cons (ps_for PassesOwn.never rfl (piL K (pe_cal C_law_places hr (pa_cons (pv 2) pa_nil))) (pgT K (n := 2) rfl (pgs_cons (pg_name (i := 4) sc.nd rfl (.inr rfl)) (pgs_cons (pg_name (i := 5) sc.nd rfl (.inr rfl)) pgs_nil))) (pss_cons (ps_set (i := 6) sc.nd rfl (.inl rfl) (pe_op op_sub (pe_cal C_law_wanted hr (pa_cons (pv 2) (pa_cons (pv 4) (pa_cons (pv 5) pa_nil)))) (pe_cal C_law_has hr (pa_cons (pv 0) (pa_cons (pv 4) (pa_cons (pv 5) pa_nil))))))
      (pss_one (ps_if (pt_cmpR op_gt (pv 6) pe_int (nomark _)) (pss_one (ps_expr (pe_bm PySem.F.plainAttrs_list PySem.F.slot_list_append PySem.F.type_list_append mt_append (pv 3) (pa_cons (pe_tup (pa_cons (pv 6) (pa_cons (pe_lc (own := [("_law_kit", 7)]) rfl sc.nd (piL K (pv 1)) (blkOk_by (N := ["_law_rows_here", "_law_kits", "_law_wants_here", "_law_found", "_law_form", "_law_shades", "_law_lack", "_law_kit"]) (sc := defScope s_law_tables) (own := [("_law_kit", 7)]) (by decide +kernel)) (fun _ _ _ _ _ => (pg_name (i := 7) sc.nd rfl (.inl rfl))) (fun _ _ _ _ _ => pts_nil) (fun _ _ _ _ _ => (pe_cal C_law_has hr (pa_cons (pv 7) (pa_cons (pv 4) (pa_cons (pv 5) pa_nil)))))) pa_nil))) pa_nil)))) pss_nil))))
      (pss_one (ps_ret (pv 3))))), ?_⟩
    refine ⟨Nat.zero_le _, fun F nF => ?_⟩
    have s1 : Same H (upd H F (.lst [])) := same_new nF
    have hF1 : upd H F (.lst []) F = some (.lst []) := upd_same
    generalize upd H F (.lst []) = H1 at *
    have hws1 := WantsR.mo _ _ _ _ (Keep.of s1) hws
    refine ⟨_, rfl, u, ws, rfl, hws1, wok, fun l pxs ps H2 nl s2 hl hall hlen hsm => ?_⟩
    have hF2 := s2 _ _ hF1
    have s12 := s1.trans s2
    have hpl := hall.length
    have hn6 := wok.len
    refine ⟨l, rfl, ⟨_, SqL.of hl⟩, ?_⟩
    have hlF : l ≠ F := fun q => by rw [q, hF1] at nl; cases nl
    · refine for_list (K := K) (a := l) (xs := pxs) (fun i σ H3 => ∃ v4 v5 v6 xs ts, σ = [some rv, some (.ref ka), some u, some (.ref F), v4, v5, v6, none] ∧ But [F] H2 H3 ∧ H3 F = some (.lst xs) ∧ All2 (TabR F H3) xs ts ∧ xs.length ≤ i)
        ⟨none, none, none, [], [], rfl, But.refl _ _, hF2, .nil, Nat.le_refl _⟩ (fun i σ H3 _ ⟨_, _, _, _, _, _, b, _⟩ => SqL.of (b _ _ (by simpa using hlF) hl)) ?_ ?_
      · rintro i y σ H3 hi ⟨v4, v5, v6, xs, ts, rfl, b3, hF3, htab, hxl⟩
        obtain ⟨p, hp, hpr⟩ := hall.get hi
        have hi400 : i < 384 := by
          have := (List.getElem?_eq_some_iff.mp hp).1
          omega
        have up : ∀ a o, H a = some o → H3 a = some o := fun a o e => b3 _ _ (by
          have : a ≠ F := fun q => by rw [q, nF] at e; cases e
          simpa using this) (s12 _ _ e)
        have k23 : Keep H2 H3 := fun a o i e => b3 a o (fun q => by
          have : a = F := by simpa using q
          rw [this, hF2] at e
          cases e
          exact i) e
        obtain ⟨pa, pw, rfl, hpa, hsh⟩ := place_sh (PlaceR.mo _ _ _ _ k23 hpr)
        have hTl := hsm p (List.mem_of_getElem? hp)
        have s3 : Same H H3 := up
        refine ⟨pa, _, rfl, SqT.of hpa, rfl, _, _, rfl, _, _, rfl, rfl, ?_⟩
        dsimp only [List.set]
        refine ⟨_, rfl, _, rfl, _, rfl, u, ws, p.1, pw, p.2, rfl, WantsR.mo _ _ _ _ (Keep.of s3) hws, wok, hsh, hTl, fun z1 H4 s4 => ?_⟩
        have s34 := s3.trans s4
        refine ⟨_, rfl, _, rfl, _, rfl, rv, rows, p.1, pw, p.2, rfl, RowsR.mo _ _ _ _ (Keep.of s34) hrv, hrl, OptSh.mo _ _ _ _ (Keep.of s4) hsh, hTl, fun z2 H5 s5 => ⟨_, _, rfl, rfl, ?_⟩⟩
        have s35 := s34.trans s5
        have s45 := s4.trans s5
        have hF5 := s45 _ _ hF3
        have hsh5 := OptSh.mo _ _ _ _ (Keep.of s45) hsh
        have htab5 : All2 (TabR F H5) xs ts := htab.imp fun v x r => r.but (But.of s45)
        refine ⟨_, rfl, _, _, rfl, rfl, _, rfl, ?_⟩
        by_cases hg : z1 - z2 > 0
        · refine ite_t (decide_eq_true hg) ?_
          refine ⟨_, rfl, .inl ⟨rfl, _, SqL.of hF5⟩, _, rfl, _, rfl, ka, rfl, ⟨_, SqL.of (s35 _ _ hka)⟩, fun D nD => ?_⟩
          have hkxl : kxs.length = krows.length := hkall.length
          refine lc_rel (walk_list (K := K) (a := ka) (xs := kxs)) IntR IntR.mo (fun _ _ => True) (by omega) (fun _ H => Same H5 H) (same_new nD) (fun i H acc acc' s _ => same_mut s nD) (fun i H _ s => SqL.of (s _ _ (s35 _ _ hka))) (fun j y H6 H7 acc hj s6 hD6 hY kt => ?_) (fun H6 acc bs s6 hD6 hal hall6 _ => ?_)
          · obtain ⟨rfl, hy⟩ := hY
            obtain ⟨r, hr1, hkr⟩ := hkall.get hy
            dsimp only [List.map, wipe, List.set]
            refine ⟨rfl, yesT ?_⟩
            refine ⟨_, rfl, _, rfl, _, rfl, y, r, p.1, pw, p.2, rfl, RowsR.mo _ _ _ _ (Keep.of (s35.trans s6)) hkr, hkl r (List.mem_of_getElem? hr1), OptSh.mo _ _ _ _ (Keep.of s6) hsh5, hTl, fun z H8 s8 => ?_⟩
            exact kt _ H8 z (Keep.of s8) (s8 _ _ hD6) trivial rfl (s6.trans s8)
          · have := all2_int hall6
            subst this
            refine ⟨(by show 2 ≤ sizeLine; decide), fun t nt => ?_⟩
            have s7 := same_new (o := .tup [.int (z1 - z2), .ref D]) nt
            have hF7 := s7 _ _ (s6 _ _ hF5)
            refine ⟨F, xs, _, rfl, rfl, hF7, sz_lt (by omega), ?_⟩
            have hDF : D ≠ F := fun q => by rw [q, hF5] at nD; cases nD
            have htF : t ≠ F := fun q => by rw [q, s6 _ _ hF5] at nt; cases nt
            have bF : But [F] H3 (upd (upd H6 t (.tup [.int (z1 - z2), .ref D])) F (.lst (xs ++ [.ref t]))) := (But.of (s45.trans (s6.trans s7))).upd (.inl (by simp))
            refine ⟨_, _, _, xs ++ [.ref t], ts ++ [(z1 - z2, bs)], rfl, b3.trans bF, upd_same, all2_snoc (htab.imp fun v x r => r.but bF) ⟨t, D, rfl, by rw [upd_ne htF, upd_same], by rw [upd_ne hDF]; exact s7 _ _ hD6, hDF, htF⟩, by rw [List.length_append]; exact Nat.succ_le_succ hxl⟩
        · refine ite_f (decide_eq_false hg) ?_
          exact ⟨_, _, _, xs, ts, rfl, b3.trans (But.of s45), hF5, htab5, by omega⟩
      · rintro σ H3 ⟨v4, v5, v6, xs, ts, rfl, b3, hF3, htab, hxl⟩
        refine ⟨_, rfl, k F xs ts H3 (fun a o e => b3 _ _ (by
          have : a ≠ F := fun q => by rw [q, nF] at e; cases e
          simpa using this) (s12 _ _ e)) hF3 htab (by omega)⟩
end
end Pk
end
section
set_option Elab.async false
set_option linter.all false
set_option maxRecDepth 100000
set_option maxHeartbeats 8000000
namespace Pk
open PySem PySem.Spec PyProof.Rows L2 FL
section
variable {P : Program} {w : World} {K : PySem.W.Frag} {mg : Str → Option Value} {base : Heap} {C : Addr}
/-- what the tables' callers hand in -/
structure TabIn (H : Hp) (rv : V) (ka : Addr) (u : V) (rows : List Row) (kxs : List V) (krows : List (List Row)) (ws : List (Want Str Str)) : Prop where
  rv_ : RowsR H rv rows
  rl : rows.length ≤ 1000
  ka_ : H ka = some (.lst kxs)
  kall : All2 (RowsR H) kxs krows
  kl : ∀ r ∈ krows, r.length ≤ 1000
  k4 : krows.length ≤ 4
  ws_ : WantsR H u ws
  wok : WantsOK ws
def spNeverL : Sp := fun vs H Q _ => ∃ rv rows ka kxs krows u ws, vs = [rv, .ref ka, u] ∧ TabIn H rv ka u rows kxs krows ws ∧ ∀ b H', Same H H' → (ws = [] → b = false) → Q (.bl b) H'
theorem sc_law_never : FnScope ["_law_rows_here", "_law_kits", "_law_wants_here", "_law_lack", "_law_own"] ["_law_rows_here", "_law_kits", "_law_wants_here"] (defScope s_law_never) := ⟨rfl, rfl, rfl, by decide +kernel, rfl, by decide +kernel, by decide +kernel⟩
theorem c_law_never (T : Txt K mg C) : Cal P w K mg base CX0 4 "_law_never" ["_law_rows_here", "_law_kits", "_law_wants_here"] spNeverL := by
  have C_law_tables : Cal P w K mg base CX0 3 "_law_tables" ["_law_rows_here", "_law_kits", "_law_wants_here"] spTables := c_law_tables T
  refine Cal.mk' T.d_law_never sc_law_never (fun vs H Q E h => ?_) (fun _ _ _ _ _ _ us hl => match us, hl with | [_, _, _], _ => rfl) (fun f cdv A outer s H vs Q E hr h => ?_)
  · obtain ⟨rv, rows, ka, kxs, krows, u, ws, rfl, _⟩ := h
    rfl
  · obtain ⟨rv, rows, ka, kxs, krows, u, ws, rfl, ti, k⟩ := h
    have sc := sc_law_never
    have hu := hu_of hr
    have hn6 := ti.wok.len
    refine ⟨_, (pss_one (ps_ret (pe_cmpR (neEmpL hu) (pe_lc (own := [("_law_lack", 3), ("_law_own", 4)]) rfl sc.nd (piL K (pe_cal C_law_tables hr (pa_cons (pv 0) (pa_cons (pv 1) (pa_cons (pv 2) pa_nil))))) (blkOk_by (N := ["_law_rows_here", "_law_kits", "_law_wants_here", "_law_lack", "_law_own"]) (sc := defScope s_law_never) (own := [("_law_lack", 3), ("_law_own", 4)]) (by decide +kernel)) (fun _ _ _ _ _ => (pgT K (n := 2) rfl (pgs_cons (pg_name (i := 3) sc.nd rfl (.inl rfl)) (pgs_cons (pg_name (i := 4) sc.nd rfl (.inl rfl)) pgs_nil)))) (fun _ _ _ _ _ => (pts_one (pt_cmpR op_eq (pe_callB (sum1 rfl) (by rfl) T.sum (by decide +kernel) (pa_cons (pv 4) pa_nil)) pe_int (nomark _)))) (fun _ _ _ _ _ => (pv 3))) (pe_lst pa_nil) (nomark _)))), ?_⟩
    refine ⟨_, rfl, _, rfl, _, rfl, rv, rows, ka, kxs, krows, u, ws, rfl, ti.rv_, ti.rl, ti.ka_, ti.kall, ti.kl, ti.k4, ti.ws_, ti.wok, fun F xs ts H1 s1 hF htab hlen => ?_⟩
    have htl := htab.length
    refine ⟨F, rfl, ⟨_, SqL.of hF⟩, fun D nD => ?_⟩
    refine lc_typed (walk_list (K := K) (a := F) (xs := xs)) nD IntR IntR.mo (fun i => (ts[i]?).bind fun x => if x.2.sum = 0 then some x.1 else none) (by omega) (fun H3 s3 => SqL.of (s3 _ _ hF)) (fun i y H3 H4 hi s3 hY kt kf => ?_) (fun H3 acc s3 hD hacc => ?_)
    · obtain ⟨rfl, hy⟩ := hY
      obtain ⟨x, hx, a, b, rfl, ha, hb, nb, na⟩ := htab.get hy
      have ha4 := s3 _ _ ha
      have hb4 := s3 _ _ hb
      dsimp only [List.map, wipe, List.set]
      refine ⟨a, _, rfl, SqT.of ha4, rfl, _, _, rfl, _, _, rfl, rfl, ?_⟩
      dsimp only [List.set, wipe]
      refine ⟨rfl, ?_⟩
      refine ⟨_, rfl, b, x.2, rfl, hb4, rfl, _, rfl, ?_⟩
      by_cases hs : x.2.sum = 0
      · refine ite_t (decide_eq_true (congrArg V.int hs)) ?_
        exact ⟨_, rfl, kt _ _ x.1 (Same.refl _) (by rw [hx]; exact if_pos hs) rfl⟩
      · refine ite_f (decide_eq_false fun z => hs (V.int.inj z)) ?_
        exact kf _ (Same.refl _) (by rw [hx]; exact if_neg hs)
    · refine ⟨Nat.zero_le _, fun e ne => ?_⟩
      have s4 := same_new (o := .lst []) ne
      refine ⟨D, e, _, rfl, rfl, s4 _ _ hD, upd_same, ?_⟩
      refine k _ _ (s1.trans (s3.trans s4)) fun z => ?_
      have : acc = [] := by
        have h0 : xs.length = 0 := by rw [z] at hlen; simpa using hlen
        have := hacc.length
        rw [h0] at this
        exact List.length_eq_zero_iff.mp this
      rw [this]
      rfl
def spFewestL : Sp := fun vs H Q _ => ∃ rv rows ka kxs krows u ws, vs = [rv, .ref ka, u, .int 8] ∧ TabIn H rv ka u rows kxs krows ws ∧ ∀ v H', Same H H' → ((v = .non ∧ ws ≠ []) ∨ ∃ n : Int, v = .int n) → Q v H'
theorem sc_law_fewest : FnScope ["_law_rows_here", "_law_kits", "_law_wants_here", "_law_most_now", "_law_tables_here", "_law_total", "_law_many", "_law_short", "_law_lack", "_law_own", "_law_a", "_law_b"] ["_law_rows_here", "_law_kits", "_law_wants_here", "_law_most_now"] (defScope s_law_fewest) := ⟨rfl, rfl, rfl, by decide +kernel, rfl, by decide +kernel, by decide +kernel⟩
theorem c_law_fewest (T : Txt K mg C) : Cal P w K mg base CX0 4 "_law_fewest" ["_law_rows_here", "_law_kits", "_law_wants_here", "_law_most_now"] spFewestL := by
  have C_law_tables : Cal P w K mg base CX0 3 "_law_tables" ["_law_rows_here", "_law_kits", "_law_wants_here"] spTables := c_law_tables T
  have C_law_sums : Cal P w K mg base CX0 1 "_law_sums" ["_law_parts", "_law_total"] spLSums := c_law_sums T
  refine Cal.mk' T.d_law_fewest sc_law_fewest (fun vs H Q E h => ?_) (fun _ _ _ _ _ _ us hl => match us, hl with | [_, _, _, _], _ => rfl) (fun f cdv A outer s H vs Q E hr h => ?_)
  · obtain ⟨rv, rows, ka, kxs, krows, u, ws, rfl, _⟩ := h
    rfl
  · obtain ⟨rv, rows, ka, kxs, krows, u, ws, rfl, ti, k⟩ := h
    have sc := sc_law_fewest
    have hu := hu_of hr
    have hn6 := ti.wok.len
    have hkl := ti.kall.length
    have hk4 := ti.k4
    refine ⟨_, (pss_cons (ps_set (i := 4) sc.nd rfl (.inl rfl) (pe_cal C_law_tables hr (pa_cons (pv 0) (pa_cons (pv 1) (pa_cons (pv 2) pa_nil)))))
      (pss_cons (ps_for PassesOwn.never rfl (pi_range1 rfl T.range (pa_cons (pe_op op_add (pv 3) pe_int) pa_nil)) (pg_name (i := 5) sc.nd rfl (.inl rfl)) (pss_one (ps_for PassesOwn.never rfl (piL K (pe_cal C_law_sums hr (pa_cons (pe_callB len1 (by rfl) T.len PySem.boot_len (pa_cons (pv 1) pa_nil)) (pa_cons (pv 5) pa_nil)))) (pg_name (i := 6) sc.nd rfl (.inl rfl)) (pss_cons (ps_set (i := 7) sc.nd rfl (.inl rfl) pe_bl)
      (pss_cons (ps_for PassesOwn.never rfl (piL K (pv 4)) (pgT K (n := 2) rfl (pgs_cons (pg_name (i := 8) sc.nd rfl (.inl rfl)) (pgs_cons (pg_name (i := 9) sc.nd rfl (.inl rfl)) pgs_nil))) (pss_one (ps_set (i := 7) sc.nd rfl (.inl rfl) (pe_or (pv 7) (pe_one (pe_cmpR op_lt (pe_callB (sum1 rfl) (by rfl) T.sum (by decide +kernel) (pa_cons (pe_lc (own := [("_law_a", 10), ("_law_b", 11)]) rfl sc.nd (zipM K (by rfl) T.zip (pa_cons (pv 6) (pa_cons (pv 9) pa_nil))) (blkOk_by (N := ["_law_rows_here", "_law_kits", "_law_wants_here", "_law_most_now", "_law_tables_here", "_law_total", "_law_many", "_law_short", "_law_lack", "_law_own", "_law_a", "_law_b"]) (sc := defScope s_law_fewest) (own := [("_law_a", 10), ("_law_b", 11)]) (by decide +kernel)) (fun _ _ _ _ _ => (pgT K (n := 2) rfl (pgs_cons (pg_name (i := 10) sc.nd rfl (.inl rfl)) (pgs_cons (pg_name (i := 11) sc.nd rfl (.inl rfl)) pgs_nil)))) (fun _ _ _ _ _ => pts_nil) (fun _ _ _ _ _ => (pe_op op_mul (pv 10) (pv 11)))) pa_nil)) (pv 8) (nomark _)))))))
      (pss_one (ps_if (pt_not (pt_val (pv 7))) (pss_one (ps_ret (pv 5))) pss_nil)))))))
      (pss_one (ps_ret pe_non)))), ?_⟩
    refine ⟨_, rfl, _, rfl, _, rfl, rv, rows, ka, kxs, krows, u, ws, rfl, ti.rv_, ti.rl, ti.ka_, ti.kall, ti.kl, ti.k4, ti.ws_, ti.wok, fun F xs ts H1 s1 hF htab hlen => ?_⟩
    have htl := htab.length
    have hka1 := s1 _ _ ti.ka_
    dsimp only [List.set]
    refine ⟨_, rfl, _, _, rfl, rfl, 8 + 1, rfl, by omega, by omega, for_range (fun i σ H2 => ∃ v5 v6 v7 v8 v9, σ = [some rv, some (.ref ka), some u, some (.int 8), some (.ref F), v5, v6, v7, v8, v9, none, none] ∧ Same H1 H2 ∧ (ws = [] → i = 0))
      ⟨none, none, none, none, none, rfl, Same.refl _, fun _ => rfl⟩ ?_ ?_⟩
    · rintro i σ H2 hi ⟨v5, v6, v7, v8, v9, rfl, s2, hz⟩
      have hi9 : i < 9 := hi
      dsimp only [List.set]
      refine ⟨_, rfl, ka, _, rfl, .inl (s2 _ _ hka1), _, rfl, kxs.length, 0 + (i : Int), rfl, by omega, by omega, by omega, fun l H3 ys ms s3 hl hys hms hne => ?_⟩
      have hyl := hys.length
      refine ⟨l, rfl, ⟨_, SqL.of hl⟩, for_list (K := K) (a := l) (xs := ys) (fun j σ H4 => ∃ v6 v7 v8 v9, σ = [some rv, some (.ref ka), some u, some (.int 8), some (.ref F), some (.int (0 + (i : Int))), v6, v7, v8, v9, none, none] ∧ Same H3 H4 ∧ (ws = [] → j = 0))
        ⟨v6, v7, v8, v9, rfl, Same.refl _, fun _ => rfl⟩ (fun j σ H4 _ ⟨_, _, _, _, _, s, _⟩ => SqL.of (s _ _ hl)) ?_ ?_⟩
      · rintro j y σ H4 hj ⟨v6, v7, v8, v9, rfl, s4, hz4⟩
        obtain ⟨m, hm, a, mxs, rfl, ha, hmxs⟩ := hys.get hj
        have hx := all2_int hmxs
        subst hx
        obtain ⟨hml, hmn, hmt⟩ := hms m (List.mem_of_getElem? hm)
        have s24 := s3.trans s4
        have s14 := s2.trans s24
        have hF4 := s14 _ _ hF
        dsimp only [List.set]
        refine ⟨_, rfl, F, rfl, ⟨_, SqL.of hF4⟩, for_list (K := K) (a := F) (xs := xs) (fun q σ H5 => ∃ b v8 v9, σ = [some rv, some (.ref ka), some u, some (.int 8), some (.ref F), some (.int (0 + (i : Int))), some (.ref a), some (.bl b), v8, v9, none, none] ∧ Same H4 H5 ∧ (q = 0 → b = false))
          ⟨false, v8, v9, rfl, Same.refl _, fun _ => rfl⟩ (fun q σ H5 _ ⟨_, _, _, _, s, _⟩ => SqL.of (s _ _ hF4)) ?_ ?_⟩
        · rintro q y σ H5 hq ⟨b, v8, v9, rfl, s5, _⟩
          obtain ⟨x, hx, c, d, rfl, hc, hd, nd', nc'⟩ := htab.get hq
          have s15 := s14.trans s5
          refine ⟨c, _, rfl, SqT.of (s15 _ _ hc), rfl, _, _, rfl, _, _, rfl, rfl, ?_⟩
          dsimp only [List.set]
          refine ⟨_, rfl, b, rfl, ?_⟩
          cases b with
          | true =>
            refine ite_t rfl ?_
            exact ⟨true, _, _, rfl, s5, fun z => absurd z (by omega)⟩
          | false =>
            refine ite_f rfl ?_
            have ha5 := (s4.trans s5) _ _ ha
            have hd5 := s15 _ _ hd
            refine ⟨_, rfl, _, rfl, a, d, _, _, rfl, .inr ⟨SqT.of ha5, SqL.of hd5, fun D nD => ?_⟩⟩
            refine lc_rel (walk_zipM (n := min (m.map V.int).length (x.2.map V.int).length) rfl) IntR IntR.mo (fun _ _ => True) (by rw [List.length_map]; omega) (fun _ H => Same H5 H) (same_new nD) (fun i H acc acc' s _ => same_mut s nD) (fun i H _ s => ⟨SqT.of (s _ _ ha5), SqL.of (s _ _ hd5)⟩) (fun e y H6 H7 acc he s6 hD6 hY kt => ?_) (fun H6 acc bs s6 hD6 hal hall6 _ => ?_)
            · obtain ⟨Tt, x1, x2, rfl, nT, rfl, hx1, hx2⟩ := hY
              replace hx1 : (m.map V.int)[e]? = some x1 := hx1
              replace hx2 : (x.2.map V.int)[e]? = some x2 := hx2
              rw [List.getElem?_map] at hx1 hx2
              obtain ⟨n1, hn1, rfl⟩ := Option.map_eq_some_iff.mp hx1
              obtain ⟨n2, hn2, rfl⟩ := Option.map_eq_some_iff.mp hx2
              have h0 := hmn n1 (List.mem_of_getElem? hn1)
              have h1 := mem_le_sum hmn n1 (List.mem_of_getElem? hn1)
              have sT := same_new (o := .tup [.int n1, .int n2]) nT
              dsimp only [List.map, wipe, List.set]
              refine ⟨Tt, _, rfl, SqT.of upd_same, rfl, _, _, rfl, _, _, rfl, rfl, rfl, yesT ?_⟩
              exact ⟨_, rfl, _, rfl, _, _, rfl, rfl, .inl ⟨by omega, by omega⟩, kt _ _ (n1 * n2) (Keep.of sT) (sT _ _ hD6) trivial rfl (s6.trans sT)⟩
            · have := all2_int hall6
              subst this
              refine ⟨D, bs, rfl, hD6, _, rfl, _, _, rfl, rfl, ?_⟩
              exact ⟨_, _, _, rfl, s5.trans s6, fun z => absurd z (by omega)⟩
        · rintro σ H5 ⟨b, v8, v9, rfl, s5, hb⟩
          refine ⟨_, rfl, b, rfl, ?_⟩
          cases b with
          | false =>
            refine ite_t rfl ?_
            exact ⟨_, rfl, k _ H5 (s1.trans (s14.trans s5)) (.inr ⟨_, rfl⟩)⟩
          | true =>
            refine ite_f rfl ?_
            refine ⟨_, _, _, _, rfl, s4.trans s5, fun z => ?_⟩
            have h0 : xs.length = 0 := by rw [z] at hlen; simpa using hlen
            have := hb h0
            cases this
      · rintro σ H4 ⟨v6, v7, v8, v9, rfl, s4, hz4⟩
        refine ⟨_, v6, v7, v8, v9, rfl, (s2.trans s3).trans s4, fun z => ?_⟩
        have h1 := hz z
        have h2 := hz4 z
        have : ms ≠ [] := hne (by omega)
        exact absurd (List.length_eq_zero_iff.mp (by omega)) this
    · rintro σ H2 ⟨v5, v6, v7, v8, v9, rfl, s2, hz⟩
      refine k _ H2 (s1.trans s2) (.inl ⟨rfl, fun z => ?_⟩)
      have : (8 + 1 : Int).toNat = 0 := hz z
      exact absurd this (by decide)
end
end Pk
end
section
set_option Elab.async false
set_option linter.all false
set_option maxRecDepth 100000
set_option maxHeartbeats 8000000
namespace Pk
open PySem PySem.Spec PyProof.Rows L2 FL
def tlen (H : Hp) : V → Nat
  | V.ref a => (match H a with
    | some (HO.tup xs) => xs.length
    | _ => 0)
  | _ => 0
def muS (σ : L2.St) (H : Hp) : Nat := match (σ[6]? : Option (Option V)) with
  | some (some v) => tlen H v
  | _ => 0
theorem tlen_tup {H : Hp} {a : Addr} {xs : List V} (h : H a = some (.tup xs)) : tlen H (.ref a) = xs.length := by simp only [tlen, h]
theorem of_ite_f {c : Bool} {A B : Prop} (h : c = false) (x : if c = true then A else B) : B := by
  rw [if_neg (by rw [h]; exact Bool.false_ne_true)] at x
  exact x
theorem of_ite_t {c : Bool} {A B : Prop} (h : c = true) (x : if c = true then A else B) : A := by
  rw [if_pos h] at x
  exact x
section
variable {P : Program} {w : World} {K : PySem.W.Frag} {mg : Str → Option Value} {base : Heap} {C : Addr}
def spScene : Sp := fun vs H Q _ => ∃ (tp cl : Addr) (n : Nat), vs = [.ref tp, .int 6] ∧ TapC H tp cl n ∧ n ≤ 1000 ∧ ∀ t H' rv rows kv krows u ws, But [tp] H H' → TapC H' tp cl (n + 3000) → H' t = some (.tup [rv, kv, u]) → RowsR H' rv rows → RowsOK rows → rows.length ≤ 6 →
  TupR RowsR H' kv krows → (∀ r ∈ krows, RowsOK r ∧ r.length ≤ 6) → krows.length ≤ 4 → WantsR H' u ws → WantsOK ws → Q (.ref t) H'
theorem sc_law_scene : FnScope ["_law_tap_here", "_law_most_now", "_law_words_here", "_law_rows_here", "_law_many", "_law_kits", "_law_wants_here", "_law_k"] ["_law_tap_here", "_law_most_now"] (defScope s_law_scene) := ⟨rfl, rfl, rfl, by decide +kernel, rfl, by decide +kernel, by decide +kernel⟩
theorem c_law_scene (T : Txt K mg C) : Cal P w K mg base CX0 5 "_law_scene" ["_law_tap_here", "_law_most_now"] spScene := by
  have C_law_pick : Cal P w K mg base CX0 1 "_law_pick" ["_law_tap_here", "_law_many"] spPick := c_law_pick T
  have C_law_words : Cal P w K mg base CX0 2 "_law_words" ["_law_tap_here"] spWords := c_law_words T
  have C_law_rows : Cal P w K mg base CX0 2 "_law_rows" ["_law_tap_here", "_law_words_here", "_law_many", "_law_most_now"] spLRows := c_law_rows T
  have C_law_wants : Cal P w K mg base CX0 3 "_law_wants" ["_law_tap_here", "_law_words_here", "_law_many", "_law_most_now"] spLWants := c_law_wants T
  have C_law_never : Cal P w K mg base CX0 4 "_law_never" ["_law_rows_here", "_law_kits", "_law_wants_here"] spNeverL := c_law_never T
  have C_law_fewest : Cal P w K mg base CX0 4 "_law_fewest" ["_law_rows_here", "_law_kits", "_law_wants_here", "_law_most_now"] spFewestL := c_law_fewest T
  refine Cal.mk' T.d_law_scene sc_law_scene (fun vs H Q E h => ?_) (fun _ _ _ _ _ _ us hl => match us, hl with | [_, _], _ => rfl) (fun f cdv A outer s H vs Q E hr h => ?_)
  · obtain ⟨tp, cl, n, rfl, _⟩ := h
    rfl
  · obtain ⟨tp, cl, n, rfl, hT, hn, k⟩ := h
    have sc := sc_law_scene
    refine ⟨_, (pss_cons (ps_set (i := 2) sc.nd rfl (.inr rfl) (pe_cal C_law_words hr (pa_cons (pv 0) pa_nil)))
      (pss_cons (ps_set (i := 3) sc.nd rfl (.inl rfl) (pe_cal C_law_rows hr (pa_cons (pv 0) (pa_cons (pv 2) (pa_cons (pe_cal C_law_pick hr (pa_cons (pv 0) (pa_cons pe_int pa_nil))) (pa_cons pe_int pa_nil))))))
      (pss_cons (ps_set (i := 4) sc.nd rfl (.inl rfl) (pe_ix (ixL K) (pe_lst (pa_cons pe_int (pa_cons pe_int (pa_cons pe_int (pa_cons pe_int (pa_cons pe_int (pa_cons pe_int (pa_cons pe_int (pa_cons pe_int pa_nil))))))))) (pe_cal C_law_pick hr (pa_cons (pv 0) (pa_cons pe_int pa_nil))) (fun _ _ => rfl)))
      (pss_cons (ps_setLc (i := 5) (own := [("_law_k", 7)]) rfl sc.nd rfl rfl (sw_true rfl rfl rfl (by decide +kernel)) (pi_range1 rfl T.range (pa_cons (pv 4) pa_nil)) (blkOk_by (N := ["_law_tap_here", "_law_most_now", "_law_words_here", "_law_rows_here", "_law_many", "_law_kits", "_law_wants_here", "_law_k"]) (sc := defScope s_law_scene) (own := [("_law_k", 7)]) (by decide +kernel)) (fun _ _ _ _ _ => (pg_name (i := 7) sc.nd rfl (.inl rfl))) (fun _ _ _ _ _ => pts_nil) (fun _ _ _ _ _ => (pe_cal C_law_rows hr (pa_cons (pv 0) (pa_cons (pv 2) (pa_cons (pe_op op_add pe_int (pe_cal C_law_pick hr (pa_cons (pv 0) (pa_cons pe_int pa_nil)))) (pa_cons pe_int pa_nil)))))))
      (pss_cons (ps_set (i := 6) sc.nd rfl (.inl rfl) (pe_cal C_law_wants hr (pa_cons (pv 0) (pa_cons (pv 2) (pa_cons (pe_cal C_law_pick hr (pa_cons (pv 0) (pa_cons pe_int pa_nil))) (pa_cons (pv 1) pa_nil))))))
      (pss_cons (ps_while PassesOwn.never (PW.pt (pw_and (pt_not (pt_val (pe_cal C_law_never hr (pa_cons (pv 3) (pa_cons (pv 5) (pa_cons (pv 6) pa_nil)))))) (pw_and1 (pt_cmpR op_isN (pe_cal C_law_fewest hr (pa_cons (pv 3) (pa_cons (pv 5) (pa_cons (pv 6) (pa_cons pe_int pa_nil))))) pe_non (nomark _))))) (pss_one (ps_set (i := 6) sc.nd rfl (.inl rfl) (pe_slice slT (pv 6) (po_some pe_int) po_none))))
      (pss_one (ps_ret (pe_tup (pa_cons (pv 3) (pa_cons (pe_callTy tup1 (by rfl) T.tuple (by decide +kernel) (pa_cons (pv 5) pa_nil)) (pa_cons (pv 6) pa_nil)))))))))))), ?_⟩
    refine ⟨_, rfl, tp, cl, n, rfl, hT, by omega, fun wv H1 fs ss b1 hT1 hw hc => ?_⟩
    -- rows
    refine ⟨_, rfl, _, rfl, _, rfl, tp, cl, 6, _, rfl, hT1, by omega, by decide, by decide, fun r H2 r0 r1 b2 hT2 => ?_⟩
    obtain ⟨m, rfl⟩ := Int.eq_ofNat_of_zero_le r0
    refine ⟨tp, cl, wv, _, fs, ss, m, 3, rfl, hT2, by omega, hw.but b2, hc, by omega, by decide, by decide, fun rv rows H3 b3 hT3 hrv hok hrl => ?_⟩
    -- how many kits
    refine ⟨(by show 8 ≤ sizeLine; decide), fun L nL => ?_⟩
    have s4 := same_new (o := .lst [.int 0, .int 1, .int 2, .int 2, .int 3, .int 3, .int 3, .int 4]) nL
    obtain ⟨eL1, eL2⟩ := hT3.t_ne nL
    refine ⟨_, rfl, tp, cl, 8, _, rfl, TapC.same s4 hT3, by omega, by decide, by decide, fun r H5 r0 r1 b5 hT5 => ?_⟩
    have hL5 : H5 L = some (.lst [.int 0, .int 1, .int 2, .int 2, .int 3, .int 3, .int 3, .int 4]) := b5 _ _ (by simpa using Ne.symm eL1) upd_same
    obtain ⟨c, hc4, hcat⟩ : ∃ c : Nat, c ≤ 4 ∧ atI [V.int 0, .int 1, .int 2, .int 2, .int 3, .int 3, .int 3, .int 4] r = some (.int (c : Int)) := by
      have : r = 0 ∨ r = 1 ∨ r = 2 ∨ r = 3 ∨ r = 4 ∨ r = 5 ∨ r = 6 ∨ r = 7 := by omega
      rcases this with rfl | rfl | rfl | rfl | rfl | rfl | rfl | rfl
      · exact ⟨0, by decide, atI_nat (j := 0) rfl⟩
      · exact ⟨1, by decide, atI_nat (j := 1) rfl⟩
      · exact ⟨2, by decide, atI_nat (j := 2) rfl⟩
      · exact ⟨2, by decide, atI_nat (j := 3) rfl⟩
      · exact ⟨3, by decide, atI_nat (j := 4) rfl⟩
      · exact ⟨3, by decide, atI_nat (j := 5) rfl⟩
      · exact ⟨3, by decide, atI_nat (j := 6) rfl⟩
      · exact ⟨4, by decide, atI_nat (j := 7) rfl⟩
    refine ⟨L, _, r, _, rfl, rfl, SqL.of hL5, hcat, ?_⟩
    dsimp only [List.set]
    have bA : But [tp] H3 H5 := (But.of s4).trans b5
    have bW : But [tp] H1 H5 := (b2.trans b3).trans bA
    have hw5 := hw.but bW
    have hrv5 := RowsR.mo _ _ _ _ (hT3.keep bA) hrv
    -- kits
    refine ⟨_, rfl, (c : Int), rfl, by omega, by omega, fun D nD => ?_⟩
    obtain ⟨eD1, eD2⟩ := hT5.t_ne nD
    refine lc_it (walk_range (lo := 0) (n := ((c : Int)).toNat)) (fun i H6 => But [tp] H5 H6 ∧ TapC H6 tp cl (n + 402 + 201 * i) ∧ ∃ acc krows, H6 D = some (.lst acc) ∧ acc.length = i ∧ All2 (RowsR H6) acc krows ∧ ∀ r ∈ krows, RowsOK r ∧ r.length ≤ 6)
      ⟨But.of (same_new nD), (TapC.same (same_new nD) hT5).le (by omega), [], [], upd_same, rfl, .nil, fun r h => by simp at h⟩ (fun _ _ _ _ => trivial) (fun i x H6 H7 hi p6 hY => ?_) (fun H6 p6 => ?_)
    · obtain ⟨rfl, rfl⟩ := hY
      obtain ⟨b6, hT6, acc, krows, hD6, hal, hall, hkok⟩ := p6
      have hi4 : i < c := hi
      dsimp only [List.map, wipe, List.set]
      refine ⟨rfl, yesT ?_⟩
      refine ⟨_, rfl, _, rfl, _, rfl, tp, cl, 4, _, rfl, hT6, by omega, by decide, by decide, fun r H8 r0 r1 b8 hT8 => ?_⟩
      obtain ⟨m, rfl⟩ := Int.eq_ofNat_of_zero_le r0
      refine ⟨_, _, rfl, rfl, ?_⟩
      have e1 : (1 : Int) + (m : Int) = ((1 + m : Nat) : Int) := by omega
      refine ⟨tp, cl, wv, _, fs, ss, 1 + m, 3, by show [V.ref tp, V.ref wv, V.int (1 + (m : Int)), V.int 3] = _; rw [e1], hT8, by omega, (hw5.but b6).but b8, hc, by omega, by decide, by decide, fun kv krow H9 b9 hT9 hkv hkrok hkrl => ?_⟩
      have b69 := b8.trans b9
      have hD9 := b69 _ _ (by simpa using Ne.symm eD1) hD6
      have k10 : Keep H9 (upd H9 D (.lst (acc ++ [kv]))) := Keep.lst hD9
      refine ⟨acc, hD9, sz_lt (by omega), (b6.trans b69).upd (.inr nD), (hT9.upd eD1 eD2).le (by omega), acc ++ [kv], krows ++ [krow], upd_same, by rw [List.length_append, hal]; rfl, all2_snoc (All2.mo RowsR.mo ((hT6.keep b69).trans k10) hall) (RowsR.mo _ _ _ _ k10 hkv), fun r hr => ?_⟩
      rcases List.mem_append.mp hr with z | z
      · exact hkok r z
      · obtain rfl : r = krow := by simpa using z
        exact ⟨hkrok, hkrl⟩
    · obtain ⟨b6, hT6, acc, krows, hD6, hal, hall, hkok⟩ := p6
      have hcn : ((c : Int)).toNat = c := rfl
      have hkl := hall.length
      -- wants
      refine ⟨_, rfl, _, rfl, _, rfl, tp, cl, 7, _, rfl, hT6, by omega, by decide, by decide, fun r H7 r0 r1 b7 hT7 => ?_⟩
      obtain ⟨m, rfl⟩ := Int.eq_ofNat_of_zero_le r0
      refine ⟨_, rfl, tp, cl, wv, _, fs, ss, m, 6, rfl, hT7, by omega, (hw5.but b6).but b7, hc, by omega, by decide, by decide, fun u ws H8 b8 hT8 hu hwok => ?_⟩
      have b58 := b6.trans (b7.trans b8)
      have hrv8 := RowsR.mo _ _ _ _ (hT5.keep b58) hrv5
      have hD8 := (b7.trans b8) _ _ (by simpa using Ne.symm eD1) hD6
      have hall8 := All2.mo RowsR.mo (hT6.keep (b7.trans b8)) hall
      dsimp only [List.set]
      have ti : ∀ u ws H9, Same H8 H9 → WantsR H9 u ws → WantsOK ws → TabIn H9 rv D u rows acc krows ws := fun u ws H9 s9 h1 h2 =>
        ⟨RowsR.mo _ _ _ _ (Keep.of s9) hrv8, by omega, s9 _ _ hD8, All2.mo RowsR.mo (Keep.of s9) hall8, fun r hr => by have := (hkok r hr).2; omega, by omega, h1, h2⟩
      have fin : ∀ u ws H9, Same H8 H9 → WantsR H9 u ws → WantsOK ws → (tRet (tTup (tCons (tVar 3) (tCons (tCB rTup1 (tCons (tVar 5) tNil)) (tCons (tVar 6) tNil))))) { nx := fun x H' => Q V.non H', rt := Q } [some (.ref tp), some (.int 6), some (.ref wv), some rv, some (.int (c : Int)), some (.ref D), some u, none] H9 := by
        intro u ws H9 s9 hu9 hwok9
        refine ⟨_, rfl, _, rfl, D, acc, rfl, s9 _ _ hD8, fun p H10 s10 np hp => ?_⟩
        refine ⟨_, rfl, (by show 3 ≤ sizeLine; decide), fun t nt => ?_⟩
        have s11 := same_new (o := .tup [rv, .ref p, u]) nt
        have hT10 := TapC.same (s9.trans s10) hT8
        have s8b := (s9.trans s10).trans s11
        have b1b : But [tp] H1 H8 := bW.trans b58
        refine k t _ rv rows (.ref p) krows u ws ((b1.trans b1b).trans (But.of s8b)) ((TapC.same s11 hT10).le (by omega)) upd_same (RowsR.mo _ _ _ _ (Keep.of s8b) hrv8) hok hrl ⟨p, acc, rfl, s11 _ _ hp, All2.mo RowsR.mo (Keep.of s8b) hall8⟩ hkok (by omega) (WantsR.mo _ _ _ _ (Keep.of (s10.trans s11)) hu9) hwok9
      refine while_by (fun σ H9 => ∃ u ws, σ = [some (.ref tp), some (.int 6), some (.ref wv), some rv, some (.int (c : Int)), some (.ref D), some u, none] ∧ Same H8 H9 ∧ WantsR H9 u ws ∧ WantsOK ws) muS ⟨u, ws, rfl, Same.refl _, hu, hwok⟩ ?_ ?_
      · rintro σ H9 ⟨u, ws, rfl, s9, hu9, hwok9⟩
        refine ⟨_, rfl, _, rfl, _, rfl, rv, rows, D, acc, krows, u, ws, rfl, ti u ws H9 s9 hu9 hwok9, fun b H10 s10 hb => ?_⟩
        cases b with
        | true =>
          refine ⟨_, rfl, ite_f rfl (ite_f rfl ?_)⟩
          exact fin u ws H10 (s9.trans s10) (WantsR.mo _ _ _ _ (Keep.of s10) hu9) hwok9
        | false =>
          refine ⟨_, rfl, ite_t rfl ?_⟩
          refine ⟨_, rfl, _, rfl, _, rfl, rv, rows, D, acc, krows, u, ws, rfl, ti u ws H10 (s9.trans s10) (WantsR.mo _ _ _ _ (Keep.of s10) hu9) hwok9, fun v H11 s11 hv => ⟨rfl, _, rfl, ?_⟩⟩
          have s91 := s9.trans (s10.trans s11)
          have hu11 := WantsR.mo _ _ _ _ (Keep.of (s10.trans s11)) hu9
          rcases hv with ⟨rfl, hne⟩ | ⟨n, rfl⟩
          · refine ite_t rfl ?_
            obtain ⟨a, xs, rfl, ha, hxs⟩ := id hu11
            obtain ⟨a9, xs9, e9, ha9, hxs9⟩ := id hu9
            cases e9
            refine ⟨_, rfl, 1, rfl, a, _, rfl, ha, fun d H12 s12 hd => ?_⟩
            rw [cut_from1] at hd
            have hxl := hxs.length
            have hxl9 := hxs9.length
            have hxs12 := All2.mo WantR.mo (Keep.of s12) hxs
            refine ⟨⟨.ref d, ws.drop 1, rfl, s91.trans s12, ⟨d, _, rfl, hd, ?_⟩, ⟨fun x hx => hwok9.all x (List.mem_of_mem_drop hx), by have := hwok9.len; rw [List.length_drop]; omega⟩⟩, ?_⟩
            · cases hxs12 with
              | nil => exact .nil
              | cons r t => exact t
            · show tlen H12 (.ref d) < tlen H9 (.ref a)
              rw [tlen_tup hd, tlen_tup ha9]
              have hpos : 0 < ws.length := List.length_pos_iff.mpr hne
              rw [List.length_drop]
              omega
          · refine ite_f rfl ?_
            exact fin u ws H11 s91 hu11 hwok9
      · rintro σ H Q Q' i ⟨v1, e1, v2, e2, v3, e3, rv, rows, ka, kxs, krows, u, ws, ev, ti, hk⟩
        refine ⟨v1, e1, v2, e2, v3, e3, rv, rows, ka, kxs, krows, u, ws, ev, ti, fun b H' s' hb => ?_⟩
        obtain ⟨c, ec, hq⟩ := hk b H' s' hb
        refine ⟨c, ec, ?_⟩
        cases c with
        | true => exact ite_f rfl (ite_f (A := False) rfl (i _ _ (of_ite_f (A := False) rfl (of_ite_f rfl hq))))
        | false =>
          refine ite_t rfl ?_
          obtain ⟨v1, e1, v2, e2, v3, e3, rv, rows, ka, kxs, krows, u, ws, ev, ti, hk2⟩ := of_ite_t rfl hq
          refine ⟨v1, e1, v2, e2, v3, e3, rv, rows, ka, kxs, krows, u, ws, ev, ti, fun b H' s' hb => ?_⟩
          obtain ⟨en, b2, eb, hq2⟩ := hk2 b H' s' hb
          exact ⟨en, b2, eb, i _ _ hq2⟩
end
end Pk
end
section
set_option Elab.async false
set_option linter.all false
set_option maxRecDepth 100000
set_option maxHeartbeats 8000000
namespace Pk
open PySem PySem.Spec PyProof.Rows L2 FL
section
variable {P : Program} {w : World} {K : PySem.W.Frag} {mg : Str → Option Value} {base : Heap} {C : Addr}
def spLHeap (C : Addr) : Sp := fun vs H Q _ => ∃ v rows u krows m ns, vs = [v, u, .ref m] ∧ HeapR C H v rows ∧ HeapOK rows ∧ KitsR C H u krows ∧ (∀ r ∈ krows, HeapOK r) ∧ H m = some (.tup (ns.map V.int)) ∧ ns.length = krows.length ∧ (∀ n ∈ ns, n ≤ 1000000 ∧ 0 ≤ n) ∧
  ∀ v' H' rows', Same H H' → HeapR C H' v' rows' → HeapOK rows' → cnt rows' = mix (cnt rows) (cnts krows) ns → Q v' H'
theorem sc_law_heap : FnScope ["_law_heap_here", "_law_heaps", "_law_many", "_law_found", "_law_kit", "_law_number", "_law_turn"] ["_law_heap_here", "_law_heaps", "_law_many"] (defScope s_law_heap) := ⟨rfl, rfl, rfl, by decide +kernel, rfl, by decide +kernel, by decide +kernel⟩
theorem c_law_heap (T : Txt K mg C) : Cal P w K mg base CX0 5 "_law_heap" ["_law_heap_here", "_law_heaps", "_law_many"] (spLHeap C) := by
  have M_plus : Mal P w K mg base C 4 "plus" ["self", "other"] (spPlus C) [] := M_plus_ T
  refine Cal.mk' T.d_law_heap sc_law_heap (fun vs H Q E h => ?_) (fun _ _ _ _ _ _ us hl => match us, hl with | [_, _, _], _ => rfl) (fun f cdv A outer s H vs Q E hr h => ?_)
  · obtain ⟨v, rows, u, krows, m, ns, rfl, _⟩ := h
    rfl
  · obtain ⟨v, rows, u, krows, m, ns, rfl, hv, hok, ⟨ka, kxs, rfl, hka, hkall⟩, hkok, hm, hl, hns, k⟩ := h
    have sc := sc_law_heap
    refine ⟨_, (pss_cons (ps_set (i := 3) sc.nd rfl (.inl rfl) (pv 0))
      (pss_cons (ps_for PassesOwn.never rfl (zipK K (by rfl) T.zip (pa_cons (pv 1) (pa_cons (pv 2) pa_nil))) (pgT K (n := 2) rfl (pgs_cons (pg_name (i := 4) sc.nd rfl (.inl rfl)) (pgs_cons (pg_name (i := 5) sc.nd rfl (.inl rfl)) pgs_nil))) (pss_one (ps_for PassesOwn.never rfl (pi_range1 rfl T.range (pa_cons (pv 5) pa_nil)) (pg_name (i := 6) sc.nd rfl (.inl rfl)) (pss_one (ps_set (i := 3) sc.nd rfl (.inl rfl) (pe_mal T.cl M_plus hr (pv 3) (pa_cons (pv 4) pa_nil)))))))
      (pss_one (ps_ret (pv 3))))), ?_⟩
    have hkl : kxs.length = krows.length := hkall.length
    refine ⟨_, rfl, _, rfl, _, rfl, ka, m, kxs, ns.map V.int, rfl, .inr ⟨SqT.of hka, SqT.of hm, for_it (walk_zipT (n := krows.length) (by rw [List.length_map]; omega)) (fun i σ H2 => ∃ v' rows' v4 v5 v6, σ = [some v, some (.ref ka), some (.ref m), some v', v4, v5, v6] ∧ Same H H2 ∧ HeapR C H2 v' rows' ∧ HeapOK rows' ∧ ∀ f s, cnt rows' f s = mix (cnt rows) (cnts (krows.take i)) (ns.take i) f s)
      ⟨v, rows, none, none, none, rfl, Same.refl _, hv, hok, fun f s => by simp [mix, cnts, mixK]⟩ (fun i σ H2 _ ⟨_, _, _, _, _, _, s2, _⟩ => ⟨SqT.of (s2 _ _ hka), SqT.of (s2 _ _ hm)⟩) ?_ ?_⟩⟩
    · rintro i x σ H2 H3 hi ⟨v', rows', v4, v5, v6, rfl, s2, hv', hok', hcnt⟩ ⟨Tt, x1, x2, rfl, nT, rfl, hx1, hx2⟩
      obtain ⟨r, hr1, hkr⟩ := hkall.get hx1
      have hx2' : (ns.map V.int)[i]? = some x2 := hx2
      rw [List.getElem?_map] at hx2'
      obtain ⟨n, hn, rfl⟩ := Option.map_eq_some_iff.mp hx2'
      have hnn := hns n (List.mem_of_getElem? hn)
      have sT := same_new (o := .tup [x1, .int n]) nT
      have s3 := s2.trans sT
      refine ⟨Tt, _, rfl, SqT.of upd_same, rfl, _, _, rfl, _, _, rfl, rfl, ?_⟩
      dsimp only [List.set]
      have hv3 := HeapR.mo _ _ _ _ (Keep.of sT) hv'
      have hk3 := HeapR.mo _ _ _ _ (Keep.of s3) hkr
      generalize upd H2 Tt (.tup [x1, .int n]) = H3 at *
      refine ⟨_, rfl, n, rfl, by omega, by omega, for_range (fun j σ H4 => ∃ v' rows4 v6, σ = [some v, some (.ref ka), some (.ref m), some v', some x1, some (.int n), v6] ∧ Same H3 H4 ∧ HeapR C H4 v' rows4 ∧ HeapOK rows4 ∧ ∀ f s, cnt rows4 f s = cnt rows' f s + (j : Int) * cnt r f s)
        ⟨v', rows', v6, rfl, Same.refl _, hv3, hok', fun f s => by simp⟩ ?_ ?_⟩
      · rintro j σ H4 hj ⟨v4, rows4, v6, rfl, s4, hv4, hok4, hc4⟩
        dsimp only [List.set]
        obtain ⟨ah, dx, p, rfl, hah, _⟩ := id hv4
        refine ⟨_, rfl, ah, dx, _, rfl, hah, rfl, _, rfl, _, x1, rows4, r, rfl, hv4, HeapR.mo _ _ _ _ (Keep.of s4) hk3, hok4, hkok r (List.mem_of_getElem? hr1), fun v5 H5 rows5 s5 hv5 sc5 => ?_⟩
        refine ⟨v5, rows5, _, rfl, s4.trans s5, hv5, sc5.ok, fun f s => ?_⟩
        rw [sc5.eq, cnt_append, hc4, show (((j + 1 : Nat) : Int)) = (j : Int) + 1 by omega, Int.add_mul, Int.one_mul]
        omega
      · rintro σ H4 ⟨v4, rows4, v6, rfl, s4, hv4, hok4, hc4⟩
        refine ⟨v4, rows4, _, _, _, rfl, s3.trans s4, hv4, hok4, fun f s => ?_⟩
        rw [hc4, hcnt, mix_step _ hl hr1 hn, show ((n.toNat : Nat) : Int) = n by omega]
    · rintro σ H2 ⟨v', rows', v4, v5, v6, rfl, s2, hv', hok', hcnt⟩
      rw [take_all, ← hl, take_all] at hcnt
      refine ⟨_, rfl, k v' H2 rows' s2 hv' hok' ?_⟩
      funext f s
      exact hcnt f s
/-! ### told -/
def spTold (C : Addr) : Sp := fun vs H Q _ => ∃ v rows ka krows sv wss ws, vs = [v, ka, sv] ∧ HeapR C H v rows ∧ HeapOK rows ∧ KitsR C H ka krows ∧ (∀ r ∈ krows, HeapOK r) ∧ krows.length ≤ 4 ∧ SheetR H sv wss ∧ ws = wss.flatten ∧ WantsOK ws ∧
  (∀ m H' ns, Same H H' → H' m = some (.tup (ns.map V.int)) → OKn krows ns → ns.sum ≤ 36 → Fd rows krows ws ns → (∀ n, OKn krows n → n.sum < ns.sum → ¬ Fd rows krows ws n) → Q (.ref m) H') ∧
  (∀ H' (p : Place), Same H H' → (∀ n, IsBar SH (mix (cnt rows) (cnts krows) n) ws p.1 p.2) → Q .non H')
theorem sc_law_told : FnScope ["_law_heap_here", "_law_heaps", "_law_sheet_here", "_law_found"] ["_law_heap_here", "_law_heaps", "_law_sheet_here"] (defScope s_law_told) := ⟨rfl, rfl, rfl, by decide +kernel, rfl, by decide +kernel, by decide +kernel⟩
theorem c_law_told (T : Txt K mg C) {CN : Addr} (N : NoK P w K mg base CN) : Cal P w K mg base CX0 9 "_law_told" ["_law_heap_here", "_law_heaps", "_law_sheet_here"] (spTold C) := by
  obtain ⟨fF, fdF, FF, gF, kpF, bF⟩ := (c_fewest (P := P) (w := w) (base := base) T N).ex
  refine Cal.mk' T.d_law_told sc_law_told (fun vs H Q E h => ?_) (fun _ _ _ _ _ _ us hl => match us, hl with | [_, _, _], _ => rfl) (fun f cdv A outer s H vs Q E hr h => ?_)
  · obtain ⟨v, rows, ka, krows, sv, wss, ws, rfl, _⟩ := h
    rfl
  · obtain ⟨v, rows, ka, krows, sv, wss, ws, rfl, hv, hok, hka, hkok, hk4, hsv, hws, wok, k1, k2⟩ := h
    have sc := sc_law_told
    refine ⟨_, pss_cons (ps_set (i := 3) sc.nd rfl (.inl rfl) pe_non)
      (pss_cons (ps_try_only (tb := fun W => tAsg (tCallS (spFewest C CN) (WE W) (tCons (tVar 0) (tCons (tVar 1) (tCons (tVar 2) tNil)))) (gName 3)) (ts := fun _ _ _ => tAsg (tC .non) (gName 3)) (Wout := fun _ _ _ _ => False) rfl rfl ⟨rfl, by decide, .inl N.mgN⟩ takes0
        (fun W pn xe tk _ => pss_one (ps_set (i := 3) sc.nd rfl (.inl rfl) (pe_callS FF hr rfl gF kpF bF (fun σ => passAt tk σ) (pa_cons (pv 0) (pa_cons (pv 1) (pa_cons (pv 2) pa_nil))))))
        (fun a oe cls d pn _ _ => pss_one (ps_set (i := 3) sc.nd rfl (.inl rfl) pe_non)))
      (pss_one (ps_ret (pv 3)))), ?_⟩
    refine ⟨_, rfl, _, rfl, _, rfl, v, rows, ka, krows, sv, wss, ws, rfl, hv, hok, hka, hkok, hk4, hsv, hws, wok, fun m H' ns s' hm hn h36 hFd hmin => ?_, fun d H' p s' hb => ?_⟩
    · exact ⟨_, rfl, k1 m H' ns s' hm hn h36 hFd hmin⟩
    · refine ⟨true, N.one, fun _ a ha => ?_, fun q => nomatch q⟩
      exact ⟨_, rfl, k2 H' p s' hb⟩
end
end Pk
end
section
set_option Elab.async false
set_option linter.all false
set_option maxRecDepth 100000
set_option maxHeartbeats 4000000
/-! a tuple times 1; times any number from 1 on. -/
namespace Pk
open PySem PySem.Spec PyProof.Rows L2 FL
theorem tuple_mulOne (l : Addr) (items : Array Value) (n : Nat) (dd : Option Addr) (sl : Array (Option Value)) (u : Tok) :
    Meets (Builtin.«tuple.__mul__» ⟨[.ref l, .int 1 u], []⟩) (fun _ R s => s.heap.get? l = some { cls := .type "tuple", dict := dd, data := .seq items n, slots := sl } ∧
      R (.ok (.ret (Value.ref l))) s) :=
  .of_wp fun prog w A R s h => by
    obtain ⟨hp, g, d, tk, os⟩ := s
    obtain ⟨hl, h⟩ := h
    have f1 := AutoSeq1.idx_int
    have c1 : ((items.isEmpty || (1 : Int) == 1)) = true := by rw [show ((1 : Int) == 1) = true from rfl, Bool.or_true]
    wp_walk using wpAny_loadPart' hl
    exact ⟨_, rfl, h⟩
def rRepN : R2 := fun x y H Q => ∃ l k xs, x = .ref l ∧ y = .int k ∧ H l = some (.tup xs) ∧ xs ≠ [] ∧ 1 ≤ k ∧ k ≤ 1000 ∧ xs.length ≤ 1000 ∧ ∀ p H', Same H H' → H' p = some (.tup (List.replicate k.toNat xs).flatten) → Q (.ref p) H'
theorem op_repN {X : Cx} : OpR X (binaryOp .Mult) rRepN := by
  intro pins s σ H x y v u Q I rx ry h
  obtain ⟨l, k, xs, rfl, rfl, hT, hne, h1, h2, hz, q⟩ := h
  by_cases hk : k = 1
  · subst hk
    cases rx
    obtain ⟨t, rfl⟩ := ry
    obtain ⟨its, r, ⟨⟨cls, dd, data, sl⟩, ho, hc, n, hd⟩, hs⟩ := I.tuple (SqT.of (K := X.K) hT)
    simp only at hc hd
    subst hc hd
    refine wpAny_binaryOp_repeat_ref (T := "tuple") (U := "int") (by decide) ⟨_, ho, rfl⟩ (fun s' => typeIs_int s' 1 t) noFill_tuple_mul F.fills_int_mul F.slot_int_rmul repeat_tuple F.slot_int_index.lookup
      (call_meets F.slot_int_rmul (typeIs_int s 1 t) F.entry_int_rmul (F.args_int_rmul_2 _ _) (int_rmul_tuple 1 t l its.toArray n dd sl)
        ⟨ho, rfl, ⟨_, ho, rfl⟩, call_meets F.slot_tuple_mul ⟨_, ho, rfl⟩ F.entry_tuple_mul (F.args_tuple_mul_2 _ _) (tuple_mulOne l its.toArray n dd sl t) ⟨ho, ?_⟩⟩)
    exact ⟨.ref l, H, I, rfl, q l H (Same.refl H) (by rw [hT]; simp)⟩
  · exact op_repT pins s σ H _ _ v u Q I rx ry ⟨l, k, xs, rfl, rfl, SqT.of hT, hne, by omega, h2, hz, fun p np => q p _ (same_new np) upd_same⟩
end Pk
end
section
set_option Elab.async false
set_option linter.all false
set_option maxRecDepth 100000
set_option maxHeartbeats 8000000
namespace Pk
open PySem PySem.Spec PyProof.Rows L2 FL
theorem rep_flat {α : Type} (a : α) : ∀ n : Nat, (List.replicate n [a]).flatten = List.replicate n a
  | 0 => rfl
  | n + 1 => by
    rw [List.replicate_succ, List.flatten_cons, rep_flat a n, List.replicate_succ]
    rfl
section
variable {P : Program} {w : World} {K : PySem.W.Frag} {mg : Str → Option Value} {base : Heap} {C : Addr}
def spLaw (K : PySem.W.Frag) : Sp := fun vs H Q _ => ∃ (a : Addr) (cs : List Int), vs = [.ref a] ∧ SqL K H a (cs.map V.int) ∧ ∀ H', Q (.bl true) H'
theorem sc_law : FnScope ["_law_script", "_law_tap_here", "_law_rows_here", "_law_kits", "_law_wants_here", "_law_sheet_here", "_law_heap_here", "_law_heaps", "_law_wanted_now", "_law_told_now", "_law_word", "_law_thing", "_law_given", "_law_made", "_law_total", "_law_many", "_law_there_now", "_law_kit"] ["_law_script"] (defScope s_law) := ⟨rfl, rfl, rfl, by decide +kernel, rfl, by decide +kernel, by decide +kernel⟩
theorem F_law {f : Addr} {fd : FuncData} (T : Txt K mg C) {CN : Addr} (N : NoK P w K mg base CN) (F : FunD K "law" "law" (defArgs s_law) (defBody s_law) (defScope s_law) [] [] f fd) : FnOk P w K mg base CX0 10 f fd ["_law_script"] (spLaw K) := by
  have C_law_tap : Cal P w K mg base CX0 1 "_law_tap" ["_law_script"] (spTap K) := c_law_tap T
  have C_law_scene : Cal P w K mg base CX0 5 "_law_scene" ["_law_tap_here", "_law_most_now"] spScene := c_law_scene T
  have C_law_sheet : Cal P w K mg base CX0 2 "_law_sheet" ["_law_tap_here", "_law_wants_here"] spLSheet := c_law_sheet T
  have C_Heap_init : Maker P w K mg base C 2 ["self", "rows"] (spInit C) := c_Heap_init T
  have C_wants_of : CalD P w K mg base CX0 1 "wants_of" ["sheet", "choice"] spWantsOf [.non] := c_wants_of T
  have C_law_told : Cal P w K mg base CX0 9 "_law_told" ["_law_heap_here", "_law_heaps", "_law_sheet_here"] (spTold C) := c_law_told T N
  have C_deal : Cal P w K mg base CX0 6 "deal" ["heap", "wants"] (spDeal C) := c_deal T
  have C_law_heap : Cal P w K mg base CX0 5 "_law_heap" ["_law_heap_here", "_law_heaps", "_law_many"] (spLHeap C) := c_law_heap T
  have C_is_dealing : Cal P w K mg base CX0 6 "is_dealing" ["heap", "sheet", "thing"] (spIsDealing C) := c_is_dealing T
  have C_law_sums : Cal P w K mg base CX0 1 "_law_sums" ["_law_parts", "_law_total"] spLSums := c_law_sums T
  have C_lets_bar : Cal P w K mg base CX0 4 "lets_bar" ["heap", "wants", "thing"] (spIsBar C) := c_lets_bar T
  refine F.ok sc_law (fun vs H Q E h => ?_) (fun cdv A outer s H vs Q E hr h => ?_)
  · obtain ⟨a, cs, rfl, _⟩ := h
    rfl
  · obtain ⟨a, cs, rfl, hS, k⟩ := h
    have sc := sc_law
    refine ⟨_, PSs.nox (pss_cons (ps_set (i := 1) sc.nd rfl (.inl rfl) (pe_cal C_law_tap hr (pa_cons (pv 0) pa_nil)))
      (pss_cons (ps_asg (pe_cal C_law_scene hr (pa_cons (pv 1) (pa_cons pe_int pa_nil))) (pgT K (n := 3) rfl (pgs_cons (pg_name (i := 2) sc.nd rfl (.inl rfl)) (pgs_cons (pg_name (i := 3) sc.nd rfl (.inl rfl)) (pgs_cons (pg_name (i := 4) sc.nd rfl (.inl rfl)) pgs_nil)))))
      (pss_cons (ps_set (i := 5) sc.nd rfl (.inl rfl) (pe_cal C_law_sheet hr (pa_cons (pv 1) (pa_cons (pv 4) pa_nil))))
      (pss_cons (ps_par (i := 6) (j := 7) rfl sc.nd rfl rfl (by decide) rfl rfl (pa_cons (pe_heap T.mgC C_Heap_init hr (pv 2)) (pa_cons (pe_callTy tup1 (by rfl) T.tuple (by decide +kernel) (pa_cons (pe_lc (own := [("_law_kit", 17)]) rfl sc.nd (piT K (pv 3)) (blkOk_by (N := ["_law_script", "_law_tap_here", "_law_rows_here", "_law_kits", "_law_wants_here", "_law_sheet_here", "_law_heap_here", "_law_heaps", "_law_wanted_now", "_law_told_now", "_law_word", "_law_thing", "_law_given", "_law_made", "_law_total", "_law_many", "_law_there_now", "_law_kit"]) (sc := defScope s_law) (own := [("_law_kit", 17)]) (by decide +kernel)) (fun _ _ _ _ _ => (pg_name (i := 17) sc.nd rfl (.inl rfl))) (fun _ _ _ _ _ => pts_nil) (fun _ _ _ _ _ => (pe_heap T.mgC C_Heap_init hr (pv 17)))) pa_nil)) pa_nil)) (by rfl))
      (pss_cons (ps_set (i := 8) sc.nd rfl (.inl rfl) (pe_calD C_wants_of hr (pa_cons (pv 5) pa_nil)))
      (pss_cons (ps_set (i := 9) sc.nd rfl (.inl rfl) (pe_cal C_law_told hr (pa_cons (pv 6) (pa_cons (pv 7) (pa_cons (pv 5) pa_nil)))))
      (pss_cons (ps_if (pt_cmpR op_isN (pv 9) pe_non (nomark _)) (pss_cons (ps_asg (pe_cal C_deal hr (pa_cons (pe_cal C_law_heap hr (pa_cons (pv 6) (pa_cons (pv 7) (pa_cons (pe_callTy tup1 (by rfl) T.tuple (by decide +kernel) (pa_cons (pe_lc (own := [("_law_kit", 17)]) rfl sc.nd (piT K (pv 3)) (blkOk_by (N := ["_law_script", "_law_tap_here", "_law_rows_here", "_law_kits", "_law_wants_here", "_law_sheet_here", "_law_heap_here", "_law_heaps", "_law_wanted_now", "_law_told_now", "_law_word", "_law_thing", "_law_given", "_law_made", "_law_total", "_law_many", "_law_there_now", "_law_kit"]) (sc := defScope s_law) (own := [("_law_kit", 17)]) (by decide +kernel)) (fun _ _ _ _ _ => (pg_name (i := 17) sc.nd rfl (.inl rfl))) (fun _ _ _ _ _ => pts_nil) (fun _ _ _ _ _ => pe_int)) pa_nil)) pa_nil)))) (pa_cons (pv 8) pa_nil))) (pgT K (n := 2) rfl (pgs_cons (pg_name (i := 10) sc.nd rfl (.inl rfl)) (pgs_cons (pg_name (i := 11) sc.nd rfl (.inl rfl)) pgs_nil))))
      (pss_one (ps_ret (pe_cmpR op_eq (pv 10) pe_str (nomark _))))) pss_nil)
      (pss_cons (ps_asg (pe_cal C_deal hr (pa_cons (pe_cal C_law_heap hr (pa_cons (pv 6) (pa_cons (pv 7) (pa_cons (pv 9) pa_nil)))) (pa_cons (pv 8) pa_nil))) (pgT K (n := 2) rfl (pgs_cons (pg_name (i := 10) sc.nd rfl (.inl rfl)) (pgs_cons (pg_name (i := 12) sc.nd rfl (.inl rfl)) pgs_nil))))
      (pss_cons (ps_set (i := 13) sc.nd rfl (.inl rfl) (pe_cal C_law_heap hr (pa_cons (pv 6) (pa_cons (pv 7) (pa_cons (pv 9) pa_nil)))))
      (pss_cons (ps_if (PW.pt (pw_or (pt_cmpR op_ne (pv 10) pe_str (nomark _)) (pw_or1 (pt_not (pt_val (pe_cal C_is_dealing hr (pa_cons (pv 13) (pa_cons (pv 5) (pa_cons (pe_tup (pa_cons (pe_op op_repN (pe_tup (pa_cons pe_int pa_nil)) (pe_callB len1 (by rfl) T.len PySem.boot_len (pa_cons (pv 5) pa_nil))) (pa_cons (pv 12) pa_nil))) pa_nil))))))))) (pss_one (ps_ret pe_bl)) pss_nil)
      (pss_cons (ps_for PassesOwn.never rfl (piT K (pe_tup (pa_cons (pe_op op_sub (pe_callB (sumT rfl) (by rfl) T.sum (by decide +kernel) (pa_cons (pv 9) pa_nil)) pe_int) (pa_cons (pe_op op_sub (pe_callB (sumT rfl) (by rfl) T.sum (by decide +kernel) (pa_cons (pv 9) pa_nil)) pe_int) pa_nil)))) (pg_name (i := 14) sc.nd rfl (.inl rfl)) (pss_one (ps_for PassesOwn.never rfl (piL K (pe_ifExp (pt_cmpR op_ge (pv 14) pe_int (nomark _)) (pe_cal C_law_sums hr (pa_cons (pe_callB len1 (by rfl) T.len PySem.boot_len (pa_cons (pv 3) pa_nil)) (pa_cons (pv 14) pa_nil))) (pe_lst pa_nil))) (pg_name (i := 15) sc.nd rfl (.inl rfl)) (pss_cons (ps_set (i := 16) sc.nd rfl (.inl rfl) (pe_cal C_law_heap hr (pa_cons (pv 6) (pa_cons (pv 7) (pa_cons (pv 15) pa_nil)))))
      (pss_cons (ps_asg (pe_cal C_deal hr (pa_cons (pv 16) (pa_cons (pv 8) pa_nil))) (pgT K (n := 2) rfl (pgs_cons (pg_name (i := 10) sc.nd rfl (.inl rfl)) (pgs_cons (pg_name (i := 11) sc.nd rfl (.inl rfl)) pgs_nil))))
      (pss_one (ps_if (PW.pt (pw_or (pt_cmpR op_ne (pv 10) pe_str (nomark _)) (pw_or1 (pt_cmpR op_isnot_bl (pe_cal C_lets_bar hr (pa_cons (pv 16) (pa_cons (pv 8) (pa_cons (pv 11) pa_nil)))) pe_bl (nomark _))))) (pss_one (ps_ret pe_bl)) pss_nil)))))))
      (pss_one (ps_ret pe_bl))))))))))))), ?_⟩
    refine at_start (σ := [some (.ref a), none, none, none, none, none, none, none, none, none, none, none, none, none, none, none, none, none]) rfl ?_
    refine ⟨_, rfl, a, cs, rfl, hS, fun tp cl H1 ntp s1 hT => ?_⟩
    refine ⟨_, rfl, tp, cl, 0, rfl, hT, by omega, fun t2 H2 rv rows kv krows u ws b2 hT2 ht2 hrv hrok hrl hkv hkok hk4 hu wok => ?_⟩
    refine ⟨t2, _, rfl, SqT.of ht2, rfl, _, _, rfl, _, _, rfl, _, _, rfl, rfl, ?_⟩
    dsimp only [List.set]
    refine ⟨_, rfl, _, rfl, tp, cl, _, u, ws, rfl, hT2, by omega, hu, wok.len, fun sv wss H3 b3 hT3 hsv hfl hwl hw1 => ?_⟩
    subst hfl
    have k23 := hT2.keep b3
    obtain ⟨sa, sxs, rfl, hsa, hsall⟩ := id hsv
    have hsl := hsall.length
    have hrv3 := RowsR.mo _ _ _ _ k23 hrv
    obtain ⟨ka, kxs, rfl, hka, hkall⟩ := TupR.mo RowsR.mo _ _ _ _ k23 hkv
    have hkl := hkall.length
    dsimp only [List.set]
    refine ⟨_, rfl, rows, hrv3, hrok, fun hv H4 rows0 s4 hh hsc => ?_⟩
    have hka4 := s4 _ _ hka
    refine ⟨_, rfl, ka, rfl, ⟨_, SqT.of hka4⟩, fun D nD => ?_⟩
    refine lc_rel (walk_tup (K := K) (a := ka) (xs := kxs)) (HeapR C) HeapR.mo (fun _ r => HeapOK r) (by omega) (fun _ H => Same H4 H) (same_new nD) (fun i H acc acc' s _ => same_mut s nD) (fun i H _ s => SqT.of (s _ _ hka4)) (fun j y H6 H7 acc hj s6 hD6 hY kt => ?_) (fun H5 acc hrows s5 hD5 hal hall5 hok5 => ?_)
    · obtain ⟨rfl, hy⟩ := hY
      obtain ⟨r, hr1, hkr⟩ := hkall.get hy
      dsimp only [List.map, wipe, List.set]
      refine ⟨rfl, yesT ?_⟩
      refine ⟨_, rfl, r, RowsR.mo _ _ _ _ (Keep.of (s4.trans s6)) hkr, (hkok r (List.mem_of_getElem? hr1)).1, fun v' H8 rows' s8 hv' hsc' => ?_⟩
      exact kt _ H8 rows' (Keep.of s8) (s8 _ _ hD6) hsc'.ok hv' (s6.trans s8)
    · refine ⟨D, acc, rfl, hD5, fun c H6 s6 nc hc => ⟨_, _, rfl, ?_⟩⟩
      dsimp only [List.set]
      have s46 := s5.trans s6
      have s36 := s4.trans s46
      have hsv6 := TupR.mo RowWR.mo _ _ _ _ (Keep.of s36) hsv
      have hrl6 : hrows.length = kxs.length := by rw [← hall5.length]; exact hal
      have hhok : ∀ r ∈ hrows, HeapOK r := fun r hr => by
        obtain ⟨j, hj⟩ := List.mem_iff_getElem?.mp hr
        exact hok5 j r hj
      have hh6 := HeapR.mo _ _ _ _ (Keep.of s46) hh
      have hkits6 : KitsR C H6 (.ref c) hrows := ⟨c, acc, rfl, hc, All2.mo HeapR.mo (Keep.of s6) hall5⟩
      have hka6 := s46 _ _ hka4
      have hn6 := wok.len
      refine ⟨_, rfl, .ref sa, .non, wss, none, rfl, hsv6, rfl, fun n hn => (by cases hn), by omega, fun wv H7 s7 hws7 => ?_⟩
      dsimp only [List.set]
      have hsv7 := TupR.mo RowWR.mo _ _ _ _ (Keep.of s7) hsv6
      have hh7 := HeapR.mo _ _ _ _ (Keep.of s7) hh6
      have hkits7 := TupR.mo HeapR.mo _ _ _ _ (Keep.of s7) hkits6
      have hka7 := s7 _ _ hka6
      refine ⟨_, rfl, _, rfl, _, rfl, hv, rows0, .ref c, hrows, .ref sa, wss, wss.flatten, rfl, hh7, hsc.ok, hkits7, hhok, by omega, hsv7, rfl, wok, fun m H8 ns s8 hm hn h36 hFd hmin => ?_, fun H8 p s8 hb => ?_⟩
      · -- told
        dsimp only [List.set]
        refine ⟨_, rfl, rfl, _, rfl, ite_f rfl ?_⟩
        have hsv8 := TupR.mo RowWR.mo _ _ _ _ (Keep.of s8) hsv7
        have hh8 := HeapR.mo _ _ _ _ (Keep.of s8) hh7
        have hkits8 := TupR.mo HeapR.mo _ _ _ _ (Keep.of s8) hkits7
        have hws8 := WantsR.mo _ _ _ _ (Keep.of s8) hws7
        have hka8 := s8 _ _ hka7
        have hns : ∀ n ∈ ns, n ≤ 1000000 ∧ 0 ≤ n := fun n hn' => ⟨by have := mem_le_sum hn.2 n hn'; omega, hn.2 n hn'⟩
        have hsa8 := (s36.trans (s7.trans s8)) _ _ hsa
        refine ⟨_, rfl, _, rfl, _, rfl, hv, rows0, .ref c, hrows, m, ns, rfl, hh8, hsc.ok, hkits8, hhok, hm, hn.1, hns, fun v1 H9 rows1 s9 hv1 hok1 hcnt1 => ?_⟩
        have hws9 := WantsR.mo _ _ _ _ (Keep.of s9) hws8
        refine ⟨_, rfl, v1, rows1, wv, wss.flatten, rfl, hv1, hok1, hws9, wok, fun tt H10 s10 hdeal => ?_⟩
        obtain ⟨gs0, hg0⟩ := hFd
        rcases hdeal with ⟨gv, gs, ht, hg, hgiv, hrise⟩ | ⟨pv', p', ht, hp, hpok', hbar⟩
        · rw [hcnt1] at hgiv
          refine ⟨tt, _, rfl, SqT.of ht, rfl, _, _, rfl, _, _, rfl, rfl, ?_⟩
          dsimp only [List.set]
          have s8b := s9.trans s10
          refine ⟨_, rfl, _, rfl, _, rfl, hv, rows0, .ref c, hrows, m, ns, rfl, HeapR.mo _ _ _ _ (Keep.of s8b) hh8, hsc.ok, TupR.mo HeapR.mo _ _ _ _ (Keep.of s8b) hkits8, hhok, s8b _ _ hm, hn.1, hns, fun v2 H11 rows2 s11 hv2 hok2 hcnt2 => ?_⟩
          dsimp only [List.set]
          have s8c := s8b.trans s11
          refine ⟨_, rfl, rfl, _, rfl, ite_f (by decide +kernel) ?_⟩
          refine ⟨_, rfl, _, rfl, (by show 1 ≤ sizeLine; decide), fun z nz => ?_⟩
          have s12 := same_new (o := .tup [.int 0]) nz
          have hsa12 := (s8c.trans s12) _ _ hsa8
          refine ⟨_, rfl, sa, _, rfl, .inr hsa12, z, (sxs.length : Int), [.int 0], rfl, rfl, upd_same, by simp, by omega, by omega, (by show 1 ≤ 1000; decide), fun zz H13 s13 hzz => ?_⟩
          rw [rep_flat] at hzz
          refine ⟨_, rfl, (by show 2 ≤ sizeLine; decide), fun t nt => ?_⟩
          have s14 := same_new (o := .tup [.ref zz, gv]) nt
          have sB := (s12.trans s13).trans s14
          have sC := s11.trans sB
          have hdc : DealC wss.flatten gs := ⟨hgiv.1, hrise, wok⟩
          refine ⟨v2, rows2, .ref sa, wss, .ref t, t, gv, gs, rfl, HeapR.mo _ _ _ _ (Keep.of sB) hv2, hok2, TupR.mo RowWR.mo _ _ _ _ (Keep.of ((s36.trans (s7.trans s8)).trans (s8b.trans sC))) hsv, hdc, rfl, ⟨zz, upd_same, ?_⟩, by omega, GivenR.mo _ _ _ _ (Keep.of sC) hg, fun f s => by rw [hcnt2]; exact hgiv.2 f s, fun H15 s15 => ?_⟩
          · rw [s14 _ _ hzz]
            show some (HO.tup (List.replicate sxs.length (V.int 0))) = _
            rw [hsl]
          refine ⟨_, rfl, ite_f rfl ?_⟩
          have s8d := (s8b.trans sC).trans s15
          have hm15 := s8d _ _ hm
          -- for total in (sum - 1, sum - 2)
          refine ⟨_, rfl, m, ns, rfl, hm15, _, _, rfl, rfl, _, rfl, m, ns, rfl, hm15, _, _, rfl, rfl, (by show 2 ≤ sizeLine; decide), fun tt2 ntt2 => ?_⟩
          have s16 := same_new (o := .tup [.int (ns.sum - 1), .int (ns.sum - 2)]) ntt2
          have s8e := s8d.trans s16
          have htt2 : upd H15 tt2 (.tup [.int (ns.sum - 1), .int (ns.sum - 2)]) tt2 = some (.tup [.int (ns.sum - 1), .int (ns.sum - 2)]) := upd_same
          generalize upd H15 tt2 (.tup [.int (ns.sum - 1), .int (ns.sum - 2)]) = H16 at *
          refine ⟨tt2, rfl, ⟨_, SqT.of htt2⟩, for_tup (K := K) (a := tt2) (xs := [.int (ns.sum - 1), .int (ns.sum - 2)]) (fun i σ H17 => ∃ v10 v11 v14 v15 v16, σ = [some (.ref a), some (.ref tp), some rv, some (.ref ka), some u, some (.ref sa), some hv, some (.ref c), some wv, some (.ref m), v10, v11, some gv, some v2, v14, v15, v16, none] ∧ Same H16 H17)
            ⟨_, _, none, none, none, rfl, Same.refl _⟩ (fun i σ H17 _ ⟨_, _, _, _, _, _, s⟩ => SqT.of (s _ _ htt2)) ?_ ?_⟩
          · rintro i y σ H17 hi ⟨v10, v11, v14, v15, v16, rfl, s17⟩
            obtain ⟨z, rfl, hz⟩ : ∃ z : Int, y = .int z ∧ z < ns.sum := by
              match i, hi with
              | 0, hi => exact ⟨_, (Option.some.inj hi).symm, by omega⟩
              | 1, hi => exact ⟨_, (Option.some.inj hi).symm, by omega⟩
            dsimp only [List.set]
            have s8f := s8e.trans s17
            refine te_gen (te := tIf _ _ _) (fun v H18 => ∃ l ys ms, v = .ref l ∧ Same H17 H18 ∧ H18 l = some (.lst ys) ∧ All2 (IntsR H18) ys ms ∧ ∀ q ∈ ms, OKn hrows q ∧ q.sum < ns.sum) ?_ ?_
            · intro Q' kq
              refine ⟨_, rfl, _, _, rfl, rfl, _, rfl, ?_⟩
              by_cases hz0 : z ≥ 0
              · refine ite_t (decide_eq_true hz0) ?_
                refine ⟨_, rfl, ka, _, rfl, .inr (s8f _ _ hka8), _, rfl, kxs.length, z, rfl, by omega, by omega, by omega, fun l H18 ys ms s18 hl hys hms _ => ?_⟩
                exact kq _ H18 ⟨l, ys, ms, rfl, s18, hl, hys, fun q hq => by
                  obtain ⟨h1, h2, h3⟩ := hms q hq
                  exact ⟨⟨by omega, h2⟩, by omega⟩⟩
              · refine ite_f (decide_eq_false hz0) ?_
                exact ⟨Nat.zero_le _, fun l nl => kq _ _ ⟨l, [], [], rfl, same_new nl, upd_same, .nil, fun q hq => by simp at hq⟩⟩
            · rintro _ H18 ⟨l, ys, ms, rfl, s18, hl, hys, hms⟩
              refine ⟨l, rfl, ⟨_, SqL.of hl⟩, for_list (K := K) (a := l) (xs := ys) (fun j σ H19 => ∃ v10 v11 v15 v16, σ = [some (.ref a), some (.ref tp), some rv, some (.ref ka), some u, some (.ref sa), some hv, some (.ref c), some wv, some (.ref m), v10, v11, some gv, some v2, some (.int z), v15, v16, none] ∧ Same H18 H19)
                ⟨v10, v11, v15, v16, rfl, Same.refl _⟩ (fun j σ H19 _ ⟨_, _, _, _, _, s⟩ => SqL.of (s _ _ hl)) ?_ ?_⟩
              · rintro j y σ H19 hj ⟨v10, v11, v15, v16, rfl, s19⟩
                obtain ⟨q, hq, qa, qxs, rfl, hqa, hqxs⟩ := hys.get hj
                have hx := all2_int hqxs
                subst hx
                obtain ⟨hqo, hqs⟩ := hms q (List.mem_of_getElem? hq)
                have hqn : ∀ n ∈ q, n ≤ 1000000 ∧ 0 ≤ n := fun n hn' => ⟨by have := mem_le_sum hqo.2 n hn'; omega, hqo.2 n hn'⟩
                have s8g := s8f.trans (s18.trans s19)
                have hqa9 := s19 _ _ hqa
                dsimp only [List.set]
                refine ⟨_, rfl, _, rfl, _, rfl, hv, rows0, .ref c, hrows, qa, q, rfl, HeapR.mo _ _ _ _ (Keep.of s8g) hh8, hsc.ok, TupR.mo HeapR.mo _ _ _ _ (Keep.of s8g) hkits8, hhok, hqa9, hqo.1, hqn, fun v3 H20 rows3 s20 hv3 hok3 hcnt3 => ?_⟩
                dsimp only [List.set]
                have hws20 := WantsR.mo _ _ _ _ (Keep.of (s8g.trans s20)) hws8
                refine ⟨_, rfl, _, rfl, v3, rows3, wv, wss.flatten, rfl, hv3, hok3, hws20, wok, fun tt3 H21 s21 hdeal3 => ?_⟩
                rcases hdeal3 with ⟨gv3, gs3, ht3, hg3, hgiv3, _⟩ | ⟨pv3, p3, ht3, hp3, hpok3, hbar3⟩
                · rw [hcnt3] at hgiv3
                  exact absurd ⟨gs3, hgiv3⟩ (hmin q hqo hqs)
                · refine ⟨tt3, _, rfl, SqT.of ht3, rfl, _, _, rfl, _, _, rfl, rfl, ?_⟩
                  dsimp only [List.set]
                  refine ⟨_, rfl, rfl, _, rfl, ite_f (by decide +kernel) ?_⟩
                  refine ⟨_, rfl, _, rfl, _, rfl, v3, rows3, wv, wss.flatten, pv3, p3, rfl, HeapR.mo _ _ _ _ (Keep.of s21) hv3, hok3, WantsR.mo _ _ _ _ (Keep.of s21) hws20, wok, hp3, hpok3, hbar3, fun H22 s22 => ?_⟩
                  refine ⟨true, true, rfl, rfl, _, rfl, ite_f rfl ?_⟩
                  exact ⟨_, _, _, _, rfl, s19.trans (s20.trans (s21.trans s22))⟩
              · rintro σ H19 ⟨v10, v11, v15, v16, rfl, s19⟩
                exact ⟨v10, v11, _, v15, v16, rfl, s17.trans (s18.trans s19)⟩
          · rintro σ H17 ⟨v10, v11, v14, v15, v16, rfl, s17⟩
            exact k H17
        · rw [hcnt1] at hbar
          exact absurd hbar (weak hg0 p'.1 p'.2)
      · -- NoKits
        dsimp only [List.set]
        refine ⟨_, rfl, rfl, _, rfl, ite_t rfl ?_⟩
        have hh8 := HeapR.mo _ _ _ _ (Keep.of s8) hh7
        have hkits8 := TupR.mo HeapR.mo _ _ _ _ (Keep.of s8) hkits7
        have hws8 := WantsR.mo _ _ _ _ (Keep.of s8) hws7
        have hka8 := s8 _ _ hka7
        refine ⟨_, rfl, _, rfl, _, rfl, ka, rfl, ⟨_, SqT.of hka8⟩, fun D nD => ?_⟩
        refine lc_typed (walk_tup (K := K) (a := ka) (xs := kxs)) nD IntR IntR.mo (fun i => (kxs[i]?).map fun _ => 8) (by omega) (fun H3 s3 => SqT.of (s3 _ _ hka8)) (fun i y H9 H10 hi s9 hY kt kf => ?_) (fun H9 acc8 s9 hD hacc => ?_)
        · obtain ⟨rfl, hy⟩ := hY
          dsimp only [List.map, wipe, List.set]
          refine ⟨rfl, yesT ?_⟩
          exact kt _ _ 8 (Same.refl _) (by show (kxs[i]?).map _ = _; rw [hy]; rfl) rfl
        · rw [filterMap_get] at hacc
          have := all2_int hacc
          subst this
          refine ⟨D, _, rfl, hD, fun m H10 s10 nm hm => ?_⟩
          have s8a := s9.trans s10
          refine ⟨hv, rows0, .ref c, hrows, m, kxs.map fun _ => 8, rfl, HeapR.mo _ _ _ _ (Keep.of s8a) hh8, hsc.ok, TupR.mo HeapR.mo _ _ _ _ (Keep.of s8a) hkits8, hhok, hm, by rw [List.length_map, hrl6], fun n hn => by obtain ⟨_, _, rfl⟩ := List.mem_map.mp hn; omega, fun v' H11 rows' s11 hv' hok' hcnt => ?_⟩
          refine ⟨_, rfl, v', rows', wv, wss.flatten, rfl, hv', hok', WantsR.mo _ _ _ _ (Keep.of (s8a.trans s11)) hws8, wok, fun tt H12 s12 hdeal => ?_⟩
          rcases hdeal with ⟨gv, gs, ht, hg, hgiv, _⟩ | ⟨pv', p', ht, hp, hpok', hbar⟩
          · rw [hcnt] at hgiv
            exact absurd (hb _) (weak hgiv p.1 p.2)
          · refine ⟨tt, _, rfl, SqT.of ht, rfl, _, _, rfl, _, _, rfl, rfl, ?_⟩
            dsimp only [List.set]
            refine ⟨_, rfl, rfl, ?_⟩
            show Q (.bl (decide (V.str "bar" = V.str "bar"))) H12
            rw [decide_eq_true rfl]
            exact k H12
end
end Pk
end
section
set_option Elab.async false
set_option linter.all false
set_option maxRecDepth 100000
set_option maxHeartbeats 8000000
/-! What the head tells, as the walks want it. Printed by mkEnd.py. -/
namespace Pk
open PySem PySem.Spec PyProof.Rows L2 FL
section
variable {K : PySem.W.Frag} {h : Heap} {mg : Str → Option Value}
theorem hd_def (X : K.In h) (G : h.Ns mainGlobals mg) {x : Str} {st : Stmt} {dvs : List V} (F : ∃ fd, FunD K x x (defArgs st) (defBody st) (defScope st) dvs [] (He.ga K x) fd) (g : (He.Fa.glo x).ok K = true) : DefAt K mg x st dvs :=
  let ⟨fd, F⟩ := F
  ⟨_, fd, F, He.glo_ok X G g⟩
theorem exB_ok (e : exB K = true) : OexC K (He.ga K "NoKits") → True := fun _ => trivial
theorem txtX_ok (X : K.In h) (G : h.Ns mainGlobals mg) (c : He.SaysD fa fn K) (e : exB K = true) : TxtX K mg ∧ TxtY K mg := by
  obtain ⟨e1, e⟩ := He.ba (show (_ && _) = true from e)
  obtain ⟨e2, e⟩ := He.ba (show (_ && _) = true from e)
  obtain ⟨e3, e⟩ := He.ba (show (_ && _) = true from e)
  obtain ⟨e4, e⟩ := He.ba (show (_ && _) = true from e)
  obtain ⟨e5, e⟩ := He.ba (show (_ && _) = true from e)
  obtain ⟨e6, e⟩ := He.ba (show (_ && _) = true from e)
  obtain ⟨e7, e⟩ := He.ba (show (_ && _) = true from e)
  obtain ⟨e8, e⟩ := He.ba (show (_ && _) = true from e)
  obtain ⟨e9, e10⟩ := He.ba (show (_ && _) = true from e)
  have k1 : ∃ nm q N bs bm sn sub ab col dd k0 k1 k2 k3 k5, K.lookup (He.ga K "NoKits") = some (excClassObj nm q (He.ga K "NoKits") N bs bm true sn sub ab col dd k0 k1 k2 k3 k5 "ValueError.__new__") ∧ PySem.HandSPX.refsVE bm = true := by
    cases q : K.lookup (He.ga K "NoKits") with
    | none => rw [q] at e1; cases e1
    | some ob =>
      rw [q] at e1
      obtain ⟨nm, q2, N, bs, bm, sn, sub, ab, col, dd, k0, k1, k2, k3, k5, h1, h2⟩ := excShape_ok e1
      exact ⟨nm, q2, N, bs, bm, sn, sub, ab, col, dd, k0, k1, k2, k3, k5, by rw [h1], h2⟩
  have k9 : PySem.W.findCls K (.ref (He.ga K "PaperError")) (.type "type") "__init__" = some (.val (.builtin "ValueError.__init__")) := by
    split at e9
    · rename_i n hn
      rw [hn, eq_of_beq e9]
    · cases e9
  refine ⟨⟨He.ga K "NoKits", He.ma K (He.ga K "NoKits") "__init__", He.ga K "PaperError", He.glo_ok X G (c.fact 56 (f := .glo "NoKits") rfl), ⟨k1, of_decide_eq_true e2, of_decide_eq_true e3, of_decide_eq_true e4, He.keep_ok (c.fact 69 (f := .keep "NoKits") rfl)⟩, of_decide_eq_true e5, of_decide_eq_true e6, c.def_ 61 (d := dx_init) rfl, He.noat_ok (c.fact 70 (f := .noat "NoKits" "paper") rfl), He.exm_ok (c.fact 68 (f := .exm "NoKits" "NoKits" true) rfl), He.glo_ok X G (c.fact 57 (f := .glo "PaperError") rfl), k9, of_decide_eq_true e10⟩, ⟨He.ga K "PaperError", He.glo_ok X G (c.fact 57 (f := .glo "PaperError") rfl), e7, of_decide_eq_true e8⟩⟩
theorem txt_ok (X : K.In h) (G : h.Ns mainGlobals mg) (c : He.SaysD fa fn K) (x : TxtX K mg) : Txt K mg (He.ga K "Heap") where
  cl := He.cls_ok (c.fact 58 (f := .cls "Heap") rfl)
  nP := He.noat_ok (c.fact 59 (f := .noat "Heap" "parts") rfl)
  mgC := He.glo_ok X G (c.fact 55 (f := .glo "Heap") rfl)
  mkH := ⟨_, He.mkr_ok (c.fact 60 (f := .mkr "Heap") rfl), c.def_ 55 (d := dh_init) rfl⟩
  m_rows := ⟨_, He.meth_ok (c.fact 61 (f := .meth "Heap" "rows") rfl), c.def_ 56 (d := dh_rows) rfl⟩
  m_many := ⟨_, He.meth_ok (c.fact 62 (f := .meth "Heap" "many") rfl), c.def_ 57 (d := dh_many) rfl⟩
  m_plus := ⟨_, He.meth_ok (c.fact 63 (f := .meth "Heap" "plus") rfl), c.def_ 58 (d := dh_plus) rfl⟩
  m_rows_lacking := ⟨_, He.meth_ok (c.fact 64 (f := .meth "Heap" "rows_lacking") rfl), c.def_ 59 (d := dh_rows_lacking) rfl⟩
  m_holds := ⟨_, He.meth_ok (c.fact 65 (f := .meth "Heap" "holds") rfl), c.def_ 60 (d := dh_holds) rfl⟩
  letters := He.str_ok X G (c.fact 66 (f := .str "LETTERS" "abcdefghijklmnopqrstuvwxyz") rfl)
  mostl := He.int_ok X G (c.fact 67 (f := .int "MOST_LETTERS" 8) rfl)
  x := x
  len := He.free_ok X G (c.fact 71 (f := .free "len") rfl)
  range := He.free_ok X G (c.fact 72 (f := .free "range") rfl)
  zip := He.free_ok X G (c.fact 73 (f := .free "zip") rfl)
  enumerate := He.free_ok X G (c.fact 74 (f := .free "enumerate") rfl)
  sum := He.free_ok X G (c.fact 75 (f := .free "sum") rfl)
  all := He.free_ok X G (c.fact 76 (f := .free "all") rfl)
  min := He.free_ok X G (c.fact 77 (f := .free "min") rfl)
  max := He.free_ok X G (c.fact 78 (f := .free "max") rfl)
  tuple := He.free_ok X G (c.fact 79 (f := .free "tuple") rfl)
  list := He.free_ok X G (c.fact 80 (f := .free "list") rfl)
  sorted := He.free_ok X G (c.fact 81 (f := .free "sorted") rfl)
  set := He.free_ok X G (c.fact 82 (f := .free "set") rfl)
  dict := He.free_ok X G (c.fact 83 (f := .free "dict") rfl)
  isinstance := He.free_ok X G (c.fact 84 (f := .free "isinstance") rfl)
  int := He.free_ok X G (c.fact 85 (f := .free "int") rfl)
  bool := He.free_ok X G (c.fact 86 (f := .free "bool") rfl)
  str_ := He.free_ok X G (c.fact 87 (f := .free "str") rfl)
  d_counted := hd_def X G (c.def_ 0 (d := dd_counted) rfl) (c.fact 0 (f := .glo "counted") rfl)
  d_lets := hd_def X G (c.def_ 1 (d := dd_lets) rfl) (c.fact 1 (f := .glo "lets") rfl)
  d_spread := hd_def X G (c.def_ 2 (d := dd_spread) rfl) (c.fact 2 (f := .glo "spread") rfl)
  d_way_of := hd_def X G (c.def_ 3 (d := dd_way_of) rfl) (c.fact 3 (f := .glo "way_of") rfl)
  d_lead := hd_def X G (c.def_ 4 (d := dd_lead) rfl) (c.fact 4 (f := .glo "lead") rfl)
  d_parts_left := hd_def X G (c.def_ 5 (d := dd_parts_left) rfl) (c.fact 5 (f := .glo "parts_left") rfl)
  d_led := hd_def X G (c.def_ 6 (d := dd_led) rfl) (c.fact 6 (f := .glo "led") rfl)
  d_as_gift := hd_def X G (c.def_ 7 (d := dd_as_gift) rfl) (c.fact 7 (f := .glo "as_gift") rfl)
  d_shades_of := hd_def X G (c.def_ 8 (d := dd_shades_of) rfl) (c.fact 8 (f := .glo "shades_of") rfl)
  d_deal := hd_def X G (c.def_ 9 (d := dd_deal) rfl) (c.fact 9 (f := .glo "deal") rfl)
  d_is_number := hd_def X G (c.def_ 10 (d := dd_is_number) rfl) (c.fact 10 (f := .glo "is_number") rfl)
  d_is_word := hd_def X G (c.def_ 11 (d := dd_is_word) rfl) (c.fact 11 (f := .glo "is_word") rfl)
  d_choices := hd_def X G (c.def_ 12 (d := dd_choices) rfl) (c.fact 12 (f := .glo "choices") rfl)
  d_wants_of := hd_def X G (c.def_ 13 (d := dd_wants_of) rfl) (c.fact 13 (f := .glo "wants_of") rfl)
  d_times := hd_def X G (c.def_ 14 (d := dd_times) rfl) (c.fact 14 (f := .glo "times") rfl)
  d_with_kits := hd_def X G (c.def_ 15 (d := dd_with_kits) rfl) (c.fact 15 (f := .glo "with_kits") rfl)
  d_wanted_at := hd_def X G (c.def_ 16 (d := dd_wanted_at) rfl) (c.fact 16 (f := .glo "wanted_at") rfl)
  d_has_at := hd_def X G (c.def_ 17 (d := dd_has_at) rfl) (c.fact 17 (f := .glo "has_at") rfl)
  d_never_at := hd_def X G (c.def_ 18 (d := dd_never_at) rfl) (c.fact 18 (f := .glo "never_at") rfl)
  d_sums_of := hd_def X G (c.def_ 19 (d := dd_sums_of) rfl) (c.fact 19 (f := .glo "sums_of") rfl)
  d_fills := hd_def X G (c.def_ 20 (d := dd_fills) rfl) (c.fact 20 (f := .glo "fills") rfl)
  d_fewest := hd_def X G (c.def_ 21 (d := dd_fewest) rfl) (c.fact 21 (f := .glo "fewest") rfl)
  d_need := hd_def X G (c.def_ 22 (d := dd_need) rfl) (c.fact 22 (f := .glo "need") rfl)
  d_wanted := hd_def X G (c.def_ 23 (d := dd_wanted) rfl) (c.fact 23 (f := .glo "wanted") rfl)
  d_there := hd_def X G (c.def_ 24 (d := dd_there) rfl) (c.fact 24 (f := .glo "there") rfl)
  d_is_rising := hd_def X G (c.def_ 25 (d := dd_is_rising) rfl) (c.fact 25 (f := .glo "is_rising") rfl)
  d_is_shaped := hd_def X G (c.def_ 26 (d := dd_is_shaped) rfl) (c.fact 26 (f := .glo "is_shaped") rfl)
  d_is_bar := hd_def X G (c.def_ 27 (d := dd_is_bar) rfl) (c.fact 27 (f := .glo "is_bar") rfl)
  d_lets_bar := hd_def X G (c.def_ 28 (d := dd_lets_bar) rfl) (c.fact 28 (f := .glo "lets_bar") rfl)
  d_is_gift := hd_def X G (c.def_ 29 (d := dd_is_gift) rfl) (c.fact 29 (f := .glo "is_gift") rfl)
  d_is_right := hd_def X G (c.def_ 30 (d := dd_is_right) rfl) (c.fact 30 (f := .glo "is_right") rfl)
  d_are_gifts := hd_def X G (c.def_ 31 (d := dd_are_gifts) rfl) (c.fact 31 (f := .glo "are_gifts") rfl)
  d_is_given := hd_def X G (c.def_ 32 (d := dd_is_given) rfl) (c.fact 32 (f := .glo "is_given") rfl)
  d_given_sum := hd_def X G (c.def_ 33 (d := dd_given_sum) rfl) (c.fact 33 (f := .glo "given_sum") rfl)
  d_serves := hd_def X G (c.def_ 34 (d := dd_serves) rfl) (c.fact 34 (f := .glo "serves") rfl)
  d_is_dealing := hd_def X G (c.def_ 35 (d := dd_is_dealing) rfl) (c.fact 35 (f := .glo "is_dealing") rfl)
  d_law_tap := hd_def X G (c.def_ 36 (d := dd_law_tap) rfl) (c.fact 36 (f := .glo "_law_tap") rfl)
  d_law_pick := hd_def X G (c.def_ 37 (d := dd_law_pick) rfl) (c.fact 37 (f := .glo "_law_pick") rfl)
  d_law_words := hd_def X G (c.def_ 38 (d := dd_law_words) rfl) (c.fact 38 (f := .glo "_law_words") rfl)
  d_law_rows := hd_def X G (c.def_ 39 (d := dd_law_rows) rfl) (c.fact 39 (f := .glo "_law_rows") rfl)
  d_law_some := hd_def X G (c.def_ 40 (d := dd_law_some) rfl) (c.fact 40 (f := .glo "_law_some") rfl)
  d_law_wants := hd_def X G (c.def_ 41 (d := dd_law_wants) rfl) (c.fact 41 (f := .glo "_law_wants") rfl)
  d_law_sheet := hd_def X G (c.def_ 42 (d := dd_law_sheet) rfl) (c.fact 42 (f := .glo "_law_sheet") rfl)
  d_law_has := hd_def X G (c.def_ 43 (d := dd_law_has) rfl) (c.fact 43 (f := .glo "_law_has") rfl)
  d_law_wanted := hd_def X G (c.def_ 44 (d := dd_law_wanted) rfl) (c.fact 44 (f := .glo "_law_wanted") rfl)
  d_law_joined := hd_def X G (c.def_ 45 (d := dd_law_joined) rfl) (c.fact 45 (f := .glo "_law_joined") rfl)
  d_law_places := hd_def X G (c.def_ 46 (d := dd_law_places) rfl) (c.fact 46 (f := .glo "_law_places") rfl)
  d_law_sums := hd_def X G (c.def_ 47 (d := dd_law_sums) rfl) (c.fact 47 (f := .glo "_law_sums") rfl)
  d_law_tables := hd_def X G (c.def_ 48 (d := dd_law_tables) rfl) (c.fact 48 (f := .glo "_law_tables") rfl)
  d_law_never := hd_def X G (c.def_ 49 (d := dd_law_never) rfl) (c.fact 49 (f := .glo "_law_never") rfl)
  d_law_fewest := hd_def X G (c.def_ 50 (d := dd_law_fewest) rfl) (c.fact 50 (f := .glo "_law_fewest") rfl)
  d_law_scene := hd_def X G (c.def_ 51 (d := dd_law_scene) rfl) (c.fact 51 (f := .glo "_law_scene") rfl)
  d_law_heap := hd_def X G (c.def_ 52 (d := dd_law_heap) rfl) (c.fact 52 (f := .glo "_law_heap") rfl)
  d_law_told := hd_def X G (c.def_ 53 (d := dd_law_told) rfl) (c.fact 53 (f := .glo "_law_told") rfl)
  d_law := hd_def X G (c.def_ 54 (d := dd_law) rfl) (c.fact 54 (f := .glo "law") rfl)
theorem facts {P : Program} {w : World} {f : Addr} (X : K.In h) (G : h.Ns mainGlobals mg) (hfa : mg ("law" : Str) = some (.ref f)) (c : He.SaysD fa fn K) (e : exB K = true) :
    ∃ fd : FuncData, (∀ (s : Shared) (v : Value), BindsTo s fd ⟨[v], []⟩ [("_law_script", v)]) ∧ ∀ base : Heap, K.In base → base.Ns mainGlobals mg → FnOk P w K mg base CX0 10 f fd ["_law_script"] (spLaw K) := by
  obtain ⟨x, y⟩ := txtX_ok X G c e
  have T := txt_ok X G c x
  obtain ⟨f', fd, F, g⟩ := T.d_law
  have e := hfa.symm.trans g
  cases e
  have b := FunD.bindsA (ps := ["_law_script"]) F fun _ _ _ _ _ _ us hl => match us, hl with | [_], _ => rfl
  refine ⟨fd, fun s v => b s [v] rfl, fun base _ _ => ?_⟩
  obtain ⟨CN, N⟩ := c_NoKits (P := P) (w := w) (base := base) x y
  exact F_law T N F
end
end Pk
open PySem PySem.W PySem.Calls PyProof.Rows
set_option maxHeartbeats 0 in
theorem PySem.Challenge.cw_partkits_k58_whole_fewest_by_all_holds : PySem.Challenge.rw_partkits_k58_whole_fewest_by_all.Holds := by
  w_on; o_law
  refine HandSHeadRun.head_any (r := OpenLaw.row PySem.Challenge.rw_partkits_k58_whole_fewest_by_all) (q := view (OpenLaw.row PySem.Challenge.rw_partkits_k58_whole_fewest_by_all).prog [71]) (H := Pk.hk) (ob := Pk.ob) (M := 20000) (loose := Pk.loose) (d := HandSHeadRun.topDef (OpenLaw.row PySem.Challenge.rw_partkits_k58_whole_fewest_by_all).prog 71) (kwd := []) Pk.ob_eq
    (by kernel_rfl) (fun s => by kernel_rfl) Pk.run (by kernel_rfl) (by kernel_rfl) (by kernel_rfl) (by rfl) (by first | assumption | decide +kernel) (by decide +kernel) ⟨rfl, rfl, rfl, rfl, rfl, by decide +kernel⟩ ?hw ?hc
  case hw => w_witness2
  case hc =>
    refine L2.walk_ofE (l := PySem.Challenge.rw_partkits_k58_whole_fewest_by_all) (n := 63) (k := 10) (x := "_law_script") (CX := L2.CX0) rfl (by decide) (by kernel_rfl) ⟨rfl, by decide, by decide⟩ ?F (fun _ _ _ _ z => z)
    intro w mg fa h Y G hmg0
    obtain ⟨K, KX, c, e⟩ := Y
    have hmg : mg ("law" : PySem.Str) = some (.ref fa) := by
      have e : (HandSHeadRun.topDef (OpenLaw.row PySem.Challenge.rw_partkits_k58_whole_fewest_by_all).prog 71).name = ("law" : PySem.Str) := by kernel_rfl
      rw [← e]
      exact hmg0
    obtain ⟨fd, hb, hF⟩ := Pk.facts (P := (PySem.Challenge.rw_partkits_k58_whole_fewest_by_all).prog) (w := w) KX G hmg c e
    exact ⟨K, fd, Pk.spLaw K, KX, hb, fun H a ns hl _ hS => ⟨a, ns, rfl, hS, fun _ => rfl⟩, hF⟩
end
