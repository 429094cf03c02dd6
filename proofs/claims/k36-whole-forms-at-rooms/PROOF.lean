import PyProof.Rows.All
import Wide.All
import OpenK.AllK
import Wide.FinOn
import HandS.ForMost
import HandS.Conv
import HandS.DictComp
import KE.KDictKeyed
import KE.KDictDisplayH
import KE.GoesDict
import KE.GoesComp
import HandS.Set
import HandS.Strs
import HandS.SetBool
import HandS.Walk
import KE.GoesEnum
import KE.GoesMore
import KE.KDictWalk
import HandS.Star
import HandS.ExcIs
import HandS.ExcField
import KE.KExcIs
import HandS.IsInst
import HandS.Wide
import HandS.TupAny
import HandS.TupLen
import HandS.Style
import HandS.SetKeys
import HandS.Defaults
import HandS.TupLe
import HandS.WordsExc
import HandS.ExcInit
import HandS.New
import HandS.Words
import PySem.Challenge.RW_howeverled_k36_whole_forms_at_rooms
set_option Elab.async false
set_option linter.all false
-- text Ma1
set_option maxRecDepth 10000
namespace K36

abbrev Ln := Int × Int × Int

/-- labels once the blocks of a and b are one -/
def mrg (f : Int → Int) (a b : Int) : Int → Int := fun x => if f x = f b then f a else f x

def KerOn (S : Int → Prop) (f g : Int → Int) : Prop := ∀ x y, S x → S y → (f x = f y ↔ g x = g y)
abbrev Ker (f g : Int → Int) : Prop := KerOn (fun _ => True) f g

theorem mrg_eq (f : Int → Int) (a b x y : Int) :
    mrg f a b x = mrg f a b y ↔ (f x = f y ∨ (f x = f a ∧ f y = f b) ∨ (f x = f b ∧ f y = f a)) := by
  unfold mrg
  grind

theorem KerOn.refl {S : Int → Prop} {f : Int → Int} : KerOn S f f := fun _ _ _ _ => Iff.rfl
theorem KerOn.symm {S : Int → Prop} {f g : Int → Int} (h : KerOn S f g) : KerOn S g f := fun x y hx hy => (h x y hx hy).symm
theorem KerOn.trans {S : Int → Prop} {f g k : Int → Int} (h : KerOn S f g) (h' : KerOn S g k) : KerOn S f k := fun x y hx hy => (h x y hx hy).trans (h' x y hx hy)
theorem KerOn.mono {S S' : Int → Prop} {f g : Int → Int} (h : KerOn S f g) (hs : ∀ x, S' x → S x) : KerOn S' f g := fun x y hx hy => h x y (hs x hx) (hs y hy)
theorem KerOn.mrg {S : Int → Prop} {f g : Int → Int} {a b : Int} (h : KerOn S f g) (ha : S a) (hb : S b) : KerOn S (mrg f a b) (mrg g a b) := fun x y hx hy => by
  rw [mrg_eq, mrg_eq, h x y hx hy, h x a hx ha, h y b hy hb, h x b hx hb, h y a hy ha]

/-- the sum over all forests of the lines, each with its weight, of G of the labels behind it -/
def T : List Ln → (Int → Int) → ((Int → Int) → Int) → Int
  | [], f, G => G f
  | l :: L, f, G => T L f G + if f l.1 = f l.2.1 then 0 else l.2.2 * T L (mrg f l.1 l.2.1) G
/-- the weight of all forests -/
def W (L : List Ln) (f : Int → Int) : Int := T L f fun _ => 1
theorem W_nil (f : Int → Int) : W [] f = 1 := rfl
theorem W_cons (l : Ln) (L : List Ln) (f : Int → Int) : W (l :: L) f = W L f + if f l.1 = f l.2.1 then 0 else l.2.2 * W L (mrg f l.1 l.2.1) := rfl

def KInv (G : (Int → Int) → Int) : Prop := ∀ f g, Ker f g → G f = G g
theorem KInv.one : KInv fun _ => 1 := fun _ _ _ => rfl

theorem T_ker {G : (Int → Int) → Int} (hG : KInv G) : ∀ (L : List Ln) {f g : Int → Int}, Ker f g → T L f G = T L g G
  | [], f, g, h => hG f g h
  | l :: L, f, g, h => by
    unfold T
    rw [T_ker hG L h, T_ker hG L (h.mrg (a := l.1) (b := l.2.1) trivial trivial)]
    have e := h l.1 l.2.1 trivial trivial
    by_cases c : f l.1 = f l.2.1
    · rw [if_pos c, if_pos (e.mp c)]
    · rw [if_neg c, if_neg (fun q => c (e.mpr q))]
theorem W_kerOn {S : Int → Prop} : ∀ (L : List Ln) {f g : Int → Int}, KerOn S f g → (∀ l ∈ L, S l.1 ∧ S l.2.1) → W L f = W L g
  | [], f, g, h, _ => rfl
  | l :: L, f, g, h, hS => by
    have h1 := hS l List.mem_cons_self
    have h2 : ∀ l ∈ L, S l.1 ∧ S l.2.1 := fun q hq => hS q (List.mem_cons_of_mem _ hq)
    rw [W_cons, W_cons, W_kerOn L h h2, W_kerOn L (h.mrg h1.1 h1.2) h2]
    have e := h l.1 l.2.1 h1.1 h1.2
    by_cases c : f l.1 = f l.2.1
    · rw [if_pos c, if_pos (e.mp c)]
    · rw [if_neg c, if_neg (fun q => c (e.mpr q))]
theorem W_ker (L : List Ln) {f g : Int → Int} (h : Ker f g) : W L f = W L g := W_kerOn L h fun _ _ => ⟨trivial, trivial⟩

theorem mrg_same {f : Int → Int} {a b : Int} (h : f a = f b) : Ker (mrg f a b) f := fun x y _ _ => by
  rw [mrg_eq]; omega
theorem mrg_comm (f : Int → Int) (a b : Int) : Ker (mrg f a b) (mrg f b a) := fun x y _ _ => by
  rw [mrg_eq, mrg_eq]; omega
/-- two joinings in either sequence -/
theorem mrg_mrg (f : Int → Int) (a b c d : Int) : Ker (mrg (mrg f a b) c d) (mrg (mrg f c d) a b) := fun x y _ _ => by
  simp only [mrg_eq]
  grind
theorem mrg_test {f : Int → Int} {a b c d : Int} (h1 : f a ≠ f b) (h2 : f c ≠ f d) : mrg f a b c = mrg f a b d ↔ mrg f c d a = mrg f c d b := by
  rw [mrg_eq, mrg_eq]; omega
theorem mrg_keeps {f : Int → Int} {a b x y : Int} (h : f x = f y) : mrg f a b x = mrg f a b y := (mrg_eq f a b x y).mpr (.inl h)

/-! ### pairs that must be joined as well -/
/-- 1 if the pairs can be joined one after the other, each time two blocks -/
def Pf : List (Int × Int) → (Int → Int) → Int
  | [], _ => 1
  | p :: ps, f => if f p.1 = f p.2 then 0 else Pf ps (mrg f p.1 p.2)
/-- the weight of the forests that stay forests with the pairs -/
def Ap : List (Int × Int) → List Ln → (Int → Int) → Int
  | [], L, f => W L f
  | p :: ps, L, f => if f p.1 = f p.2 then 0 else Ap ps L (mrg f p.1 p.2)
theorem Pf_inv : ∀ ps : List (Int × Int), KInv (Pf ps)
  | [], _, _, _ => rfl
  | p :: ps, f, g, h => by
    unfold Pf
    rw [Pf_inv ps _ _ (h.mrg (a := p.1) (b := p.2) trivial trivial)]
    have e := h p.1 p.2 trivial trivial
    by_cases c : f p.1 = f p.2
    · rw [if_pos c, if_pos (e.mp c)]
    · rw [if_neg c, if_neg (fun q => c (e.mpr q))]
theorem T_force {G : (Int → Int) → Int} (hG : KInv G) (a b : Int) : ∀ (L : List Ln) (f : Int → Int),
    T L f (fun g => if g a = g b then 0 else G (mrg g a b)) = if f a = f b then 0 else T L (mrg f a b) G
  | [], f => rfl
  | l :: L, f => by
    show T L f _ + (if f l.1 = f l.2.1 then 0 else l.2.2 * T L (mrg f l.1 l.2.1) _) = _
    rw [T_force hG a b L f, T_force hG a b L (mrg f l.1 l.2.1)]
    by_cases c : f a = f b
    · rw [if_pos c, if_pos c, if_pos (mrg_keeps c)]
      split <;> simp
    · rw [if_neg c, if_neg c]
      show _ = T L (mrg f a b) G + if mrg f a b l.1 = mrg f a b l.2.1 then 0 else l.2.2 * T L (mrg (mrg f a b) l.1 l.2.1) G
      by_cases c2 : f l.1 = f l.2.1
      · rw [if_pos c2, if_pos (mrg_keeps c2)]
      · rw [if_neg c2]
        have t := mrg_test c c2
        by_cases c3 : mrg f a b l.1 = mrg f a b l.2.1
        · rw [if_pos c3, if_pos (t.mp c3)]; simp
        · rw [if_neg c3, if_neg (fun q => c3 (t.mpr q)), T_ker hG L (mrg_mrg f a b l.1 l.2.1)]
theorem T_Pf : ∀ (ps : List (Int × Int)) (L : List Ln) (f : Int → Int), T L f (Pf ps) = Ap ps L f
  | [], L, f => rfl
  | p :: ps, L, f => by
    show T L f (fun g => if g p.1 = g p.2 then 0 else Pf ps (mrg g p.1 p.2)) = _
    rw [T_force (Pf_inv ps), T_Pf ps]
    rfl
theorem Ap_kerOn {S : Int → Prop} : ∀ (ps : List (Int × Int)) (L : List Ln) {f g : Int → Int}, KerOn S f g → (∀ l ∈ L, S l.1 ∧ S l.2.1) → (∀ p ∈ ps, S p.1 ∧ S p.2) → Ap ps L f = Ap ps L g
  | [], L, f, g, h, hS, _ => W_kerOn L h hS
  | p :: ps, L, f, g, h, hS, hp => by
    have h1 := hp p List.mem_cons_self
    unfold Ap
    rw [Ap_kerOn ps L (h.mrg h1.1 h1.2) hS fun q hq => hp q (List.mem_cons_of_mem _ hq)]
    have e := h p.1 p.2 h1.1 h1.2
    by_cases c : f p.1 = f p.2
    · rw [if_pos c, if_pos (e.mp c)]
    · rw [if_neg c, if_neg (fun q => c (e.mpr q))]

/-! ### a further line; lines between the same two houses -/
theorem W_swap (l m : Ln) (L : List Ln) (f : Int → Int) : W (l :: m :: L) f = W (m :: l :: L) f := by
  simp only [W_cons]
  by_cases c : f l.1 = f l.2.1
  · rw [if_pos c, if_pos c]
    by_cases c2 : f m.1 = f m.2.1
    · simp [c2]
    · simp [c2, mrg_keeps c]
  · by_cases c2 : f m.1 = f m.2.1
    · simp [c, c2, mrg_keeps c2]
    · have t := mrg_test c c2
      rw [if_neg c, if_neg c2, if_neg c, if_neg c2, W_ker L (mrg_mrg f l.1 l.2.1 m.1 m.2.1)]
      by_cases c3 : mrg f l.1 l.2.1 m.1 = mrg f l.1 l.2.1 m.2.1
      · rw [if_pos c3, if_pos (t.mp c3)]; simp; omega
      · rw [if_neg c3, if_neg (fun q => c3 (t.mpr q))]
        grind
theorem W_snoc (l : Ln) : ∀ (L : List Ln) (f : Int → Int), W (L ++ [l]) f = W (l :: L) f
  | [], f => rfl
  | m :: L, f => by
    rw [W_swap, List.cons_append, W_cons, W_cons, W_snoc l L, W_snoc l L]
/-- a further line of room r between a and b -/
theorem Ap_snoc (a b r : Int) : ∀ (ps : List (Int × Int)) (L : List Ln) (f : Int → Int), Ap ps (L ++ [(a, b, r)]) f = Ap ps L f + r * Ap ((a, b) :: ps) L f
  | [], L, f => by
    show W _ f = W L f + r * (if f a = f b then 0 else W L (mrg f a b))
    rw [W_snoc, W_cons]
    dsimp only
    split <;> simp
  | p :: ps, L, f => by
    show (if f p.1 = f p.2 then 0 else Ap ps (L ++ [(a, b, r)]) (mrg f p.1 p.2)) = (if f p.1 = f p.2 then 0 else Ap ps L (mrg f p.1 p.2)) + r * (if f a = f b then 0 else if mrg f a b p.1 = mrg f a b p.2 then 0 else Ap ps L (mrg (mrg f a b) p.1 p.2))
    rw [Ap_snoc a b r ps L]
    by_cases c : f p.1 = f p.2
    · simp [c, mrg_keeps c]
    · rw [if_neg c, if_neg c]
      show _ + r * (if mrg f p.1 p.2 a = mrg f p.1 p.2 b then 0 else Ap ps L (mrg (mrg f p.1 p.2) a b)) = _
      by_cases c2 : f a = f b
      · rw [if_pos (mrg_keeps c2), if_pos c2]
      · rw [if_neg c2]
        have t := mrg_test c c2
        rw [Ap_kerOn (S := fun _ => True) ps L (mrg_mrg f p.1 p.2 a b) (fun _ _ => ⟨trivial, trivial⟩) fun _ _ => ⟨trivial, trivial⟩]
        by_cases c3 : mrg f p.1 p.2 a = mrg f p.1 p.2 b
        · rw [if_pos c3, if_pos (t.mp c3)]
        · rw [if_neg c3, if_neg (fun q => c3 (t.mpr q))]

def btw (h n : Int) (l : Ln) : Bool := decide ((l.1 = h ∧ l.2.1 = n) ∨ (l.1 = n ∧ l.2.1 = h))
def strip (L : List Ln) (h n : Int) : List Ln := L.filter fun l => !btw h n l
def bond (L : List Ln) (h n : Int) : Int := ((L.filter (btw h n)).map fun l => l.2.2).sum
theorem strip_cons_pos {l : Ln} {L : List Ln} {h n : Int} (e : btw h n l = true) : strip (l :: L) h n = strip L h n := by simp [strip, e]
theorem strip_cons_neg {l : Ln} {L : List Ln} {h n : Int} (e : btw h n l = false) : strip (l :: L) h n = l :: strip L h n := by simp [strip, e]
theorem bond_cons_pos {l : Ln} {L : List Ln} {h n : Int} (e : btw h n l = true) : bond (l :: L) h n = l.2.2 + bond L h n := by simp [bond, e]
theorem bond_cons_neg {l : Ln} {L : List Ln} {h n : Int} (e : btw h n l = false) : bond (l :: L) h n = bond L h n := by simp [bond, e]
theorem W_par (h n : Int) : ∀ (L : List Ln) (f : Int → Int), W L f = W (strip L h n) f + if f h = f n then 0 else bond L h n * W (strip L h n) (mrg f h n)
  | [], f => by
    show (1 : Int) = 1 + if f h = f n then 0 else 0 * 1
    split <;> simp
  | l :: L, f => by
    rw [W_cons, W_par h n L f, W_par h n L (mrg f l.1 l.2.1)]
    cases e : btw h n l with
    | true =>
      rw [strip_cons_pos e, bond_cons_pos e]
      have e' := of_decide_eq_true e
      by_cases c : f h = f n
      · have c' : f l.1 = f l.2.1 := by rcases e' with ⟨a, b⟩ | ⟨a, b⟩ <;> rw [a, b] <;> omega
        simp [c, c']
      · have c' : ¬ f l.1 = f l.2.1 := by rcases e' with ⟨a, b⟩ | ⟨a, b⟩ <;> rw [a, b] <;> omega
        have k : Ker (mrg f l.1 l.2.1) (mrg f h n) := by
          rcases e' with ⟨a, b⟩ | ⟨a, b⟩
          · rw [a, b]; exact KerOn.refl
          · rw [a, b]; exact mrg_comm f n h
        have j : mrg f l.1 l.2.1 h = mrg f l.1 l.2.1 n := by
          rw [mrg_eq]; rcases e' with ⟨a, b⟩ | ⟨a, b⟩ <;> rw [a, b] <;> simp
        rw [if_neg c, if_neg c', if_pos j, W_ker _ k]
        grind
    | false =>
      rw [strip_cons_neg e, bond_cons_neg e, W_cons, W_cons]
      by_cases c : f l.1 = f l.2.1
      · by_cases c2 : f h = f n
        · simp [c, c2]
        · simp [c, c2, mrg_keeps c]
      · by_cases c2 : f h = f n
        · simp [c, c2, mrg_keeps c2]
        · have t := mrg_test c c2
          rw [if_neg c, if_neg c, if_neg c2, if_neg c2, W_ker _ (mrg_mrg f l.1 l.2.1 h n)]
          by_cases c3 : mrg f l.1 l.2.1 h = mrg f l.1 l.2.1 n
          · rw [if_pos c3, if_pos (t.mp c3)]; grind
          · rw [if_neg c3, if_neg (fun q => c3 (t.mpr q))]
            grind
/-- new numbers for the houses: lines that become loops fall away -/
theorem W_relabel (n : Int → Int) : ∀ (L L' : List Ln) (f : Int → Int), L' = (L.filter fun l => !decide (n l.1 = n l.2.1)).map (fun l => if n l.1 < n l.2.1 then (n l.1, n l.2.1, l.2.2) else (n l.2.1, n l.1, l.2.2)) →
    W L' f = W L (fun x => f (n x))
  | [], L', f, e => by subst e; rfl
  | l :: L, L', f, e => by
    subst e
    rw [W_cons]
    have ih := fun g => W_relabel n L _ g rfl
    by_cases c : n l.1 = n l.2.1
    · rw [List.filter_cons_of_neg (by simp [c]), ih, c]
      simp
    · rw [List.filter_cons_of_pos (by simp [c]), List.map_cons, W_cons, ih, ih]
      by_cases d : n l.1 < n l.2.1
      · rw [if_pos d]
        rfl
      · rw [if_neg d]
        have k : Ker (fun x => mrg f (n l.2.1) (n l.1) (n x)) (mrg (fun x => f (n x)) l.1 l.2.1) := fun x y _ _ => by
          show mrg f (n l.2.1) (n l.1) (n x) = mrg f (n l.2.1) (n l.1) (n y) ↔ _
          rw [mrg_eq, mrg_eq]; omega
        dsimp only
        rw [W_ker L k]
        by_cases c2 : f (n l.1) = f (n l.2.1)
        · rw [if_pos c2, if_pos c2.symm]
        · rw [if_neg c2, if_neg (fun q => c2 q.symm)]
end K36
-- text Ma2
set_option maxRecDepth 10000
namespace K36

/-- p are the purses of some split of the lines -/
def Sp : List Ln → (Int → Int) → Prop
  | [], p => ∀ x, p x = 0
  | l :: L, p => ∃ t, 0 ≤ t ∧ t ≤ l.2.2 ∧ Sp L (fun x => p x - (if x = l.1 then t else 0) - (if x = l.2.1 then l.2.2 - t else 0))

/-- the sum of p over the houses of A below n -/
def sm : Nat → (Int → Bool) → (Int → Int) → Int
  | 0, _, _ => 0
  | n + 1, A, p => sm n A p + if A n then p n else 0
/-- the rooms of the lines within A -/
def en : List Ln → (Int → Bool) → Int
  | [], _ => 0
  | l :: L, A => en L A + if (A l.1 && A l.2.1) = true then l.2.2 else 0
def Val (n : Nat) (L : List Ln) : Prop := ∀ l ∈ L, (0 ≤ l.1 ∧ l.1 < n) ∧ (0 ≤ l.2.1 ∧ l.2.1 < n) ∧ 0 ≤ l.2.2
def Sup (n : Nat) (p : Int → Int) : Prop := ∀ x, (x < 0 ∨ (n : Int) ≤ x) → p x = 0

theorem Val.tail {n : Nat} {l : Ln} {L : List Ln} (h : Val n (l :: L)) : Val n L := fun q hq => h q (List.mem_cons_of_mem _ hq)
theorem Val.head {n : Nat} {l : Ln} {L : List Ln} (h : Val n (l :: L)) : (0 ≤ l.1 ∧ l.1 < n) ∧ (0 ≤ l.2.1 ∧ l.2.1 < n) ∧ 0 ≤ l.2.2 := h l List.mem_cons_self

theorem sm_sub (A : Int → Bool) (p q : Int → Int) : ∀ n : Nat, sm n A (fun x => p x - q x) = sm n A p - sm n A q
  | 0 => rfl
  | n + 1 => by
    unfold sm
    rw [sm_sub A p q n]
    dsimp only
    split <;> omega
theorem sm_congr {A : Int → Bool} {p q : Int → Int} : ∀ n : Nat, (∀ x : Int, 0 ≤ x → x < n → p x = q x) → sm n A p = sm n A q
  | 0, _ => rfl
  | n + 1, h => by
    unfold sm
    rw [sm_congr n fun x h0 h1 => h x h0 (by omega), h n (by omega) (by omega)]
theorem sm_zero (A : Int → Bool) : ∀ n : Nat, sm n A (fun _ => 0) = 0
  | 0 => rfl
  | n + 1 => by
    unfold sm
    rw [sm_zero A n]
    split <;> rfl
theorem sm_pt (A : Int → Bool) (a t : Int) : ∀ n : Nat, 0 ≤ a → a < n → sm n A (fun x => if x = a then t else 0) = if A a then t else 0
  | 0, h0, h1 => by omega
  | n + 1, h0, h1 => by
    unfold sm
    dsimp only
    by_cases e : (n : Int) = a
    · have z : sm n A (fun x => if x = a then t else 0) = 0 := by
        rw [sm_congr (q := fun _ => 0) n fun x _ hx => if_neg (by omega), sm_zero]
      rw [z, if_pos e, e]
      simp
    · rw [sm_pt A a t n h0 (by omega), if_neg e]
      simp
theorem sm_or (A B : Int → Bool) (p : Int → Int) : ∀ n : Nat, sm n (fun x => A x || B x) p + sm n (fun x => A x && B x) p = sm n A p + sm n B p
  | 0 => rfl
  | n + 1 => by
    have ih := sm_or A B p n
    unfold sm
    cases e1 : A n <;> cases e2 : B n <;> simp [e1, e2] <;> omega
theorem sm_not (A : Int → Bool) (p : Int → Int) : ∀ n : Nat, sm n A p + sm n (fun x => !A x) p = sm n (fun _ => true) p
  | 0 => rfl
  | n + 1 => by
    have ih := sm_not A p n
    unfold sm
    cases e1 : A n <;> simp [e1] <;> omega
theorem sm_take (A : Int → Bool) (p : Int → Int) (a b t u : Int) (n : Nat) (ha : 0 ≤ a ∧ a < n) (hb : 0 ≤ b ∧ b < n) :
    sm n A (fun x => p x - (if x = a then t else 0) - (if x = b then u else 0)) = sm n A p - (if A a then t else 0) - (if A b then u else 0) := by
  rw [sm_sub A (fun x => p x - (if x = a then t else 0)) (fun x => if x = b then u else 0), sm_sub A p (fun x => if x = a then t else 0), sm_pt A a t n ha.1 ha.2, sm_pt A b u n hb.1 hb.2]
theorem en_super (A B : Int → Bool) : ∀ L : List Ln, (∀ l ∈ L, 0 ≤ l.2.2) → en L A + en L B ≤ en L (fun x => A x || B x) + en L (fun x => A x && B x)
  | [], _ => by simp [en]
  | l :: L, h => by
    have ih := en_super A B L fun q hq => h q (List.mem_cons_of_mem _ hq)
    have h0 := h l List.mem_cons_self
    unfold en
    cases e1 : A l.1 <;> cases e2 : A l.2.1 <;> cases e3 : B l.1 <;> cases e4 : B l.2.1 <;> simp [e1, e2, e3, e4] <;> omega

/-- the greatest t up to r for which P holds -/
theorem greatest (P : Int → Prop) (h0 : P 0) : ∀ r : Nat, ∃ t : Int, 0 ≤ t ∧ t ≤ r ∧ P t ∧ (t = r ∨ ¬ P (t + 1))
  | 0 => ⟨0, by omega, by omega, h0, .inl rfl⟩
  | r + 1 => by
    obtain ⟨t, t0, t1, hp, h⟩ := greatest P h0 r
    rcases h with h | h
    · by_cases q : P (t + 1)
      · exact ⟨t + 1, by omega, by omega, q, .inl (by omega)⟩
      · exact ⟨t, t0, by omega, hp, .inr q⟩
    · exact ⟨t, t0, by omega, hp, .inr h⟩

/-- what Hakimi's inequalities ask -/
structure Hk (n : Nat) (L : List Ln) (p : Int → Int) : Prop where
  sup : Sup n p
  tot : sm n (fun _ => true) p = en L (fun _ => true)
  all : ∀ A : Int → Bool, en L A ≤ sm n A p

theorem hk_nil {n : Nat} {p : Int → Int} (h : Hk n [] p) : ∀ x, p x = 0 := by
  intro x
  by_cases hx : 0 ≤ x ∧ x < n
  · have key : ∀ c : Int → Bool, (∀ y, c y = decide (y = x)) → sm n c p = p x := by
      intro c hc
      have e : ∀ m : Nat, sm m c p = if x < m then (if 0 ≤ x then p x else 0) else 0 := by
        intro m
        induction m with
        | zero => unfold sm; split <;> (try split) <;> omega
        | succ m ih =>
          unfold sm
          rw [ih, hc]
          by_cases e : (m : Int) = x
          · subst e; simp; omega
          · have : ((m : Int) = x) = False := eq_false e
            simp only [this, decide_false, Bool.false_eq_true, if_false]
            split <;> split <;> omega
      rw [e n, if_pos hx.2, if_pos hx.1]
    have h1 := h.all fun y => decide (y = x)
    have h2 := h.all fun y => !decide (y = x)
    have h3 := sm_not (fun y => decide (y = x)) p n
    have h4 := h.tot
    rw [key _ fun _ => rfl] at h1 h3
    unfold en at h1 h2 h4
    omega
  · exact h.sup x (by omega)
theorem sp_hk (n : Nat) : ∀ (L : List Ln) (p : Int → Int), Val n L → Sp L p → Hk n L p
  | [], p, _, h => by
    have e : p = fun _ => 0 := funext h
    subst e
    exact ⟨fun _ _ => rfl, sm_zero _ n, fun A => by rw [sm_zero]; exact Int.le_refl _⟩
  | l :: L, p, v, h => by
    obtain ⟨t, t0, t1, q⟩ := h
    have hk := sp_hk n L _ v.tail q
    obtain ⟨ha, hb, hr⟩ := v.head
    refine ⟨fun x hx => ?_, ?_, fun A => ?_⟩
    · have z := hk.sup x hx
      rw [if_neg (by omega), if_neg (by omega)] at z
      omega
    · have z := hk.tot
      rw [sm_take _ p l.1 l.2.1 t (l.2.2 - t) n ha hb] at z
      unfold en
      simp only [if_true, Bool.and_self] at z ⊢
      omega
    · have z := hk.all A
      rw [sm_take A p l.1 l.2.1 t (l.2.2 - t) n ha hb] at z
      unfold en
      cases e1 : A l.1 <;> cases e2 : A l.2.1 <;> simp only [e1, e2, Bool.and_self, Bool.and_false, Bool.and_true, Bool.false_eq_true, if_true, if_false] at z ⊢ <;> omega
theorem hk_sp (n : Nat) : ∀ (L : List Ln) (p : Int → Int), Val n L → Hk n L p → Sp L p
  | [], p, _, h => hk_nil h
  | l :: L, p, v, h => by
    obtain ⟨ha, hb, hr⟩ := v.head
    by_cases eab : l.1 = l.2.1
    · refine ⟨0, Int.le_refl _, hr, hk_sp n L _ v.tail ⟨fun x hx => ?_, ?_, fun A => ?_⟩⟩
      · rw [if_neg (by omega), if_neg (by omega), h.sup x hx]; omega
      · rw [sm_take _ p l.1 l.2.1 0 (l.2.2 - 0) n ha hb]
        have z := h.tot
        unfold en at z
        simp only [if_true, Bool.and_self] at z ⊢
        omega
      · rw [sm_take A p l.1 l.2.1 0 (l.2.2 - 0) n ha hb]
        have z := h.all A
        unfold en at z
        rw [eab] at z ⊢
        cases e2 : A l.2.1 <;> simp only [e2, Bool.and_self, Bool.false_eq_true, if_true, if_false] at z ⊢ <;> omega
    · -- the greatest part for the first house that no lot forbids
      obtain ⟨t, t0, t1, hp, hm⟩ := greatest (fun t => ∀ A : Int → Bool, A l.1 = true → A l.2.1 = false → t ≤ sm n A p - en L A) (fun A h1 h2 => by
        have z := h.all A
        unfold en at z
        simp only [h1, h2, Bool.and_false, Bool.false_eq_true, if_false] at z
        omega) l.2.2.toNat
      have et : ((l.2.2.toNat : Nat) : Int) = l.2.2 := Int.toNat_of_nonneg hr
      rw [et] at t1 hm
      refine ⟨t, t0, t1, hk_sp n L _ v.tail ⟨fun x hx => ?_, ?_, fun A => ?_⟩⟩
      · rw [if_neg (by omega), if_neg (by omega), h.sup x hx]; omega
      · rw [sm_take _ p l.1 l.2.1 t (l.2.2 - t) n ha hb]
        have z := h.tot
        unfold en at z
        simp only [if_true, Bool.and_self] at z ⊢
        omega
      · rw [sm_take A p l.1 l.2.1 t (l.2.2 - t) n ha hb]
        have z := h.all A
        unfold en at z
        cases e1 : A l.1 <;> cases e2 : A l.2.1 <;> simp only [e1, e2, Bool.and_self, Bool.and_false, Bool.and_true, Bool.false_eq_true, if_true, if_false] at z ⊢
        · omega
        · -- a lot with the second house alone
          rcases hm with hm | hm
          · omega
          · have hm' : ∃ B : Int → Bool, B l.1 = true ∧ B l.2.1 = false ∧ sm n B p - en L B < t + 1 := by
              by_cases q : ∃ B : Int → Bool, B l.1 = true ∧ B l.2.1 = false ∧ sm n B p - en L B < t + 1
              · exact q
              · exact absurd (fun B h1 h2 => by
                  by_cases q2 : t + 1 ≤ sm n B p - en L B
                  · exact q2
                  · exact absurd ⟨B, h1, h2, by omega⟩ q) hm
            obtain ⟨B, b1, b2, hB⟩ := hm'
            have s1 := sm_or A B p n
            have s2 := en_super A B L fun q hq => (v.tail q hq).2.2
            have z1 := h.all fun x => A x || B x
            have z2 := h.all fun x => A x && B x
            unfold en at z1 z2
            simp only [e1, e2, b1, b2, Bool.and_self, Bool.or_true, Bool.true_or, Bool.or_false, Bool.false_or, Bool.and_false, Bool.and_true, Bool.false_and, Bool.true_and, Bool.false_eq_true, if_true, if_false] at z1 z2
            omega
        · have := hp A e1 e2
          omega
        · omega
theorem sp_iff {n : Nat} {L : List Ln} {p : Int → Int} (v : Val n L) : Sp L p ↔ Hk n L p := ⟨sp_hk n L p v, hk_sp n L p v⟩

/-- coins from v's purse into u's -/
def mv (u v k : Int) (p : Int → Int) : Int → Int := fun x => p x - (if x = v then k else 0) - (if x = u then -k else 0)
theorem sp_convex {n : Nat} {L : List Ln} {p : Int → Int} {u v k : Int} (w : Val n L) (hu : 0 ≤ u ∧ u < n) (hv : 0 ≤ v ∧ v < n) (hk : 1 ≤ k) (h : Sp L p) (h' : Sp L (mv u v k p)) : Sp L (mv u v 1 p) := by
  have a := (sp_iff w).mp h
  have b := (sp_iff w).mp h'
  refine (sp_iff w).mpr ⟨fun x hx => ?_, ?_, fun A => ?_⟩
  · show p x - (if x = v then 1 else 0) - (if x = u then -1 else 0) = 0
    rw [if_neg (by omega), if_neg (by omega), a.sup x hx]; omega
  · show sm n _ (fun x => p x - (if x = v then 1 else 0) - (if x = u then -1 else 0)) = _
    rw [sm_take _ p v u 1 (-1) n hv hu, a.tot]
    simp only [if_true]
    omega
  · show _ ≤ sm n _ (fun x => p x - (if x = v then 1 else 0) - (if x = u then -1 else 0))
    rw [sm_take _ p v u 1 (-1) n hv hu]
    have z := b.all A
    have z0 := a.all A
    have e : sm n A (mv u v k p) = _ := sm_take A p v u k (-k) n hv hu
    rw [e] at z
    cases e1 : A u <;> cases e2 : A v <;> simp only [e1, e2, Bool.false_eq_true, if_true, if_false] at z ⊢ <;> omega
theorem sp_nonneg {n : Nat} {L : List Ln} {p : Int → Int} (w : Val n L) (h : Sp L p) (x : Int) : 0 ≤ p x := by
  induction L generalizing p with
  | nil => rw [h x]; exact Int.le_refl _
  | cons l L ih =>
    obtain ⟨t, t0, t1, q⟩ := h
    have z := ih w.tail q
    have := w.head.2.2
    revert z
    split <;> split <;> omega
end K36
-- text Ma3
set_option maxRecDepth 10000
namespace K36
open Classical

/-! ### lists as finite sets -/
theorem len_le {α : Type} : ∀ (l m : List α), l.Nodup → (∀ x ∈ l, x ∈ m) → l.length ≤ m.length
  | [], _, _, _ => Nat.zero_le _
  | a :: l, m, nd, h => by
    obtain ⟨n1, n2⟩ := List.nodup_cons.mp nd
    have ha := h a List.mem_cons_self
    have q := len_le l (m.erase a) n2 fun x hx => by
      have hxa : x ≠ a := fun e => n1 (e ▸ hx)
      exact (List.mem_erase_of_ne hxa).mpr (h x (List.mem_cons_of_mem _ hx))
    rw [List.length_erase_of_mem ha] at q
    have := List.length_pos_of_mem ha
    rw [List.length_cons]; omega
theorem len_eq {α : Type} {l m : List α} (hl : l.Nodup) (hm : m.Nodup) (h : ∀ x, x ∈ l ↔ x ∈ m) : l.length = m.length :=
  Nat.le_antisymm (len_le l m hl fun x => (h x).mp) (len_le m l hm fun x => (h x).mpr)
theorem nodup_map {α β : Type} {f : α → β} : ∀ {l : List α}, l.Nodup → (∀ x ∈ l, ∀ y ∈ l, f x = f y → x = y) → (l.map f).Nodup
  | [], _, _ => List.nodup_nil
  | a :: l, nd, inj => by
    obtain ⟨n1, n2⟩ := List.nodup_cons.mp nd
    refine List.nodup_cons.mpr ⟨fun hm => ?_, nodup_map n2 fun x hx y hy => inj x (List.mem_cons_of_mem _ hx) y (List.mem_cons_of_mem _ hy)⟩
    obtain ⟨y, hy, e⟩ := List.mem_map.mp hm
    exact n1 (inj y (List.mem_cons_of_mem _ hy) a List.mem_cons_self e ▸ hy)
theorem nodup_app {α : Type} {l m : List α} (hl : l.Nodup) (hm : m.Nodup) (d : ∀ x ∈ l, x ∉ m) : (l ++ m).Nodup := by
  rw [List.nodup_append]
  exact ⟨hl, hm, fun a ha b hb e => d a ha (e ▸ hb)⟩

/-- E lists the standings of L, each once -/
def Enum (S : (Int → Int) → Prop) (E : List (Int → Int)) : Prop := E.Nodup ∧ ∀ p, p ∈ E ↔ S p

/-! ### the standings behind two houses made one -/
def rho (u v : Int) : Int → Int := fun x => if x = v then u else x
def proj (u v : Int) (p : Int → Int) : Int → Int := fun x => if x = u then p u + p v else if x = v then 0 else p x
def rel (u v : Int) (L : List Ln) : List Ln := L.map fun l => (rho u v l.1, rho u v l.2.1, l.2.2)

theorem proj_take {u v a b t s : Int} {p : Int → Int} (huv : u ≠ v) :
    proj u v (fun x => p x - (if x = a then t else 0) - (if x = b then s else 0)) = fun x => proj u v p x - (if x = rho u v a then t else 0) - (if x = rho u v b then s else 0) := by
  funext x
  unfold proj rho
  grind
theorem sp_proj {u v : Int} (huv : u ≠ v) : ∀ {L : List Ln} {p : Int → Int}, Sp L p → Sp (rel u v L) (proj u v p)
  | [], p, h => fun x => by unfold proj; rw [h u, h v, h x]; split <;> (try split) <;> rfl
  | l :: L, p, ⟨t, t0, t1, q⟩ => by
    refine ⟨t, t0, t1, ?_⟩
    have z := sp_proj huv q
    rw [proj_take huv] at z
    exact z
theorem sp_lift {u v : Int} (huv : u ≠ v) : ∀ {L : List Ln} {q : Int → Int}, Sp (rel u v L) q → ∃ p, Sp L p ∧ proj u v p = q
  | [], q, h => ⟨fun _ => 0, fun _ => rfl, funext fun x => by unfold proj; rw [h x]; split <;> (try split) <;> rfl⟩
  | l :: L, q, ⟨t, t0, t1, h⟩ => by
    obtain ⟨p, hp, e⟩ := sp_lift huv h
    refine ⟨fun x => p x - (if x = l.1 then -t else 0) - (if x = l.2.1 then -(l.2.2 - t) else 0), ⟨t, t0, t1, ?_⟩, ?_⟩
    · have z : (fun x => (p x - (if x = l.1 then -t else 0) - (if x = l.2.1 then -(l.2.2 - t) else 0)) - (if x = l.1 then t else 0) - (if x = l.2.1 then l.2.2 - t else 0)) = p := by
        funext x
        split <;> split <;> omega
      show Sp L (fun x => (p x - (if x = l.1 then -t else 0) - (if x = l.2.1 then -(l.2.2 - t) else 0)) - (if x = l.1 then t else 0) - (if x = l.2.1 then l.2.2 - t else 0))
      rw [z]; exact hp
    · rw [proj_take huv, e]
      funext x
      show q x - (if x = rho u v l.1 then t else 0) - (if x = rho u v l.2.1 then l.2.2 - t else 0) - (if x = rho u v l.1 then -t else 0) - (if x = rho u v l.2.1 then -(l.2.2 - t) else 0) = q x
      split <;> split <;> omega
theorem mv_mv {u v j k : Int} (p : Int → Int) : mv u v j (mv u v k p) = mv u v (k + j) p := by
  funext x
  unfold mv
  split <;> split <;> omega
theorem mv_zero {u v : Int} (p : Int → Int) : mv u v 0 p = p := by
  funext x
  unfold mv
  split <;> split <;> omega
theorem proj_mv {u v k : Int} (huv : u ≠ v) (p : Int → Int) : proj u v (mv u v k p) = proj u v p := by
  funext x
  unfold proj mv
  grind
theorem mv_of_proj {u v : Int} (huv : u ≠ v) {p q : Int → Int} (h : proj u v p = proj u v q) : q = mv u v (q u - p u) p := by
  funext x
  have h1 := congrFun h x
  have h2 := congrFun h u
  unfold proj at h1 h2
  unfold mv
  grind

/-- the last one on the way of coins from v to u -/
theorem top_of {n : Nat} {L : List Ln} {u v : Int} (w : Val n L) (huv : u ≠ v) : ∀ (m : Nat) (p : Int → Int), Sp L p → p v ≤ m → ∃ k, 0 ≤ k ∧ Sp L (mv u v k p) ∧ ¬ Sp L (mv u v 1 (mv u v k p))
  | m, p, h, hm => by
    by_cases q : Sp L (mv u v 1 p)
    · have e : mv u v 1 p v = p v - 1 := by unfold mv; rw [if_pos rfl, if_neg (fun e => huv e.symm)]; omega
      have e0 := sp_nonneg w q v
      match m with
      | 0 => omega
      | m + 1 =>
        obtain ⟨k, k0, h1, h2⟩ := top_of w huv m _ q (by omega)
        rw [mv_mv] at h1 h2
        rw [mv_mv] at h2
        exact ⟨1 + k, by omega, h1, by rw [mv_mv, ← Int.add_assoc] at *; exact h2⟩
    · exact ⟨0, Int.le_refl _, by rw [mv_zero]; exact h, by rw [mv_zero]; exact q⟩
/-- as many standings as can't pay a coin from v to u as there are standings with both made one -/
theorem tops_len {n : Nat} {L : List Ln} {u v : Int} {E F : List (Int → Int)} (w : Val n L) (hu : 0 ≤ u ∧ u < n) (hv : 0 ≤ v ∧ v < n) (huv : u ≠ v) (hE : Enum (Sp L) E) (hF : Enum (Sp (rel u v L)) F) :
    (E.filter fun p => decide (¬ Sp L (mv u v 1 p))).length = F.length := by
  have inj : ∀ p ∈ E.filter (fun p => decide (¬ Sp L (mv u v 1 p))), ∀ q ∈ E.filter (fun p => decide (¬ Sp L (mv u v 1 p))), proj u v p = proj u v q → p = q := by
    intro p hp q hq e
    obtain ⟨p1, p2⟩ := List.mem_filter.mp hp
    obtain ⟨q1, q2⟩ := List.mem_filter.mp hq
    have p2 := of_decide_eq_true p2
    have q2 := of_decide_eq_true q2
    have sp := (hE.2 p).mp p1
    have sq := (hE.2 q).mp q1
    have a := mv_of_proj huv e
    have b := mv_of_proj huv e.symm
    by_cases c : q u - p u = 0
    · rw [c, mv_zero] at a; exact a.symm
    · by_cases c1 : 1 ≤ q u - p u
      · exact absurd (sp_convex w hu hv c1 sp (a ▸ sq)) p2
      · exact absurd (sp_convex w hu hv (k := p u - q u) (by omega) sq (b ▸ sp)) q2
  have e : ((E.filter fun p => decide (¬ Sp L (mv u v 1 p))).map (proj u v)).length = F.length := by
    refine len_eq (nodup_map (hE.1.sublist List.filter_sublist) inj) hF.1 fun q => ?_
    rw [List.mem_map, hF.2]
    constructor
    · rintro ⟨p, hp, rfl⟩
      exact sp_proj huv ((hE.2 p).mp (List.mem_filter.mp hp).1)
    · intro hq
      obtain ⟨p, hp, rfl⟩ := sp_lift huv hq
      obtain ⟨k, _, h1, h2⟩ := top_of w huv (p v).toNat p hp (by have := sp_nonneg w hp v; omega)
      exact ⟨_, List.mem_filter.mpr ⟨(hE.2 _).mpr h1, decide_eq_true h2⟩, proj_mv huv p⟩
  rw [List.length_map] at e
  exact e

/-! ### how many -/
theorem W_map (g : Int → Int) : ∀ (L : List Ln) (f : Int → Int), W (L.map fun l => (g l.1, g l.2.1, l.2.2)) f = W L (fun x => f (g x))
  | [], _ => rfl
  | l :: L, f => by
    rw [List.map_cons, W_cons, W_cons, W_map g L, W_map g L]
    dsimp only
    rw [W_ker L (f := fun x => mrg f (g l.1) (g l.2.1) (g x)) (g := mrg (fun x => f (g x)) l.1 l.2.1) (fun x y _ _ => by
      show mrg f (g l.1) (g l.2.1) (g x) = mrg f (g l.1) (g l.2.1) (g y) ↔ _
      rw [mrg_eq, mrg_eq])]
theorem W_rel {u v : Int} (L : List Ln) : W (rel u v L) id = W L (mrg id u v) := W_map (rho u v) L id
theorem val_rel {n : Nat} {L : List Ln} {u v : Int} (w : Val n L) (hu : 0 ≤ u ∧ u < n) : Val n (rel u v L) := by
  intro l hl
  obtain ⟨m, hm, rfl⟩ := List.mem_map.mp hl
  obtain ⟨a, b, c⟩ := w m hm
  refine ⟨?_, ?_, c⟩
  · show 0 ≤ rho u v m.1 ∧ rho u v m.1 < n
    unfold rho; split <;> assumption
  · show 0 ≤ rho u v m.2.1 ∧ rho u v m.2.1 < n
    unfold rho; split <;> assumption
/-- e of the house a more -/
def ad (a c : Int) (p : Int → Int) : Int → Int := fun x => p x - if x = a then -c else 0
theorem ad_inj {a c : Int} {p q : Int → Int} (h : ad a c p = ad a c q) : p = q := by
  funext x
  have := congrFun h x
  unfold ad at this
  omega
theorem enum_ad {S S' : (Int → Int) → Prop} {E : List (Int → Int)} {a c : Int} (h : Enum S E) (hs : ∀ p, S' p ↔ S (ad a (-c) p)) : Enum S' (E.map (ad a c)) := by
  refine ⟨nodup_map h.1 fun _ _ _ _ e => ad_inj e, fun p => ?_⟩
  rw [List.mem_map, hs]
  constructor
  · rintro ⟨q, hq, rfl⟩
    have e : ad a (-c) (ad a c q) = q := by funext x; unfold ad; split <;> omega
    rw [e]; exact (h.2 q).mp hq
  · intro hp
    refine ⟨_, (h.2 _).mpr hp, ?_⟩
    funext x; unfold ad; split <;> omega
theorem sp_loop {a j : Int} {L : List Ln} {p : Int → Int} (hj : 0 ≤ j) : Sp ((a, a, j) :: L) p ↔ Sp L (ad a (-j) p) := by
  constructor
  · rintro ⟨t, _, _, h⟩
    have e : (fun x => p x - (if x = a then t else 0) - (if x = a then j - t else 0)) = ad a (-j) p := by funext x; unfold ad; split <;> omega
    have h' : Sp L (fun x => p x - (if x = a then t else 0) - (if x = a then j - t else 0)) := h
    rw [e] at h'; exact h'
  · intro h
    refine ⟨0, Int.le_refl _, hj, ?_⟩
    have e : (fun x => p x - (if x = a then 0 else 0) - (if x = a then j - 0 else 0)) = ad a (-j) p := by funext x; unfold ad; split <;> omega
    show Sp L (fun x => p x - (if x = a then 0 else 0) - (if x = a then j - 0 else 0))
    rw [e]; exact h
theorem sp_none {a b : Int} {L : List Ln} {p : Int → Int} : Sp ((a, b, 0) :: L) p ↔ Sp L p := by
  have e : (fun x => p x - (if x = a then 0 else 0) - (if x = b then 0 - 0 else 0)) = p := by funext x; split <;> split <;> omega
  constructor
  · rintro ⟨t, t0, t1, h⟩
    have : t = 0 := by dsimp only at t1; omega
    subst this
    have h' : Sp L (fun x => p x - (if x = a then 0 else 0) - (if x = b then 0 - 0 else 0)) := h
    rw [e] at h'; exact h'
  · intro h
    refine ⟨0, Int.le_refl _, Int.le_refl _, ?_⟩
    show Sp L (fun x => p x - (if x = a then 0 else 0) - (if x = b then 0 - 0 else 0))
    rw [e]; exact h
theorem sp_more {a b j : Int} {L : List Ln} {p : Int → Int} (hj : 0 ≤ j) : Sp ((a, b, j + 1) :: L) p ↔ Sp ((a, b, j) :: L) (ad b (-1) p) ∨ Sp ((a, b, j) :: L) (ad a (-1) p) := by
  constructor
  · rintro ⟨t, t0, t1, h⟩
    have h' : Sp L (fun x => p x - (if x = a then t else 0) - (if x = b then j + 1 - t else 0)) := h
    have t1' : t ≤ j + 1 := t1
    by_cases c : t ≤ j
    · refine .inl ⟨t, t0, c, ?_⟩
      have e : (fun x => p x - (if x = a then t else 0) - (if x = b then j + 1 - t else 0)) = fun x => ad b (-1) p x - (if x = a then t else 0) - (if x = b then j - t else 0) := by
        funext x; unfold ad; split <;> split <;> omega
      rw [e] at h'; exact h'
    · refine .inr ⟨t - 1, by omega, by show t - 1 ≤ j; omega, ?_⟩
      have e : (fun x => p x - (if x = a then t else 0) - (if x = b then j + 1 - t else 0)) = fun x => ad a (-1) p x - (if x = a then t - 1 else 0) - (if x = b then j - (t - 1) else 0) := by
        funext x; unfold ad; split <;> split <;> omega
      rw [e] at h'; exact h'
  · rintro (⟨t, t0, t1, h⟩ | ⟨t, t0, t1, h⟩)
    · have t1' : t ≤ j := t1
      refine ⟨t, t0, by show t ≤ j + 1; omega, ?_⟩
      have e : (fun x => ad b (-1) p x - (if x = a then t else 0) - (if x = b then j - t else 0)) = fun x => p x - (if x = a then t else 0) - (if x = b then j + 1 - t else 0) := by
        funext x; unfold ad; split <;> split <;> omega
      have h' : Sp L (fun x => ad b (-1) p x - (if x = a then t else 0) - (if x = b then j - t else 0)) := h
      rw [e] at h'; exact h'
    · have t1' : t ≤ j := t1
      refine ⟨t + 1, by omega, by show t + 1 ≤ j + 1; omega, ?_⟩
      have e : (fun x => ad a (-1) p x - (if x = a then t else 0) - (if x = b then j - t else 0)) = fun x => p x - (if x = a then t + 1 else 0) - (if x = b then j + 1 - (t + 1) else 0) := by
        funext x; unfold ad; split <;> split <;> omega
      have h' : Sp L (fun x => ad a (-1) p x - (if x = a then t else 0) - (if x = b then j - t else 0)) := h
      rw [e] at h'; exact h'

theorem count (n : Nat) : ∀ (k : Nat) (L : List Ln), L.length = k → Val n L → ∃ E, Enum (Sp L) E ∧ (E.length : Int) = W L id
  | _, [], _, _ => ⟨[fun _ => 0], ⟨by simp, fun p => by
      rw [List.mem_singleton]
      exact ⟨fun e x => by rw [e], fun h => funext h⟩⟩, rfl⟩
  | k + 1, l :: L, hk, v => by
    obtain ⟨a, b, r⟩ := l
    obtain ⟨ha, hb, hr⟩ := v.head
    dsimp only at ha hb hr
    have hk' : L.length = k := by rw [List.length_cons] at hk; omega
    obtain ⟨E0, e0, c0⟩ := count n k L hk' v.tail
    have step : ∀ j : Nat, ∃ E, Enum (Sp ((a, b, (j : Int)) :: L)) E ∧ (E.length : Int) = W L id + if a = b then 0 else j * W L (mrg id a b) := by
      intro j
      induction j with
      | zero => exact ⟨E0, ⟨e0.1, fun p => (e0.2 p).trans sp_none.symm⟩, by rw [c0]; split <;> simp⟩
      | succ j ih =>
        obtain ⟨E, e, c⟩ := ih
        have more : ∀ p, Sp ((a, b, ((j + 1 : Nat) : Int)) :: L) p ↔ Sp ((a, b, (j : Int)) :: L) (ad b (-1) p) ∨ Sp ((a, b, (j : Int)) :: L) (ad a (-1) p) := fun p => by
          have := sp_more (a := a) (b := b) (L := L) (p := p) (j := j) (by omega)
          rw [show ((j + 1 : Nat) : Int) = (j : Int) + 1 by omega]
          exact this
        by_cases hab : a = b
        · subst hab
          refine ⟨E.map (ad a 1), enum_ad e fun p => (more p).trans (by simp), ?_⟩
          rw [List.length_map, c]; simp
        · have vj : Val n ((a, b, (j : Int)) :: L) := fun q hq => by
            rcases List.mem_cons.mp hq with rfl | hq
            · exact ⟨ha, hb, by dsimp only; omega⟩
            · exact v.tail q hq
          obtain ⟨F0, f0, d0⟩ := count n k (rel a b L) (by unfold rel; rw [List.length_map]; exact hk') (val_rel v.tail ha)
          have f1 : Enum (Sp (rel a b ((a, b, (j : Int)) :: L))) (F0.map (ad a j)) := enum_ad f0 fun p => by
            show Sp ((rho a b a, rho a b b, (j : Int)) :: rel a b L) p ↔ _
            have ra : rho a b a = a := if_neg hab
            have rb : rho a b b = a := if_pos rfl
            rw [ra, rb]
            exact sp_loop (by omega)
          have tl := tops_len vj ha hb hab e f1
          rw [List.length_map] at tl
          have key : ∀ p, ad b (-1) (ad a 1 p) = mv a b 1 p := fun p => by funext x; unfold ad mv; grind
          refine ⟨E.map (ad b 1) ++ (E.filter fun p => decide (¬ Sp ((a, b, (j : Int)) :: L) (mv a b 1 p))).map (ad a 1), ⟨?_, fun p => ?_⟩, ?_⟩
          · refine nodup_app (nodup_map e.1 fun _ _ _ _ z => ad_inj z) (nodup_map (e.1.sublist List.filter_sublist) fun _ _ _ _ z => ad_inj z) fun p hp hq => ?_
            obtain ⟨q, h1, rfl⟩ := List.mem_map.mp hq
            obtain ⟨q2, h2, h3⟩ := List.mem_map.mp hp
            have h4 := of_decide_eq_true (List.mem_filter.mp h1).2
            refine h4 ?_
            rw [← key, ← h3]
            have z : ad b (-1) (ad b 1 q2) = q2 := by funext x; unfold ad; split <;> omega
            rw [z]; exact (e.2 q2).mp h2
          · rw [List.mem_append, more p, List.mem_map, List.mem_map]
            constructor
            · rintro (⟨q, h1, rfl⟩ | ⟨q, h1, rfl⟩)
              · refine .inl ?_
                have z : ad b (-1) (ad b 1 q) = q := by funext x; unfold ad; split <;> omega
                rw [z]; exact (e.2 q).mp h1
              · refine .inr ?_
                have z : ad a (-1) (ad a 1 q) = q := by funext x; unfold ad; split <;> omega
                rw [z]; exact (e.2 q).mp (List.mem_filter.mp h1).1
            · intro h
              by_cases c1 : Sp ((a, b, (j : Int)) :: L) (ad b (-1) p)
              · exact .inl ⟨_, (e.2 _).mpr c1, by funext x; unfold ad; split <;> omega⟩
              · have h2 := h.resolve_left c1
                refine .inr ⟨_, List.mem_filter.mpr ⟨(e.2 _).mpr h2, decide_eq_true ?_⟩, by funext x; unfold ad; split <;> omega⟩
                rw [← key]
                have z : ad a 1 (ad a (-1) p) = p := by funext x; unfold ad; split <;> omega
                rw [z]; exact c1
          · rw [List.length_append, List.length_map, List.length_map, tl]
            have d1 := d0
            rw [W_rel] at d1
            rw [if_neg hab] at c ⊢
            have : ((j + 1 : Nat) : Int) * W L (mrg id a b) = (j : Int) * W L (mrg id a b) + W L (mrg id a b) := by
              rw [show ((j + 1 : Nat) : Int) = (j : Int) + 1 by omega, Int.add_mul, Int.one_mul]
            omega
    obtain ⟨E, e, c⟩ := step r.toNat
    have er : ((r.toNat : Nat) : Int) = r := Int.toNat_of_nonneg hr
    rw [er] at e c
    refine ⟨E, e, ?_⟩
    rw [c, W_cons]
    dsimp only [id]
/-- all standings; those at which v can't pay u a coin -/
theorem count_all {n : Nat} {L : List Ln} {E : List (Int → Int)} (v : Val n L) (h : Enum (Sp L) E) : (E.length : Int) = W L id := by
  obtain ⟨F, f, c⟩ := count n _ L rfl v
  rw [← c, len_eq h.1 f.1 fun p => (h.2 p).trans (f.2 p).symm]
theorem count_refused {n : Nat} {L : List Ln} {E : List (Int → Int)} {u v : Int} (w : Val n L) (h : Enum (Sp L) E) (hu : 0 ≤ u ∧ u < n) (hv : 0 ≤ v ∧ v < n) (huv : u ≠ v) :
    ((E.filter fun p => decide (¬ Sp L (mv u v 1 p))).length : Int) = W L (mrg id u v) := by
  obtain ⟨F, f, c⟩ := count n _ (rel u v L) rfl (val_rel w hu)
  rw [tops_len w hu hv huv h f, c, W_rel]
end K36
-- text R1
set_option maxRecDepth 100000
set_option maxHeartbeats 4000000
namespace K36
open PySem PySem.Spec PyProof.Rows L2

/-! ### dicts with keys ((ints), 0) and ints as values -/
abbrev Tb := List (List Int × Int)
def getO (M : Tb) (J : List Int) : Option Int := (M.find? fun m => decide (m.1 = J)).map (·.2)
def putT (M : Tb) (J : List Int) (z : Int) : Tb := if (getO M J).isSome then M.map (fun m => if m.1 = J then (m.1, z) else m) else M ++ [(J, z)]

/-- the key (J, 0) -/
def nk (J : List Int) : NestedKey := .tup [.tup (J.map .num), .num 0]
theorem nums_inj : ∀ {J I : List Int}, J.map NestedKey.num = I.map NestedKey.num → J = I
  | [], [], _ => rfl
  | a :: J, b :: I, h => by
    rw [List.map_cons, List.map_cons] at h
    obtain ⟨h1, h2⟩ := List.cons.inj h
    cases h1
    rw [nums_inj h2]
  | [], _ :: _, h => by cases h
  | _ :: _, [], h => by cases h
theorem nk_inj {J I : List Int} (h : nk J = nk I) : J = I := by
  unfold nk at h
  have h1 := NestedKey.tup.inj h
  have h2 := (List.cons.inj h1).1
  exact nums_inj (NestedKey.tup.inj h2)
abbrev NX := List Int × Addr × Value
def nent (w : World) (x : NX) : DictEntry := ⟨(nk x.1).hash w, .ref x.2.1, x.2.2⟩
/-- the dict of the entries at d -/
def nO (w : World) (d : Addr) (xs : List NX) (ep : Nat) : HO := .ext fun h => h.DictRaw d (xs.map (nent w)).toArray ep
/-- at p the tuple ((J..), 0) -/
def KeyAt (H : Hp) (p : Addr) (J : List Int) : Prop := ∃ j, H p = some (.tup [.ref j, .int 0]) ∧ H j = some (.tup (J.map V.int))
def NOne (H : Hp) (m : List Int × Int) (x : NX) : Prop := x.1 = m.1 ∧ KeyAt H x.2.1 m.1 ∧ ∃ t, x.2.2 = .int m.2 t
structure NTab (w : World) (H : Hp) (d : Addr) (M : Tb) : Prop where
  ex : ∃ xs ep, H d = some (nO w d xs ep) ∧ Paired (NOne H) M xs
  nd : (M.map (·.1)).Nodup
  ln : M.length ≤ sizeLine
  sm : (d == sysModules) = false

theorem KeyAt.mono {H H' : Hp} {p : Addr} {J : List Int} (h : KeyAt H p J) (e : ∀ b xs, H b = some (.tup xs) → H' b = some (.tup xs)) : KeyAt H' p J :=
  let ⟨j, h1, h2⟩ := h; ⟨j, e _ _ h1, e _ _ h2⟩
theorem nrel_mono {H H' : Hp} {M : Tb} {xs : List NX} (h : Paired (NOne H) M xs) (e : ∀ b ys, H b = some (.tup ys) → H' b = some (.tup ys)) : Paired (NOne H') M xs :=
  L2.Paired.mapP h fun m x z => ⟨z.1, z.2.1.mono e, z.2.2⟩
theorem NTab.mono {w : World} {H H' : Hp} {d : Addr} {M : Tb} (T : NTab w H d M) (e : Same H H') : NTab w H' d M := by
  obtain ⟨⟨xs, ep, h1, h2⟩, nd, ln, sm⟩ := T
  exact ⟨⟨xs, ep, e _ _ h1, nrel_mono h2 fun b ys => e b _⟩, nd, ln, sm⟩

/-! by the library's dicts -/
def toX (x : NX) : NestedKey × Addr × Value := (nk x.1, x.2)
theorem toX_ent {P : Program} (w : World) (x : NX) : entryOfKey (nestedKind P w) (toX x) = nent w x := rfl
theorem nrel_len {H : Hp} {M : Tb} {xs : List NX} (h : Paired (NOne H) M xs) : M.length = xs.length := Paired.length h
theorem nrel_keys {H : Hp} : ∀ {M : Tb} {xs : List NX}, Paired (NOne H) M xs → M.map (·.1) = xs.map (·.1)
  | _, _, .nil => rfl
  | _, _, .cons r t => by rw [List.map_cons, List.map_cons, nrel_keys t, r.1]
theorem toX_nd {xs : List NX} (h : (xs.map (·.1)).Nodup) : ((xs.map toX).map (·.1)).Nodup := by
  rw [List.map_map]
  have : ((fun x : NestedKey × Addr × Value => x.1) ∘ toX) = nk ∘ (fun x : NX => x.1) := rfl
  rw [this, ← List.map_map]
  exact List.Pairwise.map nk (fun a b hne e => hne (nk_inj e)) h
theorem num_all {hp : Heap} : ∀ {J : List Int} {us : List Value}, Vals (J.map V.int) us → NestedAll hp (J.map .num) us
  | [], _, r => by cases r; exact .nil
  | i :: J, us, r => by
    cases r with
    | cons r1 r2 =>
      obtain ⟨t, rfl⟩ := r1
      exact .cons (.int i t) (num_all r2)
section
variable {X : Cx} {pins : List (Addr × Obj)} {σ : L2.St} {H : Hp} {s : Shared} {d b : Addr} {M : Tb} {J : List Int} {A : Around} {E : Value → Shared → Prop}
theorem nums_depth : ∀ J : List Int, NestedKey.depthAll (J.map .num) = 0
  | [] => rfl
  | _ :: J => by rw [List.map_cons, NestedKey.depthAll, nums_depth J]; rfl
theorem key_is {P : Program} {w : World} {hp : Heap} (hok : HOk P w H hp) (k : KeyAt H b J) : (nestedKind P w).is hp (nk J) b := by
  obtain ⟨j, h1, h2⟩ := k
  obtain ⟨_, us, r, o, ho, hc, n, hd⟩ := (show ObjOk P w H hp b (.tup [.ref j, .int 0]) from hok b _ h1)
  obtain ⟨_, us2, r2, o2, ho2, hc2, n2, hd2⟩ := (show ObjOk P w H hp j (.tup (J.map V.int)) from hok j _ h2)
  refine ⟨.tup ho hc hd ?_, ?_⟩
  · cases r with
    | cons ra rb =>
      cases rb with
      | cons rc rd =>
        cases rd
        cases ra
        obtain ⟨t, rfl⟩ := rc
        exact .cons (.tup ho2 hc2 hd2 (num_all r2)) (.cons (.int 0 t) .nil)
  · show NestedKey.depth (nk J) ≤ 8
    unfold nk
    simp [NestedKey.depth, NestedKey.depthAll, nums_depth]
theorem nrel_is {P : Program} {w : World} {hp : Heap} (hok : HOk P w H hp) : ∀ {M : Tb} {xs : List NX}, Paired (NOne H) M xs → ∀ x ∈ xs.map toX, (nestedKind P w).is hp x.1 x.2.1
  | _, _, .nil, x, hx => by simp at hx
  | _, _, .cons r t, x, hx => by
    rw [List.map_cons] at hx
    rcases List.mem_cons.mp hx with e | hx
    · subst e
      have q := key_is hok r.2.1
      rw [← r.1] at q
      exact q
    · exact nrel_is hok t x hx
/-- the library's own word for the table -/
theorem n_raw {xs : List NX} {ep : Nat} (I : Inv X pins σ H s) (e : H d = some (nO X.w d xs ep)) : s.heap.DictRaw d (xs.map (nent X.w)).toArray ep := (I.hok d _ e).1
theorem n_of {xs : List NX} {ep : Nat} (I : Inv X pins σ H s) (e : H d = some (nO X.w d xs ep)) (r : Paired (NOne H) M xs) (nd : (M.map (·.1)).Nodup) : s.heap.DictOfH (nestedKind X.prog X.w) d (xs.map toX) := by
  obtain ⟨o, ho, hx, hd⟩ := n_raw I e
  refine ⟨o, _, ep, ho, hx, hd, ?_, nrel_is I.hok r, toX_nd (nrel_keys r ▸ nd)⟩
  rw [List.map_map]
  rfl
theorem at_toX : ∀ (xs : List NX), atKey (xs.map toX) (nk J) = (xs.find? fun x => decide (x.1 = J)).map (·.2)
  | [] => rfl
  | x :: xs => by
    have ih := at_toX xs
    unfold atKey at ih ⊢
    rw [List.map_cons, List.find?_cons, List.find?_cons]
    by_cases h : x.1 = J
    · have h' : decide ((toX x).1 = nk J) = true := decide_eq_true (by show nk x.1 = nk J; rw [h])
      have h'' : decide (x.1 = J) = true := decide_eq_true h
      rw [h', h''] <;> rfl
    · have h' : decide ((toX x).1 = nk J) = false := decide_eq_false fun e => h (nk_inj e)
      have h'' : decide (x.1 = J) = false := decide_eq_false h
      rw [h', h'']
      exact ih
theorem nrel_get (J : List Int) : ∀ {M : Tb} {xs : List NX}, Paired (NOne H) M xs → (getO M J = none ∧ atKey (xs.map toX) (nk J) = none) ∨ ∃ z p, getO M J = some z ∧ atKey (xs.map toX) (nk J) = some p ∧ ∃ t, p.2 = .int z t
  | _, _, .nil => .inl ⟨rfl, rfl⟩
  | m :: M, x :: xs, .cons r t => by
    rw [at_toX]
    unfold getO
    rw [List.find?_cons, List.find?_cons]
    by_cases h : m.1 = J
    · have h' : decide (m.1 = J) = true := decide_eq_true h
      have h'' : decide (x.1 = J) = true := decide_eq_true (r.1.trans h)
      rw [h', h'']
      exact .inr ⟨m.2, x.2, rfl, rfl, r.2.2⟩
    · have h' : decide (m.1 = J) = false := decide_eq_false h
      have h'' : decide (x.1 = J) = false := decide_eq_false fun e => h (r.1.symm.trans e)
      rw [h', h'']
      have ih := nrel_get J t
      rw [at_toX] at ih
      exact ih
def putX (xs : List NX) (J : List Int) (b : Addr) (v : Value) : List NX :=
  if (xs.find? fun x => decide (x.1 = J)).isSome then xs.map (fun x => if x.1 = J then (x.1, x.2.1, v) else x) else xs ++ [(J, b, v)]
theorem putX_toX (xs : List NX) (v : Value) : storedH (xs.map toX) (nk J) b v = (putX xs J b v).map toX := by
  unfold storedH putX
  rw [at_toX, Option.isSome_map]
  split
  · rw [List.map_map, List.map_map]
    refine List.map_congr_left fun x _ => ?_
    show putAt (nk J) v (toX x) = toX (if x.1 = J then (x.1, x.2.1, v) else x)
    unfold putAt
    by_cases h : x.1 = J
    · rw [if_pos h, if_pos (show (toX x).1 = nk J by show nk x.1 = nk J; rw [h])]
      rfl
    · rw [if_neg h, if_neg (show ¬ (toX x).1 = nk J from fun e => h (nk_inj e))]
  · rw [List.map_append]
    rfl
theorem nrel_some (J : List Int) : ∀ {M : Tb} {xs : List NX}, Paired (NOne H) M xs → (getO M J).isSome = (xs.find? fun x => decide (x.1 = J)).isSome
  | _, _, .nil => rfl
  | m :: M, x :: xs, .cons r t => by
    unfold getO
    rw [List.find?_cons, List.find?_cons]
    by_cases h : m.1 = J
    · rw [decide_eq_true h, decide_eq_true (r.1.trans h)]
      rfl
    · rw [decide_eq_false h, decide_eq_false fun e => h (r.1.symm.trans e)]
      have ih := nrel_some J t
      unfold getO at ih
      exact ih
theorem nrel_put {M : Tb} {xs : List NX} (r : Paired (NOne H) M xs) (k : KeyAt H b J) (z : Int) (t : Tok) : Paired (NOne H) (putT M J z) (putX xs J b (.int z t)) := by
  unfold putT putX
  rw [nrel_some J r]
  generalize (xs.find? fun x => decide (x.1 = J)).isSome = c
  cases c with
  | true =>
    show Paired (NOne H) (M.map _) (xs.map _)
    induction r with
    | nil => exact .nil
    | @cons m x M xs r1 r2 ih =>
      rw [List.map_cons, List.map_cons]
      refine .cons ?_ ih
      by_cases h : m.1 = J
      · rw [if_pos h, if_pos (r1.1.trans h)]
        exact ⟨r1.1, r1.2.1, t, rfl⟩
      · rw [if_neg h, if_neg fun e => h (r1.1.symm.trans e)]
        exact r1
  | false =>
    show Paired (NOne H) (M ++ [_]) (xs ++ [_])
    induction r with
    | nil => exact .cons ⟨rfl, k, t, rfl⟩ .nil
    | cons r1 r2 ih => exact .cons r1 ih
theorem put_keys (M : Tb) (J : List Int) (z : Int) : (putT M J z).map (·.1) = if (getO M J).isSome then M.map (·.1) else M.map (·.1) ++ [J] := by
  unfold putT
  split
  · rw [List.map_map]
    refine List.map_congr_left fun m _ => ?_
    show (if m.1 = J then (m.1, z) else m).1 = m.1
    split <;> rfl
  · rw [List.map_append]; rfl
theorem get_none {M : Tb} {J : List Int} : getO M J = none ↔ J ∉ M.map (·.1) := by
  unfold getO
  rw [Option.map_eq_none_iff, List.find?_eq_none, List.mem_map]
  constructor
  · rintro h ⟨m, hm, e⟩
    exact h m hm (decide_eq_true e)
  · intro h m hm e
    exact h ⟨m, hm, of_decide_eq_true e⟩
theorem put_nd {M : Tb} {J : List Int} {z : Int} (h : (M.map (·.1)).Nodup) : ((putT M J z).map (·.1)).Nodup := by
  rw [put_keys]
  split
  · exact h
  · rename_i hn
    have hn' : getO M J = none := by
      cases q : getO M J with
      | none => rfl
      | some _ => rw [q] at hn; exact absurd rfl hn
    have hm := get_none.mp hn'
    rw [List.nodup_append]
    exact ⟨h, by simp, fun a ha c hc e => hm (by rw [List.mem_singleton] at hc; rw [← hc, ← e]; exact ha)⟩
theorem put_len (M : Tb) (J : List Int) (z : Int) : (putT M J z).length ≤ M.length + 1 := by
  unfold putT
  split
  · rw [List.length_map]; omega
  · rw [List.length_append]; simp

/-- a told dict is replaced by another one -/
theorem n_write {xs xs' : List NX} {ep ep' : Nat} {h' : Heap} {t' : Nat} (I : Inv X pins σ H s) (e : H d = some (nO X.w d xs ep)) (sb : Heap.SameBut d s.heap h') (n : h'.DictRaw d (xs'.map (nent X.w)).toArray ep') :
    Inv X pins σ (upd H d (nO X.w d xs' ep')) { s with heap := h', toks := t' } := by
  have ho : ∃ u, h'.get? d = some u := let ⟨o, ho, _⟩ := n; ⟨o, ho⟩
  exact d_write (a := d) I (by rw [e]; exact True.intro) sb ho ⟨n, ho, fun h1 h2 p k => p.at k⟩
theorem raw_of {hp : Heap} {xs : List NX} {P : Program} {w : World} (h : hp.DictOfH (nestedKind P w) d (xs.map toX)) : ∃ ep, hp.DictRaw d (xs.map (nent w)).toArray ep := by
  obtain ⟨o, es, ep, ho, hx, hd, he, _⟩ := h
  refine ⟨ep, o, ho, hx, ?_⟩
  rw [hd]
  have e2 : es.toList = xs.map (nent w) := by rw [he, List.map_map]; rfl
  rw [← e2]
theorem room8 (hu : A.units + 64 < cLine) : (nestedKind X.prog X.w).room A.in1 := by
  show A.in1.units + 8 < cLine
  show A.units + 1 + 8 < cLine
  omega
/-- the table at d behind a store: no more than that is told -/
def NPut (w : World) (H : Hp) (d : Addr) (M : Tb) (H' : Hp) : Prop := NTab w H' d M ∧ (∀ b o, b ≠ d → H b = some o → H' b = some o) ∧ ∀ b, b ≠ d → H b = none → H' b = none
theorem n_setItem {z : Int} {u r : Value} {Q : Unit → Shared → Prop} (hu : A.units + 64 < cLine) (I : Inv X pins σ H s) (T : NTab X.w H d M) (k : KeyAt H b J) (hl : M.length < sizeLine) (ru : u = .ref b) (rv : RelV (.int z) r)
    (h : ∀ H' s', Inv X pins σ H' s' → NPut X.w H d (putT M J z) H' → Q () s') : wpAny (model X.prog X.w) A (setItem (.ref d) u r) Q E s := by
  subst ru
  obtain ⟨t, rfl⟩ := rv
  obtain ⟨⟨xs, ep, e, rel⟩, nd, ln, sm⟩ := T
  have hm := n_of I e rel nd
  have hz : (xs.map toX).length ≤ sizeLine := by rw [List.length_map, ← nrel_len rel]; exact ln
  refine wpAny_setItem_heap (hsz := hz) (room8 (X := X) hu) (key_is I.hok k) hm fun h' hm' sb => ?_
  rw [putX_toX] at hm'
  obtain ⟨ep', raw⟩ := raw_of hm'
  have I' := n_write (t' := s.toks + (nestedKind X.prog X.w).draws (nk J)) I e sb raw
  have tupk : ∀ c ys, H c = some (.tup ys) → upd H d (nO X.w d (putX xs J b (.int z t)) ep') c = some (.tup ys) := fun c ys q => by
    rw [upd_ne (ne_of q e fun z => by cases z)]; exact q
  refine h _ _ I' ⟨⟨⟨_, ep', upd_same, nrel_mono (nrel_put rel k z t) tupk⟩, put_nd nd, ?_, sm⟩, fun c o hc q => by rw [upd_ne hc]; exact q, fun c hc q => by rw [upd_ne hc]; exact q⟩
  have := put_len M J z
  omega
theorem n_get {Q : Value → Shared → Prop} {u : Value} {z : Int} (hu : A.units + 64 < cLine) (I : Inv X pins σ H s) (T : NTab X.w H d M) (k : KeyAt H b J) (ru : u = .ref b) (g : getO M J = some z)
    (h : ∀ w' s', Inv X pins σ H s' → RelV (.int z) w' → Q w' s') : wpAny (model X.prog X.w) A (getItem (.ref d) u) Q E s := by
  subst ru
  obtain ⟨⟨xs, ep, e, rel⟩, nd, ln, sm⟩ := T
  have hm := n_of I e rel nd
  rcases nrel_get J rel with ⟨q, _⟩ | ⟨z', p, q1, q2, t, q3⟩
  · rw [g] at q; cases q
  · rw [g] at q1; cases q1
    exact wpAny_getItem_heap (room8 (X := X) hu) (key_is I.hok k) hm q2 (h _ _ (I.tok _) ⟨t, q3⟩)
theorem n_get2 {Q : Value → Shared → Prop} {u r : Value} {z0 : Int} (hu : A.units + 64 < cLine) (I : Inv X pins σ H s) (T : NTab X.w H d M) (k : KeyAt H b J) (ru : u = .ref b) (rr : RelV (.int z0) r)
    (h : ∀ w' s', Inv X pins σ H s' → RelV (.int ((getO M J).getD z0)) w' → Q w' s') : wpAny (model X.prog X.w) A (call (.builtin "dict.get") [.ref d, u, r]) Q E s := by
  subst ru
  obtain ⟨⟨xs, ep, e, rel⟩, nd, ln, sm⟩ := T
  have hm := n_of I e rel nd
  refine call_meetsIn PySem.F.slot_dict_get hm.typeIs PySem.F.entry_dict_get (PySem.F.args_dict_get_3 _ _ _) (meetsH_dict_get_default (nestedKind X.prog X.w) d b sm r) ⟨room8 (X := X) hu, nk J, _, key_is I.hok k, hm, h _ _ (I.tok _) ?_⟩
  rcases nrel_get J rel with ⟨q1, q2⟩ | ⟨z', p, q1, q2, t, q3⟩
  · rw [q1, q2]; exact rr
  · rw [q1, q2]; exact ⟨t, q3⟩
end

/-! ### rules -/
section
variable {X : Cx} {pos pos' apos cpos : Pos} {o i e f value : Expr} {td ty tv tx : TE}
/-- {} -/
def tNNew (w : World) : TE := fun _ H Q => ∀ p, H p = none → (∀ H', NTab w H' p [] → (∀ b o, b ≠ p → H b = some o → H' b = some o) → (∀ b, b ≠ p → H b = none → H' b = none) → Q (.ref p) H')
theorem pe_nnew : PE X (.Dict [] [] pos) (tNNew X.w) := ⟨fun pins s σ H Q I h =>
  wpAny_Dict_empty ⟨.ref s.heap.objs.size, _, I.laid (a := s.heap.objs.size) (o := nO X.w s.heap.objs.size [] 0) (t' := s.toks) (fun _ _ q => Heap.get?_push_of_some _ q) (Nat.le_refl _)
      ⟨⟨_, Heap.get?_push_size _ rfl, ⟨rfl, rfl, rfl⟩, rfl⟩, ⟨_, Heap.get?_push_size _ rfl⟩, fun h1 h2 p k => p.at k⟩, rfl,
    h _ (I.hok.fresh (Nat.le_refl _)) _ ⟨⟨[], 0, upd_same, .nil⟩, List.nodup_nil, Nat.zero_le _, beq_eq_false_iff_ne.mpr (Ne.symm (Nat.ne_of_lt I.big))⟩ (fun b o hb q => by rw [upd_ne hb]; exact q) fun b hb q => by rw [upd_ne hb]; exact q⟩⟩
/-- d[k] = v -/
def sNPut (w : World) (td ty tv : TE) : TS := fun D σ H => tv σ H fun v H1 => td σ H1 fun x H2 => ty σ H2 fun y H3 => ∃ a b M J z, x = .ref a ∧ y = .ref b ∧ v = .int z ∧ NTab w H3 a M ∧ KeyAt H3 b J ∧ M.length < sizeLine ∧
  ∀ H4, NPut w H3 a (putT M J z) H4 → D.nx σ H4
theorem ps_nput (hu : X.A.units + 64 < cLine) (ho : PE X o td) (hi : PE X i ty) (hv : PE X value tv) (hs : swapsWith value (some (.Subscript o i pos')) pos.line X.env = pure false) :
    PS X (.Assign [.Subscript o i pos'] value pos) (sNPut X.w td ty tv) := by
  refine ⟨fun pins s σ H D I h => ?_⟩
  refine wpAny_Assign_Subscript (thn (hv.run pins s σ H _ I h) fun r s1 ⟨v, H1, I1, rv, q1⟩ => thn (ho.run pins s1 σ H1 _ I1 q1) fun u s2 ⟨x, H2, I2, rx, q2⟩ => thn (hi.run pins s2 σ H2 _ I2 q2) fun iv s3 ⟨y, H3, I3, ry, hh⟩ => ?_) hs
  obtain ⟨a, b, M, J, z, ex, ey, ev, T, k, hl, q3⟩ := hh
  subst ex ey ev
  obtain rfl : u = Value.ref a := rx
  exact n_setItem hu I3 T k hl ry rv fun H4 s4 I4 np => ⟨σ, H4, I4, q3 H4 np⟩
/-- d[k] -/
def tNGet (w : World) (td ty : TE) : TE := fun σ H Q => td σ H fun x H1 => ty σ H1 fun y H2 => ∃ a b M J z, x = .ref a ∧ y = .ref b ∧ NTab w H2 a M ∧ KeyAt H2 b J ∧ getO M J = some z ∧ Q (.int z) H2
theorem pe_nget (hu : X.A.units + 64 < cLine) (ho : PE X o td) (hi : PE X i ty) (hs : NoSl i) : PE X (.Subscript o i pos) (tNGet X.w td ty) := by
  refine ⟨fun pins s σ H Q I h => ?_⟩
  refine subD_of PySem.F.slot_dict_getitem.lookup hs (thn (ho.run pins s σ H _ I h) fun u s1 ⟨x, H1, I1, rx, q1⟩ => thn (hi.run pins s1 σ H1 _ I1 q1) fun iv s2 ⟨y, H2, I2, ry, hh⟩ => ?_)
  obtain ⟨a, b, M, J, z, ex, ey, T, k, g, q2⟩ := hh
  subst ex ey
  obtain rfl : u = Value.ref a := rx
  obtain ⟨⟨xs, ep, e0, rel⟩, nd, _⟩ := id T
  exact ⟨(n_of I2 e0 rel nd).typeIs, n_get hu I2 T k ry g fun w' s3 I3 rw' => ⟨.int z, H2, I3, rw', q2⟩⟩
/-- d.get(k, x) -/
def tNGet2 (w : World) (td ty tx : TE) : TE := fun σ H Q => td σ H fun x H1 => (∃ a M, x = .ref a ∧ NTab w H1 a M) ∧ ty σ H1 fun y H2 => tx σ H2 fun z H3 => ∃ a b M J z0, x = .ref a ∧ y = .ref b ∧ z = .int z0 ∧ NTab w H3 a M ∧ KeyAt H3 b J ∧ Q (.int ((getO M J).getD z0)) H3
theorem pe_nget2 (hu : X.A.units + 64 < cLine) (ho : PE X o td) (he : PE X e ty) (hf : PE X f tx) (m : M2 X o "get" apos e f cpos) : PE X (.Call (.Attribute o "get" apos) [e, f] [] cpos) (tNGet2 X.w td ty tx) := by
  refine ⟨fun pins s σ H Q I h => ?_⟩
  refine wpAny_Call_method m.base m.few m.line PySem.F.plainAttrs_dict PySem.F.slot_dict_get PySem.F.type_dict_get (thn (ho.run pins s σ H _ I h) fun u s1 hh => ?_)
  obtain ⟨x, H1, I1, rx, ⟨a, M, ex, T⟩, q1⟩ := hh
  subst ex
  obtain rfl : u = Value.ref a := rx
  obtain ⟨⟨xs, ep, e0, rel⟩, nd, _⟩ := id T
  have hm := n_of I1 e0 rel nd
  refine ⟨hm.typeIs, fun c q => ?_, ?_⟩
  · cases q
    obtain ⟨ob, _, _, h1, h2, _⟩ := hm
    exact ⟨ob, h1, h2.2.1⟩
  · rw [m.trees]
    refine Calls.callWith_builtin rfl (Calls.evalArgs_plain (Calls.spliced_cons (thn (he.run pins s1 σ H1 _ I1 q1) fun iv s2 ⟨y, H2, I2, ry, q2⟩ => Calls.spliced_cons (thn (hf.run pins s2 σ H2 _ I2 q2) fun fv s3 h3 => Calls.spliced_nil ?_))))
    obtain ⟨z, H3, I3, rz, a', b, M', J, z0, ex', ey, ez, T3, k, q3⟩ := h3
    cases ex'
    subst ey ez
    exact n_get2 hu I3 T3 k ry rz fun w' s4 I4 rw' => ⟨_, H3, I4, rw', q3⟩
end
end K36
-- text R2
set_option maxRecDepth 100000
set_option maxHeartbeats 4000000
namespace K36
open PySem PySem.Spec PyProof.Rows L2

/-! ### a comprehension of any kind: from its call to its loop -/
section
variable {X : Cx}
/-- the block's environment -/
abbrev bEnv (X : Cx) (s3 : Shared) (sc : Scope) : Env := compEnvC sc (cellsFrom (s3.heap.objs.size + 1) sc.names (cloFrom X.env.cells sc.names [])) s3.heap.objs.size X.env
/-- the block's context -/
abbrev bCx (X : Cx) (s3 : Shared) (H3 : Hp) (sc : Scope) (fp : List Addr) : Cx := X.blk s3 H3 sc (bEnv X s3 sc) fp

/-- one item is drawn; how one comes back to the iterator behind it -/
theorem draw {B : Cx} {tg : Expr} {J : It} {fp : List Addr} {it : Addr} {tn : Nat → Heap → Prop} {i : Nat} {pins : List (Addr × Obj)} {σ : L2.St} {H : Hp} {s : Shared}
    (T : Turn B.prog B.w B.K tg J fp it tn) (hc : B.calm = true) (I : Inv B pins σ H s) (st : tn i s.heap) (f : ∀ b ∈ fp, FpOk B pins H b) (go : J.go i H) :
    wpAny (model B.prog B.w) B.A (pyNext (.ref it)) (fun r s1 => ∃ u, r = some u ∧
      wpAny (model B.prog B.w) B.A (letOwnedTupleGo tg (.ref it) u) (fun _ s2 => ∃ x H', RelV x u ∧ J.yld i H x H' ∧ ∃ pl, Inv B (pins ++ pl) σ H' s2 ∧
        ∀ {σ3 : L2.St} {H3 : Hp} {s3 : Shared}, Inv B (pins ++ pl) σ3 H3 s3 → Inv B pins σ3 H3 s3 ∧ tn (i + 1) s3.heap ∧ ∀ b ∈ fp, H3 b = none) (fun _ _ => False) s1) (fun _ _ => False) s := by
  refine wpAny_mono (T.item B rfl rfl rfl hc i pins s σ H (fun _ _ => False) I f st go) (fun r s1 z => ?_) fun _ _ z => z
  obtain ⟨u, hr, z⟩ := z
  refine ⟨u, hr, wpAny_mono z (fun _ s2 y => ?_) fun _ _ z => z⟩
  obtain ⟨x, H', I2, rx, yl, st2, n2⟩ := y
  have ob := T.obj _ _ st2
  refine ⟨x, H', rx, yl, pinsAt fp s2.heap, I2.pinned (fun b hb => ⟨n2 b hb, (f b hb).2⟩) ob, fun {σ3 H3 s3} I3 => ?_⟩
  have at3 : ∀ b ∈ fp, ∀ o, s2.heap.get? b = some o → s3.heap.get? b = some o ∧ H3 b = none := fun b hb o e =>
    ⟨(I3.pin (b, o) (List.mem_append_right _ (List.mem_append_right _ (mem_pinsAt hb e)))).1, (I3.pin (b, o) (List.mem_append_right _ (List.mem_append_right _ (mem_pinsAt hb e)))).2.1⟩
  refine ⟨I3.unpinned, T.keep _ _ _ st2 fun b hb o e => (at3 b hb o e).1, fun b hb => ?_⟩
  obtain ⟨o, e, _⟩ := ob b hb
  exact (at3 b hb o e).2

theorem blk_fp {s3 : Shared} {H3 H' : Hp} {sc : Scope} {fp : List Addr} {σ : L2.St} {s : Shared} (I : Inv (bCx X s3 H3 sc fp) [] σ H' s) (n : ∀ b ∈ fp, H' b = none) : ∀ b ∈ fp, FpOk (bCx X s3 H3 sc fp) [] H' b := fun b hb =>
  ⟨n b hb, (I.ok.exf b hb).1, I.ok.exfs b hb, .inl hb, (I.ok.exf b hb).2, fun p hp => by simp at hp⟩

theorem blk_run {pins : List (Addr × Obj)} {s : Shared} {σ : L2.St} {H : Hp} {Q : VK} {c tg iter : Expr} {ifs : List Expr} {rest : List Comprehension} {sc : Scope} {own : List (PySem.Str × Nat)} {pos' : Pos} {wi : TI} {new : Sem Value} {ob : Obj} {o0 : Addr → HO}
    {G : It → Addr → Hp → Prop} {use : Option (Value → Sem Unit)} {Qf : Value → Shared → Prop} (hcl : clausesOf c = ⟨tg, iter, ifs, 0⟩ :: rest) (hc : X.calm = true) (hN : X.N.Nodup) (I : Inv X pins σ H s) (hi : PI X tg iter wi)
    (ok : BlkOk X.N X.env.scope sc own) (hs : ∀ x, foldedSetIterable iter X.env x = pure x)
    (hnew : ∀ (s : Shared) (Q : Value → Shared → Prop) (E : Value → Shared → Prop), Q (.ref s.heap.objs.size) { s with heap := s.heap.push ob } → wpAny (model X.prog X.w) X.A new Q E s)
    (hob : ∀ (h : Heap) (H : Hp), sysModules < h.objs.size → ObjOk X.prog X.w H (h.push ob) h.objs.size (o0 h.objs.size))
    (h : wi σ H fun J H1 => ∀ D, H1 D = none → (D == sysModules) = false → G J D (upd H1 D (o0 D)))
    (hstart : ∀ (A : Around) (it acc : Value) (env : Env) (R : Result → Shared → Prop) (s : Shared), codeAny (model X.prog X.w) A (.compLoop c 0 it acc env) R s →
      wpAny (model X.prog X.w) A (pyIter it) (fun it' s' => codeAny (model X.prog X.w) A (.compLoop c 0 it' acc env) R s') (notedBy (model X.prog X.w) A env fun x s' => R (.error x) s') s → codeAny (model X.prog X.w) A (.compStart c 0 it acc env) R s)
    (hloop : ∀ (s3 : Shared) (H3 : Hp) (fp : List Addr) (it D : Addr) (tn : Nat → Heap → Prop) (J : It) (s4 : Shared), Turn X.prog X.w X.K tg J fp it tn → Inv (bCx X s3 H3 sc fp) [] (wipe σ (own.map (·.2))) H3 s4 → tn 0 s4.heap → (∀ b ∈ fp, H3 b = none) → G J D H3 →
      codeAny (model X.prog X.w) X.A (.compLoop c 0 (.ref it) (.ref D) (bEnv X s3 sc)) (fun r s' => match r with
        | .ok _ => ∃ H', Inv (bCx X s3 H3 sc fp) [] (wipe σ (own.map (·.2))) H' s' ∧ Q (.ref D) H'
        | .error _ => False) s4)
    (hend : ∀ (D C : Addr) (f : Flow) (s' : Shared) (m : PySem.Str → Option Value) (H' : Hp), Inv X pins σ H' s' → Q (.ref D) H' → s'.heap.Ns C m → FpOk X pins H' C → compPost (model X.prog X.w) X.A X.xe use Qf (.ref D) C (.ok f) s') :
    wpAny (model X.prog X.w) X.A (comprehension c sc X.env pos' new false (eval iter X.env) use) Qf X.xe s := by
  have free : ∀ y ∈ sc.names, y.2 = .free → ∃ c, X.env.cells.lookup y.1 = some c := fun y hy e => (ok.free y hy e).elim (fun k => I.ok.has _ (.inl k)) fun k => I.ok.has _ (.inr k)
  refine wpAny_comprehension_free (use := use) hcl hs (closure_ok free) ok.kind (fun y hy e => by rw [ok.uniq y hy, e]) ?_
  refine thn (hi.run pins s σ H _ I h) fun xv s1 hx => thn hx fun itv s2 got => ?_
  obtain ⟨it, fp, tn, J, H2, rfl, I2, T, st2, f2, q⟩ := got
  refine hnew _ _ _ (newEnv_comp ?_)
  have nD : H2 s2.heap.objs.size = none := I2.hok.fresh (Nat.le_refl _)
  have g0 := q _ nD (beq_eq_false_iff_ne.mpr (Ne.symm (Nat.ne_of_lt I2.big)))
  have I3 : Inv X pins σ (upd H2 s2.heap.objs.size (o0 s2.heap.objs.size)) { s2 with heap := s2.heap.push ob } :=
    I2.laid (t' := s2.toks) (fun b o e => Heap.get?_push_of_some _ e) (Nat.le_refl _) (hob _ _ I2.big)
  have old : ∀ b ∈ fp, b < s2.heap.objs.size := fun b hb => let ⟨o, e, _⟩ := T.obj _ _ st2 b hb; Heap.lt_size e
  generalize hs3 : ({ s2 with heap := s2.heap.push ob } : Shared) = s3 at I3 ⊢
  have z3 : s3.heap = s2.heap.push ob := by rw [← hs3]
  have f3 : ∀ b ∈ fp, FpOk X pins (upd H2 s2.heap.objs.size (o0 s2.heap.objs.size)) b ∧ b < s3.heap.objs.size := fun b hb =>
    ⟨⟨by rw [upd_ne (Nat.ne_of_lt (old b hb))]; exact (f2 b hb).1, (f2 b hb).2⟩, by rw [z3, Heap.size_push]; exact Nat.lt_succ_of_lt (old b hb)⟩
  generalize hH3 : upd H2 s2.heap.objs.size (o0 s2.heap.objs.size) = H3 at I3 f3 g0
  have I4 := block_start I3 ok hN f3
  have st4 : tn 0 (pushCells (s3.heap.push { cls := .type "dict", data := .dict #[] }) sc.names) :=
    T.keep _ _ _ st2 fun b _ o e => pushCells_keeps _ _ _ _ (Heap.get?_push_of_some _ (by rw [z3]; exact Heap.get?_push_of_some _ e))
  have run := hloop s3 H3 fp it s2.heap.objs.size tn J _ T I4 st4 (fun b hb => (f3 b hb).1.1) g0
  have fin : codeAny (model X.prog X.w) X.A (.compLoop c 0 (.ref it) (.ref s2.heap.objs.size) (bEnv X s3 sc)) (compPost (model X.prog X.w) X.A X.xe use Qf (.ref s2.heap.objs.size) s3.heap.objs.size) { s3 with heap := pushCells (s3.heap.push { cls := .type "dict", data := .dict #[] }) sc.names } := by
    refine codeAny_mono run fun r s6 hr => ?_
    cases r with
    | error e => exact hr.elim
    | ok f =>
      obtain ⟨H5, I6, qq⟩ := hr
      have I7 : Inv X pins σ H5 s6 := I3.call' (ch := fp) I6.os I6.base I6.hok I6.bare fun b hb => ⟨(f3 b hb).1.2.2.2.1, (f3 b hb).1.2.1, (f3 b hb).1.2.2.2.2.1, (f3 b hb).1.2.2.2.2.2⟩
      have nC : H5 s3.heap.objs.size = none := I6.free
      obtain ⟨m, hn, _⟩ := I6.loc
      exact hend _ _ f s6 m H5 I7 qq hn (I3.fpOk (Nat.le_refl _) nC)
  exact hstart _ _ _ _ _ _ fin (T.self X.A 0 _ _ _ st4 fin)
/-- the end of a comprehension that is a value -/
theorem blk_val {pins : List (Addr × Obj)} {σ : L2.St} {Q : VK} (D C : Addr) (f : Flow) (s' : Shared) (m : PySem.Str → Option Value) (H' : Hp) (I : Inv X pins σ H' s') (q : Q (.ref D) H') (n : s'.heap.Ns C m) (fo : FpOk X pins H' C) :
    compPost (model X.prog X.w) X.A X.xe none (EP X pins σ Q) (.ref D) C (.ok f) s' :=
  ⟨m, n, fun h'' sb => ⟨.ref D, H', I.turned (t' := s'.toks) (fun b o hb e => (sb.2 b hb).trans e) fo.1 fo.2.1 fo.2.2.2.1 fo.2.2.2.2.1 fo.2.2.2.2.2, rfl, q⟩⟩
/-- .. that is stored at once in a local -/
theorem blk_set {pins : List (Addr × Obj)} {σ : L2.St} {Dn : Ends} {i : Nat} {y : PySem.Str} {py : Pos} (hN : X.N.Nodup) (hy : X.N[i]? = some y) (hyl : X.env.scope.names.lookup y = some .local) (D C : Addr) (f : Flow) (s' : Shared) (m : PySem.Str → Option Value) (H' : Hp)
    (I : Inv X pins σ H' s') (q : gName i (.ref D) σ H' Dn.nx) (n : s'.heap.Ns C m) (fo : FpOk X pins H' C) :
    compPost (model X.prog X.w) X.A X.xe (some (assign (.Name y py) X.env)) (fun _ s' => SP X pins Dn .next s') (.ref D) C (.ok f) s' := by
  show wpAny _ _ (assign (.Name y py) X.env (.ref D)) _ _ _
  refine wpAny_assign_Name (store_ok2 (v := V.ref D) I hN hy (.inl hyl) rfl (fun s2 I2 z => ?_) (.inr hyl))
  obtain ⟨a, sb, ha⟩ := z
  have far : C ≠ a := ha.elim (fun z => by rw [z]; exact fo.2.1) fun z e => fo.2.2.2.2.1 y a z e.symm
  exact ⟨m, n.sameBut sb far, fun h3 sb3 => ⟨_, H', I2.turned (t' := s2.toks) (fun b o hb e => (sb3.2 b hb).trans e) fo.1 fo.2.1 fo.2.2.2.1 fo.2.2.2.2.1 fo.2.2.2.2.2, q⟩⟩
end
end K36
-- text R3
set_option maxRecDepth 100000
set_option maxHeartbeats 4000000
namespace K36
open PySem PySem.Spec PyProof.Rows L2

/-! ### {k: v for t in iter}: keys ((ints), 0), ints -/
section
variable {X : Cx} {pins : List (Addr × Obj)} {σ : L2.St} {H : Hp} {s : Shared} {d b : Addr} {M : Tb} {J : List Int} {A : Around} {E : Value → Shared → Prop}
theorem n_dictSet {z : Int} {u r : Value} {Q : Unit → Shared → Prop} (hu : A.units + 64 < cLine) (I : Inv X pins σ H s) (T : NTab X.w H d M) (k : KeyAt H b J) (hl : M.length < sizeLine) (ru : u = .ref b) (rv : RelV (.int z) r)
    (h : ∀ H' s', Inv X pins σ H' s' → NPut X.w H d (putT M J z) H' → Q () s') : wpAny (model X.prog X.w) A (dictSet d u r) Q E s := by
  subst ru
  obtain ⟨t, rfl⟩ := rv
  obtain ⟨⟨xs, ep, e, rel⟩, nd, ln, sm⟩ := T
  have hm := n_of I e rel nd
  have hz : (xs.map toX).length ≤ sizeLine := by rw [List.length_map, ← nrel_len rel]; exact ln
  refine wpAny_dictSet_heap (hsz := hz) (knd := nestedKind X.prog X.w) (by show A.units + 8 < cLine; omega) (key_is I.hok k) hm fun h' hm' sb => ?_
  rw [putX_toX] at hm'
  obtain ⟨ep', raw⟩ := raw_of hm'
  have I' := n_write (t' := s.toks + (nestedKind X.prog X.w).draws (nk J)) I e sb raw
  have tupk : ∀ c ys, H c = some (.tup ys) → upd H d (nO X.w d (putX xs J b (.int z t)) ep') c = some (.tup ys) := fun c ys q => by
    rw [upd_ne (ne_of q e fun z => by cases z)]; exact q
  refine h _ _ I' ⟨⟨⟨_, ep', upd_same, nrel_mono (nrel_put rel k z t) tupk⟩, put_nd nd, ?_, sm⟩, fun c o hc q => by rw [upd_ne hc]; exact q, fun c hc q => by rw [upd_ne hc]; exact q⟩
  have := put_len M J z
  omega
end
section
variable {X : Cx}
/-- what a turn stores -/
abbrev NSt (w : World) (D : Addr) (y z : V) (H : Hp) (Nx : Hp → Prop) : Prop := ∃ b M J z0, y = .ref b ∧ z = .int z0 ∧ NTab w H D M ∧ KeyAt H b J ∧ M.length < sizeLine ∧ ∀ H', NPut w H D (putT M J z0) H' → Nx H'
def gN (w : World) (g : TG) (tk tv : TE) (vs : List Nat) (σ : L2.St) (Q : VK) (J : It) (D : Addr) (H0 : Hp) : Prop := ∃ W : Nat → Nat → Hp → Prop, (∃ m, W 0 m H0) ∧ ∀ i m H, W i m H →
  (J.stop i H ∧ Q (.ref D) H) ∨ (J.go i H ∧ ∃ Nx : Hp → Prop, (∀ H', Nx H' → ∃ m', m' < m ∧ W (i + 1) m' H') ∧ ∀ x H', J.yld i H x H' → g x (wipe σ vs) H' fun σ2 H2 => wipe σ2 vs = wipe σ vs ∧ tk σ2 H2 fun y H3 => tv σ2 H3 fun z H4 => NSt w D y z H4 Nx)
def tNDc (w : World) (wi : TI) (g : TG) (tk tv : TE) (vs : List Nat) : TE := fun σ H Q => wi σ H fun J H1 => ∀ D, H1 D = none → (D == sysModules) = false → gN w g tk tv vs σ Q J D (upd H1 D (nO w D [] 0))

theorem nfresh {P : Program} {w : World} (h : Heap) (H : Hp) (hb : sysModules < h.objs.size) : ObjOk P w H (h.push { cls := .type "dict", data := .dict #[] }) h.objs.size (nO w h.objs.size [] 0) :=
  ⟨⟨_, Heap.get?_push_size _ rfl, ⟨rfl, rfl, rfl⟩, rfl⟩, ⟨_, Heap.get?_push_size _ rfl⟩, fun h1 h2 p k => p.at k⟩

theorem ndc_loop {s3 s4 : Shared} {H3 : Hp} {fp : List Addr} {it D : Addr} {tn : Nat → Heap → Prop} {J : It} {σ : L2.St} {Q : VK} {kx vx tg iter : Expr} {sc : Scope} {own : List (PySem.Str × Nat)} {pos : Pos} {g : TG} {tk tv : TE} (hc : X.calm = true) (hu : X.A.units + 64 < cLine)
    (hg : PG (bCx X s3 H3 sc fp) tg g) (hk : PE (bCx X s3 H3 sc fp) kx tk) (hv : PE (bCx X s3 H3 sc fp) vx tv)
    (T : Turn X.prog X.w X.K tg J fp it tn) (I : Inv (bCx X s3 H3 sc fp) [] (wipe σ (own.map (·.2))) H3 s4) (st : tn 0 s4.heap) (nf : ∀ b ∈ fp, H3 b = none) (h : gN X.w g tk tv (own.map (·.2)) σ Q J D H3) :
    codeAny (model X.prog X.w) X.A (.compLoop (.DictComp kx vx [⟨tg, iter, [], 0⟩] sc pos) 0 (.ref it) (.ref D) (bEnv X s3 sc)) (fun r s' => match r with
        | .ok _ => ∃ H', Inv (bCx X s3 H3 sc fp) [] (wipe σ (own.map (·.2))) H' s' ∧ Q (.ref D) H'
        | .error _ => False) s4 := by
  obtain ⟨W, ⟨m0, w0⟩, turn⟩ := h
  refine compLoop_anyD (fun n s' => ∃ i H', Inv (bCx X s3 H3 sc fp) [] (wipe σ (own.map (·.2))) H' s' ∧ tn i s'.heap ∧ (∀ b ∈ fp, H' b = none) ∧ W i n H') ?_ m0 ⟨0, H3, I, st, nf, w0⟩
  rintro n s5 ⟨i, H5, I5, st5, n5, w5⟩
  rcases turn i n H5 w5 with ⟨stop, qq⟩ | ⟨go, Nx, hNx, step⟩
  · refine thnF (T.done (bCx X s3 H3 sc fp) rfl rfl rfl hc i [] s5 _ H5 (fun _ _ => False) I5 (blk_fp I5 n5) st5 stop) fun r s6 z => ?_
    obtain ⟨rfl, I6⟩ := z
    exact ⟨H5, I6, qq⟩
  · refine thnF (draw (B := bCx X s3 H3 sc fp) T hc I5 st5 (blk_fp I5 n5) go) fun r s6 z => ?_
    obtain ⟨u, rfl, z⟩ := z
    refine thnF z fun _ s7 z => ?_
    obtain ⟨x, H7, rx, yl, pl, I7, back⟩ := z
    refine thnF (hg.run _ s7 _ H7 x u _ I7 rx (step x H7 yl)) fun _ s8 z => ?_
    obtain ⟨σ8, H8, I8, hw8, q8⟩ := z
    refine wpAny_tests_nil ?_
    show wpAny _ _ _ _ _ _
    refine thnF (hk.run _ s8 σ8 H8 _ I8 q8) fun yk s10 z => ?_
    obtain ⟨y, H10, I10, r10, q10⟩ := z
    refine thnF (hv.run _ s10 σ8 H10 _ I10 q10) fun yv s11 z => ?_
    obtain ⟨yz, H11, I11, r11, b, M, JJ, z0, ey, ez, tab, key, hl, nx⟩ := z
    subst ey ez
    refine n_dictSet (X := bCx X s3 H3 sc fp) hu I11 tab key hl r10 r11 fun H12 s12 I12 np => ?_
    obtain ⟨I13, st13, n13⟩ := back I12
    obtain ⟨m', hm, w'⟩ := hNx H12 (nx H12 np)
    exact ⟨m', hm, i + 1, H12, I13.weak (by rw [← hw8, wipe_length]) (fun j v e => by rw [← hw8] at e; exact (wipe_some e).1), st13, n13, w'⟩

theorem pe_ndc {kx vx tg iter : Expr} {sc : Scope} {own : List (PySem.Str × Nat)} {pos : Pos} {wi : TI} {g : TG} {tk tv : TE} (hc : X.calm = true) (hN : X.N.Nodup) (hu : X.A.units + 64 < cLine) (hi : PI X tg iter wi) (ok : BlkOk X.N X.env.scope sc own)
    (hg : ∀ (s : Shared) (H : Hp) (C : Addr) (cl : List (PySem.Str × Addr)) (fp : List Addr), PG (X.blk s H sc (compEnvC sc cl C X.env) fp) tg g)
    (hk : ∀ (s : Shared) (H : Hp) (C : Addr) (cl : List (PySem.Str × Addr)) (fp : List Addr), PE (X.blk s H sc (compEnvC sc cl C X.env) fp) kx tk)
    (hv : ∀ (s : Shared) (H : Hp) (C : Addr) (cl : List (PySem.Str × Addr)) (fp : List Addr), PE (X.blk s H sc (compEnvC sc cl C X.env) fp) vx tv) (hs : ∀ x, foldedSetIterable iter X.env x = pure x := by intro _; rfl) :
    PE X (.DictComp kx vx [⟨tg, iter, [], 0⟩] sc pos) (tNDc X.w wi g tk tv (own.map (·.2))) := by
  refine ⟨fun pins s σ H Q I h => ?_⟩
  rw [arm_eval_DictComp]
  exact blk_run (o0 := fun D => nO X.w D [] 0) (ob := { cls := .type "dict", data := .dict #[] }) (use := none) rfl hc hN I hi ok hs (fun s Q E q => wpAny_newObj_type q) (fun h H hb => nfresh h H hb) h
    (fun A it acc env R s a b => codeAny_compStart_dict a b) (fun s3 H3 fp it D tn J s4 T I4 st4 n4 g0 => ndc_loop hc hu (hg _ _ _ _ _) (hk _ _ _ _ _) (hv _ _ _ _ _) T I4 st4 n4 g0) blk_val
theorem ps_setNdc {i : Nat} {y : PySem.Str} {py : Pos} {kx vx tg iter : Expr} {sc : Scope} {own : List (PySem.Str × Nat)} {pos spos : Pos} {wi : TI} {g : TG} {tk tv : TE} (hc : X.calm = true) (hN : X.N.Nodup) (hu : X.A.units + 64 < cLine) (hy : X.N[i]? = some y) (hyl : X.env.scope.names.lookup y = some .local)
    (hsw : swapsWith (.DictComp kx vx [⟨tg, iter, [], 0⟩] sc pos) (some (.Name y py)) spos.line X.env = pure true) (hi : PI X tg iter wi) (ok : BlkOk X.N X.env.scope sc own)
    (hg : ∀ (s : Shared) (H : Hp) (C : Addr) (cl : List (PySem.Str × Addr)) (fp : List Addr), PG (X.blk s H sc (compEnvC sc cl C X.env) fp) tg g)
    (hk : ∀ (s : Shared) (H : Hp) (C : Addr) (cl : List (PySem.Str × Addr)) (fp : List Addr), PE (X.blk s H sc (compEnvC sc cl C X.env) fp) kx tk)
    (hv : ∀ (s : Shared) (H : Hp) (C : Addr) (cl : List (PySem.Str × Addr)) (fp : List Addr), PE (X.blk s H sc (compEnvC sc cl C X.env) fp) vx tv) (hs : ∀ x, foldedSetIterable iter X.env x = pure x := by intro _; rfl) :
    PS X (.Assign [.Name y py] (.DictComp kx vx [⟨tg, iter, [], 0⟩] sc pos) spos) (tAsg (tNDc X.w wi g tk tv (own.map (·.2))) (gName i)) := by
  refine ⟨fun pins s σ H D I h => ?_⟩
  rw [exec_Assign_Name_used _ _ _ _ hsw]
  refine wpAny_bind (wpAny_standAt (wpAny_bind ?_))
  show wpAny _ X.A (do let _ ← comprehension (.DictComp kx vx [⟨tg, iter, [], 0⟩] sc pos) sc X.env (firstIterPos [⟨tg, iter, [], 0⟩] pos) newDict false (eval iter X.env) (some (assign (.Name y py) X.env))) _ _ s
  have h : tNDc X.w wi g tk tv (own.map (·.2)) σ H (fun x H1 => gName i x σ H1 D.nx) := h
  refine wpAny_bind (thn (blk_run (o0 := fun D => nO X.w D [] 0) (ob := { cls := .type "dict", data := .dict #[] }) (Qf := fun _ s' => SP X pins D .next s') rfl hc hN I hi ok hs (fun s Q E q => wpAny_newObj_type q) (fun h H hb => nfresh h H hb) h
    (fun A it acc env R s a b => codeAny_compStart_dict a b) (fun s3 H3 fp it D tn J s4 T I4 st4 n4 g0 => ndc_loop hc hu (hg _ _ _ _ _) (hk _ _ _ _ _) (hv _ _ _ _ _) T I4 st4 n4 g0) (blk_set hN hy hyl)) fun _ s' hq => wpAny_pure (wpAny_pure hq))
end
theorem sw_dict {kx vx : Expr} {gs : List Comprehension} {scope : Scope} {pos py : Pos} {y : PySem.Str} {l : Nat} {env : Env} (hk : env.scope.kind = .function) (hy : env.scope.names.lookup y = some .local) (hl : (py.line == pos.line) = true)
    (ha : (scope.names.any fun (n, k) => n == y && (k == .local || k == .cell)) = false) : swapsWith (.DictComp kx vx gs scope pos) (some (.Name y py)) l env = pure true := by
  have e1 : env.kindOf y = some .local := hy
  have e2 : env.blockKind = .function := by unfold Env.blockKind; rw [hk]; rfl
  unfold swapsWith
  simp only [e2, e1, ha, Expr.pos, hl]
  rfl
end K36
-- text R4
set_option maxRecDepth 100000
set_option maxHeartbeats 4000000
namespace K36
open PySem PySem.Spec PyProof.Rows L2

/-! ### {e for a in xs for b in ys}: a set of ints -/
section
variable {env : Env} {elt t0 i0 t1 i1 : Expr} {sc : Scope} {pos : Pos}
abbrev sc2 (elt t0 i0 t1 i1 : Expr) (sc : Scope) (pos : Pos) : Expr := .SetComp elt [⟨t0, i0, [], 0⟩, ⟨t1, i1, [], 0⟩] sc pos
theorem turn_out (it acc : Value) : compTurn (sc2 elt t0 i0 t1 i1 sc pos) 0 it acc env = (do
    standAt i0.pos
    match ← pyNext it with
    | none => pure (.done .next)
    | some u => do
      letOwnedTupleGo t0 it u
      assign t0 env u
      let x ← eval i1 env
      standAt i1.pos
      let x ← foldedSetIterable i1 env x
      let _ ← runOwn (.compStart (sc2 elt t0 i0 t1 i1 sc pos) 1 (← holding [x] (pyIter x)) acc env) env
      again (.compLoop (sc2 elt t0 i0 t1 i1 sc pos) 0 it acc env)) := by rfl
theorem turn_in (it acc : Value) : compTurn (sc2 elt t0 i0 t1 i1 sc pos) 1 it acc env = (do
    standAt i1.pos
    match ← pyNext it with
    | none => pure (.done .next)
    | some u => do
      letOwnedTupleGo t1 it u
      assign t1 env u
      (do let v ← eval elt env; standAt elt.pos; let _ ← call (.builtin "set.add") [acc, v])
      again (.compLoop (sc2 elt t0 i0 t1 i1 sc pos) 1 it acc env)) := by rfl
variable {prog : Program} {w : World} {A : Around} {R : Result → Shared → Prop} {s : Shared} {it acc : Value}
theorem loop_out (hs : ∀ x, foldedSetIterable i1 env x = pure x) (I : Nat → Shared → Prop) (turn : ∀ n s, I n s → wpAny (model prog w) A (pyNext it) (fun r s₁ => match r with
      | none => R (.ok .next) s₁
      | some u => wpAny (model prog w) A (letOwnedTupleGo t0 it u) (fun _ s₂ => wpAny (model prog w) A (assign t0 env u) (fun _ s₃ => wpAny (model prog w) A (eval i1 env) (fun x s₄ => wpAny (model prog w) A (pyIter x) (fun it1 s₅ =>
          codeAny (model prog w) A (.compStart (sc2 elt t0 i0 t1 i1 sc pos) 1 it1 acc env) (fun r s' => match r with
            | .ok _ => ∃ m, m < n ∧ I m s'
            | .error _ => False) s₅) (fun _ _ => False) s₄) (fun _ _ => False) s₃) (fun _ _ => False) s₂) (fun _ _ => False) s₁) (fun _ _ => False) s)
    (n : Nat) (h : I n s) : codeAny (model prog w) A (.compLoop (sc2 elt t0 i0 t1 i1 sc pos) 0 it acc env) R s := by
  refine codeAny_loop rfl I (fun n s hI => ?_) n h
  show wpAny _ A ((compTurn (sc2 elt t0 i0 t1 i1 sc pos) 0 it acc env).onRaise (fun x => do noteFrame x env; theTreesLotGoes x)) _ _ s
  refine wpAny_noted ?_
  rw [turn_out]
  refine wpAny_bind (wpAny_standAt (wpAny_bind (thnF (turn n s hI) fun r s1 z1 => ?_)))
  cases r with
  | none => exact wpAny_pure z1
  | some u =>
    refine wpAny_bind (thnF z1 fun _ s2 z2 => wpAny_bind (thnF z2 fun _ s3 z3 => wpAny_bind (thnF z3 fun x s4 z4 => ?_)))
    refine wpAny_bind (wpAny_standAt (wpAny_bind (wpAny_of_eq (hs x) (wpAny_bind (wpAny_holding (thnF z4 fun it1 s5 z5 => ?_))))))
    refine wpAny_bind (wpAny_runOwn ?_)
    rw [Around.mark_none]
    refine codeAny_mono z5 fun r s' hr => ?_
    cases r with
    | error e => exact hr.elim
    | ok f => first | exact wpAny_pure ⟨rfl, hr⟩ | exact wpAny_bind (wpAny_pure (wpAny_pure ⟨rfl, hr⟩))
theorem loop_in (I : Nat → Shared → Prop) (turn : ∀ n s, I n s → wpAny (model prog w) A (pyNext it) (fun r s₁ => match r with
      | none => R (.ok .next) s₁
      | some u => wpAny (model prog w) A (letOwnedTupleGo t1 it u) (fun _ s₂ => wpAny (model prog w) A (assign t1 env u) (fun _ s₃ => wpAny (model prog w) A (eval elt env) (fun x s₄ =>
          wpAny (model prog w) A (call (.builtin "set.add") [acc, x]) (fun _ s₅ => ∃ m, m < n ∧ I m s₅) (fun _ _ => False) s₄) (fun _ _ => False) s₃) (fun _ _ => False) s₂) (fun _ _ => False) s₁) (fun _ _ => False) s)
    (n : Nat) (h : I n s) : codeAny (model prog w) A (.compLoop (sc2 elt t0 i0 t1 i1 sc pos) 1 it acc env) R s := by
  refine codeAny_loop rfl I (fun n s hI => ?_) n h
  show wpAny _ A ((compTurn (sc2 elt t0 i0 t1 i1 sc pos) 1 it acc env).onRaise (fun x => do noteFrame x env; theTreesLotGoes x)) _ _ s
  refine wpAny_noted ?_
  rw [turn_in]
  refine wpAny_bind (wpAny_standAt (wpAny_bind (thnF (turn n s hI) fun r s1 z1 => ?_)))
  cases r with
  | none => exact wpAny_pure z1
  | some u =>
    exact wpAny_bind (thnF z1 fun _ s2 z2 => wpAny_bind (thnF z2 fun _ s3 z3 => wpAny_bind (wpAny_bind (thnF z3 fun x s4 z4 => wpAny_bind (wpAny_standAt (wpAny_bind (thnF z4 fun _ s5 z5 => wpAny_pure (wpAny_pure ⟨rfl, z5⟩))))))))
theorem start_in (h0 : codeAny (model prog w) A (.compLoop (sc2 elt t0 i0 t1 i1 sc pos) 1 it acc env) R s)
    (h : wpAny (model prog w) A (pyIter it) (fun it' s' => codeAny (model prog w) A (.compLoop (sc2 elt t0 i0 t1 i1 sc pos) 1 it' acc env) R s') (notedBy (model prog w) A env fun x s' => R (.error x) s') s) :
    codeAny (model prog w) A (.compStart (sc2 elt t0 i0 t1 i1 sc pos) 1 it acc env) R s := by
  refine codeAny_of_tree ?_
  show wpAny _ _ ((compStart (sc2 elt t0 i0 t1 i1 sc pos) 1 it acc env).onRaise (fun x => do noteFrame x env; standAt theWindowsPlace)) _ _ s
  refine wpAny_notedAt ?_
  unfold compStart
  show wpAny _ _ (ask >>= _) _ _ s
  refine wpAny_bind (wpAny_askSetting (wpAny_ite ?_))
  split
  · first
      | exact wpAny_bind (wpAny_pure (wpAny_pure (And.intro rfl h0)))
      | exact wpAny_pure (And.intro rfl h0)
  · refine wpAny_bind (wpAny_rule ?_)
    show wpAny _ _ (standAt i1.pos >>= _) _ _ s
    exact wpAny_bind (wpAny_standAt (wpAny_bind (wpAny_mono h (fun it' s' h' => wpAny_pure (And.intro rfl h')) fun _ _ x => x)))
end
section
variable {X : Cx}
/-- a number is put into a set of numbers -/
theorem add_set {pins : List (Addr × Obj)} {σ : L2.St} {H : Hp} {s : Shared} {E : Value → Shared → Prop} {D : Addr} {S : Int → Bool} {n : Nat} {k : Int} {v : Value} {Q : Value → Shared → Prop} (I : Inv X pins σ H s) (hD : H D = some (SetO X.w D S n)) (hz : n + 1 < scanBound) (r : RelV (.int k) v)
    (h : ∀ s', Inv X pins σ (upd H D (SetO X.w D (fun j => S j || decide (j = k)) (if S k = true then n else n + 1))) s' → Q .none s') : wpAny (model X.prog X.w) X.A (call (.builtin "set.add") [.ref D, v]) Q E s := by
  obtain ⟨t, rfl⟩ := r
  refine setR_add (setO_get I hD) hz fun h' sb new => h _ ?_
  have he : ∃ u, h'.get? D = some u := let ⟨o, _, _, _, ho, _⟩ := new; ⟨o, ho⟩
  exact I.write (e := D) (t' := s.toks + 1) (by rw [hD]; trivial) (.inl rfl) (fun b u hb hu => (sb.2 b hb).trans hu) he (setO_new new)
def gS (w : World) (g : TG) (wi1 : TI) (g1 : TG) (te : TE) (vs vs1 : List Nat) (σ : L2.St) (Q : VK) (J : It) (D : Addr) (H0 : Hp) : Prop := ∃ W : Nat → Nat → Hp → Prop, (∃ m, W 0 m H0) ∧ ∀ i m H, W i m H →
  (J.stop i H ∧ Q (.ref D) H) ∨ (J.go i H ∧ ∃ Nx : Hp → Prop, (∀ H', Nx H' → ∃ m', m' < m ∧ W (i + 1) m' H') ∧ ∀ x H', J.yld i H x H' → g x (wipe σ vs) H' fun σ2 H2 => wipe σ2 vs = wipe σ vs ∧ wi1 σ2 H2 fun J1 H3 =>
    ∃ W1 : Nat → Nat → Hp → Prop, (∃ m, W1 0 m H3) ∧ ∀ j k H, W1 j k H → (J1.stop j H ∧ Nx H) ∨ (J1.go j H ∧ ∃ Nx1 : Hp → Prop, (∀ H', Nx1 H' → ∃ k', k' < k ∧ W1 (j + 1) k' H') ∧
      ∀ x H', J1.yld j H x H' → g1 x (wipe σ2 vs1) H' fun σ3 H5 => wipe σ3 vs1 = wipe σ2 vs1 ∧ te σ3 H5 fun y H6 => ∃ (k : Int) (S : Int → Bool) (n : Nat), y = .int k ∧ H6 D = some (SetO w D S n) ∧ n + 1 < scanBound ∧
        Nx1 (upd H6 D (SetO w D (fun j => S j || decide (j = k)) (if S k = true then n else n + 1)))))
def tSc2 (w : World) (wi : TI) (g : TG) (wi1 : TI) (g1 : TG) (te : TE) (vs vs1 : List Nat) : TE := fun σ H Q => wi σ H fun J H1 => ∀ D, H1 D = none → (D == sysModules) = false → gS w g wi1 g1 te vs vs1 σ Q J D (upd H1 D (SetO w D (fun _ => false) 0))
theorem sc2_loop {s3 s4 : Shared} {H3 : Hp} {fp : List Addr} {it D : Addr} {tn : Nat → Heap → Prop} {J : It} {σ : L2.St} {Q : VK} {elt tg iter tg1 iter1 : Expr} {sc : Scope} {own : List (PySem.Str × Nat)} {vs1 : List Nat} {pos : Pos} {g g1 : TG} {wi1 : TI} {te : TE}
    (hc : X.calm = true) (hv : ∀ i ∈ vs1, i ∈ own.map (·.2)) (hs1 : ∀ env x, foldedSetIterable iter1 env x = pure x)
    (hg : PG (bCx X s3 H3 sc fp) tg g) (hi1 : PI (bCx X s3 H3 sc fp) tg1 iter1 wi1) (hg1 : PG (bCx X s3 H3 sc fp) tg1 g1) (he : PE (bCx X s3 H3 sc fp) elt te)
    (T : Turn X.prog X.w X.K tg J fp it tn) (I : Inv (bCx X s3 H3 sc fp) [] (wipe σ (own.map (·.2))) H3 s4) (st : tn 0 s4.heap) (nf : ∀ b ∈ fp, H3 b = none) (h : gS X.w g wi1 g1 te (own.map (·.2)) vs1 σ Q J D H3) :
    codeAny (model X.prog X.w) X.A (.compLoop (sc2 elt tg iter tg1 iter1 sc pos) 0 (.ref it) (.ref D) (bEnv X s3 sc)) (fun r s' => match r with
        | .ok _ => ∃ H', Inv (bCx X s3 H3 sc fp) [] (wipe σ (own.map (·.2))) H' s' ∧ Q (.ref D) H'
        | .error _ => False) s4 := by
  obtain ⟨W, ⟨m0, w0⟩, turn⟩ := h
  refine loop_out (hs1 _) (fun n s' => ∃ i H', Inv (bCx X s3 H3 sc fp) [] (wipe σ (own.map (·.2))) H' s' ∧ tn i s'.heap ∧ (∀ b ∈ fp, H' b = none) ∧ W i n H') ?_ m0 ⟨0, H3, I, st, nf, w0⟩
  rintro n s5 ⟨i, H5, I5, st5, n5, w5⟩
  rcases turn i n H5 w5 with ⟨stop, qq⟩ | ⟨go, Nx, hNx, step⟩
  · refine thnF (T.done (bCx X s3 H3 sc fp) rfl rfl rfl hc i [] s5 _ H5 (fun _ _ => False) I5 (blk_fp I5 n5) st5 stop) fun r s6 z => ?_
    obtain ⟨rfl, I6⟩ := z
    exact ⟨H5, I6, qq⟩
  · refine thnF (draw (B := bCx X s3 H3 sc fp) T hc I5 st5 (blk_fp I5 n5) go) fun r s6 z => ?_
    obtain ⟨u, rfl, z⟩ := z
    refine thnF z fun _ s7 z => ?_
    obtain ⟨x, H7, rx, yl, pl, I7, back⟩ := z
    refine thnF (hg.run _ s7 _ H7 x u _ I7 rx (step x H7 yl)) fun _ s8 z => ?_
    obtain ⟨σ8, H8, I8, hw8, q8⟩ := z
    have hl8 : (wipe σ (own.map (·.2))).length = σ8.length := by rw [← hw8, wipe_length]
    have hk8 : ∀ (j : Nat) v, (wipe σ (own.map (·.2)))[j]? = some (some v) → (wipe σ8 vs1)[j]? = some (some v) := fun j v e => by
      rw [← hw8] at e
      obtain ⟨e1, e2⟩ := wipe_some e
      rw [wipe_out fun z => e2 (hv j z)]
      exact e1
    refine thnF (hi1.run _ s8 σ8 H8 _ I8 q8) fun xv s10 hx => thnF hx fun itv s11 z => ?_
    obtain ⟨it1, fp1, tn1, J1, H11, e1, I11, T1, st11, f11, W1, ⟨m1, w1⟩, turn1⟩ := z
    subst e1
    have lp : codeAny (model X.prog X.w) X.A (.compLoop (sc2 elt tg iter tg1 iter1 sc pos) 1 (.ref it1) (.ref D) (bEnv X s3 sc)) (fun r s' => match r with
          | .ok _ => ∃ m, m < n ∧ ∃ i H', Inv (bCx X s3 H3 sc fp) [] (wipe σ (own.map (·.2))) H' s' ∧ tn i s'.heap ∧ (∀ b ∈ fp, H' b = none) ∧ W i m H'
          | .error _ => False) s11 := by
      refine loop_in (fun k s' => ∃ j H', Inv (bCx X s3 H3 sc fp) ([] ++ pl) (wipe σ8 vs1) H' s' ∧ tn1 j s'.heap ∧ (∀ b ∈ fp1, H' b = none) ∧ W1 j k H') ?_ m1 ⟨0, H11, I11.weak (wipe_length _ _) (fun j v e => (wipe_some e).1), st11, fun b hb => (f11 b hb).1, w1⟩
      rintro k s12 ⟨j, H12, I12, st12, n12, w12⟩
      rcases turn1 j k H12 w12 with ⟨stop1, nx1⟩ | ⟨go1, Nx1, hNx1, step1⟩
      · refine thnF (T1.done (bCx X s3 H3 sc fp) rfl rfl rfl hc j _ s12 _ H12 (fun _ _ => False) I12 (fun b hb => ⟨n12 b hb, (f11 b hb).2⟩) st12 stop1) fun r s13 z => ?_
        obtain ⟨rfl, I13⟩ := z
        obtain ⟨I14, st14, n14⟩ := back I13
        obtain ⟨m', hm, w'⟩ := hNx H12 nx1
        exact ⟨m', hm, i + 1, H12, I14.weak (hl8.trans (wipe_length σ8 vs1).symm) hk8, st14, n14, w'⟩
      · refine thnF (draw (B := bCx X s3 H3 sc fp) T1 hc I12 st12 (fun b hb => ⟨n12 b hb, (f11 b hb).2⟩) go1) fun r s13 z => ?_
        obtain ⟨u1, rfl, z⟩ := z
        refine thnF z fun _ s14 z => ?_
        obtain ⟨x1, H14, r14, y14, pl1, I14, back1⟩ := z
        refine thnF (hg1.run _ s14 _ H14 x1 u1 _ I14 r14 (step1 x1 H14 y14)) fun _ s15 z => ?_
        obtain ⟨σ15, H15, I15, hw15, q15⟩ := z
        refine thnF (he.run _ s15 σ15 H15 _ I15 q15) fun ev s17 z => ?_
        obtain ⟨y, H17, I17, r17, kk, S, nn, ey, hD, room, nx⟩ := z
        subst ey
        refine add_set (X := bCx X s3 H3 sc fp) I17 hD room r17 fun s18 I18 => ?_
        obtain ⟨I19, st19, n19⟩ := back1 I18
        obtain ⟨k', hk', w'⟩ := hNx1 _ nx
        exact ⟨k', hk', j + 1, _, I19.weak (by rw [← hw15, wipe_length]) (fun j v e => by rw [← hw15] at e; exact (wipe_some e).1), st19, n19, w'⟩
    exact start_in lp (T1.self X.A 0 _ _ _ st11 lp)
theorem pe_sc2 {elt tg iter tg1 iter1 : Expr} {sc : Scope} {own : List (PySem.Str × Nat)} {vs1 : List Nat} {pos : Pos} {wi wi1 : TI} {g g1 : TG} {te : TE} (hc : X.calm = true) (hN : X.N.Nodup) (hi : PI X tg iter wi) (ok : BlkOk X.N X.env.scope sc own) (hv : ∀ i ∈ vs1, i ∈ own.map (·.2))
    (hg : ∀ (s : Shared) (H : Hp) (C : Addr) (cl : List (PySem.Str × Addr)) (fp : List Addr), PG (X.blk s H sc (compEnvC sc cl C X.env) fp) tg g)
    (hi1 : ∀ (s : Shared) (H : Hp) (C : Addr) (cl : List (PySem.Str × Addr)) (fp : List Addr), PI (X.blk s H sc (compEnvC sc cl C X.env) fp) tg1 iter1 wi1)
    (hg1 : ∀ (s : Shared) (H : Hp) (C : Addr) (cl : List (PySem.Str × Addr)) (fp : List Addr), PG (X.blk s H sc (compEnvC sc cl C X.env) fp) tg1 g1)
    (he : ∀ (s : Shared) (H : Hp) (C : Addr) (cl : List (PySem.Str × Addr)) (fp : List Addr), PE (X.blk s H sc (compEnvC sc cl C X.env) fp) elt te) (hs : ∀ x, foldedSetIterable iter X.env x = pure x := by intro _; rfl) (hs1 : ∀ env x, foldedSetIterable iter1 env x = pure x := by intro _ _; rfl) :
    PE X (.SetComp elt [⟨tg, iter, [], 0⟩, ⟨tg1, iter1, [], 0⟩] sc pos) (tSc2 X.w wi g wi1 g1 te (own.map (·.2)) vs1) := by
  refine ⟨fun pins s σ H Q I h => ?_⟩
  rw [PpSet.eval_SetComp]
  exact blk_run (o0 := fun D => SetO X.w D (fun _ => false) 0) (ob := { cls := .type "set", dict := none, data := .set #[] 0 (.fresh 0 0 (!X.w.params.followText "set-order")) }) (use := none) rfl hc hN I hi ok hs
    (fun s Q E q => PpSet.newSet_ok q) (fun h H hb => setO_new (setR_fresh X.w)) h
    (fun A it acc env R s a b => PpSet.codeAny_compStart_set a b) (fun s3 H3 fp it D tn J s4 T I4 st4 n4 g0 => sc2_loop hc hv hs1 (hg _ _ _ _ _) (hi1 _ _ _ _ _) (hg1 _ _ _ _ _) (he _ _ _ _ _) T I4 st4 n4 g0) blk_val
end
end K36
-- text R5
set_option maxRecDepth 100000
set_option maxHeartbeats 4000000
namespace K36
open PySem PySem.Spec PyProof.Rows L2

/-! ### enumerate(tuple) -/
theorem meets_enum1 {v : Value} {o : Obj} {H : Heap → Prop} (B : Begins v o H) :
    Meets (Builtin.«enumerate.__new__» ⟨[.type "enumerate", v], []⟩) (fun _ R s => H s.heap ∧
      R (.ok (.ret (.ref (s.heap.push o).objs.size))) { s with heap := (s.heap.push o).push { cls := .type "enumerate", data := .fields #[.none, .bool false, .ref s.heap.objs.size, rawInt 0, .none, .none] } }) :=
  .of_wp fun prog w A R s h => by
    obtain ⟨hp, g, d, tk, os⟩ := s
    obtain ⟨h1, h⟩ := h
    have hsub := sub_enumerate
    have q1 : ∀ {A' : Around} {E : Value → Shared → Prop} {Q : Value → Shared → Prop}, Q (.ref hp.objs.size) ⟨hp.push o, g, d, tk, os⟩ → wpAny (model prog w) A' (pyIter v) Q E ⟨hp, g, d, tk, os⟩ :=
      fun q => B.iter prog w _ _ ⟨hp, g, d, tk, os⟩ _ h1 q
    wp_walk using q1
    refine wpAny_stack_any fun st => wpAny_pure ?_
    split
    · rename_i c _ _ _ _ _
      cases (c == Value.type "enumerate") <;> (wp_walk using q1; exact ⟨_, rfl, h⟩)
    · wp_walk using q1
      exact ⟨_, rfl, h⟩
section
variable {prog : Program} {w : World} {A : Around} {E : Value → Shared → Prop} {s : Shared}
theorem enum1_begins {v : Value} {o : Obj} {H : Heap → Prop} {Q : Value → Shared → Prop} (B : Begins v o H) (h1 : H s.heap)
    (h : ∀ h', IsEnum h' (s.heap.objs.size + 1) s.heap.objs.size 0 .none → h'.get? s.heap.objs.size = some o → (∀ b o, s.heap.get? b = some o → h'.get? b = some o) → Q (.ref (s.heap.objs.size + 1)) { s with heap := h' }) :
    wpAny (model prog w) A (call (.type "enumerate") [v]) Q E s := by
  refine callType_new F.called_enumerate (by decide) (F.typeCall_enumerate_1 _) (F.newCall_enumerate_1 _) (fun obj => F.args_object_init_2 obj _) F.entry_enumerate_new (meets_enum1 B) ⟨h1, ?_⟩
  have hz : (s.heap.push o).objs.size = s.heap.objs.size + 1 := Heap.size_push ..
  show _ ∧ _
  rw [hz]
  have he : IsEnum ((s.heap.push o).push { cls := .type "enumerate", data := .fields #[.none, .bool false, .ref s.heap.objs.size, rawInt 0, .none, .none] }) (s.heap.objs.size + 1) s.heap.objs.size 0 .none := by
    have q := Heap.get?_push_size (s.heap.push o) (o := { cls := .type "enumerate", data := .fields #[.none, .bool false, .ref s.heap.objs.size, rawInt 0, .none, .none] }) rfl
    rw [hz] at q
    exact q
  exact ⟨⟨_, he, rfl⟩, h _ he (Heap.get?_push_of_some _ (Heap.get?_push_size _ B.free)) fun b o x => Heap.get?_push_of_some _ (Heap.get?_push_of_some _ x)⟩
end
/-- the tuple at a, each item in a new pair -/
def Iet (K : PySem.W.Frag) (a : Addr) : It :=
  ⟨fun i H => ∃ (xs : List V) (x : V), SqT K H a xs ∧ xs[i]? = some x, fun i H v H' => ∃ T x, v = .ref T ∧ H T = none ∧ H' = upd H T (.tup [.int (i : Nat), x]) ∧ ∀ xs, SqT K H a xs → xs[i]? = some x, fun i H => ∃ xs : List V, SqT K H a xs ∧ xs.length ≤ i⟩
theorem turn_enumT {P : Program} {w : World} {K : PySem.W.Frag} {elts : List Expr} {kk : Nat} {tpos : Pos} (a e it : Addr) :
    Turn P w K (.Tuple elts kk tpos) (Iet K a) [e, it] e (fun i h => (∃ old, IsEnum h e it ((i : Nat) : Int) old) ∧ h.IsTupleIter it a i ∧ e ≠ it ∧ a ≠ it ∧ e ≠ a) where
  mem := by simp
  obj := fun i h st b hb => by
    obtain ⟨⟨old, he⟩, ⟨o, ho, hc, hd⟩, _⟩ := st
    rcases (by simpa using hb : b = e ∨ b = it) with z | z
    · rw [z]; exact ⟨_, he, fun v q => nomatch q⟩
    · rw [z]; exact ⟨o, ho, fun v q => by rw [hd] at q; cases q⟩
  keep := fun i h h' st k => let ⟨⟨old, he⟩, hi, hne⟩ := st; ⟨⟨old, k e (by simp) _ he⟩, hi.at fun o q => k it (by simp) o q, hne⟩
  item := by
    intro X hP hw hK hc i pins s σ H E I hf st hg
    subst hP hw hK
    obtain ⟨⟨old, he⟩, hit, hne, ha, hea⟩ := st
    obtain ⟨xs, x, hq, hx⟩ := hg
    obtain ⟨its, rv, p, hz⟩ := I.tuple hq
    have hel : e < s.heap.objs.size := Heap.lt_size he
    have hil : it < s.heap.objs.size := let ⟨_, q, _⟩ := hit; Heap.lt_size q
    have hl : i < its.toArray.size := by
      have := (List.getElem?_eq_some_iff.mp hx).1
      rw [rv.length] at this
      simpa using this
    refine wpAny_pyNext_enum_itemD (Draws.tuple (show X.A.in1.handled = none from I.ok.hd hc) it a ha its.toArray) he ⟨hit, p⟩ hl hne (by simp [hne, hea]) fun v h' tk hv ho st' hT hsz hk => ?_
    refine ⟨_, rfl, wpAny_letOwnedTupleGo_enum (s := { s with heap := h', toks := tk + 1 }) ho fun h'' he' sb => ?_⟩
    obtain ⟨u, hu, ru⟩ := rv.get hx
    have ev : v = u := by
      have h1 : its.toArray[i]? = some u := by simpa using hu
      rw [hv] at h1
      exact Option.some.inj h1
    subst ev
    have hT2 : h''.get? s.heap.objs.size = some { cls := .type "tuple", data := .seq #[.int i tk, v] } := (sb.2 _ (Nat.ne_of_gt hel)).trans hT
    have new : ObjOk X.prog X.w (upd H s.heap.objs.size (.tup [.int (i : Nat), x])) h'' s.heap.objs.size (.tup [.int (i : Nat), x]) :=
      ⟨by show 2 ≤ sizeLine; decide, [.int i tk, v], .cons ⟨_, rfl⟩ (.cons ru .nil), ⟨_, hT2, rfl, _, rfl⟩⟩
    have I1 : Inv X pins σ (upd H s.heap.objs.size (.tup [.int (i : Nat), x])) { s with heap := h'', toks := tk + 1 } :=
      I.turnedNew (ch := [e, it]) (fun b ob hb q => (sb.2 b (fun z => hb (by simp [z]))).trans (hk b ob (fun z => hb (by simp [z])) (fun z => hb (by simp [z])) q)) hf (Nat.le_refl _) new
    refine ⟨.ref s.heap.objs.size, _, I1, rfl, ⟨_, x, rfl, I.hok.fresh (Nat.le_refl _), rfl, fun ys hy => by rw [I.tuple_inj hy hq]; exact hx⟩, ⟨⟨v, ?_⟩, st'.1.at fun o q => (sb.2 it (Ne.symm hne)).trans q, hne, ha, hea⟩, fun b hb => ?_⟩
    · rw [show ((i + 1 : Nat) : Int) = (i : Int) + 1 by omega]; exact he'
    · have hb' : b < s.heap.objs.size := by
        rcases (by simpa using hb : b = e ∨ b = it) with z | z
        · rw [z]; exact hel
        · rw [z]; exact hil
      rw [upd_ne (Nat.ne_of_lt hb')]
      exact (hf b hb).1
  done := by
    intro X hP hw hK hc i pins s σ H E I hf st hg
    subst hP hw hK
    obtain ⟨⟨old, he⟩, hit, hne, ha, hea⟩ := st
    obtain ⟨xs, hq, hx⟩ := hg
    obtain ⟨its, rv, p, hz⟩ := I.tuple hq
    obtain ⟨f0, f1, f2, f3, f4, f5⟩ := hf it (by simp)
    have hl := rv.length
    have hT : s.TypeIs (.ref e) "enumerate" := ⟨_, he, rfl⟩
    unfold pyNext
    refine wpAny_bind (wpAny_attempt (wpAny_callSpecial?_slot (name := Str.ofString "__next__") hT F.slot_enumerate_next (wpAny_call_entry F.slot_enumerate_next hT F.entry_enumerate_next ?_ (F.args_enumerate_next_1 _))))
    show wpAny _ _ (field (.ref e) 2 >>= _) _ _ _
    refine wpAny_bind (wpAny_field he rfl (x := .ref it) rfl ?_)
    refine wpAny_bind (wpAny_nextOf_tuple_end (show X.A.in1.handled = none from I.ok.hd hc) hit p (by simp; omega) fun h' x he' hx' => ?_)
    obtain ⟨o, ho, hc⟩ := hx'
    refine wpAny_bind (wpAny_isInstance (T := "StopIteration") (b := true) ⟨o, ho, hc⟩ isSubtype_stop ?_)
    exact wpAny_pure ⟨rfl, I.turned (t' := s.toks) (fun b o hb q => he' b o hb q) f0 f1 f3 f4 f5⟩
  self := fun A i s Q E st h => let ⟨⟨_, he⟩, _⟩ := st; wpAny_pyIter_enum he h
def iEnumT (K : PySem.W.Frag) (ta : TA) : TI := fun σ H R => ta σ H fun vs H1 => ∃ a xs, vs = [.ref a] ∧ SqT K H1 a xs ∧ R (Iet K a) H1
theorem pi_enumT {X : Cx} {e : Expr} {ta : TA} {p pos tpos : Pos} {elts : List Expr} {kk : Nat} (hg : Gl X "enumerate") (hm : X.mg "enumerate" = none) (ha : PA X [e] ta) (hs : starEach [e] X.env = [(false, eval e X.env)] := by rfl) :
    PI X (.Tuple elts kk tpos) (.Call (.Name "enumerate" p) [e] [] pos) (iEnumT X.K ta) := by
  refine ⟨fun pins s σ H R I h => ?_⟩
  refine Call_ (ld_blt I hg hm boot_enumerate (PyProof.Rows.callWith_type1 (thn (ha.run pos pins s σ H _ I h) fun us s1 z => ?_) hs rfl))
  obtain ⟨vs, H1, I1, r1, a, xs, ex, hq, q⟩ := z
  subst ex
  cases r1 with
  | cons r rr =>
    cases rr
    cases r
    obtain ⟨its, rv, tp, hz⟩ := I1.tuple hq
    have hal : a < s1.heap.objs.size := tp.lt
    refine enum1_begins (begins_tuple a its.toArray) tp fun h' he hit hk => wpAny_pyIter_enum he ?_
    refine ⟨s1.heap.objs.size + 1, [s1.heap.objs.size + 1, s1.heap.objs.size], _, _, H1, rfl, I1.kept (t' := s1.toks) hk, turn_enumT a (s1.heap.objs.size + 1) s1.heap.objs.size,
      ⟨⟨.none, he⟩, ⟨_, hit, rfl, rfl⟩, Nat.succ_ne_self _, Nat.ne_of_lt hal, Nat.ne_of_gt (Nat.lt_succ_of_lt hal)⟩, fun b hb => ?_, q⟩
    have hle : s1.heap.objs.size ≤ b := by
      rcases (by simpa using hb : b = s1.heap.objs.size + 1 ∨ b = s1.heap.objs.size) with z | z
      · rw [z]; exact Nat.le_add_right _ _
      · rw [z]; exact Nat.le_refl _
    exact I1.fpOk hle (I1.hok.fresh hle)
theorem walk_enumT {K : PySem.W.Frag} {a : Addr} {xs : List V} : Walk (Iet K a) xs.length (fun H => SqT K H a xs) (YPair (fun i => some (.int (i : Nat))) (fun i => xs[i]?)) := by
  refine ⟨fun i _ hi q => ⟨xs, xs[i], q, by simp [hi]⟩, fun _ q => ⟨xs, q, Nat.le_refl _⟩, fun i H v H' _ q y => ?_⟩
  obtain ⟨T, x, h1, h2, h3, h4⟩ := y
  exact ⟨T, .int (i : Nat), x, h1, h2, h3, rfl, h4 xs q⟩

/-! ### the nested dict, walked by its keys and by its items; it is not locked: the turns want it as it was -/
def NI (xs : List NX) : Prop := ∀ x ∈ xs, ∃ z t, x.2.2 = .int z t
def Iki (w : World) (d : Addr) (xs : List NX) (ep : Nat) : It :=
  ⟨fun i H => H d = some (nO w d xs ep) ∧ i < xs.length, fun i H v H' => H' = H ∧ ∃ x, xs[i]? = some x ∧ v = .ref x.2.1, fun i H => H d = some (nO w d xs ep) ∧ xs.length ≤ i⟩
def Iii (w : World) (d : Addr) (xs : List NX) (ep : Nat) : It :=
  ⟨fun i H => H d = some (nO w d xs ep) ∧ i < xs.length, fun i H v H' => ∃ T x z t, xs[i]? = some x ∧ x.2.2 = .int z t ∧ v = .ref T ∧ H T = none ∧ H' = upd H T (.tup [.ref x.2.1, .int z]), fun i H => H d = some (nO w d xs ep) ∧ xs.length ≤ i⟩
theorem nkeyit_at {h h' : Heap} {it d : Addr} {i n ep : Nat} (x : h.IsKeyIter it d i n ep) (k : ∀ o, h.get? it = some o → h'.get? it = some o) : h'.IsKeyIter it d i n ep := x.at k
theorem turn_nkeys {P : Program} {w : World} {K : PySem.W.Frag} {tg : Expr} {d : Addr} {xs : List NX} {ep : Nat} (it : Addr) : Turn P w K tg (Iki w d xs ep) [it] it (fun i h => h.IsKeyIter it d i xs.length ep) where
  mem := by simp
  obj := fun i h st b hb => by
    obtain rfl : b = it := by simpa using hb
    obtain ⟨oi, e, c, dd⟩ := st
    exact ⟨oi, e, fun v z => by rw [dd] at z; cases z⟩
  keep := fun i h h' st k => st.at fun oi e => k it (by simp) oi e
  item := by
    intro X hP hw hK hc i pins s σ H E I hf st hg
    subst hP hw hK
    obtain ⟨hd, hi⟩ := hg
    obtain ⟨f0, f1, f2, f3, f4, f5⟩ := hf it (by simp)
    obtain ⟨o, ho, hx, hdt⟩ := n_raw I hd
    have hx' : xs[i]? = some xs[i] := List.getElem?_eq_getElem hi
    refine next_key_item (en := nent X.w xs[i]) st ho hdt (by simp) (by simp [hi]) fun h' st' sb => ?_
    have I1 : Inv X pins σ H { s with heap := h' } := I.turned (t' := s.toks) (fun b ob hb e => (sb.2 b hb).trans e) f0 f1 f3 f4 f5
    obtain ⟨oi, e, c, dd⟩ := id st'
    exact ⟨_, rfl, go_of (s := { s with heap := h' }) e c dd (by decide) ⟨.ref xs[i].2.1, H, I1, rfl, ⟨rfl, xs[i], hx', rfl⟩, st', fun b hb => (hf b hb).1⟩⟩
  done := by
    intro X hP hw hK hc i pins s σ H E I hf st hg
    subst hP hw hK
    obtain ⟨hd, hi⟩ := hg
    obtain ⟨f0, f1, f2, f3, f4, f5⟩ := hf it (by simp)
    obtain ⟨o, ho, hx, hdt⟩ := n_raw I hd
    exact next_key_end (I.ok.hd hc) st ho hdt (by simp) hi fun h' eb => ⟨rfl, I.turned (t' := s.toks) (fun b ob hb e => eb b ob hb e) f0 f1 f3 f4 f5⟩
  self := fun A i s Q E st h => by
    refine wpAny_pyIter_slot st.typeIs F.slot_dict_keyiterator_iter (wpAny_call_entry F.slot_dict_keyiterator_iter st.typeIs F.entry_dict_keyiterator_iter ?_ (F.args_dict_keyiterator_iter_1 _))
    show wpAny _ _ (ret (.ref it)) _ _ s
    exact wpAny_pure ⟨_, rfl, "dict_keyiterator", _, st.typeIs, F.slot_dict_keyiterator_next.lookup, h⟩
theorem turn_nitems {P : Program} {w : World} {K : PySem.W.Frag} {d : Addr} {xs : List NX} {ep : Nat} {elts : List Expr} {kk : Nat} {tpos : Pos} (hn : NI xs) (it : Addr) :
    Turn P w K (.Tuple elts kk tpos) (Iii w d xs ep) [it] it (fun i h => ∃ ok ov, IsItemIter h it d i xs.length ep ok ov) where
  mem := by simp
  obj := fun i h st b hb => by
    obtain rfl : b = it := by simpa using hb
    obtain ⟨ok, ov, e⟩ := st
    exact ⟨_, e, fun v z => nomatch z⟩
  keep := fun i h h' st k => let ⟨ok, ov, e⟩ := st; ⟨ok, ov, k it (by simp) _ e⟩
  item := by
    intro X hP hw hK hc i pins s σ H E I hf st hg
    subst hP hw hK
    obtain ⟨hd, hi⟩ := hg
    have raw := n_raw I hd
    obtain ⟨ok, ov, he⟩ := st
    have hx' : xs[i]? = some xs[i] := List.getElem?_eq_getElem hi
    obtain ⟨z, t, hz⟩ := hn xs[i] (List.getElem_mem hi)
    have hlt : it < s.heap.objs.size := Heap.lt_size he
    have hsz : ((xs.map (nent X.w)).toArray).size = xs.length := by simp
    rw [← hsz] at he
    refine wpAny_pyNext_items_item_raw he raw (by rw [hsz]; exact hi) fun h' ho hT hz' hk => ?_
    have en : (xs.map (nent X.w)).toArray[i]'(by rw [hsz]; exact hi) = nent X.w xs[i] := by simp
    rw [en] at ho hT
    refine ⟨_, rfl, wpAny_letOwnedTupleGo_items (s := { s with heap := h' }) ho fun h'' he' sb => ?_⟩
    have hT2 : h''.get? s.heap.objs.size = some { cls := .type "tuple", data := .seq #[.ref xs[i].2.1, xs[i].2.2] } := (sb.2 _ (Nat.ne_of_gt hlt)).trans hT
    have new : ObjOk X.prog X.w (upd H s.heap.objs.size (.tup [.ref xs[i].2.1, .int z])) h'' s.heap.objs.size (.tup [.ref xs[i].2.1, .int z]) :=
      ⟨by show 2 ≤ sizeLine; decide, [.ref xs[i].2.1, xs[i].2.2], .cons rfl (.cons (by rw [hz]; exact ⟨t, rfl⟩) .nil), ⟨_, hT2, rfl, _, rfl⟩⟩
    have I1 : Inv X pins σ (upd H s.heap.objs.size (.tup [.ref xs[i].2.1, .int z])) { s with heap := h'' } :=
      I.turnedNew (t' := s.toks) (ch := [it]) (fun b ob hb e => (sb.2 b (by simpa using hb)).trans (hk b ob (by simpa using hb) e)) hf (Nat.le_refl _) new
    have st2 : ∃ ok ov, IsItemIter h'' it d (i + 1) xs.length ep ok ov := ⟨_, _, hsz ▸ he'⟩
    refine ⟨.ref s.heap.objs.size, _, I1, rfl, ⟨_, xs[i], z, t, hx', hz, rfl, I.hok.fresh (Nat.le_refl _), rfl⟩, st2, fun b hb => ?_⟩
    · obtain rfl : b = it := by simpa using hb
      rw [upd_ne (Nat.ne_of_lt hlt)]
      exact (hf b (by simp)).1
  done := by
    intro X hP hw hK hc i pins s σ H E I hf st hg
    subst hP hw hK
    obtain ⟨hd, hi⟩ := hg
    obtain ⟨f0, f1, f2, f3, f4, f5⟩ := hf it (by simp)
    obtain ⟨ok, ov, he⟩ := st
    have hsz : ((xs.map (nent X.w)).toArray).size = xs.length := by simp
    rw [← hsz] at he hi
    exact wpAny_pyNext_items_end_raw (I.ok.hd hc) he (n_raw I hd) hi fun h' eb => ⟨rfl, I.turned (t' := s.toks) (fun b ob hb e => eb b ob hb e) f0 f1 f3 f4 f5⟩
  self := fun A i s Q E st h => let ⟨_, _, e⟩ := st; PySem.W.kcp_self e h
def iNKeys (w : World) (td : TE) : TI := fun σ H R => td σ H fun x H1 => ∃ d xs ep, x = .ref d ∧ (d == sysModules) = false ∧ H1 d = some (nO w d xs ep) ∧ R (Iki w d xs ep) H1
def iNItems (w : World) (td : TE) : TI := fun σ H R => td σ H fun x H1 => ∃ d xs ep, x = .ref d ∧ (d == sysModules) = false ∧ H1 d = some (nO w d xs ep) ∧ NI xs ∧ R (Iii w d xs ep) H1
section
variable {X : Cx} {tg e : Expr} {td : TE} {apos cpos : Pos}
theorem pi_nkeys (he : PE X e td) : PI X tg e (iNKeys X.w td) := by
  refine ⟨fun pins s σ H R I h => ?_⟩
  refine thn (he.run pins s σ H _ I h) fun u s1 z => ?_
  obtain ⟨x, H1, I1, rx, d, xs, ep, ex, hs, hd, q⟩ := z
  subst ex
  obtain rfl : u = Value.ref d := rx
  obtain ⟨o, ho, hx, hdt⟩ := n_raw I1 hd
  refine iter_keys hs ho hx hdt (pi_one (tk := s1.toks) I1 _ (turn_nkeys _) ⟨_, Heap.get?_push_size _ rfl, rfl, ?_⟩ q)
  simp
theorem pi_nitems {elts : List Expr} {kk : Nat} {tpos : Pos} (he : PE X e td) (hbase : attributeBase e "items" X.env (eval e X.env) = eval e X.env := by rfl) (hline : (apos.endLine == cpos.line) = true := by rfl) :
    PI X (.Tuple elts kk tpos) (.Call (.Attribute e "items" apos) [] [] cpos) (iNItems X.w td) := by
  refine ⟨fun pins s σ H R I h => ?_⟩
  refine wpAny_Call_method (T := "dict") (id := "dict.items") hbase rfl hline F.plainAttrs_dict F.slot_dict_items F.type_dict_items (thn (he.run pins s σ H _ I h) fun u s1 z => ?_)
  obtain ⟨x, H1, I1, rx, d, xs, ep, ex, hs, hd, hn, q⟩ := z
  subst ex
  obtain rfl : u = Value.ref d := rx
  have raw := n_raw I1 hd
  obtain ⟨o, ho, hx, hdt⟩ := id raw
  refine ⟨⟨o, ho, hx.1⟩, fun c q => ?_, ?_⟩
  · cases q
    exact ⟨o, ho, hx.2.1⟩
  have I2 : Inv X pins σ H1 { s1 with heap := s1.heap.push { cls := .type "dict_items", data := .fields #[.ref d] } } := I1.kept (t' := s1.toks) fun b ob q => Heap.get?_push_of_some _ q
  have fin : wpAny (model X.prog X.w) X.A (pyIter (.ref s1.heap.objs.size)) (PIE X pins σ (.Tuple elts kk tpos) R) X.xe { s1 with heap := s1.heap.push { cls := .type "dict_items", data := .fields #[.ref d] } } := by
    refine wpAny_pyIter_items_raw (d := d) ⟨_, Heap.get?_push_size _ rfl, rfl, rfl⟩ (raw.at fun o e => Heap.get?_push_of_some _ e) (pi_one (tk := s1.toks) I2 _ (turn_nitems hn _) ⟨.none, .none, ?_⟩ q)
    have hz := Heap.get?_push_size (s1.heap.push { cls := .type "dict_items", data := .fields #[.ref d] }) (o := { cls := .type "dict_itemiterator", data := .fields #[.none, .bool false, .ref d, .int 0 0, .int ((xs.map (nent X.w)).toArray.size) 0, .int ep 0, .none, .none] }) rfl
    have hsz : ((xs.map (nent X.w)).toArray).size = xs.length := by simp
    rw [hsz] at hz ⊢
    exact hz
  show wpAny _ _ (callWith cpos (.builtin "dict.items") [.ref d] [] []) _ X.xe s1
  exact method_meetsIn F.slot_dict_items F.entry_dict_items rfl (PySem.evalArgs_none ⟨rfl, ⟨o, ho, hx.1⟩, F.args_dict_items_1 _, _, meets_dict_items_raw d hs, ⟨⟨_, _, raw⟩, fin⟩⟩)
end
/-- turns over the keys, the items, by the table -/
theorem nrel_at {H : Hp} : ∀ {M : Tb} {xs : List NX} {i : Nat} {x : NX}, Paired (NOne H) M xs → xs[i]? = some x → ∃ m, M[i]? = some m ∧ NOne H m x
  | _, _, i, x, .nil, h => by simp at h
  | _, _, 0, x, .cons r t, h => ⟨_, rfl, by simp at h; rw [← h]; exact r⟩
  | _, _, i + 1, x, .cons r t, h => by
    simp only [List.getElem?_cons_succ] at h ⊢
    exact nrel_at t h
theorem nrel_ni {H : Hp} : ∀ {M : Tb} {xs : List NX}, Paired (NOne H) M xs → NI xs
  | _, _, .nil, x, hx => by simp at hx
  | _, _, .cons r t, x, hx => by
    rcases List.mem_cons.mp hx with e | hx
    · rw [e]; exact ⟨_, r.2.2⟩
    · exact nrel_ni t x hx
theorem walk_nkeys {w : World} {d : Addr} {xs : List NX} {ep : Nat} {M : Tb} : Walk (Iki w d xs ep) M.length (fun H => H d = some (nO w d xs ep) ∧ Paired (NOne H) M xs)
    (fun i H v H' => H' = H ∧ ∃ J z b, M[i]? = some (J, z) ∧ v = .ref b ∧ KeyAt H b J) :=
  ⟨fun i H hi q => ⟨q.1, by rw [← nrel_len q.2]; exact hi⟩, fun H q => ⟨q.1, by rw [nrel_len q.2]; exact Nat.le_refl _⟩, fun i H v H' hi q y => by
    obtain ⟨e, x, hx, ev⟩ := y
    obtain ⟨m, hm, r⟩ := nrel_at q.2 hx
    exact ⟨e, m.1, m.2, x.2.1, hm, ev, r.2.1⟩⟩
theorem walk_nitems {w : World} {d : Addr} {xs : List NX} {ep : Nat} {M : Tb} : Walk (Iii w d xs ep) M.length (fun H => H d = some (nO w d xs ep) ∧ Paired (NOne H) M xs)
    (fun i H v H' => ∃ T J z b, M[i]? = some (J, z) ∧ v = .ref T ∧ H T = none ∧ H' = upd H T (.tup [.ref b, .int z]) ∧ KeyAt H b J) :=
  ⟨fun i H hi q => ⟨q.1, by rw [← nrel_len q.2]; exact hi⟩, fun H q => ⟨q.1, by rw [nrel_len q.2]; exact Nat.le_refl _⟩, fun i H v H' hi q y => by
    obtain ⟨T, x, z, t, hx, hz, ev, hT, e⟩ := y
    obtain ⟨m, hm, r⟩ := nrel_at q.2 hx
    obtain ⟨t', r3⟩ := r.2.2
    have ez : m.2 = z := by rw [r3] at hz; cases hz; rfl
    exact ⟨T, m.1, z, x.2.1, by rw [hm, ← ez], ev, hT, e, r.2.1⟩⟩
end K36
-- text R6
set_option maxRecDepth 100000
set_option maxHeartbeats 4000000
namespace K36
open PySem PySem.Spec PyProof.Rows L2

/-! ### displays of one pair whose key is an object -/
section
variable {X : Cx} {pos : Pos} {k v : Expr} {tk tv : TE}
/-- {k: v}, k a tuple of ints or texts -/
def tDisT (tk tv : TE) : TE := fun σ H Q => ∀ p, H p = none → tk σ (upd H p (.dT [])) fun x H1 => tv σ H1 fun y H2 => H2 p = some (.dT []) ∧ ∃ b ks, x = .ref b ∧ H2 b = some (.tup (ks.map kV)) ∧ Q (.ref p) (upd H2 p (.dT [(ks, y)]))
theorem pe_disT (hu : X.A.units + 64 < cLine) (hk : PE X k tk) (hv : PE X v tv) : PE X (.Dict [some k] [v] pos) (tDisT tk tv) := by
  refine ⟨fun pins s σ H Q I h => ?_⟩
  rw [arm_eval_Dict, zip_pairTrees [some k] [v] X.env pos rfl rfl, dictDisplay_pairs _ (by simp [pairTrees]) (by simp [pairTrees])]
  have hn := I.hok.fresh (Nat.le_refl s.heap.objs.size)
  have I1 := I.laid (a := s.heap.objs.size) (o := .dT []) (h' := s.heap.push { cls := .type "dict", data := .dict #[] }) (t' := s.toks) (fun _ _ q => Heap.get?_push_of_some _ q) (Nat.le_refl _) (dt_empty s.heap I.big)
  refine wpAny_bind (wpAny_standAt (wpAny_bind (wpAny_subDictH (knd := tupleKind (mixKind X.prog X.w)) (by show X.A.units < cLine; omega) (by simp [pairTrees]) ?_)))
  refine pairTrees_cons_walk (thn (hk.run pins _ σ _ _ I1 (h _ hn)) fun u s1 z => ?_)
  obtain ⟨x, H1, J1, rx, q1⟩ := z
  refine thn (hv.run pins s1 σ H1 _ J1 q1) fun w2 s2 z => ?_
  obtain ⟨y, H2, J2, ry, e, b, ks, ex, hb, q2⟩ := z
  subst ex
  obtain rfl : u = Value.ref b := rx
  refine pairTrees_nil_walk ?_
  obtain ⟨z, hd, xs0, r0, dd⟩ := dt_of J2.hok e
  cases r0
  refine ⟨[(ks, b, w2)], ⟨rfl, rfl, key_of J2.hok hb, trivial⟩, dd, fun h' tok dd' sb => wpAny_pure ⟨.ref s.heap.objs.size, _, ?_, rfl, q2⟩⟩
  obtain ⟨o, es, ep, ho, hx, hdt, he, his, hnd⟩ := dd'
  refine d_write J2 (by rw [e]; exact True.intro) sb ⟨o, ho⟩ ⟨by show 1 ≤ sizeLine; decide, hd, _, .cons ⟨rfl, ?_, ry⟩ .nil, o, es, ep, ho, hx, hdt, he, hnd⟩
  rw [upd_ne (ne_of hb e fun z => by cases z)]
  exact hb
/-- {k: v}, k a tuple ((ints), 0), v an int -/
def tDisN (w : World) (tk tv : TE) : TE := fun σ H Q => ∀ p, H p = none → tk σ (upd H p (nO w p [] 0)) fun x H1 => tv σ H1 fun y H2 => H2 p = some (nO w p [] 0) ∧ ∃ b J z, x = .ref b ∧ y = .int z ∧ KeyAt H2 b J ∧
  ∀ H3, NTab w H3 p [(J, z)] → (∀ c o, c ≠ p → H2 c = some o → H3 c = some o) → (∀ c, c ≠ p → H2 c = none → H3 c = none) → Q (.ref p) H3
theorem pe_disN (hu : X.A.units + 64 < cLine) (hk : PE X k tk) (hv : PE X v tv) : PE X (.Dict [some k] [v] pos) (tDisN X.w tk tv) := by
  refine ⟨fun pins s σ H Q I h => ?_⟩
  rw [arm_eval_Dict, zip_pairTrees [some k] [v] X.env pos rfl rfl, dictDisplay_pairs _ (by simp [pairTrees]) (by simp [pairTrees])]
  have hn := I.hok.fresh (Nat.le_refl s.heap.objs.size)
  have I1 := I.laid (a := s.heap.objs.size) (o := nO X.w s.heap.objs.size [] 0) (h' := s.heap.push { cls := .type "dict", data := .dict #[] }) (t' := s.toks) (fun _ _ q => Heap.get?_push_of_some _ q) (Nat.le_refl _)
    ⟨⟨_, Heap.get?_push_size _ rfl, ⟨rfl, rfl, rfl⟩, rfl⟩, ⟨_, Heap.get?_push_size _ rfl⟩, fun h1 h2 p k => p.at k⟩
  refine wpAny_bind (wpAny_standAt (wpAny_bind (wpAny_subDictH (knd := nestedKind X.prog X.w) (by show X.A.units + 8 < cLine; omega) (by simp [pairTrees]) ?_)))
  refine pairTrees_cons_walk (thn (hk.run pins _ σ _ _ I1 (h _ hn)) fun u s1 z => ?_)
  obtain ⟨x, H1, J1, rx, q1⟩ := z
  refine thn (hv.run pins s1 σ H1 _ J1 q1) fun w2 s2 z => ?_
  obtain ⟨y, H2, J2, ry, e, b, J, zz, ex, ey, hb, q2⟩ := z
  subst ex ey
  obtain rfl : u = Value.ref b := rx
  refine pairTrees_nil_walk ?_
  have dd := n_of J2 e (M := []) .nil List.nodup_nil
  refine ⟨[(nk J, b, w2)], ⟨rfl, rfl, key_is J2.hok hb, trivial⟩, dd, fun h' tok dd' sb => wpAny_pure ?_⟩
  have dd'' : h'.DictOfH (nestedKind X.prog X.w) s.heap.objs.size ([((J, b, w2) : NX)].map toX) := dd'
  obtain ⟨ep, raw⟩ := raw_of dd''
  have I' := n_write (t' := tok) (xs' := [(J, b, w2)]) J2 e sb raw
  refine ⟨.ref s.heap.objs.size, _, I', rfl, q2 _ ⟨⟨_, ep, upd_same, .cons ⟨rfl, ?_, ry⟩ .nil⟩, by simp, by show 1 ≤ sizeLine; decide, beq_eq_false_iff_ne.mpr (Ne.symm (Nat.ne_of_lt I.big))⟩ (fun c o hc q => by rw [upd_ne hc]; exact q) fun c hc q => by rw [upd_ne hc]; exact q⟩
  exact hb.mono fun c ys q => by rw [upd_ne (ne_of q e fun z => by cases z)]; exact q
end
/-- a dict comprehension over any walk -/
theorem dc_it {J : It} {n : Nat} {G : Hp → Prop} {Y : Nat → Hp → V → Hp → Prop} (w : Walk J n G Y) {g : TG} {tt : TT} {tk tv : TE} {vs : List Nat} {σ : L2.St} {H1 : Hp} {D : Addr} {Qd : Hp → Prop} (Pv : Nat → Hp → Prop) (h0 : Pv 0 (upd H1 D (.dK []))) (hG : ∀ i H, i ≤ n → Pv i H → G H)
    (hs : ∀ i x H H', i < n → Pv i H → Y i H x H' → g x (wipe σ vs) H' fun σ2 H2 => wipe σ2 vs = wipe σ vs ∧ tt σ2 H2 fun b H3 =>
      if b = true then tk σ2 H3 fun y H4 => tv σ2 H4 fun z H5 => ∃ kvs k, y = kV k ∧ H5 D = some (.dK kvs) ∧ kvs.length < sizeLine ∧ Pv (i + 1) (upd H5 D (.dK (putK kvs k z))) else Pv (i + 1) H3) (hd : ∀ H, Pv n H → Qd H) :
    ∃ W : Nat → Nat → Hp → Prop, (∃ m, W 0 m (upd H1 D (.dK []))) ∧ ∀ i m H, W i m H →
      (J.stop i H ∧ Qd H) ∨ (J.go i H ∧ ∃ Nx : Hp → Prop, (∀ H', Nx H' → ∃ m', m' < m ∧ W (i + 1) m' H') ∧ ∀ x H', J.yld i H x H' → g x (wipe σ vs) H' fun σ2 H2 => wipe σ2 vs = wipe σ vs ∧ tt σ2 H2 fun b H3 =>
        if b = true then tk σ2 H3 fun y H4 => tv σ2 H4 fun z H5 => ∃ kvs k, y = kV k ∧ H5 D = some (.dK kvs) ∧ kvs.length < sizeLine ∧ Nx (upd H5 D (.dK (putK kvs k z))) else Nx H3) := by
  refine ⟨fun i m H => m = n - i ∧ i ≤ n ∧ Pv i H, ⟨n, by simp, Nat.zero_le _, h0⟩, ?_⟩
  rintro i m H ⟨rfl, hi, p⟩
  have q := hG i H hi p
  by_cases hlt : i < n
  · exact .inr ⟨w.goes i H hlt q, Pv (i + 1), fun H' p' => ⟨n - (i + 1), by omega, rfl, hlt, p'⟩, fun x H' y => hs i x H H' hlt p (w.yields i H x H' hlt q y)⟩
  · obtain rfl : i = n := by omega
    exact .inl ⟨w.stops H q, hd H p⟩
end K36
-- text R7
set_option maxRecDepth 100000
set_option maxHeartbeats 4000000
namespace K36
open PySem PySem.Spec PyProof.Rows L2
/-- isinstance(e, c), e the caught exception with a dict of its own -/
def rIsD (K : PySem.W.Frag) (D a : Addr) (cls : Value) (d : Option Addr) : List V → Hp → VK → Prop := fun xs H Q => ∃ (c : V) (cv : Value) (b : Bool) (dd : Addr) (fs : List (PySem.Str × V)), xs = [.ref a, c] ∧ (∀ u, RelV c u → u = cv) ∧ PySem.W.kitOne K (.ref D) cv = some b ∧ cls = .ref D ∧ d = some dd ∧ H dd = some (.xd fs) ∧ Q (.bl b) H
theorem call_isD {X : Cx} {a D : Addr} {cls : Value} {d : Option Addr} {oe : Obj} {pn : List (Addr × Obj)} (C : ExcC X.K D) (hcl : (PySem.W.clsIn X.K D).isSome = true) (hz : Zc cls d oe) (hf : ∃ vs, oe.data = .fields vs) : CallR (X.suite a ((a, oe) :: pn)) (.builtin "isinstance") (rIsD X.K D a cls d) := by
  intro pins s σ H xs us Q I r h
  obtain ⟨c, cv, b, dd, fs, rfl, hcv, e, ec, ed, hd, q⟩ := h
  subst ec ed
  cases r with
  | cons rx rr =>
    cases rr with
    | cons rt rr =>
      cases rr
      cases rx
      have ec := hcv _ rt
      subst ec
      obtain ⟨hget, _⟩ := I.pin (a, oe) (List.mem_append.mpr (.inl List.mem_cons_self))
      obtain ⟨vs, hv⟩ := hf
      obtain ⟨mA, hns, hr⟩ := (show ObjOk X.prog X.w H s.heap dd (.xd fs) from I.hok dd _ hd)
      obtain ⟨od, ho, hl⟩ := lookIn_ns hns
      have J : PySem.W.InstAt s.heap a oe D (some od) := ⟨hget, hz.1, by unfold PySem.W.notCls; rw [hv] <;> rfl, by rw [hz.2]; exact ho⟩
      exact PySem.W.kia_one (PySem.W.kitx_exc hcl C.hg C.hk C.hs C.ha C.hn C.ht C.hm) I.kIn J e (fun z => nomatch z) fun tk => ⟨.bl b, H, I.kept (t' := tk) fun _ _ z => z, rfl, q⟩
end K36
-- text D0
set_option maxRecDepth 100000
set_option maxHeartbeats 4000000
namespace K36
open PySem PySem.Spec L2
/-! ### the text by places -/
def topS (i : Nat) : Stmt := PySem.Challenge.pw_howeverled_k36_whole_forms_at_rooms.main.body.getD i (.Pass ⟨0, 0, 0, 0⟩)
abbrev s_init : Stmt := inClass (topS 4) 0
abbrev s_isinteger : Stmt := topS 6
abbrev N_isinteger : List PySem.Str := ["thing"]
theorem sc_isinteger : FnScope N_isinteger ["thing"] (defScope s_isinteger) := ⟨rfl, rfl, rfl, by decide +kernel, rfl, by decide +kernel, by decide +kernel⟩
abbrev s_isnumber : Stmt := topS 7
abbrev N_isnumber : List PySem.Str := ["thing"]
theorem sc_isnumber : FnScope N_isnumber ["thing"] (defScope s_isnumber) := ⟨rfl, rfl, rfl, by decide +kernel, rfl, by decide +kernel, by decide +kernel⟩
abbrev s_commondivisor : Stmt := topS 8
abbrev N_commondivisor : List PySem.Str := ["one", "other"]
theorem sc_commondivisor : FnScope N_commondivisor ["one", "other"] (defScope s_commondivisor) := ⟨rfl, rfl, rfl, by decide +kernel, rfl, by decide +kernel, by decide +kernel⟩
abbrev s_isjoining : Stmt := topS 9
abbrev N_isjoining : List PySem.Str := ["many", "thing", "place", "least"]
theorem sc_isjoining : FnScope N_isjoining ["many", "thing"] (defScope s_isjoining) := ⟨rfl, rfl, rfl, by decide +kernel, rfl, by decide +kernel, by decide +kernel⟩
abbrev s_cbonds : Stmt := topS 11
abbrev N_cbonds : List PySem.Str := ["lines", "bonds", "one", "other", "room", "house", "near", "row"]
theorem sc_cbonds : FnScope N_cbonds ["lines"] (defScope s_cbonds) := ⟨rfl, rfl, rfl, by decide +kernel, rfl, by decide +kernel, by decide +kernel⟩
abbrev s_centered : Stmt := topS 12
abbrev N_centered : List PySem.Str := ["joining", "place", "moved", "least"]
theorem sc_centered : FnScope N_centered ["joining", "place"] (defScope s_centered) := ⟨rfl, rfl, rfl, by decide +kernel, rfl, by decide +kernel, by decide +kernel⟩
abbrev s_cmerged : Stmt := topS 13
abbrev N_cmerged : List PySem.Str := ["joining", "one", "other", "low", "high", "least"]
theorem sc_cmerged : FnScope N_cmerged ["joining", "one", "other"] (defScope s_cmerged) := ⟨rfl, rfl, rfl, by decide +kernel, rfl, by decide +kernel, by decide +kernel⟩
abbrev s_cleft : Stmt := topS 14
abbrev N_cleft : List PySem.Str := ["joining", "place", "heir", "rest", "at", "least"]
theorem sc_cleft : FnScope N_cleft ["joining", "place"] (defScope s_cleft) := ⟨rfl, rfl, rfl, by decide +kernel, rfl, by decide +kernel, by decide +kernel⟩
abbrev s_cwithbond : Stmt := topS 15
abbrev N_cwithbond : List PySem.Str := ["table", "one", "other", "bond", "wider", "joining", "clubs", "weight", "key"]
theorem sc_cwithbond : FnScope N_cwithbond ["table", "one", "other", "bond"] (defScope s_cwithbond) := ⟨rfl, rfl, rfl, by decide +kernel, rfl, by decide +kernel, by decide +kernel⟩
abbrev s_cwithhouse : Stmt := topS 16
abbrev N_cwithhouse : List PySem.Str := ["frontier", "table", "house", "row", "wide", "place", "entered", "joining", "clubs", "weight", "near"]
theorem sc_cwithhouse : FnScope N_cwithhouse ["frontier", "table", "house", "row"] (defScope s_cwithhouse) := ⟨rfl, rfl, rfl, by decide +kernel, rfl, by decide +kernel, by decide +kernel⟩
abbrev s_cwithouthouse : Stmt := topS 17
abbrev N_cwithouthouse : List PySem.Str := ["frontier", "table", "house", "most", "place", "rest", "joining", "clubs", "weight", "many", "key", "near"]
theorem sc_cwithouthouse : FnScope N_cwithouthouse ["frontier", "table", "house", "most"] (defScope s_cwithouthouse) := ⟨rfl, rfl, rfl, by decide +kernel, rfl, by decide +kernel, by decide +kernel⟩
abbrev s_ctables : Stmt := topS 18
abbrev N_ctables : List PySem.Str := ["order", "lines", "held", "most", "bonds", "place_of", "frontier", "table", "pairs", "at", "house", "near", "later", "next_to"]
theorem sc_ctables : FnScope N_ctables ["order", "lines", "held", "most"] (defScope s_ctables) := ⟨rfl, rfl, rfl, by decide +kernel, rfl, by decide +kernel, by decide +kernel⟩
abbrev s_clasttable : Stmt := topS 19
abbrev N_clasttable : List PySem.Str := ["order", "lines", "held", "most"]
theorem sc_clasttable : FnScope N_clasttable ["order", "lines", "held", "most"] (defScope s_clasttable) := ⟨rfl, rfl, rfl, by decide +kernel, rfl, by decide +kernel, by decide +kernel⟩
abbrev s_cweightof : Stmt := topS 20
abbrev N_cweightof : List PySem.Str := ["lines", "houses", "line", "house"]
theorem sc_cweightof : FnScope N_cweightof ["lines"] (defScope s_cweightof) := ⟨rfl, rfl, rfl, by decide +kernel, rfl, by decide +kernel, by decide +kernel⟩
abbrev s_forestweight : Stmt := topS 22
abbrev N_forestweight : List PySem.Str := ["web"]
theorem sc_forestweight : FnScope N_forestweight ["web"] (defScope s_forestweight) := ⟨rfl, rfl, rfl, by decide +kernel, rfl, by decide +kernel, by decide +kernel⟩
abbrev s_gasknumber : Stmt := topS 24
abbrev N_gasknumber : List PySem.Str := ["number", "name"]
theorem sc_gasknumber : FnScope N_gasknumber ["number", "name"] (defScope s_gasknumber) := ⟨rfl, rfl, rfl, by decide +kernel, rfl, by decide +kernel, by decide +kernel⟩
abbrev s_gaskhouse : Stmt := topS 25
abbrev N_gaskhouse : List PySem.Str := ["size", "house", "name"]
theorem sc_gaskhouse : FnScope N_gaskhouse ["size", "house", "name"] (defScope s_gaskhouse) := ⟨rfl, rfl, rfl, by decide +kernel, rfl, by decide +kernel, by decide +kernel⟩
abbrev s_gaskpair : Stmt := topS 26
abbrev N_gaskpair : List PySem.Str := ["size", "one", "other", "first", "second"]
theorem sc_gaskpair : FnScope N_gaskpair ["size", "one", "other", "first", "second"] (defScope s_gaskpair) := ⟨rfl, rfl, rfl, by decide +kernel, rfl, by decide +kernel, by decide +kernel⟩
abbrev s_need : Stmt := topS 28
abbrev N_need : List PySem.Str := ["holds", "name"]
theorem sc_need : FnScope N_need ["holds", "name"] (defScope s_need) := ⟨rfl, rfl, rfl, by decide +kernel, rfl, by decide +kernel, by decide +kernel⟩
abbrev s_needhouse : Stmt := topS 29
abbrev N_needhouse : List PySem.Str := ["web", "house", "name"]
theorem sc_needhouse : FnScope N_needhouse ["web", "house", "name"] (defScope s_needhouse) := ⟨rfl, rfl, rfl, by decide +kernel, rfl, by decide +kernel, by decide +kernel⟩
abbrev s_needhouses : Stmt := topS 30
abbrev N_needhouses : List PySem.Str := ["web", "here", "there"]
theorem sc_needhouses : FnScope N_needhouses ["web", "here", "there"] (defScope s_needhouses) := ⟨rfl, rfl, rfl, by decide +kernel, rfl, by decide +kernel, by decide +kernel⟩
abbrev s_orderedline : Stmt := topS 31
abbrev N_orderedline : List PySem.Str := ["one", "other", "room"]
theorem sc_orderedline : FnScope N_orderedline ["one", "other", "room"] (defScope s_orderedline) := ⟨rfl, rfl, rfl, by decide +kernel, rfl, by decide +kernel, by decide +kernel⟩
abbrev s_lowest : Stmt := topS 33
abbrev N_lowest : List PySem.Str := ["top", "bottom", "shared"]
theorem sc_lowest : FnScope N_lowest ["top", "bottom"] (defScope s_lowest) := ⟨rfl, rfl, rfl, by decide +kernel, rfl, by decide +kernel, by decide +kernel⟩
abbrev s_quotientof : Stmt := topS 34
abbrev N_quotientof : List PySem.Str := ["top", "bottom"]
theorem sc_quotientof : FnScope N_quotientof ["top", "bottom"] (defScope s_quotientof) := ⟨rfl, rfl, rfl, by decide +kernel, rfl, by decide +kernel, by decide +kernel⟩
abbrev s_numberedanew : Stmt := topS 36
abbrev N_numberedanew : List PySem.Str := ["size", "web", "numbers", "lines", "one", "other", "room"]
theorem sc_numberedanew : FnScope N_numberedanew ["size", "web", "numbers"] (defScope s_numberedanew) := ⟨rfl, rfl, rfl, by decide +kernel, rfl, by decide +kernel, by decide +kernel⟩
abbrev s_madeby : Stmt := topS 37
abbrev N_madeby : List PySem.Str := ["web", "joining", "numbers", "many", "house", "least"]
theorem sc_madeby : FnScope N_madeby ["web", "joining"] (defScope s_madeby) := ⟨rfl, rfl, rfl, by decide +kernel, rfl, by decide +kernel, by decide +kernel⟩
abbrev s_madeone : Stmt := topS 38
abbrev N_madeone : List PySem.Str := ["web", "here", "there", "joining"]
theorem sc_madeone : FnScope N_madeone ["web", "here", "there"] (defScope s_madeone) := ⟨rfl, rfl, rfl, by decide +kernel, rfl, by decide +kernel, by decide +kernel⟩
abbrev s_isform : Stmt := topS 40
abbrev N_isform : List PySem.Str := ["thing", "part"]
theorem sc_isform : FnScope N_isform ["thing"] (defScope s_isform) := ⟨rfl, rfl, rfl, by decide +kernel, rfl, by decide +kernel, by decide +kernel⟩
abbrev s_gnumberbehind : Stmt := topS 41
abbrev N_gnumberbehind : List PySem.Str := ["here", "there", "house", "low", "high"]
theorem sc_gnumberbehind : FnScope N_gnumberbehind ["here", "there", "house"] (defScope s_gnumberbehind) := ⟨rfl, rfl, rfl, by decide +kernel, rfl, by decide +kernel, by decide +kernel⟩
abbrev s_shareform : Stmt := topS 42
abbrev N_shareform : List PySem.Str := ["web", "here", "there", "payer", "payee", "closed", "one", "other", "both"]
theorem sc_shareform : FnScope N_shareform ["web", "here", "there", "payer", "payee"] (defScope s_shareform) := ⟨rfl, rfl, rfl, by decide +kernel, rfl, by decide +kernel, by decide +kernel⟩
abbrev s_shareat : Stmt := topS 43
abbrev N_shareat : List PySem.Str := ["form", "room"]
theorem sc_shareat : FnScope N_shareat ["form", "room"] (defScope s_shareat) := ⟨rfl, rfl, rfl, by decide +kernel, rfl, by decide +kernel, by decide +kernel⟩
abbrev s_Lstart : Stmt := topS 45
abbrev N_Lstart : List PySem.Str := ["_law_script", "_law_one", "_law_two", "_law_cell", "_law_big"]
theorem sc_Lstart : FnScope N_Lstart ["_law_script"] (defScope s_Lstart) := ⟨rfl, rfl, rfl, by decide +kernel, rfl, by decide +kernel, by decide +kernel⟩
abbrev s_Ldraw : Stmt := topS 46
abbrev N_Ldraw : List PySem.Str := ["_law_state", "_law_count", "_law_digit"]
theorem sc_Ldraw : FnScope N_Ldraw ["_law_state", "_law_count"] (defScope s_Ldraw) := ⟨rfl, rfl, rfl, by decide +kernel, rfl, by decide +kernel, by decide +kernel⟩
abbrev s_Lfar : Stmt := topS 47
abbrev N_Lfar : List PySem.Str := ["_law_state", "_law_figures"]
theorem sc_Lfar : FnScope N_Lfar ["_law_state"] (defScope s_Lfar) := ⟨rfl, rfl, rfl, by decide +kernel, rfl, by decide +kernel, by decide +kernel⟩
abbrev s_Lpairs : Stmt := topS 48
abbrev N_Lpairs : List PySem.Str := ["_law_state", "_law_size", "_law_rest", "_law_order", "_law_k", "_law_shape", "_law_last", "_law_pairs_here", "_law_extra", "_law_one", "_law_pair"]
theorem sc_Lpairs : FnScope N_Lpairs ["_law_state", "_law_size"] (defScope s_Lpairs) := ⟨rfl, rfl, rfl, by decide +kernel, rfl, by decide +kernel, by decide +kernel⟩
abbrev s_Llines : Stmt := topS 49
abbrev N_Llines : List PySem.Str := ["_law_state", "_law_size", "_law_far_here", "_law_lines_here", "_law_ways", "_law_pair", "_law_wide"]
theorem sc_Llines : FnScope N_Llines ["_law_state", "_law_size", "_law_far_here"] (defScope s_Llines) := ⟨rfl, rfl, rfl, by decide +kernel, rfl, by decide +kernel, by decide +kernel⟩
abbrev s_Lforests : Stmt := topS 50
abbrev N_Lforests : List PySem.Str := ["_law_size", "_law_lines_here", "_law_table", "_law_line", "_law_more", "_law_marks", "_law_low", "_law_high", "_law_joined", "_law_mark"]
theorem sc_Lforests : FnScope N_Lforests ["_law_size", "_law_lines_here"] (defScope s_Lforests) := ⟨rfl, rfl, rfl, by decide +kernel, rfl, by decide +kernel, by decide +kernel⟩
abbrev s_Lapart : Stmt := topS 51
abbrev N_Lapart : List PySem.Str := ["_law_forests_here", "_law_pairs_here", "_law_total", "_law_marks", "_law_row", "_law_free", "_law_pair", "_law_low", "_law_high", "_law_mark"]
theorem sc_Lapart : FnScope N_Lapart ["_law_forests_here", "_law_pairs_here"] (defScope s_Lapart) := ⟨rfl, rfl, rfl, by decide +kernel, rfl, by decide +kernel, by decide +kernel⟩
abbrev s_Lstandings : Stmt := topS 52
abbrev N_Lstandings : List PySem.Str := ["_law_size", "_law_lines_here", "_law_table", "_law_line", "_law_more", "_law_purses", "_law_near", "_law_row"]
theorem sc_Lstandings : FnScope N_Lstandings ["_law_size", "_law_lines_here"] (defScope s_Lstandings) := ⟨rfl, rfl, rfl, by decide +kernel, rfl, by decide +kernel, by decide +kernel⟩
abbrev s_Lrefusing : Stmt := topS 53
abbrev N_Lrefusing : List PySem.Str := ["_law_table", "_law_giver", "_law_taker", "_law_count", "_law_purses", "_law_row"]
theorem sc_Lrefusing : FnScope N_Lrefusing ["_law_table", "_law_giver", "_law_taker"] (defScope s_Lrefusing) := ⟨rfl, rfl, rfl, by decide +kernel, rfl, by decide +kernel, by decide +kernel⟩
abbrev s_Llowest : Stmt := topS 54
abbrev N_Llowest : List PySem.Str := ["_law_top", "_law_bottom", "_law_one", "_law_two"]
theorem sc_Llowest : FnScope N_Llowest ["_law_top", "_law_bottom"] (defScope s_Llowest) := ⟨rfl, rfl, rfl, by decide +kernel, rfl, by decide +kernel, by decide +kernel⟩
abbrev s_Lsame : Stmt := topS 55
abbrev N_Lsame : List PySem.Str := ["_law_told_here", "_law_due", "_law_k"]
theorem sc_Lsame : FnScope N_Lsame ["_law_told_here", "_law_due"] (defScope s_Lsame) := ⟨rfl, rfl, rfl, by decide +kernel, rfl, by decide +kernel, by decide +kernel⟩
abbrev s_Lroomsright : Stmt := topS 56
abbrev N_Lroomsright : List PySem.Str := ["_law_state", "_law_net", "_law_pairs_here", "_law_due", "_law_far_here", "_law_wide", "_law_lines_here", "_law_forests_here", "_law_share", "_law_table"]
theorem sc_Lroomsright : FnScope N_Lroomsright ["_law_state", "_law_net", "_law_pairs_here", "_law_due", "_law_far_here"] (defScope s_Lroomsright) := ⟨rfl, rfl, rfl, by decide +kernel, rfl, by decide +kernel, by decide +kernel⟩
abbrev s_Lkindsright : Stmt := topS 57
abbrev N_Lkindsright : List PySem.Str := ["_law_state", "_law_due", "_law_place", "_law_odd"]
theorem sc_Lkindsright : FnScope N_Lkindsright ["_law_state", "_law_due"] (defScope s_Lkindsright) := ⟨rfl, rfl, rfl, by decide +kernel, rfl, by decide +kernel, by decide +kernel⟩
abbrev s_Ltoldroom : Stmt := topS 58
abbrev N_Ltoldroom : List PySem.Str := ["_law_due", "_law_odd", "e"]
theorem sc_Ltoldroom : FnScope N_Ltoldroom ["_law_due", "_law_odd"] (defScope s_Ltoldroom) := ⟨rfl, rfl, rfl, by decide +kernel, rfl, by decide +kernel, by decide +kernel⟩
abbrev s_Ltold : Stmt := topS 59
abbrev N_Ltold : List PySem.Str := ["_law_net", "_law_left", "_law_right", "_law_giver", "_law_taker", "e"]
theorem sc_Ltold : FnScope N_Ltold ["_law_net", "_law_left", "_law_right", "_law_giver", "_law_taker"] (defScope s_Ltold) := ⟨rfl, rfl, rfl, by decide +kernel, rfl, by decide +kernel, by decide +kernel⟩
abbrev s_Lrefusalsright : Stmt := topS 60
abbrev N_Lrefusalsright : List PySem.Str := ["_law_state", "_law_net", "_law_pairs_here", "_law_due", "_law_odd", "_law_houses", "_law_place", "_law_twin", "_law_bent", "_law_due_word"]
theorem sc_Lrefusalsright : FnScope N_Lrefusalsright ["_law_state", "_law_net", "_law_pairs_here", "_law_due"] (defScope s_Lrefusalsright) := ⟨rfl, rfl, rfl, by decide +kernel, rfl, by decide +kernel, by decide +kernel⟩
abbrev s_law : Stmt := topS 61
abbrev N_law : List PySem.Str := ["_law_script", "_law_state", "_law_size", "_law_far_here", "_law_net", "_law_left", "_law_right", "_law_giver", "_law_taker", "_law_pairs_here", "_law_forests_here", "_law_a", "_law_b", "_law_due"]
theorem sc_law : FnScope N_law ["_law_script"] (defScope s_law) := ⟨rfl, rfl, rfl, by decide +kernel, rfl, by decide +kernel, by decide +kernel⟩
/-! ### what the top has left -/
structure Df (K : PySem.W.Frag) (mg : PySem.Str → Option Value) (x : PySem.Str) (st : Stmt) (f : Addr) (fd : FuncData) (ps : List PySem.Str) : Prop where
  F : L2.Fun K x x st f fd
  g : mg x = some (.ref f)
  b : Binds K fd ps []
theorem Df.k {K : PySem.W.Frag} {mg : PySem.Str → Option Value} {x : PySem.Str} {st : Stmt} {f : Addr} {fd : FuncData} {ps : List PySem.Str} (d : Df K mg x st f fd ps) : PySem.W.keepIn K (.ref f) = true := d.F.kp
structure Tx (K : PySem.W.Frag) (mg : PySem.Str → Option Value) where
  f : Nat → Addr
  fd : Nat → FuncData
  d_isinteger : Df K mg "is_integer" s_isinteger (f 0) (fd 0) ["thing"]
  d_isnumber : Df K mg "is_number" s_isnumber (f 1) (fd 1) ["thing"]
  d_commondivisor : Df K mg "common_divisor" s_commondivisor (f 2) (fd 2) ["one", "other"]
  d_isjoining : Df K mg "is_joining" s_isjoining (f 3) (fd 3) ["many", "thing"]
  d_cbonds : Df K mg "c_bonds" s_cbonds (f 4) (fd 4) ["lines"]
  d_centered : Df K mg "c_entered" s_centered (f 5) (fd 5) ["joining", "place"]
  d_cmerged : Df K mg "c_merged" s_cmerged (f 6) (fd 6) ["joining", "one", "other"]
  d_cleft : Df K mg "c_left" s_cleft (f 7) (fd 7) ["joining", "place"]
  d_cwithbond : Df K mg "c_with_bond" s_cwithbond (f 8) (fd 8) ["table", "one", "other", "bond"]
  d_cwithhouse : Df K mg "c_with_house" s_cwithhouse (f 9) (fd 9) ["frontier", "table", "house", "row"]
  d_cwithouthouse : Df K mg "c_without_house" s_cwithouthouse (f 10) (fd 10) ["frontier", "table", "house", "most"]
  d_ctables : Df K mg "c_tables" s_ctables (f 11) (fd 11) ["order", "lines", "held", "most"]
  d_clasttable : Df K mg "c_last_table" s_clasttable (f 12) (fd 12) ["order", "lines", "held", "most"]
  d_cweightof : Df K mg "c_weight_of" s_cweightof (f 13) (fd 13) ["lines"]
  d_forestweight : Df K mg "forest_weight" s_forestweight (f 14) (fd 14) ["web"]
  d_gasknumber : Df K mg "g_ask_number" s_gasknumber (f 15) (fd 15) ["number", "name"]
  d_gaskhouse : Df K mg "g_ask_house" s_gaskhouse (f 16) (fd 16) ["size", "house", "name"]
  d_gaskpair : Df K mg "g_ask_pair" s_gaskpair (f 17) (fd 17) ["size", "one", "other", "first", "second"]
  d_need : Df K mg "need" s_need (f 18) (fd 18) ["holds", "name"]
  d_needhouse : Df K mg "need_house" s_needhouse (f 19) (fd 19) ["web", "house", "name"]
  d_needhouses : Df K mg "need_houses" s_needhouses (f 20) (fd 20) ["web", "here", "there"]
  d_orderedline : Df K mg "ordered_line" s_orderedline (f 21) (fd 21) ["one", "other", "room"]
  d_lowest : Df K mg "lowest" s_lowest (f 22) (fd 22) ["top", "bottom"]
  d_quotientof : Df K mg "quotient_of" s_quotientof (f 23) (fd 23) ["top", "bottom"]
  d_numberedanew : Df K mg "numbered_anew" s_numberedanew (f 24) (fd 24) ["size", "web", "numbers"]
  d_madeby : Df K mg "made_by" s_madeby (f 25) (fd 25) ["web", "joining"]
  d_madeone : Df K mg "made_one" s_madeone (f 26) (fd 26) ["web", "here", "there"]
  d_isform : Df K mg "is_form" s_isform (f 27) (fd 27) ["thing"]
  d_gnumberbehind : Df K mg "_g_number_behind" s_gnumberbehind (f 28) (fd 28) ["here", "there", "house"]
  d_shareform : Df K mg "share_form" s_shareform (f 29) (fd 29) ["web", "here", "there", "payer", "payee"]
  d_shareat : Df K mg "share_at" s_shareat (f 30) (fd 30) ["form", "room"]
  d_Lstart : Df K mg "_law_start" s_Lstart (f 31) (fd 31) ["_law_script"]
  d_Ldraw : Df K mg "_law_draw" s_Ldraw (f 32) (fd 32) ["_law_state", "_law_count"]
  d_Lfar : Df K mg "_law_far" s_Lfar (f 33) (fd 33) ["_law_state"]
  d_Lpairs : Df K mg "_law_pairs" s_Lpairs (f 34) (fd 34) ["_law_state", "_law_size"]
  d_Llines : Df K mg "_law_lines" s_Llines (f 35) (fd 35) ["_law_state", "_law_size", "_law_far_here"]
  d_Lforests : Df K mg "_law_forests" s_Lforests (f 36) (fd 36) ["_law_size", "_law_lines_here"]
  d_Lapart : Df K mg "_law_apart" s_Lapart (f 37) (fd 37) ["_law_forests_here", "_law_pairs_here"]
  d_Lstandings : Df K mg "_law_standings" s_Lstandings (f 38) (fd 38) ["_law_size", "_law_lines_here"]
  d_Lrefusing : Df K mg "_law_refusing" s_Lrefusing (f 39) (fd 39) ["_law_table", "_law_giver", "_law_taker"]
  d_Llowest : Df K mg "_law_lowest" s_Llowest (f 40) (fd 40) ["_law_top", "_law_bottom"]
  d_Lsame : Df K mg "_law_same" s_Lsame (f 41) (fd 41) ["_law_told_here", "_law_due"]
  d_Lroomsright : Df K mg "_law_rooms_right" s_Lroomsright (f 42) (fd 42) ["_law_state", "_law_net", "_law_pairs_here", "_law_due", "_law_far_here"]
  d_Lkindsright : Df K mg "_law_kinds_right" s_Lkindsright (f 43) (fd 43) ["_law_state", "_law_due"]
  d_Ltoldroom : Df K mg "_law_told_room" s_Ltoldroom (f 44) (fd 44) ["_law_due", "_law_odd"]
  d_Ltold : Df K mg "_law_told" s_Ltold (f 45) (fd 45) ["_law_net", "_law_left", "_law_right", "_law_giver", "_law_taker"]
  d_Lrefusalsright : Df K mg "_law_refusals_right" s_Lrefusalsright (f 46) (fd 46) ["_law_state", "_law_net", "_law_pairs_here", "_law_due"]
  d_law : Df K mg "law" s_law (f 47) (fd 47) ["_law_script"]
  n_abs : mg "abs" = none
  n_all : mg "all" = none
  n_bool : mg "bool" = none
  n_enumerate : mg "enumerate" = none
  n_int : mg "int" = none
  n_isinstance : mg "isinstance" = none
  n_len : mg "len" = none
  n_list : mg "list" = none
  n_max : mg "max" = none
  n_min : mg "min" = none
  n_range : mg "range" = none
  n_sorted : mg "sorted" = none
  n_str : mg "str" = none
  n_tuple : mg "tuple" = none
  cN : Addr
  cL : Addr
  cW : Addr
  cP : Addr
  fI : Addr
  fdI : FuncData
  g_NotUsable : mg "NotUsable" = some (.ref cN)
  g_LedError : mg "LedError" = some (.ref cL)
  g_WebError : mg "WebError" = some (.ref cW)
  g_PaperError : mg "PaperError" = some (.ref cP)
  oex : OexC K cN
  no_word : PySem.W.findIn K (.ref cN) "word" = some none
  no_at : PySem.W.findIn K (.ref cN) "at" = some none
  iC : PySem.W.findIn K (.ref cN) "__init__" = some (some (.ref fI))
  tI : PySem.W.typeIn K (.ref fI) = some (.type "function")
  FI : L2.Fun K "__init__" "NotUsable.__init__" s_init fI fdI
  bI : Binds K fdI ["self", "word", "at"] []
  te : PySem.W.exmOne K (.ref cN) (.ref cL) = some true
  xc : ExcC K cN
  hcl : (PySem.W.clsIn K cN).isSome = true
  xf : XfC K cN
  k_NotUsable : PySem.W.kitOne K (.ref cN) (.ref cN) = some true
  k_WebError : PySem.W.kitOne K (.ref cN) (.ref cW) = some true
  k_PaperError : PySem.W.kitOne K (.ref cN) (.ref cP) = some false
theorem hu64 {A : Around} {k : Nat} (hr : Room k A) : A.units + 64 < cLine := hr.units
theorem pt_never {X : Cx} {e : Expr} : PT X e (fun _ _ _ => False) := ⟨fun _ _ _ _ _ _ h => h.elim⟩
end K36
-- text D1
set_option maxRecDepth 100000
set_option maxHeartbeats 4000000
namespace K36
open PySem PySem.Spec PyProof.Rows L2
/-! ### kinds of values -/
/-- the value's built-in type, as it stands in the heap -/
inductive Kn (H : Hp) : V → String → Prop where
  | int (i : Int) : Kn H (.int i) "int"
  | bl (b : Bool) : Kn H (.bl b) "bool"
  | non : Kn H .non "NoneType"
  | str (z : PySem.Str) : Kn H (.str z) "str"
  | lst {p : Addr} {xs : List V} (h : H p = some (.lst xs)) : Kn H (.ref p) "list"
  | tup {p : Addr} {xs : List V} (h : H p = some (.tup xs)) : Kn H (.ref p) "tuple"
theorem Kn.ty {K : PySem.W.Frag} {H : Hp} {x : V} {n : String} (k : Kn H x n) : TyX K H x (.type n) := by
  cases k with
  | int i => exact .base (.int i)
  | bl b => exact .base (.bl b)
  | non => exact .base .non
  | str z => exact .base (.str z)
  | lst h => exact .base (.lst h)
  | tup h => exact .base (.tup h)
theorem Kn.mono {H H' : Hp} {x : V} {n : String} (k : Kn H x n) (e : Same H H') : Kn H' x n := by
  cases k with
  | int i => exact .int i
  | bl b => exact .bl b
  | non => exact .non
  | str z => exact .str z
  | lst h => exact .lst (e _ _ h)
  | tup h => exact .tup (e _ _ h)
def isI : V → Bool | .int _ => true | _ => false
def isN : V → Bool | .int i => decide (0 ≤ i) | _ => false
/-- isinstance(x, int), isinstance(x, bool), isinstance(x, tuple) by the kind -/
theorem Kn.int2 {K : PySem.W.Frag} {H : Hp} {x : V} {n : String} (k : Kn H x n) : ∃ b c, PySem.W.kitOne K (.type n) (.type "int") = some b ∧ PySem.W.kitOne K (.type n) (.type "bool") = some c ∧ (b && !c) = isI x := by
  cases k with
  | int i => exact ⟨true, false, kit_ty (by decide +kernel), kit_ty (by decide +kernel), rfl⟩
  | bl b => exact ⟨true, true, kit_ty (by decide +kernel), kit_ty (by decide +kernel), rfl⟩
  | non => exact ⟨false, false, kit_ty (by decide +kernel), kit_ty (by decide +kernel), rfl⟩
  | str z => exact ⟨false, false, kit_ty (by decide +kernel), kit_ty (by decide +kernel), rfl⟩
  | lst h => exact ⟨false, false, kit_ty (by decide +kernel), kit_ty (by decide +kernel), rfl⟩
  | tup h => exact ⟨false, false, kit_ty (by decide +kernel), kit_ty (by decide +kernel), rfl⟩
def isT : String → Bool := fun n => n == "tuple"
theorem Kn.tup2 {K : PySem.W.Frag} {H : Hp} {x : V} {n : String} (k : Kn H x n) : PySem.W.kitOne K (.type n) (.type "tuple") = some (isT n) := by
  cases k <;> exact kit_ty (by decide +kernel)
section
variable {P : Program} {w : World} {K : PySem.W.Frag} {mg : PySem.Str → Option Value} {base : Heap}
/-! ### is_integer, is_number -/
def spInteger : L2.Sp := fun vs H Q _ => ∃ x n, vs = [x] ∧ Kn H x n ∧ Q (.bl (isI x)) H
theorem ok_isinteger (T : Tx K mg) : FnOk P w K mg base CX0 1 (T.f 0) (T.fd 0) ["thing"] spInteger := by
  refine T.d_isinteger.F.ok sc_isinteger (fun vs H Q E h => ?_) (fun cdv A outer s H vs Q E hr h => ?_)
  · obtain ⟨x, n, rfl, _⟩ := h
    rfl
  · obtain ⟨x, n, rfl, k, q⟩ := h
    obtain ⟨b, c, h1, h2, h3⟩ := k.int2 (K := K)
    refine ⟨_, 
      (pss_one (ps_ret (pe_and (pe_callB call_isi (by rfl) T.n_isinstance (by decide +kernel) (pa_cons (pv 0) (pa_cons (pe_bltn (by rfl) T.n_int (by decide +kernel) (show RelV (.ty "int") (.type "int") from rfl)) pa_nil))) (pe_one (pe_not (pe_callB call_isi (by rfl) T.n_isinstance (by decide +kernel) (pa_cons (pv 0) (pa_cons (pe_bltn (by rfl) T.n_bool (by decide +kernel) (show RelV (.ty "bool") (.type "bool") from rfl)) pa_nil)))))))), ?_⟩
    refine ⟨_, rfl, x, .ty "int", _, _, b, rfl, .ty _, k.ty, h1, b, rfl, ?_⟩
    cases b with
    | false => rw [← h3] at q; exact iteF q
    | true => exact iteT ⟨_, rfl, x, .ty "bool", _, _, c, rfl, .ty _, k.ty, h2, c, rfl, by rw [← h3] at q; exact q⟩
def spNumber : L2.Sp := fun vs H Q _ => ∃ x n, vs = [x] ∧ Kn H x n ∧ Q (.bl (isN x)) H
theorem ok_isnumber (T : Tx K mg) : FnOk P w K mg base CX0 2 (T.f 1) (T.fd 1) ["thing"] spNumber := by
  refine T.d_isnumber.F.ok sc_isnumber (fun vs H Q E h => ?_) (fun cdv A outer s H vs Q E hr h => ?_)
  · obtain ⟨x, n, rfl, _⟩ := h
    rfl
  · obtain ⟨x, n, rfl, k, q⟩ := h
    refine ⟨_, 
      (pss_one (ps_ret (pe_and (pe_call (ok_isinteger T) (hr.mono (by decide)) (by rfl) T.d_isinteger.g T.d_isinteger.k T.d_isinteger.b .nil pass0 (pa_cons (pv 0) pa_nil)) (pe_one (pe_cmpR op_ge (pv 0) pe_int (nomark _)))))), ?_⟩
    refine ⟨_, rfl, x, n, rfl, k, _, rfl, ?_⟩
    cases x with
    | int i => exact iteT ⟨_, rfl, _, _, rfl, rfl, q⟩
    | _ => exact iteF q
end
end K36
-- text D2
set_option maxRecDepth 100000
set_option maxHeartbeats 4000000
namespace K36
open PySem PySem.Spec PyProof.Rows L2
/-! ### numbers -/
theorem gcd_step {a b : Int} (ha : 0 ≤ a) (hb : 0 < b) : Int.gcd b (a % b) = Int.gcd a b := by
  obtain ⟨m, rfl⟩ := Int.eq_ofNat_of_zero_le ha
  obtain ⟨n, rfl⟩ := Int.eq_ofNat_of_zero_le (Int.le_of_lt hb)
  rw [← Int.natCast_emod]
  show Nat.gcd n (m % n) = Nat.gcd m n
  rw [Nat.gcd_comm m n, Nat.gcd_comm n (m % n)]
  exact (Nat.gcd_rec n m).symm
theorem gcd_lt {a b : Int} {n : Nat} (hb : 0 < b) (h : b.natAbs < 2 ^ n) : ((Int.gcd a b : Nat) : Int).natAbs < 2 ^ n ∧ 0 < ((Int.gcd a b : Nat) : Int) := by
  have h1 : Int.gcd a b ≤ b.natAbs := Nat.le_of_dvd (by omega) (Nat.gcd_dvd_right _ _)
  have h2 : 0 < Int.gcd a b := Nat.pos_of_ne_zero fun z => by
    have := (Int.gcd_eq_zero_iff.mp z).2
    omega
  constructor
  · rw [Int.natAbs_natCast]; omega
  · omega
/-- the number behind high joined to low -/
def nb (lo hi x : Int) : Int := if x = hi then lo else if x > hi then x - 1 else x
def mn (a b : Int) : Int := if b < a then b else a
def mx (a b : Int) : Int := if b > a then b else a
section
variable {P : Program} {w : World} {K : PySem.W.Frag} {mg : PySem.Str → Option Value} {base : Heap}
def spCommon : L2.Sp := fun vs H Q _ => ∃ a b : Int, vs = [.int a, .int b] ∧ 0 ≤ a ∧ 0 ≤ b ∧ Q (.int (Int.gcd a b : Nat)) H
theorem ok_commondivisor (T : Tx K mg) : FnOk P w K mg base CX0 1 (T.f 2) (T.fd 2) ["one", "other"] spCommon := by
  refine T.d_commondivisor.F.ok sc_commondivisor (fun vs H Q E h => ?_) (fun cdv A outer s H vs Q E hr h => ?_)
  · obtain ⟨a, b, rfl, _⟩ := h
    rfl
  · obtain ⟨a, b, rfl, ha, hb, q⟩ := h
    refine ⟨_, 
      (pss_cons (ps_while PassesOwn.never (pt_cmpR op_gt (pv 1) pe_int (nomark _)) 
          (pss_one (ps_par (i := 0) (j := 1) rfl sc_commondivisor.nd rfl rfl (by decide) rfl rfl (pa_cons (pv 1) (pa_cons (pe_op op_mod (pv 0) (pv 1)) pa_nil)) rfl)))
      (pss_one (ps_ret (pv 0)))), ?_⟩
    refine while_by (fun σ H' => ∃ x y : Int, σ = [some (.int x), some (.int y)] ∧ 0 ≤ x ∧ 0 ≤ y ∧ Int.gcd x y = Int.gcd a b ∧ H' = H) (fun σ _ => match σ with | [_, some (.int y)] => y.toNat | _ => 0) ⟨a, b, rfl, ha, hb, rfl, rfl⟩ ?_ ?_
    · rintro σ H' ⟨x, y, rfl, hx, hy, hg, rfl⟩
      refine ⟨_, rfl, _, _, rfl, rfl, _, rfl, ite2 (fun hc => ?_) fun hc => ?_⟩
      · have hy0 : 0 < y := by simpa using hc
        refine ⟨_, rfl, _, rfl, _, rfl, _, _, rfl, rfl, hy0, _, _, rfl, ?_⟩
        refine ⟨⟨y, x % y, rfl, hy, Int.emod_nonneg _ (by omega), ?_, rfl⟩, ?_⟩
        · rw [gcd_step hx hy0]; exact hg
        · have h1 := Int.emod_lt_of_pos x hy0
          have h2 := Int.emod_nonneg x (show y ≠ 0 by omega)
          show (x % y).toNat < y.toNat
          omega
      · have hy0 : y = 0 := by
          have : ¬ (y > 0) := by simpa using hc
          omega
        subst hy0
        refine ⟨_, rfl, ?_⟩
        have e : x = ((Int.gcd a b : Nat) : Int) := by
          rw [← hg]
          simp
          omega
        rw [e]
        exact q
    · rintro σ H' Q1 Q2 hq ⟨v, h1, i, j, h2, h3, b, h4, h5⟩
      exact ⟨v, h1, i, j, h2, h3, b, h4, hq _ _ h5⟩
def spBehind : L2.Sp := fun vs H Q _ => ∃ a b x : Int, vs = [.int a, .int b, .int x] ∧ Q (.int (nb (mn a b) (mx a b) x)) H
theorem ok_gnumberbehind (T : Tx K mg) : FnOk P w K mg base CX0 1 (T.f 28) (T.fd 28) ["here", "there", "house"] spBehind := by
  refine T.d_gnumberbehind.F.ok sc_gnumberbehind (fun vs H Q E h => ?_) (fun cdv A outer s H vs Q E hr h => ?_)
  · obtain ⟨a, b, x, rfl, _⟩ := h
    rfl
  · obtain ⟨a, b, x, rfl, q⟩ := h
    refine ⟨_, 
      (pss_cons (ps_set (i := 3) sc_gnumberbehind.nd rfl (Or.inl rfl) (pe_callB (call_min2 rfl) (by rfl) T.n_min (by decide +kernel) (pa_cons (pv 0) (pa_cons (pv 1) pa_nil))))
      (pss_cons (ps_set (i := 4) sc_gnumberbehind.nd rfl (Or.inl rfl) (pe_callB (call_max2 rfl) (by rfl) T.n_max (by decide +kernel) (pa_cons (pv 0) (pa_cons (pv 1) pa_nil))))
      (pss_cons (ps_if (pt_cmpR op_eq (pv 2) (pv 4) (nomark _)) 
          (pss_one (ps_ret (pv 3))) pss_nil)
      (pss_one (ps_ret (pe_ifExp (pt_cmpR op_gt (pv 2) (pv 4) (nomark _)) (pe_op op_sub (pv 2) pe_int) (pv 2))))))), ?_⟩
    refine ⟨_, rfl, _, rfl, _, _, rfl, _, rfl, _, rfl, _, _, rfl, _, rfl, _, rfl, rfl, _, rfl, ite2 (fun hc => ?_) fun hc => ?_⟩
    · have e : x = mx a b := V.int.inj (of_decide_eq_true hc)
      refine ⟨_, rfl, ?_⟩
      unfold nb at q
      rw [if_pos e] at q
      exact q
    · have e : ¬ x = mx a b := fun z => hc (decide_eq_true (congrArg V.int z))
      unfold nb at q
      rw [if_neg e] at q
      refine ⟨_, rfl, _, rfl, _, _, rfl, rfl, _, rfl, ite2 (fun hd => ?_) fun hd => ?_⟩
      · have e2 : x > mx a b := of_decide_eq_true hd
        rw [if_pos e2] at q
        exact ⟨_, rfl, _, _, rfl, rfl, q⟩
      · have e2 : ¬ x > mx a b := fun z => hd (decide_eq_true z)
        rw [if_neg e2] at q
        exact ⟨_, rfl, q⟩
/-- a line at q -/
def LnAt (H : Hp) (q : Addr) (l : Ln) : Prop := H q = some (.tup [.int l.1, .int l.2.1, .int l.2.2])
def ordd (a b r : Int) : Ln := if a < b then (a, b, r) else (b, a, r)
def spOrdered : L2.Sp := fun vs H Q _ => ∃ a b r : Int, vs = [.int a, .int b, .int r] ∧ ∀ p, H p = none → Q (.ref p) (upd H p (.tup [.int (ordd a b r).1, .int (ordd a b r).2.1, .int (ordd a b r).2.2]))
theorem ok_orderedline (T : Tx K mg) : FnOk P w K mg base CX0 1 (T.f 21) (T.fd 21) ["one", "other", "room"] spOrdered := by
  refine T.d_orderedline.F.ok sc_orderedline (fun vs H Q E h => ?_) (fun cdv A outer s H vs Q E hr h => ?_)
  · obtain ⟨a, b, x, rfl, _⟩ := h
    rfl
  · obtain ⟨a, b, x, rfl, q⟩ := h
    refine ⟨_, 
      (pss_cons (ps_if (pt_cmpR op_lt (pv 0) (pv 1) (nomark _)) 
          (pss_one (ps_ret (pe_tup (pa_cons (pv 0) (pa_cons (pv 1) (pa_cons (pv 2) pa_nil)))))) pss_nil)
      (pss_one (ps_ret (pe_tup (pa_cons (pv 1) (pa_cons (pv 0) (pa_cons (pv 2) pa_nil))))))), ?_⟩
    refine ⟨_, rfl, _, rfl, _, _, rfl, rfl, _, rfl, ite2 (fun hc => ?_) fun hc => ?_⟩
    · have e : a < b := by simpa using hc
      unfold ordd at q
      rw [if_pos e] at q
      exact ⟨_, rfl, _, rfl, _, rfl, by show 3 ≤ sizeLine; decide, q⟩
    · have e : ¬ a < b := by simpa using hc
      unfold ordd at q
      rw [if_neg e] at q
      exact ⟨_, rfl, _, rfl, _, rfl, by show 3 ≤ sizeLine; decide, q⟩
def spNeed : L2.Sp := fun vs H Q _ => ∃ z : PySem.Str, vs = [.bl true, .str z] ∧ Q .non H
theorem ok_need (T : Tx K mg) : FnOk P w K mg base CX0 1 (T.f 18) (T.fd 18) ["holds", "name"] spNeed := by
  refine T.d_need.F.ok sc_need (fun vs H Q E h => ?_) (fun cdv A outer s H vs Q E hr h => ?_)
  · obtain ⟨z, rfl, _⟩ := h
    rfl
  · obtain ⟨z, rfl, q⟩ := h
    refine ⟨_, 
      (pss_one (ps_if (pt_not (pt_val (pv 0))) 
          (pss_one ps_never) pss_nil)), ?_⟩
    exact ⟨_, rfl, _, rfl, iteF q⟩
/-- the tuple of lines at p -/
def LTup (H : Hp) (p : Addr) (L : List Ln) : Prop := ∃ qs : List Addr, H p = some (.tup (qs.map V.ref)) ∧ Paired (fun l q => LnAt H q l) L qs
def Web (H : Hp) (p : Addr) (n : Int) (L : List Ln) : Prop := ∃ q, H p = some (.tup [.int n, .ref q]) ∧ LTup H q L
theorem LTup.mono {H H' : Hp} {p : Addr} {L : List Ln} (h : LTup H p L) (e : Same H H') : LTup H' p L := by
  obtain ⟨qs, h1, h2⟩ := h
  exact ⟨qs, e _ _ h1, L2.Paired.mapP h2 fun l q z => e _ _ z⟩
theorem Web.mono {H H' : Hp} {p : Addr} {n : Int} {L : List Ln} (h : Web H p n L) (e : Same H H') : Web H' p n L := by
  obtain ⟨q, h1, h2⟩ := h
  exact ⟨q, e _ _ h1, h2.mono e⟩
def spNeedHouse : L2.Sp := fun vs H Q _ => ∃ (p : Addr) (n x : Int) (L : List Ln) (z : PySem.Str), vs = [.ref p, .int x, .str z] ∧ Web H p n L ∧ 0 ≤ x ∧ x < n ∧ Q .non H
theorem ok_needhouse (T : Tx K mg) : FnOk P w K mg base CX0 4 (T.f 19) (T.fd 19) ["web", "house", "name"] spNeedHouse := by
  refine T.d_needhouse.F.ok sc_needhouse (fun vs H Q E h => ?_) (fun cdv A outer s H vs Q E hr h => ?_)
  · obtain ⟨p, n, x, L, z, rfl, _⟩ := h
    rfl
  · obtain ⟨p, n, x, L, z, rfl, ⟨q0, hw, hl⟩, h0, h1, q⟩ := h
    refine ⟨_, 
      (pss_one (ps_expr (pe_call (ok_need T) (hr.mono (by decide)) (by rfl) T.d_need.g T.d_need.k T.d_need.b .nil pass0 (pa_cons (pe_and (pe_call (ok_isnumber T) (hr.mono (by decide)) (by rfl) T.d_isnumber.g T.d_isnumber.k T.d_isnumber.b .nil pass0 (pa_cons (pv 1) pa_nil)) (pe_one (pe_cmpR op_lt (pv 1) (pe_ix ix_tup (pv 0) pe_int (fun _ _ => rfl)) (nomark _)))) (pa_cons (pv 2) pa_nil))))), ?_⟩
    refine ⟨_, rfl, _, _, rfl, .int x, _, rfl, ?_⟩
    rw [show isN (.int x) = true from decide_eq_true h0]
    refine iteT ⟨_, rfl, _, rfl, p, _, _, _, rfl, rfl, SqT.of hw, at_of (j := 0) rfl rfl, _, _, rfl, rfl, _, rfl, z, ?_, q⟩
    show ([V.bl (decide (x < n)), V.str z] : List V) = _
    rw [decide_eq_true h1]
def spNeedHouses : L2.Sp := fun vs H Q _ => ∃ (p : Addr) (n x y : Int) (L : List Ln), vs = [.ref p, .int x, .int y] ∧ Web H p n L ∧ 0 ≤ x ∧ x < n ∧ 0 ≤ y ∧ y < n ∧ x ≠ y ∧ Q .non H
theorem ok_needhouses (T : Tx K mg) : FnOk P w K mg base CX0 5 (T.f 20) (T.fd 20) ["web", "here", "there"] spNeedHouses := by
  refine T.d_needhouses.F.ok sc_needhouses (fun vs H Q E h => ?_) (fun cdv A outer s H vs Q E hr h => ?_)
  · obtain ⟨p, n, x, y, L, rfl, _⟩ := h
    rfl
  · obtain ⟨p, n, x, y, L, rfl, hW, h0, h1, h2, h3, hne, q⟩ := h
    obtain ⟨q0, hw, hl⟩ := id hW
    refine ⟨_, 
      (pss_cons (ps_expr (pe_call (ok_needhouse T) (hr.mono (by decide)) (by rfl) T.d_needhouse.g T.d_needhouse.k T.d_needhouse.b .nil pass0 (pa_cons (pv 0) (pa_cons (pv 1) (pa_cons pe_str pa_nil)))))
      (pss_one (ps_expr (pe_call (ok_need T) (hr.mono (by decide)) (by rfl) T.d_need.g T.d_need.k T.d_need.b .nil pass0 (pa_cons (pe_and (pe_call (ok_isnumber T) (hr.mono (by decide)) (by rfl) T.d_isnumber.g T.d_isnumber.k T.d_isnumber.b .nil pass0 (pa_cons (pv 2) pa_nil)) (pe_and (pe_cmpR op_lt (pv 2) (pe_ix ix_tup (pv 0) pe_int (fun _ _ => rfl)) (nomark _)) (pe_one (pe_cmpR op_ne (pv 2) (pv 1) (nomark _))))) (pa_cons pe_str pa_nil)))))), ?_⟩
    refine ⟨_, rfl, _, rfl, p, n, x, L, _, rfl, hW, h0, h1, ?_⟩
    refine ⟨_, rfl, _, _, rfl, .int y, _, rfl, ?_⟩
    rw [show isN (.int y) = true from decide_eq_true h2]
    refine iteT ⟨_, rfl, _, rfl, p, _, _, _, rfl, rfl, SqT.of hw, at_of (j := 0) rfl rfl, _, _, rfl, rfl, _, rfl, ?_⟩
    rw [decide_eq_true h3]
    refine iteT ⟨_, rfl, _, rfl, rfl, "there", ?_, q⟩
    have e : decide (V.int y = V.int x) = false := decide_eq_false fun e => hne (V.int.inj e).symm
    show ([V.bl (!decide (V.int y = V.int x)), V.str "there"] : List V) = _
    rw [e]
    rfl
def spLowest : L2.Sp := fun vs H Q _ => ∃ a b : Int, vs = [.int a, .int b] ∧ 0 ≤ a ∧ 0 < b ∧ b.natAbs < 2 ^ 8000 ∧ ∀ p, H p = none → Q (.ref p) (upd H p (.tup [.int (a / (Int.gcd a b : Nat)), .int (b / (Int.gcd a b : Nat))]))
theorem ok_lowest (T : Tx K mg) : FnOk P w K mg base CX0 2 (T.f 22) (T.fd 22) ["top", "bottom"] spLowest := by
  refine T.d_lowest.F.ok sc_lowest (fun vs H Q E h => ?_) (fun cdv A outer s H vs Q E hr h => ?_)
  · obtain ⟨a, b, rfl, _⟩ := h
    rfl
  · obtain ⟨a, b, rfl, ha, hb, hz, q⟩ := h
    have e1 : (if a < 0 then -a else a) = a := if_neg (by omega)
    have e2 : (if b < 0 then -b else b) = b := if_neg (by omega)
    obtain ⟨g1, g2⟩ := gcd_lt (a := a) hb hz
    refine ⟨_, 
      (pss_cons (ps_set (i := 2) sc_lowest.nd rfl (Or.inl rfl) (pe_call (ok_commondivisor T) (hr.mono (by decide)) (by rfl) T.d_commondivisor.g T.d_commondivisor.k T.d_commondivisor.b .nil pass0 (pa_cons (pe_callB call_abs (by rfl) T.n_abs (by decide +kernel) (pa_cons (pv 0) pa_nil)) (pa_cons (pe_callB call_abs (by rfl) T.n_abs (by decide +kernel) (pa_cons (pv 1) pa_nil)) pa_nil))))
      (pss_cons (ps_if (pt_cmpR op_lt (pv 1) pe_int (nomark _)) 
          (pss_one (ps_ret (pe_tup (pa_cons (pe_op op_fdivW (pe_un un_neg (pv 0)) (pv 2)) (pa_cons (pe_op op_fdivW (pe_un un_neg (pv 1)) (pv 2)) pa_nil))))) pss_nil)
      (pss_one (ps_ret (pe_tup (pa_cons (pe_op op_fdivW (pv 0) (pv 2)) (pa_cons (pe_op op_fdivW (pv 1) (pv 2)) pa_nil))))))), ?_⟩
    refine ⟨_, rfl, _, rfl, _, rfl, _, rfl, a, b, ?_, ha, Int.le_of_lt hb, ?_⟩
    · rw [e1, e2]; rfl
    refine ⟨_, rfl, _, _, rfl, rfl, _, rfl, ite2 (fun hc => ?_) fun hc => ?_⟩
    · have : b < 0 := by simpa using hc
      omega
    · exact ⟨_, rfl, _, rfl, _, _, rfl, rfl, wide_div g2 g1 (by decide) (by decide), _, rfl, _, rfl, _, _, rfl, rfl, wide_div g2 g1 (by decide) (by decide), by show 2 ≤ sizeLine; decide, q⟩
theorem ok_quotientof (T : Tx K mg) : FnOk P w K mg base CX0 3 (T.f 23) (T.fd 23) ["top", "bottom"] spLowest := by
  refine T.d_quotientof.F.ok sc_quotientof (fun vs H Q E h => ?_) (fun cdv A outer s H vs Q E hr h => ?_)
  · obtain ⟨a, b, rfl, _⟩ := h
    rfl
  · obtain ⟨a, b, rfl, ha, hb, hz, q⟩ := h
    refine ⟨_, 
      (pss_cons (ps_expr (pe_call (ok_need T) (hr.mono (by decide)) (by rfl) T.d_need.g T.d_need.k T.d_need.b .nil pass0 (pa_cons (pe_call (ok_isinteger T) (hr.mono (by decide)) (by rfl) T.d_isinteger.g T.d_isinteger.k T.d_isinteger.b .nil pass0 (pa_cons (pv 0) pa_nil)) (pa_cons pe_str pa_nil))))
      (pss_cons (ps_expr (pe_call (ok_need T) (hr.mono (by decide)) (by rfl) T.d_need.g T.d_need.k T.d_need.b .nil pass0 (pa_cons (pe_and (pe_call (ok_isinteger T) (hr.mono (by decide)) (by rfl) T.d_isinteger.g T.d_isinteger.k T.d_isinteger.b .nil pass0 (pa_cons (pv 1) pa_nil)) (pe_one (pe_cmpR op_ne (pv 1) pe_int (nomark _)))) (pa_cons pe_str pa_nil))))
      (pss_one (ps_ret (pe_call (ok_lowest T) (hr.mono (by decide)) (by rfl) T.d_lowest.g T.d_lowest.k T.d_lowest.b .nil pass0 (pa_cons (pv 0) (pa_cons (pv 1) pa_nil))))))), ?_⟩
    refine ⟨_, rfl, .int a, _, rfl, .int a, _, rfl, ?_⟩
    refine ⟨_, rfl, .int b, _, rfl, .int b, _, rfl, ?_⟩
    refine iteT ⟨_, rfl, rfl, "bottom", ?_, ?_⟩
    · have e : decide (V.int b = V.int 0) = false := decide_eq_false fun e => by have := V.int.inj e; omega
      show ([V.bl (!decide (V.int b = V.int 0)), V.str "bottom"] : List V) = _
      rw [e]
      rfl
    · exact ⟨_, rfl, _, rfl, a, b, rfl, ha, hb, hz, q⟩
end
end K36
-- text D3
set_option maxRecDepth 100000
set_option maxHeartbeats 4000000
namespace K36
open PySem PySem.Spec PyProof.Rows L2
/-! ### lists and tuples of ints -/
abbrev iv (ns : List Int) : List V := ns.map V.int
theorem iv_at {ns : List Int} {i : Nat} {v : V} (h : (iv ns)[i]? = some v) : ∃ z, ns[i]? = some z ∧ v = .int z := by
  rw [List.getElem?_map] at h
  obtain ⟨z, h1, h2⟩ := Option.map_eq_some_iff.mp h
  exact ⟨z, h1, h2.symm⟩
/-- the i-th label -/
def gt (J : List Int) (i : Int) : Int := J.getD i.toNat 0
theorem gt_at {J : List Int} {i : Int} (h0 : 0 ≤ i) (h1 : i < J.length) : J[i.toNat]? = some (gt J i) := by
  have : i.toNat < J.length := by omega
  unfold gt
  rw [List.getElem?_eq_getElem this, List.getD_eq_getElem?_getD, List.getElem?_eq_getElem this]
  rfl
theorem at_gt {J : List Int} {i : Int} (h0 : 0 ≤ i) (h1 : i < J.length) : atI (iv J) i = some (.int (gt J i)) := by
  have e : i = ((i.toNat : Nat) : Int) := by omega
  rw [e]
  refine atI_nat ?_
  rw [List.getElem?_map, gt_at h0 h1]
  rfl
theorem same_new {H : Hp} {p : Addr} {o : HO} (h : H p = none) : Same H (upd H p o) := fun b u e => by rw [upd_ne (ne_of_none e h)]; exact e
theorem same_upd {H H' : Hp} {p : Addr} {o : HO} (h : H p = none) (e : Same H H') : Same H (upd H' p o) := fun b u z => by rw [upd_ne (ne_of_none z h)]; exact e _ _ z
theorem small_line {n : Nat} (h : n ≤ 4096) : n < sizeLine := Nat.lt_of_le_of_lt h (by decide)
theorem take_snoc {α : Type} {l : List α} {i : Nat} {x : α} (h : l[i]? = some x) : l.take (i + 1) = l.take i ++ [x] := by
  rw [List.take_add_one, h]
  rfl
theorem yesT {σ : L2.St} {H : Hp} {A B : Hp → Prop} (h : A H) : tYes σ H (fun b H => if b = true then A H else B H) := by
  show (if true = true then A H else B H)
  rw [if_pos rfl]
  exact h
/-- the labels behind the joining of those of a and b -/
def mgL (J : List Int) (a b : Int) : List Int := J.map fun x => if x = mx (gt J a) (gt J b) then mn (gt J a) (gt J b) else x
section
variable {P : Program} {w : World} {K : PySem.W.Frag} {mg : PySem.Str → Option Value} {base : Heap}
def spMerged : L2.Sp := fun vs H Q _ => ∃ (p : Addr) (J : List Int) (a b : Int), vs = [.ref p, .int a, .int b] ∧ H p = some (.tup (iv J)) ∧ 0 ≤ a ∧ a < J.length ∧ 0 ≤ b ∧ b < J.length ∧ J.length ≤ 4096 ∧
  ∀ H' q, Same H H' → H q = none → H' q = some (.tup (iv (mgL J a b))) → Q (.ref q) H'
theorem ok_cmerged (T : Tx K mg) : FnOk P w K mg base CX0 1 (T.f 6) (T.fd 6) ["joining", "one", "other"] spMerged := by
  refine T.d_cmerged.F.ok sc_cmerged (fun vs H Q E h => ?_) (fun cdv A outer s H vs Q E hr h => ?_)
  · obtain ⟨p, J, a, b, rfl, _⟩ := h
    rfl
  · obtain ⟨p, J, a, b, rfl, hp, ha0, ha, hb0, hb, hl, q⟩ := h
    refine ⟨_, 
      (pss_cons (ps_set (i := 3) sc_cmerged.nd rfl (Or.inr rfl) (pe_callB (call_min2 rfl) (by rfl) T.n_min (by decide +kernel) (pa_cons (pe_ix ix_tup (pv 0) (pv 1) (fun _ _ => rfl)) (pa_cons (pe_ix ix_tup (pv 0) (pv 2) (fun _ _ => rfl)) pa_nil))))
      (pss_cons (ps_set (i := 4) sc_cmerged.nd rfl (Or.inr rfl) (pe_callB (call_max2 rfl) (by rfl) T.n_max (by decide +kernel) (pa_cons (pe_ix ix_tup (pv 0) (pv 1) (fun _ _ => rfl)) (pa_cons (pe_ix ix_tup (pv 0) (pv 2) (fun _ _ => rfl)) pa_nil))))
      (pss_one (ps_ret (pe_tupleOf (by rfl) T.n_tuple (pe_lc (own := [("least", 5)]) rfl sc_cmerged.nd (pi_tup (pv 0)) (blkOk_by (own := [("least", 5)]) (N := N_cmerged) (sc := defScope s_cmerged) (by decide +kernel)) (fun _ _ _ _ _ => (pg_name (i := 5) sc_cmerged.nd rfl (Or.inl rfl))) (fun _ _ _ _ _ => pts_nil) (fun _ _ _ _ _ => (pe_ifExp (pt_cmpR op_eq (pv 5) (pv 4) (nomark _)) (pv 3) (pv 5))))))))), ?_⟩
    refine ⟨_, rfl, _, rfl, p, _, _, _, rfl, rfl, SqT.of hp, at_gt ha0 ha, _, rfl, _, rfl, p, _, _, _, rfl, rfl, SqT.of hp, at_gt hb0 hb, _, _, rfl, ?_⟩
    refine ⟨_, rfl, _, rfl, p, _, _, _, rfl, rfl, SqT.of hp, at_gt ha0 ha, _, rfl, _, rfl, p, _, _, _, rfl, rfl, SqT.of hp, at_gt hb0 hb, _, _, rfl, ?_⟩
    refine ⟨_, rfl, p, rfl, ⟨_, SqT.of hp⟩, fun D hD => ?_⟩
    have eL : (if gt J b < gt J a then gt J b else gt J a) = mn (gt J a) (gt J b) := rfl
    have eH : (if gt J b > gt J a then gt J b else gt J a) = mx (gt J a) (gt J b) := rfl
    rw [eL, eH]
    refine lc_it (n := (iv J).length) walk_tup (fun i H' => Same H H' ∧ H' D = some (.lst (iv ((J.take i).map fun x => if x = mx (gt J a) (gt J b) then mn (gt J a) (gt J b) else x)))) ⟨same_new hD, upd_same⟩ (fun i H' _ z => SqT.of (z.1 _ _ hp)) ?_ ?_
    · rintro i x H1 H2 hi ⟨sm, hL⟩ ⟨rfl, hx⟩
      obtain ⟨z, hz, rfl⟩ := iv_at hx
      have hlt : i < J.length := by simpa using hi
      refine ⟨rfl, yesT ?_⟩
      refine ⟨_, rfl, _, rfl, rfl, _, rfl, ite2 (fun hc => ?_) fun hc => ?_⟩
      · have e : z = mx (gt J a) (gt J b) := V.int.inj (of_decide_eq_true hc)
        refine ⟨_, rfl, _, hL, small_line (by simp; omega), same_upd hD sm, ?_⟩
        rw [upd_same, take_snoc hz]
        simp [e]
      · have e : ¬ z = mx (gt J a) (gt J b) := fun y => hc (decide_eq_true (congrArg V.int y))
        refine ⟨_, rfl, _, hL, small_line (by simp; omega), same_upd hD sm, ?_⟩
        rw [upd_same, take_snoc hz]
        simp [e]
    · rintro H1 ⟨sm, hL⟩
      refine .inl ⟨D, _, rfl, SqL.of hL, fun t ht => q _ t ((sm.trans (same_new ht))) (sm.free ht) ?_⟩
      rw [upd_same, List.length_map, List.take_length]
      rfl
end
end K36
-- text D4
set_option maxRecDepth 100000
set_option maxHeartbeats 4000000
namespace K36
open PySem PySem.Spec PyProof.Rows L2
/-! ### joinings -/
def lfs (pl : Int) : Int → Option Int → List Int → List Int
  | _, _, [] => []
  | at_, h, x :: r => if at_ = pl then lfs pl (at_ + 1) h r else if x = pl then h.getD (at_ - 1) :: lfs pl (at_ + 1) (some (h.getD (at_ - 1))) r else (if x > pl then x - 1 else x) :: lfs pl (at_ + 1) h r
/-- the labels of the others when the house at pl is let go -/
def leftJ (J : List Int) (pl : Int) : List Int := lfs pl 0 none J
theorem lfs_len (pl : Int) : ∀ (J : List Int) (a : Int) (h : Option Int), (lfs pl a h J).length ≤ J.length
  | [], _, _ => Nat.le_refl _
  | x :: r, a, h => by
    unfold lfs
    have := lfs_len pl r (a + 1)
    split
    · exact Nat.le_succ_of_le (this _)
    · split <;> (rw [List.length_cons, List.length_cons]; exact Nat.succ_le_succ (this _))
/-- every label is the least of its block -/
def VJ (J : List Int) : Prop := ∀ (i : Nat) z, J[i]? = some z → 0 ≤ z ∧ z ≤ i ∧ gt J z = z
def hv : Option Int → V
  | none => .non
  | some z => .int z
theorem lt_of_getElem? {α : Type} {l : List α} {i : Nat} {x : α} (h : l[i]? = some x) : i < l.length := (List.getElem?_eq_some_iff.mp h).1
theorem drop_at {α : Type} {l : List α} {i : Nat} {x : α} (h : l[i]? = some x) : l.drop i = x :: l.drop (i + 1) := by
  have hi := lt_of_getElem? h
  rw [List.drop_eq_getElem_cons hi]
  congr 1
  rw [List.getElem?_eq_getElem hi] at h
  exact Option.some.inj h
section
variable {P : Program} {w : World} {K : PySem.W.Frag} {mg : PySem.Str → Option Value} {base : Heap}
def spLeft : L2.Sp := fun vs H Q _ => ∃ (p : Addr) (J : List Int) (pl : Int), vs = [.ref p, .int pl] ∧ H p = some (.tup (iv J)) ∧ J.length ≤ 4000 ∧
  ∀ H' q, Same H H' → H q = none → H' q = some (.tup (iv (leftJ J pl))) → Q (.ref q) H'
theorem ok_cleft (T : Tx K mg) : FnOk P w K mg base CX0 1 (T.f 7) (T.fd 7) ["joining", "place"] spLeft := by
  refine T.d_cleft.F.ok sc_cleft (fun vs H Q E h => ?_) (fun cdv A outer s H vs Q E hr h => ?_)
  · obtain ⟨p, J, a, rfl, _⟩ := h
    rfl
  · obtain ⟨p, J, pl, rfl, hp, hl, q⟩ := h
    refine ⟨_, 
      (pss_cons (ps_set (i := 2) sc_cleft.nd rfl (Or.inl rfl) pe_non)
      (pss_cons (ps_set (i := 3) sc_cleft.nd rfl (Or.inl rfl) (pe_lst pa_nil))
      (pss_cons (ps_for PassesOwn.never rfl (pi_enumT (by rfl) T.n_enumerate (pa_cons (pv 0) pa_nil)) (pg_tup rfl (pgs_cons (pg_name (i := 4) sc_cleft.nd rfl (Or.inl rfl)) (pgs_cons (pg_name (i := 5) sc_cleft.nd rfl (Or.inl rfl)) pgs_nil))) 
          (pss_cons (ps_if (pt_cmpR op_eq (pv 4) (pv 1) (nomark _)) 
              (pss_one ps_continue) pss_nil)
          (pss_one (ps_if (pt_cmpR op_eq (pv 5) (pv 1) (nomark _)) 
              (pss_cons (ps_if (pt_cmpR op_isN (pv 2) pe_non (nomark _)) 
                  (pss_one (ps_set (i := 2) sc_cleft.nd rfl (Or.inl rfl) (pe_op op_sub (pv 4) pe_int))) pss_nil)
              (pss_one (ps_expr (pe_bm PySem.F.plainAttrs_list PySem.F.slot_list_append PySem.F.type_list_append mt_append (pv 3) (pa_cons (pv 2) pa_nil))))) 
              (pss_one (ps_expr (pe_bm PySem.F.plainAttrs_list PySem.F.slot_list_append PySem.F.type_list_append mt_append (pv 3) (pa_cons (pe_ifExp (pt_cmpR op_gt (pv 5) (pv 1) (nomark _)) (pe_op op_sub (pv 5) pe_int) (pv 5)) pa_nil))))))))
      (pss_one (ps_ret (pe_tupleOf (by rfl) T.n_tuple (pv 3))))))), ?_⟩
    refine ⟨by show 0 ≤ sizeLine; decide, fun D hD => ?_⟩
    refine ⟨_, rfl, p, _, rfl, SqT.of (same_new hD _ _ hp), ?_⟩
    refine for_it (n := (iv J).length) walk_enumT (fun i σ H' => ∃ (h : Option Int) (acc : List Int) (a b : Option V), σ = [some (.ref p), some (.int pl), some (hv h), some (.ref D), a, b] ∧ Same H H' ∧ H' D = some (.lst (iv acc)) ∧ acc.length ≤ i ∧ acc ++ lfs pl i h (J.drop i) = leftJ J pl)
      ⟨none, [], none, none, rfl, same_new hD, upd_same, Nat.zero_le _, rfl⟩ (fun i σ H' _ ⟨h, acc, a, b, _, sm, _⟩ => SqT.of (sm _ _ hp)) ?_ ?_
    · rintro i x σ H1 H2 hi ⟨h, acc, a, b, rfl, sm, hL, hla, he⟩ ⟨t, x1, x2, rfl, ht, rfl, e1, e2⟩
      cases e1
      obtain ⟨z, hz, rfl⟩ := iv_at e2
      have hlt : i < J.length := lt_of_getElem? hz
      have hL2 : (upd H1 t (.tup [.int i, .int z])) D = some (.lst (iv acc)) := same_new ht _ _ hL
      have sm2 : Same H (upd H1 t (.tup [.int i, .int z])) := sm.trans (same_new ht)
      rw [drop_at hz] at he
      unfold lfs at he
      refine ⟨t, _, rfl, SqT.of upd_same, rfl, _, _, rfl, _, _, rfl, rfl, ?_⟩
      refine ⟨_, rfl, _, rfl, rfl, _, rfl, ite2 (fun hc => ?_) fun hc => ?_⟩
      · have e : (i : Int) = pl := V.int.inj (of_decide_eq_true hc)
        rw [if_pos e] at he
        exact ⟨h, acc, _, _, rfl, sm2, hL2, Nat.le_succ_of_le hla, he⟩
      · have e : ¬ (i : Int) = pl := fun y => hc (decide_eq_true (congrArg V.int y))
        rw [if_neg e] at he
        refine ⟨_, rfl, _, rfl, rfl, _, rfl, ite2 (fun hd => ?_) fun hd => ?_⟩
        · have e : z = pl := V.int.inj (of_decide_eq_true hd)
          rw [if_pos e] at he
          cases h with
          | none =>
            refine ⟨_, rfl, rfl, _, rfl, iteT ⟨_, rfl, _, _, rfl, rfl, _, rfl, .inl ⟨rfl, _, Or.inl (Or.inl hL2)⟩, _, rfl, _, _, _, rfl, rfl, hL2, small_line (by simp; omega), ?_⟩⟩
            refine ⟨some ((i : Int) - 1), acc ++ [(i : Int) - 1], _, _, rfl, same_upd hD sm2, ?_, by simp; omega, ?_⟩
            · rw [upd_same]; simp
            · rw [List.append_assoc]; exact he
          | some g =>
            refine ⟨_, rfl, rfl, _, rfl, iteF ⟨_, rfl, .inl ⟨rfl, _, Or.inl (Or.inl hL2)⟩, _, rfl, _, _, _, rfl, rfl, hL2, small_line (by simp; omega), ?_⟩⟩
            refine ⟨some g, acc ++ [g], _, _, rfl, same_upd hD sm2, ?_, by simp; omega, ?_⟩
            · rw [upd_same]; simp [hv]
            · rw [List.append_assoc]; exact he
        · have e : ¬ z = pl := fun y => hd (decide_eq_true (congrArg V.int y))
          rw [if_neg e] at he
          have fin : ∀ y : Int, y = (if z > pl then z - 1 else z) → ∃ (h' : Option Int) (acc' : List Int) (a b : Option V), [some (V.ref p), some (.int pl), some (hv h), some (.ref D), some (.int i), some (.int z)] = [some (V.ref p), some (.int pl), some (hv h'), some (.ref D), a, b] ∧
              Same H (upd (upd H1 t (.tup [.int i, .int z])) D (.lst (iv acc ++ [.int y]))) ∧ upd (upd H1 t (.tup [.int i, .int z])) D (.lst (iv acc ++ [.int y])) D = some (.lst (iv acc')) ∧ acc'.length ≤ i + 1 ∧ acc' ++ lfs pl (i + 1 : Nat) h' (J.drop (i + 1)) = leftJ J pl := by
            intro y ey
            refine ⟨h, acc ++ [y], _, _, rfl, same_upd hD sm2, ?_, by simp; omega, ?_⟩
            · rw [upd_same]; simp
            · rw [List.append_assoc, ey]; exact he
          refine ⟨_, rfl, .inl ⟨rfl, _, Or.inl (Or.inl hL2)⟩, _, rfl, _, rfl, _, _, rfl, rfl, _, rfl, ite2 (fun hg => ?_) fun hg => ?_⟩
          · have e : z > pl := of_decide_eq_true hg
            refine ⟨_, rfl, _, _, rfl, rfl, _, _, _, rfl, rfl, hL2, small_line (by simp; omega), ?_⟩
            exact fin _ (by rw [if_pos e])
          · have e : ¬ z > pl := fun y => hg (decide_eq_true y)
            refine ⟨_, rfl, _, _, _, rfl, rfl, hL2, small_line (by simp; omega), ?_⟩
            exact fin _ (by rw [if_neg e])
    · rintro σ H1 ⟨h, acc, a, b, rfl, sm, hL, hla, he⟩
      refine ⟨_, rfl, .inl ⟨D, _, rfl, SqL.of hL, fun t ht => q _ t (sm.trans (same_new ht)) (sm.free ht) ?_⟩⟩
      rw [List.length_map, List.drop_length] at he
      rw [upd_same, ← he]
      simp [lfs]
def spEntered : L2.Sp := fun vs H Q _ => ∃ (p : Addr) (J : List Int), vs = [.ref p, .int J.length] ∧ H p = some (.tup (iv J)) ∧ (∀ x ∈ J, x < J.length) ∧ J.length ≤ 4000 ∧
  ∀ H' q, Same H H' → H q = none → H' q = some (.tup (iv (J ++ [(J.length : Int)]))) → Q (.ref q) H'
theorem ok_centered (T : Tx K mg) : FnOk P w K mg base CX0 1 (T.f 5) (T.fd 5) ["joining", "place"] spEntered := by
  refine T.d_centered.F.ok sc_centered (fun vs H Q E h => ?_) (fun cdv A outer s H vs Q E hr h => ?_)
  · obtain ⟨p, J, rfl, _⟩ := h
    rfl
  · obtain ⟨p, J, rfl, hp, hx, hl, q⟩ := h
    refine ⟨_, 
      (pss_cons (ps_setLc (i := 2) (own := [("least", 3)]) rfl sc_centered.nd rfl rfl (sw_true rfl rfl rfl (by decide +kernel)) (pi_tup (pv 0)) (blkOk_by (own := [("least", 3)]) (N := N_centered) (sc := defScope s_centered) (by decide +kernel)) (fun _ _ _ _ _ => (pg_name (i := 3) sc_centered.nd rfl (Or.inl rfl))) (fun _ _ _ _ _ => pts_nil) (fun _ _ _ _ _ => (pe_ifExp (pt_cmpR op_ge (pv 3) (pv 1) (nomark _)) (pe_op op_add (pv 3) pe_int) (pv 3))))
      (pss_one (ps_ret (pe_tupleOf (by rfl) T.n_tuple (pe_op op_cat (pe_op op_cat (pe_slice sl_list (pv 2) po_none (po_some (pv 1))) (pe_lst (pa_cons (pv 1) pa_nil))) (pe_slice sl_list (pv 2) (po_some (pv 1)) po_none)))))), ?_⟩
    refine ⟨_, rfl, p, rfl, ⟨_, SqT.of hp⟩, fun D hD => ?_⟩
    refine lc_it (n := (iv J).length) walk_tup (fun i H' => Same H H' ∧ H' D = some (.lst (iv (J.take i)))) ⟨same_new hD, upd_same⟩ (fun i H' _ z => SqT.of (z.1 _ _ hp)) ?_ ?_
    · rintro i x H1 H2 hi ⟨sm, hL⟩ ⟨rfl, hx'⟩
      obtain ⟨z, hz, rfl⟩ := iv_at hx'
      have hlt : i < J.length := lt_of_getElem? hz
      have hzl := hx z (List.mem_of_getElem? hz)
      refine ⟨rfl, yesT ?_⟩
      refine ⟨_, rfl, _, rfl, _, _, rfl, rfl, _, rfl, ite2 (fun hc => ?_) fun hc => ?_⟩
      · have : z ≥ (J.length : Int) := of_decide_eq_true hc
        omega
      · refine ⟨_, rfl, _, hL, small_line (by simp; omega), same_upd hD sm, ?_⟩
        rw [upd_same, take_snoc hz]
        simp
    · rintro H1 ⟨sm, hL⟩
      rw [List.length_map, List.take_length] at hL
      have c1 : cutV (iv J) none (some (J.length : Int)) = iv J := by
        unfold cutV
        rw [HT.sIx_none, HT.sIx_nat]
        simp [List.take_of_length_le]
      have c2 : cutV (iv J) (some (J.length : Int)) none = [] := by
        unfold cutV
        rw [HT.sIx_none, HT.sIx_nat]
        simp
      refine ⟨_, rfl, _, rfl, _, rfl, D, _, rfl, SqL.of hL, fun p1 n1 => ?_⟩
      rw [c1]
      refine ⟨_, rfl, by show 1 ≤ sizeLine; decide, fun p2 n2 => ?_⟩
      have hL1 := same_new (o := .lst (iv J)) n1 _ _ hL
      refine ⟨p1, p2, iv J, [.int J.length], rfl, rfl, same_new n2 _ _ upd_same, upd_same, ?_, fun p3 n3 => ?_⟩
      · simp
        exact Nat.le_of_lt (small_line (by omega))
      refine ⟨_, rfl, _, rfl, _, rfl, D, _, rfl, SqL.of (same_new n3 _ _ (same_new n2 _ _ hL1)), fun p4 n4 => ?_⟩
      rw [c2]
      refine ⟨p3, p4, iv J ++ [.int J.length], [], rfl, rfl, same_new n4 _ _ upd_same, upd_same, ?_, fun p5 n5 => ?_⟩
      · simp
        exact Nat.le_of_lt (small_line (by omega))
      refine .inl ⟨p5, _, rfl, SqL.of upd_same, fun t ht => q _ t ?_ ?_ ?_⟩
      · exact ((((sm.trans (same_new n1)).trans (same_new n2)).trans (same_new n3)).trans (same_new n4)).trans (same_new n5) |>.trans (same_new ht)
      · exact (((((sm.trans (same_new n1)).trans (same_new n2)).trans (same_new n3)).trans (same_new n4)).trans (same_new n5)).free ht
      · rw [upd_same]
        simp
def spJoining : L2.Sp := fun vs H Q _ => ∃ (p : Addr) (J : List Int), vs = [.int J.length, .ref p] ∧ H p = some (.tup (iv J)) ∧ VJ J ∧ ∀ H', Same H H' → Q (.bl true) H'
theorem ok_isjoining (T : Tx K mg) : FnOk P w K mg base CX0 3 (T.f 3) (T.fd 3) ["many", "thing"] spJoining := by
  refine T.d_isjoining.F.ok sc_isjoining (fun vs H Q E h => ?_) (fun cdv A outer s H vs Q E hr h => ?_)
  · obtain ⟨p, J, rfl, _⟩ := h
    rfl
  · obtain ⟨p, J, rfl, hp, hv, q⟩ := h
    refine ⟨_, 
      (pss_cons (ps_if (PW.pt (pw_or (pt_not (pt_val (pe_callB call_isi (by rfl) T.n_isinstance (by decide +kernel) (pa_cons (pv 1) (pa_cons (pe_bltn (by rfl) T.n_tuple (by decide +kernel) (show RelV (.ty "tuple") (.type "tuple") from rfl)) pa_nil))))) (pw_or1 (pt_cmpR op_ne (pe_callB call_len_seq (by rfl) T.n_len (by decide +kernel) (pa_cons (pv 1) pa_nil)) (pv 0) (nomark _))))) 
          (pss_one (ps_ret pe_bl)) pss_nil)
      (pss_cons (ps_for PassesOwn.never rfl (pi_enumT (by rfl) T.n_enumerate (pa_cons (pv 1) pa_nil)) (pg_tup rfl (pgs_cons (pg_name (i := 2) sc_isjoining.nd rfl (Or.inl rfl)) (pgs_cons (pg_name (i := 3) sc_isjoining.nd rfl (Or.inl rfl)) pgs_nil))) 
          (pss_one (ps_if (PW.pt (pw_or (pt_not (pt_val (pe_call (ok_isnumber T) (hr.mono (by decide)) (by rfl) T.d_isnumber.g T.d_isnumber.k T.d_isnumber.b .nil pass0 (pa_cons (pv 3) pa_nil)))) (pw_or (pt_cmpR op_gt (pv 3) (pv 2) (nomark _)) (pw_or1 (pt_cmpR op_ne (pe_ix ix_tup (pv 1) (pv 3) (fun _ _ => rfl)) (pv 3) (nomark _)))))) 
              (pss_one (ps_ret pe_bl)) pss_nil)))
      (pss_one (ps_ret pe_bl)))), ?_⟩
    refine ⟨_, rfl, _, .ty "tuple", _, _, true, rfl, .ty _, (Kn.tup hp).ty, (Kn.tup hp).tup2, _, rfl, ?_⟩
    refine iteF ⟨_, rfl, p, _, rfl, .inr (SqT.of hp), _, rfl, rfl, _, rfl, ?_⟩
    have e0 : decide (V.int ((iv J).length : Nat) = V.int (J.length : Nat)) = true := decide_eq_true (by rw [List.length_map])
    rw [e0]
    refine iteF ⟨_, rfl, p, _, rfl, SqT.of hp, ?_⟩
    refine for_it (n := (iv J).length) walk_enumT (fun i σ H' => ∃ (a b : Option V), σ = [some (.int J.length), some (.ref p), a, b] ∧ Same H H') ⟨none, none, rfl, Same.refl _⟩ (fun i σ H' _ ⟨a, b, _, sm⟩ => SqT.of (sm _ _ hp)) ?_ ?_
    · rintro i x σ H1 H2 hi ⟨a, b, rfl, sm⟩ ⟨t, x1, x2, rfl, ht, rfl, e1, e2⟩
      cases e1
      obtain ⟨z, hz, rfl⟩ := iv_at e2
      have hlt : i < J.length := lt_of_getElem? hz
      obtain ⟨z0, z1, z2⟩ := hv i z hz
      have sm2 : Same H (upd H1 t (.tup [.int i, .int z])) := sm.trans (same_new ht)
      refine ⟨t, _, rfl, SqT.of upd_same, rfl, _, _, rfl, _, _, rfl, rfl, ?_⟩
      refine ⟨_, rfl, _, _, rfl, .int z, _, rfl, ?_⟩
      rw [show isN (.int z) = true from decide_eq_true z0]
      refine iteF ⟨_, rfl, _, rfl, _, _, rfl, rfl, _, rfl, ?_⟩
      rw [show decide (z > (i : Int)) = false from decide_eq_false (by omega)]
      refine iteF ⟨_, rfl, _, rfl, p, _, _, _, rfl, rfl, SqT.of (sm2 _ _ hp), at_gt z0 (by omega), _, rfl, rfl, _, rfl, ?_⟩
      rw [show decide (V.int (gt J z) = V.int z) = true from decide_eq_true (by rw [z2])]
      exact iteF ⟨_, _, rfl, sm2⟩
    · rintro σ H1 ⟨a, b, rfl, sm⟩
      exact q _ sm
end
end K36
-- text D5
set_option maxRecDepth 100000
set_option maxHeartbeats 4000000
namespace K36
open PySem PySem.Spec PyProof.Rows L2
theorem pr_at {α β : Type} {F : α → β → Prop} : ∀ {l : List α} {m : List β} {i : Nat} {y : β}, Paired F l m → m[i]? = some y → ∃ x, l[i]? = some x ∧ F x y
  | _, _, i, y, .nil, h => by simp at h
  | _, _, 0, y, .cons r t, h => ⟨_, rfl, by simp at h; rw [← h]; exact r⟩
  | _, _, i + 1, y, .cons r t, h => by
    simp only [List.getElem?_cons_succ] at h ⊢
    exact pr_at t h
theorem pr_snoc {α β : Type} {F : α → β → Prop} {l : List α} {m : List β} {x : α} {y : β} (h : Paired F l m) (r : F x y) : Paired F (l ++ [x]) (m ++ [y]) := by
  induction h with
  | nil => exact .cons r .nil
  | cons a b ih => exact .cons a ih
/-- the lines by other numbers -/
def renum (ns : List Int) (L : List Ln) : List Ln := L.filterMap fun l => if gt ns l.1 = gt ns l.2.1 then none else some (ordd (gt ns l.1) (gt ns l.2.1) l.2.2)
/-- a line's ends are in range -/
def InR (n : Int) (L : List Ln) : Prop := ∀ l ∈ L, 0 ≤ l.1 ∧ l.1 < n ∧ 0 ≤ l.2.1 ∧ l.2.1 < n
section
variable {P : Program} {w : World} {K : PySem.W.Frag} {mg : PySem.Str → Option Value} {base : Heap}
def spNumbered : L2.Sp := fun vs H Q _ => ∃ (p l : Addr) (sz n : Int) (L : List Ln) (ns : List Int), vs = [.int sz, .ref p, .ref l] ∧ Web H p n L ∧ H l = some (.lst (iv ns)) ∧ InR ns.length L ∧ L.length ≤ 4000 ∧
  ∀ H' q, Same H H' → H q = none → Web H' q sz (renum ns L) → Q (.ref q) H'
theorem ok_numberedanew (T : Tx K mg) : FnOk P w K mg base CX0 2 (T.f 24) (T.fd 24) ["size", "web", "numbers"] spNumbered := by
  refine T.d_numberedanew.F.ok sc_numberedanew (fun vs H Q E h => ?_) (fun cdv A outer s H vs Q E hr h => ?_)
  · obtain ⟨p, l, sz, n, L, ns, rfl, _⟩ := h
    rfl
  · obtain ⟨p, l, sz, n, L, ns, rfl, ⟨q0, hw, qs, hq, hL⟩, hl, hin, hlen, q⟩ := h
    have hqn : qs.length = L.length := (Paired.length hL).symm
    refine ⟨_, 
      (pss_cons (ps_set (i := 3) sc_numberedanew.nd rfl (Or.inl rfl) (pe_lst pa_nil))
      (pss_cons (ps_for PassesOwn.never rfl (pi_tup (pe_ix ix_tup (pv 1) pe_int (fun _ _ => rfl))) (pg_tup rfl (pgs_cons (pg_name (i := 4) sc_numberedanew.nd rfl (Or.inl rfl)) (pgs_cons (pg_name (i := 5) sc_numberedanew.nd rfl (Or.inl rfl)) (pgs_cons (pg_name (i := 6) sc_numberedanew.nd rfl (Or.inl rfl)) pgs_nil)))) 
          (pss_one (ps_if (pt_cmpR op_ne (pe_ix ix_list (pv 2) (pv 4) (fun _ _ => rfl)) (pe_ix ix_list (pv 2) (pv 5) (fun _ _ => rfl)) (nomark _)) 
              (pss_one (ps_expr (pe_bm PySem.F.plainAttrs_list PySem.F.slot_list_append PySem.F.type_list_append mt_append (pv 3) (pa_cons (pe_call (ok_orderedline T) (hr.mono (by decide)) (by rfl) T.d_orderedline.g T.d_orderedline.k T.d_orderedline.b .nil pass0 (pa_cons (pe_ix ix_list (pv 2) (pv 4) (fun _ _ => rfl)) (pa_cons (pe_ix ix_list (pv 2) (pv 5) (fun _ _ => rfl)) (pa_cons (pv 6) pa_nil)))) pa_nil)))) pss_nil)))
      (pss_one (ps_ret (pe_tup (pa_cons (pv 0) (pa_cons (pe_tupleOf (by rfl) T.n_tuple (pv 3)) pa_nil))))))), ?_⟩
    refine ⟨by show 0 ≤ sizeLine; decide, fun D hD => ?_⟩
    refine ⟨_, rfl, p, _, _, _, rfl, rfl, SqT.of (same_new hD _ _ hw), at_of (j := 1) rfl rfl, q0, rfl, ⟨_, SqT.of (same_new hD _ _ hq)⟩, ?_⟩
    refine for_it (n := (qs.map V.ref).length) walk_tup (fun i σ H' => ∃ (ts : List Addr) (a b c : Option V), σ = [some (.int sz), some (.ref p), some (.ref l), some (.ref D), a, b, c] ∧ Same H H' ∧ H' D = some (.lst (ts.map V.ref)) ∧ ts.length ≤ i ∧ Paired (fun l q => LnAt H' q l) (renum ns (L.take i)) ts)
      ⟨[], none, none, none, rfl, same_new hD, upd_same, Nat.zero_le _, .nil⟩ (fun i σ H' _ ⟨ts, a, b, c, _, sm, _⟩ => SqT.of (sm _ _ hq)) ?_ ?_
    · rintro i x σ H1 H2 hi ⟨ts, a, b, c, rfl, sm, hD1, htl, hP⟩ ⟨rfl, hx⟩
      rw [List.getElem?_map] at hx
      obtain ⟨t, ht, rfl⟩ := Option.map_eq_some_iff.mp hx
      obtain ⟨ln, hln, hat⟩ := pr_at hL ht
      have hlt : i < L.length := lt_of_getElem? hln
      obtain ⟨a0, a1, b0, b1⟩ := hin ln (List.mem_of_getElem? hln)
      have er : renum ns (L.take (i + 1)) = renum ns (L.take i) ++ (if gt ns ln.1 = gt ns ln.2.1 then [] else [ordd (gt ns ln.1) (gt ns ln.2.1) ln.2.2]) := by
        unfold renum
        rw [take_snoc hln, List.filterMap_append]
        congr 1
        by_cases e : gt ns ln.1 = gt ns ln.2.1 <;> simp [e]
      refine ⟨t, _, rfl, SqT.of (sm _ _ hat), rfl, _, _, rfl, _, _, rfl, _, _, rfl, rfl, ?_⟩
      refine ⟨_, rfl, _, rfl, l, _, _, _, rfl, rfl, SqL.of (sm _ _ hl), at_gt a0 a1, _, rfl, _, rfl, l, _, _, _, rfl, rfl, SqL.of (sm _ _ hl), at_gt b0 b1, rfl, _, rfl, ?_⟩
      by_cases e : gt ns ln.1 = gt ns ln.2.1
      · rw [show decide (V.int (gt ns ln.1) = V.int (gt ns ln.2.1)) = true from decide_eq_true (by rw [e])]
        refine iteF ⟨ts, _, _, _, rfl, sm, hD1, Nat.le_succ_of_le htl, ?_⟩
        rw [er, if_pos e, List.append_nil]
        exact hP
      · rw [show decide (V.int (gt ns ln.1) = V.int (gt ns ln.2.1)) = false from decide_eq_false fun z => e (V.int.inj z)]
        refine iteT ⟨_, rfl, .inl ⟨rfl, _, Or.inl (Or.inl hD1)⟩, ?_⟩
        refine ⟨_, rfl, _, rfl, l, _, _, _, rfl, rfl, SqL.of (sm _ _ hl), at_gt a0 a1, _, rfl, _, rfl, l, _, _, _, rfl, rfl, SqL.of (sm _ _ hl), at_gt b0 b1, _, rfl, _, _, _, rfl, fun u hu => ?_⟩
        have hD2 : (upd H2 u (.tup [.int (ordd (gt ns ln.1) (gt ns ln.2.1) ln.2.2).1, .int (ordd (gt ns ln.1) (gt ns ln.2.1) ln.2.2).2.1, .int (ordd (gt ns ln.1) (gt ns ln.2.1) ln.2.2).2.2])) D = some (.lst (ts.map V.ref)) := same_new hu _ _ hD1
        refine ⟨_, _, _, rfl, rfl, hD2, small_line (by simp; omega), ?_⟩
        have hDu : D ≠ u := ne_of_none hD1 hu
        refine ⟨ts ++ [u], _, _, _, rfl, same_upd hD (sm.trans (same_new hu)), ?_, by simp; omega, ?_⟩
        · rw [upd_same]; simp
        · rw [er, if_neg e]
          refine pr_snoc (L2.Paired.mapP hP fun l' q' z => ?_) ?_
          · have z' : H2 q' = some (.tup [.int l'.1, .int l'.2.1, .int l'.2.2]) := z
            show upd (upd H2 u _) D _ q' = _
            rw [upd_ne (ne_of z' hD1 fun y => by cases y), upd_ne (ne_of_none z' hu)]
            exact z'
          · show upd (upd H2 u _) D _ u = _
            rw [upd_ne hDu.symm, upd_same]
    · rintro σ H1 ⟨ts, a, b, c, rfl, sm, hD1, htl, hP⟩
      rw [List.length_map, hqn, List.take_length] at hP
      refine ⟨_, rfl, _, rfl, .inl ⟨D, _, rfl, SqL.of hD1, fun t ht => ?_⟩⟩
      refine ⟨by show 2 ≤ sizeLine; decide, fun r hr => ?_⟩
      have s1 : Same H1 (upd H1 t (.tup (ts.map V.ref))) := same_new ht
      have s2 := same_new (o := .tup [.int sz, .ref t]) hr
      refine q _ r ((sm.trans s1).trans s2) ((sm.trans s1).free hr) ⟨t, upd_same, ts, s2 _ _ upd_same, L2.Paired.mapP hP fun l' q' z => s2 _ _ (s1 _ _ z)⟩
/-- the joining of two houses lo < hi -/
def joL (n lo hi : Nat) : List Int := (List.range n).map fun i => if i = hi then (lo : Int) else (i : Int)
theorem joL_at {n lo hi i : Nat} (h : i < n) : (joL n lo hi)[i]? = some (if i = hi then (lo : Int) else (i : Int)) := by
  unfold joL
  rw [List.getElem?_map, List.getElem?_range h]
  rfl
theorem joL_len (n lo hi : Nat) : (joL n lo hi).length = n := by simp [joL]
theorem joL_v {n lo hi : Nat} (h1 : lo < hi) (h2 : hi < n) : VJ (joL n lo hi) := by
  intro i z hz
  have hi' : i < n := by have := lt_of_getElem? hz; rw [joL_len] at this; exact this
  rw [joL_at hi'] at hz
  cases hz
  have key : ∀ k : Nat, k < n → k ≠ hi → gt (joL n lo hi) (k : Int) = k := fun k hk ne => by
    unfold gt
    rw [Int.toNat_natCast, List.getD_eq_getElem?_getD, joL_at hk, if_neg ne]
    rfl
  split
  · exact ⟨by omega, by omega, key lo (by omega) (by omega)⟩
  · rename_i ne
    exact ⟨by omega, by omega, key i hi' ne⟩
/-- the new numbers -/
def nbL (k lo hi : Nat) : List Int := (List.range k).map fun i : Nat => nb lo hi (i : Int)
theorem nbL_len (k lo hi : Nat) : (nbL k lo hi).length = k := by simp [nbL]
theorem nbL_snoc (k lo hi : Nat) : nbL (k + 1) lo hi = nbL k lo hi ++ [nb lo hi k] := by
  unfold nbL
  rw [List.range_succ, List.map_append]
  rfl
theorem nbL_gt {k lo hi i : Nat} (h : i < k) : gt (nbL k lo hi) (i : Int) = nb lo hi i := by
  unfold gt nbL
  rw [Int.toNat_natCast, List.getD_eq_getElem?_getD, List.getElem?_map, List.getElem?_range h]
  rfl
def spMadeBy : L2.Sp := fun vs H Q _ => ∃ (p j : Addr) (n lo hi : Nat) (L : List Ln), vs = [.ref p, .ref j] ∧ Web H p n L ∧ H j = some (.tup (iv (joL n lo hi))) ∧ lo < hi ∧ hi < n ∧ n ≤ 1000 ∧ InR n L ∧ L.length ≤ 4000 ∧
  ∀ H' q, Same H H' → H q = none → Web H' q (n - 1 : Int) (renum (nbL n lo hi) L) → Q (.ref q) H'
theorem ok_madeby (T : Tx K mg) : FnOk P w K mg base CX0 4 (T.f 25) (T.fd 25) ["web", "joining"] spMadeBy := by
  refine T.d_madeby.F.ok sc_madeby (fun vs H Q E h => ?_) (fun cdv A outer s H vs Q E hr h => ?_)
  · obtain ⟨p, j, n, lo, hi, L, rfl, _⟩ := h
    rfl
  · obtain ⟨p, j, n, lo, hi, L, rfl, hW, hj, h1, h2, hn, hin, hlen, q⟩ := h
    obtain ⟨q0, hw, hLT⟩ := id hW
    refine ⟨_, 
      (pss_cons (ps_expr (pe_call (ok_need T) (hr.mono (by decide)) (by rfl) T.d_need.g T.d_need.k T.d_need.b .nil pass0 (pa_cons (pe_call (ok_isjoining T) (hr.mono (by decide)) (by rfl) T.d_isjoining.g T.d_isjoining.k T.d_isjoining.b .nil pass0 (pa_cons (pe_ix ix_tup (pv 0) pe_int (fun _ _ => rfl)) (pa_cons (pv 1) pa_nil))) (pa_cons pe_str pa_nil))))
      (pss_cons (ps_set (i := 2) sc_madeby.nd rfl (Or.inl rfl) (pe_lst pa_nil))
      (pss_cons (ps_set (i := 3) sc_madeby.nd rfl (Or.inl rfl) pe_int)
      (pss_cons (ps_for PassesOwn.never rfl (pi_enumT (by rfl) T.n_enumerate (pa_cons (pv 1) pa_nil)) (pg_tup rfl (pgs_cons (pg_name (i := 4) sc_madeby.nd rfl (Or.inl rfl)) (pgs_cons (pg_name (i := 5) sc_madeby.nd rfl (Or.inl rfl)) pgs_nil))) 
          (pss_one (ps_if (pt_cmpR op_eq (pv 5) (pv 4) (nomark _)) 
              (pss_cons (ps_expr (pe_bm PySem.F.plainAttrs_list PySem.F.slot_list_append PySem.F.type_list_append mt_append (pv 2) (pa_cons (pv 3) pa_nil)))
              (pss_one (ps_aug (i := 3) sc_madeby.nd rfl (Or.inl rfl) pe_int ip_add))) 
              (pss_one (ps_expr (pe_bm PySem.F.plainAttrs_list PySem.F.slot_list_append PySem.F.type_list_append mt_append (pv 2) (pa_cons (pe_ix ix_list (pv 2) (pv 5) (fun _ _ => rfl)) pa_nil)))))))
      (pss_one (ps_ret (pe_call (ok_numberedanew T) (hr.mono (by decide)) (by rfl) T.d_numberedanew.g T.d_numberedanew.k T.d_numberedanew.b .nil pass0 (pa_cons (pv 3) (pa_cons (pv 0) (pa_cons (pv 2) pa_nil)))))))))), ?_⟩
    refine ⟨_, rfl, p, _, _, _, rfl, rfl, SqT.of hw, at_of (j := 0) rfl rfl, _, rfl, j, joL n lo hi, ?_, hj, joL_v h1 h2, fun H0 s0 => ?_⟩
    · rw [joL_len]; rfl
    refine ⟨_, rfl, by show 0 ≤ sizeLine; decide, fun D hD => ⟨_, rfl, j, _, rfl, SqT.of ((s0.trans (same_new hD)) _ _ hj), ?_⟩⟩
    refine for_it (n := (iv (joL n lo hi)).length) walk_enumT (fun i σ H' => ∃ (a b : Option V), σ = [some (.ref p), some (.ref j), some (.ref D), some (.int (if i ≤ hi then (i : Int) else i - 1)), a, b] ∧ Same H H' ∧ H' D = some (.lst (iv (nbL i lo hi))))
      ⟨none, none, ?_, s0.trans (same_new hD), upd_same⟩ (fun i σ H' _ ⟨a, b, _, sm, _⟩ => SqT.of (sm _ _ hj)) ?_ ?_
    · rw [if_pos (Nat.zero_le _)]; rfl
    · rintro i x σ H1 H2 hi' ⟨a, b, rfl, sm, hL⟩ ⟨t, x1, x2, rfl, ht, rfl, e1, e2⟩
      cases e1
      obtain ⟨z, hz, rfl⟩ := iv_at e2
      have hlt : i < n := by have := lt_of_getElem? hz; rw [joL_len] at this; exact this
      rw [joL_at hlt] at hz
      cases hz
      have hD0 : H D = none := s0.free hD
      have hL2 := same_new (o := .tup [.int i, .int (if i = hi then (lo : Int) else (i : Int))]) ht _ _ hL
      have sm2 : Same H (upd H1 t (.tup [.int i, .int (if i = hi then (lo : Int) else (i : Int))])) := sm.trans (same_new ht)
      refine ⟨t, _, rfl, SqT.of upd_same, rfl, _, _, rfl, _, _, rfl, rfl, ?_⟩
      refine ⟨_, rfl, _, rfl, rfl, _, rfl, ?_⟩
      by_cases e : i = hi
      · rw [if_pos e]
        rw [show decide (V.int (lo : Int) = V.int (i : Int)) = false from decide_eq_false fun z => by have := V.int.inj z; omega]
        rw [if_pos e] at hL2 sm2
        refine iteF ⟨_, rfl, .inl ⟨rfl, _, Or.inl (Or.inl hL2)⟩, _, rfl, _, rfl, D, _, _, _, rfl, rfl, SqL.of hL2, at_gt (by omega) (by rw [nbL_len]; omega), _, _, _, rfl, rfl, hL2, small_line (by simp [nbL]; omega), ?_⟩
        refine ⟨some (.int (i : Int)), some (.int (lo : Int)), ?_, same_upd hD0 sm2, ?_⟩
        · rw [if_pos (Nat.le_of_eq e), if_neg (show ¬ i + 1 ≤ hi by omega)]
          have e3 : ((i + 1 : Nat) : Int) - 1 = i := by omega
          rw [e3]
          rfl
        · rw [upd_same, nbL_snoc, nbL_gt (show lo < i by omega)]
          have e4 : nb lo hi lo = lo := by unfold nb; rw [if_neg (by omega), if_neg (by omega)]
          have e5 : nb lo hi i = lo := by unfold nb; rw [if_pos (by omega)]
          rw [e4, e5]
          simp
      · rw [if_neg e]
        rw [show decide (V.int (i : Int) = V.int (i : Int)) = true from decide_eq_true rfl]
        rw [if_neg e] at hL2 sm2
        have e5 : nb lo hi i = (if i ≤ hi then (i : Int) else i - 1) := by
          unfold nb
          rw [if_neg (by omega)]
          by_cases g : i ≤ hi
          · rw [if_neg (by omega), if_pos g]
          · rw [if_pos (by omega), if_neg g]
        refine iteT ⟨_, rfl, .inl ⟨rfl, _, Or.inl (Or.inl hL2)⟩, _, rfl, _, _, _, rfl, rfl, hL2, small_line (by simp [nbL]; omega), _, rfl, _, _, rfl, rfl, ?_⟩
        refine ⟨some (.int (i : Int)), some (.int (i : Int)), ?_, same_upd hD0 sm2, ?_⟩
        · have e6 : (if i ≤ hi then (i : Int) else i - 1) + 1 = (if i + 1 ≤ hi then ((i + 1 : Nat) : Int) else ((i + 1 : Nat) : Int) - 1) := by
            by_cases g : i ≤ hi
            · rw [if_pos g, if_pos (show i + 1 ≤ hi by omega)]; omega
            · rw [if_neg g, if_neg (show ¬ i + 1 ≤ hi by omega)]; omega
          rw [← e6]
          rfl
        · rw [upd_same, nbL_snoc, e5]
          simp
    · rintro σ H1 ⟨a, b, rfl, sm, hL⟩
      rw [List.length_map, joL_len] at hL ⊢
      refine ⟨_, rfl, _, rfl, _, rfl, p, D, _, n, L, nbL n lo hi, rfl, hW.mono sm, hL, ?_, hlen, fun H2 r s2 hr hw2 => ?_⟩
      · rw [nbL_len]; exact hin
      · rw [if_neg (show ¬ n ≤ hi by omega)] at hw2
        exact q _ r (sm.trans s2) (sm.free hr) hw2
def spMadeOne : L2.Sp := fun vs H Q _ => ∃ (p : Addr) (n : Nat) (x y : Int) (L : List Ln), vs = [.ref p, .int x, .int y] ∧ Web H p n L ∧ 0 ≤ x ∧ x < n ∧ 0 ≤ y ∧ y < n ∧ x ≠ y ∧ n ≤ 1000 ∧ InR n L ∧ L.length ≤ 4000 ∧
  ∀ H' q, Same H H' → H q = none → Web H' q (n - 1 : Int) (renum (nbL n (mn x y).toNat (mx x y).toNat) L) → Q (.ref q) H'
theorem ok_madeone (T : Tx K mg) : FnOk P w K mg base CX0 6 (T.f 26) (T.fd 26) ["web", "here", "there"] spMadeOne := by
  refine T.d_madeone.F.ok sc_madeone (fun vs H Q E h => ?_) (fun cdv A outer s H vs Q E hr h => ?_)
  · obtain ⟨p, n, x, y, L, rfl, _⟩ := h
    rfl
  · obtain ⟨p, n, x, y, L, rfl, hW, x0, x1, y0, y1, hne, hn, hin, hlen, q⟩ := h
    obtain ⟨q0, hw, hLT⟩ := id hW
    have m1 : 0 ≤ mn x y ∧ mn x y < mx x y ∧ mx x y < n := by unfold mn mx; split <;> split <;> omega
    refine ⟨_, 
      (pss_cons (ps_expr (pe_call (ok_needhouses T) (hr.mono (by decide)) (by rfl) T.d_needhouses.g T.d_needhouses.k T.d_needhouses.b .nil pass0 (pa_cons (pv 0) (pa_cons (pv 1) (pa_cons (pv 2) pa_nil)))))
      (pss_cons (ps_set (i := 3) sc_madeone.nd rfl (Or.inl rfl) (pe_listRg rfl (by rfl) T.n_list (prg_1 (by rfl) T.n_range (pe_ix ix_tup (pv 0) pe_int (fun _ _ => rfl)))))
      (pss_cons (ps_asg (pe_callB (call_min2 rfl) (by rfl) T.n_min (by decide +kernel) (pa_cons (pv 1) (pa_cons (pv 2) pa_nil))) (pg_sub (pv 3) (pe_callB (call_max2 rfl) (by rfl) T.n_max (by decide +kernel) (pa_cons (pv 1) (pa_cons (pv 2) pa_nil))) set_list))
      (pss_one (ps_ret (pe_call (ok_madeby T) (hr.mono (by decide)) (by rfl) T.d_madeby.g T.d_madeby.k T.d_madeby.b .nil pass0 (pa_cons (pv 0) (pa_cons (pe_tupleOf (by rfl) T.n_tuple (pv 3)) pa_nil)))))))), ?_⟩
    refine ⟨_, rfl, _, rfl, _, rfl, p, n, x, y, L, rfl, hW, x0, x1, y0, y1, hne, ?_⟩
    refine ⟨_, rfl, p, _, _, _, rfl, rfl, SqT.of hw, at_of (j := 0) rfl rfl, _, rfl, RgOk.of_le (by omega) (by omega) (by omega) (by omega), fun D hD => ?_⟩
    have eL : (if y < x then y else x) = mn x y := rfl
    have eH : (if y > x then y else x) = mx x y := rfl
    refine ⟨_, rfl, _, rfl, _, _, rfl, _, rfl, _, rfl, _, rfl, _, _, rfl, D, _, _, (mx x y).toNat, rfl, rfl, upd_same, ?_, ?_⟩
    · rw [eH, rgV_length]
      unfold ixN
      rw [if_pos (by omega), if_pos (by omega)]
    rw [upd_upd]
    have ej : (rgV 0 n).set (mx x y).toNat (.int (if y < x then y else x)) = iv (joL n (mn x y).toNat (mx x y).toNat) := by
      rw [eL]
      apply List.ext_getElem?
      intro i
      unfold rgV joL
      by_cases hi : i < n
      · by_cases e : (mx x y).toNat = i
        · subst e
          rw [List.getElem?_set_self (by simp; omega), List.getElem?_map, List.getElem?_map, List.getElem?_range hi]
          simp
          omega
        · rw [List.getElem?_set_ne e, List.getElem?_map, List.getElem?_map, List.getElem?_map, List.getElem?_range hi]
          rw [show ((n : Int) - 0).toNat = n by omega, List.getElem?_range hi]
          have e' : ¬ i = (mx x y).toNat := fun z => e z.symm
          simp [e']
      · rw [List.getElem?_eq_none (by simp; omega), List.getElem?_eq_none (by simp; omega)]
    rw [ej]
    refine ⟨_, rfl, _, rfl, .inl ⟨D, _, rfl, SqL.of upd_same, fun t ht => ?_⟩⟩
    have s1 : Same H (upd H D (.lst (iv (joL n (mn x y).toNat (mx x y).toNat)))) := same_new hD
    refine ⟨p, t, n, (mn x y).toNat, (mx x y).toNat, L, rfl, hW.mono (s1.trans (same_new ht)), upd_same, by omega, by omega, hn, hin, hlen, fun H2 r s2 hr hw2 => ?_⟩
    exact q _ r ((s1.trans (same_new ht)).trans s2) ((s1.trans (same_new ht)).free hr) hw2
end
end K36
-- text Ma4
set_option maxRecDepth 100000
namespace K36
/-! ### tables of weights by joinings: what they sum up to -/
def addT (M : Tb) (J : List Int) (d : Int) : Tb := putT M J ((getO M J).getD 0 + d)
def Phi (M : Tb) (F : List Int → Int) : Int := (M.map fun m => m.2 * F m.1).sum
theorem phi_nil (F : List Int → Int) : Phi [] F = 0 := rfl
theorem phi_cons (m : List Int × Int) (M : Tb) (F : List Int → Int) : Phi (m :: M) F = m.2 * F m.1 + Phi M F := by
  unfold Phi
  rw [List.map_cons, List.sum_cons]
theorem phi_app (M N : Tb) (F : List Int → Int) : Phi (M ++ N) F = Phi M F + Phi N F := by
  unfold Phi
  rw [List.map_append, List.sum_append]
theorem get_cons (m : List Int × Int) (M : Tb) (J : List Int) : getO (m :: M) J = if m.1 = J then some m.2 else getO M J := by
  unfold getO
  rw [List.find?_cons]
  by_cases h : m.1 = J
  · rw [if_pos h, decide_eq_true h]; rfl
  · rw [if_neg h, decide_eq_false h]
theorem phi_repl {J : List Int} {z : Int} {F : List Int → Int} : ∀ {M : Tb}, (M.map (·.1)).Nodup → ∀ {y}, getO M J = some y → Phi (M.map fun m => if m.1 = J then (m.1, z) else m) F = Phi M F + (z - y) * F J
  | [], _, y, h => by cases h
  | m :: M, hn, y, h => by
    rw [List.map_cons, List.nodup_cons] at hn
    rw [get_cons] at h
    rw [List.map_cons, phi_cons, phi_cons]
    by_cases e : m.1 = J
    · rw [if_pos e] at h
      cases h
      rw [if_pos e]
      have no : ∀ M' : Tb, J ∉ M'.map (·.1) → (M'.map fun m => if m.1 = J then (m.1, z) else m) = M' := by
        intro M'
        induction M' with
        | nil => intro _; rfl
        | cons a M' ih =>
          intro hm
          rw [List.map_cons, List.mem_cons, not_or] at hm
          rw [List.map_cons, if_neg (fun q => hm.1 q.symm), ih hm.2]
      rw [no M (by rw [← e]; exact hn.1), ← e]
      show z * F m.1 + Phi M F = m.2 * F m.1 + Phi M F + (z - m.2) * F m.1
      rw [Int.sub_mul]; omega
    · rw [if_neg e] at h
      rw [if_neg e, phi_repl hn.2 h]
      omega
theorem phi_add {M : Tb} (hn : (M.map (·.1)).Nodup) (J : List Int) (d : Int) (F : List Int → Int) : Phi (addT M J d) F = Phi M F + d * F J := by
  unfold addT putT
  cases h : getO M J with
  | some y =>
    rw [if_pos (show (some y).isSome = true from rfl)]
    show Phi (M.map fun m => if m.1 = J then (m.1, y + d) else m) F = _
    rw [phi_repl hn h]
    have : y + d - y = d := by omega
    rw [this]
  | none =>
    rw [if_neg (by simp)]
    show Phi (M ++ [(J, 0 + d)]) F = _
    rw [phi_app, phi_cons, phi_nil]
    show Phi M F + ((0 + d) * F J + 0) = _
    rw [Int.zero_add, Int.add_zero]
theorem add_nd {M : Tb} {J : List Int} {d : Int} (h : (M.map (·.1)).Nodup) : ((addT M J d).map (·.1)).Nodup := put_nd h
theorem add_len (M : Tb) (J : List Int) (d : Int) : (addT M J d).length ≤ M.length + 1 := put_len M J _
theorem put_mem {M : Tb} {J : List Int} {z : Int} {m : List Int × Int} (h : m ∈ putT M J z) : m = (J, z) ∨ m ∈ M := by
  unfold putT at h
  split at h
  · obtain ⟨a, ha, e⟩ := List.mem_map.mp h
    by_cases q : a.1 = J
    · rw [if_pos q] at e
      exact .inl (by rw [← e, q])
    · rw [if_neg q] at e
      exact .inr (by rw [← e]; exact ha)
  · rcases List.mem_append.mp h with h | h
    · exact .inr h
    · exact .inl (by simpa using h)
theorem get_mem : ∀ {M : Tb} {J : List Int} {z : Int}, getO M J = some z → (J, z) ∈ M
  | [], _, _, h => by cases h
  | m :: M, J, z, h => by
    rw [get_cons] at h
    by_cases e : m.1 = J
    · rw [if_pos e] at h
      cases h
      rw [← e]
      exact List.mem_cons_self
    · rw [if_neg e] at h
      exact List.mem_cons_of_mem _ (get_mem h)
/-- all weights are not negative -/
def Nn (M : Tb) : Prop := ∀ m ∈ M, 0 ≤ m.2
theorem add_nn {M : Tb} {J : List Int} {d : Int} (h : Nn M) (hd : 0 ≤ d) : Nn (addT M J d) := fun m hm => by
  rcases put_mem hm with e | e
  · rw [e]
    cases q : getO M J with
    | none => show 0 ≤ Option.getD none 0 + d; simp; omega
    | some y =>
      have := h _ (get_mem q)
      show 0 ≤ Option.getD (some y) 0 + d
      simp
      omega
  · exact h m e
/-- all keys have n labels that are in order -/
def Ks (Q : List Int → Prop) (M : Tb) : Prop := ∀ m ∈ M, Q m.1
theorem add_ks {Q : List Int → Prop} {M : Tb} {J : List Int} {d : Int} (h : Ks Q M) (hJ : Q J) : Ks Q (addT M J d) := fun m hm => by
  rcases put_mem hm with e | e
  · rw [e]; exact hJ
  · exact h m e
theorem phi_le {M : Tb} {F G : List Int → Int} (hn : Nn M) (h : ∀ m ∈ M, F m.1 ≤ G m.1) : Phi M F ≤ Phi M G := by
  induction M with
  | nil => exact Int.le_refl _
  | cons m M ih =>
    rw [phi_cons, phi_cons]
    have h1 := ih (fun a ha => hn a (List.mem_cons_of_mem _ ha)) fun a ha => h a (List.mem_cons_of_mem _ ha)
    have h2 := Int.mul_le_mul_of_nonneg_left (h m List.mem_cons_self) (hn m List.mem_cons_self)
    omega
theorem phi_congr {M : Tb} {F G : List Int → Int} (h : ∀ m ∈ M, F m.1 = G m.1) : Phi M F = Phi M G := by
  unfold Phi
  congr 1
  exact List.map_congr_left fun m hm => by rw [h m hm]
/-- each weight is at most their sum, where each counts at least once -/
theorem weight_le {F : List Int → Int} : ∀ {M : Tb}, Nn M → (∀ m ∈ M, 1 ≤ F m.1) → ∀ m ∈ M, m.2 ≤ Phi M F
  | [], _, _, m, hm => by simp at hm
  | a :: M, hn, h1, m, hm => by
    rw [phi_cons]
    have pos : 0 ≤ Phi M F := by
      have := phi_le (M := M) (F := fun _ => 0) (G := F) (fun a ha => hn a (List.mem_cons_of_mem _ ha)) fun a ha => by have := h1 a (List.mem_cons_of_mem _ ha); omega
      have z : Phi M (fun _ => 0) = 0 := by
        unfold Phi
        have zz : ∀ N : Tb, (N.map fun m => m.2 * (fun _ => (0 : Int)) m.1).sum = 0 := by
          intro N
          induction N with
          | nil => rfl
          | cons a N ih => rw [List.map_cons, List.sum_cons, ih]; simp
        exact zz M
      omega
    have ha := hn a List.mem_cons_self
    have h1a := h1 a List.mem_cons_self
    have ge : a.2 ≤ a.2 * F a.1 := by
      have := Int.mul_le_mul_of_nonneg_left h1a ha
      omega
    rcases List.mem_cons.mp hm with e | hm
    · rw [e]; omega
    · have ih := weight_le (fun a ha => hn a (List.mem_cons_of_mem _ ha)) (fun a ha => h1 a (List.mem_cons_of_mem _ ha)) m hm
      omega
/-- a table that is built from another one, each entry added under a new key -/
def into (f : List Int → Option (List Int × Int)) (M0 : Tb) (M : Tb) : Tb := M.foldl (fun acc m => match f m.1 with | some (J, r) => addT acc J (m.2 * r) | none => acc) M0
theorem into_nil (f : List Int → Option (List Int × Int)) (M0 : Tb) : into f M0 [] = M0 := rfl
theorem into_snoc (f : List Int → Option (List Int × Int)) (M0 M : Tb) (m : List Int × Int) : into f M0 (M ++ [m]) = (match f m.1 with | some (J, r) => addT (into f M0 M) J (m.2 * r) | none => into f M0 M) := by
  unfold into
  rw [List.foldl_append]
  rfl
theorem into_cons (f : List Int → Option (List Int × Int)) (M0 M : Tb) (m : List Int × Int) : into f M0 (m :: M) = into f (match f m.1 with | some (J, r) => addT M0 J (m.2 * r) | none => M0) M := rfl
theorem into_nd (f : List Int → Option (List Int × Int)) : ∀ (M M0 : Tb), (M0.map (·.1)).Nodup → ((into f M0 M).map (·.1)).Nodup
  | [], _, h => h
  | m :: M, M0, h => by
    rw [into_cons]
    refine into_nd f M _ ?_
    split
    · exact add_nd h
    · exact h
theorem into_phi (f : List Int → Option (List Int × Int)) (F : List Int → Int) : ∀ (M M0 : Tb), (M0.map (·.1)).Nodup → Phi (into f M0 M) F = Phi M0 F + Phi M fun J => match f J with | some (J', r) => r * F J' | none => 0
  | [], M0, h => by rw [into_nil, phi_nil]; omega
  | m :: M, M0, h => by
    rw [into_cons, phi_cons]
    cases e : f m.1 with
    | none =>
      rw [into_phi f F M M0 h]
      simp
    | some p =>
      obtain ⟨J, r⟩ := p
      rw [into_phi f F M _ (add_nd h), phi_add h]
      show Phi M0 F + m.2 * r * F J + _ = Phi M0 F + (m.2 * (r * F J) + _)
      rw [Int.mul_assoc]; omega
theorem into_len (f : List Int → Option (List Int × Int)) : ∀ (M M0 : Tb), (into f M0 M).length ≤ M0.length + M.length
  | [], _ => Nat.le_refl _
  | m :: M, M0 => by
    rw [into_cons, List.length_cons]
    have := into_len f M (match f m.1 with | some (J, r) => addT M0 J (m.2 * r) | none => M0)
    have l : (match f m.1 with | some (J, r) => addT M0 J (m.2 * r) | none => M0).length ≤ M0.length + 1 := by
      split
      · exact add_len _ _ _
      · omega
    omega
theorem into_nn (f : List Int → Option (List Int × Int)) (hf : ∀ J J' r, f J = some (J', r) → 0 ≤ r) : ∀ (M M0 : Tb), Nn M0 → Nn M → Nn (into f M0 M)
  | [], _, h, _ => h
  | m :: M, M0, h, hM => by
    rw [into_cons]
    refine into_nn f hf M _ ?_ fun a ha => hM a (List.mem_cons_of_mem _ ha)
    cases e : f m.1 with
    | none => exact h
    | some p =>
      obtain ⟨J, r⟩ := p
      exact add_nn h (Int.mul_nonneg (hM m List.mem_cons_self) (hf _ _ _ e))
theorem into_ks {Q R : List Int → Prop} (f : List Int → Option (List Int × Int)) (hf : ∀ J J' r, R J → f J = some (J', r) → Q J') : ∀ (M M0 : Tb), Ks Q M0 → Ks R M → Ks Q (into f M0 M)
  | [], _, h, _ => h
  | m :: M, M0, h, hM => by
    rw [into_cons]
    refine into_ks f hf M _ ?_ fun a ha => hM a (List.mem_cons_of_mem _ ha)
    cases e : f m.1 with
    | none => exact h
    | some p =>
      obtain ⟨J, r⟩ := p
      exact add_ks h (hf _ _ _ (hM m List.mem_cons_self) e)
end K36
-- text D6
set_option maxRecDepth 100000
set_option maxHeartbeats 4000000
namespace K36
open PySem PySem.Spec PyProof.Rows L2
theorem NPut.same {w : World} {H0 H H' : Hp} {d : Addr} {M : Tb} (h : NPut w H d M H') (n : H0 d = none) (e : Same H0 H) : Same H0 H' := fun b o z => h.2.1 b o (ne_of_none z n) (e b o z)
theorem put_take {M : Tb} {i : Nat} {m : List Int × Int} (hn : (M.map (·.1)).Nodup) (h : M[i]? = some m) : putT (M.take i) m.1 m.2 = M.take (i + 1) := by
  have hno : getO (M.take i) m.1 = none := by
    rw [get_none]
    intro hm
    obtain ⟨a, ha, e⟩ := List.mem_map.mp hm
    obtain ⟨j, hj⟩ := List.getElem?_of_mem ha
    have hji : j < i := by
      have := lt_of_getElem? hj
      rw [List.length_take] at this
      omega
    rw [List.getElem?_take_of_lt hji] at hj
    have e1 : (M.map (·.1))[j]? = some m.1 := by rw [List.getElem?_map, hj]; simp [e]
    have e2 : (M.map (·.1))[i]? = some m.1 := by rw [List.getElem?_map, h]; rfl
    have := nd_ix hn e1 e2
    omega
  unfold putT
  rw [hno, if_neg (by simp), take_snoc h]
theorem get_at : ∀ {M : Tb} {i : Nat} {J : List Int} {z : Int}, (M.map (·.1)).Nodup → M[i]? = some (J, z) → getO M J = some z
  | [], i, J, z, _, h => by simp at h
  | m :: M, 0, J, z, _, h => by
    have e : m = (J, z) := by simpa using h
    rw [get_cons, e, if_pos rfl]
  | m :: M, i + 1, J, z, hn, h => by
    rw [List.map_cons, List.nodup_cons] at hn
    simp only [List.getElem?_cons_succ] at h
    have hm : J ∈ M.map (·.1) := List.mem_map.mpr ⟨(J, z), List.mem_of_getElem? h, rfl⟩
    rw [get_cons, if_neg (fun e => hn.1 (by rw [e]; exact hm))]
    exact get_at hn.2 h
/-- the joined entry, if there is one -/
def wbf (a b r : Int) (J : List Int) : Option (List Int × Int) := if gt J a = gt J b then none else some (mgL J a b, r)
section
variable {P : Program} {w : World} {K : PySem.W.Frag} {mg : PySem.Str → Option Value} {base : Heap}
def spBond (w : World) : L2.Sp := fun vs H Q _ => ∃ (d : Addr) (M : Tb) (a b r : Int) (n : Nat), vs = [.ref d, .int a, .int b, .int r] ∧ NTab w H d M ∧ (∀ m ∈ M, m.1.length = n) ∧ 0 ≤ a ∧ a < n ∧ 0 ≤ b ∧ b < n ∧ n ≤ 4096 ∧ M.length ≤ 1000000 ∧
  (∀ m ∈ M, m.2.natAbs < 2 ^ 4000) ∧ r.natAbs < 2 ^ 4000 ∧ ∀ H' q, Same H H' → H q = none → NTab w H' q (into (wbf a b r) M M) → Q (.ref q) H'
set_option maxHeartbeats 16000000 in
theorem ok_cwithbond (T : Tx K mg) : FnOk P w K mg base CX0 2 (T.f 8) (T.fd 8) ["table", "one", "other", "bond"] (spBond w) := by
  refine T.d_cwithbond.F.ok sc_cwithbond (fun vs H Q E h => ?_) (fun cdv A outer s H vs Q E hr h => ?_)
  · obtain ⟨d, M, a, b, r, n, rfl, _⟩ := h
    rfl
  · obtain ⟨d, M, a, b, r, n, rfl, hT, hk, a0, a1, b0, b1, hn, hM, hw, hr', q⟩ := h
    obtain ⟨⟨xs, ep, hd, hP⟩, nd, ln, sm⟩ := id hT
    have hsl : sizeLine = 16777216 := sizeLine_eq
    refine ⟨_, 
      (pss_cons (ps_setNdc (tv := tNGet w (tVar 0) (tVar 8)) (i := 4) (own := [("key", 8)]) rfl sc_cwithbond.nd (hu64 hr) rfl rfl (sw_dict rfl rfl rfl (by decide +kernel)) (pi_nkeys (pv 0)) (blkOk_by (own := [("key", 8)]) (N := N_cwithbond) (sc := defScope s_cwithbond) (by decide +kernel)) (fun _ _ _ _ _ => (pg_name (i := 8) sc_cwithbond.nd rfl (Or.inl rfl))) (fun _ _ _ _ _ => (pv 8)) (fun _ _ _ _ _ => (pe_nget (hu64 hr) (pv 0) (pv 8) (fun _ _ => rfl))))
      (pss_cons (ps_for PassesOwn.never rfl (pi_nitems (pv 0)) (pg_tup rfl (pgs_cons (pg_tup rfl (pgs_cons (pg_name (i := 5) sc_cwithbond.nd rfl (Or.inl rfl)) (pgs_cons (pg_name (i := 6) sc_cwithbond.nd rfl (Or.inl rfl)) pgs_nil))) (pgs_cons (pg_name (i := 7) sc_cwithbond.nd rfl (Or.inl rfl)) pgs_nil))) 
          (pss_one (ps_if (pt_cmpR op_ne (pe_ix ix_tup (pv 5) (pv 1) (fun _ _ => rfl)) (pe_ix ix_tup (pv 5) (pv 2) (fun _ _ => rfl)) (nomark _)) 
              (pss_cons (ps_set (i := 8) sc_cwithbond.nd rfl (Or.inl rfl) (pe_tup (pa_cons (pe_call (ok_cmerged T) (hr.mono (by decide)) (by rfl) T.d_cmerged.g T.d_cmerged.k T.d_cmerged.b .nil pass0 (pa_cons (pv 5) (pa_cons (pv 1) (pa_cons (pv 2) pa_nil)))) (pa_cons (pv 6) pa_nil))))
              (pss_one (ps_nput (hu64 hr) (pv 4) (pv 8) (pe_op op_add (pe_nget2 (hu64 hr) (pv 4) (pv 8) pe_int ⟨rfl, rfl, rfl, rfl⟩) (pe_op op_mulW (pv 7) (pv 3))) rfl))) pss_nil)))
      (pss_one (ps_ret (pv 4))))), ?_⟩
    refine ⟨_, rfl, d, xs, ep, rfl, sm, hd, fun D hD hDs => ?_⟩
    have nd0 : NTab w (upd H D (nO w D [] 0)) D [] := ⟨⟨[], 0, upd_same, .nil⟩, List.nodup_nil, Nat.zero_le _, hDs⟩
    have G : ∀ {H1}, Same H H1 → H1 d = some (nO w d xs ep) ∧ Paired (NOne H1) M xs := fun {H1} s1 => ⟨s1 _ _ hd, nrel_mono hP fun c ys => s1 c _⟩
    -- wider = {key: table[key] for key in table}
    refine ⟨fun i m H' => m = M.length - i ∧ i ≤ M.length ∧ Same H H' ∧ NTab w H' D (M.take i), ⟨M.length, by simp, Nat.zero_le _, same_new hD, nd0⟩, ?_⟩
    rintro i m H1 ⟨rfl, hi, s1, t1⟩
    by_cases hlt : i < M.length
    · refine .inr ⟨walk_nkeys.goes i H1 hlt (G s1), fun H' => Same H H' ∧ NTab w H' D (M.take (i + 1)), fun H' z => ⟨M.length - (i + 1), by omega, rfl, hlt, z⟩, fun x H2 y => ?_⟩
      obtain ⟨rfl, J, z, bb, hm, rfl, hkey⟩ := walk_nkeys.yields i H1 x H2 hlt (G s1) y
      refine ⟨rfl, _, rfl, _, rfl, _, rfl, d, bb, M, J, z, rfl, rfl, hT.mono s1, hkey, get_at nd hm, bb, M.take i, J, z, rfl, rfl, t1, hkey, ?_, fun H3 np => ⟨np.same hD s1, ?_⟩⟩
      · rw [List.length_take]; omega
      · have e := put_take nd hm
        rw [← e]
        exact np.1
    obtain rfl : i = M.length := by omega
    rw [List.take_length] at t1
    refine .inl ⟨walk_nkeys.stops H1 (G s1), ?_⟩
    -- the loop
    refine ⟨_, rfl, d, xs, ep, rfl, sm, (G s1).1, nrel_ni (G s1).2, ?_⟩
    refine for_it (n := M.length) (walk_nitems (M := M)) (fun i σ H' => ∃ (v5 v6 v7 v8 : Option V), σ = [some (.ref d), some (.int a), some (.int b), some (.int r), some (.ref D), v5, v6, v7, v8] ∧ Same H H' ∧ NTab w H' D (into (wbf a b r) M (M.take i)))
      ⟨none, none, none, none, rfl, s1, t1⟩ (fun i σ H' _ ⟨_, _, _, _, _, s2, _⟩ => G s2) ?_ ?_
    · rintro i x σ H2 H3 hi ⟨v5, v6, v7, v8, rfl, s2, t2⟩ ⟨t, J, z, bb, hm, rfl, ht, rfl, jj, hb, hj⟩
      have s3 : Same H (upd H2 t (.tup [.ref bb, .int z])) := s2.trans (same_new ht)
      have t3 := t2.mono (same_new (o := .tup [.ref bb, .int z]) ht)
      have hJn : J.length = n := hk (J, z) (List.mem_of_getElem? hm)
      have hlI := into_len (wbf a b r) (M.take i) M
      rw [List.length_take] at hlI
      have et : M.take (i + 1) = M.take i ++ [(J, z)] := take_snoc hm
      have ei := into_snoc (wbf a b r) M (M.take i) (J, z)
      rw [← et] at ei
      refine ⟨t, _, rfl, SqT.of upd_same, rfl, _, _, rfl, ⟨bb, _, rfl, SqT.of (same_new ht _ _ hb), rfl, _, _, rfl, _, _, rfl, rfl, _, _, rfl, rfl, ?_⟩⟩
      have hj3 := same_new (o := .tup [.ref bb, .int z]) ht _ _ hj
      refine ⟨_, rfl, _, rfl, jj, _, _, _, rfl, rfl, SqT.of hj3, at_gt a0 (by omega), _, rfl, _, rfl, jj, _, _, _, rfl, rfl, SqT.of hj3, at_gt b0 (by omega), rfl, _, rfl, ?_⟩
      by_cases e : gt J a = gt J b
      · rw [show decide (V.int (gt J a) = V.int (gt J b)) = true from decide_eq_true (by rw [e])]
        refine iteF ⟨_, _, _, _, rfl, s3, ?_⟩
        have ew : wbf a b r J = none := if_pos e
        rw [ei]
        simp only [ew]
        exact t3
      · rw [show decide (V.int (gt J a) = V.int (gt J b)) = false from decide_eq_false fun z => e (V.int.inj z)]
        have ew : wbf a b r J = some (mgL J a b, r) := if_neg e
        simp only [ew] at ei
        refine iteT ⟨_, rfl, _, rfl, _, rfl, jj, J, a, b, rfl, hj3, a0, by omega, b0, by omega, by omega, fun H4 q4 s4 n4 h4 => ?_⟩
        refine ⟨_, rfl, by show 2 ≤ sizeLine; decide, fun ky hky => ?_⟩
        have s5 : Same (upd H2 t (.tup [.ref bb, .int z])) (upd H4 ky (.tup [.ref q4, .int 0])) := s4.trans (same_new hky)
        have t5 := t3.mono s5
        have key : KeyAt (upd H4 ky (.tup [.ref q4, .int 0])) ky (mgL J a b) := ⟨q4, upd_same, same_new hky _ _ h4⟩
        refine ⟨_, rfl, ⟨D, _, rfl, t5⟩, _, rfl, D, ky, _, mgL J a b, 0, rfl, rfl, rfl, t5, key, _, rfl, _, rfl, _, _, rfl, rfl, wide_mul (hw (J, z) (List.mem_of_getElem? hm)) hr' (by decide) (by decide) (by decide), _, _, rfl, rfl, _, rfl, _, rfl, D, ky, _, mgL J a b, _, rfl, rfl, rfl, t5, key, by omega, fun H6 np => ?_⟩
        refine ⟨_, _, _, _, rfl, np.same hD (s3.trans s5), ?_⟩
        rw [ei]
        exact np.1
    · rintro σ H2 ⟨v5, v6, v7, v8, rfl, s2, t2⟩
      rw [List.take_length] at t2
      exact ⟨_, rfl, q _ D s2 hD t2⟩
end
end K36
-- text D7
set_option maxRecDepth 100000
set_option maxHeartbeats 4000000
namespace K36
open PySem PySem.Spec PyProof.Rows L2
theorem sorted_eq {a b : List Int} (h : a.Perm b) (h1 : a.Pairwise (· ≤ ·)) (h2 : b.Pairwise (· < ·)) : a = b :=
  List.Perm.eq_of_pairwise (le := (· ≤ ·)) (fun x y _ _ p q => Int.le_antisymm p q) h1 (h2.imp fun h => Int.le_of_lt h) h
theorem iv_flat (ns : List Int) : (iv ns).all flatV = true := by
  rw [List.all_eq_true]
  intro x hx
  obtain ⟨z, _, rfl⟩ := List.mem_map.mp hx
  rfl
theorem iv_first {ns : List Int} {j : Nat} {z : Int} (hn : ns.Pairwise (· < ·)) (h : ns[j]? = some z) : ∀ (m : Nat) (z' : V), m < j → (iv ns)[m]? = some z' → eqV z' (.int z) = false := by
  intro m z' hm hz
  obtain ⟨y, hy, rfl⟩ := iv_at hz
  obtain ⟨h1, e1⟩ := List.getElem?_eq_some_iff.mp h
  obtain ⟨h2, e2⟩ := List.getElem?_eq_some_iff.mp hy
  have := List.pairwise_iff_getElem.mp hn m j h2 h1 hm
  show (y == z) = false
  rw [beq_eq_false_iff_ne]
  omega
theorem iv_put {M N : Tb} {J : List Int} {z : Int} (h : ∀ m ∈ M, m.1 ≠ J) : putT M J z = M ++ [(J, z)] := by
  have hno : getO M J = none := by
    rw [get_none]
    intro hm
    obtain ⟨a, ha, e⟩ := List.mem_map.mp hm
    exact h a ha e
  unfold putT
  rw [hno, if_neg (by simp)]
/-- the entries of a row of bonds -/
def RowAt (H : Hp) (r : Addr) (A : Int → Option Int) : Prop := ∃ kvs, H r = some (.dK kvs) ∧ ∀ k, valV kvs (.inl k) = (A k).map V.int
/-- the tables with the bonds to the first k of the frontier -/
def stg (A : Int → Option Int) (n : Int) (M0 : Tb) (Fr : List Int) : Nat → Tb
  | 0 => M0
  | k + 1 => match Fr[k]? with
    | some f => match A f with
      | some b => into (wbf n k b) (stg A n M0 Fr k) (stg A n M0 Fr k)
      | none => stg A n M0 Fr k
    | none => stg A n M0 Fr k
def entM (n : Nat) (M : Tb) : Tb := M.map fun m => (m.1 ++ [(n : Int)], m.2)
theorem stg_len {A : Int → Option Int} {n : Nat} {M0 : Tb} {Fr : List Int} (h : ∀ m ∈ M0, m.1.length = n + 1) : ∀ k, ∀ m ∈ stg A n M0 Fr k, m.1.length = n + 1
  | 0 => h
  | k + 1 => by
    have ih := stg_len (A := A) (Fr := Fr) h k
    unfold stg
    split
    · split
      · rename_i b _
        refine into_ks (Q := fun J => J.length = n + 1) (R := fun J => J.length = n + 1) _ (fun J J' r hJ hf => ?_) _ _ ih ih
        unfold wbf at hf
        split at hf
        · cases hf
        · cases hf
          rw [mgL, List.length_map]; exact hJ
      · exact ih
    · exact ih
section
variable {P : Program} {w : World} {K : PySem.W.Frag} {mg : PySem.Str → Option Value} {base : Heap}
def spWith (w : World) : L2.Sp := fun vs H Q _ => ∃ (f d r : Addr) (Fr : List Int) (M : Tb) (h : Int) (A : Int → Option Int), vs = [.ref f, .ref d, .int h, .ref r] ∧ H f = some (.lst (iv Fr)) ∧ NTab w H d M ∧ RowAt H r A ∧ (Fr ++ [h]).Pairwise (· < ·) ∧ Fr.length < 60 ∧
  (∀ m ∈ M, m.1.length = Fr.length ∧ ∀ x ∈ m.1, x < Fr.length) ∧ M.length ≤ 1000000 ∧ (∀ k, ∀ m ∈ stg A Fr.length (entM Fr.length M) Fr k, m.2.natAbs < 2 ^ 4000) ∧ (∀ k, (stg A Fr.length (entM Fr.length M) Fr k).length ≤ 1000000) ∧ (∀ k b, A k = some b → b.natAbs < 2 ^ 4000) ∧
  ∀ H' p f' d', Same H H' → H p = none → H' p = some (.tup [.ref f', .ref d']) → H' f' = some (.lst (iv (Fr ++ [h]))) → NTab w H' d' (stg A Fr.length (entM Fr.length M) Fr Fr.length) → Q (.ref p) H'
set_option maxHeartbeats 16000000 in
theorem ok_cwithhouse (T : Tx K mg) : FnOk P w K mg base CX0 3 (T.f 9) (T.fd 9) ["frontier", "table", "house", "row"] (spWith w) := by
  refine T.d_cwithhouse.F.ok sc_cwithhouse (fun vs H Q E h => ?_) (fun cdv A outer s H vs Q E hr h => ?_)
  · obtain ⟨f, d, r, Fr, M, h, A, rfl, _⟩ := h
    rfl
  · obtain ⟨f, d, r, Fr, M, h, R, rfl, hf, hT, ⟨kvs, hrow, hR⟩, hso, hlen, hM, hMl, hw, hl, hb, q⟩ := h
    obtain ⟨⟨xs, ep, hd, hP⟩, nd, ln, sm⟩ := id hT
    have hsl : sizeLine = 16777216 := sizeLine_eq
    refine ⟨_, 
      (pss_cons (ps_set (i := 4) sc_cwithhouse.nd rfl (Or.inl rfl) (pe_callB cr_sorted (by rfl) T.n_sorted (by decide +kernel) (pa_cons (pe_lst (StX.pa_star (pv 0) (pa_cons (pv 2) pa_nil))) pa_nil)))
      (pss_cons (ps_set (i := 5) sc_cwithhouse.nd rfl (Or.inl rfl) (pe_bm PySem.F.plainAttrs_list PySem.F.slot_list_index PySem.F.type_list_index mt_index (pv 4) (pa_cons (pv 2) pa_nil)))
      (pss_cons (ps_set (i := 6) sc_cwithhouse.nd rfl (Or.inl rfl) pe_nnew)
      (pss_cons (ps_for PassesOwn.never rfl (pi_nitems (pv 1)) (pg_tup rfl (pgs_cons (pg_tup rfl (pgs_cons (pg_name (i := 7) sc_cwithhouse.nd rfl (Or.inl rfl)) (pgs_cons (pg_name (i := 8) sc_cwithhouse.nd rfl (Or.inl rfl)) pgs_nil))) (pgs_cons (pg_name (i := 9) sc_cwithhouse.nd rfl (Or.inl rfl)) pgs_nil))) 
          (pss_one (ps_nput (hu64 hr) (pv 6) (pe_tup (pa_cons (pe_call (ok_centered T) (hr.mono (by decide)) (by rfl) T.d_centered.g T.d_centered.k T.d_centered.b .nil pass0 (pa_cons (pv 7) (pa_cons (pv 5) pa_nil))) (pa_cons (pv 8) pa_nil))) (pv 9) rfl)))
      (pss_cons (ps_for PassesOwn.never rfl (pi_list (pv 0)) (pg_name (i := 10) sc_cwithhouse.nd rfl (Or.inl rfl)) 
          (pss_one (ps_if (pt_cmp (pc_din (hu_of hr) (pv 10) (pv 3))) 
              (pss_one (ps_set (i := 6) sc_cwithhouse.nd rfl (Or.inl rfl) (pe_call (ok_cwithbond T) (hr.mono (by decide)) (by rfl) T.d_cwithbond.g T.d_cwithbond.k T.d_cwithbond.b .nil pass0 (pa_cons (pv 6) (pa_cons (pv 5) (pa_cons (pe_bm PySem.F.plainAttrs_list PySem.F.slot_list_index PySem.F.type_list_index mt_index (pv 4) (pa_cons (pv 10) pa_nil)) (pa_cons (pe_dget (hu_of hr) (pv 3) (pv 10) (fun _ _ => rfl)) pa_nil))))))) pss_nil)))
      (pss_one (ps_ret (pe_tup (pa_cons (pv 4) (pa_cons (pv 6) pa_nil)))))))))), ?_⟩
    -- wide = sorted([*frontier, house])
    refine ⟨_, rfl, f, iv Fr, rfl, .inr (SqL.of hf), _, rfl, ?_, fun p1 n1 => ?_⟩
    · simp; omega
    refine ⟨p1, Fr ++ [h], rfl, SqL.of (by rw [upd_same]; simp), by simp; omega, fun ns wd hp hris n2 => ?_⟩
    obtain rfl : ns = Fr ++ [h] := sorted_eq hp hris hso
    have s1 : Same H (upd (upd H p1 (.lst (iv Fr ++ [.int h]))) wd (.lst ((Fr ++ [h]).map V.int))) := (same_new n1).trans (same_new n2)
    have hwd : (upd (upd H p1 (.lst (iv Fr ++ [.int h]))) wd (.lst ((Fr ++ [h]).map V.int))) wd = some (.lst (iv (Fr ++ [h]))) := upd_same
    generalize upd (upd H p1 (.lst (iv Fr ++ [.int h]))) wd (.lst ((Fr ++ [h]).map V.int)) = H1 at s1 hwd
    have atn : (Fr ++ [h])[Fr.length]? = some h := by simp
    -- place = wide.index(house)
    refine ⟨_, rfl, .inl ⟨rfl, _, Or.inl (Or.inl hwd)⟩, _, rfl, wd, _, .int h, Fr.length, .int h, rfl, rfl, SqL.of hwd, rfl, iv_flat _, by rw [List.getElem?_map, atn]; rfl, by show (h == h) = true; simp, iv_first hso atn, ?_⟩
    -- entered = {}
    intro D hD H2 t2 k2 k2n
    have s2 : Same H1 H2 := fun b o e => k2 b o (ne_of_none e hD) e
    have s12 := s1.trans s2
    have hD0 : H D = none := s1.free hD
    have G : ∀ {H1}, Same H H1 → H1 d = some (nO w d xs ep) ∧ Paired (NOne H1) M xs := fun {H1} s1 => ⟨s1 _ _ hd, nrel_mono hP fun c ys => s1 c _⟩
    refine ⟨_, rfl, d, xs, ep, rfl, sm, (G s12).1, nrel_ni (G s12).2, ?_⟩
    have wd2 := s2 _ _ hwd
    refine for_it (n := M.length) (walk_nitems (M := M)) (fun i σ H' => ∃ (v7 v8 v9 v10 : Option V), σ = [some (.ref f), some (.ref d), some (.int h), some (.ref r), some (.ref wd), some (.int Fr.length), some (.ref D), v7, v8, v9, v10] ∧ Same H H' ∧ H' wd = some (.lst (iv (Fr ++ [h]))) ∧ NTab w H' D (entM Fr.length (M.take i)))
      ⟨none, none, none, none, rfl, s12, wd2, t2⟩ (fun i σ H' _ ⟨_, _, _, _, _, s2, _⟩ => G s2) ?_ ?_
    · rintro i x σ H3 H4 hi ⟨v7, v8, v9, v10, rfl, s3, w3, t3⟩ ⟨t, J, z, bb, hm, rfl, ht, rfl, jj, hb, hj⟩
      have s4 : Same H3 (upd H3 t (.tup [.ref bb, .int z])) := same_new ht
      obtain ⟨hJ1, hJ2⟩ := hM (J, z) (List.mem_of_getElem? hm)
      replace hJ1 : J.length = Fr.length := hJ1
      replace hJ2 : ∀ x ∈ J, x < Fr.length := hJ2
      refine ⟨t, _, rfl, SqT.of upd_same, rfl, _, _, rfl, ⟨bb, _, rfl, SqT.of (s4 _ _ hb), rfl, _, _, rfl, _, _, rfl, rfl, _, _, rfl, rfl, ?_⟩⟩
      refine ⟨_, rfl, _, rfl, _, rfl, _, rfl, jj, J, ?_, s4 _ _ hj, by rw [hJ1]; exact hJ2, by omega, fun H5 q5 s5 n5 h5 => ?_⟩
      · rw [hJ1]; rfl
      refine ⟨_, rfl, by show 2 ≤ sizeLine; decide, fun ky hky => ?_⟩
      have s6 : Same H3 (upd H5 ky (.tup [.ref q5, .int 0])) := (s4.trans s5).trans (same_new hky)
      have key : KeyAt (upd H5 ky (.tup [.ref q5, .int 0])) ky (J ++ [(J.length : Int)]) := ⟨q5, upd_same, same_new hky _ _ h5⟩
      refine ⟨D, ky, _, _, z, rfl, rfl, rfl, t3.mono s6, key, ?_, fun H6 np => ?_⟩
      · simp [entM]; omega
      refine ⟨_, _, _, _, rfl, np.same hD0 (s3.trans s6), np.2.1 _ _ (fun e => ?_) (s6 _ _ w3), ?_⟩
      · subst e
        obtain ⟨⟨_, _, e2, _⟩, _⟩ := t3
        rw [w3] at e2
        cases e2
      · have e : entM Fr.length (M.take (i + 1)) = putT (entM Fr.length (M.take i)) (J ++ [(J.length : Int)]) z := by
          rw [take_snoc hm, iv_put (N := M)]
          · unfold entM
            rw [List.map_append, hJ1]
            rfl
          · intro m hmm e
            unfold entM at hmm
            obtain ⟨m0, hm0, rfl⟩ := List.mem_map.mp hmm
            have e' : m0.1 ++ [(Fr.length : Int)] = J ++ [(J.length : Int)] := e
            have e1 : m0.1 = J := (List.append_inj' e' rfl).1
            have hno := put_take (M := M) nd hm
            have hno2 : getO (M.take i) J = none := by
              cases g : getO (M.take i) J with
              | none => rfl
              | some y =>
                exfalso
                have l1 : (putT (M.take i) J z).length = (M.take i).length := by
                  unfold putT
                  rw [g, if_pos (show (some y).isSome = true from rfl), List.length_map]
                rw [hno, List.length_take, List.length_take] at l1
                omega
            exact get_none.mp hno2 (List.mem_map.mpr ⟨m0, hm0, e1⟩)
        rw [e]
        exact np.1
    · rintro σ H3 ⟨v7, v8, v9, v10, rfl, s3, w3, t3⟩
      rw [List.take_length] at t3
      -- for near in frontier
      refine ⟨_, rfl, f, rfl, ⟨_, SqL.of (s3 _ _ hf)⟩, ?_⟩
      refine for_it (n := (iv Fr).length) walk_list (fun i σ H' => ∃ (D' : Addr) (v10 : Option V), σ = [some (.ref f), some (.ref d), some (.int h), some (.ref r), some (.ref wd), some (.int Fr.length), some (.ref D'), v7, v8, v9, v10] ∧ Same H H' ∧ H' wd = some (.lst (iv (Fr ++ [h]))) ∧ NTab w H' D' (stg R Fr.length (entM Fr.length M) Fr i))
        ⟨D, v10, rfl, s3, w3, t3⟩ (fun i σ H' _ ⟨_, _, _, s4, _⟩ => SqL.of (s4 _ _ hf)) ?_ ?_
      · rintro i x σ H4 H5 hi ⟨D', u10, rfl, s4, w4, t4⟩ ⟨rfl, hx⟩
        obtain ⟨fr, hfr, rfl⟩ := iv_at hx
        have hil := lt_of_getElem? hfr
        have est : stg R Fr.length (entM Fr.length M) Fr (i + 1) = (match R fr with | some b => into (wbf Fr.length i b) (stg R Fr.length (entM Fr.length M) Fr i) (stg R Fr.length (entM Fr.length M) Fr i) | none => stg R Fr.length (entM Fr.length M) Fr i) := by
          show (match Fr[i]? with | some f => _ | none => _) = _
          rw [hfr]
        have hfl : (Fr ++ [h])[i]? = some fr := by rw [List.getElem?_append_left hil]; exact hfr
        refine ⟨_, rfl, _, rfl, r, _, rfl, DGet.k (k := Sum.inl fr) (s4 _ _ hrow), _, rfl, ?_⟩
        cases e : R fr with
        | none =>
          rw [hR fr, e]
          refine iteF ⟨D', _, rfl, s4, w4, ?_⟩
          rw [est, e]
          exact t4
        | some b =>
          rw [hR fr, e]
          refine iteT ⟨_, rfl, _, rfl, _, rfl, .inl ⟨rfl, _, Or.inl (Or.inl w4)⟩, _, rfl, wd, _, .int fr, i, .int fr, rfl, rfl, SqL.of w4, rfl, iv_flat _, by rw [List.getElem?_map, hfl]; rfl, by show (fr == fr) = true; simp, iv_first hso hfl, ?_⟩
          refine ⟨_, rfl, _, rfl, r, .int b, rfl, ?_, D', _, (Fr.length : Int), (i : Int), b, Fr.length + 1, rfl, t4, stg_len (fun m hm => ?_) i, by omega, by omega, by omega, by omega, by omega, hl i, hw i, hb _ _ e, fun H6 D6 s6 n6 t6 => ?_⟩
          · have g := DGet.k (k := Sum.inl fr) (s4 _ _ hrow)
            rw [hR fr, e] at g
            exact g
          · obtain ⟨m0, hm0, rfl⟩ := List.mem_map.mp hm
            rw [List.length_append, (hM m0 hm0).1]
            rfl
          · refine ⟨D6, _, rfl, s4.trans s6, s6 _ _ w4, ?_⟩
            rw [est, e]
            exact t6
      · rintro σ H4 ⟨D', u10, rfl, s4, w4, t4⟩
        rw [List.length_map] at t4
        refine ⟨_, rfl, _, rfl, by show 2 ≤ sizeLine; decide, fun p5 n5 => ?_⟩
        exact q _ p5 wd D' (s4.trans (same_new n5)) (s4.free n5) upd_same (same_new n5 _ _ w4) (t4.mono (same_new n5))
/-- the table without the label at pl -/
def lefM (pl : Int) (M : Tb) : Tb := into (fun J => some (leftJ J pl, 1)) [] M
def spWithout (w : World) : L2.Sp := fun vs H Q _ => ∃ (f d : Addr) (Fr : List Int) (M : Tb) (h : Int) (pl : Nat), vs = [.ref f, .ref d, .int h, .int 0] ∧ H f = some (.lst (iv Fr)) ∧ NTab w H d M ∧ Fr.Pairwise (· < ·) ∧ Fr.length < 60 ∧ Fr[pl]? = some h ∧
  (∀ m ∈ M, m.1.length ≤ 4000) ∧ M.length ≤ 1000000 ∧
  ∀ H' p f' d', Same H H' → H p = none → H' p = some (.tup [.ref f', .ref d']) → H' f' = some (.lst (iv (Fr.filter fun x => decide (x ≠ h)))) → NTab w H' d' (lefM pl M) → Q (.ref p) H'
set_option maxHeartbeats 16000000 in
theorem ok_cwithouthouse (T : Tx K mg) : FnOk P w K mg base CX0 2 (T.f 10) (T.fd 10) ["frontier", "table", "house", "most"] (spWithout w) := by
  refine T.d_cwithouthouse.F.ok sc_cwithouthouse (fun vs H Q E h => ?_) (fun cdv A outer s H vs Q E hr h => ?_)
  · obtain ⟨f, d, Fr, M, h, pl, rfl, _⟩ := h
    rfl
  · obtain ⟨f, d, Fr, M, h, pl, rfl, hf, hT, hso, hlen, hpl, hM, hMl, q⟩ := h
    obtain ⟨⟨xs, ep, hd, hP⟩, nd, ln, sm⟩ := id hT
    have hsl : sizeLine = 16777216 := sizeLine_eq
    refine ⟨_, 
      (pss_cons (ps_set (i := 4) sc_cwithouthouse.nd rfl (Or.inl rfl) (pe_bm PySem.F.plainAttrs_list PySem.F.slot_list_index PySem.F.type_list_index mt_index (pv 0) (pa_cons (pv 2) pa_nil)))
      (pss_cons (ps_set (i := 5) sc_cwithouthouse.nd rfl (Or.inl rfl) pe_nnew)
      (pss_cons (ps_for PassesOwn.never rfl (pi_nitems (pv 1)) (pg_tup rfl (pgs_cons (pg_tup rfl (pgs_cons (pg_name (i := 6) sc_cwithouthouse.nd rfl (Or.inl rfl)) (pgs_cons (pg_name (i := 7) sc_cwithouthouse.nd rfl (Or.inl rfl)) pgs_nil))) (pgs_cons (pg_name (i := 8) sc_cwithouthouse.nd rfl (Or.inl rfl)) pgs_nil))) 
          (pss_cons (ps_set (i := 9) sc_cwithouthouse.nd rfl (Or.inl rfl) (pv 7))
          (pss_cons (ps_if (PW.pt (pw_and (pt_truth (pv 3) (by intro _; rfl)) (pw_and1 pt_never))) 
              (pss_one (ps_set (i := 9) sc_cwithouthouse.nd rfl (Or.inl rfl) (pe_op op_add (pv 7) pe_int))) pss_nil)
          (pss_one (ps_if (pt_cmpR op_le (pv 9) (pv 3) (nomark _)) 
              (pss_cons (ps_set (i := 10) sc_cwithouthouse.nd rfl (Or.inl rfl) (pe_tup (pa_cons (pe_call (ok_cleft T) (hr.mono (by decide)) (by rfl) T.d_cleft.g T.d_cleft.k T.d_cleft.b .nil pass0 (pa_cons (pv 6) (pa_cons (pv 4) pa_nil))) (pa_cons (pv 9) pa_nil))))
              (pss_one (ps_nput (hu64 hr) (pv 5) (pv 10) (pe_op op_add (pe_nget2 (hu64 hr) (pv 5) (pv 10) pe_int ⟨rfl, rfl, rfl, rfl⟩) (pv 8)) rfl))) pss_nil)))))
      (pss_one (ps_ret (pe_tup (pa_cons (pe_lc (own := [("near", 11)]) rfl sc_cwithouthouse.nd (pi_list (pv 0)) (blkOk_by (own := [("near", 11)]) (N := N_cwithouthouse) (sc := defScope s_cwithouthouse) (by decide +kernel)) (fun _ _ _ _ _ => (pg_name (i := 11) sc_cwithouthouse.nd rfl (Or.inl rfl))) (fun _ _ _ _ _ => (pts_one (pt_cmpR op_ne (pv 11) (pv 2) (nomark _)))) (fun _ _ _ _ _ => (pv 11))) (pa_cons (pv 5) pa_nil)))))))), ?_⟩
    refine ⟨_, rfl, .inl ⟨rfl, _, Or.inl (Or.inl hf)⟩, _, rfl, f, _, .int h, pl, .int h, rfl, rfl, SqL.of hf, rfl, iv_flat _, by rw [List.getElem?_map, hpl]; rfl, by show (h == h) = true; simp, iv_first hso hpl, ?_⟩
    intro D hD H2 t2 k2 k2n
    have s2 : Same H H2 := fun b o e => k2 b o (ne_of_none e hD) e
    have G : ∀ {H1}, Same H H1 → H1 d = some (nO w d xs ep) ∧ Paired (NOne H1) M xs := fun {H1} s1 => ⟨s1 _ _ hd, nrel_mono hP fun c ys => s1 c _⟩
    refine ⟨_, rfl, d, xs, ep, rfl, sm, (G s2).1, nrel_ni (G s2).2, ?_⟩
    refine for_it (n := M.length) (walk_nitems (M := M)) (fun i σ H' => ∃ (v6 v7 v8 v9 v10 v11 : Option V), σ = [some (.ref f), some (.ref d), some (.int h), some (.int 0), some (.int pl), some (.ref D), v6, v7, v8, v9, v10, v11] ∧ Same H H' ∧ NTab w H' D (lefM pl (M.take i)))
      ⟨none, none, none, none, none, none, rfl, s2, t2⟩ (fun i σ H' _ ⟨_, _, _, _, _, _, _, s2, _⟩ => G s2) ?_ ?_
    · rintro i x σ H3 H4 hi ⟨v6, v7, v8, v9, v10, v11, rfl, s3, t3⟩ ⟨t, J, z, bb, hm, rfl, ht, rfl, jj, hb, hj⟩
      have s4 : Same H3 (upd H3 t (.tup [.ref bb, .int z])) := same_new ht
      have hJ := hM (J, z) (List.mem_of_getElem? hm)
      have hlI := into_len (fun J => some (leftJ J pl, 1)) (M.take i) []
      rw [List.length_take] at hlI
      refine ⟨t, _, rfl, SqT.of upd_same, rfl, _, _, rfl, ⟨bb, _, rfl, SqT.of (s4 _ _ hb), rfl, _, _, rfl, _, _, rfl, rfl, _, _, rfl, rfl, ?_⟩⟩
      refine ⟨_, rfl, _, rfl, _, rfl, iteF (iteF ⟨_, rfl, _, rfl, _, _, rfl, rfl, _, rfl, iteT ?_⟩)⟩
      refine ⟨_, rfl, _, rfl, jj, J, pl, rfl, s4 _ _ hj, hJ, fun H5 q5 s5 n5 h5 => ?_⟩
      refine ⟨_, rfl, by show 2 ≤ sizeLine; decide, fun ky hky => ?_⟩
      have s6 : Same H3 (upd H5 ky (.tup [.ref q5, .int 0])) := (s4.trans s5).trans (same_new hky)
      have key : KeyAt (upd H5 ky (.tup [.ref q5, .int 0])) ky (leftJ J pl) := ⟨q5, upd_same, same_new hky _ _ h5⟩
      have t6 := t3.mono s6
      refine ⟨_, rfl, ⟨D, _, rfl, t6⟩, _, rfl, D, ky, _, _, 0, rfl, rfl, rfl, t6, key, _, rfl, _, _, rfl, rfl, _, rfl, _, rfl, D, ky, _, _, _, rfl, rfl, rfl, t6, key, ?_, fun H6 np => ?_⟩
      · show (into _ _ _).length < _
        simp at hlI
        omega
      refine ⟨_, _, _, _, _, _, rfl, np.same hD (s3.trans s6), ?_⟩
      have e := into_snoc (fun J => some (leftJ J pl, 1)) [] (M.take i) (J, z)
      have e : into (fun J => some (leftJ J pl, 1)) [] (M.take (i + 1)) = addT (into (fun J => some (leftJ J pl, 1)) [] (M.take i)) (leftJ J pl) (z * 1) := by
        rw [take_snoc hm]; exact e
      rw [Int.mul_one] at e
      show NTab w H6 D (into _ [] _)
      rw [e]
      exact np.1
    · rintro σ H3 ⟨v6, v7, v8, v9, v10, v11, rfl, s3, t3⟩
      rw [List.take_length] at t3
      refine ⟨_, rfl, f, rfl, ⟨_, SqL.of (s3 _ _ hf)⟩, fun L hL => ?_⟩
      refine lc_it (n := (iv Fr).length) walk_list (fun i H' => Same H3 H' ∧ H' L = some (.lst (iv ((Fr.take i).filter fun x => decide (x ≠ h))))) ⟨same_new hL, upd_same⟩ (fun i H' _ z => SqL.of (z.1 _ _ (s3 _ _ hf))) ?_ ?_
      · rintro i x H4 H5 hi ⟨s4, hL4⟩ ⟨rfl, hx⟩
        obtain ⟨z, hz, rfl⟩ := iv_at hx
        have hlt := lt_of_getElem? hz
        have ef : (Fr.take (i + 1)).filter (fun x => decide (x ≠ h)) = (Fr.take i).filter (fun x => decide (x ≠ h)) ++ (if z = h then [] else [z]) := by
          rw [take_snoc hz, List.filter_append]
          congr 1
          by_cases e : z = h <;> simp [e]
        refine ⟨rfl, _, rfl, _, rfl, rfl, _, rfl, ?_⟩
        by_cases e : z = h
        · rw [show decide (V.int z = V.int h) = true from decide_eq_true (by rw [e])]
          refine iteF ⟨s4, ?_⟩
          rw [ef, if_pos e, List.append_nil]
          exact hL4
        · rw [show decide (V.int z = V.int h) = false from decide_eq_false fun y => e (V.int.inj y)]
          refine iteT ⟨_, rfl, _, hL4, ?_, same_upd hL s4, ?_⟩
          · have l1 : (iv ((Fr.take i).filter fun x => decide (x ≠ h))).length ≤ Fr.length := by
              rw [List.length_map]
              exact Nat.le_trans (List.length_filter_le _ _) (by rw [List.length_take]; omega)
            exact small_line (by omega)
          · rw [upd_same, ef, if_neg e]
            simp
      · rintro H4 ⟨s4, hL4⟩
        rw [List.length_map, List.take_length] at hL4
        refine ⟨_, rfl, by show 2 ≤ sizeLine; decide, fun p5 n5 => ?_⟩
        exact q _ p5 L D ((s3.trans s4).trans (same_new n5)) ((s3.trans s4).free n5) upd_same (same_new n5 _ _ hL4) ((t3.mono s4).mono (same_new n5))
end
end K36
-- text D8
set_option maxRecDepth 100000
set_option maxHeartbeats 4000000
namespace K36
open PySem PySem.Spec PyProof.Rows L2
/-! ### the bonds -/
/-- both directions of each line -/
def dirs (L : List Ln) : List Ln := L.flatMap fun l => [(l.1, l.2.1, l.2.2), (l.2.1, l.1, l.2.2)]
/-- what the row of h tells of y -/
def nbr (S : List Ln) (h y : Int) : Option Int := S.foldl (fun o t => if h = t.1 ∧ y = t.2.1 then some (o.getD 0 + t.2.2) else o) none
theorem nbr_snoc (S : List Ln) (t : Ln) (h y : Int) : nbr (S ++ [t]) h y = if h = t.1 ∧ y = t.2.1 then some ((nbr S h y).getD 0 + t.2.2) else nbr S h y := by
  unfold nbr
  rw [List.foldl_append]
  rfl
structure RowE (H : Hp) (r : Addr) (A : Int → Option Int) (N : Nat) : Prop where
  ex : ∃ kvs, H r = some (.dK kvs) ∧ (∀ k, valV kvs (.inl k) = (A k).map V.int) ∧ kvs.length ≤ N ∧ ∀ kv ∈ kvs, ∃ k z, kv = (.inl k, .int z) ∧ (A k).isSome = true
/-- the bonds of S stand at d; H0: the heap in which nothing of this stood -/
def BondsAt (H0 H : Hp) (d : Addr) (S : List Ln) : Prop := H0 d = none ∧ ∃ kvs, H d = some (.dK kvs) ∧ kvs.length ≤ S.length ∧ (∀ h, (∀ t ∈ S, t.1 ≠ h) → valV kvs (.inl h) = none) ∧
  (∀ h, (∃ t ∈ S, t.1 = h) → ∃ r, valV kvs (.inl h) = some (.ref r) ∧ r ≠ d ∧ H0 r = none ∧ RowE H r (nbr S h) S.length) ∧ ∀ h h' r, valV kvs (.inl h) = some (.ref r) → valV kvs (.inl h') = some (.ref r) → h = h'
theorem mem_putK {κ : Type} [DecidableEq κ] {kvs : List (κ × V)} {k : κ} {v : V} {kv : κ × V} (h : kv ∈ putK kvs k v) : kv = (k, v) ∨ kv ∈ kvs := by
  unfold putK at h
  split at h
  · obtain ⟨a, ha, e⟩ := List.mem_map.mp h
    by_cases q : a.1 = k
    · rw [if_pos q] at e
      exact .inl (by rw [← e, q])
    · rw [if_neg q] at e
      exact .inr (by rw [← e]; exact ha)
  · rcases List.mem_append.mp h with h | h
    · exact .inr h
    · exact .inl (by simpa using h)
theorem RowE.put {H H' : Hp} {r : Addr} {kvs : List (Key × V)} {A A' : Int → Option Int} {N : Nat} {y z : Int} (e : ∀ k, valV kvs (.inl k) = (A k).map V.int) (hl : kvs.length ≤ N) (hk : ∀ kv ∈ kvs, ∃ k z, kv = (.inl k, .int z) ∧ (A k).isSome = true)
    (hr : H' r = some (.dK (putK kvs (.inl y) (.int z)))) (hA : ∀ k, A' k = if k = y then some z else A k) : RowE H' r A' (N + 1) := by
  refine ⟨_, hr, fun k => ?_, ?_, fun kv hkv => ?_⟩
  · rw [valV_put, hA]
    by_cases q : k = y
    · rw [if_pos q, if_pos (by rw [q])]; rfl
    · rw [if_neg q, if_neg (fun z => q (Sum.inl.inj z))]; exact e k
  · have := length_putK kvs (.inl y : Key) (.int z)
    omega
  · rcases mem_putK hkv with q | q
    · exact ⟨y, z, q, by rw [hA, if_pos rfl]; rfl⟩
    · obtain ⟨k, z', q1, q2⟩ := hk kv q
      refine ⟨k, z', q1, ?_⟩
      rw [hA]
      split
      · rfl
      · exact q2
section
variable {P : Program} {w : World} {K : PySem.W.Frag} {mg : PySem.Str → Option Value} {base : Heap}
def spBonds : L2.Sp := fun vs H Q _ => ∃ (p : Addr) (L : List Ln), vs = [.ref p] ∧ LTup H p L ∧ L.length ≤ 1000 ∧ ∀ H' d, Same H H' → BondsAt H H' d (dirs L) → Q (.ref d) H'
set_option maxHeartbeats 16000000 in
theorem ok_cbonds (T : Tx K mg) : FnOk P w K mg base CX0 1 (T.f 4) (T.fd 4) ["lines"] spBonds := by
  refine T.d_cbonds.F.ok sc_cbonds (fun vs H Q E h => ?_) (fun cdv A outer s H vs Q E hr h => ?_)
  · obtain ⟨p, L, rfl, _⟩ := h
    rfl
  · obtain ⟨p, L, rfl, ⟨qs, hp, hL⟩, hlen, q⟩ := h
    have hqn : qs.length = L.length := (Paired.length hL).symm
    have hsl : sizeLine = 16777216 := sizeLine_eq
    refine ⟨_, 
      (pss_cons (ps_set (i := 1) sc_cbonds.nd rfl (Or.inl rfl) pe_dnewK)
      (pss_cons (ps_for PassesOwn.never rfl (pi_tup (pv 0)) (pg_tup rfl (pgs_cons (pg_name (i := 2) sc_cbonds.nd rfl (Or.inl rfl)) (pgs_cons (pg_name (i := 3) sc_cbonds.nd rfl (Or.inl rfl)) (pgs_cons (pg_name (i := 4) sc_cbonds.nd rfl (Or.inl rfl)) pgs_nil)))) 
          (pss_one (ps_for PassesOwn.never rfl (pi_tup (pe_tup (pa_cons (pe_tup (pa_cons (pv 2) (pa_cons (pv 3) pa_nil))) (pa_cons (pe_tup (pa_cons (pv 3) (pa_cons (pv 2) pa_nil))) pa_nil)))) (pg_tup rfl (pgs_cons (pg_name (i := 5) sc_cbonds.nd rfl (Or.inl rfl)) (pgs_cons (pg_name (i := 6) sc_cbonds.nd rfl (Or.inl rfl)) pgs_nil))) 
              (pss_cons (ps_set (i := 7) sc_cbonds.nd rfl (Or.inl rfl) (pe_dsetd (pv 1) (pv 5) pe_dnewK ⟨rfl, rfl, rfl, rfl⟩))
              (pss_one (ps_dput (hu_of hr) (pv 7) (pv 6) (pe_op op_add (pe_dget2 (hu_of hr) (pv 7) (pv 6) pe_int ⟨rfl, rfl, rfl, rfl⟩) (pv 4)) rfl))))))
      (pss_one (ps_ret (pv 1))))), ?_⟩
    intro D hD
    refine ⟨_, rfl, p, rfl, ⟨_, SqT.of (same_new hD _ _ hp)⟩, ?_⟩
    refine for_it (n := (qs.map V.ref).length) walk_tup (fun i σ H' => ∃ (v2 v3 v4 v5 v6 v7 : Option V), σ = [some (.ref p), some (.ref D), v2, v3, v4, v5, v6, v7] ∧ Same H H' ∧ BondsAt H H' D (dirs (L.take i)))
      ⟨none, none, none, none, none, none, rfl, same_new hD, hD, [], upd_same, Nat.le_refl _, fun _ _ => rfl, fun h z => (by obtain ⟨t, ht, _⟩ := z; cases ht), fun h h' r z _ => (by cases z)⟩ (fun i σ H' _ ⟨_, _, _, _, _, _, _, sm, _⟩ => SqT.of (sm _ _ hp)) ?_ ?_
    · rintro i x σ H1 H2 hi ⟨v2, v3, v4, v5, v6, v7, rfl, sm, hB⟩ ⟨rfl, hx⟩
      rw [List.getElem?_map] at hx
      obtain ⟨t, ht, rfl⟩ := Option.map_eq_some_iff.mp hx
      obtain ⟨⟨a, b, r⟩, hln, hat⟩ := pr_at hL ht
      have hlt := lt_of_getElem? hln
      have ed : dirs (L.take (i + 1)) = dirs (L.take i) ++ [(a, b, r), (b, a, r)] := by
        unfold dirs
        rw [take_snoc hln, List.flatMap_append]
        rfl
      have hdl : (dirs (L.take i)).length ≤ 2000 := by
        have key : ∀ M : List Ln, (dirs M).length = 2 * M.length := by
          intro M
          induction M with
          | nil => rfl
          | cons m M ih =>
            have e : dirs (m :: M) = [(m.1, m.2.1, m.2.2), (m.2.1, m.1, m.2.2)] ++ dirs M := rfl
            rw [e, List.length_append, ih]
            simp
            omega
        rw [key, List.length_take]
        omega
      refine ⟨t, _, rfl, SqT.of (sm _ _ hat), rfl, _, _, rfl, _, _, rfl, _, _, rfl, rfl, ?_⟩
      -- ((one, other), (other, one))
      refine ⟨_, rfl, _, rfl, by show 2 ≤ sizeLine; decide, fun p1 n1 => ⟨_, rfl, _, rfl, by show 2 ≤ sizeLine; decide, fun p2 n2 => ⟨by show 2 ≤ sizeLine; decide, fun p3 n3 => ?_⟩⟩⟩
      have s1 : Same H2 (upd (upd (upd H2 p1 (.tup [.int a, .int b])) p2 (.tup [.int b, .int a])) p3 (.tup [.ref p1, .ref p2])) := ((same_new n1).trans (same_new n2)).trans (same_new n3)
      have e1 := ((same_new (o := .tup [.int b, .int a]) n2).trans (same_new (o := .tup [.ref p1, .ref p2]) n3)) _ _ (upd_same (H := H2) (a := p1) (o := .tup [.int a, .int b]))
      have e2 := (same_new (o := .tup [.ref p1, .ref p2]) n3) _ _ (upd_same (H := upd H2 p1 (.tup [.int a, .int b])) (a := p2) (o := .tup [.int b, .int a]))
      have e3 := upd_same (H := upd (upd H2 p1 (.tup [.int a, .int b])) p2 (.tup [.int b, .int a])) (a := p3) (o := .tup [.ref p1, .ref p2])
      have hB1 : BondsAt H (upd (upd (upd H2 p1 (.tup [.int a, .int b])) p2 (.tup [.int b, .int a])) p3 (.tup [.ref p1, .ref p2])) D (dirs (L.take i)) := by
        obtain ⟨b0, kvs, b1, b2, b3, b4, b5⟩ := hB
        refine ⟨b0, kvs, s1 _ _ b1, b2, b3, fun h hh => ?_, b5⟩
        obtain ⟨rr, c1, c2, c3, ⟨kv, c4, c5⟩⟩ := b4 h hh
        exact ⟨rr, c1, c2, c3, ⟨kv, s1 _ _ c4, c5⟩⟩
      generalize (upd (upd (upd H2 p1 (.tup [.int a, .int b])) p2 (.tup [.int b, .int a])) p3 (.tup [.ref p1, .ref p2])) = H3 at s1 e1 e2 e3 hB1
      have sm3 := sm.trans s1
      refine ⟨p3, rfl, ⟨_, SqT.of e3⟩, ?_⟩
      refine for_it (n := 2) (walk_tup (xs := [.ref p1, .ref p2])) (fun j σ H' => ∃ (v5 v6 v7 : Option V), σ = [some (.ref p), some (.ref D), some (.int a), some (.int b), some (.int r), v5, v6, v7] ∧ Same H H' ∧ H' p1 = some (.tup [.int a, .int b]) ∧ H' p2 = some (.tup [.int b, .int a]) ∧ H' p3 = some (.tup [.ref p1, .ref p2]) ∧
          BondsAt H H' D (dirs (L.take i) ++ [(a, b, r), (b, a, r)].take j))
        ⟨v5, v6, v7, rfl, sm3, e1, e2, e3, by rw [List.take_zero, List.append_nil]; exact hB1⟩ (fun j σ H' _ ⟨_, _, _, _, _, _, _, e3, _⟩ => SqT.of e3) ?_ ?_
      · rintro j x σ H4 H5 hj ⟨v5, v6, v7, rfl, s4, e1, e2, e3, hB⟩ ⟨rfl, hx⟩
        obtain ⟨pp, hh, nn, rfl, hpp, htk⟩ : ∃ pp hh nn, x = .ref pp ∧ H5 pp = some (.tup [.int hh, .int nn]) ∧ [(a, b, r), (b, a, r)].take (j + 1) = [(a, b, r), (b, a, r)].take j ++ [(hh, nn, r)] := by
          match j, hx with
          | 0, hx => exact ⟨p1, a, b, (Option.some.inj hx).symm, e1, rfl⟩
          | 1, hx => exact ⟨p2, b, a, (Option.some.inj hx).symm, e2, rfl⟩
        have hSl : (dirs (L.take i) ++ [(a, b, r), (b, a, r)].take j).length ≤ 2002 := by
          rw [List.length_append, List.length_take]
          simp
          omega
        have eS : dirs (L.take i) ++ [(a, b, r), (b, a, r)].take (j + 1) = (dirs (L.take i) ++ [(a, b, r), (b, a, r)].take j) ++ [(hh, nn, r)] := by rw [htk, List.append_assoc]
        rw [eS]
        generalize dirs (L.take i) ++ [(a, b, r), (b, a, r)].take j = S at hB hSl
        obtain ⟨b0, kvs, b1, b2, b3, b4, b5⟩ := hB
        refine ⟨pp, _, rfl, SqT.of hpp, rfl, _, _, rfl, _, _, rfl, rfl, ?_⟩
        -- row = bonds.setdefault(house, {})
        refine ⟨_, rfl, D, rfl, .inl ⟨kvs, .of b1⟩, _, rfl, fun e ne => ?_⟩
        have s5 : Same H5 (upd H5 e (.dK [])) := same_new ne
        have ne0 : H e = none := s4.free ne
        have keep : ∀ {H' : Hp} {rr : Addr}, (∀ c o, c ≠ D → c ≠ rr → H5 c = some o → H' c = some o) → H rr = none → (∀ c o, H c = some o → H' c = some o) ∧ (∀ c ys, H5 c = some (.tup ys) → c ≠ rr → H' c = some (.tup ys)) := fun {H' rr} k hrr =>
          ⟨fun c o z => k c o (ne_of_none z hD) (ne_of_none z hrr) (s4 _ _ z), fun c ys z hc => k c _ (ne_of z b1 fun y => by cases y) hc z⟩
        -- the rest, from a row at rr
        have rest : ∀ (H6 : Hp) (rr : Addr) (kv6 row : List (Key × V)), H rr = none → rr ≠ D → H6 D = some (.dK kv6) → H6 rr = some (.dK row) → (∀ c o, c ≠ D → c ≠ rr → H5 c = some o → H6 c = some o) → kv6.length ≤ S.length + 1 →
            (∀ h, valV kv6 (.inl h) = if h = hh then some (.ref rr) else valV kvs (.inl h)) → (∀ k, valV row (.inl k) = (nbr S hh k).map V.int) → row.length ≤ S.length → (∀ kv ∈ row, ∃ k z, kv = (.inl k, .int z) ∧ (nbr S hh k).isSome = true) →
            (∀ h, h ≠ hh → valV kvs (.inl h) ≠ some (.ref rr)) → (∀ c ys, H5 c = some (.tup ys) → c ≠ rr) →
            ∃ H7, DPut H6 rr (.int nn) (.int ((nbr S hh nn).getD 0 + r)) H7 ∧ Same H H7 ∧ H7 p1 = some (.tup [.int a, .int b]) ∧ H7 p2 = some (.tup [.int b, .int a]) ∧ H7 p3 = some (.tup [.ref p1, .ref p2]) ∧ BondsAt H H7 D (S ++ [(hh, nn, r)]) := by
          intro H6 rr kv6 row hrr hrD h6 h6r k6 l6 v6 vr lr kr hne htn
          refine ⟨_, DPut.k (k := Sum.inl nn) h6r (by omega), ?_⟩
          have k7 : ∀ c o, c ≠ D → c ≠ rr → H5 c = some o → (upd H6 rr (.dK (putK row (Sum.inl nn) (.int ((nbr S hh nn).getD 0 + r))))) c = some o := fun c o h1 h2 z => by rw [upd_ne h2]; exact k6 c o h1 h2 z
          obtain ⟨g1, g2⟩ := keep k7 hrr
          refine ⟨g1, g2 _ _ e1 (htn _ _ e1), g2 _ _ e2 (htn _ _ e2), g2 _ _ e3 (htn _ _ e3), b0, kv6, ?_, ?_, ?_, ?_, ?_⟩
          · rw [upd_ne hrD.symm]; exact h6
          · simp; exact l6
          · intro h hn
            rw [v6, if_neg (fun z => hn (hh, nn, r) (by simp) z.symm)]
            exact b3 h fun t ht => hn t (List.mem_append_left _ ht)
          · rintro h ⟨t, ht, rfl⟩
            by_cases eh : t.1 = hh
            · refine ⟨rr, by rw [v6, if_pos eh], hrD, hrr, ?_⟩
              have := RowE.put (H := H6) (H' := upd H6 rr (.dK (putK row (Sum.inl nn) (.int ((nbr S hh nn).getD 0 + r))))) (r := rr) (A' := nbr (S ++ [(hh, nn, r)]) t.1) (N := S.length) vr lr kr upd_same (fun k => by
                rw [nbr_snoc, eh]
                by_cases q : k = nn
                · rw [if_pos ⟨rfl, q⟩, if_pos q, q]
                · rw [if_neg (fun z => q z.2), if_neg q])
              rw [List.length_append]
              exact this
            · have hS : ∃ t' ∈ S, t'.1 = t.1 := by
                rcases List.mem_append.mp ht with ht | ht
                · exact ⟨t, ht, rfl⟩
                · rw [List.mem_singleton] at ht
                  rw [ht] at eh
                  exact absurd rfl eh
              obtain ⟨r0, c1, c2, c3, ⟨kv, c4, c5, c6, c7⟩⟩ := b4 t.1 hS
              have r0r : r0 ≠ rr := fun z => hne t.1 eh (by rw [← z]; exact c1)
              have en : nbr (S ++ [(hh, nn, r)]) t.1 = nbr S t.1 := by
                funext k
                rw [nbr_snoc, if_neg (fun z => eh z.1)]
              refine ⟨r0, by rw [v6, if_neg eh]; exact c1, c2, c3, ⟨kv, k7 _ _ c2 r0r c4, ?_, by rw [List.length_append]; exact Nat.le_succ_of_le c6, ?_⟩⟩
              · rw [en]; exact c5
              · rw [en]; exact c7
          · intro h h' r' z1 z2
            rw [v6] at z1 z2
            by_cases q1 : h = hh <;> by_cases q2 : h' = hh
            · rw [q1, q2]
            · rw [if_pos q1] at z1
              rw [if_neg q2] at z2
              cases z1
              exact absurd z2 (hne h' q2)
            · rw [if_neg q1] at z1
              rw [if_pos q2] at z2
              cases z2
              exact absurd z1 (hne h q1)
            · rw [if_neg q1] at z1
              rw [if_neg q2] at z2
              exact b5 h h' r' z1 z2
        -- what stands behind the store
        have fin : ∀ {H7 : Hp} {rr : Addr}, (Same H H7 ∧ H7 p1 = some (.tup [.int a, .int b]) ∧ H7 p2 = some (.tup [.int b, .int a]) ∧ H7 p3 = some (.tup [.ref p1, .ref p2]) ∧ BondsAt H H7 D (S ++ [(hh, nn, r)])) →
            ∃ (v5 v6 v7 : Option V), [some (V.ref p), some (.ref D), some (.int a), some (.int b), some (.int r), some (.int hh), some (.int nn), some (.ref rr)] = [some (.ref p), some (.ref D), some (.int a), some (.int b), some (.int r), v5, v6, v7] ∧ Same H H7 ∧ H7 p1 = some (.tup [.int a, .int b]) ∧ H7 p2 = some (.tup [.int b, .int a]) ∧ H7 p3 = some (.tup [.ref p1, .ref p2]) ∧
              BondsAt H H7 D (S ++ [(hh, nn, r)]) := fun z => ⟨_, _, _, rfl, z⟩
        refine ⟨kvs, .inl hh, s5 _ _ b1, rfl, by omega, fun v hv => ?_, fun hv => ?_⟩
        · have hS : ∃ t ∈ S, t.1 = hh := by
            by_cases z : ∃ t ∈ S, t.1 = hh
            · exact z
            · have := b3 hh fun t ht e => z ⟨t, ht, e⟩
              rw [this] at hv
              cases hv
          obtain ⟨rr, c1, c2, c3, ⟨row, c4, c5, c6, c7⟩⟩ := b4 hh hS
          rw [c1] at hv
          cases hv
          obtain ⟨H7, dp, z⟩ := rest (upd H5 e (.dK [])) rr kvs row c3 c2 (s5 _ _ b1) (s5 _ _ c4) (fun c o _ _ z => s5 _ _ z) (Nat.le_succ_of_le b2) (fun h => by by_cases q : h = hh <;> simp [q, c1]) c5 c6 c7
            (fun h hn z => hn (b5 h hh rr z c1)) (fun c ys z y => by rw [y, c4] at z; cases z)
          have g := DGet.k (k := Sum.inl nn) (s5 _ _ c4)
          rw [c5 nn] at g
          refine ⟨_, rfl, rr, rfl, .inl ⟨row, .of (s5 _ _ c4)⟩, _, rfl, _, g, _, rfl, (nbr S hh nn).getD 0, r, ?_, rfl, _, rfl, _, rfl, rr, H7, rfl, dp, fin z⟩
          cases nbr S hh nn <;> rfl
        · have hS : ∀ t ∈ S, t.1 ≠ hh := fun t ht e => by
            obtain ⟨r0, c1, _⟩ := b4 hh ⟨t, ht, e⟩
            rw [c1] at hv
            cases hv
          have en : ∀ k, nbr S hh k = none := by
            have key : ∀ (M : List Ln), (∀ t ∈ M, t.1 ≠ hh) → ∀ k, nbr M hh k = none := by
              intro M hM k
              unfold nbr
              have : ∀ M' : List Ln, (∀ t ∈ M', t.1 ≠ hh) → M'.foldl (fun o t => if hh = t.1 ∧ k = t.2.1 then some (o.getD 0 + t.2.2) else o) (none : Option Int) = none := by
                intro M'
                induction M' with
                | nil => intro _; rfl
                | cons m M' ih =>
                  intro h
                  rw [List.foldl_cons, if_neg (fun z => h m List.mem_cons_self z.1.symm)]
                  exact ih fun t ht => h t (List.mem_cons_of_mem _ ht)
              exact this M hM
            exact key S hS
          have eD : e ≠ D := fun z => by rw [z, b1] at ne; cases ne
          have he6 : (upd (upd H5 e (.dK [])) D (.dK (putK kvs (Sum.inl hh) (.ref e)))) e = some (.dK []) := by rw [upd_ne eD, upd_same]
          obtain ⟨H7, dp, z⟩ := rest (upd (upd H5 e (.dK [])) D (.dK (putK kvs (Sum.inl hh) (.ref e)))) e (putK kvs (Sum.inl hh) (.ref e)) [] ne0 eD upd_same he6 (fun c o h1 h2 z => by rw [upd_ne h1, upd_ne h2]; exact z)
            (by have := length_putK kvs (.inl hh : Key) (.ref e); omega)
            (fun h => by rw [valV_put]; by_cases q : h = hh <;> simp [q]) (fun k => by rw [en k]; rfl) (Nat.zero_le _) (fun kv z => by cases z)
            (fun h hn z => by
              by_cases zz : ∃ t ∈ S, t.1 = h
              · obtain ⟨r0, c1, c2, c3, ⟨kv, c4, _⟩⟩ := b4 h zz
                rw [c1] at z
                cases z
                rw [ne] at c4
                cases c4
              · rw [b3 h fun t ht y => zz ⟨t, ht, y⟩] at z
                cases z)
            (fun c ys z y => by rw [y, ne] at z; cases z)
          have g := DGet.k (k := Sum.inl nn) he6
          refine ⟨_, rfl, e, rfl, .inl ⟨[], .of he6⟩, _, rfl, _, g, _, rfl, (nbr S hh nn).getD 0, r, ?_, rfl, _, rfl, _, rfl, e, H7, rfl, dp, fin z⟩
          rw [en nn]
          rfl
      · rintro σ H4 ⟨v5, v6, v7, rfl, s4, _, _, _, hB⟩
        rw [ed]
        exact ⟨_, _, _, _, _, _, rfl, s4, hB⟩
    · rintro σ H1 ⟨v2, v3, v4, v5, v6, v7, rfl, sm, hB⟩
      rw [List.length_map, hqn, List.take_length] at hB
      exact ⟨_, rfl, q _ D sm hB⟩
end
end K36
-- text Ma5
set_option maxRecDepth 100000
namespace K36
/-! ### the frontier's labels -/
def lbl (Fr J : List Int) (x : Int) : Option Int := (Fr.zip J).lookup x
def labF (Fr J : List Int) (x : Int) : Int := match lbl Fr J x with
  | some j => -j - 1
  | none => x
theorem lbl_none {Fr J : List Int} {x : Int} (h : x ∉ Fr) : lbl Fr J x = none := by
  unfold lbl
  rw [List.lookup_eq_none_iff]
  intro p hp
  have : p.1 ∈ Fr := (List.of_mem_zip (a := p.1) (b := p.2) hp).1
  simp only [bne_iff_ne, beq_eq_false_iff_ne, Bool.not_eq_true', ne_eq, beq_iff_eq]
  intro e
  exact h (e ▸ this)
theorem lbl_at : ∀ {Fr J : List Int} {i : Nat} {x : Int}, Fr.Nodup → Fr.length = J.length → Fr[i]? = some x → ∃ j, J[i]? = some j ∧ lbl Fr J x = some j
  | [], J, i, x, _, _, h => by simp at h
  | f :: Fr, [], i, x, _, hl, _ => by simp at hl
  | f :: Fr, j :: J, 0, x, _, _, h => by
    have e : f = x := by simpa using h
    exact ⟨j, rfl, by unfold lbl; simp [List.lookup, e]⟩
  | f :: Fr, j :: J, i + 1, x, hn, hl, h => by
    rw [List.nodup_cons] at hn
    simp only [List.getElem?_cons_succ] at h ⊢
    obtain ⟨j', h1, h2⟩ := lbl_at hn.2 (by simpa using hl) h
    have ne : ¬ x = f := fun e => hn.1 (by rw [← e]; exact List.mem_of_getElem? h)
    refine ⟨j', h1, ?_⟩
    unfold lbl at h2 ⊢
    rw [List.zip_cons_cons, List.lookup_cons]
    have : (x == f) = false := by simpa using ne
    rw [this]
    exact h2
theorem lbl_some {Fr J : List Int} {x j : Int} (h : lbl Fr J x = some j) : j ∈ J := by
  unfold lbl at h
  have : (x, j) ∈ Fr.zip J := by
    have key : ∀ l : List (Int × Int), l.lookup x = some j → (x, j) ∈ l := by
      intro l
      induction l with
      | nil => intro h; cases h
      | cons p l ih =>
        intro h
        obtain ⟨a, b⟩ := p
        rw [List.lookup_cons] at h
        by_cases e : x = a
        · subst e
          simp at h
          subst h
          exact List.mem_cons_self
        · have : (x == a) = false := by simpa using e
          rw [this] at h
          exact List.mem_cons_of_mem _ (ih h)
    exact key _ h
  exact (List.of_mem_zip this).2
theorem lbl_map (g : Int → Int) : ∀ (Fr J : List Int) (x : Int), lbl Fr (J.map g) x = (lbl Fr J x).map g
  | [], J, x => rfl
  | f :: Fr, [], x => rfl
  | f :: Fr, j :: J, x => by
    have ih := lbl_map g Fr J x
    unfold lbl at ih ⊢
    rw [List.map_cons, List.zip_cons_cons, List.zip_cons_cons, List.lookup_cons, List.lookup_cons, ih]
    cases x == f <;> rfl
theorem lbl_app {Fr J : List Int} {h n x : Int} (hl : Fr.length = J.length) : lbl (Fr ++ [h]) (J ++ [n]) x = (lbl Fr J x).or (if x = h then some n else none) := by
  unfold lbl
  rw [List.zip_append hl]
  have key : ∀ l : List (Int × Int), (l ++ [(h, n)]).lookup x = (l.lookup x).or (if x = h then some n else none) := by
    intro l
    induction l with
    | nil =>
      rw [List.nil_append, List.lookup_cons]
      by_cases e : x = h
      · simp [e]
      · have : (x == h) = false := by simpa using e
        simp [this, e]
    | cons p l ih =>
      obtain ⟨a, b⟩ := p
      rw [List.cons_append, List.lookup_cons, List.lookup_cons, ih]
      cases x == a <;> rfl
  exact key _
theorem lbl_erase : ∀ {Fr J : List Int} {pl : Nat} {near x : Int}, Fr.Nodup → Fr[pl]? = some near → x ≠ near → lbl (Fr.eraseIdx pl) (J.eraseIdx pl) x = lbl Fr J x
  | [], J, pl, near, x, _, h, _ => by simp at h
  | f :: Fr, [], pl, near, x, _, _, _ => by
    unfold lbl
    simp
  | f :: Fr, j :: J, 0, near, x, _, h, hx => by
    have e : f = near := by simpa using h
    unfold lbl
    rw [List.eraseIdx_cons_zero, List.eraseIdx_cons_zero, List.zip_cons_cons, List.lookup_cons]
    have : (x == f) = false := by simpa [e] using hx
    rw [this]
  | f :: Fr, j :: J, pl + 1, near, x, hn, h, hx => by
    rw [List.nodup_cons] at hn
    simp only [List.getElem?_cons_succ] at h
    have ih := lbl_erase (J := J) hn.2 h hx
    unfold lbl at ih ⊢
    rw [List.eraseIdx_cons_succ, List.eraseIdx_cons_succ, List.zip_cons_cons, List.zip_cons_cons, List.lookup_cons, List.lookup_cons, ih]
abbrev Nng (x : Int) : Prop := 0 ≤ x
theorem lab_iff {Fr J : List Int} (hJ : ∀ j ∈ J, 0 ≤ j) {x y : Int} (hx : 0 ≤ x) (hy : 0 ≤ y) : labF Fr J x = labF Fr J y ↔ (match lbl Fr J x, lbl Fr J y with | some a, some b => a = b | none, none => x = y | _, _ => False) := by
  unfold labF
  cases e1 : lbl Fr J x <;> cases e2 : lbl Fr J y
  · exact Iff.rfl
  · have := hJ _ (lbl_some e2)
    exact ⟨fun z => by have z' : x = -(_ : Int) - 1 := z; omega, fun z => z.elim⟩
  · have := hJ _ (lbl_some e1)
    exact ⟨fun z => by have z' : -(_ : Int) - 1 = y := z; omega, fun z => z.elim⟩
  · simp only
    omega
theorem ker_enter {Fr J : List Int} {h : Int} (hl : Fr.length = J.length) (hh : h ∉ Fr) (hJ : ∀ j ∈ J, 0 ≤ j ∧ j < J.length) : KerOn Nng (labF (Fr ++ [h]) (J ++ [(J.length : Int)])) (labF Fr J) := by
  intro x y hx hy
  have hJ' : ∀ j ∈ J ++ [(J.length : Int)], 0 ≤ j := fun j hj => by
    rcases List.mem_append.mp hj with q | q
    · exact (hJ j q).1
    · rw [List.mem_singleton] at q; omega
  rw [lab_iff hJ' hx hy, lab_iff (fun j hj => (hJ j hj).1) hx hy, lbl_app hl, lbl_app hl]
  have nh := lbl_none (J := J) hh
  by_cases ex : x = h <;> by_cases ey : y = h
  · subst ex; subst ey; simp [nh]
  · subst ex
    rw [nh, if_pos rfl, if_neg ey]
    cases e : lbl Fr J y with
    | none => simp; exact fun z => ey z.symm
    | some b =>
      have := hJ b (lbl_some e)
      simp
      omega
  · subst ey
    rw [nh, if_pos rfl, if_neg ex]
    cases e : lbl Fr J x with
    | none => simp; exact ex
    | some b =>
      have := hJ b (lbl_some e)
      simp
      omega
  · rw [if_neg ex, if_neg ey, Option.or_none, Option.or_none]
theorem ker_merge {Fr J : List Int} {a b : Int} {x0 y0 : Int} (hl : Fr.length = J.length) (hn : Fr.Nodup) (hJ : ∀ j ∈ J, 0 ≤ j) (a0 : 0 ≤ a) (b0 : 0 ≤ b) (ha : Fr[a.toNat]? = some x0) (hb : Fr[b.toNat]? = some y0) (hF : ∀ x ∈ Fr, 0 ≤ x) :
    KerOn Nng (labF Fr (mgL J a b)) (mrg (labF Fr J) x0 y0) := by
  have la : a.toNat < J.length := by rw [← hl]; exact lt_of_getElem? ha
  have lb : b.toNat < J.length := by rw [← hl]; exact lt_of_getElem? hb
  obtain ⟨ja, h1, h2⟩ := lbl_at hn hl ha
  obtain ⟨jb, h3, h4⟩ := lbl_at hn hl hb
  have ga : gt J a = ja := by unfold gt; rw [List.getD_eq_getElem?_getD, h1]; rfl
  have gb : gt J b = jb := by unfold gt; rw [List.getD_eq_getElem?_getD, h3]; rfl
  have pa := hJ _ (lbl_some h2)
  have pb := hJ _ (lbl_some h4)
  have hM : ∀ j ∈ mgL J a b, 0 ≤ j := fun j hj => by
    unfold mgL at hj
    obtain ⟨z, hz, rfl⟩ := List.mem_map.mp hj
    have := hJ z hz
    split
    · rw [ga, gb]; unfold mn; split <;> omega
    · exact this
  intro x y hx hy
  rw [lab_iff hM hx hy, mrg_eq, lab_iff hJ hx hy, lab_iff hJ hx (hF _ (List.mem_of_getElem? ha)), lab_iff hJ hy (hF _ (List.mem_of_getElem? hb)), lab_iff hJ hx (hF _ (List.mem_of_getElem? hb)), lab_iff hJ hy (hF _ (List.mem_of_getElem? ha)), h2, h4]
  unfold mgL
  rw [lbl_map, lbl_map, ga, gb]
  cases lbl Fr J x <;> cases lbl Fr J y
  · simp
  · simp
  · simp
  · simp only [Option.map_some]
    unfold mn mx
    grind
/-! ### leaving -/
def dl (pl : Int) : Int → List Int → List Int
  | _, [] => []
  | a, x :: r => if a = pl then dl pl (a + 1) r else x :: dl pl (a + 1) r
def fe (pl : Int) : Int → List Int → Option Int
  | _, [] => none
  | a, x :: r => if a ≠ pl ∧ x = pl then some (a - 1) else fe pl (a + 1) r
def gx (pl v x : Int) : Int := if x = pl then v else if x > pl then x - 1 else x
theorem lfs_eq (pl : Int) : ∀ (r : List Int) (a : Int) (h : Option Int), lfs pl a h r = (dl pl a r).map (gx pl ((h.or (fe pl a r)).getD 0))
  | [], _, _ => rfl
  | x :: r, a, h => by
    unfold lfs dl fe
    by_cases e : a = pl
    · rw [if_pos e, if_pos e, if_neg (fun z => z.1 e), lfs_eq pl r]
    · rw [if_neg e, if_neg e]
      by_cases d : x = pl
      · rw [if_pos d, if_pos ⟨e, d⟩, lfs_eq pl r, List.map_cons]
        have e1 : ((some (h.getD (a - 1))).or (fe pl (a + 1) r)).getD 0 = (h.or (some (a - 1))).getD 0 := by cases h <;> rfl
        rw [e1]
        congr 1
        unfold gx
        rw [if_pos d]
        cases h <;> rfl
      · rw [if_neg d, if_neg (show ¬ (a ≠ pl ∧ x = pl) from fun z => d z.2), lfs_eq pl r, List.map_cons]
        congr 1
        unfold gx
        rw [if_neg d]
theorem dl_erase (pl : Nat) : ∀ (r : List Int) (a : Nat), dl pl a r = if a ≤ pl then r.eraseIdx (pl - a) else r
  | [], a => by
    unfold dl
    split <;> simp
  | x :: r, a => by
    unfold dl
    have ih := dl_erase pl r (a + 1)
    have ec : ((a + 1 : Nat) : Int) = (a : Int) + 1 := by omega
    rw [ec] at ih
    by_cases e : a = pl
    · rw [if_pos (by omega), ih, if_neg (by omega), if_pos (by omega), show pl - a = 0 by omega, List.eraseIdx_cons_zero]
    · rw [if_neg (by omega), ih]
      by_cases l : a ≤ pl
      · rw [if_pos (by omega), if_pos l, show pl - a = (pl - (a + 1)) + 1 by omega, List.eraseIdx_cons_succ]
      · rw [if_neg (by omega), if_neg l]
theorem fe_spec (pl : Int) : ∀ (r : List Int) (a : Nat) {v}, fe pl a r = some v → ∃ i : Nat, r[i]? = some pl ∧ v = a + i - 1 ∧ (a : Int) + i ≠ pl ∧ ∀ k : Nat, k < i → (a : Int) + k ≠ pl → r[k]? ≠ some pl
  | [], _, _, h => by cases h
  | x :: r, a, v, h => by
    unfold fe at h
    by_cases e : (a : Int) ≠ pl ∧ x = pl
    · rw [if_pos e] at h
      cases h
      exact ⟨0, by simp [e.2], by omega, by have := e.1; omega, fun k hk => by omega⟩
    · rw [if_neg e] at h
      have ec : ((a + 1 : Nat) : Int) = (a : Int) + 1 := by omega
      rw [← ec] at h
      obtain ⟨i, h1, h2, h3, h4⟩ := fe_spec pl r (a + 1) h
      refine ⟨i + 1, by simpa using h1, by omega, by omega, fun k hk hp => ?_⟩
      cases k with
      | zero =>
        intro z
        have : x = pl := by simpa using z
        exact e ⟨by simpa using hp, this⟩
      | succ k =>
        rw [List.getElem?_cons_succ]
        exact h4 k (by omega) (by omega)
theorem fe_none (pl : Int) : ∀ (r : List Int) (a : Nat), fe pl a r = none → ∀ k : Nat, (a : Int) + k ≠ pl → r[k]? ≠ some pl
  | [], _, _, k, _ => by simp
  | x :: r, a, h, k, hk => by
    unfold fe at h
    by_cases e : (a : Int) ≠ pl ∧ x = pl
    · rw [if_pos e] at h; cases h
    · rw [if_neg e] at h
      have ec : ((a + 1 : Nat) : Int) = (a : Int) + 1 := by omega
      rw [← ec] at h
      cases k with
      | zero =>
        intro z
        have : x = pl := by simpa using z
        exact e ⟨by simpa using hk, this⟩
      | succ k =>
        rw [List.getElem?_cons_succ]
        exact fe_none pl r (a + 1) h k (by omega)
theorem left_eq (J : List Int) (pl : Nat) : leftJ J pl = (J.eraseIdx pl).map (gx pl ((fe pl 0 J).getD 0)) := by
  unfold leftJ
  rw [lfs_eq]
  have := dl_erase pl J 0
  rw [if_pos (Nat.zero_le _), Nat.sub_zero] at this
  have e : dl (pl : Int) ((0 : Nat) : Int) J = dl (pl : Int) 0 J := rfl
  rw [← e, this]
  rfl
theorem vj_at {J : List Int} (h : VJ J) {i : Nat} {z : Int} (hz : J[i]? = some z) : 0 ≤ z ∧ z ≤ i ∧ J[z.toNat]? = some z := by
  obtain ⟨h1, h2, h3⟩ := h i z hz
  refine ⟨h1, h2, ?_⟩
  have hi := lt_of_getElem? hz
  have hl : z.toNat < J.length := by omega
  unfold gt at h3
  rw [List.getD_eq_getElem?_getD, List.getElem?_eq_getElem hl] at h3
  rw [List.getElem?_eq_getElem hl]
  exact congrArg some h3
theorem vj_of {J : List Int} (h : ∀ (i : Nat) z, J[i]? = some z → 0 ≤ z ∧ z ≤ i ∧ J[z.toNat]? = some z) : VJ J := fun i z hz => by
  obtain ⟨h1, h2, h3⟩ := h i z hz
  refine ⟨h1, h2, ?_⟩
  unfold gt
  rw [List.getD_eq_getElem?_getD, h3]
  rfl
theorem erase_at {J : List Int} {pl i : Nat} {z : Int} (h : (J.eraseIdx pl)[i]? = some z) : ∃ k, J[k]? = some z ∧ k ≠ pl ∧ i = (if k < pl then k else k - 1) := by
  rw [List.getElem?_eraseIdx] at h
  by_cases e : i < pl
  · rw [if_pos e] at h
    exact ⟨i, h, by omega, by rw [if_pos e]⟩
  · rw [if_neg e] at h
    exact ⟨i + 1, h, by omega, by rw [if_neg (by omega)]; omega⟩
theorem erase_of {J : List Int} {pl k : Nat} {z : Int} (h : J[k]? = some z) (hk : k ≠ pl) : (J.eraseIdx pl)[if k < pl then k else k - 1]? = some z := by
  rw [List.getElem?_eraseIdx]
  by_cases e : k < pl
  · rw [if_pos e, if_pos e]; exact h
  · rw [if_neg e, if_neg (by omega), show k - 1 + 1 = k by omega]; exact h
/-- what fe finds in a joining -/
theorem fe_vj {J : List Int} {pl k : Nat} (h : VJ J) (hk : J[k]? = some (pl : Int)) (hp : k ≠ pl) : ∃ i : Nat, J[i]? = some (pl : Int) ∧ pl < i ∧ i ≤ k ∧ (fe pl 0 J).getD 0 = (i : Int) - 1 := by
  cases e : fe (pl : Int) 0 J with
  | none => exact absurd hk (fe_none pl J 0 e k (by simp; omega))
  | some v =>
    obtain ⟨i, h1, h2, h3, h4⟩ := fe_spec pl J 0 e
    obtain ⟨_, h5, _⟩ := vj_at h h1
    refine ⟨i, h1, by simp at h3; omega, ?_, by simp at h2; exact h2⟩
    by_cases l : i ≤ k
    · exact l
    · exact absurd hk (h4 k (by omega) (by simp; omega))
theorem vj_left {J : List Int} {pl : Nat} (h : VJ J) : VJ (leftJ J pl) := by
  rw [left_eq]
  refine vj_of fun i z hz => ?_
  rw [List.getElem?_map] at hz
  obtain ⟨x, hx, rfl⟩ := Option.map_eq_some_iff.mp hz
  obtain ⟨k, hk, kp, rfl⟩ := erase_at hx
  obtain ⟨x0, x1, x2⟩ := vj_at h hk
  by_cases e : x = pl
  · subst e
    obtain ⟨j, j1, j2, j3, j4⟩ := fe_vj h hk kp
    have ev : gx pl ((fe pl 0 J).getD 0) pl = (j : Int) - 1 := by unfold gx; rw [if_pos rfl, j4]
    rw [ev]
    have hj := erase_of (pl := pl) j1 (by omega)
    rw [if_neg (by omega)] at hj
    refine ⟨by omega, by rw [if_neg (by omega)]; omega, ?_⟩
    rw [List.getElem?_map, show ((j : Int) - 1).toNat = j - 1 by omega, hj]
    show some (gx _ _ _) = _
    rw [ev]
  · have hx2 := erase_of (pl := pl) x2 (by omega)
    have ev : gx pl ((fe pl 0 J).getD 0) x = if x > pl then x - 1 else x := by unfold gx; rw [if_neg e]
    rw [ev]
    by_cases g : x > pl
    · rw [if_pos g]
      rw [if_neg (by omega)] at hx2
      refine ⟨by omega, by rw [if_neg (by omega)]; omega, ?_⟩
      rw [List.getElem?_map, show (x - 1).toNat = x.toNat - 1 by omega, hx2]
      show some (gx _ _ _) = _
      rw [ev, if_pos g]
    · rw [if_neg g]
      rw [if_pos (by omega)] at hx2
      refine ⟨by omega, ?_, ?_⟩
      · split <;> omega
      · rw [List.getElem?_map, hx2]
        show some (gx _ _ _) = _
        rw [ev, if_neg g]
theorem vj_enter {J : List Int} (h : VJ J) : VJ (J ++ [(J.length : Int)]) := vj_of fun i z hz => by
  by_cases e : i < J.length
  · rw [List.getElem?_append_left e] at hz
    obtain ⟨h1, h2, h3⟩ := vj_at h hz
    exact ⟨h1, h2, by rw [List.getElem?_append_left (by omega)]; exact h3⟩
  · have hi := lt_of_getElem? hz
    rw [List.length_append, List.length_singleton] at hi
    obtain rfl : i = J.length := by omega
    simp at hz
    subst hz
    exact ⟨by omega, by omega, by simp⟩
theorem vj_merge {J : List Int} {a b : Int} (h : VJ J) (a0 : 0 ≤ a) (ha : a < J.length) (b0 : 0 ≤ b) (hb : b < J.length) : VJ (mgL J a b) := by
  have ga := gt_at a0 ha
  have gb := gt_at b0 hb
  obtain ⟨p0, p1, p2⟩ := vj_at h ga
  obtain ⟨q0, q1, q2⟩ := vj_at h gb
  have hlo : J[(mn (gt J a) (gt J b)).toNat]? = some (mn (gt J a) (gt J b)) := by unfold mn; split <;> assumption
  have hle : mn (gt J a) (gt J b) ≤ mx (gt J a) (gt J b) := by unfold mn mx; split <;> split <;> omega
  have hm0 : 0 ≤ mn (gt J a) (gt J b) := by unfold mn; split <;> omega
  have fix : ∀ {z : Int}, J[z.toNat]? = some z → (if z = mx (gt J a) (gt J b) then mn (gt J a) (gt J b) else z) = z → (mgL J a b)[z.toNat]? = some z := fun {z} hz hf => by
    unfold mgL
    rw [List.getElem?_map, hz]
    exact congrArg some hf
  refine vj_of fun i z hz => ?_
  unfold mgL at hz
  rw [List.getElem?_map] at hz
  obtain ⟨x, hx, rfl⟩ := Option.map_eq_some_iff.mp hz
  obtain ⟨x0, x1, x2⟩ := vj_at h hx
  by_cases e : x = mx (gt J a) (gt J b)
  · rw [if_pos e]
    refine ⟨hm0, by omega, fix hlo ?_⟩
    split <;> rfl
  · rw [if_neg e]
    exact ⟨x0, x1, fix x2 (if_neg e)⟩
theorem ker_left {Fr J : List Int} {pl : Nat} {near : Int} (h : VJ J) (hl : Fr.length = J.length) (hn : Fr.Nodup) (hp : Fr[pl]? = some near) : KerOn (fun x => 0 ≤ x ∧ x ≠ near) (labF (Fr.eraseIdx pl) (leftJ J pl)) (labF Fr J) := by
  have hJ : ∀ j ∈ J, 0 ≤ j := fun j hj => by
    obtain ⟨i, hi⟩ := List.getElem?_of_mem hj
    exact (vj_at h hi).1
  have hL : ∀ j ∈ leftJ J pl, 0 ≤ j := fun j hj => by
    obtain ⟨i, hi⟩ := List.getElem?_of_mem hj
    exact (vj_at (vj_left h) hi).1
  have idx : ∀ {x j : Int}, x ≠ near → lbl Fr J x = some j → ∃ k : Nat, J[k]? = some j ∧ k ≠ pl := fun {x j} hx e => by
    have hm : x ∈ Fr := by
      by_cases q : x ∈ Fr
      · exact q
      · rw [lbl_none q] at e; cases e
    obtain ⟨k, hk⟩ := List.getElem?_of_mem hm
    obtain ⟨j', h1, h2⟩ := lbl_at hn hl hk
    rw [e] at h2
    cases h2
    refine ⟨k, h1, fun z => hx ?_⟩
    subst z
    rw [hk] at hp
    exact Option.some.inj hp
  rintro x y ⟨x0, xn⟩ ⟨y0, yn⟩
  rw [lab_iff hL x0 y0, lab_iff hJ x0 y0, left_eq, lbl_map, lbl_map, lbl_erase hn hp xn, lbl_erase hn hp yn]
  cases ex : lbl Fr J x with
  | none => cases ey : lbl Fr J y <;> simp
  | some a =>
    cases ey : lbl Fr J y with
    | none => simp
    | some b =>
      obtain ⟨k, hk, kp⟩ := idx xn ex
      obtain ⟨m, hm, mp⟩ := idx yn ey
      obtain ⟨a0, a1, a2⟩ := vj_at h hk
      obtain ⟨b0, b1, b2⟩ := vj_at h hm
      show gx _ _ a = gx _ _ b ↔ a = b
      constructor
      · intro q
        by_cases ea : a = pl <;> by_cases eb : b = pl
        · rw [ea, eb]
        · subst ea
          obtain ⟨j, j1, j2, j3, j4⟩ := fe_vj h hk kp
          unfold gx at q
          rw [if_pos rfl, if_neg eb, j4] at q
          by_cases g : b > pl
          · rw [if_pos g] at q
            have e : b.toNat = j := by omega
            rw [e, j1] at b2
            cases b2
            exact rfl
          · rw [if_neg g] at q
            omega
        · subst eb
          obtain ⟨j, j1, j2, j3, j4⟩ := fe_vj h hm mp
          unfold gx at q
          rw [if_pos rfl, if_neg ea, j4] at q
          by_cases g : a > pl
          · rw [if_pos g] at q
            have e : a.toNat = j := by omega
            rw [e, j1] at a2
            cases a2
            exact rfl
          · rw [if_neg g] at q
            omega
        · unfold gx at q
          rw [if_neg ea, if_neg eb] at q
          split at q <;> split at q <;> omega
      · intro q; rw [q]
end K36
-- text Ma6
set_option maxRecDepth 100000
namespace K36
theorem W_pos : ∀ (L : List Ln) (f : Int → Int), (∀ l ∈ L, 0 ≤ l.2.2) → 1 ≤ W L f
  | [], f, _ => Int.le_refl _
  | l :: L, f, h => by
    rw [W_cons]
    have h1 := W_pos L f fun q hq => h q (List.mem_cons_of_mem _ hq)
    have h2 := W_pos L (mrg f l.1 l.2.1) fun q hq => h q (List.mem_cons_of_mem _ hq)
    have h3 := h l List.mem_cons_self
    split
    · omega
    · have := Int.mul_nonneg h3 (show 0 ≤ W L (mrg f l.1 l.2.1) by omega)
      omega
theorem phi_plus (M : Tb) (F G : List Int → Int) : Phi M F + Phi M G = Phi M fun J => F J + G J := by
  induction M with
  | nil => rfl
  | cons m M ih =>
    rw [phi_cons, phi_cons, phi_cons, Int.mul_add]
    omega
structure TabOK (tot : Int) (N : Nat) (Fr : List Int) (rem : List Ln) (M : Tb) : Prop where
  nd : (M.map (·.1)).Nodup
  ks : Ks (fun J => J.length = Fr.length ∧ VJ J) M
  nn : Nn M
  ln : M.length * 2 ^ rem.length ≤ 2 ^ N
  ph : Phi M (fun J => W rem (labF Fr J)) = tot
theorem TabOK.small {tot : Int} {N : Nat} {Fr : List Int} {rem : List Ln} {M : Tb} (h : TabOK tot N Fr rem M) : M.length ≤ 2 ^ N := by
  refine Nat.le_trans ?_ h.ln
  exact Nat.le_mul_of_pos_right _ (Nat.two_pow_pos _)
theorem TabOK.wt {tot : Int} {N B : Nat} {Fr : List Int} {rem : List Ln} {M : Tb} (h : TabOK tot N Fr rem M) (hr : ∀ l ∈ rem, 0 ≤ l.2.2) (hb : tot.natAbs < 2 ^ B) : ∀ m ∈ M, m.2.natAbs < 2 ^ B := fun m hm => by
  have h1 := weight_le h.nn (F := fun J => W rem (labF Fr J)) (fun m hm => W_pos rem _ hr) m hm
  rw [h.ph] at h1
  have h2 := h.nn m hm
  omega
def EndsN (L : List Ln) : Prop := ∀ l ∈ L, 0 ≤ l.1 ∧ 0 ≤ l.2.1
theorem vj_lt {J : List Int} (h : VJ J) : ∀ j ∈ J, 0 ≤ j ∧ j < J.length := fun j hj => by
  obtain ⟨i, hi⟩ := List.getElem?_of_mem hj
  have := vj_at h hi
  have := lt_of_getElem? hi
  omega
theorem enter_ok {tot : Int} {N : Nat} {Fr : List Int} {rem : List Ln} {M : Tb} {x : Int} (h : TabOK tot N Fr rem M) (hx : x ∉ Fr) (he : EndsN rem) : TabOK tot N (Fr ++ [x]) rem (entM Fr.length M) where
  nd := by
    unfold entM
    rw [List.map_map]
    have e : ((fun m : List Int × Int => m.1) ∘ fun m : List Int × Int => (m.1 ++ [(Fr.length : Int)], m.2)) = (fun J : List Int => J ++ [(Fr.length : Int)]) ∘ fun m : List Int × Int => m.1 := rfl
    rw [e, ← List.map_map]
    exact List.Pairwise.map _ (fun a b hne e => hne (List.append_inj' e rfl).1) h.nd
  ks := fun m hm => by
    obtain ⟨m0, hm0, rfl⟩ := List.mem_map.mp hm
    obtain ⟨h1, h2⟩ := h.ks m0 hm0
    refine ⟨by simp [h1], ?_⟩
    show VJ (m0.1 ++ [(Fr.length : Int)])
    rw [← h1]
    exact vj_enter h2
  nn := fun m hm => by
    obtain ⟨m0, hm0, rfl⟩ := List.mem_map.mp hm
    exact h.nn m0 hm0
  ln := by
    unfold entM
    rw [List.length_map]
    exact h.ln
  ph := by
    rw [← h.ph]
    unfold entM Phi
    rw [List.map_map]
    congr 1
    refine List.map_congr_left fun m hm => ?_
    obtain ⟨h1, h2⟩ := h.ks m hm
    show m.2 * W rem (labF (Fr ++ [x]) (m.1 ++ [(Fr.length : Int)])) = _
    rw [← h1, W_kerOn rem (ker_enter h1.symm hx (vj_lt h2)) he]
theorem lab_two {Fr J : List Int} {a b : Nat} {x y : Int} (h : VJ J) (hl : Fr.length = J.length) (hn : Fr.Nodup) (hF : ∀ x ∈ Fr, 0 ≤ x) (ha : Fr[a]? = some x) (hb : Fr[b]? = some y) : gt J a = gt J b ↔ labF Fr J x = labF Fr J y := by
  obtain ⟨ja, h1, h2⟩ := lbl_at hn hl ha
  obtain ⟨jb, h3, h4⟩ := lbl_at hn hl hb
  rw [lab_iff (fun j hj => (vj_lt h j hj).1) (hF _ (List.mem_of_getElem? ha)) (hF _ (List.mem_of_getElem? hb)), h2, h4]
  have ga : gt J a = ja := by unfold gt; rw [List.getD_eq_getElem?_getD, Int.toNat_natCast, h1]; rfl
  have gb : gt J b = jb := by unfold gt; rw [List.getD_eq_getElem?_getD, Int.toNat_natCast, h3]; rfl
  rw [ga, gb]
theorem strip_len {L : List Ln} {h n : Int} (e : ∃ l ∈ L, btw h n l = true) : (strip L h n).length + 1 ≤ L.length := by
  obtain ⟨l, hl, q⟩ := e
  have : (strip L h n).length < L.length := by
    unfold strip
    rw [List.length_filter_lt_length_iff_exists]
    exact ⟨l, hl, by simp [q]⟩
  omega
theorem bond_nn {L : List Ln} {h n : Int} (e : ∀ l ∈ L, 0 ≤ l.2.2) : 0 ≤ bond L h n := by
  induction L with
  | nil => exact Int.le_refl _
  | cons l L ih =>
    have h1 := ih fun q hq => e q (List.mem_cons_of_mem _ hq)
    have h2 := e l List.mem_cons_self
    cases q : btw h n l with
    | true => rw [bond_cons_pos q]; omega
    | false => rw [bond_cons_neg q]; exact h1
theorem bond_ok {tot : Int} {N : Nat} {Fr : List Int} {rem : List Ln} {M : Tb} {a b : Nat} {x y : Int} (h : TabOK tot N Fr rem M) (hn : Fr.Nodup) (hF : ∀ x ∈ Fr, 0 ≤ x) (ha : Fr[a]? = some x) (hb : Fr[b]? = some y) (he : EndsN rem) (hr : ∀ l ∈ rem, 0 ≤ l.2.2)
    (hex : ∃ l ∈ rem, btw x y l = true) : TabOK tot N Fr (strip rem x y) (into (wbf a b (bond rem x y)) M M) where
  nd := into_nd _ _ _ h.nd
  ks := by
    refine into_ks (R := fun J => J.length = Fr.length ∧ VJ J) _ (fun J J' r hJ hf => ?_) _ _ h.ks h.ks
    unfold wbf at hf
    split at hf
    · cases hf
    · cases hf
      have la := lt_of_getElem? ha
      have lb := lt_of_getElem? hb
      exact ⟨by rw [mgL, List.length_map]; exact hJ.1, vj_merge hJ.2 (by omega) (by omega) (by omega) (by omega)⟩
  nn := by
    refine into_nn _ (fun J J' r hf => ?_) _ _ h.nn h.nn
    unfold wbf at hf
    split at hf
    · cases hf
    · cases hf
      exact bond_nn hr
  ln := by
    have h1 := into_len (wbf a b (bond rem x y)) M M
    have h2 := strip_len hex
    refine Nat.le_trans ?_ h.ln
    have h3 : 2 ^ (strip rem x y).length * 2 ≤ 2 ^ rem.length := by
      rw [← Nat.pow_succ]
      exact Nat.pow_le_pow_right (by decide) h2
    calc (into (wbf a b (bond rem x y)) M M).length * 2 ^ (strip rem x y).length ≤ (M.length + M.length) * 2 ^ (strip rem x y).length := Nat.mul_le_mul_right _ h1
      _ = M.length * (2 ^ (strip rem x y).length * 2) := by rw [← Nat.two_mul, Nat.mul_comm 2, Nat.mul_assoc, Nat.mul_comm 2]
      _ ≤ M.length * 2 ^ rem.length := Nat.mul_le_mul_left _ h3
  ph := by
    rw [into_phi _ _ _ _ h.nd, phi_plus, ← h.ph]
    refine phi_congr fun m hm => ?_
    obtain ⟨h1, h2⟩ := h.ks m hm
    rw [W_par x y rem (labF Fr m.1)]
    have t := lab_two h2 h1.symm hn hF ha hb
    by_cases c : gt m.1 a = gt m.1 b
    · have ew : wbf a b (bond rem x y) m.1 = none := if_pos c
      rw [ew, if_pos (t.mp c)]
    · have ew : wbf a b (bond rem x y) m.1 = some (mgL m.1 a b, bond rem x y) := if_neg c
      rw [ew, if_neg (fun q => c (t.mpr q))]
      have k := ker_merge (J := m.1) (a := a) (b := b) h1.symm hn (fun j hj => (vj_lt h2 j hj).1) (by omega) (by omega) (by rw [Int.toNat_natCast]; exact ha) (by rw [Int.toNat_natCast]; exact hb) hF
      have e2 : EndsN (strip rem x y) := fun l hl => he l (List.mem_filter.mp hl).1
      show _ + bond rem x y * W (strip rem x y) (labF Fr (mgL m.1 a b)) = _
      rw [W_kerOn (strip rem x y) k e2]
theorem strip_none {L : List Ln} {h n : Int} (e : ∀ l ∈ L, btw h n l = false) : strip L h n = L := by
  unfold strip
  rw [List.filter_eq_self]
  intro l hl
  simp [e l hl]
theorem left_ok {tot : Int} {N : Nat} {Fr : List Int} {rem : List Ln} {M : Tb} {pl : Nat} {near : Int} (h : TabOK tot N Fr rem M) (hn : Fr.Nodup) (hp : Fr[pl]? = some near) (he : ∀ l ∈ rem, (0 ≤ l.1 ∧ l.1 ≠ near) ∧ (0 ≤ l.2.1 ∧ l.2.1 ≠ near)) : TabOK tot N (Fr.eraseIdx pl) rem (lefM pl M) where
  nd := into_nd _ _ _ List.nodup_nil
  ks := by
    refine into_ks (R := fun J => J.length = Fr.length ∧ VJ J) _ (fun J J' r hJ hf => ?_) _ _ (fun m hm => by cases hm) h.ks
    cases hf
    refine ⟨?_, vj_left hJ.2⟩
    have lp := lt_of_getElem? hp
    rw [left_eq, List.length_map, List.length_eraseIdx_of_lt (by rw [hJ.1]; exact lp), List.length_eraseIdx_of_lt lp, hJ.1]
  nn := into_nn _ (fun J J' r hf => by cases hf; decide) _ _ (fun m hm => by cases hm) h.nn
  ln := by
    have h1 := into_len (fun J => some (leftJ J pl, 1)) M []
    refine Nat.le_trans (Nat.mul_le_mul_right _ ?_) h.ln
    show (into _ [] M).length ≤ M.length
    simpa using h1
  ph := by
    show Phi (into _ [] M) _ = _
    rw [into_phi _ _ M [] (by simp), phi_nil, Int.zero_add, ← h.ph]
    refine phi_congr fun m hm => ?_
    obtain ⟨h1, h2⟩ := h.ks m hm
    show 1 * W rem (labF (Fr.eraseIdx pl) (leftJ m.1 pl)) = _
    rw [Int.one_mul, W_kerOn rem (ker_left h2 h1.symm hn hp) he]
/-! ### the bonds of one house with the frontier -/
def strips (rem : List Ln) (h : Int) (Fr : List Int) : Nat → List Ln
  | 0 => rem
  | k + 1 => match Fr[k]? with
    | some f => strip (strips rem h Fr k) h f
    | none => strips rem h Fr k
theorem strips_eq (rem : List Ln) (h : Int) (Fr : List Int) : ∀ k, strips rem h Fr k = rem.filter fun l => (Fr.take k).all fun f => !btw h f l
  | 0 => by
    show rem = _
    rw [List.filter_eq_self.mpr]
    intro l _
    simp
  | k + 1 => by
    unfold strips
    cases e : Fr[k]? with
    | none =>
      simp only
      rw [strips_eq rem h Fr k, List.take_add_one, e]
      simp
    | some f =>
      simp only
      rw [strips_eq rem h Fr k, take_snoc e]
      unfold strip
      rw [List.filter_filter]
      congr 1
      funext l
      rw [List.all_append, Bool.and_comm]
      simp
theorem btw_one {h f g : Int} {l : Ln} (hf : f ≠ h) (hg : g ≠ h) (a : btw h f l = true) (b : btw h g l = true) : f = g := by
  have a' := of_decide_eq_true a
  have b' := of_decide_eq_true b
  omega
theorem stg_ok {tot : Int} {N : Nat} {Fr : List Int} {rem : List Ln} {M0 : Tb} {h : Int} {A : Int → Option Int} (hT : TabOK tot N (Fr ++ [h]) rem M0) (hn : (Fr ++ [h]).Nodup) (hF : ∀ x ∈ Fr ++ [h], 0 ≤ x) (he : EndsN rem) (hr : ∀ l ∈ rem, 0 ≤ l.2.2)
    (hA : ∀ f ∈ Fr, A f = if (∃ l ∈ rem, btw h f l = true) then some (bond rem h f) else none) : ∀ k, TabOK tot N (Fr ++ [h]) (strips rem h Fr k) (stg A Fr.length M0 Fr k)
  | 0 => hT
  | k + 1 => by
    have ih := stg_ok hT hn hF he hr hA k
    have sub : ∀ l ∈ strips rem h Fr k, l ∈ rem := fun l hl => by
      rw [strips_eq] at hl
      exact (List.mem_filter.mp hl).1
    unfold stg strips
    cases e : Fr[k]? with
    | none => exact ih
    | some f =>
      have hf := List.mem_of_getElem? e
      have fh : f ≠ h := fun z => by
        rw [List.nodup_append] at hn
        exact hn.2.2 f hf h (by simp) z
      have same : (strips rem h Fr k).filter (btw h f) = rem.filter (btw h f) := by
        rw [strips_eq, List.filter_filter]
        refine List.filter_congr fun l hl => ?_
        cases q : btw h f l with
        | false => simp
        | true =>
          rw [Bool.true_and, List.all_eq_true]
          intro g hg
          have hgk := List.mem_of_mem_take hg
          cases r : btw h g l with
          | false => rfl
          | true =>
            exfalso
            have gh : g ≠ h := fun z => by
              rw [List.nodup_append] at hn
              exact hn.2.2 g hgk h (by simp) z
            have efg := btw_one fh gh q r
            subst efg
            obtain ⟨j, hj⟩ := List.getElem?_of_mem hg
            have hjk := lt_of_getElem? hj
            rw [List.length_take] at hjk
            rw [List.getElem?_take_of_lt (by omega)] at hj
            have hnF : Fr.Nodup := (List.nodup_append.mp hn).1
            have h1 : Fr[j]? = Fr[k]? := by rw [hj, e]
            have := (List.getElem?_inj (lt_of_getElem? hj) hnF).mp h1
            omega
      have eb : bond (strips rem h Fr k) h f = bond rem h f := by unfold bond; rw [same]
      have ex : (∃ l ∈ strips rem h Fr k, btw h f l = true) ↔ ∃ l ∈ rem, btw h f l = true := by
        constructor
        · rintro ⟨l, hl, q⟩
          exact ⟨l, sub l hl, q⟩
        · rintro ⟨l, hl, q⟩
          have : l ∈ (strips rem h Fr k).filter (btw h f) := by rw [same]; exact List.mem_filter.mpr ⟨hl, q⟩
          exact ⟨l, (List.mem_filter.mp this).1, q⟩
      simp only
      rw [hA f hf]
      by_cases c : ∃ l ∈ rem, btw h f l = true
      · rw [if_pos c]
        simp only
        rw [← eb]
        refine bond_ok ih hn hF (by simp) (by rw [List.getElem?_append_left (lt_of_getElem? e)]; exact e) (fun l hl => he l (sub l hl)) (fun l hl => hr l (sub l hl)) (ex.mpr c)
      · rw [if_neg c]
        simp only
        have : strip (strips rem h Fr k) h f = strips rem h Fr k := strip_none fun l hl => by
          cases q : btw h f l with
          | false => rfl
          | true => exact absurd ⟨l, sub l hl, q⟩ c
        rw [this]
        exact ih
/-! ### what the bonds' rows tell -/
theorem nbr_eq {L : List Ln} (hL : ∀ l ∈ L, l.1 ≠ l.2.1) (h y : Int) : nbr (dirs L) h y = if (∃ l ∈ L, btw h y l = true) then some (bond L h y) else none := by
  have key : ∀ (L : List Ln), (∀ l ∈ L, l.1 ≠ l.2.1) → ∀ o : Option Int, (dirs L).foldl (fun o t => if h = t.1 ∧ y = t.2.1 then some (o.getD 0 + t.2.2) else o) o = if (∃ l ∈ L, btw h y l = true) then some (o.getD 0 + bond L h y) else o := by
    intro L
    induction L with
    | nil => intro _ o; rw [if_neg (by simp)]; rfl
    | cons l L ih =>
      intro hL o
      have hl := hL l List.mem_cons_self
      have ih := ih fun q hq => hL q (List.mem_cons_of_mem _ hq)
      have e : dirs (l :: L) = [(l.1, l.2.1, l.2.2), (l.2.1, l.1, l.2.2)] ++ dirs L := rfl
      rw [e, List.foldl_append, ih]
      cases q : btw h y l with
      | true =>
        have q' := of_decide_eq_true q
        rw [bond_cons_pos q, if_pos (show ∃ a ∈ l :: L, btw h y a = true from ⟨l, List.mem_cons_self, q⟩)]
        have e2 : List.foldl (fun o t => if h = t.1 ∧ y = t.2.1 then some (o.getD 0 + t.2.2) else o) o [(l.1, l.2.1, l.2.2), (l.2.1, l.1, l.2.2)] = some (o.getD 0 + l.2.2) := by
          rw [List.foldl_cons, List.foldl_cons, List.foldl_nil]
          rcases q' with ⟨a, b⟩ | ⟨a, b⟩
          · rw [if_neg (fun z => hl (by rw [a, b]; have := z.2; have := z.1; simp only at *; omega)), if_pos ⟨a.symm, b.symm⟩]
          · rw [if_pos ⟨b.symm, a.symm⟩, if_neg (fun z => hl (by rw [a, b]; have := z.2; have := z.1; simp only at *; omega))]
        rw [e2]
        split
        · show some (o.getD 0 + l.2.2 + bond L h y) = _
          rw [Int.add_assoc]
        · rename_i c
          have b0 : bond L h y = 0 := by
            unfold bond
            rw [List.filter_eq_nil_iff.mpr fun a ha z => c ⟨a, ha, z⟩]
            rfl
          rw [b0, Int.add_zero]
      | false =>
        have q' := of_decide_eq_false q
        rw [bond_cons_neg q]
        have e2 : List.foldl (fun o t => if h = t.1 ∧ y = t.2.1 then some (o.getD 0 + t.2.2) else o) o [(l.1, l.2.1, l.2.2), (l.2.1, l.1, l.2.2)] = o := by
          rw [List.foldl_cons, List.foldl_cons, List.foldl_nil, if_neg (fun z => q' (.inr ⟨z.2.symm, z.1.symm⟩)), if_neg (fun z => q' (.inl ⟨z.1.symm, z.2.symm⟩))]
        rw [e2]
        have ex : (∃ a ∈ l :: L, btw h y a = true) ↔ ∃ a ∈ L, btw h y a = true := by
          constructor
          · rintro ⟨a, ha, z⟩
            rcases List.mem_cons.mp ha with w | w
            · rw [w, q] at z; cases z
            · exact ⟨a, w, z⟩
          · rintro ⟨a, ha, z⟩
            exact ⟨a, List.mem_cons_of_mem _ ha, z⟩
        by_cases c : ∃ a ∈ L, btw h y a = true
        · rw [if_pos c, if_pos (ex.mpr c)]
        · rw [if_neg c, if_neg (fun z => c (ex.mp z))]
  have := key L hL none
  unfold nbr
  rw [this]
  split
  · show some (0 + bond L h y) = _
    rw [Int.zero_add]
  · rfl
end K36
-- text Ma7
set_option maxRecDepth 100000
namespace K36
/-- the lines and their houses in order -/
structure Net (L : List Ln) (Hs : List Int) : Prop where
  so : Hs.Pairwise (· < ·)
  mem : ∀ x, x ∈ Hs ↔ ∃ l ∈ L, l.1 = x ∨ l.2.1 = x
  ln : ∀ l ∈ L, 0 ≤ l.1 ∧ l.1 < l.2.1 ∧ 0 ≤ l.2.2
def rm (Hs : List Int) (L : List Ln) (k : Nat) : List Ln := L.filter fun l => decide (l.2.1 ∉ Hs.take k)
def later (Hs : List Int) (L : List Ln) (k : Nat) (x : Int) : Bool := (Hs.drop k).any fun y => (nbr (dirs L) x y).isSome
def frt (Hs : List Int) (L : List Ln) (k : Nat) : List Int := (Hs.take k).filter (later Hs L k)
section
variable {L : List Ln} {Hs : List Int}
theorem Net.ne (N : Net L Hs) : ∀ l ∈ L, l.1 ≠ l.2.1 := fun l hl => by have := N.ln l hl; omega
theorem Net.nbr (N : Net L Hs) (x y : Int) : (K36.nbr (dirs L) x y).isSome = true ↔ ∃ l ∈ L, btw x y l = true := by
  rw [nbr_eq N.ne]
  split
  · rename_i h; exact ⟨fun _ => h, fun _ => rfl⟩
  · rename_i h; exact ⟨fun z => (by cases z), fun z => absurd z h⟩
theorem rm_zero : rm Hs L 0 = L := by
  unfold rm
  rw [List.filter_eq_self]
  intro l _
  simp
theorem rm_sub {k : Nat} : ∀ l ∈ rm Hs L k, l ∈ L := fun l hl => (List.mem_filter.mp hl).1
theorem rm_end (N : Net L Hs) : rm Hs L Hs.length = [] := by
  unfold rm
  rw [List.filter_eq_nil_iff]
  intro l hl
  rw [List.take_length]
  simp
  exact (N.mem _).mpr ⟨l, hl, .inr rfl⟩
theorem frt_zero : frt Hs L 0 = [] := rfl
theorem frt_end : frt Hs L Hs.length = [] := by
  unfold frt later
  rw [List.drop_length]
  simp
theorem Net.ends (N : Net L Hs) (k : Nat) : EndsN (rm Hs L k) := fun l hl => by have := N.ln l (rm_sub l hl); omega
theorem Net.rooms (N : Net L Hs) (k : Nat) : ∀ l ∈ rm Hs L k, 0 ≤ l.2.2 := fun l hl => (N.ln l (rm_sub l hl)).2.2
theorem so_lt (N : Net L Hs) {i j : Nat} {x y : Int} (hi : Hs[i]? = some x) (hj : Hs[j]? = some y) : x < y ↔ i < j := by
  obtain ⟨h1, e1⟩ := List.getElem?_eq_some_iff.mp hi
  obtain ⟨h2, e2⟩ := List.getElem?_eq_some_iff.mp hj
  have key := List.pairwise_iff_getElem.mp N.so
  constructor
  · intro h
    by_cases g : i < j
    · exact g
    · exfalso
      by_cases g2 : i = j
      · subst g2
        rw [e1] at e2
        omega
      · have := key j i h2 h1 (by omega)
        omega
  · intro h
    have := key i j h1 h2 h
    omega
theorem Net.nodup (N : Net L Hs) : Hs.Nodup := N.so.imp fun h => Int.ne_of_lt h
theorem mem_take_iff (N : Net L Hs) {i k : Nat} {x : Int} (hi : Hs[i]? = some x) : x ∈ Hs.take k ↔ i < k := by
  constructor
  · intro h
    obtain ⟨j, hj⟩ := List.getElem?_of_mem h
    have hjk := lt_of_getElem? hj
    rw [List.length_take] at hjk
    rw [List.getElem?_take_of_lt (by omega)] at hj
    have h1 : Hs[j]? = Hs[i]? := by rw [hi, hj]
    have := (List.getElem?_inj (lt_of_getElem? hj) N.nodup).mp h1
    omega
  · intro h
    have : (Hs.take k)[i]? = some x := by rw [List.getElem?_take_of_lt h]; exact hi
    exact List.mem_of_getElem? this
theorem mem_drop_iff (N : Net L Hs) {i k : Nat} {x : Int} (hi : Hs[i]? = some x) : x ∈ Hs.drop k ↔ k ≤ i := by
  constructor
  · intro h
    obtain ⟨j, hj⟩ := List.getElem?_of_mem h
    rw [List.getElem?_drop] at hj
    have h1 : Hs[k + j]? = Hs[i]? := by rw [hi, hj]
    have := (List.getElem?_inj (lt_of_getElem? hj) N.nodup).mp h1
    omega
  · intro h
    have : (Hs.drop k)[i - k]? = some x := by rw [List.getElem?_drop, show k + (i - k) = i by omega]; exact hi
    exact List.mem_of_getElem? this
theorem at_mem {x : Int} (h : x ∈ Hs) : ∃ i : Nat, Hs[i]? = some x := List.getElem?_of_mem h
theorem later_iff (N : Net L Hs) {k : Nat} {x : Int} : later Hs L k x = true ↔ ∃ y ∈ Hs.drop k, ∃ l ∈ L, btw x y l = true := by
  unfold later
  rw [List.any_eq_true]
  constructor
  · rintro ⟨y, hy, h⟩
    exact ⟨y, hy, (N.nbr x y).mp h⟩
  · rintro ⟨y, hy, h⟩
    exact ⟨y, hy, (N.nbr x y).mpr h⟩
theorem take_succ_of {k : Nat} {h : Int} (hk : Hs[k]? = some h) : Hs.take (k + 1) = Hs.take k ++ [h] := take_snoc hk
theorem frt_so (N : Net L Hs) {k : Nat} {h : Int} (hk : Hs[k]? = some h) : (frt Hs L k ++ [h]).Pairwise (· < ·) := by
  have h1 : (Hs.take k ++ [h]).Pairwise (· < ·) := by
    rw [← take_snoc hk]
    exact N.so.sublist (List.take_sublist _ _)
  exact h1.sublist (List.Sublist.append_right (List.filter_sublist) _)
theorem frt_next {k : Nat} {h : Int} (N : Net L Hs) (hk : Hs[k]? = some h) : (frt Hs L k ++ [h]).filter (later Hs L (k + 1)) = frt Hs L (k + 1) := by
  unfold frt
  rw [take_snoc hk, List.filter_append, List.filter_append, List.filter_filter]
  congr 1
  refine List.filter_congr fun x _ => ?_
  cases e : later Hs L (k + 1) x with
  | false => simp
  | true =>
    rw [Bool.true_and]
    obtain ⟨y, hy, z⟩ := (later_iff N).mp e
    refine (later_iff N).mpr ⟨y, ?_, z⟩
    obtain ⟨i, hi⟩ := at_mem (List.mem_of_mem_drop hy)
    rw [mem_drop_iff N hi] at hy ⊢
    omega
theorem btw_lt {x y : Int} {l : Ln} (N : Net L Hs) (hl : l ∈ L) (h : btw x y l = true) (hy : y < x) : l.1 = y ∧ l.2.1 = x := by
  have h1 := of_decide_eq_true h
  have h2 := N.ln l hl
  omega
theorem frt_lt (N : Net L Hs) {k : Nat} {h f : Int} (hk : Hs[k]? = some h) (hf : f ∈ frt Hs L k) : f < h := by
  have h1 := frt_so N hk
  rw [List.pairwise_append] at h1
  exact h1.2.2 f hf h (by simp)
theorem rm_btw (N : Net L Hs) {k : Nat} {h f : Int} (hk : Hs[k]? = some h) (hf : f < h) : (rm Hs L k).filter (btw h f) = L.filter (btw h f) := by
  unfold rm
  rw [List.filter_filter]
  refine List.filter_congr fun l hl => ?_
  cases e : btw h f l with
  | false => simp
  | true =>
    have := btw_lt N hl e hf
    rw [Bool.true_and]
    refine decide_eq_true ?_
    rw [this.2, mem_take_iff N hk]
    omega
theorem frt_A (N : Net L Hs) {k : Nat} {h : Int} (hk : Hs[k]? = some h) : ∀ f ∈ frt Hs L k, nbr (dirs L) h f = if (∃ l ∈ rm Hs L k, btw h f l = true) then some (bond (rm Hs L k) h f) else none := by
  intro f hf
  have e := rm_btw N hk (frt_lt N hk hf)
  have eb : bond (rm Hs L k) h f = bond L h f := by unfold bond; rw [e]
  have ex : (∃ l ∈ rm Hs L k, btw h f l = true) ↔ ∃ l ∈ L, btw h f l = true := by
    constructor
    · rintro ⟨l, hl, q⟩
      exact ⟨l, rm_sub l hl, q⟩
    · rintro ⟨l, hl, q⟩
      have : l ∈ (rm Hs L k).filter (btw h f) := by rw [e]; exact List.mem_filter.mpr ⟨hl, q⟩
      exact ⟨l, (List.mem_filter.mp this).1, q⟩
  rw [nbr_eq N.ne, eb]
  by_cases c : ∃ l ∈ L, btw h f l = true
  · rw [if_pos c, if_pos (ex.mpr c)]
  · rw [if_neg c, if_neg (fun z => c (ex.mp z))]
theorem strips_rm (N : Net L Hs) {k : Nat} {h : Int} (hk : Hs[k]? = some h) : strips (rm Hs L k) h (frt Hs L k) (frt Hs L k).length = rm Hs L (k + 1) := by
  rw [strips_eq, List.take_length]
  unfold rm
  rw [List.filter_filter]
  refine List.filter_congr fun l hl => ?_
  obtain ⟨l0, l1, l2⟩ := N.ln l hl
  obtain ⟨i, hi⟩ := at_mem ((N.mem l.2.1).mpr ⟨l, hl, .inr rfl⟩)
  obtain ⟨j, hj⟩ := at_mem ((N.mem l.1).mpr ⟨l, hl, .inl rfl⟩)
  have hij := (so_lt N hj hi).mp l1
  have e1 : decide (l.2.1 ∉ Hs.take k) = decide (k ≤ i) := by rw [decide_eq_decide, mem_take_iff N hi]; omega
  have e2 : decide (l.2.1 ∉ Hs.take (k + 1)) = decide (k + 1 ≤ i) := by rw [decide_eq_decide, mem_take_iff N hi]; omega
  rw [e1, e2]
  by_cases c : i = k
  · subst c
    have eh : l.2.1 = h := by rw [hi] at hk; exact Option.some.inj hk
    have hm : l.1 ∈ frt Hs L i := by
      unfold frt
      rw [List.mem_filter, mem_take_iff N hj]
      refine ⟨hij, (later_iff N).mpr ⟨h, (mem_drop_iff N hk).mpr (Nat.le_refl _), l, hl, ?_⟩⟩
      exact decide_eq_true (.inl ⟨rfl, eh⟩)
    have : ((frt Hs L i).all fun f => !btw h f l) = false := by
      rw [List.all_eq_false]
      refine ⟨l.1, hm, ?_⟩
      have : btw h l.1 l = true := decide_eq_true (.inr ⟨rfl, eh⟩)
      simp [this]
    rw [this]
    simp
  · by_cases g : k ≤ i
    · have : ((frt Hs L k).all fun f => !btw h f l) = true := by
        rw [List.all_eq_true]
        intro f hf
        cases q : btw h f l with
        | false => rfl
        | true =>
          exfalso
          have := btw_lt N hl q (frt_lt N hk hf)
          have e3 : Hs[i]? = Hs[k]? := by rw [hi, hk, this.2]
          have := (List.getElem?_inj (lt_of_getElem? hi) N.nodup).mp e3
          omega
      rw [this]
      simp
      omega
    · have h1 : decide (k ≤ i) = false := decide_eq_false g
      have h2 : decide (k + 1 ≤ i) = false := decide_eq_false (by omega)
      rw [h1, h2]
      simp
theorem left_end (N : Net L Hs) {k : Nat} {near : Int} (hm : near ∈ Hs.take k) (hl : later Hs L k near = false) : ∀ l ∈ rm Hs L k, (0 ≤ l.1 ∧ l.1 ≠ near) ∧ (0 ≤ l.2.1 ∧ l.2.1 ≠ near) := by
  intro l hlr
  have hL := rm_sub l hlr
  obtain ⟨l0, l1, l2⟩ := N.ln l hL
  have h1 := of_decide_eq_true (List.mem_filter.mp hlr).2
  refine ⟨⟨l0, fun e => ?_⟩, ⟨by omega, fun e => h1 (by rw [e]; exact hm)⟩⟩
  have : later Hs L k near = true := (later_iff N).mpr ⟨l.2.1, ?_, l, hL, decide_eq_true (.inl ⟨e, rfl⟩)⟩
  · rw [hl] at this; cases this
  · obtain ⟨i, hi⟩ := at_mem ((N.mem l.2.1).mpr ⟨l, hL, .inr rfl⟩)
    rw [mem_take_iff N hi] at h1
    rw [mem_drop_iff N hi]
    omega
theorem bond_le (N : Net L Hs) {h y : Int} (hne : h ≠ y) : bond L h y ≤ W L id := by
  rw [W_par h y L id, if_neg (show ¬ id h = id y from hne)]
  have h1 : ∀ l ∈ strip L h y, 0 ≤ l.2.2 := fun l hl => (N.ln l (List.mem_filter.mp hl).1).2.2
  have p1 := W_pos (strip L h y) id h1
  have p2 := W_pos (strip L h y) (mrg id h y) h1
  have p3 := bond_nn (L := L) (h := h) (n := y) fun l hl => (N.ln l hl).2.2
  have := Int.mul_le_mul_of_nonneg_left p2 p3
  omega
end
end K36
-- text D9
set_option maxRecDepth 100000
set_option maxHeartbeats 4000000
namespace K36
open PySem PySem.Spec PyProof.Rows L2
theorem tab_end {tot : Int} {N : Nat} {M : Tb} (h : TabOK tot N [] [] M) (ht : 1 ≤ tot) : M = [([], tot)] := by
  have hk : ∀ m ∈ M, m.1 = [] := fun m hm => List.length_eq_zero_iff.mp (h.ks m hm).1
  have hp := h.ph
  match M, h.nd, hk, hp with
  | [], _, _, hp => exfalso; rw [phi_nil] at hp; omega
  | [m], _, hk, hp =>
    rw [phi_cons, phi_nil, W_nil] at hp
    have e : m.1 = [] := hk m (by simp)
    obtain ⟨J, z⟩ := m
    simp only at e hp
    subst e
    have : z = tot := by omega
    rw [this]
  | m :: n :: M, hn, hk, _ =>
    exfalso
    rw [List.map_cons, List.map_cons, List.nodup_cons] at hn
    exact hn.1 (by rw [hk m (by simp), hk n (by simp)]; exact List.mem_cons_self)
theorem NTab.keep {w : World} {H H' : Hp} {d q : Addr} {M : Tb} {xs : List V} (T : NTab w H d M) (hq : H q = some (.lst xs)) (e : ∀ b o, b ≠ q → H b = some o → H' b = some o) : NTab w H' d M := by
  obtain ⟨⟨ys, ep, h1, h2⟩, nd, ln, sm⟩ := T
  exact ⟨⟨ys, ep, e _ _ (ne_of h1 hq fun z => by cases z) h1, nrel_mono h2 fun b zs z => e _ _ (ne_of z hq fun z => by cases z) z⟩, nd, ln, sm⟩
theorem valV_mem {κ : Type} [DecidableEq κ] {kvs : List (κ × V)} {k : κ} {v : V} (h : valV kvs k = some v) : (k, v) ∈ kvs := by
  unfold valV at h
  obtain ⟨a, h1, h2⟩ := Option.map_eq_some_iff.mp h
  have h3 := List.mem_of_find?_eq_some h1
  have h4 := List.find?_some h1
  have h5 : a.1 = k := of_decide_eq_true h4
  rw [← h5, ← h2]
  exact h3
theorem erase_filter {l : List Int} (hn : l.Nodup) {i : Nat} {x : Int} (h : l[i]? = some x) : l.eraseIdx i = l.filter fun y => decide (y ≠ x) := by
  induction l generalizing i with
  | nil => simp at h
  | cons a l ih =>
    rw [List.nodup_cons] at hn
    cases i with
    | zero =>
      have e : a = x := by simpa using h
      subst e
      rw [List.eraseIdx_cons_zero, List.filter_cons_of_neg (by simp)]
      rw [List.filter_eq_self.mpr]
      intro y hy
      exact decide_eq_true fun z => hn.1 (z ▸ hy)
    | succ i =>
      rw [List.getElem?_cons_succ] at h
      have hx := List.mem_of_getElem? h
      rw [List.eraseIdx_cons_succ, ih hn.2 h, List.filter_cons_of_pos]
      exact decide_eq_true fun z => hn.1 (z ▸ hx)
section
variable {P : Program} {w : World} {K : PySem.W.Frag} {mg : PySem.Str → Option Value} {base : Heap}
def spTables (w : World) : L2.Sp := fun vs H Q _ => ∃ (o p e : Addr) (L : List Ln) (Hs : List Int), vs = [.ref o, .ref p, .ref e, .int 0] ∧ H o = some (.lst (iv Hs)) ∧ LTup H p L ∧ H e = some (.tup []) ∧ Net L Hs ∧ L.length ≤ 12 ∧ Hs.length ≤ 30 ∧ (W L id).natAbs < 2 ^ 3000 ∧
  ∀ H' q pre x f d, Same H H' → H' q = some (.lst (pre ++ [.ref x])) → H' x = some (.tup [.ref f, .ref d]) → NTab w H' d [([], W L id)] → Q (.ref q) H'
set_option maxHeartbeats 32000000 in
theorem ok_ctables (T : Tx K mg) : FnOk P w K mg base CX0 4 (T.f 11) (T.fd 11) ["order", "lines", "held", "most"] (spTables w) := by
  refine T.d_ctables.F.ok sc_ctables (fun vs H Q E h => ?_) (fun cdv A outer s H vs Q E hr h => ?_)
  · obtain ⟨o, p, e, L, Hs, rfl, _⟩ := h
    rfl
  · obtain ⟨o, p, e, L, Hs, rfl, ho, hL, he, N, hLl, hHl, hW, q⟩ := h
    have hsl : sizeLine = 16777216 := sizeLine_eq
    refine ⟨_, 
      (pss_cons (ps_set (i := 4) sc_ctables.nd rfl (Or.inl rfl) (pe_call (ok_cbonds T) (hr.mono (by decide)) (by rfl) T.d_cbonds.g T.d_cbonds.k T.d_cbonds.b .nil pass0 (pa_cons (pv 1) pa_nil)))
      (pss_cons (ps_set (i := 5) sc_ctables.nd rfl (Or.inr rfl) (pe_dc (g := gTup K 2 (gCons (gName 9) (gCons (gName 10) gNil))) (own := [("at", 9), ("house", 10)]) rfl sc_ctables.nd (pi_enum (by rfl) T.n_enumerate (pa_cons (pv 0) pa_nil)) (blkOk_by (own := [("at", 9), ("house", 10)]) (N := N_ctables) (sc := defScope s_ctables) (by decide +kernel)) (fun _ _ _ _ _ => (pg_tup rfl (pgs_cons (pg_name (i := 9) sc_ctables.nd rfl (Or.inl rfl)) (pgs_cons (pg_name (i := 10) sc_ctables.nd rfl (Or.inl rfl)) pgs_nil)))) (fun _ _ _ _ _ => pts_nil) (fun _ _ _ _ _ => (pv 10)) (fun _ _ _ _ _ => (pv 9))))
      (pss_cons (ps_set (i := 6) sc_ctables.nd rfl (Or.inl rfl) (pe_lst pa_nil))
      (pss_cons (ps_set (i := 7) sc_ctables.nd rfl (Or.inl rfl) (pe_disN (hu64 hr) (pe_tup (pa_cons (pe_tup pa_nil) (pa_cons pe_int pa_nil))) pe_int))
      (pss_cons (ps_set (i := 8) sc_ctables.nd rfl (Or.inl rfl) (pe_lst (pa_cons (pe_tup (pa_cons (pe_tup pa_nil) (pa_cons (pv 7) pa_nil))) pa_nil)))
      (pss_cons (ps_for PassesOwn.never rfl (pi_enum (by rfl) T.n_enumerate (pa_cons (pv 0) pa_nil)) (pg_tup rfl (pgs_cons (pg_name (i := 9) sc_ctables.nd rfl (Or.inr rfl)) (pgs_cons (pg_name (i := 10) sc_ctables.nd rfl (Or.inl rfl)) pgs_nil))) 
          (pss_cons (ps_asg (pe_call (ok_cwithhouse T) (hr.mono (by decide)) (by rfl) T.d_cwithhouse.g T.d_cwithhouse.k T.d_cwithhouse.b .nil pass0 (pa_cons (pv 6) (pa_cons (pv 7) (pa_cons (pv 10) (pa_cons (pe_dget2 (hu_of hr) (pv 4) (pv 10) pe_dnewK ⟨rfl, rfl, rfl, rfl⟩) pa_nil))))) (pg_tup rfl (pgs_cons (pg_name (i := 6) sc_ctables.nd rfl (Or.inl rfl)) (pgs_cons (pg_name (i := 7) sc_ctables.nd rfl (Or.inl rfl)) pgs_nil))))
          (pss_cons (ps_for PassesOwn.never rfl (pi_list (pe_callTy call_list_of (by rfl) T.n_list (by decide +kernel) (pa_cons (pv 6) pa_nil))) (pg_name (i := 11) sc_ctables.nd rfl (Or.inl rfl)) 
              (pss_cons (ps_lock (ps_setLc (i := 12) (own := [("next_to", 13)]) rfl sc_ctables.nd rfl rfl (sw_true rfl rfl rfl (by decide +kernel)) (pi_keys (pe_dget2 (hu_of hr) (pv 4) (pv 11) pe_dnewK ⟨rfl, rfl, rfl, rfl⟩)) (blkOk_by (own := [("next_to", 13)]) (N := N_ctables) (sc := defScope s_ctables) (by decide +kernel)) (fun _ _ _ _ _ => (pg_name (i := 13) sc_ctables.nd rfl (Or.inl rfl))) (fun _ _ _ _ _ => (pts_one (pt_cmpR op_gt (pe_dget (hu_of hr) (pv 5) (pv 13) (fun _ _ => rfl)) (pv 9) (nomark _)))) (fun _ _ _ _ _ => (pe_dget (hu_of hr) (pv 5) (pv 13) (fun _ _ => rfl)))))
              (pss_one (ps_if (PW.pt (pw_and (pt_not (pt_truth (pv 12) (by intro _; rfl))) (pw_and1 (pt_cmpR op_notIn_seq (pv 11) (pv 2) (by rfl))))) 
                  (pss_one (ps_asg (pe_call (ok_cwithouthouse T) (hr.mono (by decide)) (by rfl) T.d_cwithouthouse.g T.d_cwithouthouse.k T.d_cwithouthouse.b .nil pass0 (pa_cons (pv 6) (pa_cons (pv 7) (pa_cons (pv 11) (pa_cons (pv 3) pa_nil))))) (pg_tup rfl (pgs_cons (pg_name (i := 6) sc_ctables.nd rfl (Or.inl rfl)) (pgs_cons (pg_name (i := 7) sc_ctables.nd rfl (Or.inl rfl)) pgs_nil))))) pss_nil))))
          (pss_one (ps_expr (pe_bm PySem.F.plainAttrs_list PySem.F.slot_list_append PySem.F.type_list_append mt_append (pv 8) (pa_cons (pe_tup (pa_cons (pe_tupleOf (by rfl) T.n_tuple (pv 6)) (pa_cons (pv 7) pa_nil))) pa_nil)))))))
      (pss_one (ps_ret (pv 8))))))))), ?_⟩
    -- bonds
    refine ⟨_, rfl, p, L, rfl, hL, by omega, fun H1 db s1 hB => ?_⟩
    have hbe : ∀ {x y : Int}, (nbr (dirs L) x y).isSome = true → x ∈ Hs ∧ y ∈ Hs := fun {x y} h => by
      obtain ⟨l, hl, b⟩ := (N.nbr x y).mp h
      have b' := of_decide_eq_true b
      exact ⟨(N.mem x).mpr ⟨l, hl, by omega⟩, (N.mem y).mpr ⟨l, hl, by omega⟩⟩
    -- the row of each house
    have hrow : ∃ kb, H1 db = some (.dK kb) ∧ ∀ x ∈ Hs, ∃ r, valV kb (.inl x) = some (.ref r) ∧ RowE H1 r (nbr (dirs L) x) (dirs L).length := by
      obtain ⟨_, kb, h1, h2, h3, h4, h5⟩ := hB
      refine ⟨kb, h1, fun x hx => ?_⟩
      obtain ⟨l, hl, e⟩ := (N.mem x).mp hx
      obtain ⟨r, c1, c2, c3, c4⟩ := h4 x (by
        rcases e with e | e
        · exact ⟨(l.1, l.2.1, l.2.2), List.mem_flatMap.mpr ⟨l, hl, by simp⟩, e⟩
        · exact ⟨(l.2.1, l.1, l.2.2), List.mem_flatMap.mpr ⟨l, hl, by simp⟩, e⟩)
      exact ⟨r, c1, c4⟩
    have hdl : (dirs L).length ≤ 24 := by
      have key : ∀ M : List Ln, (dirs M).length = 2 * M.length := by
        intro M
        induction M with
        | nil => rfl
        | cons m M ih =>
          have e : dirs (m :: M) = [(m.1, m.2.1, m.2.2), (m.2.1, m.1, m.2.2)] ++ dirs M := rfl
          rw [e, List.length_append, ih]
          simp
          omega
      rw [key]; omega
    clear hB
    obtain ⟨kb, hkb, hrows⟩ := hrow
    -- place_of
    refine ⟨_, rfl, o, iv Hs, rfl, SqL.of (s1 _ _ ho), fun Dp hDp => ?_⟩
    refine dc_it (n := (iv Hs).length) walk_enum (fun i H' => Same H1 H' ∧ ∃ kp, H' Dp = some (.dK kp) ∧ kp.length ≤ i ∧ ∀ (j : Nat) y, j < i → Hs[j]? = some y → valV kp (.inl y) = some (.int j)) ⟨same_new hDp, [], upd_same, Nat.le_refl _, fun j y h => by omega⟩ (fun i H' _ z => SqL.of (z.1 _ _ (s1 _ _ ho))) ?_ ?_
    · rintro i x H2 H3 hi ⟨s2, kp, hkp, hl, hv⟩ ⟨t, x1, x2, rfl, ht, rfl, e1, e2⟩
      cases e1
      obtain ⟨z, hz, rfl⟩ := iv_at e2
      have hlt := lt_of_getElem? hz
      refine ⟨t, _, rfl, SqT.of upd_same, rfl, _, _, rfl, _, _, rfl, rfl, rfl, yesT ?_⟩
      refine ⟨_, rfl, _, rfl, kp, .inl z, rfl, same_new ht _ _ hkp, by omega, same_upd hDp (s2.trans (same_new ht)), _, upd_same, ?_, fun j y hj hy => ?_⟩
      · have := length_putK kp (.inl z : Key) (.int i)
        omega
      · rw [valV_put]
        by_cases ej : j = i
        · subst ej
          rw [hz] at hy
          cases hy
          rw [if_pos rfl]
        · have ne : ¬ (Sum.inl y : Key) = Sum.inl z := fun q => by
            have := Sum.inl.inj q
            subst this
            have h1 : Hs[j]? = Hs[i]? := by rw [hy, hz]
            exact ej ((List.getElem?_inj (lt_of_getElem? hy) N.nodup).mp h1)
          rw [if_neg ne]
          exact hv j y (by omega) hy
    rintro H2 ⟨s2, kp, hkp, hkl, hkv⟩
    rw [List.length_map] at hkv
    have hplace : ∀ {i : Nat} {y : Int}, Hs[i]? = some y → valV kp (.inl y) = some (.int i) := fun {i y} h => hkv i y (lt_of_getElem? h) h
    clear hkv
    have hkb2 := s2 _ _ hkb
    have hrows2 : ∀ x ∈ Hs, ∃ r, valV kb (.inl x) = some (.ref r) ∧ r ≠ Dp ∧ RowE H2 r (nbr (dirs L) x) (dirs L).length := fun x hx => by
      obtain ⟨r, c1, ⟨kr, c2, c3⟩⟩ := hrows x hx
      exact ⟨r, c1, ne_of_none c2 hDp, ⟨kr, s2 _ _ c2, c3⟩⟩
    have s02 : Same H H2 := s1.trans s2
    clear hrows hkb
    -- frontier, table, pairs
    refine ⟨by show 0 ≤ sizeLine; decide, fun F0 hF0 => ?_⟩
    intro D0 hD0
    refine ⟨by show 0 ≤ sizeLine; decide, fun e1 he1 => ⟨by show 2 ≤ sizeLine; decide, fun e2 he2 => ?_⟩⟩
    have sa : Same H2 (upd H2 F0 (.lst [])) := same_new hF0
    refine ⟨same_new he2 _ _ (same_new he1 _ _ upd_same), e2, [], 1, rfl, rfl, ⟨e1, upd_same, same_new he2 _ _ upd_same⟩, fun H3 t3 k3 _ => ?_⟩
    have sD : ∀ b o, (upd H2 F0 (.lst [])) b = some o → H3 b = some o := fun b o z =>
      k3 b o (ne_of_none z hD0) (same_new he2 _ _ (same_new he1 _ _ (same_new hD0 _ _ z)))
    have s3 : Same H2 H3 := fun b o z => sD b o (sa b o z)
    have hF3 : H3 F0 = some (.lst (iv [])) := sD _ _ upd_same
    refine ⟨by show 0 ≤ sizeLine; decide, fun e3 he3 => ⟨_, rfl, by show 2 ≤ sizeLine; decide, fun e4 he4 => ⟨by show 1 ≤ sizeLine; decide, fun P0 hP0 => ?_⟩⟩⟩
    have s4 : Same H3 (upd (upd (upd H3 e3 (.tup [])) e4 (.tup [.ref e3, .ref D0])) P0 (.lst [.ref e4])) := ((same_new he3).trans (same_new he4)).trans (same_new hP0)
    have hP4 := upd_same (H := upd (upd H3 e3 (.tup [])) e4 (.tup [.ref e3, .ref D0])) (a := P0) (o := .lst [.ref e4])
    have he4' := same_new (o := .lst [.ref e4]) hP0 _ _ (upd_same (H := upd H3 e3 (.tup [])) (a := e4) (o := .tup [.ref e3, .ref D0]))
    have hP2 : H2 P0 = none := (s3.trans ((same_new he3).trans (same_new he4))).free hP0
    generalize upd (upd (upd H3 e3 (.tup [])) e4 (.tup [.ref e3, .ref D0])) P0 (.lst [.ref e4]) = H4 at s4 hP4 he4'
    have s24 := s3.trans s4
    have t0 : TabOK (W L id) L.length [] (rm Hs L 0) [([], 1)] := by
      refine ⟨by simp, fun m hm => ?_, fun m hm => ?_, ?_, ?_⟩
      · rw [List.mem_singleton] at hm
        subst hm
        exact ⟨rfl, fun i z h => by simp at h⟩
      · rw [List.mem_singleton] at hm
        subst hm
        decide
      · rw [rm_zero]; simp
      · rw [rm_zero, phi_cons, phi_nil]
        have e : labF [] [] = id := by funext x; rfl
        rw [e]
        simp
    -- for at, house in enumerate(order)
    refine ⟨_, rfl, o, iv Hs, rfl, SqL.of (s24 _ _ (s02 _ _ ho)), ?_⟩
    refine for_it (n := (iv Hs).length) walk_enum (fun k σ H' => ∃ (f d x y : Addr) (pre : List V) (M : Tb) (v9 v10 v11 v12 v13 : Option V), σ = [some (.ref o), some (.ref p), some (.ref e), some (.int 0), some (.ref db), some (.ref Dp), some (.ref f), some (.ref d), some (.ref P0), v9, v10, v11, v12, v13] ∧
        Same H2 H' ∧ H' f = some (.lst (iv (frt Hs L k))) ∧ NTab w H' d M ∧ TabOK (W L id) L.length (frt Hs L k) (rm Hs L k) M ∧ H' P0 = some (.lst (pre ++ [.ref x])) ∧ pre.length ≤ k ∧ H' x = some (.tup [.ref y, .ref d]))
      ⟨F0, D0, e4, e3, [], _, none, none, none, none, none, rfl, s24, s4 _ _ hF3, t3.mono s4, t0, hP4, Nat.le_refl _, he4'⟩ (fun i σ H' _ ⟨_, _, _, _, _, _, _, _, _, _, _, _, s5, _⟩ => SqL.of (s5 _ _ (s02 _ _ ho))) ?_ ?_
    · rintro k xx σ H5 H6 hk ⟨f, d, x, y, pre, M, v9, v10, v11, v12, v13, rfl, s5, hf, ht, hM, hP, hpl, hx⟩ ⟨tt, x1, x2, rfl, htt, rfl, e1', e2'⟩
      cases e1'
      obtain ⟨hh, hkh, rfl⟩ := iv_at e2'
      have hkl := lt_of_getElem? hkh
      have hm := List.mem_of_getElem? hkh
      refine ⟨tt, _, rfl, SqT.of upd_same, rfl, _, _, rfl, _, _, rfl, rfl, ?_⟩
      have s6 : Same H5 (upd H5 tt (.tup [.int k, .int hh])) := same_new htt
      generalize upd H5 tt (.tup [.int k, .int hh]) = H6 at s6
      have s26 := s5.trans s6
      -- frontier, table = c_with_house(frontier, table, house, bonds.get(house, {}))
      obtain ⟨rr, hr1, _, hr2⟩ := hrows2 hh hm
      refine ⟨_, rfl, _, rfl, _, rfl, _, rfl, db, rfl, .inl ⟨kb, .of (s26 _ _ hkb2)⟩, _, rfl, fun pe hpe => ?_⟩
      have s7 : Same H6 (upd H6 pe (.dK [])) := same_new hpe
      generalize upd H6 pe (.dK []) = H7 at s7
      have s27 := s26.trans s7
      refine ⟨_, DGet.k (k := Sum.inl hh) (s27 _ _ hkb2), ?_⟩
      rw [hr1]
      have hso := frt_so N hkh
      have hn : (frt Hs L k ++ [hh]).Nodup := hso.imp fun h => Int.ne_of_lt h
      have hnot : hh ∉ frt Hs L k := fun z => by have := frt_lt N hkh z; omega
      have hF0' : ∀ x ∈ frt Hs L k ++ [hh], 0 ≤ x := fun x hx => by
        have : x ∈ Hs := by
          rcases List.mem_append.mp hx with z | z
          · exact List.mem_of_mem_take (List.mem_filter.mp z).1
          · rw [List.mem_singleton] at z; rw [z]; exact hm
        obtain ⟨l, hl, e⟩ := (N.mem x).mp this
        have := N.ln l hl
        omega
      have tE := enter_ok hM hnot (N.ends k)
      have tS := stg_ok tE hn hF0' (N.ends k) (N.rooms k) (frt_A N hkh)
      have fl : (frt Hs L k).length ≤ 30 := by
        unfold frt
        exact Nat.le_trans (List.length_filter_le _ _) (by rw [List.length_take]; omega)
      have pw : 2 ^ L.length ≤ 4096 := Nat.pow_le_pow_right (by decide) hLl
      have sub : ∀ j, ∀ l ∈ strips (rm Hs L k) hh (frt Hs L k) j, 0 ≤ l.2.2 := fun j l hl => by
        rw [strips_eq] at hl
        exact N.rooms k l (List.mem_filter.mp hl).1
      refine ⟨f, d, rr, frt Hs L k, M, hh, nbr (dirs L) hh, rfl, (s6.trans s7) _ _ hf, (ht.mono s6).mono s7, ?_, hso, by omega, fun m hm' => ?_, by have := hM.small; omega, fun j m hm' => ?_, fun j => ?_, fun a b hab => ?_, fun H8 pp f' d' s8 n8 h8p h8f t8 => ?_⟩
      · obtain ⟨⟨kr, c1, c2, _⟩⟩ := hr2
        exact ⟨kr, s27 _ _ c1, c2⟩
      · obtain ⟨g1, g2⟩ := hM.ks m hm'
        exact ⟨g1, fun z hz => by rw [← g1]; exact (vj_lt g2 z hz).2⟩
      · exact Nat.lt_trans ((tS j).wt (sub j) hW m hm') (Nat.pow_lt_pow_right (by decide) (by decide))
      · have := (tS j).small
        omega
      · rw [nbr_eq N.ne] at hab
        split at hab
        · rename_i c
          cases hab
          obtain ⟨l, hl, bt⟩ := c
          have hne : hh ≠ a := fun z => by
            have := of_decide_eq_true bt
            have := N.ne l hl
            omega
          have h1 := bond_le N hne
          have h2 := bond_nn (L := L) (h := hh) (n := a) fun l hl => (N.ln l hl).2.2
          refine Nat.lt_trans (Nat.lt_of_le_of_lt ?_ hW) (Nat.pow_lt_pow_right (by decide) (by decide))
          omega
        · cases hab
      have tF := tS (frt Hs L k).length
      rw [strips_rm N hkh] at tF
      generalize stg (nbr (dirs L) hh) (frt Hs L k).length (entM (frt Hs L k).length M) (frt Hs L k) (frt Hs L k).length = M8 at tF t8
      clear tS tE
      refine ⟨pp, _, rfl, SqT.of h8p, rfl, _, _, rfl, _, _, rfl, rfl, ?_⟩
      have s28 := s27.trans s8
      have hP8 := s8 _ _ (s7 _ _ (s6 _ _ hP))
      have hx8 := s8 _ _ (s7 _ _ (s6 _ _ hx))
      -- for near in list(frontier)
      refine ⟨_, rfl, f', iv (frt Hs L k ++ [hh]), rfl, .inl (SqL.of h8f), fun lc hlc => ⟨lc, rfl, ⟨_, SqL.of upd_same⟩, ?_⟩⟩
      have s9 : Same H8 (upd H8 lc (.lst (iv (frt Hs L k ++ [hh])))) := same_new hlc
      have hlc9 := upd_same (H := H8) (a := lc) (o := .lst (iv (frt Hs L k ++ [hh])))
      generalize upd H8 lc (.lst (iv (frt Hs L k ++ [hh]))) = H9 at s9 hlc9
      have s29 := s28.trans s9
      have hP9 := s9 _ _ hP8
      have hx9 := s9 _ _ hx8
      refine for_it (n := (iv (frt Hs L k ++ [hh])).length) walk_list (fun j σ H' => ∃ (f1 d1 : Addr) (M1 : Tb) (u11 u12 u13 : Option V), σ = [some (.ref o), some (.ref p), some (.ref e), some (.int 0), some (.ref db), some (.ref Dp), some (.ref f1), some (.ref d1), some (.ref P0), some (.int k), some (.int hh), u11, u12, u13] ∧
          Same H9 H' ∧ H' f1 = some (.lst (iv (((frt Hs L k ++ [hh]).take j).filter (later Hs L (k + 1)) ++ (frt Hs L k ++ [hh]).drop j))) ∧ NTab w H' d1 M1 ∧ TabOK (W L id) L.length (((frt Hs L k ++ [hh]).take j).filter (later Hs L (k + 1)) ++ (frt Hs L k ++ [hh]).drop j) (rm Hs L (k + 1)) M1)
        ⟨f', d', M8, v11, v12, v13, rfl, Same.refl _, by rw [List.take_zero]; exact s9 _ _ h8f, t8.mono s9, by rw [List.take_zero]; exact tF⟩ (fun i σ H' _ ⟨_, _, _, _, _, _, _, s10, _⟩ => SqL.of (s10 _ _ hlc9)) ?_ ?_
      · rintro j xx σ Ha Hb hj ⟨f1, d1, M1, u11, u12, u13, rfl, sA, hf1, t1, tM1⟩ ⟨rfl, hxj⟩
        obtain ⟨near, hnear, rfl⟩ := iv_at hxj
        have hjl := lt_of_getElem? hnear
        have hnm : near ∈ Hs.take (k + 1) := by
          rw [take_snoc hkh]
          rcases List.mem_append.mp (List.mem_of_getElem? hnear) with z | z
          · exact List.mem_append_left _ (List.mem_filter.mp z).1
          · exact List.mem_append_right _ z
        have hnH : near ∈ Hs := List.mem_of_mem_take hnm
        obtain ⟨rn, hn1, hnp, ⟨kr, hn2, hn3, hn4, hn5⟩⟩ := hrows2 near hnH
        have s2a := s29.trans sA
        -- later = [..]
        refine ⟨rn, .dK kr, s2a _ _ hn2, trivial, fun od => ?_⟩
        have hLk : ∀ b o, b ≠ rn → Hb b = some o → (upd Hb rn (.frz od (.dK kr))) b = some o := fun b o hb z => by rw [upd_ne hb]; exact z
        have hfr : (upd Hb rn (.frz od (.dK kr))) rn = some (.frz od (.dK kr)) := upd_same
        have hback : ∀ {Hz : Hp}, (∀ b o, b ≠ rn → Hb b = some o → Hz b = some o) → Same Hb (upd Hz rn (.dK kr)) := fun {Hz} k b o z => by
          by_cases hb : b = rn
          · rw [hb, upd_same, ← z, hb]
            exact (s2a _ _ hn2).symm
          · rw [upd_ne hb]; exact k b o hb z
        generalize upd Hb rn (.frz od (.dK kr)) = Hc at hLk hfr
        have dbn : db ≠ rn := fun z => by
          have h1 := hn2
          rw [← z, hkb2] at h1
          have h2 := Option.some.inj h1
          have h3 : kb = kr := by cases h2; rfl
          rw [← h3] at hn5
          have hin := valV_mem hn1
          obtain ⟨k0, z0, e0, _⟩ := hn5 _ hin
          cases e0
        have hn1c := hLk _ _ dbn (s2a _ _ hkb2)
        refine ⟨_, rfl, db, rfl, .inl ⟨kb, .of hn1c⟩, _, rfl, fun pz hpz => ?_⟩
        have sz : Same Hc (upd Hc pz (.dK [])) := same_new hpz
        generalize upd Hc pz (.dK []) = Hd at sz
        refine ⟨_, DGet.k (k := Sum.inl near) (sz _ _ hn1c), rn, od, by rw [hn1]; rfl, .inl ⟨kr, sz _ _ hfr, fun D hD => ?_⟩⟩
        have hLd : ∀ b o, b ≠ rn → Hb b = some o → Hd b = some o := fun b o hb z => sz _ _ (hLk b o hb z)
        have hfrd := sz _ _ hfr
        refine lc_it (n := kr.length) walk_keys (fun i H' => Same Hd H' ∧ ∃ acc, H' D = some (.lst acc) ∧ acc.length ≤ i ∧ (acc = [] ↔ ∀ (m : Nat) kk z, m < i → kr[m]? = some (.inl kk, .int z) → ∀ ix : Nat, Hs[ix]? = some kk → ¬ k < ix))
          ⟨same_new hD, [], upd_same, Nat.le_refl _, ⟨fun _ m kk z h => by omega, fun _ => rfl⟩⟩ (fun i H' _ z => z.1 _ _ hfrd) ?_ ?_
        · rintro i xx Hf Hg hi ⟨sf, acc, hacc, hal, hai⟩ ⟨rfl, kx, vx, hkx, rfl⟩
          obtain ⟨kk, z, e0, hs⟩ := hn5 _ (List.mem_of_getElem? hkx)
          cases e0
          obtain ⟨ix, hix⟩ := at_mem (hbe hs).2
          have hg : DGet Hg Dp (.int kk) (some (.int ix)) := by
            have h1 := sf _ _ (hLd Dp _ hnp.symm (s2a _ _ hkp))
            have g := DGet.k (k := Sum.inl kk) h1
            rw [hplace hix] at g
            exact g
          refine ⟨rfl, ?_⟩
          refine ⟨_, rfl, _, rfl, Dp, .int ix, rfl, hg, _, rfl, _, _, rfl, rfl, _, rfl, ?_⟩
          have step : ∀ (c : Prop), (c ↔ acc = [] ∧ ¬ k < ix) → (c ↔ ∀ (m : Nat) kk z, m < i + 1 → kr[m]? = some (.inl kk, .int z) → ∀ ix : Nat, Hs[ix]? = some kk → ¬ k < ix) := by
            intro c hc
            rw [hc, hai]
            constructor
            · rintro ⟨h1, h2⟩ m kk' z' hm' hmk jx hjx
              by_cases em : m = i
              · subst em
                rw [hkx] at hmk
                cases hmk
                have h3 : Hs[jx]? = Hs[ix]? := by rw [hjx, hix]
                have := (List.getElem?_inj (lt_of_getElem? hjx) N.nodup).mp h3
                omega
              · exact h1 m kk' z' (by omega) hmk jx hjx
            · intro h1
              exact ⟨fun m kk' z' hm' => h1 m kk' z' (by omega), h1 i kk z (by omega) hkx ix hix⟩
          refine ite2 (fun hc => ?_) fun hc => ?_
          · have hgt : (ix : Int) > (k : Int) := of_decide_eq_true hc
            refine ⟨_, rfl, _, rfl, Dp, .int ix, rfl, hg, acc, hacc, by omega, same_upd hD sf, _, upd_same, by simp; omega, step _ ?_⟩
            constructor
            · intro h1; simp at h1
            · intro h1; exact absurd (by omega) h1.2
          · have hgt : ¬ (ix : Int) > (k : Int) := fun z => hc (decide_eq_true z)
            refine ⟨sf, acc, hacc, by omega, step _ ?_⟩
            constructor
            · intro h1; exact ⟨h1, by omega⟩
            · intro h1; exact h1.1
        · rintro Hf ⟨sf, acc, hacc, hal, hai⟩
          have hDrn : D ≠ rn := fun z => by rw [z, hfrd] at hD; cases hD
          refine ⟨sf _ _ hfrd, ?_⟩
          have sB : Same Hb (upd Hf rn (.dK kr)) := hback fun b o hb z => sf _ _ (hLd b o hb z)
          have hacc' : (upd Hf rn (.dK kr)) D = some (.lst acc) := by rw [upd_ne hDrn]; exact hacc
          generalize upd Hf rn (.dK kr) = Hi at sB hacc'
          -- is there a later one
          have hlat : acc = [] ↔ later Hs L (k + 1) near = false := by
            rw [hai]
            constructor
            · intro h1
              cases el : later Hs L (k + 1) near with
              | false => rfl
              | true =>
                exfalso
                obtain ⟨y, hy, l, hl, bt⟩ := (later_iff N).mp el
                have hs := (N.nbr near y).mpr ⟨l, hl, bt⟩
                obtain ⟨ix, hix⟩ := at_mem (List.mem_of_mem_drop hy)
                rw [mem_drop_iff N hix] at hy
                have hv := hn3 y
                obtain ⟨b, hb⟩ := Option.isSome_iff_exists.mp hs
                rw [hb] at hv
                obtain ⟨m, hm'⟩ := List.getElem?_of_mem (valV_mem hv)
                exact h1 m y b (lt_of_getElem? hm') hm' ix hix (by omega)
            · intro h1 m kk z hm' hmk ix hix hlt
              obtain ⟨kk', z', e0, hs⟩ := hn5 _ (List.mem_of_getElem? hmk)
              cases e0
              obtain ⟨l, hl, bt⟩ := (N.nbr near kk).mp hs
              have : later Hs L (k + 1) near = true := (later_iff N).mpr ⟨kk, (mem_drop_iff N hix).mpr (by omega), l, hl, bt⟩
              rw [h1] at this
              cases this
          have edrop := drop_at hnear
          have etake := take_snoc hnear
          refine ⟨_, rfl, _, .inl ⟨acc, SqL.of hacc', rfl⟩, ?_⟩
          cases acc with
          | cons a0 acc =>
            have hlt : later Hs L (k + 1) near = true := by
              cases el : later Hs L (k + 1) near with
              | true => rfl
              | false => exact absurd (hlat.mpr el) (by simp)
            refine iteF (iteF ?_)
            have eF : ((frt Hs L k ++ [hh]).take (j + 1)).filter (later Hs L (k + 1)) ++ (frt Hs L k ++ [hh]).drop (j + 1) = ((frt Hs L k ++ [hh]).take j).filter (later Hs L (k + 1)) ++ (frt Hs L k ++ [hh]).drop j := by
              rw [edrop, etake, List.filter_append, List.filter_cons_of_pos hlt]
              simp
            refine ⟨f1, d1, M1, _, _, _, rfl, sA.trans sB, ?_, t1.mono sB, ?_⟩
            · rw [eF]; exact sB _ _ hf1
            · rw [eF]; exact tM1
          | nil =>
            have hlf := hlat.mp rfl
            refine iteT ⟨_, rfl, _, rfl, e, _, rfl, .inr (SqT.of (sB _ _ (s2a _ _ (s02 _ _ he)))), rfl, rfl, _, rfl, iteT ?_⟩
            have hFn : (((frt Hs L k ++ [hh]).take j).filter (later Hs L (k + 1)) ++ (frt Hs L k ++ [hh]).drop j).Pairwise (· < ·) := by
              have h1 := hso
              rw [← List.take_append_drop j (frt Hs L k ++ [hh])] at h1
              exact h1.sublist (List.Sublist.append_right (List.filter_sublist) _)
            have hat : (((frt Hs L k ++ [hh]).take j).filter (later Hs L (k + 1)) ++ (frt Hs L k ++ [hh]).drop j)[(((frt Hs L k ++ [hh]).take j).filter (later Hs L (k + 1))).length]? = some near := by
              rw [List.getElem?_append_right (Nat.le_refl _), Nat.sub_self, edrop]
              rfl
            have hnd := hFn.imp (S := (· ≠ ·)) fun h => Int.ne_of_lt h
            have tL := left_ok tM1 hnd hat (left_end N hnm hlf)
            have eF : (((frt Hs L k ++ [hh]).take j).filter (later Hs L (k + 1)) ++ (frt Hs L k ++ [hh]).drop j).eraseIdx (((frt Hs L k ++ [hh]).take j).filter (later Hs L (k + 1))).length = ((frt Hs L k ++ [hh]).take (j + 1)).filter (later Hs L (k + 1)) ++ (frt Hs L k ++ [hh]).drop (j + 1) := by
              rw [edrop, etake, List.filter_append, List.filter_cons_of_neg (by rw [hlf]; decide), List.eraseIdx_append_of_length_le (Nat.le_refl _), Nat.sub_self, List.eraseIdx_cons_zero]
              simp
            have eG := erase_filter hnd hat
            have lF : (((frt Hs L k ++ [hh]).take j).filter (later Hs L (k + 1)) ++ (frt Hs L k ++ [hh]).drop j).length ≤ 31 := by
              have l1 := List.length_filter_le (later Hs L (k + 1)) ((frt Hs L k ++ [hh]).take j)
              rw [List.length_append, List.length_drop]
              rw [List.length_take] at l1
              rw [List.length_append, List.length_singleton] at *
              omega
            refine ⟨_, rfl, _, rfl, _, rfl, _, rfl, f1, d1, _, M1, near, _, rfl, sB _ _ hf1, t1.mono sB, hFn, by omega, hat, fun m hm' => ?_, by have := tM1.small; omega, fun H8 p8 f8 d8 s8 n8 h8p h8f t8 => ?_⟩
            · have := (tM1.ks m hm').1
              omega
            · refine ⟨p8, _, rfl, SqT.of h8p, rfl, _, _, rfl, _, _, rfl, rfl, ?_⟩
              refine ⟨f8, d8, _, _, _, _, rfl, (sA.trans sB).trans s8, ?_, t8, ?_⟩
              · rw [← eF, eG]; exact h8f
              · rw [← eF]; exact tL
      · rintro σ Ha ⟨f1, d1, M1, u11, u12, u13, rfl, sA, hf1, t1, tM1⟩
        rw [List.length_map, List.take_length, List.drop_length, List.append_nil, frt_next N hkh] at hf1 tM1
        -- pairs.append((tuple(frontier), table))
        have hPa := sA _ _ hP9
        refine ⟨_, rfl, .inl ⟨rfl, _, Or.inl (Or.inl hPa)⟩, _, rfl, .inl ⟨f1, _, rfl, SqL.of hf1, fun tq htq => ⟨_, rfl, by show 2 ≤ sizeLine; decide, fun tr htr => ?_⟩⟩⟩
        have sq : Same Ha (upd (upd Ha tq (.tup (iv (frt Hs L (k + 1))))) tr (.tup [.ref tq, .ref d1])) := (same_new htq).trans (same_new htr)
        have htr' := upd_same (H := upd Ha tq (.tup (iv (frt Hs L (k + 1))))) (a := tr) (o := .tup [.ref tq, .ref d1])
        generalize upd (upd Ha tq (.tup (iv (frt Hs L (k + 1))))) tr (.tup [.ref tq, .ref d1]) = Hr at sq htr'
        have hPr := sq _ _ hPa
        refine ⟨P0, _, _, rfl, rfl, hPr, small_line (by simp; omega), ?_⟩
        have up : ∀ b o, b ≠ P0 → Hr b = some o → (upd Hr P0 (.lst (pre ++ [.ref x] ++ [.ref tr]))) b = some o := fun b o hb z => by rw [upd_ne hb]; exact z
        have sr : Same H2 Hr := (s29.trans sA).trans sq
        refine ⟨f1, d1, tr, tq, pre ++ [.ref x], M1, _, _, _, _, _, rfl, fun b o z => up b o (ne_of_none z hP2) (sr b o z), ?_, (t1.mono sq).keep hPr up, tM1, upd_same, by simp; omega, ?_⟩
        · refine up _ _ (ne_of (sq _ _ hf1) hPr fun z => ?_) (sq _ _ hf1)
          have z' := HO.lst.inj z
          have hm1 : V.ref x ∈ iv (frt Hs L (k + 1)) := by rw [z']; simp
          obtain ⟨_, _, e9⟩ := List.mem_map.mp hm1
          cases e9
        · exact up _ _ (ne_of htr' hPr fun z => by cases z) htr'
    · rintro σ Ha ⟨f, d, x, y, pre, M, v9, v10, v11, v12, v13, rfl, s5, hf, ht, hM, hP, hpl, hx⟩
      rw [List.length_map, frt_end, rm_end N] at hM
      have e := tab_end hM (W_pos L id fun l hl => (N.ln l hl).2.2)
      subst e
      exact ⟨_, rfl, q _ P0 pre x y d (s02.trans s5) hP hx ht⟩
end
end K36
-- text D10
set_option maxRecDepth 100000
set_option maxHeartbeats 4000000
namespace K36
open PySem PySem.Spec PyProof.Rows L2
section
variable {P : Program} {w : World} {K : PySem.W.Frag} {mg : PySem.Str → Option Value} {base : Heap}
def spLast (w : World) : L2.Sp := fun vs H Q _ => ∃ (o p e : Addr) (L : List Ln) (Hs : List Int), vs = [.ref o, .ref p, .ref e, .int 0] ∧ H o = some (.lst (iv Hs)) ∧ LTup H p L ∧ H e = some (.tup []) ∧ Net L Hs ∧ L.length ≤ 12 ∧ Hs.length ≤ 30 ∧ (W L id).natAbs < 2 ^ 3000 ∧
  ∀ H' d, Same H H' → NTab w H' d [([], W L id)] → Q (.ref d) H'
theorem ok_clasttable (T : Tx K mg) : FnOk P w K mg base CX0 5 (T.f 12) (T.fd 12) ["order", "lines", "held", "most"] (spLast w) := by
  refine T.d_clasttable.F.ok sc_clasttable (fun vs H Q E h => ?_) (fun cdv A outer s H vs Q E hr h => ?_)
  · obtain ⟨o, p, e, L, Hs, rfl, _⟩ := h
    rfl
  · obtain ⟨o, p, e, L, Hs, rfl, ho, hL, he, N, hLl, hHl, hW, q⟩ := h
    refine ⟨_, 
      (pss_one (ps_ret (pe_ix ix_tup (pe_ix ix_list (pe_call (ok_ctables T) (hr.mono (by decide)) (by rfl) T.d_ctables.g T.d_ctables.k T.d_ctables.b .nil pass0 (pa_cons (pv 0) (pa_cons (pv 1) (pa_cons (pv 2) (pa_cons (pv 3) pa_nil))))) (pe_un un_neg pe_int) (fun _ _ => rfl)) pe_int (fun _ _ => rfl)))), ?_⟩
    refine ⟨_, rfl, _, rfl, _, rfl, _, rfl, o, p, e, L, Hs, rfl, ho, hL, he, N, hLl, hHl, hW, fun H' q1 pre x f d s1 h1 h2 h3 => ?_⟩
    exact ⟨_, rfl, q1, _, _, _, rfl, rfl, SqL.of h1, atI_last _ _, x, _, _, _, rfl, rfl, SqT.of h2, at_of (j := 1) rfl rfl, q H' d s1 h3⟩
def spWeight : L2.Sp := fun vs H Q _ => ∃ (p : Addr) (L : List Ln), vs = [.ref p] ∧ LTup H p L ∧ (∀ l ∈ L, 0 ≤ l.1 ∧ l.1 < l.2.1 ∧ 0 ≤ l.2.2) ∧ L.length ≤ 12 ∧ (W L id).natAbs < 2 ^ 3000 ∧ ∀ H', Same H H' → Q (.int (W L id)) H'
set_option maxHeartbeats 16000000 in
theorem ok_cweightof (T : Tx K mg) : FnOk P w K mg base CX0 6 (T.f 13) (T.fd 13) ["lines"] spWeight := by
  refine T.d_cweightof.F.ok sc_cweightof (fun vs H Q E h => ?_) (fun cdv A outer s H vs Q E hr h => ?_)
  · obtain ⟨p, L, rfl, _⟩ := h
    rfl
  · obtain ⟨p, L, rfl, hL0, hln, hLl, hW, q⟩ := h
    obtain ⟨qs, hp, hL⟩ := id hL0
    have hqn : qs.length = L.length := (Paired.length hL).symm
    refine ⟨_, 
      (pss_cons (ps_set (i := 1) sc_cweightof.nd rfl (Or.inl rfl) (pe_callB (cr_sortedSet rfl) (by rfl) T.n_sorted (by decide +kernel) (pa_cons (pe_sc2 (wi1 := iTup K (tSl (rSlA K) (tVar 2) tNoPart (tPart (tC (.int 2))))) (own := [("line", 2), ("house", 3)]) (vs1 := [3]) rfl sc_cweightof.nd (pi_tup (pv 0)) (blkOk_by (own := [("line", 2), ("house", 3)]) (N := N_cweightof) (sc := defScope s_cweightof) (by decide +kernel)) (by decide) (fun _ _ _ _ _ => (pg_name (i := 2) sc_cweightof.nd rfl (Or.inl rfl))) (fun _ _ _ _ _ => (pi_tup (pe_slice sl_tupA (pv 2) po_none (po_some pe_int)))) (fun _ _ _ _ _ => (pg_name (i := 3) sc_cweightof.nd rfl (Or.inl rfl))) (fun _ _ _ _ _ => (pv 3))) pa_nil)))
      (pss_one (ps_ret (pe_nget (hu64 hr) (pe_call (ok_clasttable T) (hr.mono (by decide)) (by rfl) T.d_clasttable.g T.d_clasttable.k T.d_clasttable.b .nil pass0 (pa_cons (pv 1) (pa_cons (pv 0) (pa_cons (pe_tup pa_nil) (pa_cons pe_int pa_nil))))) (pe_tup (pa_cons (pe_tup pa_nil) (pa_cons pe_int pa_nil))) (fun _ _ => rfl))))), ?_⟩
    refine ⟨_, rfl, p, rfl, ⟨_, SqT.of hp⟩, fun D hD hDs => ?_⟩
    refine ⟨fun i m H' => m = L.length - i ∧ i ≤ L.length ∧ Same H H' ∧ ∃ S n, H' D = some (SetO w D S n) ∧ n ≤ 2 * i ∧ ∀ z, S z = true ↔ ∃ l ∈ L.take i, l.1 = z ∨ l.2.1 = z, ⟨L.length, by simp, Nat.zero_le _, same_new hD, _, 0, upd_same, Nat.le_refl _, fun z => by simp⟩, ?_⟩
    rintro i m H1 ⟨rfl, hi, s1, S, n, hS, hn, hz⟩
    have hp1 := s1 _ _ hp
    by_cases hlt : i < L.length
    · refine .inr ⟨walk_tup.goes i H1 (by rw [List.length_map, hqn]; exact hlt) (SqT.of hp1), fun H' => Same H H' ∧ ∃ S n, H' D = some (SetO w D S n) ∧ n ≤ 2 * (i + 1) ∧ ∀ z, S z = true ↔ ∃ l ∈ L.take (i + 1), l.1 = z ∨ l.2.1 = z, fun H' z => ⟨L.length - (i + 1), by omega, rfl, hlt, z⟩, fun x H2 y => ?_⟩
      obtain ⟨rfl, hx⟩ := (walk_tup (K := K) (a := p) (xs := qs.map V.ref)).yields i H1 x H2 (by rw [List.length_map, hqn]; exact hlt) (SqT.of hp1) y
      rw [List.getElem?_map] at hx
      obtain ⟨t, ht, rfl⟩ := Option.map_eq_some_iff.mp hx
      obtain ⟨⟨a, b, r⟩, hl, hat⟩ := pr_at hL ht
      have hat2 := s1 _ _ hat
      refine ⟨rfl, _, rfl, _, rfl, t, _, rfl, SqT.of hat2, fun z => ?_, fun _ tp htp => ⟨tp, rfl, ⟨_, SqT.of upd_same⟩, ?_⟩⟩
      · exact absurd z.2 (by show ¬ (2 : Nat) = 3; decide)
      have hcut : cutV [V.int a, .int b, .int r] none (some 2) = [.int a, .int b] := rfl
      have hS3 := same_new (o := .tup (cutV [V.int a, .int b, .int r] none (some 2))) htp _ _ hS
      have s3 : Same H (upd H2 tp (.tup (cutV [V.int a, .int b, .int r] none (some 2)))) := s1.trans (same_new htp)
      have htp3 := upd_same (H := H2) (a := tp) (o := .tup (cutV [V.int a, .int b, .int r] none (some 2)))
      generalize upd H2 tp (.tup (cutV [V.int a, .int b, .int r] none (some 2))) = H3 at s3 hS3 htp3
      rw [hcut] at htp3
      refine ⟨fun j k H' => k = 2 - j ∧ j ≤ 2 ∧ Same H H' ∧ H' tp = some (.tup [.int a, .int b]) ∧ ∃ S n, H' D = some (SetO w D S n) ∧ n ≤ 2 * i + j ∧ ∀ z, S z = true ↔ ((∃ l ∈ L.take i, l.1 = z ∨ l.2.1 = z) ∨ z ∈ [a, b].take j),
        ⟨2, rfl, Nat.zero_le _, s3, htp3, S, n, hS3, hn, fun z => by rw [hz z]; simp⟩, ?_⟩
      rintro j k H4 ⟨rfl, hj, s4, htp4, S4, n4, hS4, hn4, hz4⟩
      by_cases hj2 : j < 2
      · refine .inr ⟨walk_tup.goes j H4 (by show j < 2; exact hj2) (SqT.of htp4), fun H' => Same H H' ∧ H' tp = some (.tup [.int a, .int b]) ∧ ∃ S n, H' D = some (SetO w D S n) ∧ n ≤ 2 * i + (j + 1) ∧ ∀ z, S z = true ↔ ((∃ l ∈ L.take i, l.1 = z ∨ l.2.1 = z) ∨ z ∈ [a, b].take (j + 1)),
          fun H' z => ⟨2 - (j + 1), by omega, rfl, hj2, z⟩, fun x H5 y => ?_⟩
        obtain ⟨rfl, hx⟩ := (walk_tup (K := K) (a := tp) (xs := [.int a, .int b])).yields j H4 x H5 (by show j < 2; exact hj2) (SqT.of htp4) y
        obtain ⟨c, rfl, hc⟩ : ∃ c, x = .int c ∧ [a, b].take (j + 1) = [a, b].take j ++ [c] := by
          match j, hx with
          | 0, hx => exact ⟨a, (Option.some.inj hx).symm, rfl⟩
          | 1, hx => exact ⟨b, (Option.some.inj hx).symm, rfl⟩
        refine ⟨rfl, _, rfl, c, S4, n4, rfl, hS4, by unfold scanBound; omega, same_upd hD s4, ?_, _, _, upd_same, by split <;> omega, fun z => ?_⟩
        · rw [upd_ne (ne_of htp4 hS4 fun z => by cases z)]; exact htp4
        · rw [Bool.or_eq_true, hz4 z, hc, List.mem_append, List.mem_singleton, decide_eq_true_iff]
          exact or_assoc
      · obtain rfl : j = 2 := by omega
        refine .inl ⟨(walk_tup (K := K) (a := tp) (xs := [.int a, .int b])).stops H4 (SqT.of htp4), s4, S4, n4, hS4, by omega, fun z => ?_⟩
        rw [hz4 z, take_snoc hl]
        constructor
        · rintro (⟨l, h1, h2⟩ | h1)
          · exact ⟨l, List.mem_append_left _ h1, h2⟩
          · refine ⟨(a, b, r), List.mem_append_right _ (by simp), ?_⟩
            have h2 : z ∈ [a, b] := h1
            simp at h2
            rcases h2 with h2 | h2
            · exact .inl h2.symm
            · exact .inr h2.symm
        · rintro ⟨l, h1, h2⟩
          rcases List.mem_append.mp h1 with h1 | h1
          · exact .inl ⟨l, h1, h2⟩
          · rw [List.mem_singleton] at h1
            subst h1
            right
            show z ∈ [a, b]
            simp
            rcases h2 with h2 | h2
            · exact .inl h2.symm
            · exact .inr h2.symm
    · obtain rfl : i = L.length := by omega
      rw [List.take_length] at hz
      have st := (walk_tup (K := K) (a := p) (xs := qs.map V.ref)).stops H1 (SqT.of hp1)
      rw [List.length_map, hqn] at st
      refine .inl ⟨st, D, S, n, rfl, hS, by omega, fun Hs o hso hmem hlen ho => ?_⟩
      have s2 : Same H1 (upd H1 o (.lst (Hs.map V.int))) := same_new ho
      have N : Net L Hs := ⟨hso, fun z => (hmem z).trans (hz z), hln⟩
      refine ⟨_, rfl, _, rfl, by show 0 ≤ sizeLine; decide, fun e he => ?_⟩
      have s3 : Same (upd H1 o (.lst (Hs.map V.int))) (upd (upd H1 o (.lst (Hs.map V.int))) e (.tup [])) := same_new he
      refine ⟨o, p, e, L, Hs, rfl, s3 _ _ upd_same, hL0.mono ((s1.trans s2).trans s3), upd_same, N, hLl, by omega, hW, fun H6 d s6 t6 => ?_⟩
      refine ⟨by show 0 ≤ sizeLine; decide, fun e1 he1 => ⟨by show 2 ≤ sizeLine; decide, fun e2 he2 => ?_⟩⟩
      have s7 : Same H6 (upd (upd H6 e1 (.tup [])) e2 (.tup [.ref e1, .int 0])) := (same_new he1).trans (same_new he2)
      refine ⟨d, e2, _, [], W L id, rfl, rfl, t6.mono s7, ⟨e1, upd_same, same_new he2 _ _ upd_same⟩, rfl, q _ ?_⟩
      exact (((s1.trans s2).trans s3).trans s6).trans s7
def spForest : L2.Sp := fun vs H Q _ => ∃ (p : Addr) (n : Int) (L : List Ln), vs = [.ref p] ∧ Web H p n L ∧ (∀ l ∈ L, 0 ≤ l.1 ∧ l.1 < l.2.1 ∧ 0 ≤ l.2.2) ∧ L.length ≤ 12 ∧ (W L id).natAbs < 2 ^ 3000 ∧ ∀ H', Same H H' → Q (.int (W L id)) H'
theorem ok_forestweight (T : Tx K mg) : FnOk P w K mg base CX0 7 (T.f 14) (T.fd 14) ["web"] spForest := by
  refine T.d_forestweight.F.ok sc_forestweight (fun vs H Q E h => ?_) (fun cdv A outer s H vs Q E hr h => ?_)
  · obtain ⟨p, n, L, rfl, _⟩ := h
    rfl
  · obtain ⟨p, n, L, rfl, ⟨q0, hw, hL⟩, hln, hLl, hW, q⟩ := h
    refine ⟨_, 
      (pss_one (ps_ret (pe_call (ok_cweightof T) (hr.mono (by decide)) (by rfl) T.d_cweightof.g T.d_cweightof.k T.d_cweightof.b .nil pass0 (pa_cons (pe_ix ix_tup (pv 0) pe_int (fun _ _ => rfl)) pa_nil)))), ?_⟩
    exact ⟨_, rfl, p, _, _, _, rfl, rfl, SqT.of hw, at_of (j := 1) rfl rfl, q0, L, rfl, hL, hln, hLl, hW, q⟩
end
end K36
-- text Ma8
set_option maxRecDepth 100000
namespace K36
/-! ### new numbers for the houses -/
theorem W_mono : ∀ (L : List Ln) (f g : Int → Int), (∀ l ∈ L, 0 ≤ l.2.2) → (∀ x y, f x = f y → g x = g y) → W L g ≤ W L f
  | [], f, g, _, _ => Int.le_refl _
  | l :: L, f, g, h, hk => by
    rw [W_cons, W_cons]
    have hL : ∀ l ∈ L, 0 ≤ l.2.2 := fun q hq => h q (List.mem_cons_of_mem _ hq)
    have h1 := W_mono L f g hL hk
    have h3 := h l List.mem_cons_self
    by_cases c : f l.1 = f l.2.1
    · rw [if_pos c, if_pos (hk _ _ c)]; omega
    · rw [if_neg c]
      have h2 := W_mono L (mrg f l.1 l.2.1) (mrg g l.1 l.2.1) hL fun x y e => by
        rw [mrg_eq] at e ⊢
        rcases e with e | ⟨e, e'⟩ | ⟨e, e'⟩
        · exact .inl (hk _ _ e)
        · exact .inr (.inl ⟨hk _ _ e, hk _ _ e'⟩)
        · exact .inr (.inr ⟨hk _ _ e, hk _ _ e'⟩)
      have p := W_pos L (mrg f l.1 l.2.1) hL
      by_cases d : g l.1 = g l.2.1
      · rw [if_pos d]
        have := Int.mul_nonneg h3 (show 0 ≤ W L (mrg f l.1 l.2.1) by omega)
        omega
      · rw [if_neg d]
        have := Int.mul_le_mul_of_nonneg_left h2 h3
        omega
theorem nbL_gt' {n lo hi : Nat} {x : Int} (h0 : 0 ≤ x) (h1 : x < n) : gt (nbL n lo hi) x = nb lo hi x := by
  have e : x = ((x.toNat : Nat) : Int) := by omega
  rw [e]
  exact nbL_gt (by omega)
theorem renum_W {n lo hi : Nat} {L : List Ln} (h : InR n L) (f : Int → Int) : W (renum (nbL n lo hi) L) f = W L fun x => f (nb lo hi x) := by
  refine W_relabel (nb lo hi) L _ f ?_
  induction L with
  | nil => rfl
  | cons l L ih =>
    obtain ⟨a0, a1, b0, b1⟩ := h l List.mem_cons_self
    have ih := ih fun q hq => h q (List.mem_cons_of_mem _ hq)
    unfold renum at ih ⊢
    rw [List.filterMap_cons, nbL_gt' a0 a1, nbL_gt' b0 b1]
    by_cases c : nb lo hi l.1 = nb lo hi l.2.1
    · rw [if_pos c, List.filter_cons_of_neg (by simp [c])]
      exact ih
    · rw [if_neg c, List.filter_cons_of_pos (by simp [c]), List.map_cons]
      simp only
      rw [ih]
      rfl
theorem renum_ln {n lo hi : Nat} {L : List Ln} (hlo : lo < hi) (hhi : hi < n) (h : InR n L) (hr : ∀ l ∈ L, 0 ≤ l.2.2) : InR (n - 1 : Int) (renum (nbL n lo hi) L) ∧ (∀ l ∈ renum (nbL n lo hi) L, 0 ≤ l.1 ∧ l.1 < l.2.1 ∧ 0 ≤ l.2.2) ∧ (renum (nbL n lo hi) L).length ≤ L.length := by
  have rng : ∀ x : Int, 0 ≤ x → x < n → 0 ≤ nb lo hi x ∧ nb lo hi x < n - 1 := fun x h0 h1 => by unfold nb; split <;> (try split) <;> omega
  have key : ∀ l ∈ renum (nbL n lo hi) L, ∃ m ∈ L, nb lo hi m.1 ≠ nb lo hi m.2.1 ∧ l = ordd (nb lo hi m.1) (nb lo hi m.2.1) m.2.2 := fun l hl => by
    unfold renum at hl
    obtain ⟨m, hm, e⟩ := List.mem_filterMap.mp hl
    obtain ⟨a0, a1, b0, b1⟩ := h m hm
    rw [nbL_gt' a0 a1, nbL_gt' b0 b1] at e
    by_cases c : nb lo hi m.1 = nb lo hi m.2.1
    · rw [if_pos c] at e; cases e
    · rw [if_neg c] at e
      exact ⟨m, hm, c, (Option.some.inj e).symm⟩
  refine ⟨fun l hl => ?_, fun l hl => ?_, by unfold renum; exact List.length_filterMap_le _ _⟩
  · obtain ⟨m, hm, c, rfl⟩ := key l hl
    obtain ⟨a0, a1, b0, b1⟩ := h m hm
    have r1 := rng _ a0 a1
    have r2 := rng _ b0 b1
    unfold ordd
    split
    · exact ⟨r1.1, r1.2, r2.1, r2.2⟩
    · exact ⟨r2.1, r2.2, r1.1, r1.2⟩
  · obtain ⟨m, hm, c, rfl⟩ := key l hl
    obtain ⟨a0, a1, b0, b1⟩ := h m hm
    have r1 := rng _ a0 a1
    have r2 := rng _ b0 b1
    have := hr m hm
    unfold ordd
    split
    · exact ⟨r1.1, by simpa using ‹_›, this⟩
    · exact ⟨r2.1, by show nb lo hi m.2.1 < nb lo hi m.1; omega, this⟩
/-- the numbers join exactly the two houses -/
theorem nb_ker {n : Nat} {x y : Int} (x0 : 0 ≤ x) (x1 : x < n) (y0 : 0 ≤ y) (y1 : y < n) (hne : x ≠ y) : KerOn (fun v => 0 ≤ v ∧ v < n) (nb (mn x y) (mx x y)) (mrg id x y) := by
  rintro a b ⟨a0, a1⟩ ⟨b0, b1⟩
  rw [mrg_eq]
  unfold nb mn mx
  simp only [id]
  grind
theorem InR.on {n : Int} {L : List Ln} (h : InR n L) : ∀ l ∈ L, (0 ≤ l.1 ∧ l.1 < n) ∧ (0 ≤ l.2.1 ∧ l.2.1 < n) := fun l hl => by
  obtain ⟨a, b, c, d⟩ := h l hl
  exact ⟨⟨a, b⟩, c, d⟩
theorem closed_W {n : Nat} {x y : Int} {L : List Ln} (h : InR n L) (x0 : 0 ≤ x) (x1 : x < n) (y0 : 0 ≤ y) (y1 : y < n) (hne : x ≠ y) : W (renum (nbL n (mn x y).toNat (mx x y).toNat) L) id = W L (mrg id x y) := by
  have m1 : 0 ≤ mn x y ∧ mn x y < mx x y ∧ mx x y < n := by unfold mn mx; split <;> split <;> omega
  rw [renum_W h, show (((mn x y).toNat : Nat) : Int) = mn x y by omega, show (((mx x y).toNat : Nat) : Int) = mx x y by omega]
  exact W_kerOn L (nb_ker x0 x1 y0 y1 hne) h.on
theorem nb_rng {n : Nat} {x y v : Int} (x0 : 0 ≤ x) (x1 : x < n) (y0 : 0 ≤ y) (y1 : y < n) (hne : x ≠ y) (v0 : 0 ≤ v) (v1 : v < n) : 0 ≤ nb (mn x y) (mx x y) v ∧ nb (mn x y) (mx x y) v < n - 1 := by
  unfold nb mn mx
  grind
theorem twice_W {n : Nat} {x y g k : Int} {L : List Ln} (h : InR n L) (x0 : 0 ≤ x) (x1 : x < n) (y0 : 0 ≤ y) (y1 : y < n) (hne : x ≠ y) (g0 : 0 ≤ g) (g1 : g < n) (k0 : 0 ≤ k) (k1 : k < n) :
    W (renum (nbL n (mn x y).toNat (mx x y).toNat) L) (mrg id (nb (mn x y) (mx x y) g) (nb (mn x y) (mx x y) k)) = W L (mrg (mrg id x y) g k) := by
  have m1 : 0 ≤ mn x y ∧ mn x y < mx x y ∧ mx x y < n := by unfold mn mx; split <;> split <;> omega
  rw [renum_W h, show (((mn x y).toNat : Nat) : Int) = mn x y by omega, show (((mx x y).toNat : Nat) : Int) = mx x y by omega]
  refine W_kerOn (S := fun v => 0 ≤ v ∧ v < n) L ?_ h.on
  have kk := nb_ker x0 x1 y0 y1 hne
  rintro a b ha hb
  rw [mrg_eq (mrg id x y)]
  show mrg id _ _ (nb _ _ a) = mrg id _ _ (nb _ _ b) ↔ _
  rw [mrg_eq]
  simp only [id]
  rw [kk a b ha hb, kk a g ha ⟨g0, g1⟩, kk b k hb ⟨k0, k1⟩, kk a k ha ⟨k0, k1⟩, kk b g hb ⟨g0, g1⟩]
/-- the four weights -/
def form4 (L : List Ln) (h t g k : Int) : List Int := [Ap [(g, k)] L id, Ap [(h, t), (g, k)] L id, W L id, Ap [(h, t)] L id]
theorem ap_one {L : List Ln} {f : Int → Int} {g k : Int} (h : f g ≠ f k) : Ap [(g, k)] L f = W L (mrg f g k) := by
  show (if f g = f k then 0 else W L (mrg f g k)) = _
  rw [if_neg h]
theorem ap_two {L : List Ln} {x y g k : Int} (h : x ≠ y) : Ap [(x, y), (g, k)] L id = if mrg id x y g = mrg id x y k then 0 else W L (mrg (mrg id x y) g k) := by
  show (if id x = id y then 0 else Ap [(g, k)] L (mrg id x y)) = _
  rw [if_neg (show ¬ id x = id y from h)]
  rfl
end K36
-- text D11
set_option maxRecDepth 100000
set_option maxHeartbeats 4000000
namespace K36
open PySem PySem.Spec PyProof.Rows L2
/-! ### what is refused -/
def xfs (z : PySem.Str) : List (PySem.Str × V) := [("at", .int (-1)), ("word", .str z)]
/-- NotUsable(z, -1) leaves the def -/
def Rz (C : Addr) (H : Hp) (E : XK) (z : PySem.Str) : Prop := ∀ H' d, Same H H' → H d = none → H' d = some (.xd (xfs z)) → E (.ref C) (some d) H'
def isH (n : Int) (x : V) : Bool := match x with
  | .int i => decide (0 ≤ i) && decide (i < n)
  | _ => false
def pairE (n : Int) (x y : V) (f s : PySem.Str) : Option PySem.Str := if isH n x = true then (if isH n y = true then (if x = y then some s else none) else some s) else some f
section
variable {P : Program} {w : World} {K : PySem.W.Frag} {mg : PySem.Str → Option Value} {base : Heap}
theorem sc_init : FnScope ["self", "word", "at"] ["self", "word", "at"] (defScope s_init) := ⟨rfl, rfl, rfl, by decide +kernel, rfl, by decide +kernel, by decide +kernel⟩
def spInit (C : Addr) : L2.Sp := fun vs H Q _ => ∃ (a : Addr) (z : PySem.Str) (i : Int), vs = [.ref a, .str z, .int i] ∧ H a = some (exo a C none) ∧
  ∀ dx, H dx = none → dx ≠ a → Q .non (upd (upd (upd H dx (exd dx [("word", .str z)])) a (exo a C (some dx))) dx (exd dx [("at", .int i), ("word", .str z)]))
theorem ok_init (T : Tx K mg) : FnOk P w K mg base CX0 1 T.fI T.fdI ["self", "word", "at"] (spInit T.cN) := by
  refine T.FI.ok sc_init (fun vs H Q E h => ?_) (fun cdv A outer s H vs Q E hr h => ?_)
  · obtain ⟨a, z, i, rfl, _⟩ := h
    rfl
  · obtain ⟨a, z, i, rfl, ha, q⟩ := h
    refine ⟨_, pss_cons (ps_ost (pv 0) (pv 1)) (pss_one (ps_ost (pv 0) (pv 2))), ?_⟩
    refine ⟨_, rfl, _, rfl, a, T.cN, rfl, T.oex, T.no_word, .inl ⟨ha, fun dx n ne => ?_⟩⟩
    refine ⟨_, rfl, _, rfl, a, T.cN, rfl, T.oex, T.no_at, .inr ⟨dx, _, upd_same, by rw [upd_ne ne, upd_same], by show 1 ≤ 900; decide, ?_⟩⟩
    exact q dx n ne
/-- the reading of NotUsable(z, -1) -/
theorem mk_read {C : Addr} {H : Hp} {E : XK} {z : PySem.Str} (h : Rz C H E z) : ∀ a, H a = none → spInit C (.ref a :: ([.str z, .int (-1)] ++ [])) (upd H a (exo a C none))
    (fun v H2 => v = .non ∧ ∃ (d : Addr) (fs : List (PySem.Str × V)), H2 a = some (exo a C (some d)) ∧ H2 d = some (exd d fs) ∧ H d = none ∧ E (.ref C) (some d) (upd (L2.del H2 a) d (.xd fs))) (fun _ _ _ => False) := by
  intro a ha
  refine ⟨a, z, -1, rfl, upd_same, fun dx n ne => ⟨rfl, dx, _, ?_, upd_same, ?_, ?_⟩⟩
  · rw [upd_ne (Ne.symm ne), upd_same]
  · rw [upd_ne ne] at n; exact n
  · rw [upd_ne ne] at n
    refine h _ dx (fun b o e => ?_) n upd_same
    have h1 : b ≠ dx := ne_of_none e n
    have h2 : b ≠ a := ne_of_none e ha
    rw [upd_ne h1, L2.del_ne h2, upd_ne h1, upd_ne h2, upd_ne h1, upd_ne h2]
    exact e
def spAskNumber (C : Addr) : L2.Sp := fun vs H Q E => ∃ (x : V) (n : String) (z : PySem.Str), vs = [x, .str z] ∧ Kn H x n ∧ (if isN x = true then Q .non H else Rz C H E z)
theorem ok_gasknumber (T : Tx K mg) : FnOk P w K mg base (L2.CX P w) 3 (T.f 15) (T.fd 15) ["number", "name"] (spAskNumber T.cN) := by
  refine T.d_gasknumber.F.okX sc_gasknumber (fun vs H Q E h => ?_) (fun cdv A outer s H vs Q E hr h => ?_)
  · obtain ⟨x, n, z, rfl, _⟩ := h
    rfl
  · obtain ⟨x, n, z, rfl, k, q⟩ := h
    refine ⟨_, 
      (pss_one (ps_if (pt_not (pt_val (pe_call (ok_isnumber T) (hr.mono (by decide)) (by rfl) T.d_isnumber.g T.d_isnumber.k T.d_isnumber.b .nil pass0 (pa_cons (pv 0) pa_nil)))) 
          (pss_one (ps_raise rfl (takes_of rfl rfl rfl rfl) (pmk_oex T.oex T.iC T.tI (ok_init T) (hr.mono (by decide)) T.bI .nil pass0 rfl T.g_NotUsable (pa_cons (pv 1) (pa_cons (pe_un un_neg pe_int) pa_nil))))) pss_nil)), ?_⟩
    refine ⟨_, rfl, x, n, rfl, k, _, rfl, ?_⟩
    cases e : isN x with
    | true =>
      rw [e] at q
      exact iteF q
    | false =>
      rw [e] at q
      exact iteT ⟨_, rfl, _, rfl, by show 2 ≤ 1000; decide, mk_read q⟩
theorem isN_isH {n : Int} {x : V} (h : isN x = true) : ∃ i, x = .int i ∧ 0 ≤ i ∧ isH n x = decide (i < n) := by
  cases x with
  | int i => exact ⟨i, rfl, of_decide_eq_true h, by show (decide (0 ≤ i) && decide (i < n)) = _; rw [show decide (0 ≤ i) = true from h]; rfl⟩
  | _ => cases h
theorem isN_not {n : Int} {x : V} (h : isN x = false) : isH n x = false := by
  cases x with
  | int i => show (decide (0 ≤ i) && decide (i < n)) = false; rw [show decide (0 ≤ i) = false from h]; rfl
  | _ => rfl
def spAskHouse (C : Addr) : L2.Sp := fun vs H Q E => ∃ (n : Int) (x : V) (t : String) (z : PySem.Str), vs = [.int n, x, .str z] ∧ Kn H x t ∧ (if isH n x = true then Q .non H else Rz C H E z)
theorem ok_gaskhouse (T : Tx K mg) : FnOk P w K mg base (L2.CX P w) 3 (T.f 16) (T.fd 16) ["size", "house", "name"] (spAskHouse T.cN) := by
  refine T.d_gaskhouse.F.okX sc_gaskhouse (fun vs H Q E h => ?_) (fun cdv A outer s H vs Q E hr h => ?_)
  · obtain ⟨n, x, t, z, rfl, _⟩ := h
    rfl
  · obtain ⟨n, x, t, z, rfl, k, q⟩ := h
    refine ⟨_, 
      (pss_one (ps_if (PW.pt (pw_or (pt_not (pt_val (pe_call (ok_isnumber T) (hr.mono (by decide)) (by rfl) T.d_isnumber.g T.d_isnumber.k T.d_isnumber.b .nil pass0 (pa_cons (pv 1) pa_nil)))) (pw_or1 (pt_cmpR op_ge (pv 1) (pv 0) (nomark _))))) 
          (pss_one (ps_raise rfl (takes_of rfl rfl rfl rfl) (pmk_oex T.oex T.iC T.tI (ok_init T) (hr.mono (by decide)) T.bI .nil pass0 rfl T.g_NotUsable (pa_cons (pv 2) (pa_cons (pe_un un_neg pe_int) pa_nil))))) pss_nil)), ?_⟩
    refine ⟨_, rfl, x, t, rfl, k, _, rfl, ?_⟩
    cases e : isN x with
    | true =>
      obtain ⟨i, rfl, i0, eh⟩ := isN_isH (n := n) e
      rw [eh] at q
      refine iteF ⟨_, rfl, _, rfl, _, _, rfl, rfl, _, rfl, ?_⟩
      by_cases c : i < n
      · rw [decide_eq_true c] at q
        rw [show decide (i ≥ n) = false from decide_eq_false (by omega)]
        exact iteF q
      · rw [decide_eq_false c] at q
        rw [show decide (i ≥ n) = true from decide_eq_true (by omega)]
        exact iteT ⟨_, rfl, _, rfl, by show 2 ≤ 1000; decide, mk_read q⟩
    | false =>
      rw [isN_not e] at q
      exact iteT ⟨_, rfl, _, rfl, by show 2 ≤ 1000; decide, mk_read q⟩
def spAskPair (C : Addr) : L2.Sp := fun vs H Q E => ∃ (n : Int) (x y : V) (t u : String) (f s : PySem.Str), vs = [.int n, x, y, .str f, .str s] ∧ Kn H x t ∧ Kn H y u ∧ (match pairE n x y f s with | none => Q .non H | some z => Rz C H E z)
theorem isH_int {n : Int} {x : V} (h : isH n x = true) : ∃ i, x = .int i ∧ 0 ≤ i ∧ i < n := by
  cases x with
  | int i =>
    have h' : (decide (0 ≤ i) && decide (i < n)) = true := h
    rw [Bool.and_eq_true] at h'
    exact ⟨i, rfl, of_decide_eq_true h'.1, of_decide_eq_true h'.2⟩
  | _ => cases h
theorem ok_gaskpair (T : Tx K mg) : FnOk P w K mg base (L2.CX P w) 4 (T.f 17) (T.fd 17) ["size", "one", "other", "first", "second"] (spAskPair T.cN) := by
  refine T.d_gaskpair.F.okX sc_gaskpair (fun vs H Q E h => ?_) (fun cdv A outer s H vs Q E hr h => ?_)
  · obtain ⟨n, x, y, t, u, f, s, rfl, _⟩ := h
    rfl
  · obtain ⟨n, x, y, t, u, f, s, rfl, kx, ky, q⟩ := h
    unfold pairE at q
    refine ⟨_, 
      (pss_cons (ps_expr (pe_call (ok_gaskhouse T) (hr.mono (by decide)) (by rfl) T.d_gaskhouse.g T.d_gaskhouse.k T.d_gaskhouse.b .nil (passes_call (takes_of rfl rfl rfl rfl) (fun _ _ _ _ h => h)) (pa_cons (pv 0) (pa_cons (pv 1) (pa_cons (pv 3) pa_nil)))))
      (pss_cons (ps_expr (pe_call (ok_gaskhouse T) (hr.mono (by decide)) (by rfl) T.d_gaskhouse.g T.d_gaskhouse.k T.d_gaskhouse.b .nil (passes_call (takes_of rfl rfl rfl rfl) (fun _ _ _ _ h => h)) (pa_cons (pv 0) (pa_cons (pv 2) (pa_cons (pv 4) pa_nil)))))
      (pss_one (ps_if (pt_cmpR op_eq (pv 1) (pv 2) (nomark _)) 
          (pss_one (ps_raise rfl (takes_of rfl rfl rfl rfl) (pmk_oex T.oex T.iC T.tI (ok_init T) (hr.mono (by decide)) T.bI .nil pass0 rfl T.g_NotUsable (pa_cons (pv 4) (pa_cons (pe_un un_neg pe_int) pa_nil))))) pss_nil)))), ?_⟩
    refine ⟨_, rfl, _, rfl, _, rfl, n, x, t, f, rfl, kx, ?_⟩
    cases ex : isH n x with
    | false =>
      rw [ex] at q
      exact iteF q
    | true =>
      rw [ex] at q
      refine iteT ⟨_, rfl, _, rfl, _, rfl, n, y, u, s, rfl, ky, ?_⟩
      cases ey : isH n y with
      | false =>
        rw [ey] at q
        exact iteF q
      | true =>
        rw [ey] at q
        simp only [if_true] at q
        obtain ⟨i, rfl, _⟩ := isH_int ex
        obtain ⟨j, rfl, _⟩ := isH_int ey
        refine iteT ⟨_, rfl, _, rfl, rfl, _, rfl, ?_⟩
        by_cases c : V.int i = V.int j
        · rw [if_pos c] at q
          rw [decide_eq_true c]
          exact iteT ⟨_, rfl, _, rfl, by show 2 ≤ 1000; decide, mk_read q⟩
        · rw [if_neg c] at q
          rw [decide_eq_false c]
          exact iteF q
end
end K36
-- text D12
set_option maxRecDepth 100000
set_option maxHeartbeats 4000000
namespace K36
open PySem PySem.Spec PyProof.Rows L2
/-- the first one that is refused -/
def shE (n : Int) (a b c d : V) : Option PySem.Str := match pairE n a b "here" "there" with
  | some z => some z
  | none => pairE n c d "payer" "payee"
/-- what a web's lines must be -/
structure LnOK (n : Nat) (L : List Ln) : Prop where
  inr : InR n L
  lt : ∀ l ∈ L, 0 ≤ l.1 ∧ l.1 < l.2.1 ∧ 0 ≤ l.2.2
  len : L.length ≤ 12
  wt : (W L id).natAbs < 2 ^ 3000
  n0 : n ≤ 1000
theorem LnOK.rooms {n : Nat} {L : List Ln} (h : LnOK n L) : ∀ l ∈ L, 0 ≤ l.2.2 := fun l hl => (h.lt l hl).2.2
theorem LnOK.coarse {n : Nat} {L : List Ln} (h : LnOK n L) (g : Int → Int) : (W L g).natAbs < 2 ^ 3000 := by
  have h1 := W_mono L id g h.rooms fun x y e => by rw [show x = y from e]
  have h2 := W_pos L g h.rooms
  exact Nat.lt_of_le_of_lt (by omega) h.wt
theorem LnOK.closed {n : Nat} {x y : Int} {L : List Ln} (h : LnOK n L) (x0 : 0 ≤ x) (x1 : x < n) (y0 : 0 ≤ y) (y1 : y < n) (hne : x ≠ y) : LnOK (n - 1) (renum (nbL n (mn x y).toNat (mx x y).toNat) L) := by
  have m1 : 0 ≤ mn x y ∧ mn x y < mx x y ∧ mx x y < n := by unfold mn mx; split <;> split <;> omega
  obtain ⟨c1, c2, c3⟩ := renum_ln (n := n) (lo := (mn x y).toNat) (hi := (mx x y).toNat) (by omega) (by omega) h.inr h.rooms
  refine ⟨?_, c2, Nat.le_trans c3 h.len, ?_, by have := h.n0; omega⟩
  · rw [show ((n - 1 : Nat) : Int) = (n : Int) - 1 by omega]; exact c1
  · rw [closed_W h.inr x0 x1 y0 y1 hne]; exact h.coarse _
section
variable {P : Program} {w : World} {K : PySem.W.Frag} {mg : PySem.Str → Option Value} {base : Heap}
def spShare (C : Addr) : L2.Sp := fun vs H Q E => ∃ (p : Addr) (n : Nat) (L : List Ln) (a b c d : V) (ta tb tc td : String), vs = [.ref p, a, b, c, d] ∧ Web H p n L ∧ LnOK n L ∧ Kn H a ta ∧ Kn H b tb ∧ Kn H c tc ∧ Kn H d td ∧
  (match shE n a b c d with
    | some z => Rz C H E z
    | none => ∀ x y g k : Int, a = .int x → b = .int y → c = .int g → d = .int k → ∀ H' q, Same H H' → H q = none → H' q = some (.tup (iv (form4 L x y g k))) → Q (.ref q) H')
theorem pairE_none {n : Int} {a b : V} {f s : PySem.Str} (h : pairE n a b f s = none) : ∃ x y : Int, a = .int x ∧ b = .int y ∧ 0 ≤ x ∧ x < n ∧ 0 ≤ y ∧ y < n ∧ x ≠ y := by
  unfold pairE at h
  split at h
  · rename_i h1
    split at h
    · rename_i h2
      split at h
      · cases h
      · rename_i h3
        obtain ⟨i, rfl, i0, i1⟩ := isH_int h1
        obtain ⟨j, rfl, j0, j1⟩ := isH_int h2
        exact ⟨i, j, rfl, rfl, i0, i1, j0, j1, fun e => h3 (by rw [e])⟩
    · cases h
  · cases h
set_option maxHeartbeats 16000000 in
theorem ok_shareform (T : Tx K mg) : FnOk P w K mg base (L2.CX P w) 8 (T.f 29) (T.fd 29) ["web", "here", "there", "payer", "payee"] (spShare T.cN) := by
  refine T.d_shareform.F.okX sc_shareform (fun vs H Q E h => ?_) (fun cdv A outer s H vs Q E hr h => ?_)
  · obtain ⟨p, n, L, a, b, c, d, ta, tb, tc, td, rfl, _⟩ := h
    rfl
  · obtain ⟨p, n, L, a, b, c, d, ta, tb, tc, td, rfl, hW, hL, ka, kb, kc, kd, q⟩ := h
    obtain ⟨q0, hw, hLT⟩ := id hW
    unfold shE at q
    refine ⟨_, 
      (pss_cons (ps_expr (pe_call (ok_gaskpair T) (hr.mono (by decide)) (by rfl) T.d_gaskpair.g T.d_gaskpair.k T.d_gaskpair.b .nil (passes_call (takes_of rfl rfl rfl rfl) (fun _ _ _ _ h => h)) (pa_cons (pe_ix ix_tup (pv 0) pe_int (fun _ _ => rfl)) (pa_cons (pv 1) (pa_cons (pv 2) (pa_cons pe_str (pa_cons pe_str pa_nil)))))))
      (pss_cons (ps_expr (pe_call (ok_gaskpair T) (hr.mono (by decide)) (by rfl) T.d_gaskpair.g T.d_gaskpair.k T.d_gaskpair.b .nil (passes_call (takes_of rfl rfl rfl rfl) (fun _ _ _ _ h => h)) (pa_cons (pe_ix ix_tup (pv 0) pe_int (fun _ _ => rfl)) (pa_cons (pv 3) (pa_cons (pv 4) (pa_cons pe_str (pa_cons pe_str pa_nil)))))))
      (pss_cons (ps_set (i := 5) sc_shareform.nd rfl (Or.inl rfl) (pe_call (ok_madeone T) (hr.mono (by decide)) (by rfl) T.d_madeone.g T.d_madeone.k T.d_madeone.b .nil pass0 (pa_cons (pv 0) (pa_cons (pv 1) (pa_cons (pv 2) pa_nil)))))
      (pss_cons (ps_set (i := 6) sc_shareform.nd rfl (Or.inl rfl) (pe_call (ok_gnumberbehind T) (hr.mono (by decide)) (by rfl) T.d_gnumberbehind.g T.d_gnumberbehind.k T.d_gnumberbehind.b .nil pass0 (pa_cons (pv 1) (pa_cons (pv 2) (pa_cons (pv 3) pa_nil)))))
      (pss_cons (ps_set (i := 7) sc_shareform.nd rfl (Or.inl rfl) (pe_call (ok_gnumberbehind T) (hr.mono (by decide)) (by rfl) T.d_gnumberbehind.g T.d_gnumberbehind.k T.d_gnumberbehind.b .nil pass0 (pa_cons (pv 1) (pa_cons (pv 2) (pa_cons (pv 4) pa_nil)))))
      (pss_cons (ps_set (i := 8) sc_shareform.nd rfl (Or.inl rfl) pe_int)
      (pss_cons (ps_if (pt_cmpR op_ne (pv 6) (pv 7) (nomark _)) 
          (pss_one (ps_set (i := 8) sc_shareform.nd rfl (Or.inl rfl) (pe_call (ok_forestweight T) (hr.mono (by decide)) (by rfl) T.d_forestweight.g T.d_forestweight.k T.d_forestweight.b .nil pass0 (pa_cons (pe_call (ok_madeone T) (hr.mono (by decide)) (by rfl) T.d_madeone.g T.d_madeone.k T.d_madeone.b .nil pass0 (pa_cons (pv 5) (pa_cons (pv 6) (pa_cons (pv 7) pa_nil)))) pa_nil)))) pss_nil)
      (pss_one (ps_ret (pe_tup (pa_cons (pe_call (ok_forestweight T) (hr.mono (by decide)) (by rfl) T.d_forestweight.g T.d_forestweight.k T.d_forestweight.b .nil pass0 (pa_cons (pe_call (ok_madeone T) (hr.mono (by decide)) (by rfl) T.d_madeone.g T.d_madeone.k T.d_madeone.b .nil pass0 (pa_cons (pv 0) (pa_cons (pv 3) (pa_cons (pv 4) pa_nil)))) pa_nil)) (pa_cons (pv 8) (pa_cons (pe_call (ok_forestweight T) (hr.mono (by decide)) (by rfl) T.d_forestweight.g T.d_forestweight.k T.d_forestweight.b .nil pass0 (pa_cons (pv 0) pa_nil)) (pa_cons (pe_call (ok_forestweight T) (hr.mono (by decide)) (by rfl) T.d_forestweight.g T.d_forestweight.k T.d_forestweight.b .nil pass0 (pa_cons (pv 5) pa_nil)) pa_nil)))))))))))))), ?_⟩
    refine ⟨_, rfl, p, _, _, _, rfl, rfl, SqT.of hw, at_of (j := 0) rfl rfl, _, rfl, _, rfl, n, a, b, ta, tb, "here", "there", rfl, ka, kb, ?_⟩
    cases e1 : pairE n a b "here" "there" with
    | some z =>
      rw [e1] at q
      exact q
    | none =>
      rw [e1] at q
      obtain ⟨x, y, rfl, rfl, x0, x1, y0, y1, hxy⟩ := pairE_none e1
      refine ⟨_, rfl, p, _, _, _, rfl, rfl, SqT.of hw, at_of (j := 0) rfl rfl, _, rfl, _, rfl, n, c, d, tc, td, "payer", "payee", rfl, kc, kd, ?_⟩
      cases e2 : pairE n c d "payer" "payee" with
      | some z =>
        simp only [e2] at q
        exact q
      | none =>
        simp only [e2] at q
        obtain ⟨g, k, rfl, rfl, g0, g1, k0, k1, hgk⟩ := pairE_none e2
        have q := q x y g k rfl rfl rfl rfl
        have lc := hL.closed x0 x1 y0 y1 hxy
        have en : ((n - 1 : Nat) : Int) = (n : Int) - 1 := by omega
        obtain ⟨rg0, rg1⟩ := nb_rng (n := n) x0 x1 y0 y1 hxy g0 g1
        obtain ⟨rk0, rk1⟩ := nb_rng (n := n) x0 x1 y0 y1 hxy k0 k1
        -- closed
        refine ⟨_, rfl, _, rfl, _, rfl, p, n, x, y, L, rfl, hW, x0, x1, y0, y1, hxy, hL.n0, hL.inr, by have := hL.len; omega, fun H1 c1 s1 n1 w1 => ?_⟩
        rw [← en] at w1
        refine ⟨_, rfl, _, rfl, _, rfl, x, y, g, rfl, _, rfl, _, rfl, _, rfl, x, y, k, rfl, ?_⟩
        -- both
        have rest : ∀ (H2 : Hp) (both : Int), Same H1 H2 → both = Ap [(x, y), (g, k)] L id →
            tTup (tCons (tCall spForest [] E0 (tCons (tCall spMadeOne [] E0 (tCons (tVar 0) (tCons (tVar 3) (tCons (tVar 4) tNil)))) tNil)) (tCons (tVar 8) (tCons (tCall spForest [] E0 (tCons (tVar 0) tNil)) (tCons (tCall spForest [] E0 (tCons (tVar 5) tNil)) tNil))))
              [some (.ref p), some (.int x), some (.int y), some (.int g), some (.int k), some (.ref c1), some (.int (nb (mn x y) (mx x y) g)), some (.int (nb (mn x y) (mx x y) k)), some (.int both)] H2 Q := by
          intro H2 both s2 eb
          have lg := hL.closed g0 g1 k0 k1 hgk
          refine ⟨_, rfl, _, rfl, _, rfl, p, n, g, k, L, rfl, hW.mono (s1.trans s2), g0, g1, k0, k1, hgk, hL.n0, hL.inr, by have := hL.len; omega, fun H3 c3 s3 n3 w3 => ?_⟩
          refine ⟨c3, _, _, rfl, w3, lg.lt, lg.len, lg.wt, fun H4 s4 => ?_⟩
          refine ⟨_, rfl, _, rfl, p, _, _, rfl, hW.mono (((s1.trans s2).trans s3).trans s4), hL.lt, hL.len, hL.wt, fun H5 s5 => ?_⟩
          refine ⟨_, rfl, c1, _, _, rfl, w1.mono (((s2.trans s3).trans s4).trans s5), lc.lt, lc.len, lc.wt, fun H6 s6 => ?_⟩
          refine ⟨by show 4 ≤ sizeLine; decide, fun r hr' => ?_⟩
          have sA := (((((s1.trans s2).trans s3).trans s4).trans s5).trans s6)
          refine q _ r (sA.trans (same_new hr')) (sA.free hr') ?_
          rw [upd_same, closed_W hL.inr g0 g1 k0 k1 hgk, closed_W hL.inr x0 x1 y0 y1 hxy, eb]
          unfold form4
          rw [ap_one (show id g ≠ id k from hgk), ap_one (show id x ≠ id y from hxy)]
          rfl
        have tw := ap_two (L := L) (x := x) (y := y) (g := g) (k := k) hxy
        have kk := nb_ker (n := n) x0 x1 y0 y1 hxy g k ⟨g0, g1⟩ ⟨k0, k1⟩
        refine ⟨_, rfl, _, rfl, rfl, _, rfl, ?_⟩
        by_cases ce : nb (mn x y) (mx x y) g = nb (mn x y) (mx x y) k
        · rw [show decide (V.int (nb (mn x y) (mx x y) g) = V.int (nb (mn x y) (mx x y) k)) = true from decide_eq_true (by rw [ce])]
          refine iteF ?_
          exact rest H1 0 (Same.refl _) (by rw [tw, if_pos (kk.mp ce)])
        · rw [show decide (V.int (nb (mn x y) (mx x y) g) = V.int (nb (mn x y) (mx x y) k)) = false from decide_eq_false fun z => ce (V.int.inj z)]
          refine iteT ?_
          refine ⟨_, rfl, _, rfl, _, rfl, c1, n - 1, _, _, _, rfl, w1, rg0, by omega, rk0, by omega, ce, lc.n0, lc.inr, by have := lc.len; omega, fun H2 c2 s2 n2 w2 => ?_⟩
          have l2 := lc.closed rg0 (by omega) rk0 (by omega) ce
          refine ⟨c2, _, _, rfl, w2, l2.lt, l2.len, l2.wt, fun H3 s3 => ?_⟩
          refine rest H3 _ (s2.trans s3) ?_
          rw [closed_W lc.inr rg0 (by omega) rk0 (by omega) ce, twice_W hL.inr x0 x1 y0 y1 hxy g0 g1 k0 k1, tw, if_neg (fun z => ce (kk.mpr z))]
/-- the share at a room -/
def spShareAt (C : Addr) : L2.Sp := fun vs H Q E => ∃ (p : Addr) (a b c d : Int) (x : V) (t : String), vs = [.ref p, x] ∧ H p = some (.tup [.int a, .int b, .int c, .int d]) ∧ Kn H x t ∧ 0 ≤ a ∧ 0 ≤ b ∧ 1 ≤ c ∧ 1 ≤ d ∧ a.natAbs < 2 ^ 3000 ∧ b.natAbs < 2 ^ 3000 ∧ c.natAbs < 2 ^ 3000 ∧ d.natAbs < 2 ^ 3000 ∧
  (if isN x = true then ∃ r : Int, x = .int r ∧ r.natAbs < 2 ^ 1000 ∧ ∀ H' q, Same H H' → H q = none → H' q = some (.tup [.int ((a + b * r) / (Int.gcd (a + b * r) (c + d * r) : Nat)), .int ((c + d * r) / (Int.gcd (a + b * r) (c + d * r) : Nat))]) → Q (.ref q) H' else Rz C H E "room")
theorem pow_sum {a b : Nat} (ha : a < 2 ^ 3000) (hb : b < 2 ^ (3000 + 1000)) : a + b < 2 ^ 8000 := by
  have h1 : 2 ^ 3000 ≤ 2 ^ (3000 + 1000) := Nat.pow_le_pow_right (by decide) (by decide)
  have h2 : 2 ^ (3000 + 1000) * 2 = 2 ^ 4001 := (Nat.pow_succ ..).symm
  have h3 : 2 ^ 4001 ≤ 2 ^ 8000 := Nat.pow_le_pow_right (by decide) (by decide)
  generalize 2 ^ 3000 = A at *
  generalize 2 ^ (3000 + 1000) = B at *
  generalize 2 ^ 4001 = C at *
  generalize 2 ^ 8000 = D at *
  omega
theorem ok_shareat (T : Tx K mg) : FnOk P w K mg base (L2.CX P w) 5 (T.f 30) (T.fd 30) ["form", "room"] (spShareAt T.cN) := by
  refine T.d_shareat.F.okX sc_shareat (fun vs H Q E h => ?_) (fun cdv A outer s H vs Q E hr h => ?_)
  · obtain ⟨p, a, b, c, d, x, t, rfl, _⟩ := h
    rfl
  · obtain ⟨p, a, b, c, d, x, t, rfl, hp, kx, a0, b0, c1, d1, wa, wb, wc, wd, q⟩ := h
    refine ⟨_, 
      (pss_cons (ps_expr (pe_call (ok_gasknumber T) (hr.mono (by decide)) (by rfl) T.d_gasknumber.g T.d_gasknumber.k T.d_gasknumber.b .nil (passes_call (takes_of rfl rfl rfl rfl) (fun _ _ _ _ h => h)) (pa_cons (pv 1) (pa_cons pe_str pa_nil))))
      (pss_one (ps_ret (pe_call (ok_quotientof T) (hr.mono (by decide)) (by rfl) T.d_quotientof.g T.d_quotientof.k T.d_quotientof.b .nil pass0 (pa_cons (pe_op op_add (pe_ix ix_tup (pv 0) pe_int (fun _ _ => rfl)) (pe_op op_mulW (pe_ix ix_tup (pv 0) pe_int (fun _ _ => rfl)) (pv 1))) (pa_cons (pe_op op_add (pe_ix ix_tup (pv 0) pe_int (fun _ _ => rfl)) (pe_op op_mulW (pe_ix ix_tup (pv 0) pe_int (fun _ _ => rfl)) (pv 1))) pa_nil)))))), ?_⟩
    refine ⟨_, rfl, x, t, "room", rfl, kx, ?_⟩
    cases e : isN x with
    | false =>
      rw [e] at q
      exact q
    | true =>
      rw [e] at q
      obtain ⟨i, rfl, i0, _⟩ := isN_isH (n := 0) e
      simp only [if_true] at q
      obtain ⟨r, er, wr, q⟩ := q
      cases er
      have m1 := Int.mul_nonneg b0 i0
      have m2 := Int.mul_nonneg (show 0 ≤ d by omega) i0
      have w2 := wide_lt wd wr
      refine iteT ?_
      refine ⟨_, rfl, p, _, _, _, rfl, rfl, SqT.of hp, at_of (j := 0) rfl rfl, _, rfl, p, _, _, _, rfl, rfl, SqT.of hp, at_of (j := 1) rfl rfl, _, rfl, _, _, rfl, rfl, wide_mul wb wr (by decide) (by decide) (by decide), _, _, rfl, rfl, ?_⟩
      refine ⟨_, rfl, p, _, _, _, rfl, rfl, SqT.of hp, at_of (j := 2) rfl rfl, _, rfl, p, _, _, _, rfl, rfl, SqT.of hp, at_of (j := 3) rfl rfl, _, rfl, _, _, rfl, rfl, wide_mul wd wr (by decide) (by decide) (by decide), _, _, rfl, rfl, ?_⟩
      refine ⟨a + b * i, c + d * i, rfl, by omega, by omega, ?_, fun u hu => ?_⟩
      · have := pow_sum wc w2
        refine Nat.lt_of_le_of_lt ?_ this
        exact Int.natAbs_add_le _ _
      · exact q _ u (same_new hu) hu upd_same
/-- is_form by its answer -/
def spForm : L2.Sp := fun vs H Q _ => ∃ (x : V) (t : String), vs = [x] ∧ Kn H x t ∧
  ((¬ (∃ p xs, x = .ref p ∧ H p = some (.tup xs) ∧ xs.length = 4) ∧ Q (.bl false) H) ∨
    ∃ (p : Addr) (a b c d : V), x = .ref p ∧ H p = some (.tup [a, b, c, d]) ∧ (∀ y ∈ [a, b, c, d], ∃ u, Kn H y u) ∧
      ∀ H', Same H H' → Q (.bl (isN a && isN b && isN c && isN d && decide (c ≠ .int 0) && decide (d ≠ .int 0))) H')
theorem ok_isform (T : Tx K mg) : FnOk P w K mg base CX0 3 (T.f 27) (T.fd 27) ["thing"] spForm := by
  refine T.d_isform.F.ok sc_isform (fun vs H Q E h => ?_) (fun cdv A outer s H vs Q E hr h => ?_)
  · obtain ⟨x, t, rfl, _⟩ := h
    rfl
  · obtain ⟨x, t, rfl, kx, q⟩ := h
    refine ⟨_, 
      (pss_cons (ps_if (PW.pt (pw_or (pt_not (pt_val (pe_callB call_isi (by rfl) T.n_isinstance (by decide +kernel) (pa_cons (pv 0) (pa_cons (pe_bltn (by rfl) T.n_tuple (by decide +kernel) (show RelV (.ty "tuple") (.type "tuple") from rfl)) pa_nil))))) (pw_or1 (pt_cmpR op_ne (pe_callB call_len_seq (by rfl) T.n_len (by decide +kernel) (pa_cons (pv 0) pa_nil)) pe_int (nomark _))))) 
          (pss_one (ps_ret pe_bl)) pss_nil)
      (pss_cons (ps_if (pt_not (pt_val (pe_callB (cr_all rfl) (by rfl) T.n_all (by decide +kernel) (pa_cons (pe_lc (own := [("part", 1)]) rfl sc_isform.nd (pi_tup (pv 0)) (blkOk_by (own := [("part", 1)]) (N := N_isform) (sc := defScope s_isform) (by decide +kernel)) (fun _ _ _ _ _ => (pg_name (i := 1) sc_isform.nd rfl (Or.inl rfl))) (fun _ _ _ _ _ => pts_nil) (fun _ _ _ _ _ => (pe_call (ok_isnumber T) (hr.mono (by decide)) (by rfl) T.d_isnumber.g T.d_isnumber.k T.d_isnumber.b .nil pass0 (pa_cons (pv 1) pa_nil)))) pa_nil)))) 
          (pss_one (ps_ret pe_bl)) pss_nil)
      (pss_one (ps_ret (pe_and (pe_cmpR op_ge (pe_ix ix_tup (pv 0) pe_int (fun _ _ => rfl)) pe_int (nomark _)) (pe_one (pe_cmpR op_ge (pe_ix ix_tup (pv 0) pe_int (fun _ _ => rfl)) pe_int (nomark _)))))))), ?_⟩
    refine ⟨_, rfl, x, .ty "tuple", _, _, isT t, rfl, .ty _, kx.ty, kx.tup2, _, rfl, ?_⟩
    rcases q with ⟨hno, q⟩ | ⟨p, a, b, c, d, rfl, hp, hk, q⟩
    · cases kx with
      | tup h =>
        rename_i p xs
        have h4 : xs.length ≠ 4 := fun e => hno ⟨p, xs, rfl, h, e⟩
        refine iteF ⟨_, rfl, p, _, rfl, .inr (SqT.of h), rfl, _, rfl, ?_⟩
        rw [show decide (V.int (xs.length : Nat) = V.int 4) = false from decide_eq_false fun z => by have := V.int.inj z; omega]
        exact iteT q
      | _ => exact iteT q
    · have et : isT t = true := by
        cases kx with
        | tup h => rfl
        | lst h => rw [hp] at h; cases h
      rw [et]
      refine iteF ⟨_, rfl, p, _, rfl, .inr (SqT.of hp), rfl, _, rfl, iteF ?_⟩
      refine ⟨_, rfl, p, rfl, ⟨_, SqT.of hp⟩, fun D hD => ?_⟩
      refine lc_it (n := 4) (walk_tup (xs := [a, b, c, d])) (fun i H' => Same H H' ∧ H' D = some (.lst (([isN a, isN b, isN c, isN d].take i).map V.bl))) ⟨same_new hD, upd_same⟩ (fun i H' _ z => SqT.of (z.1 _ _ hp)) ?_ ?_
      · rintro i x H1 H2 hi ⟨s1, hL⟩ ⟨rfl, hx⟩
        obtain ⟨u, ku⟩ := hk x (List.mem_of_getElem? hx)
        have hb : [isN a, isN b, isN c, isN d][i]? = some (isN x) := by
          match i, hx with
          | 0, hx => cases hx; rfl
          | 1, hx => cases hx; rfl
          | 2, hx => cases hx; rfl
          | 3, hx => cases hx; rfl
        refine ⟨rfl, yesT ?_⟩
        refine ⟨_, rfl, x, u, rfl, ku.mono s1, _, hL, small_line (by simp; omega), same_upd hD s1, ?_⟩
        rw [upd_same, take_snoc hb]
        simp
      · rintro H1 ⟨s1, hL⟩
        refine ⟨D, [isN a, isN b, isN c, isN d], rfl, SqL.of hL, _, rfl, ?_⟩
        cases e : [isN a, isN b, isN c, isN d].all id with
        | false =>
          refine iteT ?_
          have : (isN a && isN b && isN c && isN d && decide (c ≠ .int 0) && decide (d ≠ .int 0)) = false := by
            simp at e
            cases ha : isN a <;> cases hb : isN b <;> cases hc : isN c <;> cases hd : isN d <;> simp_all
          rw [this] at q
          exact q _ s1
        | true =>
          refine iteF ?_
          simp at e
          obtain ⟨ea, eb, ec, ed⟩ := e
          obtain ⟨i, rfl, i0, _⟩ := isN_isH (n := 0) ec
          obtain ⟨j, rfl, j0, _⟩ := isN_isH (n := 0) ed
          refine ⟨_, rfl, p, _, _, _, rfl, rfl, SqT.of (s1 _ _ hp), at_of (j := 2) rfl rfl, _, _, rfl, rfl, _, rfl, ?_⟩
          rw [ea, eb, ec, ed] at q
          simp only [Bool.and_self, Bool.true_and] at q
          by_cases ci : i = 0
          · subst ci
            exact iteF (q _ s1)
          · rw [show decide (i ≥ 1) = true from decide_eq_true (by omega)]
            refine iteT ⟨_, rfl, p, _, _, _, rfl, rfl, SqT.of (s1 _ _ hp), at_of (j := 3) rfl rfl, _, _, rfl, rfl, ?_⟩
            have := q _ s1
            rw [show decide (V.int i ≠ V.int 0) = true from decide_eq_true fun z => ci (V.int.inj z), Bool.true_and] at this
            by_cases cj : j = 0
            · subst cj
              exact this
            · rw [show decide (V.int j ≠ V.int 0) = true from decide_eq_true fun z => cj (V.int.inj z)] at this
              show Q (.bl (decide (1 ≤ j))) H1
              rw [show decide (1 ≤ j) = true from decide_eq_true (by omega)]
              exact this
end
end K36
-- text D13
set_option maxRecDepth 100000
set_option maxHeartbeats 4000000
namespace K36
open PySem PySem.Spec PyProof.Rows L2
/-! ### the law's draws -/
def StA (H : Hp) (p : Addr) : Prop := ∃ b o t : Int, H p = some (.lst [.int b, .int o, .int t]) ∧ 0 ≤ b ∧ 0 ≤ o ∧ 0 ≤ t
/-- all but p is as it was -/
def SX (p : Addr) (H H' : Hp) : Prop := ∀ b o, b ≠ p → H b = some o → H' b = some o
theorem SX.refl (p : Addr) (H : Hp) : SX p H H := fun _ _ _ h => h
theorem SX.trans {p : Addr} {H H1 H2 : Hp} (a : SX p H H1) (b : SX p H1 H2) : SX p H H2 := fun c o n h => b c o n (a c o n h)
theorem SX.of {p : Addr} {H H' : Hp} (h : Same H H') : SX p H H' := fun b o _ e => h b o e
theorem StA.mono {p : Addr} {H H' : Hp} (h : StA H p) (e : Same H H') : StA H' p := let ⟨b, o, t, h1, h2⟩ := h; ⟨b, o, t, e _ _ h1, h2⟩
theorem StA.ne {p q : Addr} {H : Hp} {o : HO} (h : StA H p) (hq : H q = some o) (hn : ∀ b c t : Int, o ≠ .lst [.int b, .int c, .int t]) : q ≠ p := fun z => by
  obtain ⟨b, c, t, h1, _⟩ := h
  rw [z, h1] at hq
  exact hn b c t (Option.some.inj hq).symm
section
variable {P : Program} {w : World} {K : PySem.W.Frag} {mg : PySem.Str → Option Value} {base : Heap}
def spStart (K : PySem.W.Frag) : L2.Sp := fun vs H Q _ => ∃ (a : Addr) (ns : List Int), vs = [.ref a] ∧ SqL K H a (ns.map V.int) ∧ ns.length ≤ 63 ∧ ∀ H' p, Same H H' → H p = none → StA H' p → Q (.ref p) H'
theorem ok_Lstart (T : Tx K mg) : FnOk P w K mg base CX0 1 (T.f 31) (T.fd 31) ["_law_script"] (spStart K) := by
  refine T.d_Lstart.F.ok sc_Lstart (fun vs H Q E h => ?_) (fun cdv A outer s H vs Q E hr h => ?_)
  · obtain ⟨a, ns, rfl, _⟩ := h
    rfl
  · obtain ⟨a, ns, rfl, ha, hl, q⟩ := h
    refine ⟨_, 
      (pss_cons (ps_set (i := 1) sc_Lstart.nd rfl (Or.inl rfl) pe_int)
      (pss_cons (ps_set (i := 2) sc_Lstart.nd rfl (Or.inl rfl) pe_int)
      (pss_cons (ps_for PassesOwn.never rfl (pi_list (pv 0)) (pg_name (i := 3) sc_Lstart.nd rfl (Or.inl rfl)) 
          (pss_cons (ps_set (i := 1) sc_Lstart.nd rfl (Or.inl rfl) (pe_op op_mod (pe_callTy call_int1 (by rfl) T.n_int (by decide +kernel) (pa_cons (pe_op op_add (pe_op op_add (pe_op op_mul (pv 1) pe_int) (pe_op op_mul (pv 3) pe_int)) pe_int) pa_nil)) pe_int))
          (pss_one (ps_set (i := 2) sc_Lstart.nd rfl (Or.inl rfl) (pe_op op_mod (pe_callTy call_int1 (by rfl) T.n_int (by decide +kernel) (pa_cons (pe_op op_add (pe_op op_add (pe_op op_mul (pv 2) pe_int) (pe_op op_mul (pv 3) pe_int)) pe_int) pa_nil)) pe_int)))))
      (pss_cons (ps_set (i := 4) sc_Lstart.nd rfl (Or.inl rfl) pe_int)
      (pss_cons (ps_if (PW.pt (pw_and (pt_cmpR op_gt (pe_callB call_len_seq (by rfl) T.n_len (by decide +kernel) (pa_cons (pv 0) pa_nil)) pe_int (nomark _)) (pw_and1 (pt_cmpR op_ge (pe_callB call_abs (by rfl) T.n_abs (by decide +kernel) (pa_cons (pe_ix ix_list (pv 0) pe_int (fun _ _ => rfl)) pa_nil)) (pe_op op_pow pe_int pe_int) (nomark _))))) 
          (pss_one (ps_set (i := 4) sc_Lstart.nd rfl (Or.inl rfl) (pe_callB call_abs (by rfl) T.n_abs (by decide +kernel) (pa_cons (pe_ix ix_list (pv 0) pe_int (fun _ _ => rfl)) pa_nil)))) pss_nil)
      (pss_one (ps_ret (pe_lst (pa_cons (pv 4) (pa_cons (pv 1) (pa_cons (pv 2) pa_nil))))))))))), ?_⟩
    refine ⟨_, rfl, a, rfl, ⟨_, ha⟩, ?_⟩
    refine for_it (n := (ns.map V.int).length) walk_list (fun i σ H' => ∃ (o t : Int) (v3 v4 : Option V), σ = [some (.ref a), some (.int o), some (.int t), v3, v4] ∧ H' = H ∧ 0 ≤ o ∧ 0 ≤ t) ⟨36037, 91, none, none, rfl, rfl, by decide, by decide⟩ (fun i σ H' _ ⟨_, _, _, _, _, e, _⟩ => by rw [e]; exact ha) ?_ ?_
    · rintro i x σ H1 H2 hi ⟨o, t, v3, v4, rfl, rfl, o0, t0⟩ ⟨rfl, hx⟩
      obtain ⟨z, hz, rfl⟩ := iv_at hx
      refine ⟨_, rfl, _, _, rfl, rfl, .inr ⟨by decide, by decide⟩, _, rfl, _, _, rfl, rfl, .inr ⟨by decide, by decide⟩, _, _, rfl, rfl, _, _, rfl, rfl, .inl ⟨_, rfl, _, _, rfl, rfl, by show (0 : Int) < 2147483647; decide, ?_⟩⟩
      refine ⟨_, rfl, _, _, rfl, rfl, .inr ⟨by decide, by decide⟩, _, rfl, _, _, rfl, rfl, .inr ⟨by decide, by decide⟩, _, _, rfl, rfl, _, _, rfl, rfl, .inl ⟨_, rfl, _, _, rfl, rfl, by show (0 : Int) < 2147483563; decide, ?_⟩⟩
      exact ⟨_, _, _, _, rfl, rfl, Int.emod_nonneg _ (by decide), Int.emod_nonneg _ (by decide)⟩
    · rintro σ H1 ⟨o, t, v3, v4, rfl, rfl, o0, t0⟩
      have fin : ∀ b : Int, 0 ≤ b → tLst (tCons (tVar 4) (tCons (tVar 1) (tCons (tVar 2) tNil))) [some (.ref a), some (.int o), some (.int t), v3, some (.int b)] H1 Q := fun b b0 =>
        ⟨_, rfl, _, rfl, _, rfl, by show 3 ≤ sizeLine; decide, fun p hp => q _ p (same_new hp) hp ⟨b, o, t, upd_same, b0, o0, t0⟩⟩
      refine ⟨_, rfl, a, _, rfl, .inl ha, _, _, rfl, rfl, _, rfl, ite2 (fun hc => ?_) fun hc => iteF (fin 0 (by decide))⟩
      have hn : 0 < ns.length := by
        have : ((ns.map V.int).length : Int) > 0 := of_decide_eq_true hc
        rw [List.length_map] at this
        omega
      have h0 : atI (iv ns) 0 = some (.int (gt ns 0)) := at_gt (by decide) (by omega)
      refine ⟨_, rfl, a, _, _, _, rfl, rfl, ha, h0, _, rfl, _, _, rfl, rfl, ⟨by decide, by decide, by decide⟩, _, _, rfl, rfl, _, rfl, ite2 (fun hd => ?_) fun hd => fin 0 (by decide)⟩
      refine ⟨_, rfl, a, _, _, _, rfl, rfl, ha, h0, _, rfl, ?_⟩
      exact fin _ (by split <;> omega)
def spDraw : L2.Sp := fun vs H Q _ => ∃ (p : Addr) (c : Int), vs = [.ref p, .int c] ∧ StA H p ∧ 0 < c ∧ c.natAbs < 2 ^ 64 ∧ ∀ v H', 0 ≤ v → v < c → StA H' p → SX p H H' → Q (.int v) H'
theorem ok_Ldraw (T : Tx K mg) : FnOk P w K mg base CX0 1 (T.f 32) (T.fd 32) ["_law_state", "_law_count"] spDraw := by
  refine T.d_Ldraw.F.ok sc_Ldraw (fun vs H Q E h => ?_) (fun cdv A outer s H vs Q E hr h => ?_)
  · obtain ⟨a, c, rfl, _⟩ := h
    rfl
  · obtain ⟨p, c, rfl, ⟨b, o, t, hp, b0, o0, t0⟩, c0, cz, q⟩ := h
    refine ⟨_, 
      (pss_cons (ps_if (pt_cmpR op_ge (pe_ix ix_list (pv 0) pe_int (fun _ _ => rfl)) (pv 1) (nomark _)) 
          (pss_cons (ps_set (i := 2) sc_Ldraw.nd rfl (Or.inl rfl) (pe_op op_mod (pe_callTy call_int1 (by rfl) T.n_int (by decide +kernel) (pa_cons (pe_ix ix_list (pv 0) pe_int (fun _ _ => rfl)) pa_nil)) (pv 1)))
          (pss_cons (ps_asg (pe_op op_fdivW (pe_ix ix_list (pv 0) pe_int (fun _ _ => rfl)) (pv 1)) (pg_sub (pv 0) pe_int set_list))
          (pss_one (ps_ret (pv 2))))) pss_nil)
      (pss_cons (ps_asg (pe_op op_mod (pe_callTy call_int1 (by rfl) T.n_int (by decide +kernel) (pa_cons (pe_op op_add (pe_op op_mul (pe_ix ix_list (pv 0) pe_int (fun _ _ => rfl)) pe_int) pe_int) pa_nil)) pe_int) (pg_sub (pv 0) pe_int set_list))
      (pss_cons (ps_asg (pe_op op_mod (pe_callTy call_int1 (by rfl) T.n_int (by decide +kernel) (pa_cons (pe_op op_add (pe_op op_mul (pe_ix ix_list (pv 0) pe_int (fun _ _ => rfl)) pe_int) pe_int) pa_nil)) pe_int) (pg_sub (pv 0) pe_int set_list))
      (pss_one (ps_ret (pe_op op_mod (pe_callTy call_int1 (by rfl) T.n_int (by decide +kernel) (pa_cons (pe_op op_add (pe_op op_fdivW (pe_ix ix_list (pv 0) pe_int (fun _ _ => rfl)) pe_int) (pe_op op_fdivW (pe_ix ix_list (pv 0) pe_int (fun _ _ => rfl)) pe_int)) pa_nil)) (pv 1))))))), ?_⟩
    refine ⟨_, rfl, p, _, _, _, rfl, rfl, SqL.of hp, at_of (j := 0) rfl rfl, _, rfl, _, _, rfl, rfl, _, rfl, ite2 (fun hc => ?_) fun hc => ?_⟩
    · refine ⟨_, rfl, p, _, _, _, rfl, rfl, SqL.of hp, at_of (j := 0) rfl rfl, .inl ⟨_, rfl, _, rfl, _, _, rfl, rfl, c0, ?_⟩⟩
      refine ⟨_, rfl, p, _, _, _, rfl, rfl, SqL.of hp, at_of (j := 0) rfl rfl, _, rfl, _, _, rfl, rfl, wide_div c0 cz (by decide) (by decide), _, rfl, p, _, _, 0, rfl, rfl, hp, rfl, ?_⟩
      refine ⟨_, rfl, q _ _ (Int.emod_nonneg _ (by omega)) (Int.emod_lt_of_pos _ c0) ⟨b / c, o, t, upd_same, Int.ediv_nonneg b0 (by omega), o0, t0⟩ fun d u hd e => by rw [upd_ne hd]; exact e⟩
    · refine ⟨_, rfl, p, _, _, _, rfl, rfl, SqL.of hp, at_of (j := 1) rfl rfl, _, _, rfl, rfl, .inr ⟨by decide, by decide⟩, _, _, rfl, rfl, .inl ⟨_, rfl, _, _, rfl, rfl, by show (0 : Int) < 2147483647; decide, _, rfl, p, _, _, 1, rfl, rfl, hp, rfl, ?_⟩⟩
      refine ⟨_, rfl, p, _, _, _, rfl, rfl, SqL.of upd_same, at_of (j := 2) rfl rfl, _, _, rfl, rfl, .inr ⟨by decide, by decide⟩, _, _, rfl, rfl, .inl ⟨_, rfl, _, _, rfl, rfl, by show (0 : Int) < 2147483399; decide, _, rfl, p, _, _, 2, rfl, rfl, upd_same, rfl, ?_⟩⟩
      have e1 := Int.emod_nonneg (o * 16807 + 36) (show (2147483647 : Int) ≠ 0 by decide)
      have e2 := Int.emod_nonneg (t * 40692 + 7) (show (2147483399 : Int) ≠ 0 by decide)
      refine ⟨_, rfl, p, _, _, _, rfl, rfl, SqL.of upd_same, at_of (j := 1) rfl rfl, _, _, rfl, rfl, wide_div (b := 64) (by decide) (by decide) (by decide) (by decide), _, rfl, p, _, _, _, rfl, rfl, SqL.of upd_same, at_of (j := 2) rfl rfl, _, _, rfl, rfl, wide_div (b := 64) (by decide) (by decide) (by decide) (by decide), _, _, rfl, rfl, .inl ⟨_, rfl, _, rfl, _, _, rfl, rfl, c0, ?_⟩⟩
      exact q _ _ (Int.emod_nonneg _ (by omega)) (Int.emod_lt_of_pos _ c0) ⟨b, _, _, upd_same, b0, e1, e2⟩ fun d u hd e => by rw [upd_ne hd, upd_ne hd]; exact e
def spFar : L2.Sp := fun vs H Q _ => ∃ p : Addr, vs = [.ref p] ∧ StA H p ∧ ∀ v H', 1 ≤ v → v ≤ 10 ^ 30 → StA H' p → SX p H H' → Q (.int v) H'
theorem ok_Lfar (T : Tx K mg) : FnOk P w K mg base CX0 2 (T.f 33) (T.fd 33) ["_law_state"] spFar := by
  refine T.d_Lfar.F.ok sc_Lfar (fun vs H Q E h => ?_) (fun cdv A outer s H vs Q E hr h => ?_)
  · obtain ⟨p, rfl, _⟩ := h
    rfl
  · obtain ⟨p, rfl, hp, q⟩ := h
    refine ⟨_, 
      (pss_cons (ps_set (i := 1) sc_Lfar.nd rfl (Or.inl rfl) (pe_call (ok_Ldraw T) (hr.mono (by decide)) (by rfl) T.d_Ldraw.g T.d_Ldraw.k T.d_Ldraw.b .nil pass0 (pa_cons (pv 0) (pa_cons (pe_op op_pow pe_int pe_int) pa_nil))))
      (pss_cons (ps_set (i := 1) sc_Lfar.nd rfl (Or.inl rfl) (pe_op op_add (pe_op op_mul (pv 1) (pe_op op_pow pe_int pe_int)) (pe_call (ok_Ldraw T) (hr.mono (by decide)) (by rfl) T.d_Ldraw.g T.d_Ldraw.k T.d_Ldraw.b .nil pass0 (pa_cons (pv 0) (pa_cons (pe_op op_pow pe_int pe_int) pa_nil)))))
      (pss_one (ps_ret (pe_op op_add (pe_op op_add (pe_op op_mul (pv 1) (pe_op op_pow pe_int pe_int)) (pe_call (ok_Ldraw T) (hr.mono (by decide)) (by rfl) T.d_Ldraw.g T.d_Ldraw.k T.d_Ldraw.b .nil pass0 (pa_cons (pv 0) (pa_cons (pe_op op_pow pe_int pe_int) pa_nil)))) pe_int))))), ?_⟩
    refine ⟨_, rfl, _, _, rfl, rfl, ⟨by decide, by decide, by decide⟩, p, _, rfl, hp, by decide, by decide, fun v1 H1 a1 b1 hp1 s1 => ?_⟩
    refine ⟨_, rfl, _, _, rfl, rfl, ⟨by decide, by decide, by decide⟩, _, _, rfl, rfl, .inr ⟨by decide, by decide⟩, _, rfl, _, _, rfl, rfl, ⟨by decide, by decide, by decide⟩, p, _, rfl, hp1, by decide, by decide, fun v2 H2 a2 b2 hp2 s2 => ⟨_, _, rfl, rfl, ?_⟩⟩
    refine ⟨_, rfl, _, _, rfl, rfl, ⟨by decide, by decide, by decide⟩, _, _, rfl, rfl, .inr ⟨by decide, by decide⟩, _, rfl, _, _, rfl, rfl, ⟨by decide, by decide, by decide⟩, p, _, rfl, hp2, by decide, by decide, fun v3 H3 a3 b3 hp3 s3 => ⟨_, _, rfl, rfl, _, _, rfl, rfl, ?_⟩⟩
    have c1 : v1 < 10000000000 := b1
    have c2 : v2 < 10000000000 := b2
    have c3 : v3 < 10000000000 := b3
    have e : (10 : Int) ^ (10 : Int).toNat = 10000000000 := by decide
    refine q _ H3 ?_ ?_ hp3 ((s1.trans s2).trans s3)
    · rw [e]; omega
    · rw [e]
      show _ ≤ (1000000000000000000000000000000 : Int)
      omega
def spLLowest : L2.Sp := fun vs H Q _ => ∃ a b : Int, vs = [.int a, .int b] ∧ 0 ≤ a ∧ 0 < b ∧ b.natAbs < 2 ^ 8000 ∧ ∀ p, H p = none → Q (.ref p) (upd H p (.tup [.int (a / (Int.gcd a b : Nat)), .int (b / (Int.gcd a b : Nat))]))
theorem ok_Llowest (T : Tx K mg) : FnOk P w K mg base CX0 1 (T.f 40) (T.fd 40) ["_law_top", "_law_bottom"] spLLowest := by
  refine T.d_Llowest.F.ok sc_Llowest (fun vs H Q E h => ?_) (fun cdv A outer s H vs Q E hr h => ?_)
  · obtain ⟨a, b, rfl, _⟩ := h
    rfl
  · obtain ⟨a, b, rfl, ha, hb, hz, q⟩ := h
    obtain ⟨g1, g2⟩ := gcd_lt (a := a) hb hz
    refine ⟨_, 
      (pss_cons (ps_set (i := 2) sc_Llowest.nd rfl (Or.inl rfl) (pv 0))
      (pss_cons (ps_set (i := 3) sc_Llowest.nd rfl (Or.inl rfl) (pv 1))
      (pss_cons (ps_while PassesOwn.never (pt_cmpR op_gt (pv 3) pe_int (nomark _)) 
          (pss_one (ps_par (i := 2) (j := 3) rfl sc_Llowest.nd rfl rfl (by decide) rfl rfl (pa_cons (pv 3) (pa_cons (pe_op op_mod (pe_callTy call_int1 (by rfl) T.n_int (by decide +kernel) (pa_cons (pv 2) pa_nil)) (pv 3)) pa_nil)) rfl)))
      (pss_one (ps_ret (pe_tup (pa_cons (pe_op op_fdivW (pv 0) (pv 2)) (pa_cons (pe_op op_fdivW (pv 1) (pv 2)) pa_nil)))))))), ?_⟩
    refine ⟨_, rfl, _, rfl, ?_⟩
    refine while_by (fun σ H' => ∃ x y : Int, σ = [some (.int a), some (.int b), some (.int x), some (.int y)] ∧ 0 ≤ x ∧ 0 ≤ y ∧ Int.gcd x y = Int.gcd a b ∧ H' = H) (fun σ _ => match σ with | [_, _, _, some (.int y)] => y.toNat | _ => 0) ⟨a, b, rfl, ha, Int.le_of_lt hb, rfl, rfl⟩ ?_ ?_
    · rintro σ H' ⟨x, y, rfl, hx, hy, hg, rfl⟩
      refine ⟨_, rfl, _, _, rfl, rfl, _, rfl, ite2 (fun hc => ?_) fun hc => ?_⟩
      · have hy0 : 0 < y := of_decide_eq_true hc
        refine ⟨_, rfl, _, rfl, .inl ⟨_, rfl, _, rfl, _, _, rfl, rfl, hy0, _, _, rfl, ?_⟩⟩
        refine ⟨⟨y, x % y, rfl, hy, Int.emod_nonneg _ (by omega), ?_, rfl⟩, ?_⟩
        · rw [gcd_step hx hy0]; exact hg
        · have h1 := Int.emod_lt_of_pos x hy0
          have h2 := Int.emod_nonneg x (show y ≠ 0 by omega)
          show (x % y).toNat < y.toNat
          omega
      · have hy0 : y = 0 := by
          have : ¬ (y > 0) := fun z => hc (decide_eq_true z)
          omega
        subst hy0
        have e : x = ((Int.gcd a b : Nat) : Int) := by
          rw [← hg]
          simp
          omega
        subst e
        exact ⟨_, rfl, _, rfl, _, _, rfl, rfl, wide_div g2 g1 (by decide) (by decide), _, rfl, _, rfl, _, _, rfl, rfl, wide_div g2 g1 (by decide) (by decide), by show 2 ≤ sizeLine; decide, q⟩
    · rintro σ H' Q1 Q2 hq ⟨v, h1, i, j, h2, h3, b, h4, h5⟩
      exact ⟨v, h1, i, j, h2, h3, b, h4, hq _ _ h5⟩
end
end K36
-- text D14
set_option maxRecDepth 100000
set_option maxHeartbeats 4000000
namespace K36
open PySem PySem.Spec PyProof.Rows L2
theorem ix_nat {n : Nat} {v : Int} (h0 : 0 ≤ v) (h1 : v < n) : ixN n v = some v.toNat := by
  unfold ixN
  rw [if_pos h0, if_pos h1]
theorem iv_erase : ∀ (r : List Int) (k : Nat), (iv r).eraseIdx k = iv (r.eraseIdx k)
  | [], _ => rfl
  | _ :: _, 0 => rfl
  | a :: r, k + 1 => by
    show V.int a :: (iv r).eraseIdx k = V.int a :: iv (r.eraseIdx k)
    rw [iv_erase r k]
theorem erase_perm : ∀ (r : List Int) (k : Nat) (hk : k < r.length), (r[k] :: r.eraseIdx k).Perm r
  | [], _, hk => absurd hk (Nat.not_lt_zero _)
  | _ :: _, 0, _ => List.Perm.refl _
  | a :: r, k + 1, hk => (List.Perm.swap a _ _).trans ((erase_perm r k (Nat.lt_of_succ_lt_succ hk)).cons a)
theorem rgV_nat (n : Nat) : rgV 0 (n : Int) = iv ((List.range n).map fun i : Nat => (i : Int)) := by
  unfold rgV
  rw [show ((n : Int) - 0).toNat = n by omega]
  show _ = List.map V.int (List.map _ _)
  rw [List.map_map]
  refine List.map_congr_left fun i _ => ?_
  show V.int (0 + (i : Int)) = V.int (i : Int)
  rw [Int.zero_add]
theorem nd_range (n : Nat) : ((List.range n).map fun i : Nat => (i : Int)).Nodup :=
  List.Pairwise.map _ (fun a b h => by intro z; exact h (Int.ofNat.inj z)) List.nodup_range
/-- a list of pairs of ints -/
def PL (H : Hp) (q : Addr) (ps : List (Int × Int)) : Prop := ∃ qs : List Addr, H q = some (.lst (qs.map V.ref)) ∧ Paired (fun (p : Int × Int) t => H t = some (.tup [.int p.1, .int p.2])) ps qs
theorem PL.same {H H' : Hp} {q : Addr} {ps : List (Int × Int)} (h : PL H q ps) (e : Same H H') : PL H' q ps := by
  obtain ⟨qs, h1, h2⟩ := h
  exact ⟨qs, e _ _ h1, L2.Paired.mapP h2 fun _ _ z => e _ _ z⟩
theorem PL.keep {H H' : Hp} {q x : Addr} {xs : List V} {ps : List (Int × Int)} (h : PL H q ps) (hx : H x = some (.lst xs)) (hq : q ≠ x) (e : ∀ b o, b ≠ x → H b = some o → H' b = some o) : PL H' q ps := by
  obtain ⟨qs, h1, h2⟩ := h
  exact ⟨qs, e _ _ hq h1, L2.Paired.mapP h2 fun _ _ z => e _ _ (ne_of z hx fun z => by cases z) z⟩
theorem PL.add {H : Hp} {q t : Addr} {ps : List (Int × Int)} {a b : Int} {qs : List Addr} (h1 : H q = some (.lst (qs.map V.ref))) (h2 : Paired (fun (p : Int × Int) t => H t = some (.tup [.int p.1, .int p.2])) ps qs) (ht : H t = some (.tup [.int a, .int b])) : PL (upd H q (.lst (qs.map V.ref ++ [.ref t]))) q (ps ++ [(a, b)]) := by
  have k : ∀ b ys, H b = some (.tup ys) → (upd H q (.lst (qs.map V.ref ++ [.ref t]))) b = some (.tup ys) := fun b ys z => by rw [upd_ne (ne_of z h1 fun z => by cases z)]; exact z
  refine ⟨qs ++ [t], by rw [upd_same]; simp, pr_snoc (L2.Paired.mapP h2 fun _ _ z => k _ _ z) (k _ _ ht)⟩
theorem StA.upd {p q : Addr} {H : Hp} {o : HO} (h : StA H p) (hq : p ≠ q) : StA (upd H q o) p := let ⟨b, c, t, h1, h2⟩ := h; ⟨b, c, t, by rw [upd_ne hq]; exact h1, h2⟩
theorem StA.lst {p : Addr} {H : Hp} (h : StA H p) : ∃ xs, H p = some (.lst xs) := let ⟨b, c, t, h1, _⟩ := h; ⟨_, h1⟩
theorem SX.upd {p q : Addr} {H H' : Hp} {o : HO} (h : SX p H H') (hq : H q = none) : SX p H (upd H' q o) := fun b u n e => by rw [upd_ne (ne_of_none e hq)]; exact h b u n e
theorem lc_prs {te : TE} {vs : List Nat} {σ : L2.St} {H : Hp} {E : Addr} {Qd : Hp → Prop} {lo : Int} {n : Nat} (g : TG) (f : Nat → Int × Int) (hE : H E = none) (hn : n < 1000)
    (hs : ∀ i H1 Qn, i < n → (∀ t H2, Same H1 H2 → H1 t = none → H2 t = some (.tup [.int (f i).1, .int (f i).2]) → H2 = upd H1 t (.tup [.int (f i).1, .int (f i).2]) → Qn (.ref t) H2) → g (.int (lo + i)) (wipe σ vs) H1 fun σ2 H2 => wipe σ2 vs = wipe σ vs ∧ te σ2 H2 Qn)
    (hg : ∀ v σ H Q1 Q2, (∀ σ H, Q1 σ H → Q2 σ H) → g v σ H Q1 → g v σ H Q2)
    (q : ∀ H2, Same H H2 → PL H2 E ((List.range n).map f) → Qd H2) :
    ∃ W : Nat → Nat → Hp → Prop, (∃ m, W 0 m (upd H E (.lst []))) ∧ ∀ i m H, W i m H →
      ((Itr lo n).stop i H ∧ Qd H) ∨ ((Itr lo n).go i H ∧ ∃ Nx : Hp → Prop, (∀ H', Nx H' → ∃ m', m' < m ∧ W (i + 1) m' H') ∧ ∀ x H', (Itr lo n).yld i H x H' → g x (wipe σ vs) H' fun σ2 H2 => wipe σ2 vs = wipe σ vs ∧ tYes σ2 H2 fun b H3 =>
        if b = true then te σ2 H3 fun y H4 => ∃ acc, H4 E = some (.lst acc) ∧ acc.length < sizeLine ∧ Nx (upd H4 E (.lst (acc ++ [y]))) else Nx H3) := by
  refine lc_it (n := n) walk_range (fun i H' => Same H H' ∧ PL H' E ((List.range i).map f)) ⟨same_new hE, [], upd_same, .nil⟩ (fun i H' _ z => trivial) ?_ fun H2 z => q H2 z.1 z.2
  rintro i x H1 H2 hi ⟨s1, qs, h1, h2⟩ ⟨rfl, rfl⟩
  refine hg _ _ _ _ _ ?_ (hs i _ (fun y H4 => ∃ acc, H4 E = some (.lst acc) ∧ acc.length < sizeLine ∧ Same H (upd H4 E (.lst (acc ++ [y]))) ∧ PL (upd H4 E (.lst (acc ++ [y]))) E ((List.range (i + 1)).map f)) hi ?_)
  · rintro σ2 H2 ⟨a, b⟩
    exact ⟨a, yesT b⟩
  · rintro t H3 s3 ht hx rfl
    refine ⟨_, s3 _ _ h1, small_line ?_, same_upd hE (s1.trans s3), ?_⟩
    · have := h2.length
      rw [List.length_map, List.length_range] at this
      rw [List.length_map]; omega
    · rw [List.range_succ, List.map_append]
      exact PL.add (s3 _ _ h1) (L2.Paired.mapP h2 fun _ _ z => s3 _ _ z) hx
section
variable {P : Program} {w : World} {K : PySem.W.Frag} {mg : PySem.Str → Option Value} {base : Heap}
def spPairs : L2.Sp := fun vs H Q _ => ∃ (p : Addr) (n : Nat), vs = [.ref p, .int n] ∧ StA H p ∧ 2 ≤ n ∧ n ≤ 8 ∧
  ∀ H' d ps, H d = none → StA H' p → SX p H H' → PL H' d ps → ps.length ≤ 8 → (∀ q ∈ ps, 0 ≤ q.1 ∧ q.1 < n ∧ 0 ≤ q.2 ∧ q.2 < n ∧ q.1 ≠ q.2) → Q (.ref d) H'
theorem last_ok {σ : L2.St} {H1 : Hp} {n : Nat} {sh : Int} {R : VK} (h5 : σ[5]? = some (some (.int sh))) (h1 : σ[1]? = some (some (.int n))) (n2 : 2 ≤ n) (q : ∀ la : Int, 2 ≤ la → la ≤ n → R (.int la) H1) :
    tCB (fun xs H Q => (∃ i, xs = [V.int i] ∧ Q (V.int i) H) ∨ ∃ k, xs = [V.bl k] ∧ Q (V.int (if k = true then 1 else 0)) H)
        (tCons (tAndV (tOp rEq (tVar 5) (tC (V.int 5))) (tOp (rI0 fun i j => V.bl (decide (j < i))) (tVar 1) (tC (V.int 2)))) tNil) σ H1 fun y H2 => rI0 (fun i j => V.int (i - j)) (.int n) y H2 R := by
  refine ⟨_, h5, rfl, _, rfl, ?_⟩
  by_cases c : (V.int sh = V.int 5)
  · rw [decide_eq_true c]
    refine ⟨_, h1, _, _, rfl, rfl, .inr ⟨_, rfl, _, _, rfl, rfl, ?_⟩⟩
    by_cases c2 : (2 : Int) < n
    · rw [decide_eq_true c2]
      exact q _ (by show 2 ≤ (n : Int) - 1; omega) (by show (n : Int) - 1 ≤ n; omega)
    · rw [decide_eq_false c2]
      exact q _ (by show 2 ≤ (n : Int) - 0; omega) (by show (n : Int) - 0 ≤ n; omega)
  · rw [decide_eq_false c]
    exact .inr ⟨_, rfl, _, _, rfl, rfl, q _ (by show 2 ≤ (n : Int) - 0; omega) (by show (n : Int) - 0 ≤ n; omega)⟩
theorem gt_in {o : List Int} {i : Int} (h0 : 0 ≤ i) (h1 : i < o.length) : gt o i ∈ o := List.mem_of_getElem? (gt_at h0 h1)
theorem gt_inj {o : List Int} (hn : o.Nodup) {i j : Int} (h0 : 0 ≤ i) (h1 : i < o.length) (h2 : 0 ≤ j) (h3 : j < o.length) (e : gt o i = gt o j) : i = j := by
  have a := gt_at h0 h1
  have b := gt_at h2 h3
  rw [← e, ← a] at b
  have := (List.getElem?_inj (by omega) hn).mp b
  omega
theorem shift_ok {a d n : Int} (a0 : 0 ≤ a) (an : a < n) (d0 : 0 ≤ d) (dn : d < n - 1) : 0 ≤ (a + 1 + d) % n ∧ (a + 1 + d) % n < n ∧ (a + 1 + d) % n ≠ a := by
  refine ⟨Int.emod_nonneg _ (by omega), Int.emod_lt_of_pos _ (by omega), ?_⟩
  by_cases h : a + 1 + d < n
  · rw [Int.emod_eq_of_lt (by omega) h]; omega
  · rw [show a + 1 + d = (a + 1 + d - n) + n * 1 by omega, Int.add_mul_emod_self_left, Int.emod_eq_of_lt (by omega) (by omega)]; omega
/-- what follows, once for all roads through t -/
theorem seqJ {t u : TS} {D : Ends} {σ : L2.St} {H : Hp} (R : L2.St → Hp → Prop) (h1 : ∀ σ' H', R σ' H' → u D σ' H') (h2 : ∀ u' : TS, (∀ σ' H', R σ' H' → u' D σ' H') → t { D with nx := u' D } σ H) : tSeq t u D σ H := h2 u h1
theorem none_back {p q : Addr} {H H' : Hp} (h : SX p H H') (hp : StA H' p) (hq : H' q = none) : H q = none := by
  cases e : H q with
  | none => rfl
  | some o =>
    have np : q ≠ p := fun z => by
      obtain ⟨b, c, t, h1, _⟩ := hp
      rw [z, h1] at hq
      cases hq
    have := h _ _ np e
    rw [hq] at this
    cases this
theorem PL.len {H : Hp} {q : Addr} {ps : List (Int × Int)} {qs : List Addr} (h : PL H q ps) (e : H q = some (.lst (qs.map V.ref))) : ps.length = qs.length := by
  obtain ⟨rs, h1, h2⟩ := h
  rw [e] at h1
  have := congrArg List.length (HO.lst.inj (Option.some.inj h1))
  rw [List.length_map, List.length_map] at this
  rw [this]; exact h2.length
/-- the heap in the making of the pairs -/
structure Jp (H : Hp) (p O : Addr) (o : List Int) (n : Nat) (m : Nat) (H' : Hp) (D : Addr) (ips : List (Int × Int)) : Prop where
  st : StA H' p
  sx : SX p H H'
  ho : H' O = some (.lst (iv o))
  nD : H D = none
  dO : D ≠ O
  pl : PL H' D ips
  good : ∀ q ∈ ips, 0 ≤ q.1 ∧ q.1 < n ∧ 0 ≤ q.2 ∧ q.2 < n ∧ q.1 ≠ q.2
  len : ips.length ≤ m
theorem Jp.same {H : Hp} {p O : Addr} {o : List Int} {n m : Nat} {H' H2 : Hp} {D : Addr} {ips : List (Int × Int)} (j : Jp H p O o n m H' D ips) (e : Same H' H2) : Jp H p O o n m H2 D ips :=
  ⟨j.st.mono e, j.sx.trans (SX.of e), e _ _ j.ho, j.nD, j.dO, j.pl.same e, j.good, j.len⟩
theorem Jp.draw {H : Hp} {p O : Addr} {o : List Int} {n m : Nat} {H' H2 : Hp} {D : Addr} {ips : List (Int × Int)} (j : Jp H p O o n m H' D ips) (hO : O ≠ p) (hD : D ≠ p) (e : SX p H' H2) (st : StA H2 p) : Jp H p O o n m H2 D ips := by
  refine ⟨st, j.sx.trans e, e _ _ hO j.ho, j.nD, j.dO, ?_, j.good, j.len⟩
  obtain ⟨qs, h1, h2⟩ := j.pl
  obtain ⟨b, c, t, hp, _⟩ := j.st
  exact ⟨qs, e _ _ hD h1, L2.Paired.mapP h2 fun _ _ z => e _ _ (ne_of z hp fun z => by cases z) z⟩
theorem Jp.add {H : Hp} {p O : Addr} {o : List Int} {n m : Nat} {H' : Hp} {D t : Addr} {ips : List (Int × Int)} {a b : Int} {qs : List Addr} (j : Jp H p O o n m H' D ips) (hp : H p ≠ none) (h1 : H' D = some (.lst (qs.map V.ref))) (h2 : Paired (fun (p : Int × Int) t => H' t = some (.tup [.int p.1, .int p.2])) ips qs)
    (g : 0 ≤ a ∧ a < n ∧ 0 ≤ b ∧ b < n ∧ a ≠ b) (ht : H' t = none) : Jp H p O o n (m + 1) (upd (upd H' t (.tup [.int a, .int b])) D (.lst (qs.map V.ref ++ [.ref t]))) D (ips ++ [(a, b)]) := by
  have pD : p ≠ D := fun z => hp (z ▸ j.nD)
  have pt : p ≠ t := fun z => by
    obtain ⟨b, c, t, h1, _⟩ := j.st
    rw [z, ht] at h1; cases h1
  have Dt : D ≠ t := ne_of_none h1 ht
  have Ot : O ≠ t := ne_of_none j.ho ht
  have s1 := same_new (o := .tup [.int a, .int b]) ht
  refine ⟨(j.st.upd pt).upd pD, ?_, by rw [upd_ne j.dO.symm, upd_ne Ot]; exact j.ho, j.nD, j.dO, ?_, ?_, ?_⟩
  · exact SX.upd (j.sx.trans (SX.of s1)) j.nD
  · exact PL.add (s1 _ _ h1) (L2.Paired.mapP h2 fun _ _ z => s1 _ _ z) upd_same
  · intro q hq
    rcases List.mem_append.mp hq with h | h
    · exact j.good q h
    · rw [List.mem_singleton.mp h]; exact g
  · rw [List.length_append]; have := j.len; show _ + 1 ≤ _; omega
/-- pairs of places, all different -/
def GoodI (n : Nat) (ps : List (Int × Int)) : Prop := ∀ q ∈ ps, 0 ≤ q.1 ∧ q.1 < n ∧ 0 ≤ q.2 ∧ q.2 < n ∧ q.1 ≠ q.2
set_option maxHeartbeats 32000000 in
theorem ok_Lpairs (T : Tx K mg) : FnOk P w K mg base CX0 2 (T.f 34) (T.fd 34) ["_law_state", "_law_size"] spPairs := by
  refine T.d_Lpairs.F.ok sc_Lpairs (fun vs H Q E h => ?_) (fun cdv A outer s H vs Q E hr h => ?_)
  · obtain ⟨p, n, rfl, _⟩ := h
    rfl
  · obtain ⟨p, n, rfl, hp, n2, n8, q⟩ := h
    refine ⟨_, 
      (pss_cons (ps_set (i := 2) sc_Lpairs.nd rfl (Or.inl rfl) (pe_listRg rfl (by rfl) T.n_list (prg_1 (by rfl) T.n_range (pv 1))))
      (pss_cons (ps_set (i := 3) sc_Lpairs.nd rfl (Or.inr rfl) (pe_lst pa_nil))
      (pss_cons (ps_for PassesOwn.never rfl (pi_range1 (by rfl) T.n_range (pa_cons (pv 1) pa_nil)) (pg_name (i := 4) sc_Lpairs.nd rfl (Or.inl rfl)) 
          (pss_one (ps_expr (pe_bm PySem.F.plainAttrs_list PySem.F.slot_list_append PySem.F.type_list_append mt_append (pv 3) (pa_cons (pe_bm PySem.F.plainAttrs_list PySem.F.slot_list_pop PySem.F.type_list_pop mt_popAt (pv 2) (pa_cons (pe_call (ok_Ldraw T) (hr.mono (by decide)) (by rfl) T.d_Ldraw.g T.d_Ldraw.k T.d_Ldraw.b .nil pass0 (pa_cons (pv 0) (pa_cons (pe_callB call_len_seq (by rfl) T.n_len (by decide +kernel) (pa_cons (pv 2) pa_nil)) pa_nil))) pa_nil)) pa_nil)))))
      (pss_cons (ps_set (i := 5) sc_Lpairs.nd rfl (Or.inl rfl) (pe_call (ok_Ldraw T) (hr.mono (by decide)) (by rfl) T.d_Ldraw.g T.d_Ldraw.k T.d_Ldraw.b .nil pass0 (pa_cons (pv 0) (pa_cons pe_int pa_nil))))
      (pss_cons (ps_set (i := 6) sc_Lpairs.nd rfl (Or.inl rfl) (pe_op op_sub (pv 1) (pe_callTy call_int1 (by rfl) T.n_int (by decide +kernel) (pa_cons (pe_and (pe_cmpR op_eq (pv 5) pe_int (nomark _)) (pe_one (pe_cmpR op_gt (pv 1) pe_int (nomark _)))) pa_nil))))
      (pss_cons (ps_set (i := 7) sc_Lpairs.nd rfl (Or.inl rfl) (pe_lst pa_nil))
      (pss_cons (ps_if (PW.pt (pw_or (pt_cmpR op_eq (pv 5) pe_int (nomark _)) (pw_or1 (pt_cmpR op_eq (pv 5) pe_int (nomark _))))) 
          (pss_one (ps_setLc (i := 7) (own := [("_law_k", 4)]) rfl sc_Lpairs.nd rfl rfl (sw_true rfl rfl rfl (by decide +kernel)) (pi_range1 (by rfl) T.n_range (pa_cons (pe_op op_sub (pv 1) pe_int) pa_nil)) (blkOk_by (own := [("_law_k", 4)]) (N := N_Lpairs) (sc := defScope s_Lpairs) (by decide +kernel)) (fun _ _ _ _ _ => (pg_name (i := 4) sc_Lpairs.nd rfl (Or.inl rfl))) (fun _ _ _ _ _ => pts_nil) (fun _ _ _ _ _ => (pe_tup (pa_cons (pv 4) (pa_cons (pe_op op_add (pv 4) pe_int) pa_nil)))))) pss_nil)
      (pss_cons (ps_if (pt_cmpR op_eq (pv 5) pe_int (nomark _)) 
          (pss_one (ps_expr (pe_bm PySem.F.plainAttrs_list PySem.F.slot_list_append PySem.F.type_list_append mt_append (pv 7) (pa_cons (pe_tup (pa_cons pe_int (pa_cons (pe_op op_sub (pv 1) pe_int) pa_nil))) pa_nil)))) pss_nil)
      (pss_cons (ps_if (pt_cmpR op_eq (pv 5) pe_int (nomark _)) 
          (pss_one (ps_setLc (i := 7) (own := [("_law_k", 4)]) rfl sc_Lpairs.nd rfl rfl (sw_true rfl rfl rfl (by decide +kernel)) (pi_range2 (by rfl) T.n_range (pa_cons pe_int (pa_cons (pv 1) pa_nil))) (blkOk_by (own := [("_law_k", 4)]) (N := N_Lpairs) (sc := defScope s_Lpairs) (by decide +kernel)) (fun _ _ _ _ _ => (pg_name (i := 4) sc_Lpairs.nd rfl (Or.inl rfl))) (fun _ _ _ _ _ => pts_nil) (fun _ _ _ _ _ => (pe_tup (pa_cons pe_int (pa_cons (pv 4) pa_nil)))))) pss_nil)
      (pss_cons (ps_set (i := 8) sc_Lpairs.nd rfl (Or.inl rfl) pe_int)
      (pss_cons (ps_if (PW.pt (pw_or (pt_cmpR op_lt (pv 5) pe_int (nomark _)) (pw_or1 (pt_cmpR op_eq (pv 5) pe_int (nomark _))))) 
          (pss_one (ps_set (i := 8) sc_Lpairs.nd rfl (Or.inl rfl) pe_int)) pss_nil)
      (pss_cons (ps_for PassesOwn.never rfl (pi_range1 (by rfl) T.n_range (pa_cons (pe_call (ok_Ldraw T) (hr.mono (by decide)) (by rfl) T.d_Ldraw.g T.d_Ldraw.k T.d_Ldraw.b .nil pass0 (pa_cons (pv 0) (pa_cons (pv 8) pa_nil))) pa_nil)) (pg_name (i := 4) sc_Lpairs.nd rfl (Or.inl rfl)) 
          (pss_cons (ps_set (i := 9) sc_Lpairs.nd rfl (Or.inl rfl) (pe_call (ok_Ldraw T) (hr.mono (by decide)) (by rfl) T.d_Ldraw.g T.d_Ldraw.k T.d_Ldraw.b .nil pass0 (pa_cons (pv 0) (pa_cons (pv 6) pa_nil))))
          (pss_one (ps_expr (pe_bm PySem.F.plainAttrs_list PySem.F.slot_list_append PySem.F.type_list_append mt_append (pv 7) (pa_cons (pe_tup (pa_cons (pv 9) (pa_cons (pe_op op_mod (pe_callTy call_int1 (by rfl) T.n_int (by decide +kernel) (pa_cons (pe_op op_add (pe_op op_add (pv 9) pe_int) (pe_call (ok_Ldraw T) (hr.mono (by decide)) (by rfl) T.d_Ldraw.g T.d_Ldraw.k T.d_Ldraw.b .nil pass0 (pa_cons (pv 0) (pa_cons (pe_op op_sub (pv 6) pe_int) pa_nil)))) pa_nil)) (pv 6)) pa_nil))) pa_nil))))))
      (pss_one (ps_ret (pe_lc (te := (tTup (tCons (tOp (rIxL K) (tVar 3) (tOp (rIxT K) (tVar 10) (tC (.int 0)))) (tCons (tOp (rIxL K) (tVar 3) (tOp (rIxT K) (tVar 10) (tC (.int 1)))) tNil)))) (own := [("_law_pair", 10)]) rfl sc_Lpairs.nd (pi_list (pe_slice sl_list (pv 7) po_none (po_some pe_int))) (blkOk_by (own := [("_law_pair", 10)]) (N := N_Lpairs) (sc := defScope s_Lpairs) (by decide +kernel)) (fun _ _ _ _ _ => (pg_name (i := 10) sc_Lpairs.nd rfl (Or.inl rfl))) (fun _ _ _ _ _ => pts_nil) (fun _ _ _ _ _ => (pe_tup (pa_cons (pe_ix ix_list (pv 3) (pe_ix ix_tup (pv 10) pe_int (fun _ _ => rfl)) (fun _ _ => rfl)) (pa_cons (pe_ix ix_list (pv 3) (pe_ix ix_tup (pv 10) pe_int (fun _ _ => rfl)) (fun _ _ => rfl)) pa_nil))))))))))))))))))), ?_⟩
    -- rest, order
    refine ⟨_, rfl, _, rfl, RgOk.of_le (by omega) (by omega) (by omega) (by omega), fun R hR => ?_⟩
    refine ⟨by show 0 ≤ sizeLine; decide, fun O hO => ?_⟩
    rw [rgV_nat] at hO ⊢
    obtain ⟨b0, o0, t0, hp1, hp2⟩ := id hp
    have hRp : p ≠ R := ne_of_none hp1 hR
    have hOR : R ≠ O := fun z => by rw [← z, upd_same] at hO; cases hO
    have hO0 : H O = none := by rw [upd_ne hOR.symm] at hO; exact hO
    have hOp : p ≠ O := ne_of_none hp1 hO0
    refine ⟨_, rfl, n, rfl, by omega, by omega, ?_⟩
    refine for_it (n := (n : Int).toNat) walk_range (fun i σ H' => ∃ (r o : List Int) (v4 v5 v6 v7 v8 v9 v10 : Option V), σ = [some (.ref p), some (.int n), some (.ref R), some (.ref O), v4, v5, v6, v7, v8, v9, v10] ∧ StA H' p ∧ SX p H H' ∧ H' R = some (.lst (iv r)) ∧ H' O = some (.lst (iv o)) ∧ r.length + i = n ∧ o.length = i ∧
        (o ++ r).Perm ((List.range n).map fun i : Nat => (i : Int)))
      ⟨_, [], none, none, none, none, none, none, none, rfl, (hp.upd hRp).upd hOp, ((SX.refl p H).upd hR).upd hO0, by rw [upd_ne hOR, upd_same], upd_same, by simp, rfl, List.Perm.refl _⟩ (fun _ _ _ _ _ => trivial) ?_ ?_
    · rintro i x σ H1 H2 hi ⟨r, o, v4, v5, v6, v7, v8, v9, v10, rfl, st, sx, hr1, ho1, lr, lo, pm⟩ ⟨rfl, rfl⟩
      have hin : i < n := by omega
      refine ⟨_, rfl, .inl ⟨rfl, _, Or.inl (Or.inl ho1)⟩, _, rfl, .inl ⟨rfl, _, Or.inl (Or.inl hr1)⟩, _, rfl, _, rfl, R, _, rfl, .inl (SqL.of hr1), p, _, rfl, st, ?_, ?_, fun v H3 v0 v1 st3 sx3 => ?_⟩
      · rw [List.length_map]; omega
      · rw [List.length_map, Int.natAbs_natCast]
        exact Nat.lt_of_le_of_lt (show r.length ≤ 8 by omega) (by decide)
      rw [List.length_map] at v1
      have hr3 := sx3 _ _ hRp.symm hr1
      have ho3 := sx3 _ _ hOp.symm ho1
      have hk : v.toNat < r.length := by omega
      have hat : (iv r)[v.toNat]? = some (.int r[v.toNat]) := by rw [List.getElem?_map, List.getElem?_eq_getElem hk]; rfl
      refine ⟨R, _, v, v.toNat, _, rfl, rfl, hr3, by omega, by omega, (ixN_seq (ix_nat v0 (by rw [List.length_map]; exact v1))).1, hat, ?_⟩
      refine ⟨O, _, _, rfl, rfl, by rw [upd_ne hOR.symm]; exact ho3, small_line (by simp; omega), ?_⟩
      refine ⟨r.eraseIdx v.toNat, o ++ [r[v.toNat]], _, _, _, _, _, _, _, rfl, (st3.upd hRp).upd hOp, ((sx.trans sx3).upd hR).upd hO0, ?_, ?_, ?_, ?_, ?_⟩
      · rw [upd_ne hOR, upd_same, iv_erase]
      · rw [upd_same]; simp
      · rw [List.length_eraseIdx_of_lt hk]; omega
      · simp [lo]
      · refine List.Perm.trans ?_ pm
        rw [List.append_assoc]
        exact List.Perm.append_left o (erase_perm r _ hk)
    rintro σ H1 ⟨r, o, v4, v5, v6, v7, v8, v9, v10, rfl, st, sx, hr1, ho1, lr, lo, pm⟩
    have hr0 : r = [] := List.length_eq_zero_iff.mp (by omega)
    subst hr0
    rw [List.append_nil] at pm
    have on : o.length = n := by omega
    have ond : o.Nodup := pm.nodup_iff.mpr (nd_range n)
    have orng : ∀ x ∈ o, 0 ≤ x ∧ x < n := fun x hx => by
      obtain ⟨i, hi, rfl⟩ := List.mem_map.mp (pm.mem_iff.mp hx)
      have := List.mem_range.mp hi
      omega
    clear pm lr lo hr1 hO hp
    -- shape
    refine ⟨_, rfl, p, 6, rfl, st, by decide, by decide, fun sh H2 sh0 sh1 st2 sx2 => ?_⟩
    have ho2 := sx2 _ _ hOp.symm ho1
    have sxx := sx.trans sx2
    clear st sx ho1
    -- last
    refine ⟨_, rfl, last_ok rfl rfl n2 fun la la2 lan => ?_⟩
    refine ⟨by show 0 ≤ sizeLine; decide, fun D hD => ?_⟩
    have hp0 : H p ≠ none := by rw [hp1]; intro z; cases z
    have j0 : Jp H p O o n 0 (upd H2 D (.lst [])) D [] := by
      have nD := none_back sxx st2 hD
      exact ⟨st2.upd (ne_of_none hp1 nD), sxx.upd nD, by rw [upd_ne (ne_of_none ho2 hD)]; exact ho2, nD, (ne_of_none ho2 hD).symm, ⟨[], upd_same, .nil⟩, fun q hq => (List.not_mem_nil hq).elim, Nat.le_refl _⟩
    dsimp only [gName, List.set]
    refine seqJ (fun σ' H' => ∃ D v4 ips, σ' = [some (.ref p), some (.int n), some (.ref R), some (.ref O), v4, some (.int sh), some (.int la), some (.ref D), v8, v9, v10] ∧ Jp H p O o n 7 H' D ips) ?_ fun u k => ?_
    rotate_left
    · -- shape 2 or 3
      refine ⟨_, rfl, rfl, _, rfl, ?_⟩
      have A : ∀ Qn : VK, (∀ E ips H', Jp H p O o n 7 H' E ips → Qn (.ref E) H') → tLc (iRng1 (tCons (tOp (rI0 fun i j => V.int (i - j)) (tVar 1) (tC (V.int 1))) tNil)) (gName 4) tYes (tTup (tCons (tVar 4) (tCons (tOp (rI0 fun i j => V.int (i + j)) (tVar 4) (tC (V.int 1))) tNil))) (List.map (fun x => x.snd) [(Str.ofString "_law_k", 4)]) [some (V.ref p), some (V.int ↑n), some (V.ref R), some (V.ref O), v4, some (V.int sh), some (V.int la), some (V.ref D), v8, v9, v10] (upd H2 D (HO.lst [])) Qn := fun Qn q2 => by
        refine ⟨_, rfl, _, _, rfl, rfl, _, rfl, by omega, by omega, fun E hE => ?_⟩
        refine lc_prs (gName 4) (fun k => ((0 : Int) + (k : Int), (0 : Int) + (k : Int) + 1)) hE (by omega) (fun i H1 Qn hi q3 => ⟨rfl, _, rfl, _, rfl, _, _, rfl, rfl, by show 2 ≤ sizeLine; decide, fun t ht => q3 t _ (same_new ht) ht upd_same rfl⟩) (fun v σ H Q1 Q2 h e => h _ _ e) fun H3 s3 pl => q2 E ((List.range ((n : Int) - 1).toNat).map fun k : Nat => ((0 : Int) + (k : Int), (0 : Int) + (k : Int) + 1)) H3 ?_
        have j1 := j0.same s3
        refine ⟨j1.st, j1.sx, j1.ho, none_back j0.sx j0.st hE, (ne_of_none j0.ho hE).symm, pl, fun q hq => ?_, by rw [List.length_map, List.length_range]; omega⟩
        obtain ⟨i, hi, rfl⟩ := List.mem_map.mp hq
        have := List.mem_range.mp hi
        refine ⟨?_, ?_, ?_, ?_, ?_⟩ <;> show _ <;> omega
      by_cases c2 : V.int sh = V.int 2
      · rw [decide_eq_true c2]
        exact iteT (iteT (A _ fun E ips H' j => k _ _ ⟨E, v4, ips, rfl, j⟩))
      · rw [decide_eq_false c2]
        refine iteF ⟨_, rfl, rfl, _, rfl, ite2 (fun _ => A _ fun E ips H' j => k _ _ ⟨E, v4, ips, rfl, j⟩) fun _ => k _ _ ⟨D, v4, [], rfl, ⟨j0.st, j0.sx, j0.ho, j0.nD, j0.dO, j0.pl, j0.good, Nat.zero_le _⟩⟩⟩
    clear j0 hD st2 sx2 ho2 sxx D H2
    rintro σ H2 ⟨D, v4, ips, rfl, j⟩
    refine seqJ (fun σ' H' => ∃ D v4 ips, σ' = [some (.ref p), some (.int n), some (.ref R), some (.ref O), v4, some (.int sh), some (.int la), some (.ref D), v8, v9, v10] ∧ Jp H p O o n 8 H' D ips) ?_ fun u k => ?_
    rotate_left
    · refine ⟨_, rfl, rfl, _, rfl, ite2 (fun hc => ?_) fun hc => ?_⟩
      · obtain ⟨qs, h1, h2⟩ := id j.pl
        refine ⟨_, rfl, .inl ⟨rfl, _, Or.inl (Or.inl h1)⟩, _, rfl, _, _, rfl, rfl, by show 2 ≤ sizeLine; decide, fun t ht => ?_⟩
        refine ⟨D, _, _, rfl, rfl, same_new ht _ _ h1, small_line (by rw [List.length_map, ← j.pl.len h1]; have := j.len; omega), ?_⟩
        exact k _ _ ⟨D, v4, _, rfl, j.add hp0 h1 h2 (by constructor; omega; constructor; omega; constructor; show 0 ≤ (n : Int) - 1; omega; constructor; show (n : Int) - 1 < n; omega; show (0 : Int) ≠ (n : Int) - 1; omega) ht⟩
      · exact k _ _ ⟨D, v4, ips, rfl, ⟨j.st, j.sx, j.ho, j.nD, j.dO, j.pl, j.good, Nat.le_succ_of_le j.len⟩⟩
    clear j D H2 ips
    rintro σ H2 ⟨D, v4, ips, rfl, j⟩
    refine seqJ (fun σ' H' => ∃ D v4 ips, σ' = [some (.ref p), some (.int n), some (.ref R), some (.ref O), v4, some (.int sh), some (.int la), some (.ref D), v8, v9, v10] ∧ Jp H p O o n 8 H' D ips) ?_ fun u k => ?_
    rotate_left
    · refine ⟨_, rfl, rfl, _, rfl, ite2 (fun hc => ?_) fun hc => ?_⟩
      · refine ⟨_, rfl, _, _, rfl, ⟨by decide, by decide, by omega, by omega⟩, fun E hE => ?_⟩
        refine lc_prs (gName 4) (fun k => ((0 : Int), (1 : Int) + (k : Int))) hE (by omega) (fun i H1 Qn hi q3 => ⟨rfl, _, rfl, by show 2 ≤ sizeLine; decide, fun t ht => q3 t _ (same_new ht) ht upd_same rfl⟩) (fun v σ H Q1 Q2 h e => h _ _ e) fun H3 s3 pl => ?_
        have j1 := j.same s3
        refine k _ _ ⟨E, v4, _, rfl, j1.st, j1.sx, j1.ho, none_back j.sx j.st hE, (ne_of_none j.ho hE).symm, pl, fun q hq => ?_, by rw [List.length_map, List.length_range]; omega⟩
        obtain ⟨i, hi, rfl⟩ := List.mem_map.mp hq
        have := List.mem_range.mp hi
        refine ⟨?_, ?_, ?_, ?_, ?_⟩ <;> show _ <;> omega
      · exact k _ _ ⟨D, v4, ips, rfl, j⟩
    clear j D H2 ips
    rintro σ H2 ⟨D, v4, ips, rfl, j⟩
    refine seqJ (fun σ' H' => σ' = [some (.ref p), some (.int n), some (.ref R), some (.ref O), v4, some (.int sh), some (.int la), some (.ref D), some (.int 3), v9, v10] ∧ H' = H2) ?_ fun u k => k _ _ ⟨rfl, rfl⟩
    rintro σ H3 ⟨rfl, rfl⟩
    refine seqJ (fun σ' H' => ∃ e : Int, (e = 3 ∨ e = 7) ∧ σ' = [some (.ref p), some (.int n), some (.ref R), some (.ref O), v4, some (.int sh), some (.int la), some (.ref D), some (.int e), v9, v10] ∧ H' = H3) ?_ fun u k => ?_
    rotate_left
    · have k3 := k _ H3 ⟨3, .inl rfl, rfl, rfl⟩
      have k7 := k _ H3 ⟨7, .inr rfl, rfl, rfl⟩
      refine ⟨_, rfl, _, _, rfl, rfl, _, rfl, ite2 (fun _ => iteT k7) fun _ => ⟨_, rfl, rfl, _, rfl, ite2 (fun _ => k7) fun _ => k3⟩⟩
    rintro σ H2 ⟨e, he, rfl, rfl⟩
    have he0 : 0 < e ∧ e ≤ 7 := by rcases he with rfl | rfl <;> decide
    have Dp := (ne_of_none hp1 j.nD).symm
    refine ⟨_, rfl, _, rfl, p, _, rfl, j.st, he0.1, Nat.lt_of_le_of_lt (show e.natAbs ≤ 7 by omega) (by decide), fun m H3 m0 m1 st3 sx3 => ⟨_, rfl, by omega, by omega, ?_⟩⟩
    have j3 := j.draw hOp.symm Dp sx3 st3
    clear j sx3 st3 H2
    refine for_it (n := m.toNat) walk_range (fun i σ H' => ∃ v4 v9 ips, σ = [some (.ref p), some (.int n), some (.ref R), some (.ref O), v4, some (.int sh), some (.int la), some (.ref D), some (.int e), v9, v10] ∧ Jp H p O o n (8 + i) H' D ips) ⟨_, _, _, rfl, j3⟩ (fun _ _ _ _ _ => trivial) ?_ ?_
    · rintro i x σ H1 H2 hi ⟨v4, v9, ips, rfl, j⟩ ⟨rfl, rfl⟩
      refine ⟨_, rfl, _, rfl, p, _, rfl, j.st, by omega, Nat.lt_of_le_of_lt (show la.natAbs ≤ 8 by omega) (by decide), fun one H3 one0 one1 st3 sx3 => ?_⟩
      have j4 := j.draw hOp.symm Dp sx3 st3
      obtain ⟨qs, h1, h2⟩ := id j4.pl
      refine ⟨_, rfl, .inl ⟨rfl, _, Or.inl (Or.inl h1)⟩, _, rfl, _, rfl, _, _, rfl, rfl, _, rfl, _, rfl, _, _, rfl, rfl, p, _, rfl, st3, by omega, Nat.lt_of_le_of_lt (show (la - 1).natAbs ≤ 8 by omega) (by decide), fun d H5 d0 d1 st5 sx5 => ⟨_, _, rfl, rfl, ?_⟩⟩
      have j5 := j4.draw hOp.symm Dp sx5 st5
      have h15 := sx5 _ _ Dp h1
      obtain ⟨s1, s2, s3⟩ := shift_ok one0 one1 d0 d1
      refine .inl ⟨_, rfl, _, rfl, _, _, rfl, rfl, by omega, by show 2 ≤ sizeLine; decide, fun t ht => ?_⟩
      refine ⟨D, _, _, rfl, rfl, same_new ht _ _ h15, small_line (by rw [List.length_map, ← j4.pl.len h1]; have := j4.len; omega), ?_⟩
      exact ⟨_, _, _, rfl, j5.add hp0 h15 (L2.Paired.mapP h2 fun _ _ z => sx5 _ _ (by obtain ⟨b, c, t, hp, _⟩ := st3; exact ne_of z hp fun z => by cases z) z) ⟨one0, by omega, s1, by omega, fun z => s3 z.symm⟩ ht⟩
    · rintro σ H2 ⟨v4, v9, ips, rfl, j⟩
      obtain ⟨qs, h1q, h2q⟩ := id j.pl
      refine ⟨_, rfl, 8, rfl, D, _, rfl, SqL.of h1q, fun S hS => ?_⟩
      have sS := same_new (o := .lst (cutV (qs.map V.ref) none (some 8))) hS
      have cl : (cutV (qs.map V.ref) none (some 8)).length ≤ 8 := by
        unfold cutV
        rw [List.length_take, show (8 : Int) = ((8 : Nat) : Int) from rfl, HT.sIx_nat, HT.sIx_none]
        omega
      have cm : ∀ i x, (cutV (qs.map V.ref) none (some 8))[i]? = some x → ∃ (t : Addr) (y : Int × Int), x = V.ref t ∧ H2 t = some (.tup [.int y.1, .int y.2]) ∧ y ∈ ips := fun i x hx => by
        have hm := List.mem_of_mem_drop (List.mem_of_mem_take (List.mem_of_getElem? hx))
        obtain ⟨t, ht, rfl⟩ := List.mem_map.mp hm
        obtain ⟨k, hk, e⟩ := List.getElem_of_mem ht
        obtain ⟨y, hy, r⟩ := pr_at h2q (show qs[k]? = some t by rw [List.getElem?_eq_getElem hk, e])
        exact ⟨t, y, rfl, r, List.mem_of_getElem? hy⟩
      generalize cutV (qs.map V.ref) none (some 8) = cs at sS cl cm ⊢
      refine ⟨S, rfl, ⟨_, SqL.of upd_same⟩, fun E hE => ?_⟩
      have hE2 : H2 E = none := by
        have : E ≠ S := fun z => by rw [z, upd_same] at hE; cases hE
        rw [upd_ne this] at hE; exact hE
      refine lc_it (n := cs.length) walk_list (fun i H' => Same (upd H2 S (.lst cs)) H' ∧ ∃ ps, PL H' E ps ∧ ps.length = i ∧ ∀ q ∈ ps, 0 ≤ q.1 ∧ q.1 < n ∧ 0 ≤ q.2 ∧ q.2 < n ∧ q.1 ≠ q.2) ⟨same_new hE, [], ⟨[], upd_same, .nil⟩, rfl, fun q hq => (List.not_mem_nil hq).elim⟩ (fun i H' _ z => SqL.of (z.1 _ _ upd_same)) ?_ ?_
      · rintro i x H1 H4 hi ⟨s1, ps, ⟨rs, r1, r2⟩, pn, g⟩ ⟨rfl, hx⟩
        obtain ⟨t, y, rfl, ht, hy⟩ := cm i x hx
        obtain ⟨g1, g2, g3, g4, g5⟩ := j.good y hy
        have ht1 := s1 _ _ (sS _ _ ht)
        have ho1 := s1 _ _ (sS _ _ j.ho)
        refine ⟨rfl, yesT ?_⟩
        refine ⟨_, rfl, _, rfl, t, _, _, _, rfl, rfl, SqT.of ht1, at_of (j := 0) rfl rfl, O, _, _, _, rfl, rfl, SqL.of ho1, at_gt g1 (by omega), ?_⟩
        refine ⟨_, rfl, _, rfl, t, _, _, _, rfl, rfl, SqT.of ht1, at_of (j := 1) rfl rfl, O, _, _, _, rfl, rfl, SqL.of ho1, at_gt g3 (by omega), by show 2 ≤ sizeLine; decide, fun u hu => ?_⟩
        refine ⟨_, same_new hu _ _ r1, small_line (by rw [List.length_map, ← r2.length]; omega), same_upd hE (s1.trans (same_new hu)), ps ++ [(gt o y.1, gt o y.2)], PL.add (same_new hu _ _ r1) (L2.Paired.mapP r2 fun _ _ z => same_new hu _ _ z) upd_same, by rw [List.length_append, pn]; rfl, fun q hq => ?_⟩
        rcases List.mem_append.mp hq with h | h
        · exact g q h
        · rw [List.mem_singleton.mp h]
          have m1 := orng _ (gt_in g1 (by omega : y.1 < o.length))
          have m2 := orng _ (gt_in g3 (by omega : y.2 < o.length))
          exact ⟨m1.1, m1.2, m2.1, m2.2, fun z => g5 (gt_inj ond g1 (by omega) g3 (by omega) z)⟩
      · rintro H4 ⟨s1, ps, pl, pn, g⟩
        exact q H4 E ps (none_back j.sx j.st hE2) (j.st.mono (sS.trans s1)) (j.sx.trans (SX.of (sS.trans s1))) pl (by omega) g
end
end K36
-- text D15
set_option maxRecDepth 100000
set_option maxHeartbeats 4000000
namespace K36
open PySem PySem.Spec PyProof.Rows L2
/-! ### the law's lines -/
def pw (L : List Ln) : Int := L.foldl (fun a l => a * (l.2.2 + 1)) 1
theorem pw_snoc (L : List Ln) (l : Ln) : pw (L ++ [l]) = pw L * (l.2.2 + 1) := by
  unfold pw
  rw [List.foldl_append]
  rfl
/-- a test whose body is one, by whichever road it holds -/
theorem ifJ {c : TT} {t u : TS} {D : Ends} {σ : L2.St} {H : Hp} (C : Prop) (cond : ∀ Qb : Bool → Hp → Prop, (C → Qb true H) → Qb false H → c σ H Qb) (body : C → t D σ H) (els : u D σ H) : tIfS c t u D σ H :=
  cond _ (fun h => iteT (body h)) (iteF els)
structure GoodL (n : Nat) (far : Bool) (L : List Ln) : Prop where
  lt : ∀ l ∈ L, 0 ≤ l.1 ∧ l.1 < l.2.1 ∧ l.2.1 < n ∧ 1 ≤ l.2.2 ∧ l.2.2 ≤ 10 ^ 30
  near : far = false → pw L ≤ 64
structure Jl (H : Hp) (p : Addr) (n : Nat) (far : Bool) (m : Nat) (H' : Hp) (X : Addr) (L : List Ln) : Prop where
  st : StA H' p
  sx : SX p H H'
  nX : H X = none
  ls : ∃ qs : List Addr, H' X = some (.lst (qs.map V.ref)) ∧ Paired (fun l q => LnAt H' q l) L qs
  good : GoodL n far L
  len : L.length ≤ m
  one : 1 ≤ pw L
  big : (pw L).natAbs ≤ 2 ^ (100 * m)
theorem Jl.draw {H : Hp} {p : Addr} {n : Nat} {far : Bool} {m : Nat} {H' H2 : Hp} {X : Addr} {L : List Ln} (j : Jl H p n far m H' X L) (hX : X ≠ p) (e : SX p H' H2) (st : StA H2 p) : Jl H p n far m H2 X L := by
  refine ⟨st, j.sx.trans e, j.nX, ?_, j.good, j.len, j.one, j.big⟩
  obtain ⟨qs, h1, h2⟩ := j.ls
  obtain ⟨b, c, t, hp, _⟩ := j.st
  exact ⟨qs, e _ _ hX h1, L2.Paired.mapP h2 fun _ _ z => e _ _ (ne_of (show H' _ = some _ from z) hp fun z => by cases z) z⟩
theorem Jl.more {H : Hp} {p : Addr} {n : Nat} {far : Bool} {m : Nat} {H' : Hp} {X : Addr} {L : List Ln} (j : Jl H p n far m H' X L) : Jl H p n far (m + 1) H' X L :=
  ⟨j.st, j.sx, j.nX, j.ls, j.good, Nat.le_succ_of_le j.len, j.one, Nat.le_trans j.big (Nat.pow_le_pow_right (by decide) (by omega))⟩
theorem Jl.add {H : Hp} {p : Addr} {n : Nat} {far : Bool} {m : Nat} {H' : Hp} {X t : Addr} {L : List Ln} {a b r : Int} {qs : List Addr} (j : Jl H p n far m H' X L) (hp : H p ≠ none) (h1 : H' X = some (.lst (qs.map V.ref))) (h2 : Paired (fun l q => LnAt H' q l) L qs)
    (g : 0 ≤ a ∧ a < b ∧ b < n ∧ 1 ≤ r ∧ r ≤ 10 ^ 30) (gf : far = false → pw L * (r + 1) ≤ 64) (ht : H' t = none) : Jl H p n far (m + 1) (upd (upd H' t (.tup [.int a, .int b, .int r])) X (.lst (qs.map V.ref ++ [.ref t]))) X (L ++ [(a, b, r)]) := by
  have pX : p ≠ X := fun z => hp (z ▸ j.nX)
  have pt : p ≠ t := fun z => by
    obtain ⟨b, c, t, h1, _⟩ := j.st
    rw [z, ht] at h1; cases h1
  have Xt : X ≠ t := ne_of_none h1 ht
  have s1 := same_new (o := .tup [.int a, .int b, .int r]) ht
  have u1 : ∀ q l, LnAt (upd H' t (.tup [.int a, .int b, .int r])) q l → LnAt (upd (upd H' t (.tup [.int a, .int b, .int r])) X (.lst (qs.map V.ref ++ [.ref t]))) q l := fun q l z => by
    unfold LnAt
    rw [upd_ne (ne_of (show _ = some _ from z) (s1 _ _ h1) fun z => by cases z)]; exact z
  refine ⟨(j.st.upd pt).upd pX, SX.upd (j.sx.trans (SX.of s1)) j.nX, j.nX, ⟨qs ++ [t], by rw [upd_same]; simp, pr_snoc (L2.Paired.mapP h2 fun _ _ z => u1 _ _ (s1 _ _ z)) (u1 _ _ upd_same)⟩, ⟨fun l hl => ?_, fun hf => by rw [pw_snoc]; exact gf hf⟩, by rw [List.length_append]; have := j.len; show _ + 1 ≤ _; omega, ?_, ?_⟩
  · rcases List.mem_append.mp hl with h | h
    · exact j.good.lt l h
    · rw [List.mem_singleton.mp h]; exact g
  · rw [pw_snoc]
    have := Int.mul_le_mul j.one (show (1 : Int) ≤ r + 1 by omega) (by decide) (by have := j.one; omega)
    simpa using this
  · rw [pw_snoc, Int.natAbs_mul, show 100 * (m + 1) = 100 * m + 100 by omega, Nat.pow_add]
    refine Nat.mul_le_mul j.big ?_
    have e : (2 : Nat) ^ 100 = 1267650600228229401496703205376 := by decide
    have e2 : (10 : Int) ^ 30 = 1000000000000000000000000000000 := by decide
    rw [e]
    rw [e2] at g
    show (r + 1).natAbs ≤ _
    omega
def DK (H : Hp) (D : Addr) (qs : List Addr) (ps : List (Int × Int)) : Prop := H D = some (.lst (qs.map V.ref)) ∧ Paired (fun (p : Int × Int) t => H t = some (.tup [.int p.1, .int p.2])) ps qs
theorem DK.keep {H H' : Hp} {D p X : Addr} {qs : List Addr} {ps : List (Int × Int)} {xs : List V} (h : DK H D qs ps) (hp : StA H p) (hX : H X = some (.lst xs)) (Dp : D ≠ p) (DX : D ≠ X) (e : ∀ b o, b ≠ p → b ≠ X → H b = some o → H' b = some o) : DK H' D qs ps := by
  obtain ⟨b, c, t, h1, _⟩ := hp
  exact ⟨e _ _ Dp DX h.1, L2.Paired.mapP h.2 fun _ _ z => e _ _ (ne_of z h1 fun z => by cases z) (ne_of z hX fun z => by cases z) z⟩
theorem DK.sx {H H' : Hp} {D p : Addr} {qs : List Addr} {ps : List (Int × Int)} (h : DK H D qs ps) (hp : StA H p) (Dp : D ≠ p) (e : SX p H H') : DK H' D qs ps := by
  obtain ⟨b, c, t, h1, _⟩ := hp
  exact ⟨e _ _ Dp h.1, L2.Paired.mapP h.2 fun _ _ z => e _ _ (ne_of z h1 fun z => by cases z) z⟩
section
variable {P : Program} {w : World} {K : PySem.W.Frag} {mg : PySem.Str → Option Value} {base : Heap}
def spLines : L2.Sp := fun vs H Q _ => ∃ (p : Addr) (n : Nat) (far : Bool), vs = [.ref p, .int n, .bl far] ∧ StA H p ∧ 2 ≤ n ∧ n ≤ 8 ∧
  ∀ H' t L, StA H' p → SX p H H' → LTup H' t L → GoodL n far L → L.length ≤ 8 → Q (.ref t) H'
set_option maxHeartbeats 32000000 in
theorem ok_Llines (T : Tx K mg) : FnOk P w K mg base CX0 3 (T.f 35) (T.fd 35) ["_law_state", "_law_size", "_law_far_here"] spLines := by
  refine T.d_Llines.F.ok sc_Llines (fun vs H Q E h => ?_) (fun cdv A outer s H vs Q E hr h => ?_)
  · obtain ⟨p, n, far, rfl, _⟩ := h
    rfl
  · obtain ⟨p, n, far, rfl, hp, n2, n8, q⟩ := h
    refine ⟨_, 
      (pss_cons (ps_set (i := 3) sc_Llines.nd rfl (Or.inl rfl) (pe_lst pa_nil))
      (pss_cons (ps_set (i := 4) sc_Llines.nd rfl (Or.inl rfl) pe_int)
      (pss_cons (ps_for PassesOwn.never rfl (pi_list (pe_call (ok_Lpairs T) (hr.mono (by decide)) (by rfl) T.d_Lpairs.g T.d_Lpairs.k T.d_Lpairs.b .nil pass0 (pa_cons (pv 0) (pa_cons (pv 1) pa_nil)))) (pg_name (i := 5) sc_Llines.nd rfl (Or.inl rfl)) 
          (pss_cons (ps_set (i := 6) sc_Llines.nd rfl (Or.inl rfl) (pe_op op_add pe_int (pe_call (ok_Ldraw T) (hr.mono (by decide)) (by rfl) T.d_Ldraw.g T.d_Ldraw.k T.d_Ldraw.b .nil pass0 (pa_cons (pv 0) (pa_cons pe_int pa_nil)))))
          (pss_cons (ps_if (pt_val (pv 2)) 
              (pss_one (ps_set (i := 6) sc_Llines.nd rfl (Or.inl rfl) (pe_call (ok_Lfar T) (hr.mono (by decide)) (by rfl) T.d_Lfar.g T.d_Lfar.k T.d_Lfar.b .nil pass0 (pa_cons (pv 0) pa_nil)))) 
              (pss_one (ps_if (pt_cmpR op_gt (pe_op op_mulW (pv 4) (pe_op op_add (pv 6) pe_int)) pe_int (nomark _)) 
                  (pss_one (ps_set (i := 6) sc_Llines.nd rfl (Or.inl rfl) pe_int)) pss_nil)))
          (pss_one (ps_if (PW.pt (pw_or (pt_val (pv 2)) (pw_or1 (pt_cmpR op_le (pe_op op_mulW (pv 4) (pe_op op_add (pv 6) pe_int)) pe_int (nomark _))))) 
              (pss_cons (ps_set (i := 4) sc_Llines.nd rfl (Or.inl rfl) (pe_op op_mulW (pv 4) (pe_op op_add (pv 6) pe_int)))
              (pss_one (ps_expr (pe_bm PySem.F.plainAttrs_list PySem.F.slot_list_append PySem.F.type_list_append mt_append (pv 3) (pa_cons (pe_tup (pa_cons (pe_callB (call_min2 rfl) (by rfl) T.n_min (by decide +kernel) (pa_cons (pe_ix ix_tup (pv 5) pe_int (fun _ _ => rfl)) (pa_cons (pe_ix ix_tup (pv 5) pe_int (fun _ _ => rfl)) pa_nil))) (pa_cons (pe_callB (call_max2 rfl) (by rfl) T.n_max (by decide +kernel) (pa_cons (pe_ix ix_tup (pv 5) pe_int (fun _ _ => rfl)) (pa_cons (pe_ix ix_tup (pv 5) pe_int (fun _ _ => rfl)) pa_nil))) (pa_cons (pv 6) pa_nil)))) pa_nil))))) pss_nil)))))
      (pss_one (ps_ret (pe_tupleOf (by rfl) T.n_tuple (pv 3))))))), ?_⟩
    refine ⟨by show 0 ≤ sizeLine; decide, fun X hX => ?_⟩
    obtain ⟨b0, o0, t0, hp1, hp2⟩ := id hp
    have hpX : p ≠ X := ne_of_none hp1 hX
    refine ⟨_, rfl, _, rfl, p, n, rfl, hp.upd hpX, n2, n8, fun H2 D ps hD st2 sx2 pl pl8 pg => ?_⟩
    have hDX : D ≠ X := fun z => by rw [z, upd_same] at hD; cases hD
    have hD0 : H D = none := by rw [upd_ne hDX] at hD; exact hD
    have hDp := (ne_of_none hp1 hD0).symm
    have hX2 := sx2 _ _ hpX.symm upd_same
    have hp0 : H p ≠ none := by rw [hp1]; intro z; cases z
    obtain ⟨qs, d1, d2⟩ := pl
    have sxH : SX p H H2 := fun b o nb e => sx2 _ _ nb (by rw [upd_ne (ne_of_none e hX)]; exact e)
    have j0 : Jl H p n far 0 H2 X [] := ⟨st2, sxH, hX, ⟨[], hX2, .nil⟩, ⟨fun l hl => (List.not_mem_nil hl).elim, fun _ => by decide⟩, Nat.le_refl _, by decide, by decide⟩
    refine ⟨D, rfl, ⟨_, SqL.of d1⟩, ?_⟩
    refine for_it (n := (qs.map V.ref).length) walk_list (fun i σ H' => ∃ v5 v6 L, σ = [some (.ref p), some (.int n), some (.bl far), some (.ref X), some (.int (pw L)), v5, v6] ∧ Jl H p n far i H' X L ∧ DK H' D qs ps) ⟨none, none, [], rfl, j0, d1, d2⟩ (fun i σ H' _ ⟨_, _, _, _, _, h⟩ => SqL.of h.1) ?_ ?_
    · rintro i x σ H1 H3 hi ⟨v5, v6, L, rfl, j, dk⟩ ⟨rfl, hx⟩
      have hi8 : i < 8 := by rw [List.length_map, ← d2.length] at hi; omega
      rw [List.getElem?_map] at hx
      obtain ⟨t, ht, rfl⟩ := Option.map_eq_some_iff.mp hx
      obtain ⟨y, hy, ty⟩ := pr_at dk.2 ht
      obtain ⟨g1, g2, g3, g4, g5⟩ := pg y (List.mem_of_getElem? hy)
      refine ⟨_, rfl, p, _, rfl, j.st, by decide, by decide, fun v H3 v0 v1 st3 sx3 => ⟨_, _, rfl, rfl, ?_⟩⟩
      have j3 := j.draw hpX.symm sx3 st3
      have dk3 := dk.sx j.st hDp sx3
      have ty3 : H3 t = some (.tup [.int y.1, .int y.2]) := by
        obtain ⟨b, c, u, h1, _⟩ := id j.st
        exact sx3 _ _ (ne_of ty h1 fun z => by cases z) ty
      clear ty dk j sx3 st3
      dsimp only [gName, List.set]
      have pwb : (pw L).natAbs < 2 ^ 1000 := Nat.lt_of_le_of_lt j3.big (Nat.pow_lt_pow_right (by decide) (by omega))
      have e30 : (10 : Int) ^ 30 = 1000000000000000000000000000000 := by decide
      have mulok : ∀ wd : Int, 1 ≤ wd → wd ≤ 10 ^ 30 → CMulW (pw L) (wd + 1) := fun wd h0 h1 => wide_mul (a := 1000) (b := 101) pwb (by
        have e : (2 : Nat) ^ 101 = 2535301200456458802993406410752 := by decide
        rw [e]
        rw [e30] at h1
        omega) (by decide) (by decide) (by decide)
      refine seqJ (fun σ' H' => ∃ wd : Int, σ' = [some (V.ref p), some (V.int ↑n), some (V.bl far), some (V.ref X), some (V.int (pw L)), some (.ref t), some (.int wd)] ∧ 1 ≤ wd ∧ wd ≤ 10 ^ 30 ∧ Jl H p n far i H' X L ∧ DK H' D qs ps ∧ H' t = some (.tup [.int y.1, .int y.2])) ?_ fun u k => ?_
      rotate_left
      · refine ⟨_, rfl, far, rfl, ite2 (fun hf => ?_) fun hf => ?_⟩
        · refine ⟨_, rfl, p, rfl, j3.st, fun wd H4 w0 w1 st4 sx4 => ?_⟩
          refine k _ _ ⟨wd, rfl, w0, w1, j3.draw hpX.symm sx4 st4, dk3.sx j3.st hDp sx4, ?_⟩
          obtain ⟨b, c, u, h1, _⟩ := id j3.st
          exact sx4 _ _ (ne_of ty3 h1 fun z => by cases z) ty3
        · refine ⟨_, rfl, _, rfl, _, _, rfl, rfl, _, _, rfl, rfl, mulok _ (by omega) (by rw [e30]; omega), _, _, rfl, rfl, _, rfl, ite2 (fun hc => ?_) fun hc => ?_⟩
          · exact k _ _ ⟨1, rfl, by decide, by decide, j3, dk3, ty3⟩
          · exact k _ _ ⟨1 + v, rfl, by omega, by rw [e30]; omega, j3, dk3, ty3⟩
      clear j3 dk3 ty3 H3
      rintro σ H3 ⟨wd, rfl, w0, w1, j, dk, ty⟩
      have mk := mulok wd w0 w1
      refine ifJ (far = false → pw L * (wd + 1) ≤ 64) (fun Qb q1 q0 => ⟨_, rfl, far, rfl, ite2 (fun hf => q1 fun z => by rw [z] at hf; cases hf) fun hf => ⟨_, rfl, _, rfl, _, _, rfl, rfl, _, _, rfl, rfl, mk, _, _, rfl, rfl, _, rfl, ?_⟩⟩) (fun hC => ?_) ⟨_, _, _, rfl, j.more, dk⟩
      · by_cases c : pw L * (wd + 1) ≤ 64
        · rw [decide_eq_true c]; exact q1 fun _ => c
        · rw [decide_eq_false c]; exact q0
      · obtain ⟨rs, r1, r2⟩ := id j.ls
        have rl := j.len
        refine ⟨_, rfl, _, rfl, _, _, rfl, rfl, _, _, rfl, rfl, mk, ?_⟩
        refine ⟨_, rfl, .inl ⟨rfl, _, Or.inl (Or.inl r1)⟩, ?_⟩
        refine ⟨_, rfl, t, _, _, _, rfl, rfl, SqT.of ty, at_of (j := 0) rfl rfl, _, rfl, t, _, _, _, rfl, rfl, SqT.of ty, at_of (j := 1) rfl rfl, _, _, rfl, ?_⟩
        refine ⟨_, rfl, t, _, _, _, rfl, rfl, SqT.of ty, at_of (j := 0) rfl rfl, _, rfl, t, _, _, _, rfl, rfl, SqT.of ty, at_of (j := 1) rfl rfl, _, _, rfl, _, rfl, by show 3 ≤ sizeLine; decide, fun e he => ?_⟩
        refine ⟨X, _, _, rfl, rfl, same_new he _ _ r1, small_line (by rw [List.length_map, ← r2.length]; omega), ?_⟩
        refine ⟨_, _, L ++ [(if y.2 < y.1 then y.2 else y.1, if y.2 > y.1 then y.2 else y.1, wd)], by rw [pw_snoc]; rfl, j.add hp0 r1 r2 ⟨?_, ?_, ?_, w0, w1⟩ hC he, ?_⟩
        · split <;> omega
        · split <;> split <;> omega
        · split <;> omega
        · refine dk.keep (X := X) j.st r1 hDp hDX fun b o bp bX e1 => ?_
          rw [upd_ne bX]
          exact same_new he _ _ e1
    · rintro σ H1 ⟨v5, v6, L, rfl, j, dk⟩
      obtain ⟨rs, r1, r2⟩ := id j.ls
      have jl := j.len
      refine ⟨_, rfl, .inl ⟨X, _, rfl, SqL.of r1, fun t ht => ?_⟩⟩
      refine q _ t L (j.st.mono (same_new ht)) (j.sx.trans (SX.of (same_new ht))) ⟨rs, upd_same, L2.Paired.mapP r2 fun _ _ z => same_new ht _ _ z⟩ j.good ?_
      rw [List.length_map, ← d2.length] at jl
      omega
end
end K36
-- text Ma9
set_option maxRecDepth 100000
set_option maxHeartbeats 4000000
namespace K36
open PySem PySem.Spec PyProof.Rows L2
/-! ### the law's table of forests, in plain terms -/
theorem W_le_pw : ∀ (L : List Ln), (∀ l ∈ L, 0 ≤ l.2.2) → ∀ f, W L f ≤ pw L := by
  intro L
  induction hk : L.length generalizing L with
  | zero =>
    intro _ f
    obtain rfl := List.length_eq_zero_iff.mp hk
    exact Int.le_refl _
  | succ k ih =>
    intro h f
    obtain ⟨L', l, rfl⟩ : ∃ L' l, L = L' ++ [l] := ⟨L.dropLast, L.getLast (by intro z; rw [z] at hk; cases hk), (List.dropLast_concat_getLast _).symm⟩
    have hL : L'.length = k := by rw [List.length_append] at hk; simpa using hk
    have h' : ∀ x ∈ L', 0 ≤ x.2.2 := fun x hx => h x (List.mem_append_left _ hx)
    have hl := h l (by simp)
    have a := ih L' hL h'
    rw [W_snoc, W_cons, pw_snoc, Int.mul_add, Int.mul_one]
    have b := Int.mul_le_mul_of_nonneg_left (a (mrg f l.1 l.2.1)) hl
    have c := W_pos L' f h'
    have d := a f
    have e : (0 : Int) ≤ pw L' * l.2.2 := Int.mul_nonneg (by omega) hl
    rw [Int.mul_comm] at b
    split
    · omega
    · rw [Int.mul_comm l.2.2]
      have e2 : pw L' * l.2.2 = l.2.2 * pw L' := Int.mul_comm _ _
      rw [Int.mul_comm] at b
      rw [Int.mul_comm] at b
      omega
def kvG (g : Int → V) (M : Tb) : List (List Key × V) := M.map fun m => (m.1.map Sum.inl, g m.2)
theorem inl_inj : ∀ {J I : List Int}, J.map (Sum.inl (β := PySem.Str)) = I.map Sum.inl → J = I
  | [], [], _ => rfl
  | [], _ :: _, h => by cases h
  | _ :: _, [], h => by cases h
  | a :: J, b :: I, h => by
    have h1 := List.cons.inj h
    rw [Sum.inl.inj h1.1, inl_inj h1.2]
theorem kV_iv (J : List Int) : (J.map Sum.inl).map kV = iv J := by
  rw [List.map_map]
  rfl
theorem val_g (g : Int → V) (J : List Int) : ∀ M : Tb, valV (kvG g M) (J.map Sum.inl) = (getO M J).map g
  | [] => rfl
  | m :: M => by
    have ih := val_g g J M
    rw [get_cons]
    unfold kvG at ih ⊢
    rw [List.map_cons]
    by_cases e : m.1 = J
    · rw [valV_pos (by rw [e]), if_pos e]; rfl
    · rw [valV_neg (fun z => e (inl_inj z)), if_neg e, ih]
theorem put_g (g : Int → V) (M : Tb) (J : List Int) (z : Int) : putK (kvG g M) (J.map Sum.inl) (g z) = kvG g (putT M J z) := by
  have hv := val_g g J M
  unfold putK putT
  rw [valV_any, hv, Option.isSome_map]
  by_cases e : (getO M J).isSome = true
  · rw [if_pos e, if_pos e]
    unfold kvG
    rw [List.map_map, List.map_map]
    refine List.map_congr_left fun m _ => ?_
    show (if m.1.map Sum.inl = J.map Sum.inl then (m.1.map Sum.inl, g z) else (m.1.map Sum.inl, g m.2)) = _
    by_cases q : m.1 = J
    · rw [if_pos (by rw [q])]
      show _ = ((if m.1 = J then (m.1, z) else m).1.map Sum.inl, g (if m.1 = J then (m.1, z) else m).2)
      rw [if_pos q]
    · rw [if_neg fun z => q (inl_inj z)]
      show _ = ((if m.1 = J then (m.1, z) else m).1.map Sum.inl, g (if m.1 = J then (m.1, z) else m).2)
      rw [if_neg q]
  · rw [if_neg e, if_neg e]
    unfold kvG
    rw [List.map_append]
    rfl
theorem dget_g {H : Hp} {a b : Addr} {g : Int → V} {M : Tb} {J : List Int} (e : H a = some (.dT (kvG g M))) (eb : H b = some (.tup (iv J))) : DGet H a (.ref b) ((getO M J).map g) :=
  .inr ⟨_, J.map Sum.inl, b, .inl e, rfl, by rw [kV_iv]; exact eb, (val_g g J M).symm⟩
theorem dput_g {H : Hp} {a b : Addr} {g : Int → V} {M : Tb} {J : List Int} {z : Int} {v : V} (hv : v = g z) (e : H a = some (.dT (kvG g M))) (eb : H b = some (.tup (iv J))) (hl : M.length < sizeLine) : DPut H a (.ref b) v (upd H a (.dT (kvG g (putT M J z)))) :=
  .inr ⟨_, J.map Sum.inl, b, e, rfl, by rw [kV_iv]; exact eb, by unfold kvG; rw [List.length_map]; exact hl, by rw [hv, put_g]⟩
/-- one entry of the table goes into the next one -/
def lst (l : Ln) (acc : Tb) (m : List Int × Int) : Tb :=
  if gt m.1 l.1 = gt m.1 l.2.1 then addT acc m.1 m.2 else addT (addT acc m.1 m.2) (mgL m.1 l.1 l.2.1) (m.2 * l.2.2)
theorem lst_nd {l : Ln} {acc : Tb} {m : List Int × Int} (h : (acc.map (·.1)).Nodup) : ((lst l acc m).map (·.1)).Nodup := by
  unfold lst
  split
  · exact add_nd h
  · exact add_nd (add_nd h)
theorem lst_phi {l : Ln} {acc : Tb} {m : List Int × Int} (h : (acc.map (·.1)).Nodup) (F : List Int → Int) : Phi (lst l acc m) F = Phi acc F + m.2 * (F m.1 + if gt m.1 l.1 = gt m.1 l.2.1 then 0 else l.2.2 * F (mgL m.1 l.1 l.2.1)) := by
  unfold lst
  split
  · rw [phi_add h, Int.add_zero]
  · rw [phi_add (add_nd h), phi_add h, Int.mul_add, ← Int.mul_assoc, Int.add_assoc]
theorem lsf_nd {l : Ln} : ∀ (M acc : Tb), (acc.map (·.1)).Nodup → ((M.foldl (lst l) acc).map (·.1)).Nodup
  | [], _, h => h
  | m :: M, acc, h => lsf_nd M _ (lst_nd h)
theorem lsf_phi {l : Ln} (F : List Int → Int) : ∀ (M acc : Tb), (acc.map (·.1)).Nodup → Phi (M.foldl (lst l) acc) F = Phi acc F + Phi M fun J => F J + if gt J l.1 = gt J l.2.1 then 0 else l.2.2 * F (mgL J l.1 l.2.1)
  | [], acc, h => by
    show Phi acc F = Phi acc F + 0
    rw [Int.add_zero]
  | m :: M, acc, h => by
    show Phi (M.foldl (lst l) (lst l acc m)) F = _
    rw [lsf_phi F M _ (lst_nd h), lst_phi h, phi_cons, Int.add_assoc]
theorem lst_len (l : Ln) (acc : Tb) (m : List Int × Int) : (lst l acc m).length ≤ acc.length + 2 := by
  unfold lst
  split
  · have := add_len acc m.1 m.2; omega
  · have := add_len acc m.1 m.2
    have := add_len (addT acc m.1 m.2) (mgL m.1 l.1 l.2.1) (m.2 * l.2.2)
    omega
theorem lsf_len (l : Ln) : ∀ (M acc : Tb), (M.foldl (lst l) acc).length ≤ acc.length + 2 * M.length
  | [], acc => by show acc.length ≤ acc.length + 0; omega
  | m :: M, acc => by
    have := lsf_len l M (lst l acc m)
    have := lst_len l acc m
    show (M.foldl (lst l) (lst l acc m)).length ≤ acc.length + 2 * (M.length + 1)
    omega
theorem mgL_len (J : List Int) (a b : Int) : (mgL J a b).length = J.length := by rw [mgL, List.length_map]
theorem lsf_ok {l : Ln} {n : Nat} (hr : 0 ≤ l.2.2) : ∀ (M acc : Tb), (Ks (fun J => J.length = n) acc ∧ Nn acc) → (Ks (fun J => J.length = n) M ∧ Nn M) → Ks (fun J => J.length = n) (M.foldl (lst l) acc) ∧ Nn (M.foldl (lst l) acc)
  | [], acc, h, _ => h
  | m :: M, acc, h, h2 => by
    refine lsf_ok hr M _ ?_ ⟨fun x hx => h2.1 x (List.mem_cons_of_mem _ hx), fun x hx => h2.2 x (List.mem_cons_of_mem _ hx)⟩
    have a := h2.1 m List.mem_cons_self
    have b := h2.2 m List.mem_cons_self
    unfold lst
    split
    · exact ⟨add_ks h.1 a, add_nn h.2 b⟩
    · exact ⟨add_ks (add_ks h.1 a) (by show (mgL _ _ _).length = n; rw [mgL_len]; exact a), add_nn (add_nn h.2 b) (Int.mul_nonneg b hr)⟩
/-- the labels of a row -/
def On (n : Nat) : Int → Prop := fun x => 0 ≤ x ∧ x < n
theorem mgL_gt {J : List Int} {a b x : Int} (h0 : 0 ≤ x) (h1 : x < J.length) : gt (mgL J a b) x = if gt J x = mx (gt J a) (gt J b) then mn (gt J a) (gt J b) else gt J x := by
  have h := gt_at h0 h1
  have h' := gt_at (J := mgL J a b) h0 (by rw [mgL_len]; exact h1)
  rw [mgL, List.getElem?_map, h] at h'
  exact (Option.some.inj h').symm
theorem mgL_ker {J : List Int} {n : Nat} {a b : Int} (hJ : J.length = n) : KerOn (On n) (gt (mgL J a b)) (mrg (gt J) a b) := fun x y hx hy => by
  rw [mgL_gt hx.1 (by rw [hJ]; exact hx.2), mgL_gt hy.1 (by rw [hJ]; exact hy.2), mrg_eq]
  generalize gt J x = X
  generalize gt J y = Y
  generalize gt J a = A
  generalize gt J b = B
  unfold mx mn
  repeat' split
  all_goals omega
theorem Ap_nil : ∀ (ps : List (Int × Int)) (f : Int → Int), Ap ps [] f = Pf ps f
  | [], _ => rfl
  | p :: ps, f => by
    unfold Ap Pf
    rw [Ap_nil ps]
theorem Ap_cons (ps : List (Int × Int)) (l : Ln) (L : List Ln) (f : Int → Int) : Ap ps (l :: L) f = Ap ps L f + if f l.1 = f l.2.1 then 0 else l.2.2 * Ap ps L (mrg f l.1 l.2.1) := by
  rw [← T_Pf, ← T_Pf, ← T_Pf]
  rfl
/-- the table behind the first k lines -/
structure FT (n : Nat) (L : List Ln) (k : Nat) (M : Tb) : Prop where
  nd : (M.map (·.1)).Nodup
  ks : Ks (fun J => J.length = n) M
  nn : Nn M
  sz : M.length ≤ 2 ^ k
  phi : ∀ ps : List (Int × Int), (∀ p ∈ ps, On n p.1 ∧ On n p.2) → Phi M (fun J => Ap ps (L.drop k) (gt J)) = Ap ps L id
def LOn (n : Nat) (L : List Ln) : Prop := ∀ l ∈ L, On n l.1 ∧ On n l.2.1
theorem gt_range {n : Nat} {x : Int} (h : On n x) : gt ((List.range n).map fun i : Nat => (i : Int)) x = x := by
  have := gt_at (J := (List.range n).map fun i : Nat => (i : Int)) h.1 (by rw [List.length_map, List.length_range]; exact h.2)
  have hx : x.toNat < n := by have := h.1; have := h.2; omega
  rw [List.getElem?_map, List.getElem?_range hx] at this
  have e := Option.some.inj this
  rw [← e]
  have := h.1
  show ((x.toNat : Nat) : Int) = x
  omega
theorem ft_zero {n : Nat} {L : List Ln} (hL : LOn n L) : FT n L 0 [((List.range n).map fun i : Nat => (i : Int), 1)] where
  nd := by simp
  ks := fun m hm => by rw [List.mem_singleton.mp hm]; show List.length (List.map _ _) = n; rw [List.length_map, List.length_range]
  nn := fun m hm => by rw [List.mem_singleton.mp hm]; show (0 : Int) ≤ 1; decide
  sz := Nat.le_refl 1
  phi := fun ps hp => by
    rw [phi_cons, phi_nil, Int.add_zero]
    show (1 : Int) * _ = _
    rw [Int.one_mul]
    refine Ap_kerOn (S := On n) ps _ (fun x y hx hy => ?_) hL hp
    show gt ((List.range n).map fun i : Nat => (i : Int)) x = gt ((List.range n).map fun i : Nat => (i : Int)) y ↔ x = y
    rw [gt_range hx, gt_range hy]
theorem ft_succ {n : Nat} {L : List Ln} {k : Nat} {M : Tb} {l : Ln} (hL : LOn n L) (hr : 0 ≤ l.2.2) (h : FT n L k M) (hl : L[k]? = some l) : FT n L (k + 1) (M.foldl (lst l) []) := by
  have ok := lsf_ok (l := l) (n := n) hr M [] ⟨fun m hm => (List.not_mem_nil hm).elim, fun m hm => (List.not_mem_nil hm).elim⟩ ⟨h.ks, h.nn⟩
  refine ⟨lsf_nd M [] List.nodup_nil, ok.1, ok.2, ?_, fun ps hp => ?_⟩
  · have := lsf_len l M []
    have := h.sz
    rw [Nat.pow_succ]
    show _ ≤ _
    have : ([] : Tb).length = 0 := rfl
    omega
  · rw [← h.phi ps hp, lsf_phi _ M [] List.nodup_nil, phi_nil, Int.zero_add]
    refine phi_congr fun m hm => ?_
    have ed : L.drop k = l :: L.drop (k + 1) := by
      obtain ⟨hk, e⟩ := List.getElem?_eq_some_iff.mp hl
      rw [List.drop_eq_getElem_cons hk, e]
    show Ap ps (L.drop (k + 1)) (gt m.1) + _ = Ap ps (L.drop k) (gt m.1)
    rw [ed, Ap_cons]
    congr 1
    split
    · rfl
    · congr 1
      refine Ap_kerOn (S := On n) ps _ (mgL_ker (h.ks m hm)) (fun x hx => hL x (List.mem_of_mem_drop hx)) hp
theorem FT.wt {n : Nat} {L : List Ln} {k : Nat} {M : Tb} (h : FT n L k M) (hr : ∀ l ∈ L, 0 ≤ l.2.2) {B : Nat} (hb : (W L id).natAbs < 2 ^ B) : ∀ m ∈ M, m.2.natAbs < 2 ^ B := fun m hm => by
  have a := weight_le (F := fun J => Ap [] (L.drop k) (gt J)) h.nn (fun m _ => W_pos _ _ fun l hl => hr l (List.mem_of_mem_drop hl)) m hm
  rw [h.phi [] fun p hp => (List.not_mem_nil hp).elim] at a
  have b := h.nn m hm
  have c : Ap [] L id = W L id := rfl
  rw [c] at a
  omega
/-- the whole table: what it says of the pairs -/
theorem FT.apart {n : Nat} {L : List Ln} {M : Tb} (h : FT n L L.length M) {ps : List (Int × Int)} (hp : ∀ p ∈ ps, On n p.1 ∧ On n p.2) : Phi M (fun J => Pf ps (gt J)) = Ap ps L id := by
  rw [← h.phi ps hp, List.drop_length]
  exact phi_congr fun m _ => (Ap_nil ps _).symm
end K36
-- text D16
set_option maxRecDepth 100000
set_option maxHeartbeats 4000000
namespace K36
open PySem PySem.Spec PyProof.Rows L2
/-! ### the law's tables of forests -/
theorem SX.same {p : Addr} {H0 H H' : Hp} (h : SX p H H') (n : H0 p = none) (e : Same H0 H) : Same H0 H' := fun b o z => h b o (ne_of_none z n) (e b o z)
theorem sx_put {p : Addr} {H H' : Hp} {o : HO} (h : SX p H H') : SX p H (upd H' p o) := fun b u n e => by rw [upd_ne n]; exact h b u n e
theorem getD_g {o : Option Int} : (o.map V.int).getD (.int 0) = .int (o.getD 0) := by cases o <;> rfl
theorem dget_at {H : Hp} {a b : Addr} {g : Int → V} {M : Tb} {J : List Int} {z : Int} {i : Nat} (nd : (M.map (·.1)).Nodup) (hm : M[i]? = some (J, z)) (e : H a = some (.dT (kvG g M))) (eb : H b = some (.tup (iv J))) : DGet H a (.ref b) (some (g z)) := by
  have := dget_g e eb
  rw [get_at nd hm] at this
  exact this
theorem key_at {H : Hp} {g : Int → V} {M : Tb} {bs : List Addr} {i : Nat} {b : Addr} (h : IsKeys H (kvG g M) bs) (hb : bs[i]? = some b) : ∃ m, M[i]? = some m ∧ H b = some (.tup (iv m.1)) := by
  obtain ⟨p, hp, hx⟩ := pr_at h hb
  unfold kvG at hp
  rw [List.getElem?_map] at hp
  obtain ⟨m, hm, rfl⟩ := Option.map_eq_some_iff.mp hp
  exact ⟨m, hm, by rw [← kV_iv]; exact hx⟩
theorem keys_len {H : Hp} {g : Int → V} {M : Tb} {bs : List Addr} (h : IsKeys H (kvG g M) bs) : bs.length = M.length := by
  have := Paired.length h
  unfold kvG at this
  rw [List.length_map] at this
  omega
theorem mn_lt_mx {a b : Int} : mn a b < mx a b ↔ a ≠ b := by
  unfold mn mx
  split <;> split <;> omega
/-- the labels of the higher block become those of the lower one -/
theorem lc_mark {J : It} {G : Hp → Prop} {Jn : List Int} {hi lo : Int} {g : TG} {te : TE} {vs : List Nat} {σ : L2.St} {H : Hp} {D : Addr} {Qd : Hp → Prop} (w : Walk J (iv Jn).length G (YAt (iv Jn))) (hD : H D = none) (hJ : Jn.length ≤ 4096) (hG : ∀ H', Same H H' → G H')
    (hs : ∀ z H' Qn, Qn (.int (if z = hi then lo else z)) H' → g (.int z) (wipe σ vs) H' fun σ2 H2 => wipe σ2 vs = wipe σ vs ∧ te σ2 H2 Qn)
    (hg : ∀ v σ H Q1 Q2, (∀ σ H, Q1 σ H → Q2 σ H) → g v σ H Q1 → g v σ H Q2)
    (q : ∀ H2, Same H H2 → H2 D = some (.lst (iv (Jn.map fun x => if x = hi then lo else x))) → Qd H2) :
    ∃ W : Nat → Nat → Hp → Prop, (∃ m, W 0 m (upd H D (.lst []))) ∧ ∀ i m H, W i m H →
      (J.stop i H ∧ Qd H) ∨ (J.go i H ∧ ∃ Nx : Hp → Prop, (∀ H', Nx H' → ∃ m', m' < m ∧ W (i + 1) m' H') ∧ ∀ x H', J.yld i H x H' → g x (wipe σ vs) H' fun σ2 H2 => wipe σ2 vs = wipe σ vs ∧ tYes σ2 H2 fun b H3 =>
        if b = true then te σ2 H3 fun y H4 => ∃ acc, H4 D = some (.lst acc) ∧ acc.length < sizeLine ∧ Nx (upd H4 D (.lst (acc ++ [y]))) else Nx H3) := by
  refine lc_it (n := (iv Jn).length) w (fun i H' => Same H H' ∧ H' D = some (.lst (iv ((Jn.take i).map fun x => if x = hi then lo else x)))) ⟨same_new hD, upd_same⟩ (fun i H' _ z => hG _ z.1) ?_ fun H2 z => q H2 z.1 (by have := z.2; rw [List.length_map, List.take_length] at this; exact this)
  rintro i x H1 H2 hi2 ⟨s1, hL⟩ ⟨rfl, hx⟩
  obtain ⟨z, hz, rfl⟩ := iv_at hx
  have hlt : i < Jn.length := by simpa using hi2
  refine hg _ _ _ _ _ ?_ (hs z _ (fun y H4 => ∃ acc, H4 D = some (.lst acc) ∧ acc.length < sizeLine ∧ Same H (upd H4 D (.lst (acc ++ [y]))) ∧ (upd H4 D (.lst (acc ++ [y]))) D = some (.lst (iv ((Jn.take (i + 1)).map fun x => if x = hi then lo else x)))) ?_)
  · rintro σ2 H2 ⟨a, b⟩
    exact ⟨a, yesT b⟩
  · refine ⟨_, hL, small_line (by simp; omega), same_upd hD s1, ?_⟩
    rw [upd_same, take_snoc hz]
    simp
theorem foldl_snoc {l : Ln} {M : Tb} {i : Nat} {m : List Int × Int} (h : M[i]? = some m) : (M.take (i + 1)).foldl (lst l) [] = lst l ((M.take i).foldl (lst l) []) m := by
  rw [take_snoc h, List.foldl_append]
  rfl
section
variable {P : Program} {w : World} {K : PySem.W.Frag} {mg : PySem.Str → Option Value} {base : Heap}
def spForests : L2.Sp := fun vs H Q _ => ∃ (n : Nat) (q : Addr) (L : List Ln), vs = [.int n, .ref q] ∧ LTup H q L ∧ LOn n L ∧ (∀ l ∈ L, 0 ≤ l.2.2 ∧ l.2.2 ≤ 10 ^ 30) ∧ n ≤ 8 ∧ L.length ≤ 9 ∧ (W L id).natAbs < 2 ^ 3000 ∧
  ∀ H' d M, Same H H' → H' d = some (.dT (kvG V.int M)) → FT n L L.length M → Q (.ref d) H'
set_option maxHeartbeats 32000000 in
theorem ok_Lforests (T : Tx K mg) : FnOk P w K mg base CX0 1 (T.f 36) (T.fd 36) ["_law_size", "_law_lines_here"] spForests := by
  refine T.d_Lforests.F.ok sc_Lforests (fun vs H Q E h => ?_) (fun cdv A outer s H vs Q E hr h => ?_)
  · obtain ⟨n, q, L, rfl, _⟩ := h
    rfl
  · obtain ⟨n, q, L, rfl, ⟨qs, hq, hqs⟩, hL, hr2, n8, l9, hW, q0⟩ := h
    have hsl : sizeLine = 16777216 := sizeLine_eq
    have e30 : (10 : Int) ^ 30 = 1000000000000000000000000000000 := by decide
    refine ⟨_, 
      (pss_cons (ps_set (i := 2) sc_Lforests.nd rfl (Or.inl rfl) (pe_disT (hu64 hr) (pe_tupleOf (by rfl) T.n_tuple (pe_listRg rfl (by rfl) T.n_list (prg_1 (by rfl) T.n_range (pv 0)))) pe_int))
      (pss_cons (ps_for PassesOwn.never rfl (pi_tup (pv 1)) (pg_name (i := 3) sc_Lforests.nd rfl (Or.inl rfl)) 
          (pss_cons (ps_set (i := 4) sc_Lforests.nd rfl (Or.inl rfl) pe_dnewT)
          (pss_cons (ps_for PassesOwn.never rfl (pi_list (pe_callTy (call_list_dT rfl) (by rfl) T.n_list (by decide +kernel) (pa_cons (pv 2) pa_nil))) (pg_name (i := 5) sc_Lforests.nd rfl (Or.inl rfl)) 
              (pss_cons (ps_dput (hu_of hr) (pv 4) (pv 5) (pe_op op_add (pe_dget2 (hu_of hr) (pv 4) (pv 5) pe_int ⟨rfl, rfl, rfl, rfl⟩) (pe_dget (hu_of hr) (pv 2) (pv 5) (fun _ _ => rfl))) rfl)
              (pss_cons (ps_set (i := 6) sc_Lforests.nd rfl (Or.inr rfl) (pe_callB (call_min2 rfl) (by rfl) T.n_min (by decide +kernel) (pa_cons (pe_ix ix_tup (pv 5) (pe_ix ix_tup (pv 3) pe_int (fun _ _ => rfl)) (fun _ _ => rfl)) (pa_cons (pe_ix ix_tup (pv 5) (pe_ix ix_tup (pv 3) pe_int (fun _ _ => rfl)) (fun _ _ => rfl)) pa_nil))))
              (pss_cons (ps_set (i := 7) sc_Lforests.nd rfl (Or.inr rfl) (pe_callB (call_max2 rfl) (by rfl) T.n_max (by decide +kernel) (pa_cons (pe_ix ix_tup (pv 5) (pe_ix ix_tup (pv 3) pe_int (fun _ _ => rfl)) (fun _ _ => rfl)) (pa_cons (pe_ix ix_tup (pv 5) (pe_ix ix_tup (pv 3) pe_int (fun _ _ => rfl)) (fun _ _ => rfl)) pa_nil))))
              (pss_one (ps_if (pt_cmpR op_lt (pv 6) (pv 7) (nomark _)) 
                  (pss_cons (ps_set (i := 8) sc_Lforests.nd rfl (Or.inl rfl) (pe_tupleOf (by rfl) T.n_tuple (pe_lc (own := [("_law_mark", 9)]) rfl sc_Lforests.nd (pi_tup (pv 5)) (blkOk_by (own := [("_law_mark", 9)]) (N := N_Lforests) (sc := defScope s_Lforests) (by decide +kernel)) (fun _ _ _ _ _ => (pg_name (i := 9) sc_Lforests.nd rfl (Or.inl rfl))) (fun _ _ _ _ _ => pts_nil) (fun _ _ _ _ _ => (pe_ifExp (pt_cmpR op_eq (pv 9) (pv 7) (nomark _)) (pv 6) (pv 9))))))
                  (pss_one (ps_dput (hu_of hr) (pv 4) (pv 8) (pe_op op_add (pe_dget2 (hu_of hr) (pv 4) (pv 8) pe_int ⟨rfl, rfl, rfl, rfl⟩) (pe_op op_mulW (pe_dget (hu_of hr) (pv 2) (pv 5) (fun _ _ => rfl)) (pe_ix ix_tup (pv 3) pe_int (fun _ _ => rfl)))) rfl))) pss_nil))))))
          (pss_one (ps_set (i := 2) sc_Lforests.nd rfl (Or.inl rfl) (pv 4))))))
      (pss_one (ps_ret (pv 2))))), ?_⟩
    refine fun D hD => ⟨_, rfl, _, rfl, RgOk.of_le (by omega) (by omega) (by omega) (by omega), fun R hR => .inl ⟨R, _, rfl, SqL.of upd_same, fun U hU => ?_⟩⟩
    have DR : D ≠ R := fun z => by rw [← z, upd_same] at hR; cases hR
    have DU : D ≠ U := fun z => by rw [← z, upd_ne DR, upd_same] at hU; cases hU
    refine ⟨by rw [upd_ne DU, upd_ne DR, upd_same], U, ((List.range n).map fun i : Nat => (i : Int)).map Sum.inl, rfl, by rw [upd_same, rgV_nat, kV_iv], ?_⟩
    have s0 : Same H (upd (upd (upd (upd H D (.dT [])) R (.lst (rgV 0 n))) U (.tup (rgV 0 n))) D (.dT [(((List.range n).map fun i : Nat => (i : Int)).map Sum.inl, V.int 1)])) := same_upd hD (((same_new hD).trans (same_new hR)).trans (same_new hU))
    have d0 : (upd (upd (upd (upd H D (.dT [])) R (.lst (rgV 0 n))) U (.tup (rgV 0 n))) D (.dT [(((List.range n).map fun i : Nat => (i : Int)).map Sum.inl, V.int 1)])) D = some (.dT (kvG V.int [((List.range n).map fun i : Nat => (i : Int), 1)])) := upd_same
    generalize upd (upd (upd (upd H D (.dT [])) R (.lst (rgV 0 n))) U (.tup (rgV 0 n))) D (.dT [(((List.range n).map fun i : Nat => (i : Int)).map Sum.inl, V.int 1)]) = H0 at s0 d0
    refine ⟨_, rfl, q, rfl, ⟨_, SqT.of (s0 _ _ hq)⟩, ?_⟩
    have ql : qs.length = L.length := (Paired.length hqs).symm
    refine for_it (n := (qs.map V.ref).length) walk_tup (fun i σ H' => ∃ (d : Addr) (M : Tb) (v3 v4 v5 v6 v7 v8 v9 : Option V), σ = [some (.int n), some (.ref q), some (.ref d), v3, v4, v5, v6, v7, v8, v9] ∧ Same H H' ∧ H' d = some (.dT (kvG V.int M)) ∧ FT n L i M)
      ⟨D, _, none, none, none, none, none, none, none, rfl, s0, d0, ft_zero hL⟩ (fun i σ H' _ ⟨_, _, _, _, _, _, _, _, _, _, s1, _⟩ => SqT.of (s1 _ _ hq)) ?_ ?_
    · rintro i x σ H1x H1 hi ⟨d, M, v3, v4, v5, v6, v7, v8, v9, rfl, s1, d1, ft⟩ ⟨rfl, hx⟩
      rw [List.length_map] at hi
      rw [List.getElem?_map] at hx
      obtain ⟨t, ht, rfl⟩ := Option.map_eq_some_iff.mp hx
      obtain ⟨l, hl, tl⟩ := pr_at hqs ht
      have tl1 : H1 t = some (.tup [.int l.1, .int l.2.1, .int l.2.2]) := s1 _ _ tl
      obtain ⟨on1, on2⟩ := hL l (List.mem_of_getElem? hl)
      obtain ⟨r0, r1⟩ := hr2 l (List.mem_of_getElem? hl)
      have wt := ft.wt (fun l hl => (hr2 l hl).1) hW
      have Ml : M.length ≤ 2 ^ 9 := Nat.le_trans ft.sz (Nat.pow_le_pow_right (n := 2) (by decide) (by omega))
      replace Ml : M.length ≤ 512 := Ml
      -- the next table
      refine fun D2 hD2 => ?_
      have dD2 : d ≠ D2 := ne_of_none d1 hD2
      refine ⟨_, rfl, d, _, rfl, .inl ((same_new hD2) _ _ d1), fun Pk bs hPk hbs => ?_⟩
      have bl := keys_len hbs
      have hD20 : H D2 = none := s1.free hD2
      have PD2 : Pk ≠ D2 := fun z => by rw [z, upd_same] at hPk; cases hPk
      have s2 : Same H1 (upd (upd H1 D2 (.dT [])) Pk (.lst (bs.map V.ref))) := (same_new hD2).trans (same_new hPk)
      have p2 : (upd (upd H1 D2 (.dT [])) Pk (.lst (bs.map V.ref))) Pk = some (.lst (bs.map V.ref)) := upd_same
      have q2 : (upd (upd H1 D2 (.dT [])) Pk (.lst (bs.map V.ref))) D2 = some (.dT (kvG V.int [])) := by rw [upd_ne PD2.symm, upd_same]; rfl
      have k2 : ∀ (i : Nat) b, bs[i]? = some b → ∃ m, M[i]? = some m ∧ (upd (upd H1 D2 (.dT [])) Pk (.lst (bs.map V.ref))) b = some (.tup (iv m.1)) := fun i b hb => by
        obtain ⟨m, hm, e⟩ := key_at hbs hb
        exact ⟨m, hm, same_new hPk _ _ e⟩
      generalize upd (upd H1 D2 (.dT [])) Pk (.lst (bs.map V.ref)) = H2 at s2 p2 q2 k2
      refine ⟨Pk, rfl, ⟨_, SqL.of p2⟩, ?_⟩
      refine for_it (n := (bs.map V.ref).length) walk_list (fun i σ H' => ∃ (v5 v6 v7 v8 v9 : Option V), σ = [some (.int n), some (.ref q), some (.ref d), some (.ref t), some (.ref D2), v5, v6, v7, v8, v9] ∧ SX D2 H2 H' ∧ H' D2 = some (.dT (kvG V.int ((M.take i).foldl (lst l) []))))
        ⟨v5, v6, v7, v8, v9, rfl, SX.refl _ _, q2⟩ (fun i σ H' _ ⟨_, _, _, _, _, _, s3, _⟩ => SqL.of (s3 _ _ PD2 p2)) ?_ ?_
      · rintro j x σ H3x H3 hj ⟨v5, v6, v7, v8, v9, rfl, s3, a3⟩ ⟨rfl, hx⟩
        rw [List.length_map] at hj
        rw [List.getElem?_map] at hx
        obtain ⟨b, hb, rfl⟩ := Option.map_eq_some_iff.mp hx
        obtain ⟨⟨Jn, z⟩, hm, kb⟩ := k2 j b hb
        replace kb : H2 b = some (.tup (iv Jn)) := kb
        have Jl : Jn.length = n := ft.ks _ (List.mem_of_getElem? hm)
        have s13 : Same H1 H3 := s3.same hD2 s2
        have b3 : H3 b = some (.tup (iv Jn)) := s3 _ _ (ne_of kb q2 fun z => by cases z) kb
        have d3 := s13 _ _ d1
        have t3 := s13 _ _ tl1
        have fs := foldl_snoc (l := l) hm
        have al : ((M.take j).foldl (lst l) []).length < sizeLine := by
          have := lsf_len l (M.take j) []
          rw [List.length_take] at this
          have : ([] : Tb).length = 0 := rfl
          omega
        have al2 := add_len ((M.take j).foldl (lst l) []) Jn z
        have al3 : ((M.take j).foldl (lst l) []).length ≤ 2000 := by
          have := lsf_len l (M.take j) []
          rw [List.length_take] at this
          have : ([] : Tb).length = 0 := rfl
          omega
        generalize hacc : (M.take j).foldl (lst l) [] = acc at a3 fs al al2 al3
        refine ⟨_, rfl, D2, rfl, .inr ⟨_, .inl a3⟩, _, rfl, _, dget_g a3 b3, _, rfl, _, rfl, d, _, rfl, dget_at ft.nd hm d3 b3, _, _, getD_g, rfl, _, rfl, _, rfl, D2, _, rfl, dput_g rfl a3 b3 al, ?_⟩
        have a4 : (upd H3 D2 (.dT (kvG V.int (putT acc Jn ((getO acc Jn).getD 0 + z))))) D2 = some (.dT (kvG V.int (addT acc Jn z))) := upd_same
        have s34 : SX D2 H3 (upd H3 D2 (.dT (kvG V.int (putT acc Jn ((getO acc Jn).getD 0 + z))))) := sx_put (SX.refl _ _)
        generalize upd H3 D2 (.dT (kvG V.int (putT acc Jn ((getO acc Jn).getD 0 + z)))) = H4 at a4 s34
        have bD2 : b ≠ D2 := ne_of b3 a3 fun z => by cases z
        have tD2 : t ≠ D2 := ne_of t3 a3 fun z => by cases z
        have b4 := s34 _ _ bD2 b3
        have t4 := s34 _ _ tD2 t3
        have d4 := s34 _ _ dD2 d3
        refine ⟨_, rfl, _, rfl, t, _, _, _, rfl, rfl, SqT.of t4, at_of (j := 0) rfl rfl, b, _, _, _, rfl, rfl, SqT.of b4, at_gt on1.1 (by rw [Jl]; exact on1.2), _, rfl, _, rfl, t, _, _, _, rfl, rfl, SqT.of t4, at_of (j := 1) rfl rfl, b, _, _, _, rfl, rfl, SqT.of b4, at_gt on2.1 (by rw [Jl]; exact on2.2), _, _, rfl, ?_⟩
        refine ⟨_, rfl, _, rfl, t, _, _, _, rfl, rfl, SqT.of t4, at_of (j := 0) rfl rfl, b, _, _, _, rfl, rfl, SqT.of b4, at_gt on1.1 (by rw [Jl]; exact on1.2), _, rfl, _, rfl, t, _, _, _, rfl, rfl, SqT.of t4, at_of (j := 1) rfl rfl, b, _, _, _, rfl, rfl, SqT.of b4, at_gt on2.1 (by rw [Jl]; exact on2.2), _, _, rfl, ?_⟩
        have eL : (if gt Jn l.2.1 < gt Jn l.1 then gt Jn l.2.1 else gt Jn l.1) = mn (gt Jn l.1) (gt Jn l.2.1) := rfl
        have eH : (if gt Jn l.2.1 > gt Jn l.1 then gt Jn l.2.1 else gt Jn l.1) = mx (gt Jn l.1) (gt Jn l.2.1) := rfl
        rw [eL, eH]
        refine ⟨_, rfl, _, rfl, _, _, rfl, rfl, _, rfl, ite2 (fun hc => ?_) fun hc => ?_⟩
        · have ne : gt Jn l.1 ≠ gt Jn l.2.1 := mn_lt_mx.mp (of_decide_eq_true hc)
          refine ⟨_, rfl, b, rfl, ⟨_, SqT.of b4⟩, fun C hC => ?_⟩
          refine lc_mark (Jn := Jn) (hi := mx (gt Jn l.1) (gt Jn l.2.1)) (lo := mn (gt Jn l.1) (gt Jn l.2.1)) walk_tup hC (by omega) (fun H' s => SqT.of (s _ _ b4)) (fun z H' Qn qz => ⟨rfl, _, rfl, _, rfl, rfl, _, rfl, ite2 (fun hc => ?_) fun hc => ?_⟩) (fun v σ H Q1 Q2 h e => h _ _ e) fun H5 s45 c5 => ?_
          · rw [if_pos (V.int.inj (of_decide_eq_true hc))] at qz
            exact ⟨_, rfl, qz⟩
          · rw [if_neg fun y => hc (decide_eq_true (congrArg V.int y))] at qz
            exact ⟨_, rfl, qz⟩
          · refine .inl ⟨C, _, rfl, SqL.of c5, fun U hU => ?_⟩
            have s46 : Same H4 (upd H5 U (.tup (iv (Jn.map fun x => if x = mx (gt Jn l.1) (gt Jn l.2.1) then mn (gt Jn l.1) (gt Jn l.2.1) else x)))) := s45.trans (same_new hU)
            have u6 : (upd H5 U (.tup (iv (Jn.map fun x => if x = mx (gt Jn l.1) (gt Jn l.2.1) then mn (gt Jn l.1) (gt Jn l.2.1) else x)))) U = some (.tup (iv (mgL Jn l.1 l.2.1))) := upd_same
            generalize upd H5 U (.tup (iv (Jn.map fun x => if x = mx (gt Jn l.1) (gt Jn l.2.1) then mn (gt Jn l.1) (gt Jn l.2.1) else x))) = H6 at s46 u6
            have a6 := s46 _ _ a4
            have s36 : SX D2 H3 H6 := s34.trans (SX.of s46)
            refine ⟨_, rfl, D2, rfl, .inr ⟨_, .inl a6⟩, _, rfl, _, dget_g a6 u6, _, rfl, _, rfl, d, _, rfl, dget_at ft.nd hm (s46 _ _ d4) (s46 _ _ b4), _, rfl, t, _, _, _, rfl, rfl, SqT.of (s46 _ _ t4), at_of (j := 2) rfl rfl, _, _, rfl, rfl, wide_mul (a := 3000) (b := 100) (wt _ (List.mem_of_getElem? hm)) ?_ (by decide) (by decide) (by decide), _, _, getD_g, rfl, _, rfl, _, rfl, D2, _, rfl, dput_g rfl a6 u6 (by omega), ?_⟩
            · have e : (2 : Nat) ^ 100 = 1267650600228229401496703205376 := by decide
              rw [e]
              rw [e30] at r1
              omega
            · refine ⟨_, _, _, _, _, rfl, s3.trans (sx_put s36), ?_⟩
              rw [fs, lst, if_neg ne]
              exact upd_same
        · have eq : gt Jn l.1 = gt Jn l.2.1 := Decidable.byContradiction fun z => hc (decide_eq_true (mn_lt_mx.mpr z))
          refine ⟨_, _, _, _, _, rfl, s3.trans s34, ?_⟩
          rw [fs, lst, if_pos eq]
          exact a4
      · rintro σ H3 ⟨v5, v6, v7, v8, v9, rfl, s3, a3⟩
        refine ⟨_, rfl, D2, _, _, _, _, _, _, _, _, rfl, s3.same hD20 (s1.trans s2), a3, ?_⟩
        rw [List.length_map, bl, List.take_length]
        exact ft_succ hL r0 ft hl
    · rintro σ H1 ⟨d, M, v3, v4, v5, v6, v7, v8, v9, rfl, s1, d1, ft⟩
      rw [List.length_map, ql] at ft
      exact ⟨_, rfl, q0 _ d M s1 d1 ft⟩
end
end K36
-- text D17
set_option maxRecDepth 100000
set_option maxHeartbeats 4000000
namespace K36
open PySem PySem.Spec PyProof.Rows L2
/-! ### the forests that stay forests with the pairs -/
def stp (s : List Int × Bool) (p : Int × Int) : List Int × Bool := (mgL s.1 p.1 p.2, s.2 && decide (gt s.1 p.1 ≠ gt s.1 p.2))
theorem pf_row {n : Nat} : ∀ (ps : List (Int × Int)) (J : List Int) (f : Int → Int) (b : Bool), KerOn (On n) (gt J) f → J.length = n → (∀ p ∈ ps, On n p.1 ∧ On n p.2) → (if (ps.foldl stp (J, b)).2 = true then (1 : Int) else 0) = if b = true then Pf ps f else 0
  | [], J, f, b, _, _, _ => rfl
  | p :: ps, J, f, b, h, hJ, hp => by
    obtain ⟨o1, o2⟩ := hp p List.mem_cons_self
    have ih := pf_row ps (mgL J p.1 p.2) (mrg f p.1 p.2) (b && decide (gt J p.1 ≠ gt J p.2)) ((mgL_ker hJ).trans (h.mrg o1 o2)) (by rw [mgL_len]; exact hJ) fun q hq => hp q (List.mem_cons_of_mem _ hq)
    show (if (ps.foldl stp (mgL J p.1 p.2, b && decide (gt J p.1 ≠ gt J p.2))).2 = true then (1 : Int) else 0) = _
    rw [ih]
    have eP : Pf (p :: ps) f = if f p.1 = f p.2 then 0 else Pf ps (mrg f p.1 p.2) := rfl
    rw [eP]
    have e := h p.1 p.2 o1 o2
    by_cases c : f p.1 = f p.2
    · have c' := e.mpr c
      rw [if_pos c, decide_eq_false (fun z => z c')]
      cases b <;> rfl
    · have c' : gt J p.1 ≠ gt J p.2 := fun z => c (e.mp z)
      rw [if_neg c, decide_eq_true c']
      cases b <;> rfl
theorem stp_snoc {ps : List (Int × Int)} {i : Nat} {p : Int × Int} (h : ps[i]? = some p) (s : List Int × Bool) : (ps.take (i + 1)).foldl stp s = stp ((ps.take i).foldl stp s) p := by
  rw [take_snoc h, List.foldl_append]
  rfl
theorem stp_len : ∀ (ps : List (Int × Int)) (s : List Int × Bool), (ps.foldl stp s).1.length = s.1.length
  | [], _ => rfl
  | p :: ps, s => by
    show (ps.foldl stp (stp s p)).1.length = _
    rw [stp_len ps]
    exact mgL_len _ _ _
theorem phi_snoc {M : Tb} {i : Nat} {m : List Int × Int} (h : M[i]? = some m) (F : List Int → Int) : Phi (M.take (i + 1)) F = Phi (M.take i) F + m.2 * F m.1 := by
  rw [take_snoc h, phi_app, phi_cons, phi_nil, Int.add_zero]
section
variable {P : Program} {w : World} {K : PySem.W.Frag} {mg : PySem.Str → Option Value} {base : Heap}
def spApart : L2.Sp := fun vs H Q _ => ∃ (d pl : Addr) (M : Tb) (n : Nat) (ps : List (Int × Int)), vs = [.ref d, .ref pl] ∧ H d = some (.dT (kvG V.int M)) ∧ (M.map (·.1)).Nodup ∧ Ks (fun J => J.length = n) M ∧ n ≤ 4096 ∧ PL H pl ps ∧ (∀ p ∈ ps, On n p.1 ∧ On n p.2) ∧
  ∀ H', Same H H' → Q (.int (Phi M fun J => Pf ps (gt J))) H'
set_option maxHeartbeats 32000000 in
theorem ok_Lapart (T : Tx K mg) : FnOk P w K mg base CX0 1 (T.f 37) (T.fd 37) ["_law_forests_here", "_law_pairs_here"] spApart := by
  refine T.d_Lapart.F.ok sc_Lapart (fun vs H Q E h => ?_) (fun cdv A outer s H vs Q E hr h => ?_)
  · obtain ⟨d, pl, M, n, ps, rfl, _⟩ := h
    rfl
  · obtain ⟨d, pl, M, n, ps, rfl, hd, nd, ks, n4, ⟨qs, hpl, hqs⟩, hon, q0⟩ := h
    refine ⟨_, 
      (pss_cons (ps_set (i := 2) sc_Lapart.nd rfl (Or.inl rfl) pe_int)
      (pss_cons (ps_for PassesOwn.never rfl (pi_list (pe_callTy (call_list_dT rfl) (by rfl) T.n_list (by decide +kernel) (pa_cons (pv 0) pa_nil))) (pg_name (i := 3) sc_Lapart.nd rfl (Or.inl rfl)) 
          (pss_cons (ps_set (i := 4) sc_Lapart.nd rfl (Or.inl rfl) (pe_callTy call_list_of (by rfl) T.n_list (by decide +kernel) (pa_cons (pv 3) pa_nil)))
          (pss_cons (ps_set (i := 5) sc_Lapart.nd rfl (Or.inl rfl) pe_bl)
          (pss_cons (ps_for PassesOwn.never rfl (pi_list (pv 1)) (pg_name (i := 6) sc_Lapart.nd rfl (Or.inl rfl)) 
              (pss_cons (ps_set (i := 7) sc_Lapart.nd rfl (Or.inr rfl) (pe_callB (call_min2 rfl) (by rfl) T.n_min (by decide +kernel) (pa_cons (pe_ix ix_list (pv 4) (pe_ix ix_tup (pv 6) pe_int (fun _ _ => rfl)) (fun _ _ => rfl)) (pa_cons (pe_ix ix_list (pv 4) (pe_ix ix_tup (pv 6) pe_int (fun _ _ => rfl)) (fun _ _ => rfl)) pa_nil))))
              (pss_cons (ps_set (i := 8) sc_Lapart.nd rfl (Or.inr rfl) (pe_callB (call_max2 rfl) (by rfl) T.n_max (by decide +kernel) (pa_cons (pe_ix ix_list (pv 4) (pe_ix ix_tup (pv 6) pe_int (fun _ _ => rfl)) (fun _ _ => rfl)) (pa_cons (pe_ix ix_list (pv 4) (pe_ix ix_tup (pv 6) pe_int (fun _ _ => rfl)) (fun _ _ => rfl)) pa_nil))))
              (pss_cons (ps_if (pt_cmpR op_eq (pv 7) (pv 8) (nomark _)) 
                  (pss_one (ps_set (i := 5) sc_Lapart.nd rfl (Or.inl rfl) pe_bl)) pss_nil)
              (pss_one (ps_setLc (i := 4) (own := [("_law_mark", 9)]) rfl sc_Lapart.nd rfl rfl (sw_true rfl rfl rfl (by decide +kernel)) (pi_list (pv 4)) (blkOk_by (own := [("_law_mark", 9)]) (N := N_Lapart) (sc := defScope s_Lapart) (by decide +kernel)) (fun _ _ _ _ _ => (pg_name (i := 9) sc_Lapart.nd rfl (Or.inl rfl))) (fun _ _ _ _ _ => pts_nil) (fun _ _ _ _ _ => (pe_ifExp (pt_cmpR op_eq (pv 9) (pv 8) (nomark _)) (pv 7) (pv 9)))))))))
          (pss_one (ps_if (pt_val (pv 5)) 
              (pss_one (ps_set (i := 2) sc_Lapart.nd rfl (Or.inl rfl) (pe_op op_add (pv 2) (pe_dget (hu_of hr) (pv 0) (pv 3) (fun _ _ => rfl))))) pss_nil))))))
      (pss_one (ps_ret (pv 2))))), ?_⟩
    refine ⟨_, rfl, d, _, rfl, .inl hd, fun Pk bs hPk hbs => ?_⟩
    have bl := keys_len hbs
    have s1 := same_new (o := .lst (bs.map V.ref)) hPk
    have p1 : (upd H Pk (.lst (bs.map V.ref))) Pk = some (.lst (bs.map V.ref)) := upd_same
    generalize upd H Pk (.lst (bs.map V.ref)) = H1 at s1 p1
    have ql : qs.length = ps.length := (Paired.length hqs).symm
    refine ⟨Pk, rfl, ⟨_, SqL.of p1⟩, ?_⟩
    refine for_it (n := (bs.map V.ref).length) walk_list (fun i σ H' => ∃ (v3 v4 v5 v6 v7 v8 v9 : Option V), σ = [some (.ref d), some (.ref pl), some (.int (Phi (M.take i) fun J => Pf ps (gt J))), v3, v4, v5, v6, v7, v8, v9] ∧ Same H1 H')
      ⟨none, none, none, none, none, none, none, rfl, Same.refl _⟩ (fun i σ H' _ ⟨_, _, _, _, _, _, _, _, s2⟩ => SqL.of (s2 _ _ p1)) ?_ ?_
    · rintro i x σ Hx H2 hi ⟨v3, v4, v5, v6, v7, v8, v9, rfl, s2⟩ ⟨rfl, hx⟩
      rw [List.length_map] at hi
      rw [List.getElem?_map] at hx
      obtain ⟨b, hb, rfl⟩ := Option.map_eq_some_iff.mp hx
      obtain ⟨⟨J, z⟩, hm, kb⟩ := key_at hbs hb
      replace kb : H b = some (.tup (iv J)) := kb
      have Jl : J.length = n := ks _ (List.mem_of_getElem? hm)
      have s02 : Same H H2 := s1.trans s2
      have b2 := s02 _ _ kb
      refine ⟨_, rfl, b, _, rfl, .inr (SqT.of b2), fun R hR => ?_⟩
      have s3 := same_new (o := .lst (iv J)) hR
      have r3 : (upd H2 R (.lst (iv J))) R = some (.lst (iv J)) := upd_same
      generalize upd H2 R (.lst (iv J)) = H3 at s3 r3
      have s03 : Same H H3 := s02.trans s3
      refine ⟨_, rfl, pl, rfl, ⟨_, SqL.of (s03 _ _ hpl)⟩, ?_⟩
      refine for_it (n := (qs.map V.ref).length) walk_list (fun j σ H' => ∃ (r : Addr) (v6 v7 v8 v9 : Option V), σ = [some (.ref d), some (.ref pl), some (.int (Phi (M.take i) fun J => Pf ps (gt J))), some (.ref b), some (.ref r), some (.bl ((ps.take j).foldl stp (J, true)).2), v6, v7, v8, v9] ∧ Same H3 H' ∧ H' r = some (.lst (iv ((ps.take j).foldl stp (J, true)).1)))
        ⟨R, _, _, _, _, rfl, Same.refl _, r3⟩ (fun i σ H' _ ⟨_, _, _, _, _, _, s4, _⟩ => SqL.of (s4 _ _ (s03 _ _ hpl))) ?_ ?_
      · rintro j x σ Hx H4 hj ⟨r, v6, v7, v8, v9, rfl, s4, r4⟩ ⟨rfl, hx⟩
        rw [List.length_map] at hj
        rw [List.getElem?_map] at hx
        obtain ⟨t, ht, rfl⟩ := Option.map_eq_some_iff.mp hx
        obtain ⟨p, hp, tp⟩ := pr_at hqs ht
        have t4 := s4 _ _ (s03 _ _ tp)
        obtain ⟨o1, o2⟩ := hon p (List.mem_of_getElem? hp)
        have ss := stp_snoc hp (J, true)
        have sl := stp_len (ps.take j) (J, true)
        generalize (ps.take j).foldl stp (J, true) = st at r4 ss sl
        obtain ⟨Jr, fr⟩ := st
        replace sl : Jr.length = J.length := sl
        replace r4 : H4 r = some (.lst (iv Jr)) := r4
        refine ⟨_, rfl, _, rfl, t, _, _, _, rfl, rfl, SqT.of t4, at_of (j := 0) rfl rfl, r, _, _, _, rfl, rfl, SqL.of r4, at_gt o1.1 (by rw [sl, Jl]; exact o1.2), _, rfl, _, rfl, t, _, _, _, rfl, rfl, SqT.of t4, at_of (j := 1) rfl rfl, r, _, _, _, rfl, rfl, SqL.of r4, at_gt o2.1 (by rw [sl, Jl]; exact o2.2), _, _, rfl, ?_⟩
        refine ⟨_, rfl, _, rfl, t, _, _, _, rfl, rfl, SqT.of t4, at_of (j := 0) rfl rfl, r, _, _, _, rfl, rfl, SqL.of r4, at_gt o1.1 (by rw [sl, Jl]; exact o1.2), _, rfl, _, rfl, t, _, _, _, rfl, rfl, SqT.of t4, at_of (j := 1) rfl rfl, r, _, _, _, rfl, rfl, SqL.of r4, at_gt o2.1 (by rw [sl, Jl]; exact o2.2), _, _, rfl, ?_⟩
        have eL : (if gt Jr p.2 < gt Jr p.1 then gt Jr p.2 else gt Jr p.1) = mn (gt Jr p.1) (gt Jr p.2) := rfl
        have eH : (if gt Jr p.2 > gt Jr p.1 then gt Jr p.2 else gt Jr p.1) = mx (gt Jr p.1) (gt Jr p.2) := rfl
        rw [eL, eH]
        have emm : (V.int (mn (gt Jr p.1) (gt Jr p.2)) = V.int (mx (gt Jr p.1) (gt Jr p.2))) ↔ gt Jr p.1 = gt Jr p.2 := by
          have := mn_lt_mx (a := gt Jr p.1) (b := gt Jr p.2)
          constructor
          · intro z
            have := V.int.inj z
            exact Decidable.byContradiction fun y => by have := mn_lt_mx.mpr y; omega
          · intro z
            rw [z]; unfold mn mx; simp
        dsimp only [gName, List.set]
        refine seqJ (fun σ' H' => σ' = [some (.ref d), some (.ref pl), some (.int (Phi (M.take i) fun J => Pf ps (gt J))), some (.ref b), some (.ref r), some (.bl (fr && decide (gt Jr p.1 ≠ gt Jr p.2))), some (.ref t), some (.int (mn (gt Jr p.1) (gt Jr p.2))), some (.int (mx (gt Jr p.1) (gt Jr p.2))), v9] ∧ H' = H4) ?_ fun u k => ?_
        rotate_left
        · refine ⟨_, rfl, _, rfl, rfl, _, rfl, ite2 (fun hc => ?_) fun hc => ?_⟩
          · refine k _ _ ⟨?_, rfl⟩
            rw [show decide (gt Jr p.1 ≠ gt Jr p.2) = false from decide_eq_false (fun z => z (emm.mp (of_decide_eq_true hc))), Bool.and_false]
            rfl
          · refine k _ _ ⟨?_, rfl⟩
            rw [show decide (gt Jr p.1 ≠ gt Jr p.2) = true from decide_eq_true (fun z => hc (decide_eq_true (emm.mpr z))), Bool.and_true]
        rintro σ H5 ⟨rfl, rfl⟩
        refine ⟨_, rfl, r, rfl, ⟨_, SqL.of r4⟩, fun C hC => ?_⟩
        refine lc_mark (Jn := Jr) (hi := mx (gt Jr p.1) (gt Jr p.2)) (lo := mn (gt Jr p.1) (gt Jr p.2)) walk_list hC (by omega) (fun H' s => SqL.of (s _ _ r4)) (fun z H' Qn qz => ⟨rfl, _, rfl, _, rfl, rfl, _, rfl, ite2 (fun hc => ?_) fun hc => ?_⟩) (fun v σ H Q1 Q2 h e => h _ _ e) fun H5 s45 c5 => ?_
        · rw [if_pos (V.int.inj (of_decide_eq_true hc))] at qz
          exact ⟨_, rfl, qz⟩
        · rw [if_neg fun y => hc (decide_eq_true (congrArg V.int y))] at qz
          exact ⟨_, rfl, qz⟩
        · refine ⟨C, some (.ref t), some (.int (mn (gt Jr p.1) (gt Jr p.2))), some (.int (mx (gt Jr p.1) (gt Jr p.2))), v9, ?_, s4.trans s45, ?_⟩
          · rw [ss]; rfl
          · rw [ss]; exact c5
      · rintro σ H4 ⟨r, v6, v7, v8, v9, rfl, s4, r4⟩
        rw [List.length_map, ql, List.take_length] at r4
        rw [List.length_map, ql, List.take_length]
        have row := pf_row ps J (gt J) true (KerOn.refl) Jl hon
        rw [if_pos rfl] at row
        have ph := phi_snoc hm (fun J => Pf ps (gt J))
        have s14 := s2.trans (s3.trans s4)
        refine ⟨_, rfl, _, rfl, ite2 (fun hf => ?_) fun hf => ?_⟩
        · rw [if_pos hf] at row
          refine ⟨_, rfl, _, rfl, _, rfl, d, _, rfl, dget_at nd hm (s1.trans s14 _ _ hd) (s1.trans s14 _ _ kb), _, _, rfl, rfl, ?_⟩
          refine ⟨some (.ref b), some (.ref r), some (.bl (ps.foldl stp (J, true)).2), v6, v7, v8, v9, ?_, s14⟩
          rw [ph]
          rw [← row, Int.mul_one]
          rfl
        · rw [if_neg hf] at row
          refine ⟨some (.ref b), some (.ref r), some (.bl (ps.foldl stp (J, true)).2), v6, v7, v8, v9, ?_, s14⟩
          rw [ph]
          rw [← row, Int.mul_zero, Int.add_zero]
    · rintro σ H2 ⟨v3, v4, v5, v6, v7, v8, v9, rfl, s2⟩
      rw [List.length_map, bl, List.take_length]
      exact ⟨_, rfl, q0 _ (s1.trans s2)⟩
end
end K36
-- text Ma10
set_option maxRecDepth 100000
set_option maxHeartbeats 4000000
namespace K36
open PySem PySem.Spec PyProof.Rows L2
/-! ### the law's table of standings, in plain terms -/
def fnc (J : List Int) : Int → Int := fun x => if 0 ≤ x then gt J x else 0
theorem gt_off {J : List Int} {x : Int} (h : (J.length : Int) ≤ x) : gt J x = 0 := by
  unfold gt
  rw [List.getD_eq_getElem?_getD, List.getElem?_eq_none (by omega)]
  rfl
theorem fnc_sup {J : List Int} {n : Nat} (hJ : J.length = n) : Sup n (fnc J) := fun x hx => by
  unfold fnc
  split
  · exact gt_off (by omega)
  · rfl
theorem fnc_inj {J I : List Int} (h : J.length = I.length) (e : fnc J = fnc I) : J = I := by
  refine List.ext_getElem h fun i h1 h2 => ?_
  have := congrFun e (i : Int)
  unfold fnc at this
  rw [if_pos (by omega), if_pos (by omega)] at this
  have a := gt_at (J := J) (i := (i : Int)) (by omega) (by omega)
  have b := gt_at (J := I) (i := (i : Int)) (by omega) (by omega)
  rw [Int.toNat_natCast, List.getElem?_eq_getElem h1] at a
  rw [Int.toNat_natCast, List.getElem?_eq_getElem h2] at b
  rw [Option.some.inj a, Option.some.inj b]
  exact this
def toL (n : Nat) (p : Int → Int) : List Int := (List.range n).map fun i : Nat => p i
theorem toL_len (n : Nat) (p : Int → Int) : (toL n p).length = n := by rw [toL, List.length_map, List.length_range]
theorem fnc_toL {n : Nat} {p : Int → Int} (h : Sup n p) : fnc (toL n p) = p := by
  funext x
  unfold fnc
  by_cases h0 : 0 ≤ x
  · rw [if_pos h0]
    by_cases h1 : x < n
    · have := gt_at (J := toL n p) h0 (by rw [toL_len]; exact h1)
      unfold toL at this ⊢
      rw [List.getElem?_map, List.getElem?_range (by omega)] at this
      rw [← Option.some.inj this]
      show p ((x.toNat : Nat) : Int) = p x
      rw [show ((x.toNat : Nat) : Int) = x by omega]
    · rw [gt_off (by rw [toL_len]; omega), h x (by omega)]
  · rw [if_neg h0, h x (by omega)]
theorem gt_set {J : List Int} {a x v : Int} (a0 : 0 ≤ a) (a1 : a < J.length) (x0 : 0 ≤ x) : gt (J.set a.toNat v) x = if x = a then v else gt J x := by
  unfold gt
  rw [List.getD_eq_getElem?_getD, List.getElem?_set]
  by_cases e : x = a
  · subst e
    rw [if_pos rfl, if_pos rfl, if_pos (by omega)]
    rfl
  · rw [if_neg e, if_neg (by omega), List.getD_eq_getElem?_getD]
theorem fnc_set {J : List Int} {a d : Int} (a0 : 0 ≤ a) (a1 : a < J.length) : fnc (J.set a.toNat (gt J a + d)) = fun x => fnc J x + if x = a then d else 0 := by
  funext x
  unfold fnc
  by_cases h0 : 0 ≤ x
  · rw [if_pos h0, if_pos h0, gt_set a0 a1 h0]
    split
    · rename_i e; rw [e]
    · rw [Int.add_zero]
  · rw [if_neg h0, if_neg h0, if_neg (by omega)]; rfl
/-- t of the rooms go to the line's first end, the others to its second -/
def adj (J : List Int) (l : Ln) (t : Int) : List Int := (J.set l.1.toNat (gt J l.1 + t)).set l.2.1.toNat (gt (J.set l.1.toNat (gt J l.1 + t)) l.2.1 + l.2.2 - t)
theorem adj_len (J : List Int) (l : Ln) (t : Int) : (adj J l t).length = J.length := by rw [adj, List.length_set, List.length_set]
theorem fnc_adj {J : List Int} {n : Nat} {l : Ln} {t : Int} (hJ : J.length = n) (h1 : On n l.1) (h2 : On n l.2.1) : fnc (adj J l t) = fun x => fnc J x + (if x = l.1 then t else 0) + (if x = l.2.1 then l.2.2 - t else 0) := by
  unfold adj
  rw [show ∀ z : Int, z + l.2.2 - t = z + (l.2.2 - t) from fun z => by omega, fnc_set h2.1 (by rw [List.length_set, hJ]; exact h2.2), fnc_set h1.1 (by rw [hJ]; exact h1.2)]
theorem sp_sup {n : Nat} : ∀ {L : List Ln} {p : Int → Int}, LOn n L → Sp L p → Sup n p
  | [], p, _, h => fun x _ => h x
  | l :: L, p, hL, ⟨t, _, _, h⟩ => fun x hx => by
    have := sp_sup (fun m hm => hL m (List.mem_cons_of_mem _ hm)) h x hx
    obtain ⟨a, b⟩ := hL l List.mem_cons_self
    have a1 := a.1; have a2 := a.2; have b1 := b.1; have b2 := b.2
    simp only [if_neg (show ¬ x = l.1 by omega), if_neg (show ¬ x = l.2.1 by omega)] at this
    omega
theorem mem_put {M : Tb} {J I : List Int} {z : Int} : I ∈ (putT M J z).map (·.1) ↔ I = J ∨ I ∈ M.map (·.1) := by
  rw [put_keys]
  split
  · rename_i h
    constructor
    · exact .inr
    · rintro (rfl | h2)
      · refine Decidable.byContradiction fun z => ?_
        rw [get_none.mpr z] at h
        cases h
      · exact h2
  · rw [List.mem_append, List.mem_singleton]
    exact Or.comm
theorem pw_app : ∀ (A B : List Ln), pw (A ++ B) = pw A * pw B := by
  intro A B
  induction hk : B.length generalizing B with
  | zero =>
    obtain rfl := List.length_eq_zero_iff.mp hk
    rw [List.append_nil]
    show pw A = pw A * 1
    rw [Int.mul_one]
  | succ k ih =>
    obtain ⟨B', l, rfl⟩ : ∃ B' l, B = B' ++ [l] := ⟨B.dropLast, B.getLast (by intro z; rw [z] at hk; cases hk), (List.dropLast_concat_getLast _).symm⟩
    rw [← List.append_assoc, pw_snoc, ih B' (by rw [List.length_append] at hk; simpa using hk), pw_snoc, Int.mul_assoc]
theorem pw_one : ∀ (A : List Ln), (∀ l ∈ A, 0 ≤ l.2.2) → 1 ≤ pw A := fun A h => by
  have := W_le_pw A h id
  have := W_pos A id h
  omega
theorem pw_take (A : List Ln) (h : ∀ l ∈ A, 0 ≤ l.2.2) (k : Nat) : pw (A.take k) ≤ pw A := by
  have e := pw_app (A.take k) (A.drop k)
  rw [List.take_append_drop] at e
  have a := pw_one (A.take k) fun l hl => h l (List.mem_of_mem_take hl)
  have b := pw_one (A.drop k) fun l hl => h l (List.mem_of_mem_drop hl)
  have := Int.mul_le_mul_of_nonneg_left b (show 0 ≤ pw (A.take k) by omega)
  rw [Int.mul_one] at this
  omega
theorem W_rev : ∀ (L : List Ln) (f : Int → Int), W L.reverse f = W L f
  | [], _ => rfl
  | l :: L, f => by
    rw [List.reverse_cons, W_snoc, W_cons, W_cons, W_rev L f, W_rev L]
/-- the standings behind the first k lines -/
structure FS (n : Nat) (L : List Ln) (k : Nat) (M : Tb) : Prop where
  nd : (M.map (·.1)).Nodup
  ks : Ks (fun J => J.length = n) M
  sz : (M.length : Int) ≤ pw (L.take k)
  mem : ∀ J : List Int, J.length = n → (J ∈ M.map (·.1) ↔ Sp (L.take k).reverse (fnc J))
theorem fs_zero {n : Nat} {L : List Ln} : FS n L 0 [(List.replicate n 0, 1)] where
  nd := by simp
  ks := fun m hm => by rw [List.mem_singleton.mp hm]; exact List.length_replicate
  sz := Int.le_refl 1
  mem := fun J hJ => by
    have e0 : fnc (List.replicate n 0) = fun _ => 0 := by
      funext x
      unfold fnc gt
      split
      · rw [List.getD_eq_getElem?_getD, List.getElem?_replicate]; split <;> rfl
      · rfl
    constructor
    · intro h
      have e : J = List.replicate n 0 := by simpa using h
      rw [e, e0]
      exact fun _ => rfl
    · intro h
      have e : J = List.replicate n 0 := fnc_inj (by rw [hJ, List.length_replicate]) (by rw [e0]; funext x; exact h x)
      rw [e]; simp
theorem fs_succ {n : Nat} {L : List Ln} {k : Nat} {M M' : Tb} {l : Ln} (hL : LOn n L) (hr : 0 ≤ l.2.2) (h : FS n L k M) (hl : L[k]? = some l) (nd : (M'.map (·.1)).Nodup) (ks : Ks (fun J => J.length = n) M') (sz : (M'.length : Int) ≤ M.length * (l.2.2 + 1))
    (mem : ∀ J, J ∈ M'.map (·.1) ↔ ∃ m ∈ M, ∃ t : Int, 0 ≤ t ∧ t ≤ l.2.2 ∧ J = adj m.1 l t) : FS n L (k + 1) M' := by
  have et : L.take (k + 1) = L.take k ++ [l] := take_snoc hl
  obtain ⟨o1, o2⟩ := hL l (List.mem_of_getElem? hl)
  refine ⟨nd, ks, ?_, fun J hJ => ?_⟩
  · rw [et, pw_snoc]
    have := Int.mul_le_mul_of_nonneg_right h.sz (show 0 ≤ l.2.2 + 1 by omega)
    omega
  · rw [mem, et, List.reverse_append]
    show _ ↔ ∃ t, 0 ≤ t ∧ t ≤ l.2.2 ∧ Sp (L.take k).reverse (fun x => fnc J x - (if x = l.1 then t else 0) - (if x = l.2.1 then l.2.2 - t else 0))
    constructor
    · rintro ⟨m, hm, t, t0, t1, rfl⟩
      refine ⟨t, t0, t1, ?_⟩
      have hk := h.ks m hm
      have := (h.mem m.1 hk).mp (List.mem_map.mpr ⟨m, hm, rfl⟩)
      rw [fnc_adj hk o1 o2]
      have e : (fun x => fnc m.1 x + (if x = l.1 then t else 0) + (if x = l.2.1 then l.2.2 - t else 0) - (if x = l.1 then t else 0) - (if x = l.2.1 then l.2.2 - t else 0)) = fnc m.1 := by funext x; omega
      rw [e]
      exact this
    · rintro ⟨t, t0, t1, hs⟩
      have hsup := sp_sup (n := n) (fun x hx => hL x (List.mem_of_mem_take (List.mem_reverse.mp hx))) hs
      have hf := fnc_toL hsup
      have hm := (h.mem (toL n _) (toL_len n _)).mpr (by rw [hf]; exact hs)
      obtain ⟨m, hm, e⟩ := List.mem_map.mp hm
      refine ⟨m, hm, t, t0, t1, fnc_inj (by rw [adj_len, hJ, h.ks m hm]) ?_⟩
      rw [fnc_adj (h.ks m hm) o1 o2, e, hf]
      funext x
      show fnc J x = fnc J x - (if x = l.1 then t else 0) - (if x = l.2.1 then l.2.2 - t else 0) + (if x = l.1 then t else 0) + (if x = l.2.1 then l.2.2 - t else 0)
      omega
theorem FS.enum {n : Nat} {L : List Ln} {M : Tb} (hL : LOn n L) (h : FS n L L.length M) : Enum (Sp L.reverse) ((M.map (·.1)).map fnc) := by
  have hk : ∀ J ∈ M.map (·.1), J.length = n := fun J hJ => by
    obtain ⟨m, hm, rfl⟩ := List.mem_map.mp hJ
    exact h.ks m hm
  refine ⟨nodup_map h.nd fun x hx y hy e => fnc_inj (by rw [hk x hx, hk y hy]) e, fun p => ?_⟩
  have mem := h.mem
  rw [List.take_length] at mem
  constructor
  · intro hp
    obtain ⟨J, hJ, rfl⟩ := List.mem_map.mp hp
    exact (mem J (hk J hJ)).mp hJ
  · intro hp
    have hsup := sp_sup (n := n) (fun x hx => hL x (List.mem_reverse.mp hx)) hp
    exact List.mem_map.mpr ⟨toL n p, (mem _ (toL_len n p)).mpr (by rw [fnc_toL hsup]; exact hp), fnc_toL hsup⟩
theorem val_of {n : Nat} {L : List Ln} (hL : LOn n L) (hr : ∀ l ∈ L, 0 ≤ l.2.2) : Val n L.reverse := fun l hl => by
  have hl' := List.mem_reverse.mp hl
  exact ⟨(hL l hl').1, (hL l hl').2, hr l hl'⟩
theorem FS.all {n : Nat} {L : List Ln} {M : Tb} (hL : LOn n L) (hr : ∀ l ∈ L, 0 ≤ l.2.2) (h : FS n L L.length M) : (M.length : Int) = W L id := by
  have := count_all (val_of hL hr) (h.enum hL)
  rw [List.length_map, List.length_map, W_rev] at this
  exact this
/-- a coin goes from g to t -/
def mvL (J : List Int) (g t : Int) : List Int := (J.set g.toNat (gt J g - 1)).set t.toNat (gt (J.set g.toNat (gt J g - 1)) t + 1)
theorem mvL_len (J : List Int) (g t : Int) : (mvL J g t).length = J.length := by rw [mvL, List.length_set, List.length_set]
theorem fnc_mv {J : List Int} {n : Nat} {g t : Int} (hJ : J.length = n) (h1 : On n g) (h2 : On n t) : fnc (mvL J g t) = mv t g 1 (fnc J) := by
  unfold mvL
  rw [fnc_set h2.1 (by rw [List.length_set, hJ]; exact h2.2), show gt J g - 1 = gt J g + -1 from rfl, fnc_set h1.1 (by rw [hJ]; exact h1.2)]
  funext x
  show (fnc J x + (if x = g then -1 else 0)) + (if x = t then 1 else 0) = fnc J x - (if x = g then 1 else 0) - (if x = t then -1 else 0)
  split <;> split <;> omega
/-- the standings from which no coin goes from g to t -/
def nrf (M : Tb) (g t : Int) (N : Tb) : Nat := (N.filter fun m => (getO M (mvL m.1 g t)).isNone).length
theorem FS.refused {n : Nat} {L : List Ln} {M : Tb} {g t : Int} (hL : LOn n L) (hr : ∀ l ∈ L, 0 ≤ l.2.2) (h : FS n L L.length M) (hg : On n g) (ht : On n t) (ne : g ≠ t) : (nrf M g t M : Int) = W L (mrg id t g) := by
  have c := count_refused (val_of hL hr) (h.enum hL) ht hg (fun z => ne z.symm)
  rw [W_rev, List.map_map, List.filter_map, List.length_map] at c
  rw [← c]
  unfold nrf
  congr 2
  refine List.filter_congr fun m hm => ?_
  have mem := h.mem (mvL m.1 g t) (by rw [mvL_len]; exact h.ks m hm)
  rw [List.take_length, fnc_mv (h.ks m hm) hg ht] at mem
  rw [Bool.eq_iff_iff, Option.isNone_iff_eq_none, get_none, mem]
  simp
end K36
-- text D18
set_option maxRecDepth 100000
set_option maxHeartbeats 4000000
namespace K36
open PySem PySem.Spec PyProof.Rows L2
/-! ### the law's standings -/
/-- every standing is there -/
def gTrue : Int → V := fun _ => .bl true
theorem iv_set {J : List Int} {i : Nat} {z : Int} : (iv J).set i (.int z) = iv (J.set i z) := by
  show (List.map V.int J).set i _ = List.map V.int _
  rw [List.map_set]
theorem rep_zero : ∀ n : Nat, (List.replicate n [V.int 0]).flatten = iv (List.replicate n 0)
  | 0 => rfl
  | n + 1 => by
    rw [List.replicate_succ, List.flatten_cons, rep_zero n]
    rfl
theorem nrf_snoc {M N : Tb} {g t : Int} {i : Nat} {m : List Int × Int} (h : N[i]? = some m) : nrf M g t (N.take (i + 1)) = nrf M g t (N.take i) + if (getO M (mvL m.1 g t)).isNone = true then 1 else 0 := by
  unfold nrf
  rw [take_snoc h, List.filter_append, List.length_append]
  congr 1
  rw [List.filter_cons]
  split <;> rfl
theorem room_le {L : List Ln} (h : ∀ l ∈ L, 0 ≤ l.2.2) {k : Nat} {l : Ln} (hl : L[k]? = some l) : l.2.2 + 1 ≤ pw L := by
  have a := pw_take L h (k + 1)
  rw [take_snoc hl, pw_snoc] at a
  have b := pw_one (L.take k) fun l hl => h l (List.mem_of_mem_take hl)
  have := Int.mul_le_mul_of_nonneg_right b (show 0 ≤ l.2.2 + 1 by have := h l (List.mem_of_getElem? hl); omega)
  omega
/-- the next table in the making: of j standings all, of the next one c -/
structure SA (n : Nat) (l : Ln) (M : Tb) (j : Nat) (J : List Int) (c : Nat) (acc : Tb) : Prop where
  nd : (acc.map (·.1)).Nodup
  ks : Ks (fun J => J.length = n) acc
  sz : acc.length ≤ j * (l.2.2.toNat + 1) + c
  mem : ∀ I, I ∈ acc.map (·.1) ↔ (∃ m ∈ M.take j, ∃ t : Int, 0 ≤ t ∧ t ≤ l.2.2 ∧ I = adj m.1 l t) ∨ ∃ t : Int, 0 ≤ t ∧ t < c ∧ I = adj J l t
theorem sa_nil {n : Nat} {l : Ln} {M : Tb} {J : List Int} : SA n l M 0 J 0 [] :=
  ⟨List.nodup_nil, fun m hm => (List.not_mem_nil hm).elim, Nat.zero_le _, fun I => by
    constructor
    · intro h; cases h
    · rintro (⟨m, hm, _⟩ | ⟨t, a, b, _⟩)
      · cases hm
      · omega⟩
theorem SA.other {n : Nat} {l : Ln} {M : Tb} {j : Nat} {J J' : List Int} {acc : Tb} (h : SA n l M j J 0 acc) : SA n l M j J' 0 acc :=
  ⟨h.nd, h.ks, h.sz, fun I => by
    rw [h.mem]
    constructor
    · rintro (h | ⟨t, a, b, _⟩)
      · exact .inl h
      · omega
    · rintro (h | ⟨t, a, b, _⟩)
      · exact .inl h
      · omega⟩
theorem SA.put {n : Nat} {l : Ln} {M : Tb} {j : Nat} {J : List Int} {c : Nat} {acc : Tb} (h : SA n l M j J c acc) (hJ : J.length = n) (z : Int) : SA n l M j J (c + 1) (putT acc (adj J l c) z) := by
  refine ⟨put_nd h.nd, fun m hm => ?_, ?_, fun I => ?_⟩
  · rcases put_mem hm with e | e
    · rw [e]; show (adj J l c).length = n; rw [adj_len, hJ]
    · exact h.ks m e
  · have := put_len acc (adj J l c) z
    have := h.sz
    omega
  · rw [mem_put, h.mem]
    constructor
    · rintro (rfl | h | ⟨t, a, b, e⟩)
      · exact .inr ⟨c, by omega, by omega, rfl⟩
      · exact .inl h
      · exact .inr ⟨t, a, by omega, e⟩
    · rintro (h | ⟨t, a, b, e⟩)
      · exact .inr (.inl h)
      · by_cases q : t = c
        · exact .inl (by rw [e, q])
        · exact .inr (.inr ⟨t, a, by omega, e⟩)
theorem SA.next {n : Nat} {l : Ln} {M : Tb} {j : Nat} {J J' : List Int} {z : Int} {acc : Tb} (hr : 0 ≤ l.2.2) (h : SA n l M j J (l.2.2 + 1).toNat acc) (hm : M[j]? = some (J, z)) : SA n l M (j + 1) J' 0 acc := by
  refine ⟨h.nd, h.ks, ?_, fun I => ?_⟩
  · have := h.sz
    rw [Nat.add_mul, Nat.one_mul]
    omega
  · rw [h.mem, take_snoc hm]
    constructor
    · rintro (⟨m, h1, h2⟩ | ⟨t, a, b, e⟩)
      · exact .inl ⟨m, List.mem_append_left _ h1, h2⟩
      · exact .inl ⟨(J, z), by simp, t, a, by omega, e⟩
    · rintro (⟨m, h1, t, a, b, e⟩ | ⟨t, a, b, _⟩)
      · rcases List.mem_append.mp h1 with h1 | h1
        · exact .inl ⟨m, h1, t, a, b, e⟩
        · rw [List.mem_singleton.mp h1] at e
          exact .inr ⟨t, a, by omega, e⟩
      · omega
theorem ix_on {J : List Int} {n : Nat} {v : Int} (hJ : J.length = n) (h : On n v) : ixN (iv J).length v = some v.toNat := ix_nat h.1 (by rw [List.length_map, hJ]; exact h.2)
section
variable {P : Program} {w : World} {K : PySem.W.Frag} {mg : PySem.Str → Option Value} {base : Heap}
def spStandings : L2.Sp := fun vs H Q _ => ∃ (n : Nat) (q : Addr) (L : List Ln), vs = [.int n, .ref q] ∧ LTup H q L ∧ LOn n L ∧ (∀ l ∈ L, 0 ≤ l.2.2) ∧ n ≤ 8 ∧ pw L ≤ 1000 ∧
  ∀ H' d M, Same H H' → H' d = some (.dT (kvG gTrue M)) → FS n L L.length M → Q (.ref d) H'
set_option maxHeartbeats 32000000 in
theorem ok_Lstandings (T : Tx K mg) : FnOk P w K mg base CX0 1 (T.f 38) (T.fd 38) ["_law_size", "_law_lines_here"] spStandings := by
  refine T.d_Lstandings.F.ok sc_Lstandings (fun vs H Q E h => ?_) (fun cdv A outer s H vs Q E hr h => ?_)
  · obtain ⟨n, q, L, rfl, _⟩ := h
    rfl
  · obtain ⟨n, q, L, rfl, ⟨qs, hq, hqs⟩, hL, hr2, n8, hpw, q0⟩ := h
    have hsl : sizeLine = 16777216 := sizeLine_eq
    refine ⟨_, 
      (pss_cons (ps_set (i := 2) sc_Lstandings.nd rfl (Or.inl rfl) (pe_disT (hu64 hr) (pe_tupleOf (by rfl) T.n_tuple (pe_op op_rep (pe_lst (pa_cons pe_int pa_nil)) (pv 0))) pe_bl))
      (pss_cons (ps_for PassesOwn.never rfl (pi_tup (pv 1)) (pg_name (i := 3) sc_Lstandings.nd rfl (Or.inl rfl)) 
          (pss_cons (ps_set (i := 4) sc_Lstandings.nd rfl (Or.inl rfl) pe_dnewT)
          (pss_cons (ps_for PassesOwn.never rfl (pi_list (pe_callTy (call_list_dT rfl) (by rfl) T.n_list (by decide +kernel) (pa_cons (pv 2) pa_nil))) (pg_name (i := 5) sc_Lstandings.nd rfl (Or.inl rfl)) 
              (pss_one (ps_for PassesOwn.never rfl (pi_range1 (by rfl) T.n_range (pa_cons (pe_op op_add (pe_ix ix_tup (pv 3) pe_int (fun _ _ => rfl)) pe_int) pa_nil)) (pg_name (i := 6) sc_Lstandings.nd rfl (Or.inl rfl)) 
                  (pss_cons (ps_set (i := 7) sc_Lstandings.nd rfl (Or.inl rfl) (pe_callTy call_list_of (by rfl) T.n_list (by decide +kernel) (pa_cons (pv 5) pa_nil)))
                  (pss_cons (ps_asg (pe_op op_add (pe_ix ix_list (pv 7) (pe_ix ix_tup (pv 3) pe_int (fun _ _ => rfl)) (fun _ _ => rfl)) (pv 6)) (pg_sub (pv 7) (pe_ix ix_tup (pv 3) pe_int (fun _ _ => rfl)) set_list))
                  (pss_cons (ps_asg (pe_op op_sub (pe_op op_add (pe_ix ix_list (pv 7) (pe_ix ix_tup (pv 3) pe_int (fun _ _ => rfl)) (fun _ _ => rfl)) (pe_ix ix_tup (pv 3) pe_int (fun _ _ => rfl))) (pv 6)) (pg_sub (pv 7) (pe_ix ix_tup (pv 3) pe_int (fun _ _ => rfl)) set_list))
                  (pss_one (ps_dput (hu_of hr) (pv 4) (pe_tupleOf (by rfl) T.n_tuple (pv 7)) pe_bl rfl))))))))
          (pss_one (ps_set (i := 2) sc_Lstandings.nd rfl (Or.inl rfl) (pv 4))))))
      (pss_one (ps_ret (pv 2))))), ?_⟩
    refine fun D hD => ⟨by show 1 ≤ sizeLine; decide, fun R hR => ⟨_, rfl, R, n, _, rfl, rfl, upd_same, by omega, by omega, by show 1 * _ ≤ _; omega, fun R2 hR2 => .inl ⟨R2, _, rfl, SqL.of upd_same, fun U hU => ?_⟩⟩⟩
    have DR : D ≠ R := fun z => by rw [← z, upd_same] at hR; cases hR
    have DR2 : D ≠ R2 := fun z => by rw [← z, upd_ne DR, upd_same] at hR2; cases hR2
    have DU : D ≠ U := fun z => by rw [← z, upd_ne DR2, upd_ne DR, upd_same] at hU; cases hU
    have ez : (List.replicate ((n : Int)).toNat [V.int 0]).flatten = iv (List.replicate n 0) := by rw [Int.toNat_natCast, rep_zero]
    rw [ez] at hU ⊢
    refine ⟨by rw [upd_ne DU, upd_ne DR2, upd_ne DR, upd_same], U, (List.replicate n 0).map Sum.inl, rfl, by rw [upd_same, kV_iv], ?_⟩
    have s0 := same_upd (o := .dT [((List.replicate n (0 : Int)).map Sum.inl, V.bl true)]) hD ((((same_new (o := .dT []) hD).trans (same_new (o := .lst [V.int 0]) hR)).trans (same_new (o := .lst (iv (List.replicate n 0))) hR2)).trans (same_new (o := .tup (iv (List.replicate n 0))) hU))
    have d0 : (upd (upd (upd (upd (upd H D (HO.dT [])) R (HO.lst [V.int 0])) R2 (HO.lst (iv (List.replicate n 0)))) U (HO.tup (iv (List.replicate n 0)))) D (HO.dT [(List.map Sum.inl (List.replicate n 0), V.bl true)])) D = some (.dT (kvG gTrue [(List.replicate n 0, 1)])) := upd_same
    generalize upd (upd (upd (upd (upd H D (HO.dT [])) R (HO.lst [V.int 0])) R2 (HO.lst (iv (List.replicate n 0)))) U (HO.tup (iv (List.replicate n 0)))) D (HO.dT [(List.map Sum.inl (List.replicate n 0), V.bl true)]) = H0 at s0 d0
    refine ⟨_, rfl, q, rfl, ⟨_, SqT.of (s0 _ _ hq)⟩, ?_⟩
    have ql : qs.length = L.length := (Paired.length hqs).symm
    refine for_it (n := (qs.map V.ref).length) walk_tup (fun i σ H' => ∃ (d : Addr) (M : Tb) (v3 v4 v5 v6 v7 : Option V), σ = [some (.int n), some (.ref q), some (.ref d), v3, v4, v5, v6, v7] ∧ Same H H' ∧ H' d = some (.dT (kvG gTrue M)) ∧ FS n L i M)
      ⟨D, _, none, none, none, none, none, rfl, s0, d0, fs_zero⟩ (fun i σ H' _ ⟨_, _, _, _, _, _, _, _, s1, _⟩ => SqT.of (s1 _ _ hq)) ?_ ?_
    · rintro i x σ H1x H1 hi ⟨d, M, v3, v4, v5, v6, v7, rfl, s1, d1, ft⟩ ⟨rfl, hx⟩
      rw [List.length_map] at hi
      rw [List.getElem?_map] at hx
      obtain ⟨t, ht, rfl⟩ := Option.map_eq_some_iff.mp hx
      obtain ⟨l, hl, tl⟩ := pr_at hqs ht
      have tl1 : H1 t = some (.tup [.int l.1, .int l.2.1, .int l.2.2]) := s1 _ _ tl
      obtain ⟨on1, on2⟩ := hL l (List.mem_of_getElem? hl)
      have r0 := hr2 l (List.mem_of_getElem? hl)
      have rle := room_le hr2 hl
      have Ml : M.length ≤ 1000 := by have := ft.sz; have := pw_take L hr2 i; omega
      -- the next table
      refine fun D2 hD2 => ?_
      have dD2 : d ≠ D2 := ne_of_none d1 hD2
      refine ⟨_, rfl, d, _, rfl, .inl ((same_new hD2) _ _ d1), fun Pk bs hPk hbs => ?_⟩
      have bl := keys_len hbs
      have hD20 : H D2 = none := s1.free hD2
      have PD2 : Pk ≠ D2 := fun z => by rw [z, upd_same] at hPk; cases hPk
      have s2 : Same H1 (upd (upd H1 D2 (.dT [])) Pk (.lst (bs.map V.ref))) := (same_new hD2).trans (same_new hPk)
      have p2 : (upd (upd H1 D2 (.dT [])) Pk (.lst (bs.map V.ref))) Pk = some (.lst (bs.map V.ref)) := upd_same
      have q2 : (upd (upd H1 D2 (.dT [])) Pk (.lst (bs.map V.ref))) D2 = some (.dT (kvG gTrue [])) := by rw [upd_ne PD2.symm, upd_same]; rfl
      have k2 : ∀ (i : Nat) b, bs[i]? = some b → ∃ m, M[i]? = some m ∧ (upd (upd H1 D2 (.dT [])) Pk (.lst (bs.map V.ref))) b = some (.tup (iv m.1)) := fun i b hb => by
        obtain ⟨m, hm, e⟩ := key_at hbs hb
        exact ⟨m, hm, same_new hPk _ _ e⟩
      generalize upd (upd H1 D2 (.dT [])) Pk (.lst (bs.map V.ref)) = H2 at s2 p2 q2 k2
      refine ⟨Pk, rfl, ⟨_, SqL.of p2⟩, ?_⟩
      refine for_it (n := (bs.map V.ref).length) walk_list (fun j σ H' => ∃ (acc : Tb) (v5 v6 v7 : Option V), σ = [some (.int n), some (.ref q), some (.ref d), some (.ref t), some (.ref D2), v5, v6, v7] ∧ SX D2 H2 H' ∧ H' D2 = some (.dT (kvG gTrue acc)) ∧ SA n l M j [] 0 acc)
        ⟨[], v5, v6, v7, rfl, SX.refl _ _, q2, sa_nil⟩ (fun i σ H' _ ⟨_, _, _, _, _, s3, _⟩ => SqL.of (s3 _ _ PD2 p2)) ?_ ?_
      · rintro j x σ H3x H3 hj ⟨acc, v5, v6, v7, rfl, s3, a3, sa⟩ ⟨rfl, hx⟩
        rw [List.length_map] at hj
        rw [List.getElem?_map] at hx
        obtain ⟨b, hb, rfl⟩ := Option.map_eq_some_iff.mp hx
        obtain ⟨⟨Jn, z⟩, hm, kb⟩ := k2 j b hb
        replace kb : H2 b = some (.tup (iv Jn)) := kb
        have Jl : Jn.length = n := ft.ks _ (List.mem_of_getElem? hm)
        have t3 := s3.same hD2 s2 _ _ tl1
        refine ⟨_, rfl, t, _, _, _, rfl, rfl, SqT.of t3, at_of (j := 2) rfl rfl, _, _, rfl, rfl, _, rfl, by omega, by omega, ?_⟩
        refine for_it (n := (l.2.2 + 1).toNat) walk_range (fun c σ H' => ∃ (acc : Tb) (v6 v7 : Option V), σ = [some (.int n), some (.ref q), some (.ref d), some (.ref t), some (.ref D2), some (.ref b), v6, v7] ∧ SX D2 H2 H' ∧ H' D2 = some (.dT (kvG gTrue acc)) ∧ SA n l M j Jn c acc)
          ⟨acc, v6, v7, rfl, s3, a3, sa.other⟩ (fun _ _ _ _ _ => trivial) ?_ ?_
        · rintro c x σ H4x H4 hc ⟨acc, v6, v7, rfl, s4, a4, sa⟩ ⟨rfl, rfl⟩
          have b4 : H4 b = some (.tup (iv Jn)) := s4 _ _ (ne_of kb q2 fun z => by cases z) kb
          have t4 := s4.same hD2 s2 _ _ tl1
          refine ⟨_, rfl, b, _, rfl, .inr (SqT.of b4), fun R hR => ?_⟩
          have s45 := same_new (o := .lst (iv Jn)) hR
          have Jl1 : (Jn.set l.1.toNat (gt Jn l.1 + (0 + (c : Int)))).length = n := by rw [List.length_set]; exact Jl
          have tR : t ≠ R := ne_of_none t4 hR
          refine ⟨_, rfl, _, rfl, t, _, _, _, rfl, rfl, SqT.of (s45 _ _ t4), at_of (j := 0) rfl rfl, R, _, _, _, rfl, rfl, SqL.of upd_same, at_gt on1.1 (by rw [Jl]; exact on1.2), _, rfl, _, _, rfl, rfl, _, rfl, _, rfl, t, _, _, _, rfl, rfl, SqT.of (s45 _ _ t4), at_of (j := 0) rfl rfl, R, _, _, _, rfl, rfl, upd_same, ix_on Jl on1, ?_⟩
          rw [iv_set]
          have s46 := same_upd (o := .lst (iv (Jn.set l.1.toNat (gt Jn l.1 + (0 + (c : Int)))))) hR s45
          refine ⟨_, rfl, _, rfl, t, _, _, _, rfl, rfl, SqT.of (s46 _ _ t4), at_of (j := 1) rfl rfl, R, _, _, _, rfl, rfl, SqL.of upd_same, at_gt on2.1 (by rw [Jl1]; exact on2.2), _, rfl, t, _, _, _, rfl, rfl, SqT.of (s46 _ _ t4), at_of (j := 2) rfl rfl, _, _, rfl, rfl, _, rfl, _, _, rfl, rfl, _, rfl, _, rfl, t, _, _, _, rfl, rfl, SqT.of (s46 _ _ t4), at_of (j := 1) rfl rfl, R, _, _, _, rfl, rfl, upd_same, ix_on Jl1 on2, ?_⟩
          rw [iv_set]
          have eJ : (Jn.set l.1.toNat (gt Jn l.1 + (0 + (c : Int)))).set l.2.1.toNat (gt (Jn.set l.1.toNat (gt Jn l.1 + (0 + (c : Int)))) l.2.1 + l.2.2 - (0 + (c : Int))) = adj Jn l c := by
            rw [Int.zero_add]; rfl
          have s47 := same_upd (o := .lst (iv ((Jn.set l.1.toNat (gt Jn l.1 + (0 + (c : Int)))).set l.2.1.toNat (gt (Jn.set l.1.toNat (gt Jn l.1 + (0 + (c : Int)))) l.2.1 + l.2.2 - (0 + (c : Int)))))) hR s46
          have r7 := upd_same (H := upd (upd H4 R (.lst (iv Jn))) R (.lst (iv (Jn.set l.1.toNat (gt Jn l.1 + (0 + (c : Int))))))) (a := R) (o := .lst (iv ((Jn.set l.1.toNat (gt Jn l.1 + (0 + (c : Int)))).set l.2.1.toNat (gt (Jn.set l.1.toNat (gt Jn l.1 + (0 + (c : Int)))) l.2.1 + l.2.2 - (0 + (c : Int))))))
          rw [eJ] at s47 r7 ⊢
          refine ⟨_, rfl, _, rfl, .inl ⟨R, _, rfl, SqL.of r7, fun U hU => ?_⟩⟩
          have s48 := s47.trans (same_new (o := .tup (iv (adj Jn l c))) hU)
          have al : acc.length < sizeLine := by
            have h1 := sa.sz
            have h2 : j * (l.2.2.toNat + 1) ≤ 1000 * 1000 := Nat.mul_le_mul (by omega) (by omega)
            omega
          refine ⟨D2, _, rfl, dput_g (g := gTrue) (z := 1) rfl (s48 _ _ a4) upd_same al, ?_⟩
          exact ⟨_, _, _, rfl, s4.trans (sx_put (SX.of s48)), upd_same, sa.put Jl 1⟩
        · rintro σ H4 ⟨acc, v6, v7, rfl, s4, a4, sa⟩
          exact ⟨acc, _, _, _, rfl, s4, a4, sa.next r0 hm⟩
      · rintro σ H3 ⟨acc, v5, v6, v7, rfl, s3, a3, sa⟩
        rw [List.length_map, bl] at sa
        refine ⟨_, rfl, D2, _, _, _, _, _, _, rfl, s3.same hD20 (s1.trans s2), a3, ?_⟩
        refine fs_succ hL r0 ft hl sa.nd sa.ks ?_ fun I => ?_
        · have := sa.sz
          have e : ((M.length * (l.2.2.toNat + 1) : Nat) : Int) = M.length * (l.2.2 + 1) := by
            rw [Int.natCast_mul, Int.natCast_add, Int.toNat_of_nonneg r0]; rfl
          omega
        · rw [sa.mem, List.take_length]
          constructor
          · rintro (h | ⟨t, a, b, _⟩)
            · exact h
            · omega
          · exact .inl
    · rintro σ H1 ⟨d, M, v3, v4, v5, v6, v7, rfl, s1, d1, ft⟩
      rw [List.length_map, ql] at ft
      exact ⟨_, rfl, q0 _ d M s1 d1 ft⟩
def spRefusing : L2.Sp := fun vs H Q _ => ∃ (d : Addr) (M : Tb) (n : Nat) (g t : Int), vs = [.ref d, .int g, .int t] ∧ H d = some (.dT (kvG gTrue M)) ∧ Ks (fun J => J.length = n) M ∧ n ≤ 4096 ∧ On n g ∧ On n t ∧
  ∀ H', Same H H' → Q (.int (nrf M g t M)) H'
set_option maxHeartbeats 32000000 in
theorem ok_Lrefusing (T : Tx K mg) : FnOk P w K mg base CX0 1 (T.f 39) (T.fd 39) ["_law_table", "_law_giver", "_law_taker"] spRefusing := by
  refine T.d_Lrefusing.F.ok sc_Lrefusing (fun vs H Q E h => ?_) (fun cdv A outer s H vs Q E hr h => ?_)
  · obtain ⟨d, M, n, g, t, rfl, _⟩ := h
    rfl
  · obtain ⟨d, M, n, g, t, rfl, hd, ks, n4, hg, ht, q0⟩ := h
    refine ⟨_, 
      (pss_cons (ps_set (i := 3) sc_Lrefusing.nd rfl (Or.inl rfl) pe_int)
      (pss_cons (ps_for PassesOwn.never rfl (pi_list (pe_callTy (call_list_dT rfl) (by rfl) T.n_list (by decide +kernel) (pa_cons (pv 0) pa_nil))) (pg_name (i := 4) sc_Lrefusing.nd rfl (Or.inl rfl)) 
          (pss_cons (ps_set (i := 5) sc_Lrefusing.nd rfl (Or.inl rfl) (pe_callTy call_list_of (by rfl) T.n_list (by decide +kernel) (pa_cons (pv 4) pa_nil)))
          (pss_cons (ps_asg (pe_op op_sub (pe_ix ix_list (pv 5) (pv 1) (fun _ _ => rfl)) pe_int) (pg_sub (pv 5) (pv 1) set_list))
          (pss_cons (ps_asg (pe_op op_add (pe_ix ix_list (pv 5) (pv 2) (fun _ _ => rfl)) pe_int) (pg_sub (pv 5) (pv 2) set_list))
          (pss_one (ps_if (pt_cmp (pc_dnotin (hu_of hr) (pe_tupleOf (by rfl) T.n_tuple (pv 5)) (pv 0))) 
              (pss_one (ps_set (i := 3) sc_Lrefusing.nd rfl (Or.inl rfl) (pe_op op_add (pv 3) pe_int))) pss_nil))))))
      (pss_one (ps_ret (pv 3))))), ?_⟩
    refine ⟨_, rfl, d, _, rfl, .inl hd, fun Pk bs hPk hbs => ?_⟩
    have bl := keys_len hbs
    have s1 := same_new (o := .lst (bs.map V.ref)) hPk
    have p1 : (upd H Pk (.lst (bs.map V.ref))) Pk = some (.lst (bs.map V.ref)) := upd_same
    generalize upd H Pk (.lst (bs.map V.ref)) = H1 at s1 p1
    refine ⟨Pk, rfl, ⟨_, SqL.of p1⟩, ?_⟩
    refine for_it (n := (bs.map V.ref).length) walk_list (fun i σ H' => ∃ (v4 v5 : Option V), σ = [some (.ref d), some (.int g), some (.int t), some (.int (nrf M g t (M.take i))), v4, v5] ∧ Same H1 H')
      ⟨none, none, rfl, Same.refl _⟩ (fun i σ H' _ ⟨_, _, _, s2⟩ => SqL.of (s2 _ _ p1)) ?_ ?_
    · rintro i x σ Hx H2 hi ⟨v4, v5, rfl, s2⟩ ⟨rfl, hx⟩
      rw [List.length_map] at hi
      rw [List.getElem?_map] at hx
      obtain ⟨b, hb, rfl⟩ := Option.map_eq_some_iff.mp hx
      obtain ⟨⟨J, z⟩, hm, kb⟩ := key_at hbs hb
      replace kb : H b = some (.tup (iv J)) := kb
      have Jl : J.length = n := ks _ (List.mem_of_getElem? hm)
      have s02 : Same H H2 := s1.trans s2
      have b2 := s02 _ _ kb
      refine ⟨_, rfl, b, _, rfl, .inr (SqT.of b2), fun R hR => ?_⟩
      have Jl1 : (J.set g.toNat (gt J g - 1)).length = n := by rw [List.length_set]; exact Jl
      refine ⟨_, rfl, _, rfl, R, _, _, _, rfl, rfl, SqL.of upd_same, at_gt hg.1 (by rw [Jl]; exact hg.2), _, _, rfl, rfl, _, rfl, _, rfl, R, _, _, _, rfl, rfl, upd_same, ix_on Jl hg, ?_⟩
      rw [iv_set]
      refine ⟨_, rfl, _, rfl, R, _, _, _, rfl, rfl, SqL.of upd_same, at_gt ht.1 (by rw [Jl1]; exact ht.2), _, _, rfl, rfl, _, rfl, _, rfl, R, _, _, _, rfl, rfl, upd_same, ix_on Jl1 ht, ?_⟩
      rw [iv_set]
      have s23 : Same H2 (upd (upd (upd H2 R (.lst (iv J))) R (.lst (iv (J.set g.toNat (gt J g - 1))))) R (.lst (iv (mvL J g t)))) := same_upd hR (same_upd hR (same_new hR))
      have r3 : (upd (upd (upd H2 R (.lst (iv J))) R (.lst (iv (J.set g.toNat (gt J g - 1))))) R (.lst (iv (mvL J g t)))) R = some (.lst (iv (mvL J g t))) := upd_same
      have ns := nrf_snoc (M := M) (g := g) (t := t) hm
      change _ = _ at ns
      refine ⟨_, rfl, .inl ⟨R, _, rfl, SqL.of r3, fun U hU => ?_⟩⟩
      have s24 := s23.trans (same_new (o := .tup (iv (mvL J g t))) hU)
      refine ⟨_, rfl, d, _, rfl, dget_g (s02.trans s24 _ _ hd) upd_same, _, rfl, ?_⟩
      rw [Option.isSome_map]
      replace ns : nrf M g t (M.take (i + 1)) = nrf M g t (M.take i) + if (getO M (mvL J g t)).isNone = true then 1 else 0 := ns
      cases e : getO M (mvL J g t) with
      | none =>
        rw [e] at ns
        refine iteT ⟨_, rfl, _, _, rfl, rfl, some (.ref b), some (.ref R), ?_, s2.trans s24⟩
        rw [ns]
        rfl
      | some y =>
        rw [e] at ns
        refine iteF ⟨some (.ref b), some (.ref R), ?_, s2.trans s24⟩
        rw [ns]
        rfl
    · rintro σ H2 ⟨v4, v5, rfl, s2⟩
      rw [List.length_map, bl, List.take_length]
      exact ⟨_, rfl, q0 _ (s1.trans s2)⟩
end
end K36
-- text D19
set_option maxRecDepth 100000
set_option maxHeartbeats 4000000
namespace K36
open PySem PySem.Spec PyProof.Rows L2
/-! ### _law_same on what is the same -/
inductive Sc : V → String → Prop where
  | int (i : Int) : Sc (.int i) "int"
  | bl (b : Bool) : Sc (.bl b) "bool"
  | str (z : PySem.Str) : Sc (.str z) "str"
theorem Sc.kn {x : V} {n : String} (h : Sc x n) (H : Hp) : Kn H x n := by
  cases h with
  | int i => exact .int i
  | bl b => exact .bl b
  | str z => exact .str z
section
variable {P : Program} {w : World} {K : PySem.W.Frag} {mg : PySem.Str → Option Value} {base : Heap}
def spF : L2.Sp := fun _ _ _ _ => False
theorem ok_LsameF (T : Tx K mg) : FnOk P w K mg base CX0 1 (T.f 41) (T.fd 41) ["_law_told_here", "_law_due"] spF := T.d_Lsame.F.ok sc_Lsame (fun vs H Q E h => h.elim) (fun cdv A outer s H vs Q E hr h => h.elim)
def spSame0 : L2.Sp := fun vs H Q _ => ∃ x n, vs = [x, x] ∧ Sc x n ∧ Q (.bl true) H
set_option maxHeartbeats 32000000 in
theorem ok_Lsame0 (T : Tx K mg) : FnOk P w K mg base CX0 2 (T.f 41) (T.fd 41) ["_law_told_here", "_law_due"] spSame0 := by
  refine T.d_Lsame.F.ok sc_Lsame (fun vs H Q E h => ?_) (fun cdv A outer s H vs Q E hr h => ?_)
  · obtain ⟨x, n, rfl, _⟩ := h
    rfl
  · obtain ⟨x, n, rfl, sc, q⟩ := h
    refine ⟨_, 
      (pss_cons (ps_if (pt_val (pe_callB call_isi (by rfl) T.n_isinstance (by decide +kernel) (pa_cons (pv 1) (pa_cons (pe_bltn (by rfl) T.n_tuple (by decide +kernel) (show RelV (.ty "tuple") (.type "tuple") from rfl)) pa_nil)))) 
          (pss_cons (ps_if (PW.pt (pw_or (pt_not (pt_val (pe_callB call_isi (by rfl) T.n_isinstance (by decide +kernel) (pa_cons (pv 0) (pa_cons (pe_bltn (by rfl) T.n_tuple (by decide +kernel) (show RelV (.ty "tuple") (.type "tuple") from rfl)) pa_nil))))) (pw_or1 (pt_cmpR op_ne (pe_callB call_len_seq (by rfl) T.n_len (by decide +kernel) (pa_cons (pv 0) pa_nil)) (pe_callB call_len_seq (by rfl) T.n_len (by decide +kernel) (pa_cons (pv 1) pa_nil)) (nomark _))))) 
              (pss_one (ps_ret pe_bl)) pss_nil)
          (pss_one (ps_ret (pe_callB (cr_all rfl) (by rfl) T.n_all (by decide +kernel) (pa_cons (pe_lc (te := (tCall spF [] E0 (tCons (tOp (rIxT K) (tVar 0) (tVar 2)) (tCons (tOp (rIxT K) (tVar 1) (tVar 2)) tNil)))) (own := [("_law_k", 2)]) rfl sc_Lsame.nd (pi_range1 (by rfl) T.n_range (pa_cons (pe_callB call_len_seq (by rfl) T.n_len (by decide +kernel) (pa_cons (pv 1) pa_nil)) pa_nil)) (blkOk_by (own := [("_law_k", 2)]) (N := N_Lsame) (sc := defScope s_Lsame) (by decide +kernel)) (fun _ _ _ _ _ => (pg_name (i := 2) sc_Lsame.nd rfl (Or.inl rfl))) (fun _ _ _ _ _ => pts_nil) (fun _ _ _ _ _ => (pe_call (ok_LsameF T) (hr.mono (by decide)) (by rfl) T.d_Lsame.g T.d_Lsame.k T.d_Lsame.b .nil pass0 (pa_cons (pe_ix ix_tup (pv 0) (pv 2) (fun _ _ => rfl)) (pa_cons (pe_ix ix_tup (pv 1) (pv 2) (fun _ _ => rfl)) pa_nil))))) pa_nil))))) pss_nil)
      (pss_cons (ps_if (pt_val (pe_callB call_isi (by rfl) T.n_isinstance (by decide +kernel) (pa_cons (pv 1) (pa_cons (pe_bltn (by rfl) T.n_bool (by decide +kernel) (show RelV (.ty "bool") (.type "bool") from rfl)) pa_nil)))) 
          (pss_one (ps_ret (pe_and (pe_callB call_isi (by rfl) T.n_isinstance (by decide +kernel) (pa_cons (pv 0) (pa_cons (pe_bltn (by rfl) T.n_bool (by decide +kernel) (show RelV (.ty "bool") (.type "bool") from rfl)) pa_nil))) (pe_one (pe_cmpR op_eq (pv 0) (pv 1) (nomark _)))))) pss_nil)
      (pss_cons (ps_if (pt_val (pe_callB call_isi (by rfl) T.n_isinstance (by decide +kernel) (pa_cons (pv 1) (pa_cons (pe_bltn (by rfl) T.n_str (by decide +kernel) (show RelV (.ty "str") (.type "str") from rfl)) pa_nil)))) 
          (pss_one (ps_ret (pe_and (pe_callB call_isi (by rfl) T.n_isinstance (by decide +kernel) (pa_cons (pv 0) (pa_cons (pe_bltn (by rfl) T.n_str (by decide +kernel) (show RelV (.ty "str") (.type "str") from rfl)) pa_nil))) (pe_one (pe_cmpR op_eq (pv 0) (pv 1) (nomark _)))))) pss_nil)
      (pss_one (ps_ret (pe_and (pe_callB call_isi (by rfl) T.n_isinstance (by decide +kernel) (pa_cons (pv 0) (pa_cons (pe_bltn (by rfl) T.n_int (by decide +kernel) (show RelV (.ty "int") (.type "int") from rfl)) pa_nil))) (pe_and (pe_not (pe_callB call_isi (by rfl) T.n_isinstance (by decide +kernel) (pa_cons (pv 0) (pa_cons (pe_bltn (by rfl) T.n_bool (by decide +kernel) (show RelV (.ty "bool") (.type "bool") from rfl)) pa_nil)))) (pe_one (pe_cmpR op_eq (pv 0) (pv 1) (nomark _)))))))))), ?_⟩
    cases sc with
    | int i =>
      refine ⟨_, rfl, _, .ty "tuple", _, _, false, rfl, .ty _, (Kn.int i).ty, kit_ty (by decide +kernel), _, rfl, iteF ?_⟩
      refine ⟨_, rfl, _, .ty "bool", _, _, false, rfl, .ty _, (Kn.int i).ty, kit_ty (by decide +kernel), _, rfl, iteF ?_⟩
      refine ⟨_, rfl, _, .ty "str", _, _, false, rfl, .ty _, (Kn.int i).ty, kit_ty (by decide +kernel), _, rfl, iteF ?_⟩
      refine ⟨_, rfl, _, .ty "int", _, _, true, rfl, .ty _, (Kn.int i).ty, kit_ty (by decide +kernel), _, rfl, iteT ?_⟩
      refine ⟨_, rfl, _, .ty "bool", _, _, false, rfl, .ty _, (Kn.int i).ty, kit_ty (by decide +kernel), _, rfl, _, rfl, iteT ?_⟩
      refine ⟨_, rfl, _, rfl, rfl, ?_⟩
      rw [decide_eq_true rfl]
      exact q
    | bl b =>
      refine ⟨_, rfl, _, .ty "tuple", _, _, false, rfl, .ty _, (Kn.bl b).ty, kit_ty (by decide +kernel), _, rfl, iteF ?_⟩
      refine ⟨_, rfl, _, .ty "bool", _, _, true, rfl, .ty _, (Kn.bl b).ty, kit_ty (by decide +kernel), _, rfl, iteT ?_⟩
      refine ⟨_, rfl, _, .ty "bool", _, _, true, rfl, .ty _, (Kn.bl b).ty, kit_ty (by decide +kernel), _, rfl, iteT ?_⟩
      refine ⟨_, rfl, _, rfl, rfl, ?_⟩
      rw [decide_eq_true rfl]
      exact q
    | str z =>
      refine ⟨_, rfl, _, .ty "tuple", _, _, false, rfl, .ty _, (Kn.str z).ty, kit_ty (by decide +kernel), _, rfl, iteF ?_⟩
      refine ⟨_, rfl, _, .ty "bool", _, _, false, rfl, .ty _, (Kn.str z).ty, kit_ty (by decide +kernel), _, rfl, iteF ?_⟩
      refine ⟨_, rfl, _, .ty "str", _, _, true, rfl, .ty _, (Kn.str z).ty, kit_ty (by decide +kernel), _, rfl, iteT ?_⟩
      refine ⟨_, rfl, _, .ty "str", _, _, true, rfl, .ty _, (Kn.str z).ty, kit_ty (by decide +kernel), _, rfl, iteT ?_⟩
      refine ⟨_, rfl, _, rfl, rfl, ?_⟩
      rw [decide_eq_true rfl]
      exact q
/-- the same scalar, or two tuples of the same scalars -/
def EqD (H : Hp) (x y : V) : Prop := (x = y ∧ ∃ n, Sc x n) ∨ ∃ (a b : Addr) (xs : List V), x = .ref a ∧ y = .ref b ∧ H a = some (.tup xs) ∧ H b = some (.tup xs) ∧ (∀ z ∈ xs, ∃ n, Sc z n) ∧ xs.length ≤ 100
def spSame : L2.Sp := fun vs H Q _ => ∃ x y, vs = [x, y] ∧ EqD H x y ∧ ∀ H', Same H H' → Q (.bl true) H'
set_option maxHeartbeats 32000000 in
theorem ok_Lsame (T : Tx K mg) : FnOk P w K mg base CX0 3 (T.f 41) (T.fd 41) ["_law_told_here", "_law_due"] spSame := by
  refine T.d_Lsame.F.ok sc_Lsame (fun vs H Q E h => ?_) (fun cdv A outer s H vs Q E hr h => ?_)
  · obtain ⟨x, y, rfl, _⟩ := h
    rfl
  · obtain ⟨x, y, rfl, ed, q⟩ := h
    refine ⟨_, 
      (pss_cons (ps_if (pt_val (pe_callB call_isi (by rfl) T.n_isinstance (by decide +kernel) (pa_cons (pv 1) (pa_cons (pe_bltn (by rfl) T.n_tuple (by decide +kernel) (show RelV (.ty "tuple") (.type "tuple") from rfl)) pa_nil)))) 
          (pss_cons (ps_if (PW.pt (pw_or (pt_not (pt_val (pe_callB call_isi (by rfl) T.n_isinstance (by decide +kernel) (pa_cons (pv 0) (pa_cons (pe_bltn (by rfl) T.n_tuple (by decide +kernel) (show RelV (.ty "tuple") (.type "tuple") from rfl)) pa_nil))))) (pw_or1 (pt_cmpR op_ne (pe_callB call_len_seq (by rfl) T.n_len (by decide +kernel) (pa_cons (pv 0) pa_nil)) (pe_callB call_len_seq (by rfl) T.n_len (by decide +kernel) (pa_cons (pv 1) pa_nil)) (nomark _))))) 
              (pss_one (ps_ret pe_bl)) pss_nil)
          (pss_one (ps_ret (pe_callB (cr_all rfl) (by rfl) T.n_all (by decide +kernel) (pa_cons (pe_lc (te := (tCall spSame0 [] E0 (tCons (tOp (rIxT K) (tVar 0) (tVar 2)) (tCons (tOp (rIxT K) (tVar 1) (tVar 2)) tNil)))) (own := [("_law_k", 2)]) rfl sc_Lsame.nd (pi_range1 (by rfl) T.n_range (pa_cons (pe_callB call_len_seq (by rfl) T.n_len (by decide +kernel) (pa_cons (pv 1) pa_nil)) pa_nil)) (blkOk_by (own := [("_law_k", 2)]) (N := N_Lsame) (sc := defScope s_Lsame) (by decide +kernel)) (fun _ _ _ _ _ => (pg_name (i := 2) sc_Lsame.nd rfl (Or.inl rfl))) (fun _ _ _ _ _ => pts_nil) (fun _ _ _ _ _ => (pe_call (ok_Lsame0 T) (hr.mono (by decide)) (by rfl) T.d_Lsame.g T.d_Lsame.k T.d_Lsame.b .nil pass0 (pa_cons (pe_ix ix_tup (pv 0) (pv 2) (fun _ _ => rfl)) (pa_cons (pe_ix ix_tup (pv 1) (pv 2) (fun _ _ => rfl)) pa_nil))))) pa_nil))))) pss_nil)
      (pss_cons (ps_if (pt_val (pe_callB call_isi (by rfl) T.n_isinstance (by decide +kernel) (pa_cons (pv 1) (pa_cons (pe_bltn (by rfl) T.n_bool (by decide +kernel) (show RelV (.ty "bool") (.type "bool") from rfl)) pa_nil)))) 
          (pss_one (ps_ret (pe_and (pe_callB call_isi (by rfl) T.n_isinstance (by decide +kernel) (pa_cons (pv 0) (pa_cons (pe_bltn (by rfl) T.n_bool (by decide +kernel) (show RelV (.ty "bool") (.type "bool") from rfl)) pa_nil))) (pe_one (pe_cmpR op_eq (pv 0) (pv 1) (nomark _)))))) pss_nil)
      (pss_cons (ps_if (pt_val (pe_callB call_isi (by rfl) T.n_isinstance (by decide +kernel) (pa_cons (pv 1) (pa_cons (pe_bltn (by rfl) T.n_str (by decide +kernel) (show RelV (.ty "str") (.type "str") from rfl)) pa_nil)))) 
          (pss_one (ps_ret (pe_and (pe_callB call_isi (by rfl) T.n_isinstance (by decide +kernel) (pa_cons (pv 0) (pa_cons (pe_bltn (by rfl) T.n_str (by decide +kernel) (show RelV (.ty "str") (.type "str") from rfl)) pa_nil))) (pe_one (pe_cmpR op_eq (pv 0) (pv 1) (nomark _)))))) pss_nil)
      (pss_one (ps_ret (pe_and (pe_callB call_isi (by rfl) T.n_isinstance (by decide +kernel) (pa_cons (pv 0) (pa_cons (pe_bltn (by rfl) T.n_int (by decide +kernel) (show RelV (.ty "int") (.type "int") from rfl)) pa_nil))) (pe_and (pe_not (pe_callB call_isi (by rfl) T.n_isinstance (by decide +kernel) (pa_cons (pv 0) (pa_cons (pe_bltn (by rfl) T.n_bool (by decide +kernel) (show RelV (.ty "bool") (.type "bool") from rfl)) pa_nil)))) (pe_one (pe_cmpR op_eq (pv 0) (pv 1) (nomark _)))))))))), ?_⟩
    rcases ed with ⟨rfl, n, sc⟩ | ⟨a, b, xs, rfl, rfl, ha, hb, hx, hl⟩
    rotate_left
    · refine ⟨_, rfl, _, .ty "tuple", _, _, true, rfl, .ty _, (Kn.tup hb).ty, kit_ty (by decide +kernel), _, rfl, iteT ?_⟩
      refine ⟨_, rfl, _, .ty "tuple", _, _, true, rfl, .ty _, (Kn.tup ha).ty, kit_ty (by decide +kernel), _, rfl, iteF ?_⟩
      refine ⟨_, rfl, a, _, rfl, .inr (SqT.of ha), _, rfl, b, _, rfl, .inr (SqT.of hb), rfl, _, rfl, ?_⟩
      rw [show (!decide (V.int (xs.length : Nat) = V.int (xs.length : Nat))) = false by rw [decide_eq_true rfl]; rfl]
      refine iteF ?_
      refine ⟨_, rfl, b, _, rfl, .inr (SqT.of hb), _, rfl, by omega, by omega, fun D hD => ?_⟩
      refine lc_it (n := ((xs.length : Nat) : Int).toNat) walk_range (fun i H' => Same H H' ∧ H' D = some (.lst ((List.replicate i true).map V.bl))) ⟨same_new hD, upd_same⟩ (fun _ _ _ _ => trivial) ?_ ?_
      · rintro i x H1x H1 hi ⟨s1, hL⟩ ⟨rfl, rfl⟩
        have hlt : i < xs.length := by omega
        obtain ⟨n, sc⟩ := hx _ (List.getElem_mem hlt)
        have hz : atI xs (0 + (i : Int)) = some xs[i] := by
          rw [Int.zero_add]
          exact atI_nat (List.getElem?_eq_getElem hlt)
        refine ⟨rfl, yesT ?_⟩
        refine ⟨_, rfl, _, rfl, a, _, _, _, rfl, rfl, SqT.of (s1 _ _ ha), hz, _, rfl, _, rfl, b, _, _, _, rfl, rfl, SqT.of (s1 _ _ hb), hz, _, n, rfl, sc, ?_⟩
        refine ⟨_, hL, small_line (by simp; omega), same_upd hD s1, ?_⟩
        rw [upd_same, List.replicate_succ', List.map_append]
        rfl
      · rintro H1 ⟨s1, hL⟩
        refine ⟨D, _, rfl, SqL.of hL, ?_⟩
        rw [show (List.replicate ((xs.length : Nat) : Int).toNat true).all id = true by simp]
        exact q _ s1
    cases sc with
    | int i =>
      refine ⟨_, rfl, _, .ty "tuple", _, _, false, rfl, .ty _, (Kn.int i).ty, kit_ty (by decide +kernel), _, rfl, iteF ?_⟩
      refine ⟨_, rfl, _, .ty "bool", _, _, false, rfl, .ty _, (Kn.int i).ty, kit_ty (by decide +kernel), _, rfl, iteF ?_⟩
      refine ⟨_, rfl, _, .ty "str", _, _, false, rfl, .ty _, (Kn.int i).ty, kit_ty (by decide +kernel), _, rfl, iteF ?_⟩
      refine ⟨_, rfl, _, .ty "int", _, _, true, rfl, .ty _, (Kn.int i).ty, kit_ty (by decide +kernel), _, rfl, iteT ?_⟩
      refine ⟨_, rfl, _, .ty "bool", _, _, false, rfl, .ty _, (Kn.int i).ty, kit_ty (by decide +kernel), _, rfl, _, rfl, iteT ?_⟩
      refine ⟨_, rfl, _, rfl, rfl, ?_⟩
      rw [decide_eq_true rfl]
      exact (q _ (Same.refl _))
    | bl b =>
      refine ⟨_, rfl, _, .ty "tuple", _, _, false, rfl, .ty _, (Kn.bl b).ty, kit_ty (by decide +kernel), _, rfl, iteF ?_⟩
      refine ⟨_, rfl, _, .ty "bool", _, _, true, rfl, .ty _, (Kn.bl b).ty, kit_ty (by decide +kernel), _, rfl, iteT ?_⟩
      refine ⟨_, rfl, _, .ty "bool", _, _, true, rfl, .ty _, (Kn.bl b).ty, kit_ty (by decide +kernel), _, rfl, iteT ?_⟩
      refine ⟨_, rfl, _, rfl, rfl, ?_⟩
      rw [decide_eq_true rfl]
      exact (q _ (Same.refl _))
    | str z =>
      refine ⟨_, rfl, _, .ty "tuple", _, _, false, rfl, .ty _, (Kn.str z).ty, kit_ty (by decide +kernel), _, rfl, iteF ?_⟩
      refine ⟨_, rfl, _, .ty "bool", _, _, false, rfl, .ty _, (Kn.str z).ty, kit_ty (by decide +kernel), _, rfl, iteF ?_⟩
      refine ⟨_, rfl, _, .ty "str", _, _, true, rfl, .ty _, (Kn.str z).ty, kit_ty (by decide +kernel), _, rfl, iteT ?_⟩
      refine ⟨_, rfl, _, .ty "str", _, _, true, rfl, .ty _, (Kn.str z).ty, kit_ty (by decide +kernel), _, rfl, iteT ?_⟩
      refine ⟨_, rfl, _, rfl, rfl, ?_⟩
      rw [decide_eq_true rfl]
      exact (q _ (Same.refl _))
end
end K36
-- text R8
set_option maxRecDepth 100000
set_option maxHeartbeats 4000000
namespace K36
open PySem PySem.Spec PyProof.Rows L2
/-! ### calls that name all their arguments, from the last to the first -/
def gR {α : Type} (us ws : List α) : List α := match us with
  | [] => ws.reverse
  | _ => []
theorem rel_rev : ∀ {zs : List V} {ws : List Value}, Vals zs ws → Vals zs.reverse ws.reverse
  | [], [], _ => .nil
  | z :: zs, u :: ws, h => by
    cases h with
    | cons a b =>
      rw [List.reverse_cons, List.reverse_cons]
      exact (rel_rev b).append (.cons a .nil)
theorem kb_of {K : PySem.W.Frag} {x : PySem.Str} {st : Stmt} {f : Addr} {fd : FuncData} {ps ks : List PySem.Str} (F : L2.Fun K x x st f fd) (hp : ps ≠ [])
    (h : ∀ (kV doc pm : Value) (an : Option Addr) (cdv ct : Value) (ws : List Value), ws.length = ps.length → bindArgs (PySem.W.fnOf x x (defArgs st) (defBody st) (defScope st) .none kV doc pm an cdv ct) ⟨[], ks.zip ws⟩ = pure (ps.zip ws.reverse)) : KBinds K fd ps ks gR gR := by
  obtain ⟨oc, od, kV, doc, pm, an, cdv, ct, osl, rfl, lk, hcd⟩ := F.ex
  refine ⟨fun s us ws _ hl => ?_, fun {vs us zs ws} r rz => ?_⟩
  · cases us with
    | nil =>
      refine BindsTo.of_eq (h kV doc pm an cdv ct ws ?_)
      rw [← hl]; exact List.length_reverse.symm
    | cons u us =>
      cases ps with
      | nil => exact absurd rfl hp
      | cons p ps => cases hl
  · cases r with
    | nil => exact rel_rev rz
    | cons _ _ => exact .nil
section
variable {X : Cx} {CX : CXT} {k : Nat} {f : Addr} {fd : FuncData} {ps ks : List PySem.Str} {sp : L2.Sp} {E : XK} {x : PySem.Str} {p pos : Pos} {kws : List Keyword} {tk : TA} {g : List Value → List Value → List Value} {gV : List V → List V → List V}
theorem pe_callK0 (F : FnOk X.prog X.w X.K X.mg X.base CX k f fd ps sp) (hr : Room k X.A) (hg : Gl X x) (hm : X.mg x = some (.ref f)) (hk : PySem.W.keepIn X.K (.ref f) = true) (hb : KBinds X.K fd ps ks g gV) (hx : Passes CX X E)
    (hkw : PK X kws tk) (hall : (backToKw pos (keywordEach kws X.env)).all (·.1.isSome) = true := by rfl) (hks : (backToKw pos (keywordEach kws X.env)).filterMap (·.1) = ks := by rfl)
    (hdb : (x == ("__debug__" : PySem.Str)) = false := by decide)
    (hpl : ((backTo pos (starEach [] X.env)).any (·.1) || (backToKw pos (keywordEach kws X.env)).any (·.1.isNone)) = false := by rfl) :
    PE X (.Call (.Name x p) [] kws pos) (tCallK sp gV E tNil tk) := by
  refine ⟨fun pins s σ H Q I h => ?_⟩
  refine wpAny_Call_Name_kw (ld_glob I hg hm ?_ hdb)
  refine PySem.W.callWith_KW0 (h₀ := X.base) I.ok.mod.kin hk hall (thn (hkw.run pos pins s σ H _ I h) fun ws s2 ⟨zs, H2, I2, rz, q2⟩ => ⟨I2.kIn, ?_⟩) hpl
  rw [hks]
  exact run_fnk (us := []) (vs := []) F hr hb hx I2 .nil rz q2
end
end K36
-- text D20
set_option maxRecDepth 100000
set_option maxHeartbeats 4000000
namespace K36
open PySem PySem.Spec PyProof.Rows L2
/-! ### _law_rooms_right -/
theorem pw_big (e30 : (10 : Int) ^ 30 = 1000000000000000000000000000000) : ∀ (L : List Ln), (∀ l ∈ L, 0 ≤ l.2.2 ∧ l.2.2 ≤ 10 ^ 30) → (pw L).natAbs ≤ 2 ^ (100 * L.length) := by
  intro L
  induction hk : L.length generalizing L with
  | zero =>
    intro _
    obtain rfl := List.length_eq_zero_iff.mp hk
    decide
  | succ k ih =>
    intro h
    obtain ⟨B', l, rfl⟩ : ∃ B' l, L = B' ++ [l] := ⟨L.dropLast, L.getLast (by intro z; rw [z] at hk; cases hk), (List.dropLast_concat_getLast _).symm⟩
    have a := ih B' (by rw [List.length_append] at hk; simpa using hk) fun x hx => h x (List.mem_append_left _ hx)
    obtain ⟨h0, h1⟩ := h l (by simp)
    rw [pw_snoc, Int.natAbs_mul, show 100 * (k + 1) = 100 * k + 100 by omega, Nat.pow_add]
    refine Nat.mul_le_mul a ?_
    have e : (2 : Nat) ^ 100 = 1267650600228229401496703205376 := by decide
    rw [e]
    rw [e30] at h1
    omega
theorem ap_le : ∀ (ps : List (Int × Int)) (L : List Ln) (f : Int → Int), (∀ l ∈ L, 0 ≤ l.2.2) → 0 ≤ Ap ps L f ∧ Ap ps L f ≤ W L f
  | [], L, f, h => ⟨by have := W_pos L f h; show 0 ≤ W L f; omega, Int.le_refl _⟩
  | p :: ps, L, f, h => by
    have a := ap_le ps L (mrg f p.1 p.2) h
    have b := W_mono L f (mrg f p.1 p.2) h fun x y e => mrg_keeps e
    have c := W_pos L f h
    unfold Ap
    split <;> omega
/-- a net of the law's, with its two pairs -/
structure NetF (n : Nat) (far : Bool) (L : List Ln) (x y g k : Int) : Prop where
  good : GoodL n far L
  l8 : L.length ≤ 8
  n2 : 2 ≤ n
  n8 : n ≤ 8
  x0 : On n x
  y0 : On n y
  xy : x ≠ y
  g0 : On n g
  k0 : On n k
  gk : g ≠ k
variable {n : Nat} {far : Bool} {L : List Ln} {x y g k : Int}
theorem NetF.on (N : NetF n far L x y g k) : LOn n L := fun l hl => by
  obtain ⟨a, b, c, _⟩ := N.good.lt l hl
  exact ⟨⟨a, by omega⟩, ⟨by omega, c⟩⟩
theorem NetF.rm (N : NetF n far L x y g k) : ∀ l ∈ L, 0 ≤ l.2.2 ∧ l.2.2 ≤ 10 ^ 30 := fun l hl => by
  obtain ⟨_, _, _, a, b⟩ := N.good.lt l hl
  exact ⟨by omega, b⟩
/-- the lines with the room between the two -/
def Lw (L : List Ln) (x y r : Int) : List Ln := if 0 < r then L ++ [(x, y, r)] else L
theorem Lw_ap {r : Int} (hr : 0 ≤ r) (ps : List (Int × Int)) : Ap ps (Lw L x y r) id = Ap ps L id + r * Ap ((x, y) :: ps) L id := by
  unfold Lw
  split
  · exact Ap_snoc x y r ps L id
  · obtain rfl : r = 0 := by omega
    rw [Int.zero_mul, Int.add_zero]
theorem Lw_on (N : NetF n far L x y g k) (r : Int) : LOn n (Lw L x y r) := fun l hl => by
  unfold Lw at hl
  split at hl
  · rcases List.mem_append.mp hl with h | h
    · exact N.on l h
    · rw [List.mem_singleton.mp h]; exact ⟨N.x0, N.y0⟩
  · exact N.on l hl
theorem Lw_rm (N : NetF n far L x y g k) {r : Int} (h0 : 0 ≤ r) (h1 : r ≤ 10 ^ 30) : ∀ l ∈ Lw L x y r, 0 ≤ l.2.2 ∧ l.2.2 ≤ 10 ^ 30 := fun l hl => by
  unfold Lw at hl
  split at hl
  · rcases List.mem_append.mp hl with h | h
    · exact N.rm l h
    · rw [List.mem_singleton.mp h]; exact ⟨h0, h1⟩
  · exact N.rm l hl
theorem Lw_len (N : NetF n far L x y g k) (r : Int) : (Lw L x y r).length ≤ 9 := by
  have := N.l8
  unfold Lw
  split
  · rw [List.length_append]; show _ + 1 ≤ 9; omega
  · omega
theorem Lw_wt (N : NetF n far L x y g k) {r : Int} (h0 : 0 ≤ r) (h1 : r ≤ 10 ^ 30) : (W (Lw L x y r) id).natAbs < 2 ^ 1000 := by
  have a := W_le_pw (Lw L x y r) (fun l hl => (Lw_rm N h0 h1 l hl).1) id
  have b := W_pos (Lw L x y r) id (fun l hl => (Lw_rm N h0 h1 l hl).1)
  have c := pw_big (by decide) (Lw L x y r) (Lw_rm N h0 h1)
  have d : 2 ^ (100 * (Lw L x y r).length) < 2 ^ 1000 := Nat.pow_lt_pow_right (by decide) (by have := Lw_len N r; omega)
  omega
theorem Lw_pw (N : NetF n far L x y g k) {r : Int} (h0 : 0 ≤ r) (h1 : r < 3) (hf : far = false) : pw (Lw L x y r) ≤ 1000 := by
  have a := N.good.near hf
  have b := pw_one L fun l hl => (N.rm l hl).1
  unfold Lw
  split
  · rw [pw_snoc]
    have := Int.mul_le_mul_of_nonneg_left (show r + 1 ≤ 3 by omega) (show 0 ≤ pw L by omega)
    show pw L * (r + 1) ≤ 1000
    omega
  · omega
theorem pow_up {a : Int} {i j : Nat} (h : a.natAbs < 2 ^ i) (hij : i ≤ j) : a.natAbs < 2 ^ j := Nat.lt_of_lt_of_le h (Nat.pow_le_pow_right (by decide) hij)
section
variable {P : Program} {w : World} {K : PySem.W.Frag} {mg : PySem.Str → Option Value} {base : Heap}
theorem kb_shareat (T : Tx K mg) : KBinds K (T.fd 30) ["form", "room"] ["room", "form"] gR gR := kb_of T.d_shareat.F (by decide) fun _ _ _ _ _ _ ws hl => match ws, hl with | [_, _], _ => by rfl
theorem kb_isform (T : Tx K mg) : KBinds K (T.fd 27) ["thing"] ["thing"] gR gR := kb_of T.d_isform.F (by decide) fun _ _ _ _ _ _ ws hl => match ws, hl with | [_], _ => by rfl
theorem kb_shareform (T : Tx K mg) : KBinds K (T.fd 29) ["web", "here", "there", "payer", "payee"] ["payee", "payer", "there", "here", "web"] gR gR := kb_of T.d_shareform.F (by decide) fun _ _ _ _ _ _ ws hl => match ws, hl with | [_, _, _, _, _], _ => by rfl
theorem tup_sx {p b : Addr} {H H' : Hp} {xs : List V} (hp : StA H p) (e : SX p H H') (h : H b = some (.tup xs)) : H' b = some (.tup xs) := by
  obtain ⟨b, c, t, h1, _⟩ := hp
  exact e _ _ (ne_of h h1 fun z => by cases z) h
theorem LTup.sx {p q : Addr} {H H' : Hp} {L : List Ln} (hp : StA H p) (e : SX p H H') (h : LTup H q L) : LTup H' q L := by
  obtain ⟨qs, h1, h2⟩ := h
  exact ⟨qs, tup_sx hp e h1, L2.Paired.mapP h2 fun _ _ z => tup_sx hp e z⟩
theorem cross (A B : Int) : A / (Int.gcd A B : Nat) * B = B / (Int.gcd A B : Nat) * A := by
  obtain ⟨a, ha⟩ := Int.gcd_dvd_left (a := A) (b := B)
  obtain ⟨b, hb⟩ := Int.gcd_dvd_right (a := A) (b := B)
  generalize ((Int.gcd A B : Nat) : Int) = G at *
  by_cases z : G = 0
  · subst z
    rw [Int.zero_mul] at ha hb
    rw [ha, hb]
  · rw [ha, hb, Int.mul_ediv_cancel_left _ z, Int.mul_ediv_cancel_left _ z, Int.mul_left_comm, Int.mul_left_comm b, Int.mul_comm a b]
theorem ed_lt {A G : Int} {m : Nat} (h : A.natAbs < 2 ^ m) : (A / G).natAbs < 2 ^ m := Nat.lt_of_le_of_lt (Int.natAbs_ediv_le_natAbs _ _) h
/-- a list of two pairs -/
def PL2 (H : Hp) (pl : Addr) (x y g k : Int) : Prop := ∃ t0 t1 : Addr, H pl = some (.lst [.ref t0, .ref t1]) ∧ H t0 = some (.tup [.int x, .int y]) ∧ H t1 = some (.tup [.int g, .int k])
theorem PL2.mono {H H' : Hp} {pl : Addr} {x y g k : Int} (h : PL2 H pl x y g k) (e : Same H H') : PL2 H' pl x y g k := let ⟨a, b, h1, h2, h3⟩ := h; ⟨a, b, e _ _ h1, e _ _ h2, e _ _ h3⟩
def spRooms : L2.Sp := fun vs H Q _ => ∃ (p net pl due : Addr) (far : Bool) (n : Nat) (L : List Ln) (x y g k : Int), vs = [.ref p, .ref net, .ref pl, .ref due, .bl far] ∧ StA H p ∧ Web H net n L ∧ NetF n far L x y g k ∧ PL2 H pl x y g k ∧ pl ≠ p ∧ H due = some (.tup (iv (form4 L x y g k))) ∧
  ∀ H', StA H' p → SX p H H' → Q (.bl true) H'
set_option maxHeartbeats 32000000 in
theorem ok_Lroomsright (T : Tx K mg) : FnOk P w K mg base CX0 6 (T.f 42) (T.fd 42) ["_law_state", "_law_net", "_law_pairs_here", "_law_due", "_law_far_here"] spRooms := by
  refine T.d_Lroomsright.F.ok sc_Lroomsright (fun vs H Q E h => ?_) (fun cdv A outer s H vs Q E hr h => ?_)
  · obtain ⟨p, net, pl, due, far, n, L, x, y, g, k, rfl, _⟩ := h
    rfl
  · obtain ⟨p, net, pl, due, far, n, L, x, y, g, k, rfl, hp, ⟨q, hnet, hq⟩, N, ⟨t0, t1, hpl, ht0, ht1⟩, nplp, hdue, q0⟩ := h
    have e30 : (10 : Int) ^ 30 = 1000000000000000000000000000000 := by decide
    refine ⟨_, 
      (pss_cons (ps_for PassesOwn.never rfl (pi_list (pe_lst (pa_cons pe_int (pa_cons (pe_op op_add pe_int (pe_call (ok_Ldraw T) (hr.mono (by decide)) (by rfl) T.d_Ldraw.g T.d_Ldraw.k T.d_Ldraw.b .nil pass0 (pa_cons (pv 0) (pa_cons pe_int pa_nil)))) (pa_cons (pe_call (ok_Lfar T) (hr.mono (by decide)) (by rfl) T.d_Lfar.g T.d_Lfar.k T.d_Lfar.b .nil pass0 (pa_cons (pv 0) pa_nil)) pa_nil))))) (pg_name (i := 5) sc_Lroomsright.nd rfl (Or.inl rfl)) 
          (pss_cons (ps_set (i := 6) sc_Lroomsright.nd rfl (Or.inl rfl) (pe_ix ix_tup (pv 1) pe_int (fun _ _ => rfl)))
          (pss_cons (ps_if (pt_cmpR op_gt (pv 5) pe_int (nomark _)) 
              (pss_one (ps_set (i := 6) sc_Lroomsright.nd rfl (Or.inl rfl) (pe_op op_catA (pv 6) (pe_tup (pa_cons (pe_tup (pa_cons (pe_ix ix_tup (pe_ix ix_list (pv 2) pe_int (fun _ _ => rfl)) pe_int (fun _ _ => rfl)) (pa_cons (pe_ix ix_tup (pe_ix ix_list (pv 2) pe_int (fun _ _ => rfl)) pe_int (fun _ _ => rfl)) (pa_cons (pv 5) pa_nil)))) pa_nil))))) pss_nil)
          (pss_cons (ps_set (i := 7) sc_Lroomsright.nd rfl (Or.inl rfl) (pe_call (ok_Lforests T) (hr.mono (by decide)) (by rfl) T.d_Lforests.g T.d_Lforests.k T.d_Lforests.b .nil pass0 (pa_cons (pe_ix ix_tup (pv 1) pe_int (fun _ _ => rfl)) (pa_cons (pv 6) pa_nil))))
          (pss_cons (ps_set (i := 8) sc_Lroomsright.nd rfl (Or.inl rfl) (pe_call (ok_Llowest T) (hr.mono (by decide)) (by rfl) T.d_Llowest.g T.d_Llowest.k T.d_Llowest.b .nil pass0 (pa_cons (pe_call (ok_Lapart T) (hr.mono (by decide)) (by rfl) T.d_Lapart.g T.d_Lapart.k T.d_Lapart.b .nil pass0 (pa_cons (pv 7) (pa_cons (pe_lst (pa_cons (pe_ix ix_list (pv 2) pe_int (fun _ _ => rfl)) pa_nil)) pa_nil))) (pa_cons (pe_call (ok_Lapart T) (hr.mono (by decide)) (by rfl) T.d_Lapart.g T.d_Lapart.k T.d_Lapart.b .nil pass0 (pa_cons (pv 7) (pa_cons (pe_lst pa_nil) pa_nil))) pa_nil))))
          (pss_cons (ps_if (PW.pt (pw_or (pt_not (pt_val (pe_call (ok_Lsame T) (hr.mono (by decide)) (by rfl) T.d_Lsame.g T.d_Lsame.k T.d_Lsame.b .nil pass0 (pa_cons (pe_call (ok_shareat T) (hr.mono (by decide)) (by rfl) T.d_shareat.g T.d_shareat.k T.d_shareat.b .nil passL (pa_cons (pv 3) (pa_cons (pv 5) pa_nil))) (pa_cons (pv 8) pa_nil))))) (pw_or1 (pt_not (pt_val (pe_call (ok_Lsame T) (hr.mono (by decide)) (by rfl) T.d_Lsame.g T.d_Lsame.k T.d_Lsame.b .nil pass0 (pa_cons (pe_callK0 (ok_shareat T) (hr.mono (by decide)) (by rfl) T.d_shareat.g T.d_shareat.k (kb_shareat T) passL (pk_cons (pv 5) (pk_cons (pv 3) pk_nil))) (pa_cons (pv 8) pa_nil)))))))) 
              (pss_one (ps_ret pe_bl)) pss_nil)
          (pss_one (ps_if (PW.pt (pw_and (pt_cmpR op_lt (pv 5) pe_int (nomark _)) (pw_and1 (pt_not (pt_val (pv 4)))))) 
              (pss_cons (ps_set (i := 9) sc_Lroomsright.nd rfl (Or.inl rfl) (pe_call (ok_Lstandings T) (hr.mono (by decide)) (by rfl) T.d_Lstandings.g T.d_Lstandings.k T.d_Lstandings.b .nil pass0 (pa_cons (pe_ix ix_tup (pv 1) pe_int (fun _ _ => rfl)) (pa_cons (pv 6) pa_nil))))
              (pss_one (ps_if (pt_cmpR op_ne (pe_op op_mulW (pe_ix ix_tup (pv 8) pe_int (fun _ _ => rfl)) (pe_callB call_len_dT (by rfl) T.n_len (by decide +kernel) (pa_cons (pv 9) pa_nil))) (pe_op op_mulW (pe_ix ix_tup (pv 8) pe_int (fun _ _ => rfl)) (pe_call (ok_Lrefusing T) (hr.mono (by decide)) (by rfl) T.d_Lrefusing.g T.d_Lrefusing.k T.d_Lrefusing.b .nil pass0 (pa_cons (pv 9) (pa_cons (pe_ix ix_tup (pe_ix ix_list (pv 2) pe_int (fun _ _ => rfl)) pe_int (fun _ _ => rfl)) (pa_cons (pe_ix ix_tup (pe_ix ix_list (pv 2) pe_int (fun _ _ => rfl)) pe_int (fun _ _ => rfl)) pa_nil))))) (nomark _)) 
                  (pss_one (ps_ret pe_bl)) pss_nil))) pss_nil))))))))
      (pss_one (ps_ret pe_bl))), ?_⟩
    refine ⟨_, rfl, p, _, rfl, hp, by decide, by decide, fun v1 H1 a1 b1 hp1 s1 => ⟨_, _, rfl, rfl, ?_⟩⟩
    refine ⟨_, rfl, p, rfl, hp1, fun v2 H2 a2 b2 hp2 s2 => ⟨by show 3 ≤ sizeLine; decide, fun Wd hW => ?_⟩⟩
    have sH2 := s1.trans s2
    have hnet2 := tup_sx hp sH2 hnet
    have hq2 := LTup.sx hp sH2 hq
    have hpl2 := sH2 _ _ nplp hpl
    have ht02 := tup_sx hp sH2 ht0
    have ht12 := tup_sx hp sH2 ht1
    have hdue2 := tup_sx hp sH2 hdue
    have s3 := same_new (o := .lst [.int 0, .int (1 + v1), .int v2]) hW
    have w3 : (upd H2 Wd (.lst [.int 0, .int (1 + v1), .int v2])) Wd = some (.lst [.int 0, .int (1 + v1), .int v2]) := upd_same
    have hnet3 := s3 _ _ hnet2
    have hq3 := hq2.mono s3
    have hpl3 := s3 _ _ hpl2
    have ht03 := s3 _ _ ht02
    have ht13 := s3 _ _ ht12
    have hdue3 := s3 _ _ hdue2
    generalize upd H2 Wd (.lst [.int 0, .int (1 + v1), .int v2]) = H3 at s3 w3 hnet3 hq3 hpl3 ht03 ht13 hdue3 ⊢
    refine ⟨Wd, rfl, ⟨_, SqL.of w3⟩, ?_⟩
    refine for_it (n := 3) (walk_list (xs := [.int 0, .int (1 + v1), .int v2])) (fun i σ H' => ∃ v5 v6 v7 v8 v9 : Option V, σ = [some (.ref p), some (.ref net), some (.ref pl), some (.ref due), some (.bl far), v5, v6, v7, v8, v9] ∧ Same H3 H') ⟨none, none, none, none, none, rfl, Same.refl _⟩ (fun i σ H' _ ⟨_, _, _, _, _, _, z⟩ => SqL.of (z _ _ w3)) ?_ ?_
    · rintro i x' σ Hx H4 hi ⟨v5, v6, v7, v8, v9, rfl, s4⟩ ⟨rfl, hx⟩
      obtain ⟨wd, rfl, w0, w1⟩ : ∃ wd : Int, x' = .int wd ∧ 0 ≤ wd ∧ wd ≤ 10 ^ 30 := by
        match i, hx with
        | 0, hx => exact ⟨0, by cases hx; rfl, by decide, by decide⟩
        | 1, hx => exact ⟨1 + v1, by cases hx; rfl, by omega, by rw [e30]; omega⟩
        | 2, hx => exact ⟨v2, by cases hx; rfl, by omega, b2⟩
      have hnet4 := s4 _ _ hnet3
      have hpl4 := s4 _ _ hpl3
      have ht04 := s4 _ _ ht03
      refine ⟨_, rfl, net, _, _, _, rfl, rfl, SqT.of hnet4, at_of (j := 1) rfl rfl, ?_⟩
      dsimp only [gName, List.set]
      refine seqJ (fun σ' H' => ∃ q' : Addr, σ' = [some (.ref p), some (.ref net), some (.ref pl), some (.ref due), some (.bl far), some (.int wd), some (.ref q'), v7, v8, v9] ∧ Same H4 H' ∧ LTup H' q' (Lw L x y wd)) ?_ fun u kk => ?_
      rotate_left
      · refine ⟨_, rfl, _, _, rfl, rfl, _, rfl, ite2 (fun hc => ?_) fun hc => ?_⟩
        · have hw : 0 < wd := of_decide_eq_true hc
          have eL : Lw L x y wd = L ++ [(x, y, wd)] := if_pos hw
          obtain ⟨qs, hq41, hq42⟩ := hq3.mono s4
          refine ⟨_, rfl, _, rfl, pl, _, _, _, rfl, rfl, SqL.of hpl4, at_of (j := 0) rfl rfl, t0, _, _, _, rfl, rfl, SqT.of ht04, at_of (j := 0) rfl rfl, _, rfl, pl, _, _, _, rfl, rfl, SqL.of hpl4, at_of (j := 0) rfl rfl, t0, _, _, _, rfl, rfl, SqT.of ht04, at_of (j := 1) rfl rfl, _, rfl, by show 3 ≤ sizeLine; decide, fun e he => ⟨by show 1 ≤ sizeLine; decide, fun f hf => ?_⟩⟩
          have s5 : Same H4 (upd (upd H4 e (.tup [.int x, .int y, .int wd])) f (.tup [.ref e])) := (same_new he).trans (same_new hf)
          have e5 : (upd (upd H4 e (.tup [.int x, .int y, .int wd])) f (.tup [.ref e])) e = some (.tup [.int x, .int y, .int wd]) := same_new hf _ _ upd_same
          have f5 : (upd (upd H4 e (.tup [.int x, .int y, .int wd])) f (.tup [.ref e])) f = some (.tup [.ref e]) := upd_same
          generalize upd (upd H4 e (.tup [.int x, .int y, .int wd])) f (.tup [.ref e]) = H5 at s5 e5 f5
          have l8 := N.l8
          have ql := Paired.length hq42
          refine ⟨q, f, _, _, rfl, rfl, SqT.of (s5 _ _ hq41), SqT.of f5, ?_, fun hx => ?_, (fun _ hy => by cases hy), fun _ _ u hu => ?_⟩
          · rw [List.length_map, ← ql]
            show L.length + 1 ≤ 16777216
            omega
          · have : qs = [] := List.map_eq_nil_iff.mp hx
            subst this
            have : L = [] := List.length_eq_zero_iff.mp (by rw [ql]; rfl)
            refine kk _ _ ⟨f, rfl, s5, ?_⟩
            rw [eL, this]
            exact ⟨[e], f5, .cons e5 .nil⟩
          · refine kk _ _ ⟨u, rfl, s5.trans (same_new hu), ?_⟩
            rw [eL]
            exact ⟨qs ++ [e], by rw [upd_same]; simp, pr_snoc (L2.Paired.mapP hq42 fun _ _ z => (s5.trans (same_new hu)) _ _ z) (same_new hu _ _ e5)⟩
        · have hw : ¬ 0 < wd := fun z => hc (decide_eq_true z)
          have eL : Lw L x y wd = L := if_neg hw
          exact kk _ _ ⟨q, rfl, Same.refl _, by rw [eL]; exact hq3.mono s4⟩
      rintro σ H5 ⟨q', rfl, s5, lt⟩
      have s35 := s4.trans s5
      have wt := Lw_wt N w0 w1
      refine ⟨_, rfl, net, _, _, _, rfl, rfl, SqT.of (s35 _ _ hnet3), at_of (j := 0) rfl rfl, _, rfl, n, q', Lw L x y wd, rfl, lt, Lw_on N wd, Lw_rm N w0 w1, N.n8, Lw_len N wd, pow_up wt (by decide), fun H6 d M s6 d6 ft => ?_⟩
      have s36 := s35.trans s6
      -- the share
      refine ⟨_, rfl, _, rfl, pl, _, _, _, rfl, rfl, SqL.of (s36 _ _ hpl3), at_of (j := 1) rfl rfl, by show 1 ≤ sizeLine; decide, fun e he => ?_⟩
      refine ⟨d, e, M, n, [(g, k)], rfl, same_new he _ _ d6, ft.nd, ft.ks, by have := N.n8; omega, ⟨[t1], upd_same, .cons (same_new he _ _ (s36 _ _ ht13)) .nil⟩, fun z hz => by rw [List.mem_singleton.mp hz]; exact ⟨N.g0, N.k0⟩, fun H7 s7 => ?_⟩
      have s67 := (same_new he).trans s7
      refine ⟨_, rfl, by show 0 ≤ sizeLine; decide, fun e2 he2 => ?_⟩
      refine ⟨d, e2, M, n, [], rfl, (s67.trans (same_new he2)) _ _ d6, ft.nd, ft.ks, by have := N.n8; omega, ⟨[], upd_same, .nil⟩, fun z hz => (List.not_mem_nil hz).elim, fun H8 s8 => ?_⟩
      have s38 := s36.trans (s67.trans ((same_new he2).trans s8))
      rw [ft.apart (ps := [(g, k)]) fun z hz => by rw [List.mem_singleton.mp hz]; exact ⟨N.g0, N.k0⟩, ft.apart (ps := []) fun z hz => (List.not_mem_nil hz).elim]
      have rA := ap_le [(g, k)] (Lw L x y wd) id fun l hl => (Lw_rm N w0 w1 l hl).1
      have rB := W_pos (Lw L x y wd) id fun l hl => (Lw_rm N w0 w1 l hl).1
      have eB : Ap [] (Lw L x y wd) id = W (Lw L x y wd) id := rfl
      have wA : (Ap [(g, k)] (Lw L x y wd) id).natAbs < 2 ^ 1000 := by omega
      rw [eB]
      refine ⟨_, _, rfl, rA.1, by omega, pow_up wt (by decide), fun sh hsh => ?_⟩
      have shv : ∀ H', Same (upd H8 sh (.tup [.int (Ap [(g, k)] (Lw L x y wd) id / (Int.gcd (Ap [(g, k)] (Lw L x y wd) id) (W (Lw L x y wd) id) : Nat)), .int (W (Lw L x y wd) id / (Int.gcd (Ap [(g, k)] (Lw L x y wd) id) (W (Lw L x y wd) id) : Nat))])) H' → H' sh = some (.tup [.int (Ap [(g, k)] (Lw L x y wd) id / (Int.gcd (Ap [(g, k)] (Lw L x y wd) id) (W (Lw L x y wd) id) : Nat)), .int (W (Lw L x y wd) id / (Int.gcd (Ap [(g, k)] (Lw L x y wd) id) (W (Lw L x y wd) id) : Nat))]) := fun H' e => e _ _ upd_same
      have s39 := s38.trans (same_new (o := .tup [.int (Ap [(g, k)] (Lw L x y wd) id / (Int.gcd (Ap [(g, k)] (Lw L x y wd) id) (W (Lw L x y wd) id) : Nat)), .int (W (Lw L x y wd) id / (Int.gcd (Ap [(g, k)] (Lw L x y wd) id) (W (Lw L x y wd) id) : Nat))]) hsh)
      have s59 := s6.trans (s67.trans ((same_new he2).trans (s8.trans (same_new (o := .tup [.int (Ap [(g, k)] (Lw L x y wd) id / (Int.gcd (Ap [(g, k)] (Lw L x y wd) id) (W (Lw L x y wd) id) : Nat)), .int (W (Lw L x y wd) id / (Int.gcd (Ap [(g, k)] (Lw L x y wd) id) (W (Lw L x y wd) id) : Nat))]) hsh))))
      generalize upd H8 sh (.tup [.int (Ap [(g, k)] (Lw L x y wd) id / (Int.gcd (Ap [(g, k)] (Lw L x y wd) id) (W (Lw L x y wd) id) : Nat)), .int (W (Lw L x y wd) id / (Int.gcd (Ap [(g, k)] (Lw L x y wd) id) (W (Lw L x y wd) id) : Nat))]) = H9 at shv s39 s59 ⊢
      have eA : Ap [(g, k)] L id + Ap [(x, y), (g, k)] L id * wd = Ap [(g, k)] (Lw L x y wd) id := by rw [Lw_ap w0, Int.mul_comm wd]
      have eC : W L id + Ap [(x, y)] L id * wd = W (Lw L x y wd) id := by
        have := Lw_ap (L := L) (x := x) (y := y) w0 []
        rw [Int.mul_comm wd] at this
        exact this.symm
      have r0 : ∀ l ∈ L, 0 ≤ l.2.2 := fun l hl => (N.rm l hl).1
      have bA := ap_le [(g, k)] L id r0
      have bB := ap_le [(x, y), (g, k)] L id r0
      have bD := ap_le [(x, y)] L id r0
      have bC := W_pos L id r0
      have bD1 : 1 ≤ Ap [(x, y)] L id := by
        have e : Ap [(x, y)] L id = W L (mrg id x y) := ap_one (show id x ≠ id y from N.xy)
        rw [e]
        exact W_pos L _ r0
      have wL : (W L id).natAbs < 2 ^ 1000 := by
        have := Lw_wt N (Int.le_refl 0) (by decide)
        exact this
      have wdb : wd.natAbs < 2 ^ 1000 := by
        refine pow_up (i := 101) ?_ (by decide)
        have e : (2 : Nat) ^ 101 = 2535301200456458802993406410752 := by decide
        rw [e]
        rw [e30] at w1
        omega
      have due9 : H9 due = some (.tup [.int (Ap [(g, k)] L id), .int (Ap [(x, y), (g, k)] L id), .int (W L id), .int (Ap [(x, y)] L id)]) := s39 _ _ hdue3
      have isn : isN (.int wd) = true := decide_eq_true w0
      -- once by place
      refine ⟨_, rfl, _, rfl, due, _, _, _, _, .int wd, "int", rfl, due9, .int wd, bA.1, bB.1, bC, bD1, pow_up (i := 1000) (by omega) (by decide), pow_up (i := 1000) (by omega) (by decide), pow_up wL (by decide), pow_up (i := 1000) (by omega) (by decide), Eq.mpr (if_pos isn) ⟨wd, rfl, wdb, fun H10 a10 s10 n10 e10 => ?_⟩⟩
      rw [eA, eC] at e10
      refine ⟨_, rfl, _, _, rfl, .inr ⟨a10, sh, _, rfl, rfl, e10, shv _ s10, fun z hz => ?_, by show 2 ≤ 100; decide⟩, fun H11 s11 => ⟨_, rfl, iteF ?_⟩⟩
      · rcases List.mem_cons.mp hz with rfl | hz
        · exact ⟨_, .int _⟩
        · rw [List.mem_singleton.mp hz]; exact ⟨_, .int _⟩
      have s9b := s10.trans s11
      -- once by name
      refine ⟨_, rfl, _, rfl, due, _, _, _, _, .int wd, "int", rfl, s9b _ _ due9, .int wd, bA.1, bB.1, bC, bD1, pow_up (i := 1000) (by omega) (by decide), pow_up (i := 1000) (by omega) (by decide), pow_up wL (by decide), pow_up (i := 1000) (by omega) (by decide), Eq.mpr (if_pos isn) ⟨wd, rfl, wdb, fun H12 a12 s12 n12 e12 => ?_⟩⟩
      rw [eA, eC] at e12
      refine ⟨_, rfl, _, _, rfl, .inr ⟨a12, sh, _, rfl, rfl, e12, shv _ (s9b.trans s12), fun z hz => ?_, by show 2 ≤ 100; decide⟩, fun H13 s13 => ⟨_, rfl, iteF ?_⟩⟩
      · rcases List.mem_cons.mp hz with rfl | hz
        · exact ⟨_, .int _⟩
        · rw [List.mem_singleton.mp hz]; exact ⟨_, .int _⟩
      have s9c := s9b.trans (s12.trans s13)
      have s3c := s39.trans s9c
      -- the standings
      dsimp only [tNext]
      refine ifJ (wd < 3 ∧ far = false) (fun Qb q1 q2 => ⟨_, rfl, _, _, rfl, rfl, _, rfl, ite2 (fun hc => ⟨_, rfl, far, rfl, ?_⟩) fun hc => q2⟩) (fun hC => ?_) ⟨_, _, _, _, _, rfl, s3c⟩
      · cases hf : far with
        | true => exact q2
        | false => exact q1 ⟨of_decide_eq_true hc, hf⟩
      refine ⟨_, rfl, net, _, _, _, rfl, rfl, SqT.of (s3c _ _ hnet3), at_of (j := 0) rfl rfl, _, rfl, n, q', Lw L x y wd, rfl, (lt.mono s59).mono s9c, Lw_on N wd, fun l hl => (Lw_rm N w0 w1 l hl).1, N.n8, Lw_pw N w0 hC.1 hC.2, fun H14 d2 M2 s14 d14 fs => ?_⟩
      have s3d := s3c.trans s14
      have sh14 := shv _ (s9c.trans s14)
      refine ⟨_, rfl, sh, _, _, _, rfl, rfl, SqT.of sh14, at_of (j := 0) rfl rfl, _, rfl, d2, _, rfl, d14, ?_⟩
      have hon := Lw_on N wd
      have hrr : ∀ l ∈ Lw L x y wd, 0 ≤ l.2.2 := fun l hl => (Lw_rm N w0 w1 l hl).1
      have eLen : (((kvG gTrue M2).length : Nat) : Int) = W (Lw L x y wd) id := by
        unfold kvG
        rw [List.length_map]
        exact fs.all hon hrr
      have eRef : (nrf M2 g k M2 : Int) = Ap [(g, k)] (Lw L x y wd) id := by
        rw [fs.refused hon hrr N.g0 N.k0 N.gk, ap_one (show id g ≠ id k from N.gk)]
        exact W_ker _ (mrg_comm id k g)
      rw [eLen]
      refine ⟨_, _, rfl, rfl, wide_mul (a := 1000) (b := 1000) (ed_lt wA) wt (by decide) (by decide) (by decide), ?_⟩
      refine ⟨_, rfl, sh, _, _, _, rfl, rfl, SqT.of sh14, at_of (j := 1) rfl rfl, ?_⟩
      refine ⟨_, rfl, _, rfl, pl, _, _, _, rfl, rfl, SqL.of (s3d _ _ hpl3), at_of (j := 1) rfl rfl, t1, _, _, _, rfl, rfl, SqT.of (s3d _ _ ht13), at_of (j := 0) rfl rfl, _, rfl, pl, _, _, _, rfl, rfl, SqL.of (s3d _ _ hpl3), at_of (j := 1) rfl rfl, t1, _, _, _, rfl, rfl, SqT.of (s3d _ _ ht13), at_of (j := 1) rfl rfl, ?_⟩
      refine ⟨d2, M2, n, g, k, rfl, d14, fs.ks, by have := N.n8; omega, N.g0, N.k0, fun H15 s15 => ?_⟩
      rw [eRef]
      refine ⟨_, _, rfl, rfl, wide_mul (a := 1000) (b := 1000) (ed_lt wt) wA (by decide) (by decide) (by decide), rfl, ?_⟩
      dsimp only
      rw [decide_eq_true (congrArg V.int (cross _ _))]
      exact ⟨_, rfl, iteF ⟨_, _, _, _, _, rfl, s3d.trans s15⟩⟩
    · rintro σ H4 ⟨v5, v6, v7, v8, v9, rfl, s4⟩
      have s24 := s3.trans s4
      exact q0 _ (hp2.mono s24) (sH2.trans (SX.of s24))
end
end K36
-- text D21
set_option maxRecDepth 100000
set_option maxHeartbeats 4000000
namespace K36
open PySem PySem.Spec PyProof.Rows L2
/-! ### _law_kinds_right -/
theorem bent {K : PySem.W.Frag} {σ : L2.St} {H : Hp} {Q : VK} {due : Addr} {a b c d o : V} {j : Nat} {T : TE} (hj : j < 4) (hd : H due = some (.tup [a, b, c, d])) (h1 : σ[1]? = some (some (.ref due))) (h2 : σ[2]? = some (some (.int j))) (hT : ∀ H' Q', Q' o H' → T σ H' Q')
    (q : ∀ H' r, Same H H' → H' r = some (.tup ([a, b, c, d].set j o)) → Q (.ref r) H') :
    tOp (rCatA K) (tOp (rCatA K) (tSl (rSlA K) (tVar 1) tNoPart (tPart (tVar 2))) (tTup (tCons T tNil))) (tSl (rSlA K) (tVar 1) (tPart (tOp (rI0 fun i j => V.int (i + j)) (tVar 2) (tC (.int 1)))) tNoPart) σ H Q := by
  refine ⟨_, h1, _, h2, _, rfl, due, _, rfl, SqT.of hd, fun z => ?_, fun _ p hp => ?_⟩
  · exfalso
    have := z.2
    rw [HT.sIx_nat] at this
    have : min j 4 = 4 := this
    omega
  have s1 := same_new (o := .tup (cutV [a, b, c, d] none (some (j : Int)))) hp
  refine hT _ _ ⟨by show 1 ≤ sizeLine; decide, fun e he => ?_⟩
  have s2 := s1.trans (same_new (o := .tup [o]) he)
  have p2 : (upd (upd H p (.tup (cutV [a, b, c, d] none (some (j : Int))))) e (.tup [o])) p = some (.tup (cutV [a, b, c, d] none (some (j : Int)))) := same_new he _ _ upd_same
  have e2 : (upd (upd H p (.tup (cutV [a, b, c, d] none (some (j : Int))))) e (.tup [o])) e = some (.tup [o]) := upd_same
  generalize upd (upd H p (.tup (cutV [a, b, c, d] none (some (j : Int))))) e (.tup [o]) = H2 at s2 p2 e2
  have l1 : (cutV [a, b, c, d] none (some (j : Int))).length ≤ 4 := cutV_length _ _ _
  have l2 : (cutV [a, b, c, d] (some ((j : Int) + 1)) none).length ≤ 4 := cutV_length _ _ _
  -- the first two
  have tail : ∀ H3 r, Same H2 H3 → H3 r = some (.tup (cutV [a, b, c, d] none (some (j : Int)) ++ [o])) →
      tSl (rSlA K) (tVar 1) (tPart (tOp (rI0 fun i j => V.int (i + j)) (tVar 2) (tC (.int 1)))) tNoPart σ H3 fun y H4 => rCatA K (.ref r) y H4 Q := fun H3 r s3 r3 => by
    refine ⟨_, h1, _, h2, _, _, rfl, rfl, _, rfl, due, _, rfl, SqT.of (s3 _ _ (s2 _ _ hd)), fun z => ?_, fun _ u hu => ?_⟩
    · exfalso
      have := z.1
      rw [show (j : Int) + 1 = ((j + 1 : Nat) : Int) by omega, HT.sIx_nat] at this
      have : min (j + 1) 4 = 0 := this
      omega
    have s4 := s3.trans (same_new (o := .tup (cutV [a, b, c, d] (some ((j : Int) + 1)) none)) hu)
    refine ⟨r, u, _, _, rfl, rfl, SqT.of (same_new hu _ _ r3), SqT.of upd_same, ?_, fun z => ?_, fun _ hy => ?_, fun _ _ v hv => ?_⟩
    · rw [List.length_append]
      show _ + 1 + _ ≤ 16777216
      omega
    · exact absurd z (by simp)
    · refine q _ r (s2.trans s4) ?_
      rw [same_new hu _ _ r3]
      match j, hj with
      | 0, _ => cases hy
      | 1, _ => cases hy
      | 2, _ => cases hy
      | 3, _ => rfl
    · refine q _ v (s2.trans (s4.trans (same_new hv))) ?_
      rw [upd_same]
      match j, hj with
      | 0, _ => rfl
      | 1, _ => rfl
      | 2, _ => rfl
      | 3, _ => rfl
  refine ⟨p, e, _, _, rfl, rfl, SqT.of p2, SqT.of e2, ?_, fun z => ?_, fun _ z => ?_, fun _ _ v hv => ?_⟩
  · show _ + 1 ≤ 16777216
    omega
  · exact tail H2 e (Same.refl _) (by rw [z]; exact e2)
  · cases z
  · exact tail _ v (same_new hv) upd_same
abbrev andF (a b c d : V) : Bool := isN a && isN b && isN c && isN d && decide (c ≠ .int 0) && decide (d ≠ .int 0)
theorem nz {c : Int} (h : 1 ≤ c) : decide (V.int c ≠ .int 0) = true := decide_eq_true fun z => by have := V.int.inj z; omega
theorem isn {c : Int} (h : 0 ≤ c) : isN (V.int c) = true := decide_eq_true h
theorem and_ok {a b c d : Int} (a0 : 0 ≤ a) (b0 : 0 ≤ b) (c1 : 1 ≤ c) (d1 : 1 ≤ d) : andF (.int a) (.int b) (.int c) (.int d) = true := by
  unfold andF
  rw [isn a0, isn b0, isn (show 0 ≤ c by omega), isn (show 0 ≤ d by omega), nz c1, nz d1]
  rfl
theorem form_set {a b c d : Int} {v : V} {j : Nat} (j4 : j < 4) (a0 : 0 ≤ a) (b0 : 0 ≤ b) (c1 : 1 ≤ c) (d1 : 1 ≤ d) : ∃ a' b' c' d' : V, [V.int a, .int b, .int c, .int d].set j v = [a', b', c', d'] ∧ (∀ y ∈ [a', b', c', d'], (∃ i, y = .int i) ∨ y = v) ∧
    (isN v = false → andF a' b' c' d' = false) ∧ (v = .int 0 → andF a' b' c' d' = decide ((j : Int) < 2)) := by
  have ha := isn a0
  have hb := isn b0
  have hc := isn (show 0 ≤ c by omega)
  have hd := isn (show 0 ≤ d by omega)
  have hc1 := nz c1
  have hd1 := nz d1
  have h0 : isN (V.int 0) = true := rfl
  have h00 : decide (V.int 0 ≠ V.int 0) = false := by simp
  match j, j4 with
  | 0, _ => exact ⟨v, .int b, .int c, .int d, rfl, fun y hy => by simp at hy; rcases hy with h | h | h | h <;> simp [h], fun h => by unfold andF; rw [h]; rfl, fun h => by unfold andF; rw [h, h0, hb, hc, hd, hc1, hd1]; rfl⟩
  | 1, _ => exact ⟨.int a, v, .int c, .int d, rfl, fun y hy => by simp at hy; rcases hy with h | h | h | h <;> simp [h], fun h => by unfold andF; rw [h, Bool.and_false]; rfl, fun h => by unfold andF; rw [h, h0, ha, hc, hd, hc1, hd1]; rfl⟩
  | 2, _ => exact ⟨.int a, .int b, v, .int d, rfl, fun y hy => by simp at hy; rcases hy with h | h | h | h <;> simp [h], fun h => by unfold andF; rw [h, Bool.and_false]; rfl, fun h => by unfold andF; rw [h, h0, ha, hb, hd, h00, hd1]; rfl⟩
  | 3, _ => exact ⟨.int a, .int b, .int c, v, rfl, fun y hy => by simp at hy; rcases hy with h | h | h | h <;> simp [h], fun h => by unfold andF; rw [h, Bool.and_false]; rfl, fun h => by unfold andF; rw [h, h0, ha, hb, hc, h00, hc1]; rfl⟩
section
variable {P : Program} {w : World} {K : PySem.W.Frag} {mg : PySem.Str → Option Value} {base : Heap}
def spKinds : L2.Sp := fun vs H Q _ => ∃ (p due : Addr) (a b c d : Int), vs = [.ref p, .ref due] ∧ StA H p ∧ H due = some (.tup [.int a, .int b, .int c, .int d]) ∧ 0 ≤ a ∧ 0 ≤ b ∧ 1 ≤ c ∧ 1 ≤ d ∧ ∀ H', StA H' p → SX p H H' → Q (.bl true) H'
set_option maxHeartbeats 32000000 in
theorem ok_Lkindsright (T : Tx K mg) : FnOk P w K mg base CX0 5 (T.f 43) (T.fd 43) ["_law_state", "_law_due"] spKinds := by
  refine T.d_Lkindsright.F.ok sc_Lkindsright (fun vs H Q E h => ?_) (fun cdv A outer s H vs Q E hr h => ?_)
  · obtain ⟨p, due, a, b, c, d, rfl, _⟩ := h
    rfl
  · obtain ⟨p, due, a, b, c, d, rfl, hp, hd, a0, b0, c1, d1, q0⟩ := h
    refine ⟨_, 
      (pss_cons (ps_set (i := 2) sc_Lkindsright.nd rfl (Or.inl rfl) (pe_call (ok_Ldraw T) (hr.mono (by decide)) (by rfl) T.d_Ldraw.g T.d_Ldraw.k T.d_Ldraw.b .nil pass0 (pa_cons (pv 0) (pa_cons pe_int pa_nil))))
      (pss_cons (ps_set (i := 3) sc_Lkindsright.nd rfl (Or.inl rfl) (pe_ix ix_list (pe_lst (pa_cons pe_bl (pa_cons pe_bl (pa_cons pe_non (pa_cons (pe_un un_neg pe_int) (pa_cons pe_str (pa_cons (pe_tup (pa_cons pe_int pa_nil)) (pa_cons (pe_lst (pa_cons pe_int pa_nil)) pa_nil)))))))) (pe_call (ok_Ldraw T) (hr.mono (by decide)) (by rfl) T.d_Ldraw.g T.d_Ldraw.k T.d_Ldraw.b .nil pass0 (pa_cons (pv 0) (pa_cons pe_int pa_nil))) (fun _ _ => rfl)))
      (pss_cons (ps_if (PW.pt (pw_or (pt_cmpR op_notBl (pe_call (ok_isform T) (hr.mono (by decide)) (by rfl) T.d_isform.g T.d_isform.k T.d_isform.b .nil pass0 (pa_cons (pv 1) pa_nil)) pe_bl (nomark _)) (pw_or1 (pt_cmpR op_notBl (pe_callK0 (ok_isform T) (hr.mono (by decide)) (by rfl) T.d_isform.g T.d_isform.k (kb_isform T) pass0 (pk_cons (pe_op op_catA (pe_op op_catA (pe_slice sl_tupA (pv 1) po_none (po_some (pv 2))) (pe_tup (pa_cons (pv 3) pa_nil))) (pe_slice sl_tupA (pv 1) (po_some (pe_op op_add (pv 2) pe_int)) po_none)) pk_nil)) pe_bl (nomark _))))) 
          (pss_one (ps_ret pe_bl)) pss_nil)
      (pss_cons (ps_if (pt_not (pt_val (pe_call (ok_Lsame T) (hr.mono (by decide)) (by rfl) T.d_Lsame.g T.d_Lsame.k T.d_Lsame.b .nil pass0 (pa_cons (pe_call (ok_isform T) (hr.mono (by decide)) (by rfl) T.d_isform.g T.d_isform.k T.d_isform.b .nil pass0 (pa_cons (pe_op op_catA (pe_op op_catA (pe_slice sl_tupA (pv 1) po_none (po_some (pv 2))) (pe_tup (pa_cons pe_int pa_nil))) (pe_slice sl_tupA (pv 1) (po_some (pe_op op_add (pv 2) pe_int)) po_none)) pa_nil)) (pa_cons (pe_cmpR op_lt (pv 2) pe_int (nomark _)) pa_nil))))) 
          (pss_one (ps_ret pe_bl)) pss_nil)
      (pss_cons (ps_set (i := 3) sc_Lkindsright.nd rfl (Or.inl rfl) (pe_ix ix_list (pe_lst (pa_cons (pe_callTy call_list_of (by rfl) T.n_list (by decide +kernel) (pa_cons (pv 1) pa_nil)) (pa_cons (pe_slice sl_tupA (pv 1) po_none (po_some pe_int)) (pa_cons (pe_op op_catA (pv 1) (pe_tup (pa_cons pe_int pa_nil))) (pa_cons (pe_tup pa_nil) (pa_cons pe_non (pa_cons pe_int (pa_cons pe_str (pa_cons (pe_tup (pa_cons (pv 1) pa_nil)) pa_nil))))))))) (pe_call (ok_Ldraw T) (hr.mono (by decide)) (by rfl) T.d_Ldraw.g T.d_Ldraw.k T.d_Ldraw.b .nil pass0 (pa_cons (pv 0) (pa_cons pe_int pa_nil))) (fun _ _ => rfl)))
      (pss_one (ps_ret (pe_and (pe_cmpR op_isBl (pe_call (ok_isform T) (hr.mono (by decide)) (by rfl) T.d_isform.g T.d_isform.k T.d_isform.b .nil pass0 (pa_cons (pv 3) pa_nil)) pe_bl (nomark _)) (pe_one (pe_cmpR op_isBl (pe_call (ok_isform T) (hr.mono (by decide)) (by rfl) T.d_isform.g T.d_isform.k T.d_isform.b .nil pass0 (pa_cons (pe_tup (pa_cons pe_int (pa_cons pe_int (pa_cons pe_int (pa_cons pe_int pa_nil))))) pa_nil)) pe_bl (nomark _))))))))))), ?_⟩
    refine ⟨_, rfl, p, _, rfl, hp, by decide, by decide, fun pl H1 pl0 pl1 hp1 s1 => ?_⟩
    obtain ⟨j, rfl⟩ : ∃ j : Nat, pl = j := ⟨pl.toNat, by omega⟩
    have j4 : j < 4 := by omega
    -- odd
    refine ⟨_, rfl, by show 1 ≤ sizeLine; decide, fun ta hta => ⟨by show 1 ≤ sizeLine; decide, fun la hla => ⟨by show 7 ≤ sizeLine; decide, fun Od hOd => ?_⟩⟩⟩
    have hd1 := tup_sx hp s1 hd
    have s2 := (same_new (o := .tup [.int 1]) hta).trans ((same_new (o := .lst [.int 1]) hla).trans (same_new (o := .lst [.bl true, .bl false, .non, .int (-1), .str "1", .ref ta, .ref la]) hOd))
    have ta2 : (upd (upd (upd H1 ta (.tup [.int 1])) la (.lst [.int 1])) Od (.lst [.bl true, .bl false, .non, .int (-1), .str "1", .ref ta, .ref la])) ta = some (.tup [.int 1]) := same_new hOd _ _ (same_new hla _ _ upd_same)
    have la2 : (upd (upd (upd H1 ta (.tup [.int 1])) la (.lst [.int 1])) Od (.lst [.bl true, .bl false, .non, .int (-1), .str "1", .ref ta, .ref la])) la = some (.lst [.int 1]) := same_new hOd _ _ upd_same
    have Od2 : (upd (upd (upd H1 ta (.tup [.int 1])) la (.lst [.int 1])) Od (.lst [.bl true, .bl false, .non, .int (-1), .str "1", .ref ta, .ref la])) Od = some (.lst [.bl true, .bl false, .non, .int (-1), .str "1", .ref ta, .ref la]) := upd_same
    obtain ⟨b0', o0', t0', hpp, _⟩ := id hp1
    have nla : la ≠ p := fun z => by rw [z, upd_ne (ne_of_none hpp hta), hpp] at hla; cases hla
    have nOd : Od ≠ p := fun z => by rw [z] at hOd; have := (same_new (o := .tup [.int 1]) hta).trans (same_new (o := .lst [.int 1]) hla) _ _ hpp; rw [this] at hOd; cases hOd
    have hp2 := hp1.mono s2
    have hd2 := s2 _ _ hd1
    generalize upd (upd (upd H1 ta (.tup [.int 1])) la (.lst [.int 1])) Od (.lst [.bl true, .bl false, .non, .int (-1), .str "1", .ref ta, .ref la]) = H2 at s2 ta2 la2 Od2 hp2 hd2 ⊢
    refine ⟨_, rfl, p, _, rfl, hp2, by decide, by decide, fun i H3 i0 i7 hp3 s3 => ?_⟩
    have hd3 := tup_sx hp2 s3 hd2
    have odd : ∃ v t, atI [.bl true, .bl false, .non, .int (-1), .str "1", .ref ta, .ref la] i = some v ∧ Kn H3 v t ∧ isN v = false := by
      have : i = 0 ∨ i = 1 ∨ i = 2 ∨ i = 3 ∨ i = 4 ∨ i = 5 ∨ i = 6 := by omega
      rcases this with rfl | rfl | rfl | rfl | rfl | rfl | rfl
      · exact ⟨_, _, at_of (j := 0) rfl rfl, .bl true, rfl⟩
      · exact ⟨_, _, at_of (j := 1) rfl rfl, .bl false, rfl⟩
      · exact ⟨_, _, at_of (j := 2) rfl rfl, .non, rfl⟩
      · exact ⟨_, _, at_of (j := 3) rfl rfl, .int (-1), rfl⟩
      · exact ⟨_, _, at_of (j := 4) rfl rfl, .str _, rfl⟩
      · exact ⟨_, _, at_of (j := 5) rfl rfl, .tup (tup_sx hp2 s3 ta2), rfl⟩
      · exact ⟨_, _, at_of (j := 6) rfl rfl, .lst (s3 _ _ nla la2), rfl⟩
    obtain ⟨v, t, hv, kv, nv⟩ := odd
    refine ⟨Od, _, _, v, rfl, rfl, SqL.of (s3 _ _ nOd Od2), hv, ?_⟩
    -- is_form(due)
    refine ⟨_, rfl, .ref due, "tuple", rfl, .tup hd3, .inr ⟨due, _, _, _, _, rfl, hd3, fun y hy => ?_, fun H4 s4 => ?_⟩⟩
    · simp at hy; rcases hy with h | h | h | h <;> exact ⟨_, by rw [h]; exact .int _⟩
    rw [show (isN (V.int a) && isN (V.int b) && isN (V.int c) && isN (V.int d) && decide (V.int c ≠ .int 0) && decide (V.int d ≠ .int 0)) = true from and_ok a0 b0 c1 d1]
    refine ⟨true, true, rfl, rfl, _, rfl, iteF ?_⟩
    -- is_form(thing = ..)
    have hd4 := s4 _ _ hd3
    refine bent (o := v) j4 hd4 rfl rfl (fun H' Q' h => ⟨_, rfl, h⟩) fun H5 r s5 hr5 => ?_
    obtain ⟨a', b', c', d', e5, m5, n5, _⟩ := form_set (v := v) j4 a0 b0 c1 d1
    rw [e5] at hr5
    refine ⟨.ref r, "tuple", rfl, .tup hr5, .inr ⟨r, a', b', c', d', rfl, hr5, fun y hy => ?_, fun H6 s6 => ?_⟩⟩
    · rcases m5 y hy with ⟨i, rfl⟩ | rfl
      · exact ⟨_, .int i⟩
      · exact ⟨t, (kv.mono s4).mono s5⟩
    rw [show (isN a' && isN b' && isN c' && isN d' && decide (c' ≠ .int 0) && decide (d' ≠ .int 0)) = false from n5 nv]
    refine ⟨false, false, rfl, rfl, _, rfl, iteF ?_⟩
    clear e5 m5 n5 hr5
    have s46 := s5.trans s6
    have hd6 := s46 _ _ hd4
    -- a nought at place
    refine bent (o := .int 0) j4 hd6 rfl rfl (fun H' Q' h => h) fun H7 r7 s7 hr7 => ?_
    obtain ⟨a', b', c', d', e5, m5, _, n5⟩ := form_set (v := .int 0) j4 a0 b0 c1 d1
    rw [e5] at hr7
    refine ⟨.ref r7, "tuple", rfl, .tup hr7, .inr ⟨r7, a', b', c', d', rfl, hr7, fun y hy => ?_, fun H8 s8 => ?_⟩⟩
    · rcases m5 y hy with ⟨i, rfl⟩ | rfl
      · exact ⟨_, .int i⟩
      · exact ⟨_, .int 0⟩
    rw [show (isN a' && isN b' && isN c' && isN d' && decide (c' ≠ .int 0) && decide (d' ≠ .int 0)) = decide ((j : Int) < 2) from n5 rfl]
    refine ⟨_, rfl, _, _, rfl, rfl, _, _, rfl, .inl ⟨rfl, _, .bl _⟩, fun H9 s9 => ⟨_, rfl, iteF ?_⟩⟩
    have s49 := s46.trans (s7.trans (s8.trans s9))
    have hd9 := s49 _ _ hd4
    have hp9 := hp3.mono (s4.trans s49)
    have sx9 : SX p H H9 := (s1.trans (SX.of s2)).trans (s3.trans (SX.of (s4.trans s49)))
    clear hv kv nv e5 m5 n5 hr7 hd6 hd4 hd3 hd2 hd1 Od2 la2 ta2
    -- the others
    refine ⟨_, rfl, due, _, rfl, .inr (SqT.of hd9), fun l1 g1 => ?_⟩
    obtain ⟨b9, o9, t9, hpp9, _⟩ := id hp9
    have nl1 : l1 ≠ p := (ne_of_none hpp9 g1).symm
    have sa := same_new (o := .lst [.int a, .int b, .int c, .int d]) g1
    have fl1 : (upd H9 l1 (.lst [.int a, .int b, .int c, .int d])) l1 = some (.lst [.int a, .int b, .int c, .int d]) := upd_same
    generalize upd H9 l1 (.lst [.int a, .int b, .int c, .int d]) = Ha at sa fl1 ⊢
    refine ⟨_, rfl, 3, rfl, due, _, rfl, SqT.of (sa _ _ hd9), fun z => absurd (show HT.sIx 4 4 (some 3) = 4 from z.2) (by decide), fun _ sl gsl => ?_⟩
    have sb := sa.trans (same_new (o := .tup (cutV [.int a, .int b, .int c, .int d] none (some 3))) gsl)
    have fsl : (upd Ha sl (.tup (cutV [.int a, .int b, .int c, .int d] none (some 3)))) sl = some (.tup [.int a, .int b, .int c]) := upd_same
    have fl1b := same_new (o := .tup (cutV [.int a, .int b, .int c, .int d] none (some 3))) gsl _ _ fl1
    generalize upd Ha sl (.tup (cutV [.int a, .int b, .int c, .int d] none (some 3))) = Hb at sb fsl fl1b ⊢
    refine ⟨_, rfl, by show 1 ≤ sizeLine; decide, fun t3 g3 => ⟨due, t3, _, _, rfl, rfl, SqT.of (same_new g3 _ _ (sb _ _ hd9)), SqT.of upd_same, by show 5 ≤ sizeLine; decide, (fun z => by cases z), (fun _ z => by cases z), fun _ _ t4 g4 => ?_⟩⟩
    have sbd := (same_new (o := .tup [.int 1]) g3).trans (same_new (o := .tup [.int a, .int b, .int c, .int d, .int 1]) g4)
    have ft4 : (upd (upd Hb t3 (.tup [.int 1])) t4 (.tup ([.int a, .int b, .int c, .int d] ++ [.int 1]))) t4 = some (.tup [.int a, .int b, .int c, .int d, .int 1]) := upd_same
    have sd := sb.trans sbd
    have fsld := sbd _ _ fsl
    have fl1d := sbd _ _ fl1b
    generalize hHd : upd (upd Hb t3 (.tup [.int 1])) t4 (.tup ([.int a, .int b, .int c, .int d] ++ [.int 1])) = Hd at ft4 ⊢
    change upd (upd Hb t3 (.tup [.int 1])) t4 (.tup [.int a, .int b, .int c, .int d, .int 1]) = Hd at hHd
    rw [hHd] at sbd sd fsld fl1d
    refine ⟨by show 0 ≤ sizeLine; decide, fun t5 g5 => ⟨_, rfl, by show 1 ≤ sizeLine; decide, fun t6 g6 => ⟨by show 8 ≤ sizeLine; decide, fun Oe gOe => ?_⟩⟩⟩
    have sde := (same_new (o := .tup []) g5).trans ((same_new (o := .tup [.ref due]) g6).trans (same_new (o := .lst [.ref l1, .ref sl, .ref t4, .ref t5, .non, .int 7, .str "form", .ref t6]) gOe))
    have ft5 : (upd (upd (upd Hd t5 (.tup [])) t6 (.tup [.ref due])) Oe (.lst [.ref l1, .ref sl, .ref t4, .ref t5, .non, .int 7, .str "form", .ref t6])) t5 = some (.tup []) := same_new gOe _ _ (same_new g6 _ _ upd_same)
    have ft6 : (upd (upd (upd Hd t5 (.tup [])) t6 (.tup [.ref due])) Oe (.lst [.ref l1, .ref sl, .ref t4, .ref t5, .non, .int 7, .str "form", .ref t6])) t6 = some (.tup [.ref due]) := same_new gOe _ _ upd_same
    have fOe : (upd (upd (upd Hd t5 (.tup [])) t6 (.tup [.ref due])) Oe (.lst [.ref l1, .ref sl, .ref t4, .ref t5, .non, .int 7, .str "form", .ref t6])) Oe = some (.lst [.ref l1, .ref sl, .ref t4, .ref t5, .non, .int 7, .str "form", .ref t6]) := upd_same
    have nOe : Oe ≠ p := (ne_of_none ((same_new (o := .tup [.ref due]) g6) _ _ ((same_new (o := .tup []) g5) _ _ (sd _ _ hpp9))) gOe).symm
    have fl1e := sde _ _ fl1d
    have fsle := sde _ _ fsld
    have ft4e := sde _ _ ft4
    have s9e := sd.trans sde
    generalize upd (upd (upd Hd t5 (.tup [])) t6 (.tup [.ref due])) Oe (.lst [.ref l1, .ref sl, .ref t4, .ref t5, .non, .int 7, .str "form", .ref t6]) = He at sde ft5 ft6 fOe fl1e fsle ft4e s9e ⊢
    have hpe := hp9.mono s9e
    refine ⟨_, rfl, p, _, rfl, hpe, by decide, by decide, fun i Hf i0 i8 hpf sf => ?_⟩
    have odd : ∃ v t, atI [.ref l1, .ref sl, .ref t4, .ref t5, .non, .int 7, .str "form", .ref t6] i = some v ∧ Kn Hf v t ∧ ¬ ∃ p xs, v = .ref p ∧ Hf p = some (.tup xs) ∧ xs.length = 4 := by
      have : i = 0 ∨ i = 1 ∨ i = 2 ∨ i = 3 ∨ i = 4 ∨ i = 5 ∨ i = 6 ∨ i = 7 := by omega
      rcases this with rfl | rfl | rfl | rfl | rfl | rfl | rfl | rfl
      · have k := sf _ _ nl1 fl1e
        refine ⟨_, _, at_of (j := 0) rfl rfl, .lst k, ?_⟩
        rintro ⟨p, xs, e, h, _⟩
        cases e
        rw [k] at h; cases h
      · have k := tup_sx hpe sf fsle
        refine ⟨_, _, at_of (j := 1) rfl rfl, .tup k, ?_⟩
        rintro ⟨p, xs, e, h, l⟩
        cases e
        rw [k] at h; cases h; cases l
      · have k := tup_sx hpe sf ft4e
        refine ⟨_, _, at_of (j := 2) rfl rfl, .tup k, ?_⟩
        rintro ⟨p, xs, e, h, l⟩
        cases e
        rw [k] at h; cases h; cases l
      · have k := tup_sx hpe sf ft5
        refine ⟨_, _, at_of (j := 3) rfl rfl, .tup k, ?_⟩
        rintro ⟨p, xs, e, h, l⟩
        cases e
        rw [k] at h; cases h; cases l
      · exact ⟨_, _, at_of (j := 4) rfl rfl, .non, fun ⟨_, _, e, _⟩ => by cases e⟩
      · exact ⟨_, _, at_of (j := 5) rfl rfl, .int 7, fun ⟨_, _, e, _⟩ => by cases e⟩
      · exact ⟨_, _, at_of (j := 6) rfl rfl, .str _, fun ⟨_, _, e, _⟩ => by cases e⟩
      · have k := tup_sx hpe sf ft6
        refine ⟨_, _, at_of (j := 7) rfl rfl, .tup k, ?_⟩
        rintro ⟨p, xs, e, h, l⟩
        cases e
        rw [k] at h; cases h; cases l
    obtain ⟨v, t, hv, kv, nv⟩ := odd
    refine ⟨Oe, _, _, v, rfl, rfl, SqL.of (sf _ _ nOe fOe), hv, ?_⟩
    refine ⟨_, rfl, v, t, rfl, kv, .inl ⟨nv, false, false, rfl, rfl, _, rfl, iteT ?_⟩⟩
    refine ⟨by show 4 ≤ sizeLine; decide, fun t7 g7 => ?_⟩
    refine ⟨.ref t7, "tuple", rfl, .tup upd_same, .inr ⟨t7, .int 0, .int 0, .int 1, .int 1, rfl, upd_same, fun y hy => ?_, fun Hg sg => ?_⟩⟩
    · simp at hy; rcases hy with h | h <;> exact ⟨_, by rw [h]; exact .int _⟩
    refine ⟨true, true, rfl, rfl, ?_⟩
    have sfg := (same_new g7).trans sg
    exact q0 _ (hpf.mono sfg) (sx9.trans ((SX.of s9e).trans (sf.trans (SX.of sfg))))
end
end K36
-- text D22
set_option maxRecDepth 100000
set_option maxHeartbeats 4000000
namespace K36
open PySem PySem.Spec PyProof.Rows L2
/-! ### what the law is told -/
/-- the answer to a refusal -/
def refT (z : PySem.Str) : List V := [.str "refused", .str z, .int (-1)]
section
variable {P : Program} {w : World} {K : PySem.W.Frag} {mg : PySem.Str → Option Value} {base : Heap}
def tIs (K : PySem.W.Frag) (C a : Addr) (cls : Value) (d : Option Addr) (i : Nat) (D : Addr) : TT := tB (tCB (rIsD K C a cls d) (tCons (tVar i) (tCons (tC (.ref D)) tNil)))
def tSuite (K : PySem.W.Frag) (C W P : Addr) (i : Nat) (a : Addr) (cls : Value) (d : Option Addr) : TS :=
  tIfS (tAnd (tIs K C a cls d i C) (tAnd (tIs K C a cls d i W) (tNot (tIs K C a cls d i P))))
    (tRet (tTup (tCons (tC (.str "refused")) (tCons (tXf a cls d C "word" (tVar i)) (tCons (tXf a cls d C "at" (tVar i)) tNil))))) tNext
/-- the suite's reading at the law's own error -/
theorem suite_ok (T : Tx K mg) {i : Nat} {a d : Addr} {z : PySem.Str} {D : Ends} {σ : L2.St} {H : Hp} (hi : σ[i]? = some (some (.ref a))) (hd : H d = some (.xd (xfs z))) (q : ∀ r, H r = none → D.rt (.ref r) (upd H r (.tup (refT z)))) : tSuite K T.cN T.cW T.cP i a (.ref T.cN) (some d) D σ H := by
  refine ⟨_, hi, .ref T.cN, .ref T.cN, true, d, xfs z, rfl, fun u r => r, T.k_NotUsable, rfl, rfl, hd, _, rfl, iteT ?_⟩
  refine ⟨_, hi, .ref T.cW, .ref T.cW, true, d, xfs z, rfl, fun u r => r, T.k_WebError, rfl, rfl, hd, _, rfl, iteT ?_⟩
  refine ⟨_, hi, .ref T.cP, .ref T.cP, false, d, xfs z, rfl, fun u r => r, T.k_PaperError, rfl, rfl, hd, _, rfl, iteT ?_⟩
  exact ⟨_, hi, rfl, rfl, d, _, _, rfl, hd, rfl, _, hi, rfl, rfl, d, _, _, rfl, hd, rfl, by show 3 ≤ sizeLine; decide, q⟩
def spToldRoom : L2.Sp := fun vs H Q _ => ∃ (due : Addr) (a b c d : Int) (x : V) (t : String), vs = [.ref due, x] ∧ H due = some (.tup [.int a, .int b, .int c, .int d]) ∧ Kn H x t ∧ isN x = false ∧ 0 ≤ a ∧ 0 ≤ b ∧ 1 ≤ c ∧ 1 ≤ d ∧ a.natAbs < 2 ^ 3000 ∧ b.natAbs < 2 ^ 3000 ∧ c.natAbs < 2 ^ 3000 ∧ d.natAbs < 2 ^ 3000 ∧
  ∀ H' r, Same H H' → H' r = some (.tup (refT "room")) → Q (.ref r) H'
theorem ok_Ltoldroom (T : Tx K mg) : FnOk P w K mg base CX0 7 (T.f 44) (T.fd 44) ["_law_due", "_law_odd"] spToldRoom := by
  refine T.d_Ltoldroom.F.ok sc_Ltoldroom (fun vs H Q E h => ?_) (fun cdv A outer s H vs Q E hr h => ?_)
  · obtain ⟨due, a, b, c, d, x, t, rfl, _⟩ := h
    rfl
  · obtain ⟨due, a, b, c, d, x, t, rfl, hd, kx, nx, a0, b0, c1, d1, wa, wb, wc, wd, q⟩ := h
    have hr1 : Room 5 _ := hr.mono (by decide)
    refine ⟨_, pss_cons (ps_try_as (i := 2) (tb := fun W => tRet (tCallS (spShareAt T.cN) (WE W) (tCons (tVar 0) (tCons (tVar 1) tNil)))) (ts := fun a cls d => tSuite K T.cN T.cW T.cP 2 a cls d) (Wout := fun _ _ _ _ => False) rfl rfl sc_Ltoldroom.nd rfl rfl ⟨rfl, by decide, Or.inl T.g_LedError⟩ takes0
        (fun W pn xe tk _ => pss_one (ps_ret (by exact (pe_callS (ok_shareat T) hr1 rfl T.d_shareat.g T.d_shareat.k T.d_shareat.b (fun σ => passAt tk σ) (by exact (pa_cons (pv 0) (pa_cons (pv 1) pa_nil)))))))
        (fun a oe cls d pn hz hf => pss_one (ps_if (PW.pt (pw_and (pt_val (by exact (pe_callB (call_isD T.xc T.hcl hz hf) (by rfl) T.n_isinstance (by decide +kernel) (pa_cons (pv 2) (pa_cons (pe_glob rfl T.g_NotUsable rfl) pa_nil)))))
          (pw_and (pt_val (by exact (pe_callB (call_isD T.xc T.hcl hz hf) (by rfl) T.n_isinstance (by decide +kernel) (pa_cons (pv 2) (pa_cons (pe_glob rfl T.g_WebError rfl) pa_nil)))))
            (pw_and1 (pt_not (pt_val (by exact (pe_callB (call_isD T.xc T.hcl hz hf) (by rfl) T.n_isinstance (by decide +kernel) (pa_cons (pv 2) (pa_cons (pe_glob rfl T.g_PaperError rfl) pa_nil))))))))))
          (pss_one (ps_ret (by exact (pe_tup (pa_cons pe_str (pa_cons (pe_xf T.xf T.no_word hz hf (pv 2)) (pa_cons (pe_xf T.xf T.no_at hz hf (pv 2)) pa_nil))))))) pss_nil)))
      (pss_one (ps_ret (pe_tup (pa_cons pe_str pa_nil)))), ?_⟩
    refine ⟨_, rfl, _, rfl, due, a, b, c, d, x, t, rfl, hd, kx, a0, b0, c1, d1, wa, wb, wc, wd, ?_⟩
    rw [nx]
    refine fun H' dd s1 n1 e1 => ⟨true, T.te, fun _ a0 ha0 => ?_, fun q => Bool.noConfusion q⟩
    exact suite_ok T rfl e1 fun r hr => q _ r (s1.trans (same_new hr)) upd_same
def spTold : L2.Sp := fun vs H Q _ => ∃ (p : Addr) (n : Nat) (L : List Ln) (a b c d : V) (ta tb tc td : String), vs = [.ref p, a, b, c, d] ∧ Web H p n L ∧ LnOK n L ∧ Kn H a ta ∧ Kn H b tb ∧ Kn H c tc ∧ Kn H d td ∧
  (match shE n a b c d with
    | some z => ∀ H' r, Same H H' → H' r = some (.tup (refT z)) → Q (.ref r) H'
    | none => ∀ x y g k : Int, a = .int x → b = .int y → c = .int g → d = .int k → ∀ H' q, Same H H' → H' q = some (.tup (iv (form4 L x y g k))) → Q (.ref q) H')
theorem ok_Ltold (T : Tx K mg) : FnOk P w K mg base CX0 10 (T.f 45) (T.fd 45) ["_law_net", "_law_left", "_law_right", "_law_giver", "_law_taker"] spTold := by
  refine T.d_Ltold.F.ok sc_Ltold (fun vs H Q E h => ?_) (fun cdv A outer s H vs Q E hr h => ?_)
  · obtain ⟨p, n, L, a, b, c, d, ta, tb, tc, td, rfl, _⟩ := h
    rfl
  · obtain ⟨p, n, L, a, b, c, d, ta, tb, tc, td, rfl, hw, hL, ka, kb, kc, kd, q⟩ := h
    have hr1 : Room 8 _ := hr.mono (by decide)
    refine ⟨_, pss_cons (ps_try_as (i := 5) (tb := fun W => tRet (tCallS (spShare T.cN) (WE W) (tCons (tVar 0) (tCons (tVar 1) (tCons (tVar 2) (tCons (tVar 3) (tCons (tVar 4) tNil))))))) (ts := fun a cls d => tSuite K T.cN T.cW T.cP 5 a cls d) (Wout := fun _ _ _ _ => False) rfl rfl sc_Ltold.nd rfl rfl ⟨rfl, by decide, Or.inl T.g_LedError⟩ takes0
        (fun W pn xe tk _ => pss_one (ps_ret (by exact (pe_callS (ok_shareform T) hr1 rfl T.d_shareform.g T.d_shareform.k T.d_shareform.b (fun σ => passAt tk σ) (by exact (pa_cons (pv 0) (pa_cons (pv 1) (pa_cons (pv 2) (pa_cons (pv 3) (pa_cons (pv 4) pa_nil))))))))))
        (fun a oe cls d pn hz hf => pss_one (ps_if (PW.pt (pw_and (pt_val (by exact (pe_callB (call_isD T.xc T.hcl hz hf) (by rfl) T.n_isinstance (by decide +kernel) (pa_cons (pv 5) (pa_cons (pe_glob rfl T.g_NotUsable rfl) pa_nil)))))
          (pw_and (pt_val (by exact (pe_callB (call_isD T.xc T.hcl hz hf) (by rfl) T.n_isinstance (by decide +kernel) (pa_cons (pv 5) (pa_cons (pe_glob rfl T.g_WebError rfl) pa_nil)))))
            (pw_and1 (pt_not (pt_val (by exact (pe_callB (call_isD T.xc T.hcl hz hf) (by rfl) T.n_isinstance (by decide +kernel) (pa_cons (pv 5) (pa_cons (pe_glob rfl T.g_PaperError rfl) pa_nil))))))))))
          (pss_one (ps_ret (by exact (pe_tup (pa_cons pe_str (pa_cons (pe_xf T.xf T.no_word hz hf (pv 5)) (pa_cons (pe_xf T.xf T.no_at hz hf (pv 5)) pa_nil))))))) pss_nil)))
      (pss_one (ps_ret (pe_tup (pa_cons pe_str pa_nil)))), ?_⟩
    refine ⟨_, rfl, _, rfl, _, rfl, _, rfl, _, rfl, p, n, L, a, b, c, d, ta, tb, tc, td, rfl, hw, hL, ka, kb, kc, kd, ?_⟩
    cases e : shE n a b c d with
    | some z =>
      rw [e] at q
      refine fun H' dd s1 n1 e1 => ⟨true, T.te, fun _ a0 ha0 => ?_, fun q => Bool.noConfusion q⟩
      exact suite_ok T rfl e1 fun r hr => q _ r (s1.trans (same_new hr)) upd_same
    | none =>
      rw [e] at q
      exact fun x y g k h1 h2 h3 h4 H' r s1 n1 e1 => q x y g k h1 h2 h3 h4 H' r s1 e1
end
end K36
-- text D23
set_option maxRecDepth 100000
set_option maxHeartbeats 4000000
namespace K36
open PySem PySem.Spec PyProof.Rows L2
/-! ### _law_refusals_right -/
def wordAt (j : Nat) : PySem.Str := match j with
  | 0 => "here"
  | 1 => "there"
  | 2 => "payer"
  | _ => "payee"
def hsAt (x y g k : Int) (j : Nat) : Int := match j with
  | 0 => x
  | 1 => y
  | 2 => g
  | _ => k
section
variable {n : Nat} {far : Bool} {L : List Ln} {x y g k : Int}
theorem isH_on {x : Int} (h : On n x) : isH n (.int x) = true := by
  show (decide (0 ≤ x) && decide (x < n)) = true
  rw [decide_eq_true h.1, decide_eq_true h.2]
  rfl
theorem pair_ok {x y : Int} (hx : On n x) (hy : On n y) (ne : x ≠ y) (f s : PySem.Str) : pairE n (.int x) (.int y) f s = none := by
  unfold pairE
  rw [if_pos (isH_on hx), if_pos (isH_on hy), if_neg fun z => ne (V.int.inj z)]
theorem pair_first {u v : V} (h : isH n u = false) (f s : PySem.Str) : pairE n u v f s = some f := by
  unfold pairE
  rw [if_neg (by rw [h]; exact Bool.false_ne_true)]
theorem pair_second {x : Int} {v : V} (hx : On n x) (h : isH n v = false ∨ v = .int x) (f s : PySem.Str) : pairE n (.int x) v f s = some s := by
  unfold pairE
  rw [if_pos (isH_on hx)]
  rcases h with h | h
  · rw [if_neg (by rw [h]; exact Bool.false_ne_true)]
  · rw [h, if_pos (isH_on hx), if_pos rfl]
theorem NetF.shE (N : NetF n far L x y g k) : K36.shE n (.int x) (.int y) (.int g) (.int k) = none := by
  unfold K36.shE
  rw [pair_ok N.x0 N.y0 N.xy]
  exact pair_ok N.g0 N.k0 N.gk _ _
theorem NetF.lnok (N : NetF n far L x y g k) : LnOK n L where
  inr := fun l hl => by
    obtain ⟨a, b⟩ := N.on l hl
    exact ⟨a.1, a.2, b.1, b.2⟩
  lt := fun l hl => by
    obtain ⟨a, b, c, d, _⟩ := N.good.lt l hl
    exact ⟨a, b, by omega⟩
  len := by have := N.l8; omega
  wt := pow_up (Lw_wt N (Int.le_refl 0) (by decide)) (by decide)
  n0 := by have := N.n8; omega
/-- the bent houses and the word of their refusal -/
theorem bent_word (N : NetF n far L x y g k) {j : Nat} (j4 : j < 4) {v : V} (hv : isH n v = false ∨ (j % 2 = 1 ∧ v = .int (hsAt x y g k (j - 1)))) {u : Bool} (hu : u = true → j < 3) :
    ∃ b0 b1 b2 b3 : V, (if u = true then ([V.int x, .int y, .int g, .int k].set j v).set 3 .non else [V.int x, .int y, .int g, .int k].set j v) = [b0, b1, b2, b3] ∧ K36.shE n b0 b1 b2 b3 = some (wordAt j) ∧ ∀ b ∈ [b0, b1, b2, b3], (∃ i, b = .int i) ∨ b = v ∨ b = .non := by
  match j, j4 with
  | 0, _ =>
    have hv' : isH n v = false := hv.resolve_right fun z => by cases z.1
    have e : ∀ a b c, K36.shE n v a b c = some (wordAt 0) := fun a b c => by unfold K36.shE; rw [pair_first hv']; rfl
    cases u
    · exact ⟨_, _, _, _, rfl, e _ _ _, fun b hb => by simp at hb; rcases hb with h | h | h | h <;> simp [h]⟩
    · exact ⟨_, _, _, _, rfl, e _ _ _, fun b hb => by simp at hb; rcases hb with h | h | h | h <;> simp [h]⟩
  | 1, _ =>
    have hv' : isH n v = false ∨ v = .int x := hv.imp id fun z => z.2
    have e : ∀ b c, K36.shE n (.int x) v b c = some (wordAt 1) := fun b c => by unfold K36.shE; rw [pair_second N.x0 hv']; rfl
    cases u
    · exact ⟨_, _, _, _, rfl, e _ _, fun b hb => by simp at hb; rcases hb with h | h | h | h <;> simp [h]⟩
    · exact ⟨_, _, _, _, rfl, e _ _, fun b hb => by simp at hb; rcases hb with h | h | h | h <;> simp [h]⟩
  | 2, _ =>
    have hv' : isH n v = false := hv.resolve_right fun z => by cases z.1
    have e : ∀ c, K36.shE n (.int x) (.int y) v c = some (wordAt 2) := fun c => by unfold K36.shE; rw [pair_ok N.x0 N.y0 N.xy]; show pairE n v c "payer" "payee" = _; rw [pair_first hv']; rfl
    cases u
    · exact ⟨_, _, _, _, rfl, e _, fun b hb => by simp at hb; rcases hb with h | h | h | h <;> simp [h]⟩
    · exact ⟨_, _, _, _, rfl, e _, fun b hb => by simp at hb; rcases hb with h | h | h | h <;> simp [h]⟩
  | 3, _ =>
    have hv' : isH n v = false ∨ v = .int g := hv.imp id fun z => z.2
    have e : K36.shE n (.int x) (.int y) (.int g) v = some (wordAt 3) := by unfold K36.shE; rw [pair_ok N.x0 N.y0 N.xy]; show pairE n (.int g) v "payer" "payee" = _; rw [pair_second N.g0 hv']; rfl
    cases u
    · exact ⟨_, _, _, _, rfl, e, fun b hb => by simp at hb; rcases hb with h | h | h | h <;> simp [h]⟩
    · exact absurd (hu rfl) (by decide)
end
theorem Kn.ext {H H' : Hp} {v : V} {t : String} (h : Kn H v t) (e : ∀ q o, v = .ref q → H q = some o → H' q = some o) : Kn H' v t := by
  cases h with
  | int i => exact .int i
  | bl b => exact .bl b
  | non => exact .non
  | str z => exact .str z
  | lst h => exact .lst (e _ _ rfl h)
  | tup h => exact .tup (e _ _ rfl h)
theorem Kn.sx {p : Addr} {H H' : Hp} {v : V} {t : String} (h : Kn H v t) (ne : v ≠ .ref p) (hp : StA H p) (e : SX p H H') : Kn H' v t := by
  cases h with
  | int i => exact .int i
  | bl b => exact .bl b
  | non => exact .non
  | str z => exact .str z
  | lst h => exact .lst (e _ _ (fun z => ne (by rw [z])) h)
  | tup h => exact .tup (e _ _ (fun z => ne (by rw [z])) h)
theorem hs_at {x y g k : Int} {j : Nat} (h : j < 4) : [V.int x, .int y, .int g, .int k][j]? = some (.int (hsAt x y g k j)) := by
  match j, h with
  | 0, _ => rfl
  | 1, _ => rfl
  | 2, _ => rfl
  | 3, _ => rfl
theorem sc_ref (z : PySem.Str) : ∀ v ∈ refT z, ∃ n, Sc v n := fun v hv => by
  unfold refT at hv
  simp at hv
  rcases hv with rfl | rfl | rfl
  · exact ⟨_, .str _⟩
  · exact ⟨_, .str _⟩
  · exact ⟨_, .int _⟩
theorem sc_iv (ns : List Int) : ∀ v ∈ iv ns, ∃ n, Sc v n := fun v hv => by
  obtain ⟨i, _, rfl⟩ := List.mem_map.mp hv
  exact ⟨_, .int i⟩
theorem word_at {j : Nat} (h : j < 4) : atI [V.str "here", .str "there", .str "payer", .str "payee"] (j : Int) = some (.str (wordAt j)) := by
  refine atI_nat ?_
  match j, h with
  | 0, _ => rfl
  | 1, _ => rfl
  | 2, _ => rfl
  | 3, _ => rfl
theorem twin_at {x y g k : Int} {j : Nat} (h : j < 4) : ∃ t : Int, atI [V.int x, .int y, .int g, .int k] ((j : Int) / 2 * 2) = some (.int t) ∧ (j % 2 = 1 → t = hsAt x y g k (j - 1)) := by
  match j, h with
  | 0, _ => exact ⟨x, at_of (j := 0) rfl rfl, fun z => by cases z⟩
  | 1, _ => exact ⟨x, at_of (j := 0) rfl rfl, fun z => rfl⟩
  | 2, _ => exact ⟨g, at_of (j := 2) rfl rfl, fun z => by cases z⟩
  | 3, _ => exact ⟨g, at_of (j := 2) rfl rfl, fun z => rfl⟩
theorem ix4 {j : Nat} (h : j < 4) : ixN 4 (j : Int) = some j := by
  match j, h with
  | 0, _ => rfl
  | 1, _ => rfl
  | 2, _ => rfl
  | 3, _ => rfl
section
variable {P : Program} {w : World} {K : PySem.W.Frag} {mg : PySem.Str → Option Value} {base : Heap}
def spRefusals : L2.Sp := fun vs H Q _ => ∃ (p net pl due : Addr) (far : Bool) (n : Nat) (L : List Ln) (x y g k : Int), vs = [.ref p, .ref net, .ref pl, .ref due] ∧ StA H p ∧ Web H net n L ∧ NetF n far L x y g k ∧ PL2 H pl x y g k ∧ pl ≠ p ∧ H due = some (.tup (iv (form4 L x y g k))) ∧
  ∀ H', StA H' p → SX p H H' → Q (.bl true) H'
set_option maxHeartbeats 64000000 in
theorem ok_Lrefusalsright (T : Tx K mg) : FnOk P w K mg base CX0 11 (T.f 46) (T.fd 46) ["_law_state", "_law_net", "_law_pairs_here", "_law_due"] spRefusals := by
  refine T.d_Lrefusalsright.F.ok sc_Lrefusalsright (fun vs H Q E h => ?_) (fun cdv A outer s H vs Q E hr h => ?_)
  · obtain ⟨p, net, pl, due, far, n, L, x, y, g, k, rfl, _⟩ := h
    rfl
  · obtain ⟨p, net, pl, due, far, n, L, x, y, g, k, rfl, hp, hnet, N, hpl, nplp, hdue, q0⟩ := h
    have r0 : ∀ l ∈ L, 0 ≤ l.2.2 := fun l hl => (N.rm l hl).1
    have bA := ap_le [(g, k)] L id r0
    have bB := ap_le [(x, y), (g, k)] L id r0
    have bD := ap_le [(x, y)] L id r0
    have bC := W_pos L id r0
    have bD1 : 1 ≤ Ap [(x, y)] L id := by
      have e : Ap [(x, y)] L id = W L (mrg id x y) := ap_one (show id x ≠ id y from N.xy)
      rw [e]
      exact W_pos L _ r0
    have wL : (W L id).natAbs < 2 ^ 1000 := Lw_wt N (Int.le_refl 0) (by decide)
    have u10 : (1000 : Nat) ≤ 3000 := by decide
    refine ⟨_, 
      (pss_cons (ps_set (i := 4) sc_Lrefusalsright.nd rfl (Or.inl rfl) (pe_ix ix_list (pe_lst (pa_cons (pe_un un_neg pe_int) (pa_cons pe_bl (pa_cons pe_bl (pa_cons pe_non (pa_cons pe_str (pa_cons (pe_tup (pa_cons pe_int pa_nil)) (pa_cons (pe_lst (pa_cons pe_int pa_nil)) pa_nil)))))))) (pe_call (ok_Ldraw T) (hr.mono (by decide)) (by rfl) T.d_Ldraw.g T.d_Ldraw.k T.d_Ldraw.b .nil pass0 (pa_cons (pv 0) (pa_cons pe_int pa_nil))) (fun _ _ => rfl)))
      (pss_cons (ps_if (pt_not (pt_val (pe_call (ok_Lsame T) (hr.mono (by decide)) (by rfl) T.d_Lsame.g T.d_Lsame.k T.d_Lsame.b .nil pass0 (pa_cons (pe_call (ok_Ltoldroom T) (hr.mono (by decide)) (by rfl) T.d_Ltoldroom.g T.d_Ltoldroom.k T.d_Ltoldroom.b .nil pass0 (pa_cons (pv 3) (pa_cons (pv 4) pa_nil))) (pa_cons (pe_tup (pa_cons pe_str (pa_cons pe_str (pa_cons (pe_un un_neg pe_int) pa_nil)))) pa_nil))))) 
          (pss_one (ps_ret pe_bl)) pss_nil)
      (pss_cons (ps_set (i := 5) sc_Lrefusalsright.nd rfl (Or.inl rfl) (pe_lst (pa_cons (pe_ix ix_tup (pe_ix ix_list (pv 2) pe_int (fun _ _ => rfl)) pe_int (fun _ _ => rfl)) (pa_cons (pe_ix ix_tup (pe_ix ix_list (pv 2) pe_int (fun _ _ => rfl)) pe_int (fun _ _ => rfl)) (pa_cons (pe_ix ix_tup (pe_ix ix_list (pv 2) pe_int (fun _ _ => rfl)) pe_int (fun _ _ => rfl)) (pa_cons (pe_ix ix_tup (pe_ix ix_list (pv 2) pe_int (fun _ _ => rfl)) pe_int (fun _ _ => rfl)) pa_nil))))))
      (pss_cons (ps_set (i := 6) sc_Lrefusalsright.nd rfl (Or.inl rfl) (pe_call (ok_Ldraw T) (hr.mono (by decide)) (by rfl) T.d_Ldraw.g T.d_Ldraw.k T.d_Ldraw.b .nil pass0 (pa_cons (pv 0) (pa_cons pe_int pa_nil))))
      (pss_cons (ps_set (i := 7) sc_Lrefusalsright.nd rfl (Or.inl rfl) (pe_ix ix_list (pv 5) (pe_op op_mul (pe_op op_fdiv (pv 6) pe_int) pe_int) (fun _ _ => rfl)))
      (pss_cons (ps_if (pt_cmpR op_eq (pe_op op_mod (pe_callTy call_int1 (by rfl) T.n_int (by decide +kernel) (pa_cons (pv 6) pa_nil)) pe_int) pe_int (nomark _)) 
          (pss_one (ps_set (i := 7) sc_Lrefusalsright.nd rfl (Or.inl rfl) (pe_op op_add (pe_ix ix_tup (pv 1) pe_int (fun _ _ => rfl)) pe_int))) pss_nil)
      (pss_cons (ps_set (i := 4) sc_Lrefusalsright.nd rfl (Or.inl rfl) (pe_ix ix_list (pe_lst (pa_cons (pe_ix ix_tup (pv 1) pe_int (fun _ _ => rfl)) (pa_cons (pe_un un_neg pe_int) (pa_cons pe_bl (pa_cons pe_bl (pa_cons pe_non (pa_cons pe_str (pa_cons (pe_tup (pa_cons pe_int pa_nil)) (pa_cons (pe_lst (pa_cons pe_int pa_nil)) (pa_cons (pv 7) (pa_cons (pv 7) pa_nil))))))))))) (pe_call (ok_Ldraw T) (hr.mono (by decide)) (by rfl) T.d_Ldraw.g T.d_Ldraw.k T.d_Ldraw.b .nil pass0 (pa_cons (pv 0) (pa_cons pe_int pa_nil))) (fun _ _ => rfl)))
      (pss_cons (ps_set (i := 8) sc_Lrefusalsright.nd rfl (Or.inl rfl) (pe_callTy call_list_of (by rfl) T.n_list (by decide +kernel) (pa_cons (pv 5) pa_nil)))
      (pss_cons (ps_asg (pv 4) (pg_sub (pv 8) (pv 6) set_list))
      (pss_cons (ps_if (PW.pt (pw_and (pt_cmpR op_lt (pv 6) pe_int (nomark _)) (pw_and1 (pt_cmpR op_eq (pe_call (ok_Ldraw T) (hr.mono (by decide)) (by rfl) T.d_Ldraw.g T.d_Ldraw.k T.d_Ldraw.b .nil pass0 (pa_cons (pv 0) (pa_cons pe_int pa_nil))) pe_int (nomark _))))) 
          (pss_one (ps_asg pe_non (pg_sub (pv 8) pe_int set_list))) pss_nil)
      (pss_cons (ps_set (i := 9) sc_Lrefusalsright.nd rfl (Or.inl rfl) (pe_tup (pa_cons pe_str (pa_cons (pe_ix ix_list (pe_lst (pa_cons pe_str (pa_cons pe_str (pa_cons pe_str (pa_cons pe_str pa_nil))))) (pv 6) (fun _ _ => rfl)) (pa_cons (pe_un un_neg pe_int) pa_nil)))))
      (pss_cons (ps_if (pt_not (pt_val (pe_call (ok_Lsame T) (hr.mono (by decide)) (by rfl) T.d_Lsame.g T.d_Lsame.k T.d_Lsame.b .nil pass0 (pa_cons (pe_call (ok_Ltold T) (hr.mono (by decide)) (by rfl) T.d_Ltold.g T.d_Ltold.k T.d_Ltold.b .nil pass0 (pa_cons (pv 1) (pa_cons (pe_ix ix_list (pv 8) pe_int (fun _ _ => rfl)) (pa_cons (pe_ix ix_list (pv 8) pe_int (fun _ _ => rfl)) (pa_cons (pe_ix ix_list (pv 8) pe_int (fun _ _ => rfl)) (pa_cons (pe_ix ix_list (pv 8) pe_int (fun _ _ => rfl)) pa_nil)))))) (pa_cons (pv 9) pa_nil))))) 
          (pss_one (ps_ret pe_bl)) pss_nil)
      (pss_one (ps_ret (pe_call (ok_Lsame T) (hr.mono (by decide)) (by rfl) T.d_Lsame.g T.d_Lsame.k T.d_Lsame.b .nil pass0 (pa_cons (pe_call (ok_Ltold T) (hr.mono (by decide)) (by rfl) T.d_Ltold.g T.d_Ltold.k T.d_Ltold.b .nil pass0 (pa_cons (pv 1) (pa_cons (pe_ix ix_list (pv 5) pe_int (fun _ _ => rfl)) (pa_cons (pe_ix ix_list (pv 5) pe_int (fun _ _ => rfl)) (pa_cons (pe_ix ix_list (pv 5) pe_int (fun _ _ => rfl)) (pa_cons (pe_ix ix_list (pv 5) pe_int (fun _ _ => rfl)) pa_nil)))))) (pa_cons (pv 3) pa_nil))))))))))))))))), ?_⟩
    refine ⟨_, rfl, by show 1 ≤ sizeLine; decide, fun ta hta => ⟨by show 1 ≤ sizeLine; decide, fun la hla => ⟨by show 7 ≤ sizeLine; decide, fun Od hOd => ?_⟩⟩⟩
    obtain ⟨b0', o0', t0', hpp, _⟩ := id hp
    have s1 := (same_new (o := .tup [.int 0]) hta).trans ((same_new (o := .lst [.int 0]) hla).trans (same_new (o := .lst [.int (-1), .bl true, .bl false, .non, .str "0", .ref ta, .ref la]) hOd))
    have ta1 : (upd (upd (upd H ta (.tup [.int 0])) la (.lst [.int 0])) Od (.lst [.int (-1), .bl true, .bl false, .non, .str "0", .ref ta, .ref la])) ta = some (.tup [.int 0]) := same_new hOd _ _ (same_new hla _ _ upd_same)
    have la1 : (upd (upd (upd H ta (.tup [.int 0])) la (.lst [.int 0])) Od (.lst [.int (-1), .bl true, .bl false, .non, .str "0", .ref ta, .ref la])) la = some (.lst [.int 0]) := same_new hOd _ _ upd_same
    have Od1 : (upd (upd (upd H ta (.tup [.int 0])) la (.lst [.int 0])) Od (.lst [.int (-1), .bl true, .bl false, .non, .str "0", .ref ta, .ref la])) Od = some (.lst [.int (-1), .bl true, .bl false, .non, .str "0", .ref ta, .ref la]) := upd_same
    have nla : la ≠ p := fun z => by rw [z, upd_ne (ne_of_none hpp hta), hpp] at hla; cases hla
    have nOd : Od ≠ p := (ne_of_none ((same_new (o := .lst [.int 0]) hla) _ _ ((same_new (o := .tup [.int 0]) hta) _ _ hpp)) hOd).symm
    have hp1 := hp.mono s1
    generalize upd (upd (upd H ta (.tup [.int 0])) la (.lst [.int 0])) Od (.lst [.int (-1), .bl true, .bl false, .non, .str "0", .ref ta, .ref la]) = H1 at s1 ta1 la1 Od1 hp1 ⊢
    refine ⟨_, rfl, p, _, rfl, hp1, by decide, by decide, fun i H2 i0 i7 hp2 s2 => ?_⟩
    have odd : ∃ v t, atI [.int (-1), .bl true, .bl false, .non, .str "0", .ref ta, .ref la] i = some v ∧ Kn H2 v t ∧ isN v = false := by
      have : i = 0 ∨ i = 1 ∨ i = 2 ∨ i = 3 ∨ i = 4 ∨ i = 5 ∨ i = 6 := by omega
      rcases this with rfl | rfl | rfl | rfl | rfl | rfl | rfl
      · exact ⟨_, _, at_of (j := 0) rfl rfl, .int (-1), rfl⟩
      · exact ⟨_, _, at_of (j := 1) rfl rfl, .bl true, rfl⟩
      · exact ⟨_, _, at_of (j := 2) rfl rfl, .bl false, rfl⟩
      · exact ⟨_, _, at_of (j := 3) rfl rfl, .non, rfl⟩
      · exact ⟨_, _, at_of (j := 4) rfl rfl, .str _, rfl⟩
      · exact ⟨_, _, at_of (j := 5) rfl rfl, .tup (tup_sx hp1 s2 ta1), rfl⟩
      · exact ⟨_, _, at_of (j := 6) rfl rfl, .lst (s2 _ _ nla la1), rfl⟩
    obtain ⟨v, t, hv, kv, nv⟩ := odd
    refine ⟨Od, _, _, v, rfl, rfl, SqL.of (s2 _ _ nOd Od1), hv, ?_⟩
    have sx2 : SX p H H2 := (SX.of s1).trans s2
    have due2 := tup_sx hp sx2 hdue
    -- the room's refusal
    refine ⟨_, rfl, _, rfl, due, _, _, _, _, v, t, rfl, due2, kv, nv, bA.1, bB.1, bC, bD1, pow_up (i := 1000) (by omega) u10, pow_up (i := 1000) (by omega) u10, pow_up wL u10, pow_up (i := 1000) (by omega) u10, fun H3 r s3 r3 => ?_⟩
    refine ⟨_, rfl, by show 3 ≤ sizeLine; decide, fun e he => ⟨_, _, rfl, .inr ⟨r, e, refT "room", rfl, rfl, same_new he _ _ r3, upd_same, sc_ref _, by show 3 ≤ 100; decide⟩, fun H4 s4 => ⟨_, rfl, iteF ?_⟩⟩⟩
    have s24 := s3.trans ((same_new he).trans s4)
    have sx4 : SX p H H4 := sx2.trans (SX.of s24)
    have hp4 := hp2.mono s24
    clear ta1 la1 Od1 hv kv nv due2 r3
    obtain ⟨t0, t1, hl, ht0, ht1⟩ := id hpl
    have hl4 := sx4 _ _ nplp hl
    have t04 := tup_sx hp sx4 ht0
    have t14 := tup_sx hp sx4 ht1
    -- houses
    refine ⟨_, rfl, pl, _, _, _, rfl, rfl, SqL.of hl4, at_of (j := 0) rfl rfl, t0, _, _, _, rfl, rfl, SqT.of t04, at_of (j := 0) rfl rfl, _, rfl, pl, _, _, _, rfl, rfl, SqL.of hl4, at_of (j := 0) rfl rfl, t0, _, _, _, rfl, rfl, SqT.of t04, at_of (j := 1) rfl rfl, _, rfl, pl, _, _, _, rfl, rfl, SqL.of hl4, at_of (j := 1) rfl rfl, t1, _, _, _, rfl, rfl, SqT.of t14, at_of (j := 0) rfl rfl, _, rfl, pl, _, _, _, rfl, rfl, SqL.of hl4, at_of (j := 1) rfl rfl, t1, _, _, _, rfl, rfl, SqT.of t14, at_of (j := 1) rfl rfl, by show 4 ≤ sizeLine; decide, fun Hs hHs => ?_⟩
    obtain ⟨b4, o4, c4, hpp4, _⟩ := id hp4
    have nHs : Hs ≠ p := (ne_of_none hpp4 hHs).symm
    have s5 := same_new (o := .lst [.int x, .int y, .int g, .int k]) hHs
    have Hs5 : (upd H4 Hs (.lst [.int x, .int y, .int g, .int k])) Hs = some (.lst [.int x, .int y, .int g, .int k]) := upd_same
    have hp5 := hp4.mono s5
    generalize upd H4 Hs (.lst [.int x, .int y, .int g, .int k]) = H5 at s5 Hs5 hp5 ⊢
    -- place
    refine ⟨_, rfl, p, _, rfl, hp5, by decide, by decide, fun pc H6 pc0 pc1 hp6 s6 => ?_⟩
    obtain ⟨j, rfl⟩ : ∃ j : Nat, pc = j := ⟨pc.toNat, by omega⟩
    have j4 : j < 4 := by omega
    have Hs6 := s6 _ _ nHs Hs5
    have sx6 : SX p H H6 := sx4.trans ((SX.of s5).trans s6)
    obtain ⟨q, hn1, hn2⟩ := id hnet
    have net6 := tup_sx hp sx6 hn1
    -- twin
    obtain ⟨tw0, htw0, htw1⟩ := twin_at (x := x) (y := y) (g := g) (k := k) j4
    refine ⟨_, rfl, _, rfl, _, _, rfl, rfl, ⟨by decide, by decide⟩, _, _, rfl, rfl, .inr ⟨by decide, by decide⟩, Hs, _, _, _, rfl, rfl, SqL.of Hs6, htw0, ?_⟩
    dsimp only [gName, List.set, L2.start]
    refine seqJ (fun σ' H' => ∃ tw : Int, σ' = [some (.ref p), some (.ref net), some (.ref pl), some (.ref due), some v, some (.ref Hs), some (.int j), some (.int tw), none, none] ∧ H' = H6 ∧ (isH n (.int tw) = false ∨ (j % 2 = 1 ∧ V.int tw = .int (hsAt x y g k (j - 1))))) ?_ fun u kk => ?_
    rotate_left
    · refine ⟨_, rfl, .inl ⟨_, rfl, _, _, rfl, rfl, (by show (0 : Int) < 2; decide), rfl, _, rfl, ite2 (fun hc => ?_) fun hc => ?_⟩⟩
      · refine ⟨_, rfl, net, _, _, _, rfl, rfl, SqT.of net6, at_of (j := 0) rfl rfl, _, _, rfl, rfl, kk _ _ ⟨(n : Int) + 9, rfl, rfl, .inl ?_⟩⟩
        show (decide (0 ≤ (n : Int) + 9) && decide ((n : Int) + 9 < n)) = false
        rw [show decide ((n : Int) + 9 < n) = false from decide_eq_false (by omega), Bool.and_false]
      · have hj : j % 2 = 1 := by
          have : ¬ ((j : Int) % 2 = 0) := fun z => hc (decide_eq_true (congrArg V.int z))
          omega
        exact kk _ _ ⟨tw0, rfl, rfl, .inr ⟨hj, congrArg V.int (htw1 hj)⟩⟩
    rintro σ Hx ⟨tw, rfl, rfl, htw⟩
    -- odd
    refine ⟨_, rfl, net, _, _, _, rfl, rfl, SqT.of net6, at_of (j := 0) rfl rfl, _, rfl, by show 1 ≤ sizeLine; decide, fun tb htb => ⟨by show 1 ≤ sizeLine; decide, fun lb hlb => ⟨_, rfl, _, rfl, by show 10 ≤ sizeLine; decide, fun Oe hOe => ?_⟩⟩⟩
    obtain ⟨b6, o6, c6, hpp6, _⟩ := id hp6
    have s7 := (same_new (o := .tup [.int 0]) htb).trans ((same_new (o := .lst [.int 0]) hlb).trans (same_new (o := .lst [.int n, .int (-1), .bl true, .bl false, .non, .str "0", .ref tb, .ref lb, .int tw, .int tw]) hOe))
    have nlb : lb ≠ p := (ne_of_none ((same_new (o := .tup [.int 0]) htb) _ _ hpp6) hlb).symm
    have ntb : tb ≠ p := (ne_of_none hpp6 htb).symm
    have nOe : Oe ≠ p := (ne_of_none ((same_new (o := .lst [.int 0]) hlb) _ _ ((same_new (o := .tup [.int 0]) htb) _ _ hpp6)) hOe).symm
    have tb7 : (upd (upd (upd Hx tb (.tup [.int 0])) lb (.lst [.int 0])) Oe (.lst [.int n, .int (-1), .bl true, .bl false, .non, .str "0", .ref tb, .ref lb, .int tw, .int tw])) tb = some (.tup [.int 0]) := same_new hOe _ _ (same_new hlb _ _ upd_same)
    have lb7 : (upd (upd (upd Hx tb (.tup [.int 0])) lb (.lst [.int 0])) Oe (.lst [.int n, .int (-1), .bl true, .bl false, .non, .str "0", .ref tb, .ref lb, .int tw, .int tw])) lb = some (.lst [.int 0]) := same_new hOe _ _ upd_same
    have Oe7 : (upd (upd (upd Hx tb (.tup [.int 0])) lb (.lst [.int 0])) Oe (.lst [.int n, .int (-1), .bl true, .bl false, .non, .str "0", .ref tb, .ref lb, .int tw, .int tw])) Oe = some (.lst [.int n, .int (-1), .bl true, .bl false, .non, .str "0", .ref tb, .ref lb, .int tw, .int tw]) := upd_same
    have hp7 := hp6.mono s7
    have Hs7 := s7 _ _ Hs6
    generalize upd (upd (upd Hx tb (.tup [.int 0])) lb (.lst [.int 0])) Oe (.lst [.int n, .int (-1), .bl true, .bl false, .non, .str "0", .ref tb, .ref lb, .int tw, .int tw]) = H7 at s7 tb7 lb7 Oe7 hp7 Hs7 ⊢
    refine ⟨_, rfl, p, _, rfl, hp7, by decide, by decide, fun i H8 i0 i10 hp8 s8 => ?_⟩
    have odd : ∃ v t, atI [.int n, .int (-1), .bl true, .bl false, .non, .str "0", .ref tb, .ref lb, .int tw, .int tw] i = some v ∧ Kn H8 v t ∧ v ≠ .ref p ∧ (isH n v = false ∨ (j % 2 = 1 ∧ v = .int (hsAt x y g k (j - 1)))) := by
      have : i = 0 ∨ i = 1 ∨ i = 2 ∨ i = 3 ∨ i = 4 ∨ i = 5 ∨ i = 6 ∨ i = 7 ∨ i = 8 ∨ i = 9 := by omega
      rcases this with rfl | rfl | rfl | rfl | rfl | rfl | rfl | rfl | rfl | rfl
      · refine ⟨_, _, at_of (j := 0) rfl rfl, .int n, (fun z => by cases z), .inl ?_⟩
        show (decide (0 ≤ (n : Int)) && decide ((n : Int) < n)) = false
        rw [show decide ((n : Int) < n) = false from decide_eq_false (by omega), Bool.and_false]
      · exact ⟨_, _, at_of (j := 1) rfl rfl, .int (-1), (fun z => by cases z), .inl rfl⟩
      · exact ⟨_, _, at_of (j := 2) rfl rfl, .bl true, (fun z => by cases z), .inl rfl⟩
      · exact ⟨_, _, at_of (j := 3) rfl rfl, .bl false, (fun z => by cases z), .inl rfl⟩
      · exact ⟨_, _, at_of (j := 4) rfl rfl, .non, (fun z => by cases z), .inl rfl⟩
      · exact ⟨_, _, at_of (j := 5) rfl rfl, .str _, (fun z => by cases z), .inl rfl⟩
      · exact ⟨_, _, at_of (j := 6) rfl rfl, .tup (tup_sx hp7 s8 tb7), (fun z => ntb (V.ref.inj z)), .inl rfl⟩
      · exact ⟨_, _, at_of (j := 7) rfl rfl, .lst (s8 _ _ nlb lb7), (fun z => nlb (V.ref.inj z)), .inl rfl⟩
      · exact ⟨_, _, at_of (j := 8) rfl rfl, .int tw, (fun z => by cases z), htw⟩
      · exact ⟨_, _, at_of (j := 9) rfl rfl, .int tw, (fun z => by cases z), htw⟩
    obtain ⟨v2, t2, hv2, kv2, nv2, bad⟩ := odd
    refine ⟨Oe, _, _, v2, rfl, rfl, SqL.of (s8 _ _ nOe Oe7), hv2, ?_⟩
    have Hs8 := s8 _ _ nHs Hs7
    have sx8 : SX p H H8 := sx6.trans ((SX.of s7).trans s8)
    clear tb7 lb7 Oe7 hv2 htw net6
    -- bent
    refine ⟨_, rfl, Hs, _, rfl, .inl (SqL.of Hs8), fun Bn hBn => ?_⟩
    obtain ⟨b8, o8, c8, hpp8, _⟩ := id hp8
    have nBn : Bn ≠ p := (ne_of_none hpp8 hBn).symm
    refine ⟨_, rfl, _, rfl, _, rfl, Bn, _, _, j, rfl, rfl, upd_same, ix4 j4, ?_⟩
    have s9 := same_upd (o := .lst ([V.int x, .int y, .int g, .int k].set j v2)) hBn (same_new (o := .lst [.int x, .int y, .int g, .int k]) hBn)
    have B9 : (upd (upd H8 Bn (.lst [.int x, .int y, .int g, .int k])) Bn (.lst ([V.int x, .int y, .int g, .int k].set j v2))) Bn = some (.lst ([V.int x, .int y, .int g, .int k].set j v2)) := upd_same
    generalize upd (upd H8 Bn (.lst [.int x, .int y, .int g, .int k])) Bn (.lst ([V.int x, .int y, .int g, .int k].set j v2)) = H9 at s9 B9 ⊢
    have hp9 := hp8.mono s9
    have Hs9 := s9 _ _ Hs8
    have nHsB : Hs ≠ Bn := ne_of_none Hs8 hBn
    dsimp only [gName, List.set]
    refine seqJ (fun σ' H' => ∃ u : Bool, (u = true → j < 3) ∧ σ' = [some (.ref p), some (.ref net), some (.ref pl), some (.ref due), some v2, some (.ref Hs), some (.int j), some (.int tw), some (.ref Bn), none] ∧ StA H' p ∧ (∀ b o, b ≠ p → b ≠ Bn → H9 b = some o → H' b = some o) ∧ H' Bn = some (.lst (if u = true then ([V.int x, .int y, .int g, .int k].set j v2).set 3 .non else [V.int x, .int y, .int g, .int k].set j v2))) ?_ fun u kk => ?_
    rotate_left
    · refine ⟨_, rfl, _, _, rfl, rfl, _, rfl, ite2 (fun hc => ?_) fun hc => ?_⟩
      · refine ⟨_, rfl, p, _, rfl, hp9, by decide, by decide, fun dr H10 d0 d1 hp10 s10 => ⟨rfl, _, rfl, ite2 (fun hd => ?_) fun hd => ?_⟩⟩
        · have hj : j < 3 := by have := of_decide_eq_true hc; omega
          refine ⟨_, rfl, Bn, _, _, 3, rfl, rfl, s10 _ _ nBn B9, by rw [List.length_set]; rfl, ?_⟩
          exact kk _ _ ⟨true, fun _ => hj, rfl, hp10.upd nBn.symm, fun b o n1 n2 e => by rw [upd_ne n2]; exact s10 _ _ n1 e, upd_same⟩
        · exact kk _ _ ⟨false, (fun z => by cases z), rfl, hp10, fun b o n1 n2 e => s10 _ _ n1 e, s10 _ _ nBn B9⟩
      · exact kk _ _ ⟨false, (fun z => by cases z), rfl, hp9, fun b o n1 n2 e => e, B9⟩
    rintro σ H10 ⟨u, hu, rfl, hp10, s10, B10⟩
    obtain ⟨b0, b1, b2, b3, eb, esh, mb⟩ := bent_word N j4 bad hu
    rw [eb] at B10
    have hBn0 : H Bn = none := by
      cases e : H Bn with
      | none => rfl
      | some o => have := sx8 _ _ nBn e; rw [hBn] at this; cases this
    have sx10 : SX p H H10 := fun b o nb e => s10 _ _ nb (ne_of_none e hBn0) (s9 _ _ (sx8 _ _ nb e))
    have Hs10 := s10 _ _ nHs nHsB Hs9
    have kv10 : Kn H10 v2 t2 := kv2.ext fun q o e h => s10 _ _ (fun z => nv2 (by rw [e, z])) (ne_of_none h hBn) (s9 _ _ h)
    have kb : ∀ b ∈ [b0, b1, b2, b3], ∃ t, Kn H10 b t := fun b hb => by
      rcases mb b hb with ⟨i, rfl⟩ | rfl | rfl
      · exact ⟨_, .int i⟩
      · exact ⟨_, kv10⟩
      · exact ⟨_, .non⟩
    -- due_word
    refine ⟨by show 4 ≤ sizeLine; decide, fun Wl hWl => ⟨_, rfl, Wl, _, _, _, rfl, rfl, SqL.of upd_same, word_at j4, _, rfl, by show 3 ≤ sizeLine; decide, fun dw hdw => ?_⟩⟩
    have s11 := (same_new (o := .lst [.str "here", .str "there", .str "payer", .str "payee"]) hWl).trans (same_new (o := .tup [.str "refused", .str (wordAt j), .int (-1)]) hdw)
    have dw11 : (upd (upd H10 Wl (.lst [.str "here", .str "there", .str "payer", .str "payee"])) dw (.tup [.str "refused", .str (wordAt j), .int (-1)])) dw = some (.tup (refT (wordAt j))) := upd_same
    generalize upd (upd H10 Wl (.lst [.str "here", .str "there", .str "payer", .str "payee"])) dw (.tup [.str "refused", .str (wordAt j), .int (-1)]) = H11 at s11 dw11 ⊢
    have B11 := s11 _ _ B10
    have sx11 : SX p H H11 := sx10.trans (SX.of s11)
    obtain ⟨c0, h0⟩ := kb b0 (by simp)
    obtain ⟨c1, h1⟩ := kb b1 (by simp)
    obtain ⟨c2, h2⟩ := kb b2 (by simp)
    obtain ⟨c3, h3⟩ := kb b3 (by simp)
    have web11 : Web H11 net n L := ⟨q, tup_sx hp sx11 hn1, LTup.sx hp sx11 hn2⟩
    refine ⟨_, rfl, _, rfl, Bn, _, _, b0, rfl, rfl, SqL.of B11, at_of (j := 0) rfl rfl, _, rfl, Bn, _, _, b1, rfl, rfl, SqL.of B11, at_of (j := 1) rfl rfl, _, rfl, Bn, _, _, b2, rfl, rfl, SqL.of B11, at_of (j := 2) rfl rfl, _, rfl, Bn, _, _, b3, rfl, rfl, SqL.of B11, at_of (j := 3) rfl rfl, ?_⟩
    refine ⟨net, n, L, b0, b1, b2, b3, c0, c1, c2, c3, rfl, web11, N.lnok, h0.mono s11, h1.mono s11, h2.mono s11, h3.mono s11, ?_⟩
    rw [esh]
    refine fun H12 r2 s12 e12 => ⟨_, rfl, _, _, rfl, .inr ⟨r2, dw, refT (wordAt j), rfl, rfl, e12, s12 _ _ dw11, sc_ref _, by show 3 ≤ 100; decide⟩, fun H13 s13 => ⟨_, rfl, iteF ?_⟩⟩
    have s10d := s11.trans (s12.trans s13)
    have sx13 : SX p H H13 := sx10.trans (SX.of s10d)
    have Hs13 := s10d _ _ Hs10
    have web13 : Web H13 net n L := ⟨q, tup_sx hp sx13 hn1, LTup.sx hp sx13 hn2⟩
    refine ⟨_, rfl, _, rfl, Hs, _, _, _, rfl, rfl, SqL.of Hs13, at_of (j := 0) rfl rfl, _, rfl, Hs, _, _, _, rfl, rfl, SqL.of Hs13, at_of (j := 1) rfl rfl, _, rfl, Hs, _, _, _, rfl, rfl, SqL.of Hs13, at_of (j := 2) rfl rfl, _, rfl, Hs, _, _, _, rfl, rfl, SqL.of Hs13, at_of (j := 3) rfl rfl, ?_⟩
    refine ⟨net, n, L, _, _, _, _, _, _, _, _, rfl, web13, N.lnok, .int x, .int y, .int g, .int k, ?_⟩
    rw [N.shE]
    intro x' y' g' k' h1 h2 h3 h4 H14 r14 s14 e14
    cases h1
    cases h2
    cases h3
    cases h4
    refine ⟨_, rfl, _, _, rfl, .inr ⟨r14, due, _, rfl, rfl, e14, tup_sx hp (sx13.trans (SX.of s14)) hdue, sc_iv _, by show 4 ≤ 100; decide⟩, fun H15 s15 => ?_⟩
    have sl := s10d.trans (s14.trans s15)
    exact q0 _ (hp10.mono sl) (sx10.trans (SX.of sl))
end
end K36
-- text D24
set_option maxRecDepth 100000
set_option maxHeartbeats 4000000
namespace K36
open PySem PySem.Spec PyProof.Rows L2
/-! ### law -/
theorem Ap_flip (a b : Int) (ps : List (Int × Int)) (L : List Ln) (f : Int → Int) : Ap ((b, a) :: ps) L f = Ap ((a, b) :: ps) L f := by
  show (if f b = f a then 0 else Ap ps L (mrg f b a)) = if f a = f b then 0 else Ap ps L (mrg f a b)
  by_cases c : f a = f b
  · rw [if_pos c, if_pos c.symm]
  · rw [if_neg c, if_neg fun z => c z.symm]
    exact Ap_kerOn (S := fun _ => True) ps L (mrg_comm f b a) (fun _ _ => ⟨trivial, trivial⟩) fun _ _ => ⟨trivial, trivial⟩
theorem form4_flip (L : List Ln) (x y g k : Int) : form4 L y x k g = form4 L x y g k := by
  unfold form4
  have e : Ap [(y, x), (k, g)] L id = Ap [(x, y), (g, k)] L id := by
    rw [Ap_flip x y]
    show (if id x = id y then 0 else Ap [(k, g)] L (mrg id x y)) = if id x = id y then 0 else Ap [(g, k)] L (mrg id x y)
    rw [Ap_flip g k]
  rw [Ap_flip g k, Ap_flip x y [], e]
section
variable {P : Program} {w : World} {K : PySem.W.Frag} {mg : PySem.Str → Option Value} {base : Heap}
def spLaw (K : PySem.W.Frag) : L2.Sp := fun vs H Q _ => ∃ (a : Addr) (ns : List Int), vs = [.ref a] ∧ SqL K H a (ns.map V.int) ∧ ns.length ≤ 63 ∧ ∀ H', Q (.bl true) H'
set_option maxHeartbeats 64000000 in
theorem ok_law (T : Tx K mg) : FnOk P w K mg base CX0 12 (T.f 47) (T.fd 47) ["_law_script"] (spLaw K) := by
  refine T.d_law.F.ok sc_law (fun vs H Q E h => ?_) (fun cdv A outer s H vs Q E hr h => ?_)
  · obtain ⟨a, ns, rfl, _⟩ := h
    rfl
  · obtain ⟨a, ns, rfl, ha, hl, q0⟩ := h
    refine ⟨_, 
      (pss_cons (ps_set (i := 1) sc_law.nd rfl (Or.inl rfl) (pe_call (ok_Lstart T) (hr.mono (by decide)) (by rfl) T.d_Lstart.g T.d_Lstart.k T.d_Lstart.b .nil pass0 (pa_cons (pv 0) pa_nil)))
      (pss_cons (ps_set (i := 2) sc_law.nd rfl (Or.inl rfl) (pe_ix ix_list (pe_lst (pa_cons pe_int (pa_cons pe_int (pa_cons pe_int (pa_cons pe_int (pa_cons pe_int (pa_cons pe_int (pa_cons pe_int (pa_cons pe_int (pa_cons pe_int (pa_cons pe_int (pa_cons pe_int (pa_cons pe_int (pa_cons pe_int (pa_cons pe_int (pa_cons pe_int (pa_cons pe_int pa_nil))))))))))))))))) (pe_call (ok_Ldraw T) (hr.mono (by decide)) (by rfl) T.d_Ldraw.g T.d_Ldraw.k T.d_Ldraw.b .nil pass0 (pa_cons (pv 1) (pa_cons pe_int pa_nil))) (fun _ _ => rfl)))
      (pss_cons (ps_set (i := 3) sc_law.nd rfl (Or.inl rfl) (pe_cmpR op_eq (pe_call (ok_Ldraw T) (hr.mono (by decide)) (by rfl) T.d_Ldraw.g T.d_Ldraw.k T.d_Ldraw.b .nil pass0 (pa_cons (pv 1) (pa_cons pe_int pa_nil))) pe_int (nomark _)))
      (pss_cons (ps_set (i := 4) sc_law.nd rfl (Or.inl rfl) (pe_tup (pa_cons (pv 2) (pa_cons (pe_call (ok_Llines T) (hr.mono (by decide)) (by rfl) T.d_Llines.g T.d_Llines.k T.d_Llines.b .nil pass0 (pa_cons (pv 1) (pa_cons (pv 2) (pa_cons (pv 3) pa_nil)))) pa_nil))))
      (pss_cons (ps_set (i := 5) sc_law.nd rfl (Or.inl rfl) (pe_call (ok_Ldraw T) (hr.mono (by decide)) (by rfl) T.d_Ldraw.g T.d_Ldraw.k T.d_Ldraw.b .nil pass0 (pa_cons (pv 1) (pa_cons (pv 2) pa_nil))))
      (pss_cons (ps_set (i := 6) sc_law.nd rfl (Or.inl rfl) (pe_op op_mod (pe_callTy call_int1 (by rfl) T.n_int (by decide +kernel) (pa_cons (pe_op op_add (pe_op op_add (pv 5) pe_int) (pe_call (ok_Ldraw T) (hr.mono (by decide)) (by rfl) T.d_Ldraw.g T.d_Ldraw.k T.d_Ldraw.b .nil pass0 (pa_cons (pv 1) (pa_cons (pe_op op_sub (pv 2) pe_int) pa_nil)))) pa_nil)) (pv 2)))
      (pss_cons (ps_set (i := 7) sc_law.nd rfl (Or.inl rfl) (pe_call (ok_Ldraw T) (hr.mono (by decide)) (by rfl) T.d_Ldraw.g T.d_Ldraw.k T.d_Ldraw.b .nil pass0 (pa_cons (pv 1) (pa_cons (pv 2) pa_nil))))
      (pss_cons (ps_set (i := 8) sc_law.nd rfl (Or.inl rfl) (pe_op op_mod (pe_callTy call_int1 (by rfl) T.n_int (by decide +kernel) (pa_cons (pe_op op_add (pe_op op_add (pv 7) pe_int) (pe_call (ok_Ldraw T) (hr.mono (by decide)) (by rfl) T.d_Ldraw.g T.d_Ldraw.k T.d_Ldraw.b .nil pass0 (pa_cons (pv 1) (pa_cons (pe_op op_sub (pv 2) pe_int) pa_nil)))) pa_nil)) (pv 2)))
      (pss_cons (ps_if (pt_cmpR op_eq (pe_call (ok_Ldraw T) (hr.mono (by decide)) (by rfl) T.d_Ldraw.g T.d_Ldraw.k T.d_Ldraw.b .nil pass0 (pa_cons (pv 1) (pa_cons pe_int pa_nil))) pe_int (nomark _)) 
          (pss_one (ps_asg (pe_ix ix_list (pe_lst (pa_cons (pe_tup (pa_cons (pv 5) (pa_cons (pv 6) pa_nil))) (pa_cons (pe_tup (pa_cons (pv 6) (pa_cons (pv 5) pa_nil))) pa_nil))) (pe_call (ok_Ldraw T) (hr.mono (by decide)) (by rfl) T.d_Ldraw.g T.d_Ldraw.k T.d_Ldraw.b .nil pass0 (pa_cons (pv 1) (pa_cons pe_int pa_nil))) (fun _ _ => rfl)) (pg_tup rfl (pgs_cons (pg_name (i := 7) sc_law.nd rfl (Or.inl rfl)) (pgs_cons (pg_name (i := 8) sc_law.nd rfl (Or.inl rfl)) pgs_nil))))) pss_nil)
      (pss_cons (ps_set (i := 9) sc_law.nd rfl (Or.inl rfl) (pe_lst (pa_cons (pe_tup (pa_cons (pv 5) (pa_cons (pv 6) pa_nil))) (pa_cons (pe_tup (pa_cons (pv 7) (pa_cons (pv 8) pa_nil))) pa_nil))))
      (pss_cons (ps_set (i := 10) sc_law.nd rfl (Or.inl rfl) (pe_call (ok_Lforests T) (hr.mono (by decide)) (by rfl) T.d_Lforests.g T.d_Lforests.k T.d_Lforests.b .nil pass0 (pa_cons (pv 2) (pa_cons (pe_ix ix_tup (pv 4) pe_int (fun _ _ => rfl)) pa_nil))))
      (pss_cons (ps_set (i := 11) sc_law.nd rfl (Or.inl rfl) (pe_call (ok_Lapart T) (hr.mono (by decide)) (by rfl) T.d_Lapart.g T.d_Lapart.k T.d_Lapart.b .nil pass0 (pa_cons (pv 10) (pa_cons (pe_lst (pa_cons (pe_ix ix_list (pv 9) pe_int (fun _ _ => rfl)) pa_nil)) pa_nil))))
      (pss_cons (ps_set (i := 12) sc_law.nd rfl (Or.inl rfl) (pe_call (ok_Lapart T) (hr.mono (by decide)) (by rfl) T.d_Lapart.g T.d_Lapart.k T.d_Lapart.b .nil pass0 (pa_cons (pv 10) (pa_cons (pv 9) pa_nil))))
      (pss_cons (ps_set (i := 13) sc_law.nd rfl (Or.inl rfl) (pe_tup (pa_cons (pv 11) (pa_cons (pv 12) (pa_cons (pe_call (ok_Lapart T) (hr.mono (by decide)) (by rfl) T.d_Lapart.g T.d_Lapart.k T.d_Lapart.b .nil pass0 (pa_cons (pv 10) (pa_cons (pe_lst pa_nil) pa_nil))) (pa_cons (pe_call (ok_Lapart T) (hr.mono (by decide)) (by rfl) T.d_Lapart.g T.d_Lapart.k T.d_Lapart.b .nil pass0 (pa_cons (pv 10) (pa_cons (pe_lst (pa_cons (pe_ix ix_list (pv 9) pe_int (fun _ _ => rfl)) pa_nil)) pa_nil))) pa_nil))))))
      (pss_cons (ps_if (pt_not (pt_val (pe_call (ok_Lsame T) (hr.mono (by decide)) (by rfl) T.d_Lsame.g T.d_Lsame.k T.d_Lsame.b .nil pass0 (pa_cons (pe_call (ok_shareform T) (hr.mono (by decide)) (by rfl) T.d_shareform.g T.d_shareform.k T.d_shareform.b .nil passL (pa_cons (pv 4) (pa_cons (pv 5) (pa_cons (pv 6) (pa_cons (pv 7) (pa_cons (pv 8) pa_nil)))))) (pa_cons (pv 13) pa_nil))))) 
          (pss_one (ps_ret pe_bl)) pss_nil)
      (pss_cons (ps_if (pt_not (pt_val (pe_call (ok_Lsame T) (hr.mono (by decide)) (by rfl) T.d_Lsame.g T.d_Lsame.k T.d_Lsame.b .nil pass0 (pa_cons (pe_callK0 (ok_shareform T) (hr.mono (by decide)) (by rfl) T.d_shareform.g T.d_shareform.k (kb_shareform T) passL (pk_cons (pv 7) (pk_cons (pv 8) (pk_cons (pv 5) (pk_cons (pv 6) (pk_cons (pv 4) pk_nil)))))) (pa_cons (pv 13) pa_nil))))) 
          (pss_one (ps_ret pe_bl)) pss_nil)
      (pss_cons (ps_if (pt_not (pt_val (pe_call (ok_Lroomsright T) (hr.mono (by decide)) (by rfl) T.d_Lroomsright.g T.d_Lroomsright.k T.d_Lroomsright.b .nil pass0 (pa_cons (pv 1) (pa_cons (pv 4) (pa_cons (pv 9) (pa_cons (pv 13) (pa_cons (pv 3) pa_nil)))))))) 
          (pss_one (ps_ret pe_bl)) pss_nil)
      (pss_one (ps_ret (pe_and (pe_call (ok_Lkindsright T) (hr.mono (by decide)) (by rfl) T.d_Lkindsright.g T.d_Lkindsright.k T.d_Lkindsright.b .nil pass0 (pa_cons (pv 1) (pa_cons (pv 13) pa_nil))) (pe_one (pe_call (ok_Lrefusalsright T) (hr.mono (by decide)) (by rfl) T.d_Lrefusalsright.g T.d_Lrefusalsright.k T.d_Lrefusalsright.b .nil pass0 (pa_cons (pv 1) (pa_cons (pv 4) (pa_cons (pv 9) (pa_cons (pv 13) pa_nil)))))))))))))))))))))))))), ?_⟩
    refine ⟨_, rfl, a, ns, rfl, ha, hl, fun H1 p s1 n1 hp1 => ?_⟩
    -- size
    refine ⟨by show 16 ≤ sizeLine; decide, fun Sz hSz => ⟨_, rfl, p, _, rfl, hp1.mono (same_new hSz), by decide, by decide, fun i H2 i0 i1 hp2 s2 => ?_⟩⟩
    obtain ⟨b1, o1, c1, hpp1, _⟩ := id hp1
    have nSz : Sz ≠ p := (ne_of_none hpp1 hSz).symm
    have size : ∃ n : Nat, 2 ≤ n ∧ n ≤ 8 ∧ atI [V.int 2, .int 3, .int 4, .int 5, .int 2, .int 3, .int 4, .int 5, .int 3, .int 4, .int 5, .int 3, .int 4, .int 5, .int 6, .int 8] i = some (.int n) := by
      have : i = 0 ∨ i = 1 ∨ i = 2 ∨ i = 3 ∨ i = 4 ∨ i = 5 ∨ i = 6 ∨ i = 7 ∨ i = 8 ∨ i = 9 ∨ i = 10 ∨ i = 11 ∨ i = 12 ∨ i = 13 ∨ i = 14 ∨ i = 15 := by omega
      rcases this with rfl | rfl | rfl | rfl | rfl | rfl | rfl | rfl | rfl | rfl | rfl | rfl | rfl | rfl | rfl | rfl
      · exact ⟨2, by decide, by decide, at_of (j := 0) rfl rfl⟩
      · exact ⟨3, by decide, by decide, at_of (j := 1) rfl rfl⟩
      · exact ⟨4, by decide, by decide, at_of (j := 2) rfl rfl⟩
      · exact ⟨5, by decide, by decide, at_of (j := 3) rfl rfl⟩
      · exact ⟨2, by decide, by decide, at_of (j := 4) rfl rfl⟩
      · exact ⟨3, by decide, by decide, at_of (j := 5) rfl rfl⟩
      · exact ⟨4, by decide, by decide, at_of (j := 6) rfl rfl⟩
      · exact ⟨5, by decide, by decide, at_of (j := 7) rfl rfl⟩
      · exact ⟨3, by decide, by decide, at_of (j := 8) rfl rfl⟩
      · exact ⟨4, by decide, by decide, at_of (j := 9) rfl rfl⟩
      · exact ⟨5, by decide, by decide, at_of (j := 10) rfl rfl⟩
      · exact ⟨3, by decide, by decide, at_of (j := 11) rfl rfl⟩
      · exact ⟨4, by decide, by decide, at_of (j := 12) rfl rfl⟩
      · exact ⟨5, by decide, by decide, at_of (j := 13) rfl rfl⟩
      · exact ⟨6, by decide, by decide, at_of (j := 14) rfl rfl⟩
      · exact ⟨8, by decide, by decide, at_of (j := 15) rfl rfl⟩
    obtain ⟨n, n2, n8, hn⟩ := size
    refine ⟨Sz, _, _, _, rfl, rfl, SqL.of (s2 _ _ nSz upd_same), hn, ?_⟩
    clear s2 hSz nSz hpp1 hp1 n1 s1 hn
    -- far
    refine ⟨_, rfl, p, _, rfl, hp2, by decide, by decide, fun fd H3 f0 f1 hp3 s3 => ⟨rfl, ?_⟩⟩
    obtain ⟨far, hfar⟩ : ∃ far : Bool, far = decide (V.int fd = V.int 0) := ⟨_, rfl⟩
    rw [← hfar]
    clear s3 hfar hp2
    -- net
    refine ⟨_, rfl, _, rfl, _, rfl, _, rfl, p, n, far, rfl, hp3, n2, n8, fun H4 q L hp4 s4 hq gL l8 => ⟨by show 2 ≤ sizeLine; decide, fun net hnet => ?_⟩⟩
    have net5 : (upd H4 net (.tup [.int n, .ref q])) net = some (.tup [.int n, .ref q]) := upd_same
    have hq5 := hq.mono (same_new (o := .tup [.int n, .ref q]) hnet)
    have hp5 := hp4.mono (same_new (o := .tup [.int n, .ref q]) hnet)
    have w5 : Web (upd H4 net (.tup [.int n, .ref q])) net n L := ⟨q, net5, hq5⟩
    generalize upd H4 net (.tup [.int n, .ref q]) = H5 at net5 hq5 hp5 w5 ⊢
    clear s4 hp3 hp4 hq hnet
    have n64 : (n : Int).natAbs < 2 ^ 64 := Nat.lt_of_le_of_lt (show (n : Int).natAbs ≤ 8 by omega) (by decide)
    have m64 : ((n : Int) - 1).natAbs < 2 ^ 64 := Nat.lt_of_le_of_lt (show ((n : Int) - 1).natAbs ≤ 8 by omega) (by decide)
    -- left, right
    refine ⟨_, rfl, _, rfl, p, _, rfl, hp5, by omega, n64, fun x H6 x0 x1 hp6 s6 => ?_⟩
    refine ⟨_, rfl, _, _, rfl, rfl, _, rfl, _, rfl, _, _, rfl, rfl, p, _, rfl, hp6, by omega, m64, fun dy H7 dy0 dy1 hp7 s7 => ⟨_, _, rfl, rfl, .inl ⟨_, rfl, _, rfl, _, _, rfl, rfl, by show (0 : Int) < n; omega, ?_⟩⟩⟩
    obtain ⟨y0, y1, xy⟩ := shift_ok x0 x1 dy0 dy1
    dsimp only [gName, List.set, L2.start]
    generalize (x + 1 + dy) % (n : Int) = y at y0 y1 xy ⊢
    have sx7 := s6.trans s7
    clear s6 s7 hp6
    -- giver, taker
    refine ⟨_, rfl, _, rfl, p, _, rfl, hp7, by omega, n64, fun g H8 g0 g1 hp8 s8 => ?_⟩
    refine ⟨_, rfl, _, _, rfl, rfl, _, rfl, _, rfl, _, _, rfl, rfl, p, _, rfl, hp8, by omega, m64, fun dk H9 dk0 dk1 hp9 s9 => ⟨_, _, rfl, rfl, .inl ⟨_, rfl, _, rfl, _, _, rfl, rfl, by show (0 : Int) < n; omega, ?_⟩⟩⟩
    obtain ⟨k0, k1, gk⟩ := shift_ok g0 g1 dk0 dk1
    dsimp only [gName, List.set]
    generalize (g + 1 + dk) % (n : Int) = k at k0 k1 gk ⊢
    have sx9 := sx7.trans (s8.trans s9)
    clear s8 s9 hp8 hp7 sx7
    refine seqJ (fun σ' H' => ∃ g k : Int, σ' = [some (.ref a), some (.ref p), some (.int n), some (.bl far), some (.ref net), some (.int x), some (.int y), some (.int g), some (.int k), none, none, none, none, none] ∧ On n g ∧ On n k ∧ g ≠ k ∧ StA H' p ∧ SX p H5 H') ?_ fun u kk => ?_
    rotate_left
    · refine ⟨_, rfl, p, _, rfl, hp9, by decide, by decide, fun dr H10 d0 d1 hp10 s10 => ⟨rfl, _, rfl, ite2 (fun hc => ?_) fun hc => ?_⟩⟩
      · refine ⟨_, rfl, _, rfl, by show 2 ≤ sizeLine; decide, fun ta hta => ⟨_, rfl, _, rfl, by show 2 ≤ sizeLine; decide, fun tb htb => ⟨by show 2 ≤ sizeLine; decide, fun Pw hPw => ?_⟩⟩⟩
        obtain ⟨b1, o1, c1, hpp, _⟩ := id hp10
        have nPw : Pw ≠ p := (ne_of_none ((same_new (o := .tup [.int y, .int x]) htb) _ _ ((same_new (o := .tup [.int x, .int y]) hta) _ _ hpp)) hPw).symm
        have s11 := (same_new (o := .tup [.int x, .int y]) hta).trans ((same_new (o := .tup [.int y, .int x]) htb).trans (same_new (o := .lst [.ref ta, .ref tb]) hPw))
        have ta11 : (upd (upd (upd H10 ta (.tup [.int x, .int y])) tb (.tup [.int y, .int x])) Pw (.lst [.ref ta, .ref tb])) ta = some (.tup [.int x, .int y]) := same_new hPw _ _ (same_new htb _ _ upd_same)
        have tb11 : (upd (upd (upd H10 ta (.tup [.int x, .int y])) tb (.tup [.int y, .int x])) Pw (.lst [.ref ta, .ref tb])) tb = some (.tup [.int y, .int x]) := same_new hPw _ _ upd_same
        have Pw11 : (upd (upd (upd H10 ta (.tup [.int x, .int y])) tb (.tup [.int y, .int x])) Pw (.lst [.ref ta, .ref tb])) Pw = some (.lst [.ref ta, .ref tb]) := upd_same
        have hp11 := hp10.mono s11
        generalize upd (upd (upd H10 ta (.tup [.int x, .int y])) tb (.tup [.int y, .int x])) Pw (.lst [.ref ta, .ref tb]) = H11 at s11 ta11 tb11 Pw11 hp11 ⊢
        refine ⟨_, rfl, p, _, rfl, hp11, by decide, by decide, fun i H12 i0 i1 hp12 s12 => ?_⟩
        have sx12 : SX p H5 H12 := sx9.trans (s10.trans ((SX.of s11).trans s12))
        have : i = 0 ∨ i = 1 := by omega
        rcases this with rfl | rfl
        · refine ⟨Pw, _, _, _, rfl, rfl, SqL.of (s12 _ _ nPw Pw11), at_of (j := 0) rfl rfl, ?_⟩
          refine ⟨ta, _, rfl, SqT.of (tup_sx hp11 s12 ta11), rfl, _, _, rfl, _, _, rfl, rfl, ?_⟩
          exact kk _ _ ⟨x, y, rfl, ⟨x0, x1⟩, ⟨y0, y1⟩, fun z => xy z.symm, hp12, sx12⟩
        · refine ⟨Pw, _, _, _, rfl, rfl, SqL.of (s12 _ _ nPw Pw11), at_of (j := 1) rfl rfl, ?_⟩
          refine ⟨tb, _, rfl, SqT.of (tup_sx hp11 s12 tb11), rfl, _, _, rfl, _, _, rfl, rfl, ?_⟩
          exact kk _ _ ⟨y, x, rfl, ⟨y0, y1⟩, ⟨x0, x1⟩, xy, hp12, sx12⟩
      · exact kk _ _ ⟨g, k, rfl, ⟨g0, g1⟩, ⟨k0, k1⟩, fun z => gk z.symm, hp10, sx9.trans s10⟩
    rintro σ H6 ⟨g, k, rfl, og, ok, gk, hp6, sx6⟩
    have N : NetF n far L x y g k := ⟨gL, l8, n2, n8, ⟨x0, x1⟩, ⟨y0, y1⟩, fun z => xy z.symm, og, ok, gk⟩
    have w6 : Web H6 net n L := ⟨q, tup_sx hp5 sx6 net5, LTup.sx hp5 sx6 hq5⟩
    clear sx6 net5 hq5 hp5 w5
    -- pairs_here
    refine ⟨_, rfl, _, rfl, by show 2 ≤ sizeLine; decide, fun t0 ht0 => ⟨_, rfl, _, rfl, by show 2 ≤ sizeLine; decide, fun t1 ht1 => ⟨by show 2 ≤ sizeLine; decide, fun pl hpl => ?_⟩⟩⟩
    obtain ⟨b1, o1, c1, hpp, _⟩ := id hp6
    have npl : pl ≠ p := (ne_of_none ((same_new (o := .tup [.int g, .int k]) ht1) _ _ ((same_new (o := .tup [.int x, .int y]) ht0) _ _ hpp)) hpl).symm
    have s7 := (same_new (o := .tup [.int x, .int y]) ht0).trans ((same_new (o := .tup [.int g, .int k]) ht1).trans (same_new (o := .lst [.ref t0, .ref t1]) hpl))
    have t07 : (upd (upd (upd H6 t0 (.tup [.int x, .int y])) t1 (.tup [.int g, .int k])) pl (.lst [.ref t0, .ref t1])) t0 = some (.tup [.int x, .int y]) := same_new hpl _ _ (same_new ht1 _ _ upd_same)
    have t17 : (upd (upd (upd H6 t0 (.tup [.int x, .int y])) t1 (.tup [.int g, .int k])) pl (.lst [.ref t0, .ref t1])) t1 = some (.tup [.int g, .int k]) := same_new hpl _ _ upd_same
    have pl7 : (upd (upd (upd H6 t0 (.tup [.int x, .int y])) t1 (.tup [.int g, .int k])) pl (.lst [.ref t0, .ref t1])) pl = some (.lst [.ref t0, .ref t1]) := upd_same
    have hp7 := hp6.mono s7
    have w7 := w6.mono s7
    generalize upd (upd (upd H6 t0 (.tup [.int x, .int y])) t1 (.tup [.int g, .int k])) pl (.lst [.ref t0, .ref t1]) = H7 at s7 t07 t17 pl7 hp7 w7 ⊢
    obtain ⟨q7, wn, wq⟩ := id w7
    -- forests
    refine ⟨_, rfl, _, rfl, net, _, _, _, rfl, rfl, SqT.of wn, at_of (j := 1) rfl rfl, n, q7, L, rfl, wq, N.on, N.rm, n8, by omega, pow_up (Lw_wt N (Int.le_refl 0) (by decide)) (by decide), fun H8 d M s8 d8 ft => ?_⟩
    have n4 : n ≤ 4096 := by omega
    have o1 : ∀ z ∈ [(g, k)], On n z.1 ∧ On n z.2 := fun z hz => by rw [List.mem_singleton.mp hz]; exact ⟨og, ok⟩
    have o0 : ∀ z ∈ [(x, y)], On n z.1 ∧ On n z.2 := fun z hz => by rw [List.mem_singleton.mp hz]; exact ⟨N.x0, N.y0⟩
    have o2 : ∀ z ∈ [(x, y), (g, k)], On n z.1 ∧ On n z.2 := fun z hz => by
      rcases List.mem_cons.mp hz with rfl | hz
      · exact ⟨N.x0, N.y0⟩
      · exact o1 z hz
    have on : ∀ z ∈ ([] : List (Int × Int)), On n z.1 ∧ On n z.2 := fun z hz => (List.not_mem_nil hz).elim
    -- a
    refine ⟨_, rfl, _, rfl, pl, _, _, _, rfl, rfl, SqL.of (s8 _ _ pl7), at_of (j := 1) rfl rfl, by show 1 ≤ sizeLine; decide, fun e he => ?_⟩
    refine ⟨d, e, M, n, [(g, k)], rfl, same_new he _ _ d8, ft.nd, ft.ks, n4, ⟨[t1], upd_same, .cons (same_new he _ _ (s8 _ _ t17)) .nil⟩, o1, fun H9 s9 => ?_⟩
    rw [ft.apart o1]
    have s89 := (same_new he).trans s9
    have s79 := s8.trans s89
    -- b
    refine ⟨_, rfl, _, rfl, d, pl, M, n, [(x, y), (g, k)], rfl, s89 _ _ d8, ft.nd, ft.ks, n4, ⟨[t0, t1], s79 _ _ pl7, .cons (s79 _ _ t07) (.cons (s79 _ _ t17) .nil)⟩, o2, fun H10 s10 => ?_⟩
    rw [ft.apart o2]
    have s810 := s89.trans s10
    have s710 := s79.trans s10
    -- due
    refine ⟨_, rfl, _, rfl, _, rfl, by show 0 ≤ sizeLine; decide, fun e2 he2 => ?_⟩
    refine ⟨d, e2, M, n, [], rfl, same_new he2 _ _ (s810 _ _ d8), ft.nd, ft.ks, n4, ⟨[], upd_same, .nil⟩, on, fun H11 s11 => ?_⟩
    rw [ft.apart on]
    have s1011 := (same_new he2).trans s11
    have s811 := s810.trans s1011
    have s711 := s710.trans s1011
    refine ⟨_, rfl, _, rfl, pl, _, _, _, rfl, rfl, SqL.of (s711 _ _ pl7), at_of (j := 0) rfl rfl, by show 1 ≤ sizeLine; decide, fun e3 he3 => ?_⟩
    refine ⟨d, e3, M, n, [(x, y)], rfl, same_new he3 _ _ (s811 _ _ d8), ft.nd, ft.ks, n4, ⟨[t0], upd_same, .cons (same_new he3 _ _ (s711 _ _ t07)) .nil⟩, o0, fun H12 s12 => ?_⟩
    rw [ft.apart o0]
    have s712 := s711.trans ((same_new he3).trans s12)
    refine ⟨by show 4 ≤ sizeLine; decide, fun due hdue => ?_⟩
    have s13 : Same H7 (upd H12 due (.tup (iv (form4 L x y g k)))) := s712.trans (same_new hdue)
    have due13 : (upd H12 due (.tup (iv (form4 L x y g k)))) due = some (.tup (iv (form4 L x y g k))) := upd_same
    change tSeq _ _ _ _ (upd H12 due (.tup (iv (form4 L x y g k))))
    generalize upd H12 due (.tup (iv (form4 L x y g k))) = H13 at s13 due13 ⊢
    clear s712 s711 s811 s1011 s710 s810 s79 s89 hdue he3 he2 he
    have w13 := w7.mono s13
    -- share_form by place
    refine ⟨_, rfl, _, rfl, _, rfl, _, rfl, _, rfl, net, n, L, _, _, _, _, _, _, _, _, rfl, w13, N.lnok, .int x, .int y, .int g, .int k, ?_⟩
    rw [N.shE]
    intro x' y' g' k' h1 h2 h3 h4 H14 r14 s14 n14 e14
    cases h1
    cases h2
    cases h3
    cases h4
    refine ⟨_, rfl, _, _, rfl, .inr ⟨r14, due, _, rfl, rfl, e14, s14 _ _ due13, sc_iv _, by show 4 ≤ 100; decide⟩, fun H15 s15 => ⟨_, rfl, iteF ?_⟩⟩
    have s1315 := s14.trans s15
    have s15a := s13.trans s1315
    have due15 := s1315 _ _ due13
    -- share_form by names
    have N2 : NetF n far L y x k g := ⟨gL, l8, n2, n8, N.y0, N.x0, fun z => N.xy z.symm, N.k0, N.g0, fun z => N.gk z.symm⟩
    refine ⟨_, rfl, _, rfl, _, rfl, _, rfl, _, rfl, net, n, L, _, _, _, _, _, _, _, _, rfl, w7.mono s15a, N2.lnok, .int y, .int x, .int k, .int g, ?_⟩
    rw [N2.shE]
    intro x' y' g' k' h1 h2 h3 h4 H16 r16 s16 n16 e16
    cases h1
    cases h2
    cases h3
    cases h4
    rw [form4_flip] at e16
    refine ⟨_, rfl, _, _, rfl, .inr ⟨r16, due, _, rfl, rfl, e16, s16 _ _ due15, sc_iv _, by show 4 ≤ 100; decide⟩, fun H17 s17 => ⟨_, rfl, iteF ?_⟩⟩
    have s17a := s15a.trans (s16.trans s17)
    have due17 := s16.trans s17 _ _ due15
    have hp17 := hp7.mono s17a
    have w17 := w7.mono s17a
    have pl17 : PL2 H17 pl x y g k := ⟨t0, t1, s17a _ _ pl7, s17a _ _ t07, s17a _ _ t17⟩
    -- rooms
    refine ⟨_, rfl, _, rfl, _, rfl, _, rfl, _, rfl, p, net, pl, due, far, n, L, x, y, g, k, rfl, hp17, w17, N, pl17, npl, due17, fun H18 hp18 s18 => ⟨_, rfl, iteF ?_⟩⟩
    have due18 := tup_sx hp17 s18 due17
    have r0 : ∀ l ∈ L, 0 ≤ l.2.2 := fun l hl => (N.rm l hl).1
    have bA := ap_le [(g, k)] L id r0
    have bB := ap_le [(x, y), (g, k)] L id r0
    have bC := W_pos L id r0
    have bD1 : 1 ≤ Ap [(x, y)] L id := by
      have e : Ap [(x, y)] L id = W L (mrg id x y) := ap_one (show id x ≠ id y from N.xy)
      rw [e]
      exact W_pos L _ r0
    -- kinds
    refine ⟨_, rfl, _, rfl, p, due, _, _, _, _, rfl, hp18, due18, bA.1, bB.1, bC, bD1, fun H19 hp19 s19 => ⟨_, rfl, iteT ?_⟩⟩
    have sx19 := s18.trans s19
    obtain ⟨q17, wn17, wq17⟩ := w17
    obtain ⟨u0, u1, hl17, hu0, hu1⟩ := pl17
    -- refusals
    exact ⟨_, rfl, _, rfl, _, rfl, _, rfl, p, net, pl, due, far, n, L, x, y, g, k, rfl, hp19, ⟨q17, tup_sx hp17 sx19 wn17, LTup.sx hp17 sx19 wq17⟩, N, ⟨u0, u1, sx19 _ _ npl hl17, tup_sx hp17 sx19 hu0, tup_sx hp17 sx19 hu1⟩, npl, tup_sx hp18 s19 due18, fun H20 _ _ => q0 _⟩
end
end K36
-- text E1
set_option maxRecDepth 100000
set_option maxHeartbeats 4000000
namespace K36
open PySem PySem.Spec PyProof.Rows L2
/-! ### the end -/
theorem df_mk {K : PySem.W.Frag} {h : Heap} {mg : PySem.Str → Option Value} (X : K.In h) (G : h.Ns mainGlobals mg) {x : PySem.Str} {st : Stmt} {f : Addr} {ps : List PySem.Str} {od an : Option Addr} {sl : Array (Option Value)} {oc kV dc pm cd ct : Value}
    (a : PySem.W.nsIn K mainGlobals x = some (some (.ref f))) (l : K.lookup f = some ⟨oc, od, .func (PySem.W.fnOf x x (defArgs st) (defBody st) (defScope st) .none kV dc pm an cd ct), sl⟩) (c : PySem.W.codeIn K cd x = true) (k : PySem.W.keepIn K (.ref f) = true)
    (hb : ∀ (kV doc pm : Value) (an : Option Addr) (cdv ct : Value) (us : List Value), us.length = ps.length → bindArgs (PySem.W.fnOf x x (defArgs st) (defBody st) (defScope st) .none kV doc pm an cdv ct) ⟨us, []⟩ = pure (ps.zip us)) :
    Df K mg x st f (PySem.W.fnOf x x (defArgs st) (defBody st) (defScope st) .none kV dc pm an cd ct) ps := by
  have F := fun_mk (st := st) l c k
  exact ⟨F, PySem.W.mg_of X G a, F.binds hb⟩
theorem exm_two {K : PySem.W.Frag} {S R : Addr} (h1 : PySem.W.subIn K (.ref S) (.type "BaseException") = some true) (h2 : PySem.W.isClsIn K R = true) (h3 : PySem.W.typeIn K (.ref R) = some (.type "type")) (hb : PySem.W.subIn K (.ref R) (.type "BaseException") = some true) (h4 : PySem.W.subIn K (.ref S) (.ref R) = some true) :
    PySem.W.exmOne K (.ref S) (.ref R) = some true := by
  have e1 : (PySem.W.subIn K (.ref R) (.type "BaseException") == some true) = true := by rw [hb] <;> rfl
  have e2 : ((PySem.W.clsIn K R).isSome && PySem.W.typeIn K (.ref R) == some (.type "type")) = true := by
    have h2' : (PySem.W.clsIn K R).isSome = true := h2
    rw [h2', h3] <;> rfl
  show (if (PySem.W.subIn K (.ref R) (.type "BaseException") == some true) = true then (if ((PySem.W.clsIn K R).isSome && PySem.W.typeIn K (.ref R) == some (.type "type")) = true then PySem.W.subIn K (.ref S) (.ref R) else none) else none) = some true
  rw [if_pos e1, if_pos e2]
  exact h4

set_option maxHeartbeats 32000000 in
theorem all_mk {l : PySem.W.OpenLaw} {w : World} {K : PySem.W.Frag} {h : Heap} {mg : PySem.Str → Option Value} {fa f0 f1 f2 f3 f4 f5 f6 f7 f8 f9 f10 f11 f12 f13 f14 f15 f16 f17 f18 f19 f20 f21 f22 f23 f24 f25 f26 f27 f28 f29 f30 f31 f32 f33 f34 f35 f36 f37 f38 f39 f40 f41 f42 f43 f44 f45 f46 f47 fI cN cL cW cP N : Addr} (X : K.In h) (G : h.Ns mainGlobals mg) (hfa : mg "law" = some (.ref fa))
    {nm q : PySem.Str} {bs bm : List Value} {sn : List PySem.Str} {sub : List Value} {ab : Bool} {col : Option Bool} {dd : Option Addr} {m0 m1 m2 m3 m5 : Option Value}
    {od0 od1 od2 od3 od4 od5 od6 od7 od8 od9 od10 od11 od12 od13 od14 od15 od16 od17 od18 od19 od20 od21 od22 od23 od24 od25 od26 od27 od28 od29 od30 od31 od32 od33 od34 od35 od36 od37 od38 od39 od40 od41 od42 od43 od44 od45 od46 od47 an0 an1 an2 an3 an4 an5 an6 an7 an8 an9 an10 an11 an12 an13 an14 an15 an16 an17 an18 an19 an20 an21 an22 an23 an24 an25 an26 an27 an28 an29 an30 an31 an32 an33 an34 an35 an36 an37 an38 an39 an40 an41 an42 an43 an44 an45 an46 an47 odI anI : Option Addr} {sl0 sl1 sl2 sl3 sl4 sl5 sl6 sl7 sl8 sl9 sl10 sl11 sl12 sl13 sl14 sl15 sl16 sl17 sl18 sl19 sl20 sl21 sl22 sl23 sl24 sl25 sl26 sl27 sl28 sl29 sl30 sl31 sl32 sl33 sl34 sl35 sl36 sl37 sl38 sl39 sl40 sl41 sl42 sl43 sl44 sl45 sl46 sl47 slI : Array (Option Value)} {oc0 oc1 oc2 oc3 oc4 oc5 oc6 oc7 oc8 oc9 oc10 oc11 oc12 oc13 oc14 oc15 oc16 oc17 oc18 oc19 oc20 oc21 oc22 oc23 oc24 oc25 oc26 oc27 oc28 oc29 oc30 oc31 oc32 oc33 oc34 oc35 oc36 oc37 oc38 oc39 oc40 oc41 oc42 oc43 oc44 oc45 oc46 oc47 kV0 kV1 kV2 kV3 kV4 kV5 kV6 kV7 kV8 kV9 kV10 kV11 kV12 kV13 kV14 kV15 kV16 kV17 kV18 kV19 kV20 kV21 kV22 kV23 kV24 kV25 kV26 kV27 kV28 kV29 kV30 kV31 kV32 kV33 kV34 kV35 kV36 kV37 kV38 kV39 kV40 kV41 kV42 kV43 kV44 kV45 kV46 kV47 dc0 dc1 dc2 dc3 dc4 dc5 dc6 dc7 dc8 dc9 dc10 dc11 dc12 dc13 dc14 dc15 dc16 dc17 dc18 dc19 dc20 dc21 dc22 dc23 dc24 dc25 dc26 dc27 dc28 dc29 dc30 dc31 dc32 dc33 dc34 dc35 dc36 dc37 dc38 dc39 dc40 dc41 dc42 dc43 dc44 dc45 dc46 dc47 pm0 pm1 pm2 pm3 pm4 pm5 pm6 pm7 pm8 pm9 pm10 pm11 pm12 pm13 pm14 pm15 pm16 pm17 pm18 pm19 pm20 pm21 pm22 pm23 pm24 pm25 pm26 pm27 pm28 pm29 pm30 pm31 pm32 pm33 pm34 pm35 pm36 pm37 pm38 pm39 pm40 pm41 pm42 pm43 pm44 pm45 pm46 pm47 cd0 cd1 cd2 cd3 cd4 cd5 cd6 cd7 cd8 cd9 cd10 cd11 cd12 cd13 cd14 cd15 cd16 cd17 cd18 cd19 cd20 cd21 cd22 cd23 cd24 cd25 cd26 cd27 cd28 cd29 cd30 cd31 cd32 cd33 cd34 cd35 cd36 cd37 cd38 cd39 cd40 cd41 cd42 cd43 cd44 cd45 cd46 cd47 ct0 ct1 ct2 ct3 ct4 ct5 ct6 ct7 ct8 ct9 ct10 ct11 ct12 ct13 ct14 ct15 ct16 ct17 ct18 ct19 ct20 ct21 ct22 ct23 ct24 ct25 ct26 ct27 ct28 ct29 ct30 ct31 ct32 ct33 ct34 ct35 ct36 ct37 ct38 ct39 ct40 ct41 ct42 ct43 ct44 ct45 ct46 ct47 ocI kVI dcI pmI cdI ctI : Value}
    (a0 : PySem.W.nsIn K mainGlobals "is_integer" = some (some (.ref f0))) (l0 : K.lookup f0 = some ⟨oc0, od0, .func (PySem.W.fnOf "is_integer" "is_integer" (defArgs s_isinteger) (defBody s_isinteger) (defScope s_isinteger) .none kV0 dc0 pm0 an0 cd0 ct0), sl0⟩) (c0 : PySem.W.codeIn K cd0 "is_integer" = true) (k0 : PySem.W.keepIn K (.ref f0) = true)
    (a1 : PySem.W.nsIn K mainGlobals "is_number" = some (some (.ref f1))) (l1 : K.lookup f1 = some ⟨oc1, od1, .func (PySem.W.fnOf "is_number" "is_number" (defArgs s_isnumber) (defBody s_isnumber) (defScope s_isnumber) .none kV1 dc1 pm1 an1 cd1 ct1), sl1⟩) (c1 : PySem.W.codeIn K cd1 "is_number" = true) (k1 : PySem.W.keepIn K (.ref f1) = true)
    (a2 : PySem.W.nsIn K mainGlobals "common_divisor" = some (some (.ref f2))) (l2 : K.lookup f2 = some ⟨oc2, od2, .func (PySem.W.fnOf "common_divisor" "common_divisor" (defArgs s_commondivisor) (defBody s_commondivisor) (defScope s_commondivisor) .none kV2 dc2 pm2 an2 cd2 ct2), sl2⟩) (c2 : PySem.W.codeIn K cd2 "common_divisor" = true) (k2 : PySem.W.keepIn K (.ref f2) = true)
    (a3 : PySem.W.nsIn K mainGlobals "is_joining" = some (some (.ref f3))) (l3 : K.lookup f3 = some ⟨oc3, od3, .func (PySem.W.fnOf "is_joining" "is_joining" (defArgs s_isjoining) (defBody s_isjoining) (defScope s_isjoining) .none kV3 dc3 pm3 an3 cd3 ct3), sl3⟩) (c3 : PySem.W.codeIn K cd3 "is_joining" = true) (k3 : PySem.W.keepIn K (.ref f3) = true)
    (a4 : PySem.W.nsIn K mainGlobals "c_bonds" = some (some (.ref f4))) (l4 : K.lookup f4 = some ⟨oc4, od4, .func (PySem.W.fnOf "c_bonds" "c_bonds" (defArgs s_cbonds) (defBody s_cbonds) (defScope s_cbonds) .none kV4 dc4 pm4 an4 cd4 ct4), sl4⟩) (c4 : PySem.W.codeIn K cd4 "c_bonds" = true) (k4 : PySem.W.keepIn K (.ref f4) = true)
    (a5 : PySem.W.nsIn K mainGlobals "c_entered" = some (some (.ref f5))) (l5 : K.lookup f5 = some ⟨oc5, od5, .func (PySem.W.fnOf "c_entered" "c_entered" (defArgs s_centered) (defBody s_centered) (defScope s_centered) .none kV5 dc5 pm5 an5 cd5 ct5), sl5⟩) (c5 : PySem.W.codeIn K cd5 "c_entered" = true) (k5 : PySem.W.keepIn K (.ref f5) = true)
    (a6 : PySem.W.nsIn K mainGlobals "c_merged" = some (some (.ref f6))) (l6 : K.lookup f6 = some ⟨oc6, od6, .func (PySem.W.fnOf "c_merged" "c_merged" (defArgs s_cmerged) (defBody s_cmerged) (defScope s_cmerged) .none kV6 dc6 pm6 an6 cd6 ct6), sl6⟩) (c6 : PySem.W.codeIn K cd6 "c_merged" = true) (k6 : PySem.W.keepIn K (.ref f6) = true)
    (a7 : PySem.W.nsIn K mainGlobals "c_left" = some (some (.ref f7))) (l7 : K.lookup f7 = some ⟨oc7, od7, .func (PySem.W.fnOf "c_left" "c_left" (defArgs s_cleft) (defBody s_cleft) (defScope s_cleft) .none kV7 dc7 pm7 an7 cd7 ct7), sl7⟩) (c7 : PySem.W.codeIn K cd7 "c_left" = true) (k7 : PySem.W.keepIn K (.ref f7) = true)
    (a8 : PySem.W.nsIn K mainGlobals "c_with_bond" = some (some (.ref f8))) (l8 : K.lookup f8 = some ⟨oc8, od8, .func (PySem.W.fnOf "c_with_bond" "c_with_bond" (defArgs s_cwithbond) (defBody s_cwithbond) (defScope s_cwithbond) .none kV8 dc8 pm8 an8 cd8 ct8), sl8⟩) (c8 : PySem.W.codeIn K cd8 "c_with_bond" = true) (k8 : PySem.W.keepIn K (.ref f8) = true)
    (a9 : PySem.W.nsIn K mainGlobals "c_with_house" = some (some (.ref f9))) (l9 : K.lookup f9 = some ⟨oc9, od9, .func (PySem.W.fnOf "c_with_house" "c_with_house" (defArgs s_cwithhouse) (defBody s_cwithhouse) (defScope s_cwithhouse) .none kV9 dc9 pm9 an9 cd9 ct9), sl9⟩) (c9 : PySem.W.codeIn K cd9 "c_with_house" = true) (k9 : PySem.W.keepIn K (.ref f9) = true)
    (a10 : PySem.W.nsIn K mainGlobals "c_without_house" = some (some (.ref f10))) (l10 : K.lookup f10 = some ⟨oc10, od10, .func (PySem.W.fnOf "c_without_house" "c_without_house" (defArgs s_cwithouthouse) (defBody s_cwithouthouse) (defScope s_cwithouthouse) .none kV10 dc10 pm10 an10 cd10 ct10), sl10⟩) (c10 : PySem.W.codeIn K cd10 "c_without_house" = true) (k10 : PySem.W.keepIn K (.ref f10) = true)
    (a11 : PySem.W.nsIn K mainGlobals "c_tables" = some (some (.ref f11))) (l11 : K.lookup f11 = some ⟨oc11, od11, .func (PySem.W.fnOf "c_tables" "c_tables" (defArgs s_ctables) (defBody s_ctables) (defScope s_ctables) .none kV11 dc11 pm11 an11 cd11 ct11), sl11⟩) (c11 : PySem.W.codeIn K cd11 "c_tables" = true) (k11 : PySem.W.keepIn K (.ref f11) = true)
    (a12 : PySem.W.nsIn K mainGlobals "c_last_table" = some (some (.ref f12))) (l12 : K.lookup f12 = some ⟨oc12, od12, .func (PySem.W.fnOf "c_last_table" "c_last_table" (defArgs s_clasttable) (defBody s_clasttable) (defScope s_clasttable) .none kV12 dc12 pm12 an12 cd12 ct12), sl12⟩) (c12 : PySem.W.codeIn K cd12 "c_last_table" = true) (k12 : PySem.W.keepIn K (.ref f12) = true)
    (a13 : PySem.W.nsIn K mainGlobals "c_weight_of" = some (some (.ref f13))) (l13 : K.lookup f13 = some ⟨oc13, od13, .func (PySem.W.fnOf "c_weight_of" "c_weight_of" (defArgs s_cweightof) (defBody s_cweightof) (defScope s_cweightof) .none kV13 dc13 pm13 an13 cd13 ct13), sl13⟩) (c13 : PySem.W.codeIn K cd13 "c_weight_of" = true) (k13 : PySem.W.keepIn K (.ref f13) = true)
    (a14 : PySem.W.nsIn K mainGlobals "forest_weight" = some (some (.ref f14))) (l14 : K.lookup f14 = some ⟨oc14, od14, .func (PySem.W.fnOf "forest_weight" "forest_weight" (defArgs s_forestweight) (defBody s_forestweight) (defScope s_forestweight) .none kV14 dc14 pm14 an14 cd14 ct14), sl14⟩) (c14 : PySem.W.codeIn K cd14 "forest_weight" = true) (k14 : PySem.W.keepIn K (.ref f14) = true)
    (a15 : PySem.W.nsIn K mainGlobals "g_ask_number" = some (some (.ref f15))) (l15 : K.lookup f15 = some ⟨oc15, od15, .func (PySem.W.fnOf "g_ask_number" "g_ask_number" (defArgs s_gasknumber) (defBody s_gasknumber) (defScope s_gasknumber) .none kV15 dc15 pm15 an15 cd15 ct15), sl15⟩) (c15 : PySem.W.codeIn K cd15 "g_ask_number" = true) (k15 : PySem.W.keepIn K (.ref f15) = true)
    (a16 : PySem.W.nsIn K mainGlobals "g_ask_house" = some (some (.ref f16))) (l16 : K.lookup f16 = some ⟨oc16, od16, .func (PySem.W.fnOf "g_ask_house" "g_ask_house" (defArgs s_gaskhouse) (defBody s_gaskhouse) (defScope s_gaskhouse) .none kV16 dc16 pm16 an16 cd16 ct16), sl16⟩) (c16 : PySem.W.codeIn K cd16 "g_ask_house" = true) (k16 : PySem.W.keepIn K (.ref f16) = true)
    (a17 : PySem.W.nsIn K mainGlobals "g_ask_pair" = some (some (.ref f17))) (l17 : K.lookup f17 = some ⟨oc17, od17, .func (PySem.W.fnOf "g_ask_pair" "g_ask_pair" (defArgs s_gaskpair) (defBody s_gaskpair) (defScope s_gaskpair) .none kV17 dc17 pm17 an17 cd17 ct17), sl17⟩) (c17 : PySem.W.codeIn K cd17 "g_ask_pair" = true) (k17 : PySem.W.keepIn K (.ref f17) = true)
    (a18 : PySem.W.nsIn K mainGlobals "need" = some (some (.ref f18))) (l18 : K.lookup f18 = some ⟨oc18, od18, .func (PySem.W.fnOf "need" "need" (defArgs s_need) (defBody s_need) (defScope s_need) .none kV18 dc18 pm18 an18 cd18 ct18), sl18⟩) (c18 : PySem.W.codeIn K cd18 "need" = true) (k18 : PySem.W.keepIn K (.ref f18) = true)
    (a19 : PySem.W.nsIn K mainGlobals "need_house" = some (some (.ref f19))) (l19 : K.lookup f19 = some ⟨oc19, od19, .func (PySem.W.fnOf "need_house" "need_house" (defArgs s_needhouse) (defBody s_needhouse) (defScope s_needhouse) .none kV19 dc19 pm19 an19 cd19 ct19), sl19⟩) (c19 : PySem.W.codeIn K cd19 "need_house" = true) (k19 : PySem.W.keepIn K (.ref f19) = true)
    (a20 : PySem.W.nsIn K mainGlobals "need_houses" = some (some (.ref f20))) (l20 : K.lookup f20 = some ⟨oc20, od20, .func (PySem.W.fnOf "need_houses" "need_houses" (defArgs s_needhouses) (defBody s_needhouses) (defScope s_needhouses) .none kV20 dc20 pm20 an20 cd20 ct20), sl20⟩) (c20 : PySem.W.codeIn K cd20 "need_houses" = true) (k20 : PySem.W.keepIn K (.ref f20) = true)
    (a21 : PySem.W.nsIn K mainGlobals "ordered_line" = some (some (.ref f21))) (l21 : K.lookup f21 = some ⟨oc21, od21, .func (PySem.W.fnOf "ordered_line" "ordered_line" (defArgs s_orderedline) (defBody s_orderedline) (defScope s_orderedline) .none kV21 dc21 pm21 an21 cd21 ct21), sl21⟩) (c21 : PySem.W.codeIn K cd21 "ordered_line" = true) (k21 : PySem.W.keepIn K (.ref f21) = true)
    (a22 : PySem.W.nsIn K mainGlobals "lowest" = some (some (.ref f22))) (l22 : K.lookup f22 = some ⟨oc22, od22, .func (PySem.W.fnOf "lowest" "lowest" (defArgs s_lowest) (defBody s_lowest) (defScope s_lowest) .none kV22 dc22 pm22 an22 cd22 ct22), sl22⟩) (c22 : PySem.W.codeIn K cd22 "lowest" = true) (k22 : PySem.W.keepIn K (.ref f22) = true)
    (a23 : PySem.W.nsIn K mainGlobals "quotient_of" = some (some (.ref f23))) (l23 : K.lookup f23 = some ⟨oc23, od23, .func (PySem.W.fnOf "quotient_of" "quotient_of" (defArgs s_quotientof) (defBody s_quotientof) (defScope s_quotientof) .none kV23 dc23 pm23 an23 cd23 ct23), sl23⟩) (c23 : PySem.W.codeIn K cd23 "quotient_of" = true) (k23 : PySem.W.keepIn K (.ref f23) = true)
    (a24 : PySem.W.nsIn K mainGlobals "numbered_anew" = some (some (.ref f24))) (l24 : K.lookup f24 = some ⟨oc24, od24, .func (PySem.W.fnOf "numbered_anew" "numbered_anew" (defArgs s_numberedanew) (defBody s_numberedanew) (defScope s_numberedanew) .none kV24 dc24 pm24 an24 cd24 ct24), sl24⟩) (c24 : PySem.W.codeIn K cd24 "numbered_anew" = true) (k24 : PySem.W.keepIn K (.ref f24) = true)
    (a25 : PySem.W.nsIn K mainGlobals "made_by" = some (some (.ref f25))) (l25 : K.lookup f25 = some ⟨oc25, od25, .func (PySem.W.fnOf "made_by" "made_by" (defArgs s_madeby) (defBody s_madeby) (defScope s_madeby) .none kV25 dc25 pm25 an25 cd25 ct25), sl25⟩) (c25 : PySem.W.codeIn K cd25 "made_by" = true) (k25 : PySem.W.keepIn K (.ref f25) = true)
    (a26 : PySem.W.nsIn K mainGlobals "made_one" = some (some (.ref f26))) (l26 : K.lookup f26 = some ⟨oc26, od26, .func (PySem.W.fnOf "made_one" "made_one" (defArgs s_madeone) (defBody s_madeone) (defScope s_madeone) .none kV26 dc26 pm26 an26 cd26 ct26), sl26⟩) (c26 : PySem.W.codeIn K cd26 "made_one" = true) (k26 : PySem.W.keepIn K (.ref f26) = true)
    (a27 : PySem.W.nsIn K mainGlobals "is_form" = some (some (.ref f27))) (l27 : K.lookup f27 = some ⟨oc27, od27, .func (PySem.W.fnOf "is_form" "is_form" (defArgs s_isform) (defBody s_isform) (defScope s_isform) .none kV27 dc27 pm27 an27 cd27 ct27), sl27⟩) (c27 : PySem.W.codeIn K cd27 "is_form" = true) (k27 : PySem.W.keepIn K (.ref f27) = true)
    (a28 : PySem.W.nsIn K mainGlobals "_g_number_behind" = some (some (.ref f28))) (l28 : K.lookup f28 = some ⟨oc28, od28, .func (PySem.W.fnOf "_g_number_behind" "_g_number_behind" (defArgs s_gnumberbehind) (defBody s_gnumberbehind) (defScope s_gnumberbehind) .none kV28 dc28 pm28 an28 cd28 ct28), sl28⟩) (c28 : PySem.W.codeIn K cd28 "_g_number_behind" = true) (k28 : PySem.W.keepIn K (.ref f28) = true)
    (a29 : PySem.W.nsIn K mainGlobals "share_form" = some (some (.ref f29))) (l29 : K.lookup f29 = some ⟨oc29, od29, .func (PySem.W.fnOf "share_form" "share_form" (defArgs s_shareform) (defBody s_shareform) (defScope s_shareform) .none kV29 dc29 pm29 an29 cd29 ct29), sl29⟩) (c29 : PySem.W.codeIn K cd29 "share_form" = true) (k29 : PySem.W.keepIn K (.ref f29) = true)
    (a30 : PySem.W.nsIn K mainGlobals "share_at" = some (some (.ref f30))) (l30 : K.lookup f30 = some ⟨oc30, od30, .func (PySem.W.fnOf "share_at" "share_at" (defArgs s_shareat) (defBody s_shareat) (defScope s_shareat) .none kV30 dc30 pm30 an30 cd30 ct30), sl30⟩) (c30 : PySem.W.codeIn K cd30 "share_at" = true) (k30 : PySem.W.keepIn K (.ref f30) = true)
    (a31 : PySem.W.nsIn K mainGlobals "_law_start" = some (some (.ref f31))) (l31 : K.lookup f31 = some ⟨oc31, od31, .func (PySem.W.fnOf "_law_start" "_law_start" (defArgs s_Lstart) (defBody s_Lstart) (defScope s_Lstart) .none kV31 dc31 pm31 an31 cd31 ct31), sl31⟩) (c31 : PySem.W.codeIn K cd31 "_law_start" = true) (k31 : PySem.W.keepIn K (.ref f31) = true)
    (a32 : PySem.W.nsIn K mainGlobals "_law_draw" = some (some (.ref f32))) (l32 : K.lookup f32 = some ⟨oc32, od32, .func (PySem.W.fnOf "_law_draw" "_law_draw" (defArgs s_Ldraw) (defBody s_Ldraw) (defScope s_Ldraw) .none kV32 dc32 pm32 an32 cd32 ct32), sl32⟩) (c32 : PySem.W.codeIn K cd32 "_law_draw" = true) (k32 : PySem.W.keepIn K (.ref f32) = true)
    (a33 : PySem.W.nsIn K mainGlobals "_law_far" = some (some (.ref f33))) (l33 : K.lookup f33 = some ⟨oc33, od33, .func (PySem.W.fnOf "_law_far" "_law_far" (defArgs s_Lfar) (defBody s_Lfar) (defScope s_Lfar) .none kV33 dc33 pm33 an33 cd33 ct33), sl33⟩) (c33 : PySem.W.codeIn K cd33 "_law_far" = true) (k33 : PySem.W.keepIn K (.ref f33) = true)
    (a34 : PySem.W.nsIn K mainGlobals "_law_pairs" = some (some (.ref f34))) (l34 : K.lookup f34 = some ⟨oc34, od34, .func (PySem.W.fnOf "_law_pairs" "_law_pairs" (defArgs s_Lpairs) (defBody s_Lpairs) (defScope s_Lpairs) .none kV34 dc34 pm34 an34 cd34 ct34), sl34⟩) (c34 : PySem.W.codeIn K cd34 "_law_pairs" = true) (k34 : PySem.W.keepIn K (.ref f34) = true)
    (a35 : PySem.W.nsIn K mainGlobals "_law_lines" = some (some (.ref f35))) (l35 : K.lookup f35 = some ⟨oc35, od35, .func (PySem.W.fnOf "_law_lines" "_law_lines" (defArgs s_Llines) (defBody s_Llines) (defScope s_Llines) .none kV35 dc35 pm35 an35 cd35 ct35), sl35⟩) (c35 : PySem.W.codeIn K cd35 "_law_lines" = true) (k35 : PySem.W.keepIn K (.ref f35) = true)
    (a36 : PySem.W.nsIn K mainGlobals "_law_forests" = some (some (.ref f36))) (l36 : K.lookup f36 = some ⟨oc36, od36, .func (PySem.W.fnOf "_law_forests" "_law_forests" (defArgs s_Lforests) (defBody s_Lforests) (defScope s_Lforests) .none kV36 dc36 pm36 an36 cd36 ct36), sl36⟩) (c36 : PySem.W.codeIn K cd36 "_law_forests" = true) (k36 : PySem.W.keepIn K (.ref f36) = true)
    (a37 : PySem.W.nsIn K mainGlobals "_law_apart" = some (some (.ref f37))) (l37 : K.lookup f37 = some ⟨oc37, od37, .func (PySem.W.fnOf "_law_apart" "_law_apart" (defArgs s_Lapart) (defBody s_Lapart) (defScope s_Lapart) .none kV37 dc37 pm37 an37 cd37 ct37), sl37⟩) (c37 : PySem.W.codeIn K cd37 "_law_apart" = true) (k37 : PySem.W.keepIn K (.ref f37) = true)
    (a38 : PySem.W.nsIn K mainGlobals "_law_standings" = some (some (.ref f38))) (l38 : K.lookup f38 = some ⟨oc38, od38, .func (PySem.W.fnOf "_law_standings" "_law_standings" (defArgs s_Lstandings) (defBody s_Lstandings) (defScope s_Lstandings) .none kV38 dc38 pm38 an38 cd38 ct38), sl38⟩) (c38 : PySem.W.codeIn K cd38 "_law_standings" = true) (k38 : PySem.W.keepIn K (.ref f38) = true)
    (a39 : PySem.W.nsIn K mainGlobals "_law_refusing" = some (some (.ref f39))) (l39 : K.lookup f39 = some ⟨oc39, od39, .func (PySem.W.fnOf "_law_refusing" "_law_refusing" (defArgs s_Lrefusing) (defBody s_Lrefusing) (defScope s_Lrefusing) .none kV39 dc39 pm39 an39 cd39 ct39), sl39⟩) (c39 : PySem.W.codeIn K cd39 "_law_refusing" = true) (k39 : PySem.W.keepIn K (.ref f39) = true)
    (a40 : PySem.W.nsIn K mainGlobals "_law_lowest" = some (some (.ref f40))) (l40 : K.lookup f40 = some ⟨oc40, od40, .func (PySem.W.fnOf "_law_lowest" "_law_lowest" (defArgs s_Llowest) (defBody s_Llowest) (defScope s_Llowest) .none kV40 dc40 pm40 an40 cd40 ct40), sl40⟩) (c40 : PySem.W.codeIn K cd40 "_law_lowest" = true) (k40 : PySem.W.keepIn K (.ref f40) = true)
    (a41 : PySem.W.nsIn K mainGlobals "_law_same" = some (some (.ref f41))) (l41 : K.lookup f41 = some ⟨oc41, od41, .func (PySem.W.fnOf "_law_same" "_law_same" (defArgs s_Lsame) (defBody s_Lsame) (defScope s_Lsame) .none kV41 dc41 pm41 an41 cd41 ct41), sl41⟩) (c41 : PySem.W.codeIn K cd41 "_law_same" = true) (k41 : PySem.W.keepIn K (.ref f41) = true)
    (a42 : PySem.W.nsIn K mainGlobals "_law_rooms_right" = some (some (.ref f42))) (l42 : K.lookup f42 = some ⟨oc42, od42, .func (PySem.W.fnOf "_law_rooms_right" "_law_rooms_right" (defArgs s_Lroomsright) (defBody s_Lroomsright) (defScope s_Lroomsright) .none kV42 dc42 pm42 an42 cd42 ct42), sl42⟩) (c42 : PySem.W.codeIn K cd42 "_law_rooms_right" = true) (k42 : PySem.W.keepIn K (.ref f42) = true)
    (a43 : PySem.W.nsIn K mainGlobals "_law_kinds_right" = some (some (.ref f43))) (l43 : K.lookup f43 = some ⟨oc43, od43, .func (PySem.W.fnOf "_law_kinds_right" "_law_kinds_right" (defArgs s_Lkindsright) (defBody s_Lkindsright) (defScope s_Lkindsright) .none kV43 dc43 pm43 an43 cd43 ct43), sl43⟩) (c43 : PySem.W.codeIn K cd43 "_law_kinds_right" = true) (k43 : PySem.W.keepIn K (.ref f43) = true)
    (a44 : PySem.W.nsIn K mainGlobals "_law_told_room" = some (some (.ref f44))) (l44 : K.lookup f44 = some ⟨oc44, od44, .func (PySem.W.fnOf "_law_told_room" "_law_told_room" (defArgs s_Ltoldroom) (defBody s_Ltoldroom) (defScope s_Ltoldroom) .none kV44 dc44 pm44 an44 cd44 ct44), sl44⟩) (c44 : PySem.W.codeIn K cd44 "_law_told_room" = true) (k44 : PySem.W.keepIn K (.ref f44) = true)
    (a45 : PySem.W.nsIn K mainGlobals "_law_told" = some (some (.ref f45))) (l45 : K.lookup f45 = some ⟨oc45, od45, .func (PySem.W.fnOf "_law_told" "_law_told" (defArgs s_Ltold) (defBody s_Ltold) (defScope s_Ltold) .none kV45 dc45 pm45 an45 cd45 ct45), sl45⟩) (c45 : PySem.W.codeIn K cd45 "_law_told" = true) (k45 : PySem.W.keepIn K (.ref f45) = true)
    (a46 : PySem.W.nsIn K mainGlobals "_law_refusals_right" = some (some (.ref f46))) (l46 : K.lookup f46 = some ⟨oc46, od46, .func (PySem.W.fnOf "_law_refusals_right" "_law_refusals_right" (defArgs s_Lrefusalsright) (defBody s_Lrefusalsright) (defScope s_Lrefusalsright) .none kV46 dc46 pm46 an46 cd46 ct46), sl46⟩) (c46 : PySem.W.codeIn K cd46 "_law_refusals_right" = true) (k46 : PySem.W.keepIn K (.ref f46) = true)
    (a47 : PySem.W.nsIn K mainGlobals "law" = some (some (.ref f47))) (l47 : K.lookup f47 = some ⟨oc47, od47, .func (PySem.W.fnOf "law" "law" (defArgs s_law) (defBody s_law) (defScope s_law) .none kV47 dc47 pm47 an47 cd47 ct47), sl47⟩) (c47 : PySem.W.codeIn K cd47 "law" = true) (k47 : PySem.W.keepIn K (.ref f47) = true)
    (aN : PySem.W.nsIn K mainGlobals "NotUsable" = some (some (.ref cN)))
    (aL : PySem.W.nsIn K mainGlobals "LedError" = some (some (.ref cL)))
    (aW : PySem.W.nsIn K mainGlobals "WebError" = some (some (.ref cW)))
    (aP : PySem.W.nsIn K mainGlobals "PaperError" = some (some (.ref cP)))
    (xN : K.lookup cN = some (excClassObj nm q cN N bs bm true sn sub ab col dd m0 m1 m2 m3 m5 "ValueError.__new__"))
    (rb : PySem.HandSPX.refsVE bm = true)
    (sa : PySem.W.findIn K (.ref cN) "__setattr__" = some (some (.builtin "object.__setattr__")))
    (ga : PySem.W.findIn K (.ref cN) "__getattribute__" = some (some (.builtin "BaseException.__getattribute__")))
    (gg : PySem.W.findIn K (.ref cN) "__getattr__" = some none)
    (nw : PySem.W.findIn K (.ref cN) "word" = some none)
    (na : PySem.W.findIn K (.ref cN) "at" = some none)
    (iN : PySem.W.findIn K (.ref cN) "__init__" = some (some (.ref fI)))
    (tI : PySem.W.typeIn K (.ref fI) = some (.type "function"))
    (lI : K.lookup fI = some ⟨ocI, odI, .func (PySem.W.fnOf "__init__" "NotUsable.__init__" (defArgs s_init) (defBody s_init) (defScope s_init) .none kVI dcI pmI anI cdI ctI), slI⟩)
    (cI : PySem.W.codeIn K cdI "NotUsable.__init__" = true)
    (kI : PySem.W.keepIn K (.ref fI) = true)
    (kN : PySem.W.keepIn K (.ref cN) = true)
    (eN : PySem.W.subIn K (.ref cN) (.type "BaseException") = some true)
    (eL : PySem.W.subIn K (.ref cL) (.type "BaseException") = some true)
    (tN : PySem.W.typeIn K (.ref cN) = some (.type "type"))
    (tL : PySem.W.typeIn K (.ref cL) = some (.type "type"))
    (hN : PySem.W.hasDictIn K cN = true)
    (sN : PySem.W.isClsIn K cN = true)
    (sL : PySem.W.isClsIn K cL = true)
    (uL : PySem.W.subIn K (.ref cN) (.ref cL) = some true)
    (ha : PySem.W.findIn K (.ref cN) "__class__" = some (some (.builtin "object.__class__")))
    (hn : PySem.W.specialIn K (.builtin "object.__class__") "__get__" = some (some (.builtin "getset_descriptor.__get__")))
    (ht : PySem.W.takesIn K (.builtin "object.__class__") = some true)
    (hm : PySem.W.mroIn K cN (.type "object") = some true)
    (qN : PySem.W.kitOne K (.ref cN) (.ref cN) = some true)
    (qW : PySem.W.kitOne K (.ref cN) (.ref cW) = some true)
    (qP : PySem.W.kitOne K (.ref cN) (.ref cP) = some false)
    (z0 : PySem.W.nsIn K mainGlobals "abs" = some none)
    (z1 : PySem.W.nsIn K mainGlobals "all" = some none)
    (z2 : PySem.W.nsIn K mainGlobals "bool" = some none)
    (z3 : PySem.W.nsIn K mainGlobals "enumerate" = some none)
    (z4 : PySem.W.nsIn K mainGlobals "int" = some none)
    (z5 : PySem.W.nsIn K mainGlobals "isinstance" = some none)
    (z6 : PySem.W.nsIn K mainGlobals "len" = some none)
    (z7 : PySem.W.nsIn K mainGlobals "list" = some none)
    (z8 : PySem.W.nsIn K mainGlobals "max" = some none)
    (z9 : PySem.W.nsIn K mainGlobals "min" = some none)
    (z10 : PySem.W.nsIn K mainGlobals "range" = some none)
    (z11 : PySem.W.nsIn K mainGlobals "sorted" = some none)
    (z12 : PySem.W.nsIn K mainGlobals "str" = some none)
    (z13 : PySem.W.nsIn K mainGlobals "tuple" = some none) :
    ∃ fd : FuncData, (∀ (s : Shared) (v : Value), BindsTo s fd ⟨[v], []⟩ [("_law_script", v)]) ∧ ∀ base : Heap, K.In base → base.Ns mainGlobals mg → FnOk l.prog w K mg base CX0 12 fa fd ["_law_script"] (spLaw K) := by
  have e := hfa.symm.trans (PySem.W.mg_of X G a47)
  cases e
  have D0 := df_mk X G (ps := ["thing"]) (st := s_isinteger) a0 l0 c0 k0 fun _ _ _ _ _ _ us hl => match us, hl with | [_], _ => by rfl
  have D1 := df_mk X G (ps := ["thing"]) (st := s_isnumber) a1 l1 c1 k1 fun _ _ _ _ _ _ us hl => match us, hl with | [_], _ => by rfl
  have D2 := df_mk X G (ps := ["one", "other"]) (st := s_commondivisor) a2 l2 c2 k2 fun _ _ _ _ _ _ us hl => match us, hl with | [_, _], _ => by rfl
  have D3 := df_mk X G (ps := ["many", "thing"]) (st := s_isjoining) a3 l3 c3 k3 fun _ _ _ _ _ _ us hl => match us, hl with | [_, _], _ => by rfl
  have D4 := df_mk X G (ps := ["lines"]) (st := s_cbonds) a4 l4 c4 k4 fun _ _ _ _ _ _ us hl => match us, hl with | [_], _ => by rfl
  have D5 := df_mk X G (ps := ["joining", "place"]) (st := s_centered) a5 l5 c5 k5 fun _ _ _ _ _ _ us hl => match us, hl with | [_, _], _ => by rfl
  have D6 := df_mk X G (ps := ["joining", "one", "other"]) (st := s_cmerged) a6 l6 c6 k6 fun _ _ _ _ _ _ us hl => match us, hl with | [_, _, _], _ => by rfl
  have D7 := df_mk X G (ps := ["joining", "place"]) (st := s_cleft) a7 l7 c7 k7 fun _ _ _ _ _ _ us hl => match us, hl with | [_, _], _ => by rfl
  have D8 := df_mk X G (ps := ["table", "one", "other", "bond"]) (st := s_cwithbond) a8 l8 c8 k8 fun _ _ _ _ _ _ us hl => match us, hl with | [_, _, _, _], _ => by rfl
  have D9 := df_mk X G (ps := ["frontier", "table", "house", "row"]) (st := s_cwithhouse) a9 l9 c9 k9 fun _ _ _ _ _ _ us hl => match us, hl with | [_, _, _, _], _ => by rfl
  have D10 := df_mk X G (ps := ["frontier", "table", "house", "most"]) (st := s_cwithouthouse) a10 l10 c10 k10 fun _ _ _ _ _ _ us hl => match us, hl with | [_, _, _, _], _ => by rfl
  have D11 := df_mk X G (ps := ["order", "lines", "held", "most"]) (st := s_ctables) a11 l11 c11 k11 fun _ _ _ _ _ _ us hl => match us, hl with | [_, _, _, _], _ => by rfl
  have D12 := df_mk X G (ps := ["order", "lines", "held", "most"]) (st := s_clasttable) a12 l12 c12 k12 fun _ _ _ _ _ _ us hl => match us, hl with | [_, _, _, _], _ => by rfl
  have D13 := df_mk X G (ps := ["lines"]) (st := s_cweightof) a13 l13 c13 k13 fun _ _ _ _ _ _ us hl => match us, hl with | [_], _ => by rfl
  have D14 := df_mk X G (ps := ["web"]) (st := s_forestweight) a14 l14 c14 k14 fun _ _ _ _ _ _ us hl => match us, hl with | [_], _ => by rfl
  have D15 := df_mk X G (ps := ["number", "name"]) (st := s_gasknumber) a15 l15 c15 k15 fun _ _ _ _ _ _ us hl => match us, hl with | [_, _], _ => by rfl
  have D16 := df_mk X G (ps := ["size", "house", "name"]) (st := s_gaskhouse) a16 l16 c16 k16 fun _ _ _ _ _ _ us hl => match us, hl with | [_, _, _], _ => by rfl
  have D17 := df_mk X G (ps := ["size", "one", "other", "first", "second"]) (st := s_gaskpair) a17 l17 c17 k17 fun _ _ _ _ _ _ us hl => match us, hl with | [_, _, _, _, _], _ => by rfl
  have D18 := df_mk X G (ps := ["holds", "name"]) (st := s_need) a18 l18 c18 k18 fun _ _ _ _ _ _ us hl => match us, hl with | [_, _], _ => by rfl
  have D19 := df_mk X G (ps := ["web", "house", "name"]) (st := s_needhouse) a19 l19 c19 k19 fun _ _ _ _ _ _ us hl => match us, hl with | [_, _, _], _ => by rfl
  have D20 := df_mk X G (ps := ["web", "here", "there"]) (st := s_needhouses) a20 l20 c20 k20 fun _ _ _ _ _ _ us hl => match us, hl with | [_, _, _], _ => by rfl
  have D21 := df_mk X G (ps := ["one", "other", "room"]) (st := s_orderedline) a21 l21 c21 k21 fun _ _ _ _ _ _ us hl => match us, hl with | [_, _, _], _ => by rfl
  have D22 := df_mk X G (ps := ["top", "bottom"]) (st := s_lowest) a22 l22 c22 k22 fun _ _ _ _ _ _ us hl => match us, hl with | [_, _], _ => by rfl
  have D23 := df_mk X G (ps := ["top", "bottom"]) (st := s_quotientof) a23 l23 c23 k23 fun _ _ _ _ _ _ us hl => match us, hl with | [_, _], _ => by rfl
  have D24 := df_mk X G (ps := ["size", "web", "numbers"]) (st := s_numberedanew) a24 l24 c24 k24 fun _ _ _ _ _ _ us hl => match us, hl with | [_, _, _], _ => by rfl
  have D25 := df_mk X G (ps := ["web", "joining"]) (st := s_madeby) a25 l25 c25 k25 fun _ _ _ _ _ _ us hl => match us, hl with | [_, _], _ => by rfl
  have D26 := df_mk X G (ps := ["web", "here", "there"]) (st := s_madeone) a26 l26 c26 k26 fun _ _ _ _ _ _ us hl => match us, hl with | [_, _, _], _ => by rfl
  have D27 := df_mk X G (ps := ["thing"]) (st := s_isform) a27 l27 c27 k27 fun _ _ _ _ _ _ us hl => match us, hl with | [_], _ => by rfl
  have D28 := df_mk X G (ps := ["here", "there", "house"]) (st := s_gnumberbehind) a28 l28 c28 k28 fun _ _ _ _ _ _ us hl => match us, hl with | [_, _, _], _ => by rfl
  have D29 := df_mk X G (ps := ["web", "here", "there", "payer", "payee"]) (st := s_shareform) a29 l29 c29 k29 fun _ _ _ _ _ _ us hl => match us, hl with | [_, _, _, _, _], _ => by rfl
  have D30 := df_mk X G (ps := ["form", "room"]) (st := s_shareat) a30 l30 c30 k30 fun _ _ _ _ _ _ us hl => match us, hl with | [_, _], _ => by rfl
  have D31 := df_mk X G (ps := ["_law_script"]) (st := s_Lstart) a31 l31 c31 k31 fun _ _ _ _ _ _ us hl => match us, hl with | [_], _ => by rfl
  have D32 := df_mk X G (ps := ["_law_state", "_law_count"]) (st := s_Ldraw) a32 l32 c32 k32 fun _ _ _ _ _ _ us hl => match us, hl with | [_, _], _ => by rfl
  have D33 := df_mk X G (ps := ["_law_state"]) (st := s_Lfar) a33 l33 c33 k33 fun _ _ _ _ _ _ us hl => match us, hl with | [_], _ => by rfl
  have D34 := df_mk X G (ps := ["_law_state", "_law_size"]) (st := s_Lpairs) a34 l34 c34 k34 fun _ _ _ _ _ _ us hl => match us, hl with | [_, _], _ => by rfl
  have D35 := df_mk X G (ps := ["_law_state", "_law_size", "_law_far_here"]) (st := s_Llines) a35 l35 c35 k35 fun _ _ _ _ _ _ us hl => match us, hl with | [_, _, _], _ => by rfl
  have D36 := df_mk X G (ps := ["_law_size", "_law_lines_here"]) (st := s_Lforests) a36 l36 c36 k36 fun _ _ _ _ _ _ us hl => match us, hl with | [_, _], _ => by rfl
  have D37 := df_mk X G (ps := ["_law_forests_here", "_law_pairs_here"]) (st := s_Lapart) a37 l37 c37 k37 fun _ _ _ _ _ _ us hl => match us, hl with | [_, _], _ => by rfl
  have D38 := df_mk X G (ps := ["_law_size", "_law_lines_here"]) (st := s_Lstandings) a38 l38 c38 k38 fun _ _ _ _ _ _ us hl => match us, hl with | [_, _], _ => by rfl
  have D39 := df_mk X G (ps := ["_law_table", "_law_giver", "_law_taker"]) (st := s_Lrefusing) a39 l39 c39 k39 fun _ _ _ _ _ _ us hl => match us, hl with | [_, _, _], _ => by rfl
  have D40 := df_mk X G (ps := ["_law_top", "_law_bottom"]) (st := s_Llowest) a40 l40 c40 k40 fun _ _ _ _ _ _ us hl => match us, hl with | [_, _], _ => by rfl
  have D41 := df_mk X G (ps := ["_law_told_here", "_law_due"]) (st := s_Lsame) a41 l41 c41 k41 fun _ _ _ _ _ _ us hl => match us, hl with | [_, _], _ => by rfl
  have D42 := df_mk X G (ps := ["_law_state", "_law_net", "_law_pairs_here", "_law_due", "_law_far_here"]) (st := s_Lroomsright) a42 l42 c42 k42 fun _ _ _ _ _ _ us hl => match us, hl with | [_, _, _, _, _], _ => by rfl
  have D43 := df_mk X G (ps := ["_law_state", "_law_due"]) (st := s_Lkindsright) a43 l43 c43 k43 fun _ _ _ _ _ _ us hl => match us, hl with | [_, _], _ => by rfl
  have D44 := df_mk X G (ps := ["_law_due", "_law_odd"]) (st := s_Ltoldroom) a44 l44 c44 k44 fun _ _ _ _ _ _ us hl => match us, hl with | [_, _], _ => by rfl
  have D45 := df_mk X G (ps := ["_law_net", "_law_left", "_law_right", "_law_giver", "_law_taker"]) (st := s_Ltold) a45 l45 c45 k45 fun _ _ _ _ _ _ us hl => match us, hl with | [_, _, _, _, _], _ => by rfl
  have D46 := df_mk X G (ps := ["_law_state", "_law_net", "_law_pairs_here", "_law_due"]) (st := s_Lrefusalsright) a46 l46 c46 k46 fun _ _ _ _ _ _ us hl => match us, hl with | [_, _, _, _], _ => by rfl
  have D47 := df_mk X G (ps := ["_law_script"]) (st := s_law) a47 l47 c47 k47 fun _ _ _ _ _ _ us hl => match us, hl with | [_], _ => by rfl
  have FI := fun_mk (st := s_init) lI cI kI
  let T : Tx K mg := {
    f := fun i => [f0, f1, f2, f3, f4, f5, f6, f7, f8, f9, f10, f11, f12, f13, f14, f15, f16, f17, f18, f19, f20, f21, f22, f23, f24, f25, f26, f27, f28, f29, f30, f31, f32, f33, f34, f35, f36, f37, f38, f39, f40, f41, f42, f43, f44, f45, f46, fa].getD i 0
    fd := fun i => [PySem.W.fnOf "is_integer" "is_integer" (defArgs s_isinteger) (defBody s_isinteger) (defScope s_isinteger) .none kV0 dc0 pm0 an0 cd0 ct0, PySem.W.fnOf "is_number" "is_number" (defArgs s_isnumber) (defBody s_isnumber) (defScope s_isnumber) .none kV1 dc1 pm1 an1 cd1 ct1, PySem.W.fnOf "common_divisor" "common_divisor" (defArgs s_commondivisor) (defBody s_commondivisor) (defScope s_commondivisor) .none kV2 dc2 pm2 an2 cd2 ct2, PySem.W.fnOf "is_joining" "is_joining" (defArgs s_isjoining) (defBody s_isjoining) (defScope s_isjoining) .none kV3 dc3 pm3 an3 cd3 ct3, PySem.W.fnOf "c_bonds" "c_bonds" (defArgs s_cbonds) (defBody s_cbonds) (defScope s_cbonds) .none kV4 dc4 pm4 an4 cd4 ct4, PySem.W.fnOf "c_entered" "c_entered" (defArgs s_centered) (defBody s_centered) (defScope s_centered) .none kV5 dc5 pm5 an5 cd5 ct5, PySem.W.fnOf "c_merged" "c_merged" (defArgs s_cmerged) (defBody s_cmerged) (defScope s_cmerged) .none kV6 dc6 pm6 an6 cd6 ct6, PySem.W.fnOf "c_left" "c_left" (defArgs s_cleft) (defBody s_cleft) (defScope s_cleft) .none kV7 dc7 pm7 an7 cd7 ct7, PySem.W.fnOf "c_with_bond" "c_with_bond" (defArgs s_cwithbond) (defBody s_cwithbond) (defScope s_cwithbond) .none kV8 dc8 pm8 an8 cd8 ct8, PySem.W.fnOf "c_with_house" "c_with_house" (defArgs s_cwithhouse) (defBody s_cwithhouse) (defScope s_cwithhouse) .none kV9 dc9 pm9 an9 cd9 ct9, PySem.W.fnOf "c_without_house" "c_without_house" (defArgs s_cwithouthouse) (defBody s_cwithouthouse) (defScope s_cwithouthouse) .none kV10 dc10 pm10 an10 cd10 ct10, PySem.W.fnOf "c_tables" "c_tables" (defArgs s_ctables) (defBody s_ctables) (defScope s_ctables) .none kV11 dc11 pm11 an11 cd11 ct11, PySem.W.fnOf "c_last_table" "c_last_table" (defArgs s_clasttable) (defBody s_clasttable) (defScope s_clasttable) .none kV12 dc12 pm12 an12 cd12 ct12, PySem.W.fnOf "c_weight_of" "c_weight_of" (defArgs s_cweightof) (defBody s_cweightof) (defScope s_cweightof) .none kV13 dc13 pm13 an13 cd13 ct13, PySem.W.fnOf "forest_weight" "forest_weight" (defArgs s_forestweight) (defBody s_forestweight) (defScope s_forestweight) .none kV14 dc14 pm14 an14 cd14 ct14, PySem.W.fnOf "g_ask_number" "g_ask_number" (defArgs s_gasknumber) (defBody s_gasknumber) (defScope s_gasknumber) .none kV15 dc15 pm15 an15 cd15 ct15, PySem.W.fnOf "g_ask_house" "g_ask_house" (defArgs s_gaskhouse) (defBody s_gaskhouse) (defScope s_gaskhouse) .none kV16 dc16 pm16 an16 cd16 ct16, PySem.W.fnOf "g_ask_pair" "g_ask_pair" (defArgs s_gaskpair) (defBody s_gaskpair) (defScope s_gaskpair) .none kV17 dc17 pm17 an17 cd17 ct17, PySem.W.fnOf "need" "need" (defArgs s_need) (defBody s_need) (defScope s_need) .none kV18 dc18 pm18 an18 cd18 ct18, PySem.W.fnOf "need_house" "need_house" (defArgs s_needhouse) (defBody s_needhouse) (defScope s_needhouse) .none kV19 dc19 pm19 an19 cd19 ct19, PySem.W.fnOf "need_houses" "need_houses" (defArgs s_needhouses) (defBody s_needhouses) (defScope s_needhouses) .none kV20 dc20 pm20 an20 cd20 ct20, PySem.W.fnOf "ordered_line" "ordered_line" (defArgs s_orderedline) (defBody s_orderedline) (defScope s_orderedline) .none kV21 dc21 pm21 an21 cd21 ct21, PySem.W.fnOf "lowest" "lowest" (defArgs s_lowest) (defBody s_lowest) (defScope s_lowest) .none kV22 dc22 pm22 an22 cd22 ct22, PySem.W.fnOf "quotient_of" "quotient_of" (defArgs s_quotientof) (defBody s_quotientof) (defScope s_quotientof) .none kV23 dc23 pm23 an23 cd23 ct23, PySem.W.fnOf "numbered_anew" "numbered_anew" (defArgs s_numberedanew) (defBody s_numberedanew) (defScope s_numberedanew) .none kV24 dc24 pm24 an24 cd24 ct24, PySem.W.fnOf "made_by" "made_by" (defArgs s_madeby) (defBody s_madeby) (defScope s_madeby) .none kV25 dc25 pm25 an25 cd25 ct25, PySem.W.fnOf "made_one" "made_one" (defArgs s_madeone) (defBody s_madeone) (defScope s_madeone) .none kV26 dc26 pm26 an26 cd26 ct26, PySem.W.fnOf "is_form" "is_form" (defArgs s_isform) (defBody s_isform) (defScope s_isform) .none kV27 dc27 pm27 an27 cd27 ct27, PySem.W.fnOf "_g_number_behind" "_g_number_behind" (defArgs s_gnumberbehind) (defBody s_gnumberbehind) (defScope s_gnumberbehind) .none kV28 dc28 pm28 an28 cd28 ct28, PySem.W.fnOf "share_form" "share_form" (defArgs s_shareform) (defBody s_shareform) (defScope s_shareform) .none kV29 dc29 pm29 an29 cd29 ct29, PySem.W.fnOf "share_at" "share_at" (defArgs s_shareat) (defBody s_shareat) (defScope s_shareat) .none kV30 dc30 pm30 an30 cd30 ct30, PySem.W.fnOf "_law_start" "_law_start" (defArgs s_Lstart) (defBody s_Lstart) (defScope s_Lstart) .none kV31 dc31 pm31 an31 cd31 ct31, PySem.W.fnOf "_law_draw" "_law_draw" (defArgs s_Ldraw) (defBody s_Ldraw) (defScope s_Ldraw) .none kV32 dc32 pm32 an32 cd32 ct32, PySem.W.fnOf "_law_far" "_law_far" (defArgs s_Lfar) (defBody s_Lfar) (defScope s_Lfar) .none kV33 dc33 pm33 an33 cd33 ct33, PySem.W.fnOf "_law_pairs" "_law_pairs" (defArgs s_Lpairs) (defBody s_Lpairs) (defScope s_Lpairs) .none kV34 dc34 pm34 an34 cd34 ct34, PySem.W.fnOf "_law_lines" "_law_lines" (defArgs s_Llines) (defBody s_Llines) (defScope s_Llines) .none kV35 dc35 pm35 an35 cd35 ct35, PySem.W.fnOf "_law_forests" "_law_forests" (defArgs s_Lforests) (defBody s_Lforests) (defScope s_Lforests) .none kV36 dc36 pm36 an36 cd36 ct36, PySem.W.fnOf "_law_apart" "_law_apart" (defArgs s_Lapart) (defBody s_Lapart) (defScope s_Lapart) .none kV37 dc37 pm37 an37 cd37 ct37, PySem.W.fnOf "_law_standings" "_law_standings" (defArgs s_Lstandings) (defBody s_Lstandings) (defScope s_Lstandings) .none kV38 dc38 pm38 an38 cd38 ct38, PySem.W.fnOf "_law_refusing" "_law_refusing" (defArgs s_Lrefusing) (defBody s_Lrefusing) (defScope s_Lrefusing) .none kV39 dc39 pm39 an39 cd39 ct39, PySem.W.fnOf "_law_lowest" "_law_lowest" (defArgs s_Llowest) (defBody s_Llowest) (defScope s_Llowest) .none kV40 dc40 pm40 an40 cd40 ct40, PySem.W.fnOf "_law_same" "_law_same" (defArgs s_Lsame) (defBody s_Lsame) (defScope s_Lsame) .none kV41 dc41 pm41 an41 cd41 ct41, PySem.W.fnOf "_law_rooms_right" "_law_rooms_right" (defArgs s_Lroomsright) (defBody s_Lroomsright) (defScope s_Lroomsright) .none kV42 dc42 pm42 an42 cd42 ct42, PySem.W.fnOf "_law_kinds_right" "_law_kinds_right" (defArgs s_Lkindsright) (defBody s_Lkindsright) (defScope s_Lkindsright) .none kV43 dc43 pm43 an43 cd43 ct43, PySem.W.fnOf "_law_told_room" "_law_told_room" (defArgs s_Ltoldroom) (defBody s_Ltoldroom) (defScope s_Ltoldroom) .none kV44 dc44 pm44 an44 cd44 ct44, PySem.W.fnOf "_law_told" "_law_told" (defArgs s_Ltold) (defBody s_Ltold) (defScope s_Ltold) .none kV45 dc45 pm45 an45 cd45 ct45, PySem.W.fnOf "_law_refusals_right" "_law_refusals_right" (defArgs s_Lrefusalsright) (defBody s_Lrefusalsright) (defScope s_Lrefusalsright) .none kV46 dc46 pm46 an46 cd46 ct46, PySem.W.fnOf "law" "law" (defArgs s_law) (defBody s_law) (defScope s_law) .none kV47 dc47 pm47 an47 cd47 ct47].getD i (PySem.W.fnOf "law" "law" (defArgs s_law) (defBody s_law) (defScope s_law) .none kV47 dc47 pm47 an47 cd47 ct47)
    d_isinteger := D0
    d_isnumber := D1
    d_commondivisor := D2
    d_isjoining := D3
    d_cbonds := D4
    d_centered := D5
    d_cmerged := D6
    d_cleft := D7
    d_cwithbond := D8
    d_cwithhouse := D9
    d_cwithouthouse := D10
    d_ctables := D11
    d_clasttable := D12
    d_cweightof := D13
    d_forestweight := D14
    d_gasknumber := D15
    d_gaskhouse := D16
    d_gaskpair := D17
    d_need := D18
    d_needhouse := D19
    d_needhouses := D20
    d_orderedline := D21
    d_lowest := D22
    d_quotientof := D23
    d_numberedanew := D24
    d_madeby := D25
    d_madeone := D26
    d_isform := D27
    d_gnumberbehind := D28
    d_shareform := D29
    d_shareat := D30
    d_Lstart := D31
    d_Ldraw := D32
    d_Lfar := D33
    d_Lpairs := D34
    d_Llines := D35
    d_Lforests := D36
    d_Lapart := D37
    d_Lstandings := D38
    d_Lrefusing := D39
    d_Llowest := D40
    d_Lsame := D41
    d_Lroomsright := D42
    d_Lkindsright := D43
    d_Ltoldroom := D44
    d_Ltold := D45
    d_Lrefusalsright := D46
    d_law := D47
    n_abs := PySem.W.mg_none_of X G z0
    n_all := PySem.W.mg_none_of X G z1
    n_bool := PySem.W.mg_none_of X G z2
    n_enumerate := PySem.W.mg_none_of X G z3
    n_int := PySem.W.mg_none_of X G z4
    n_isinstance := PySem.W.mg_none_of X G z5
    n_len := PySem.W.mg_none_of X G z6
    n_list := PySem.W.mg_none_of X G z7
    n_max := PySem.W.mg_none_of X G z8
    n_min := PySem.W.mg_none_of X G z9
    n_range := PySem.W.mg_none_of X G z10
    n_sorted := PySem.W.mg_none_of X G z11
    n_str := PySem.W.mg_none_of X G z12
    n_tuple := PySem.W.mg_none_of X G z13
    cN := cN, cL := cL, cW := cW, cP := cP, fI := fI, fdI := _
    g_NotUsable := PySem.W.mg_of X G aN
    g_LedError := PySem.W.mg_of X G aL
    g_WebError := PySem.W.mg_of X G aW
    g_PaperError := PySem.W.mg_of X G aP
    oex := ⟨⟨_, _, _, _, _, _, _, _, _, _, _, _, _, _, _, xN, rb⟩, sa, eN, tN, kN⟩
    no_word := nw, no_at := na, iC := iN, tI := tI, FI := FI
    bI := FI.binds fun _ _ _ _ _ _ us hl => match us, hl with | [_, _, _], _ => by rfl
    te := exm_two eN sL tL eL uL
    xc := ⟨ga, gg, eN, hN, ha, hn, ht, hm⟩
    hcl := sN
    xf := ⟨ga, gg, eN, hN⟩
    k_NotUsable := qN, k_WebError := qW, k_PaperError := qP }
  exact ⟨PySem.W.fnOf "law" "law" (defArgs s_law) (defBody s_law) (defScope s_law) .none kV47 dc47 pm47 an47 cd47 ct47, fun s v => .of_eq (by rfl), fun base _ _ => ok_law T⟩
theorem walk {l : PySem.W.OpenLaw} {q : Program} {loose : List PySem.Str} {XP : (PySem.Str → Option Value) → Heap → Prop} {YP : World → Heap → Prop} {d : DefRec} {K : Params → PySem.W.Frag} (hn : l.most = some 63) (hdf : d.params.defaults = [])
    (hY : ∀ (w : World) (h : Heap), YP w h → (K w.params).In h)
    (F : ∀ (w : World) (mg : PySem.Str → Option Value) (fa : Addr) (h : Heap), (K w.params).In h → h.Ns mainGlobals mg → mg d.name = some (.ref fa) →
      ∃ fd : FuncData, (∀ (s : Shared) (u : Value), BindsTo s fd ⟨[u], []⟩ [("_law_script", u)]) ∧ ∀ base : Heap, (K w.params).In base → base.Ns mainGlobals mg → FnOk l.prog w (K w.params) mg base CX0 12 fa fd ["_law_script"] (spLaw (K w.params))) :
    PySem.W.WalkO q loose XP YP l.row.toRowW d [] (fun f vs => PySem.call f vs) :=
  L2.walk_of (n := 63) (k := 12) (x := "_law_script") (CX := fun _ => CX0) (sp := fun w => spLaw (K w.params)) hn (by decide) hdf ⟨rfl, by decide, by decide⟩ hY F (fun _ _ a ns hl _ hS => ⟨a, ns, rfl, hS, hl, fun _ => rfl⟩) fun _ _ _ _ _ z => z
end K36

open PySem PySem.W PyProof.Rows in
set_option maxRecDepth 100000 in
set_option maxHeartbeats 0 in
theorem PySem.Challenge.cw_howeverled_k36_whole_forms_at_rooms_holds : PySem.Challenge.rw_howeverled_k36_whole_forms_at_rooms.Holds := by
  w_on; o_law; k_head; (case hw => w_witness2)
  k_fill
  refine K36.walk (l := PySem.Challenge.rw_howeverled_k36_whole_forms_at_rooms) rfl rfl (fun w h Y => PySem.W.kIn_of Y) ?F
  case F =>
    intro w mg fa h KX G hmg
    refine' K36.all_mk KX G hmg ?a0 ?l0 ?c0 ?k0 ?a1 ?l1 ?c1 ?k1 ?a2 ?l2 ?c2 ?k2 ?a3 ?l3 ?c3 ?k3 ?a4 ?l4 ?c4 ?k4 ?a5 ?l5 ?c5 ?k5 ?a6 ?l6 ?c6 ?k6 ?a7 ?l7 ?c7 ?k7 ?a8 ?l8 ?c8 ?k8 ?a9 ?l9 ?c9 ?k9 ?a10 ?l10 ?c10 ?k10 ?a11 ?l11 ?c11 ?k11 ?a12 ?l12 ?c12 ?k12 ?a13 ?l13 ?c13 ?k13 ?a14 ?l14 ?c14 ?k14 ?a15 ?l15 ?c15 ?k15 ?a16 ?l16 ?c16 ?k16 ?a17 ?l17 ?c17 ?k17 ?a18 ?l18 ?c18 ?k18 ?a19 ?l19 ?c19 ?k19 ?a20 ?l20 ?c20 ?k20 ?a21 ?l21 ?c21 ?k21 ?a22 ?l22 ?c22 ?k22 ?a23 ?l23 ?c23 ?k23 ?a24 ?l24 ?c24 ?k24 ?a25 ?l25 ?c25 ?k25 ?a26 ?l26 ?c26 ?k26 ?a27 ?l27 ?c27 ?k27 ?a28 ?l28 ?c28 ?k28 ?a29 ?l29 ?c29 ?k29 ?a30 ?l30 ?c30 ?k30 ?a31 ?l31 ?c31 ?k31 ?a32 ?l32 ?c32 ?k32 ?a33 ?l33 ?c33 ?k33 ?a34 ?l34 ?c34 ?k34 ?a35 ?l35 ?c35 ?k35 ?a36 ?l36 ?c36 ?k36 ?a37 ?l37 ?c37 ?k37 ?a38 ?l38 ?c38 ?k38 ?a39 ?l39 ?c39 ?k39 ?a40 ?l40 ?c40 ?k40 ?a41 ?l41 ?c41 ?k41 ?a42 ?l42 ?c42 ?k42 ?a43 ?l43 ?c43 ?k43 ?a44 ?l44 ?c44 ?k44 ?a45 ?l45 ?c45 ?k45 ?a46 ?l46 ?c46 ?k46 ?a47 ?l47 ?c47 ?k47 ?aN ?aL ?aW ?aP ?xN ?rb ?sa ?ga ?gg ?nw ?na ?iN ?tI ?lI ?cI ?kI ?kN ?eN ?eL ?tN ?tL ?hN ?sN ?sL ?uL ?ha ?hn ?ht ?hm ?qN ?qW ?qP ?z0 ?z1 ?z2 ?z3 ?z4 ?z5 ?z6 ?z7 ?z8 ?z9 ?z10 ?z11 ?z12 ?z13
    (case a0 => k_is)
    (case l0 => k_is)
    (case c0 => k_is)
    (case k0 => k_is)
    (case a1 => k_is)
    (case l1 => k_is)
    (case c1 => k_is)
    (case k1 => k_is)
    (case a2 => k_is)
    (case l2 => k_is)
    (case c2 => k_is)
    (case k2 => k_is)
    (case a3 => k_is)
    (case l3 => k_is)
    (case c3 => k_is)
    (case k3 => k_is)
    (case a4 => k_is)
    (case l4 => k_is)
    (case c4 => k_is)
    (case k4 => k_is)
    (case a5 => k_is)
    (case l5 => k_is)
    (case c5 => k_is)
    (case k5 => k_is)
    (case a6 => k_is)
    (case l6 => k_is)
    (case c6 => k_is)
    (case k6 => k_is)
    (case a7 => k_is)
    (case l7 => k_is)
    (case c7 => k_is)
    (case k7 => k_is)
    (case a8 => k_is)
    (case l8 => k_is)
    (case c8 => k_is)
    (case k8 => k_is)
    (case a9 => k_is)
    (case l9 => k_is)
    (case c9 => k_is)
    (case k9 => k_is)
    (case a10 => k_is)
    (case l10 => k_is)
    (case c10 => k_is)
    (case k10 => k_is)
    (case a11 => k_is)
    (case l11 => k_is)
    (case c11 => k_is)
    (case k11 => k_is)
    (case a12 => k_is)
    (case l12 => k_is)
    (case c12 => k_is)
    (case k12 => k_is)
    (case a13 => k_is)
    (case l13 => k_is)
    (case c13 => k_is)
    (case k13 => k_is)
    (case a14 => k_is)
    (case l14 => k_is)
    (case c14 => k_is)
    (case k14 => k_is)
    (case a15 => k_is)
    (case l15 => k_is)
    (case c15 => k_is)
    (case k15 => k_is)
    (case a16 => k_is)
    (case l16 => k_is)
    (case c16 => k_is)
    (case k16 => k_is)
    (case a17 => k_is)
    (case l17 => k_is)
    (case c17 => k_is)
    (case k17 => k_is)
    (case a18 => k_is)
    (case l18 => k_is)
    (case c18 => k_is)
    (case k18 => k_is)
    (case a19 => k_is)
    (case l19 => k_is)
    (case c19 => k_is)
    (case k19 => k_is)
    (case a20 => k_is)
    (case l20 => k_is)
    (case c20 => k_is)
    (case k20 => k_is)
    (case a21 => k_is)
    (case l21 => k_is)
    (case c21 => k_is)
    (case k21 => k_is)
    (case a22 => k_is)
    (case l22 => k_is)
    (case c22 => k_is)
    (case k22 => k_is)
    (case a23 => k_is)
    (case l23 => k_is)
    (case c23 => k_is)
    (case k23 => k_is)
    (case a24 => k_is)
    (case l24 => k_is)
    (case c24 => k_is)
    (case k24 => k_is)
    (case a25 => k_is)
    (case l25 => k_is)
    (case c25 => k_is)
    (case k25 => k_is)
    (case a26 => k_is)
    (case l26 => k_is)
    (case c26 => k_is)
    (case k26 => k_is)
    (case a27 => k_is)
    (case l27 => k_is)
    (case c27 => k_is)
    (case k27 => k_is)
    (case a28 => k_is)
    (case l28 => k_is)
    (case c28 => k_is)
    (case k28 => k_is)
    (case a29 => k_is)
    (case l29 => k_is)
    (case c29 => k_is)
    (case k29 => k_is)
    (case a30 => k_is)
    (case l30 => k_is)
    (case c30 => k_is)
    (case k30 => k_is)
    (case a31 => k_is)
    (case l31 => k_is)
    (case c31 => k_is)
    (case k31 => k_is)
    (case a32 => k_is)
    (case l32 => k_is)
    (case c32 => k_is)
    (case k32 => k_is)
    (case a33 => k_is)
    (case l33 => k_is)
    (case c33 => k_is)
    (case k33 => k_is)
    (case a34 => k_is)
    (case l34 => k_is)
    (case c34 => k_is)
    (case k34 => k_is)
    (case a35 => k_is)
    (case l35 => k_is)
    (case c35 => k_is)
    (case k35 => k_is)
    (case a36 => k_is)
    (case l36 => k_is)
    (case c36 => k_is)
    (case k36 => k_is)
    (case a37 => k_is)
    (case l37 => k_is)
    (case c37 => k_is)
    (case k37 => k_is)
    (case a38 => k_is)
    (case l38 => k_is)
    (case c38 => k_is)
    (case k38 => k_is)
    (case a39 => k_is)
    (case l39 => k_is)
    (case c39 => k_is)
    (case k39 => k_is)
    (case a40 => k_is)
    (case l40 => k_is)
    (case c40 => k_is)
    (case k40 => k_is)
    (case a41 => k_is)
    (case l41 => k_is)
    (case c41 => k_is)
    (case k41 => k_is)
    (case a42 => k_is)
    (case l42 => k_is)
    (case c42 => k_is)
    (case k42 => k_is)
    (case a43 => k_is)
    (case l43 => k_is)
    (case c43 => k_is)
    (case k43 => k_is)
    (case a44 => k_is)
    (case l44 => k_is)
    (case c44 => k_is)
    (case k44 => k_is)
    (case a45 => k_is)
    (case l45 => k_is)
    (case c45 => k_is)
    (case k45 => k_is)
    (case a46 => k_is)
    (case l46 => k_is)
    (case c46 => k_is)
    (case k46 => k_is)
    (case a47 => k_is)
    (case l47 => k_is)
    (case c47 => k_is)
    (case k47 => k_is)
    (case aN => k_is)
    (case aL => k_is)
    (case aW => k_is)
    (case aP => k_is)
    (case xN => k_is)
    (case rb => first | rfl | decide +kernel)
    (case sa => k_is)
    (case ga => k_is)
    (case gg => k_is)
    (case nw => k_is)
    (case na => k_is)
    (case iN => k_is)
    (case tI => k_is)
    (case lI => k_is)
    (case cI => k_is)
    (case kI => k_is)
    (case kN => k_is)
    (case eN => k_is)
    (case eL => k_is)
    (case tN => k_is)
    (case tL => k_is)
    (case hN => k_is)
    (case sN => k_is)
    (case sL => k_is)
    (case uL => first | rfl | k_is)
    (case ha => k_is)
    (case hn => k_is)
    (case ht => k_is)
    (case hm => k_is)
    (case qN => first | k_is | rfl | decide +kernel)
    (case qW => first | k_is | rfl | decide +kernel)
    (case qP => first | k_is | rfl | decide +kernel)
    (case z0 => k_is)
    (case z1 => k_is)
    (case z2 => k_is)
    (case z3 => k_is)
    (case z4 => k_is)
    (case z5 => k_is)
    (case z6 => k_is)
    (case z7 => k_is)
    (case z8 => k_is)
    (case z9 => k_is)
    (case z10 => k_is)
    (case z11 => k_is)
    (case z12 => k_is)
    (case z13 => k_is)
