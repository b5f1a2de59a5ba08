import PyProof.Rows.All
import Wide.All
import OpenK.AllK
import Wide.FinOn
import HandS.ForMost
import HandS.ForExc
import HandS.SetKeys
import HandS.IsInst
import HandS.Flow
import HandS.Style
import HandS.CallSlots
import HandS.TryMany
import HandS.StrMore
import HandS.Strs
import HandS.TupLe
import HandS.TupAny
import HandS.More
import HandS.Conv
import PyProof.Rows.StrCase
import PySem.Challenge.RW_mailroom_k03_each_once
set_option Elab.async false
set_option linter.all false
set_option maxRecDepth 100000
set_option maxHeartbeats 4000000
namespace Ml
open PySem L2
/-! ### the assertions: what stands where, and who owns it -/
structure Gx where
  K : PySem.W.Frag
  fz : Addr → Option Nat

/-- what never changes once it stands -/
def per (G : Gx) : HO → Bool
  | .tup _ => true
  | .frz _ (.lst _) => true
  | .ins C _ fs => decide (G.fz C = some fs.length)
  | _ => false

/-- all that never changes stands on -/
def Stab (G : Gx) (H H' : Hp) : Prop := ∀ a o, H a = some o → per G o = true → H' a = some o
theorem Stab.refl {G : Gx} (H : Hp) : Stab G H H := fun _ _ h _ => h
theorem Stab.trans {G : Gx} {H H1 H2 : Hp} (a : Stab G H H1) (b : Stab G H1 H2) : Stab G H H2 := fun x o h p => b x o (a x o h p) p
theorem Stab.of_same {G : Gx} {H H' : Hp} (s : Same H H') : Stab G H H' := fun a o h _ => s a o h

structure Asn (G : Gx) where
  sat : Hp → List Addr → Prop
  loc : ∀ H H' fp, sat H fp → (∀ a, a ∈ fp → H' a = H a) → Stab G H H' → sat H' fp

variable {G : Gx}

def satL (H : Hp) : List (Asn G) → List Addr → Prop
  | [], fp => fp = []
  | A :: L, fp => ∃ f1 f2, fp = f1 ++ f2 ∧ A.sat H f1 ∧ satL H L f2

theorem satL.loc {H H' : Hp} : ∀ {L : List (Asn G)} {fp : List Addr}, satL H L fp → (∀ a, a ∈ fp → H' a = H a) → Stab G H H' → satL H' L fp
  | [], fp, h, _, _ => h
  | A :: L, fp, ⟨f1, f2, e, h1, h2⟩, k, s => ⟨f1, f2, e, A.loc H H' f1 h1 (fun a m => k a (by rw [e]; exact List.mem_append_left _ m)) s,
      satL.loc h2 (fun a m => k a (by rw [e]; exact List.mem_append_right _ m)) s⟩

theorem satL.perm {H : Hp} {L L' : List (Asn G)} (p : L.Perm L') : ∀ {fp : List Addr}, satL H L fp → ∃ fp', fp'.Perm fp ∧ satL H L' fp' := by
  induction p with
  | nil => intro fp h; exact ⟨fp, .refl _, h⟩
  | cons x _ ih =>
    rintro fp ⟨f1, f2, e, h1, h2⟩
    obtain ⟨g, pg, hg⟩ := ih h2
    exact ⟨f1 ++ g, by rw [e]; exact List.Perm.append_left f1 pg, f1, g, rfl, h1, hg⟩
  | swap x y l =>
    rintro fp ⟨f1, f2, e, h1, g1, g2, e2, k1, k2⟩
    refine ⟨g1 ++ (f1 ++ g2), ?_, g1, f1 ++ g2, rfl, k1, f1, g2, rfl, h1, k2⟩
    rw [e, e2, ← List.append_assoc, ← List.append_assoc]
    exact List.Perm.append_right g2 List.perm_append_comm
  | trans _ _ ih1 ih2 =>
    intro fp h
    obtain ⟨g, pg, hg⟩ := ih1 h
    obtain ⟨k, pk, hk⟩ := ih2 hg
    exact ⟨k, pk.trans pg, hk⟩

theorem satL.append {H : Hp} : ∀ {L L' : List (Asn G)} {fp : List Addr}, satL H (L ++ L') fp ↔ ∃ f1 f2, fp = f1 ++ f2 ∧ satL H L f1 ∧ satL H L' f2
  | [], L', fp => ⟨fun h => ⟨[], fp, rfl, rfl, h⟩, fun ⟨f1, f2, e, h1, h2⟩ => by
      have h1' : f1 = [] := h1
      subst h1'; subst e; exact h2⟩
  | A :: L, L', fp => by
    constructor
    · rintro ⟨f1, f2, e, h1, h2⟩
      obtain ⟨g1, g2, e2, k1, k2⟩ := satL.append.mp h2
      exact ⟨f1 ++ g1, g2, by rw [e, e2, List.append_assoc], ⟨f1, g1, rfl, h1, k1⟩, k2⟩
    · rintro ⟨f1, f2, e, ⟨g1, g2, e2, h1, h2⟩, h3⟩
      exact ⟨g1, g2 ++ f2, by rw [e, e2, List.append_assoc], h1, satL.append.mpr ⟨g2, f2, rfl, h2, h3⟩⟩

/-- the assertions hold, each of its own part of the heap -/
def Sep (H : Hp) (L : List (Asn G)) : Prop := ∃ fp, satL H L fp ∧ fp.Nodup ∧ ∀ a, a ∈ fp → ∃ o, H a = some o ∧ per G o = false

theorem Sep.perm {H : Hp} {L L' : List (Asn G)} (h : Sep H L) (p : L.Perm L') : Sep H L' := by
  obtain ⟨fp, h1, h2, h3⟩ := h
  obtain ⟨g, pg, hg⟩ := satL.perm p h1
  exact ⟨g, hg, pg.nodup_iff.mpr h2, fun a m => h3 a (pg.mem_iff.mp m)⟩
theorem Sep.nil (H : Hp) : Sep H ([] : List (Asn G)) := ⟨[], rfl, List.nodup_nil, fun a m => absurd m (by simp)⟩
theorem Sep.left {H : Hp} {L L' : List (Asn G)} (h : Sep H (L ++ L')) : Sep H L := by
  obtain ⟨fp, h1, h2, h3⟩ := h
  obtain ⟨f1, f2, e, k1, k2⟩ := satL.append.mp h1
  subst e
  exact ⟨f1, k1, (List.nodup_append.mp h2).1, fun a m => h3 a (List.mem_append_left _ m)⟩
theorem Sep.tail {H : Hp} {A : Asn G} {L : List (Asn G)} (h : Sep H (A :: L)) : Sep H L := by
  have p : (A :: L).Perm (L ++ [A]) := (List.perm_append_singleton A L).symm
  exact (h.perm p).left
/-- old things stand, new ones may come -/
theorem Sep.more {H H' : Hp} {L : List (Asn G)} (h : Sep H L) (s : Same H H') : Sep H' L := by
  obtain ⟨fp, h1, h2, h3⟩ := h
  exact ⟨fp, h1.loc (fun a m => by obtain ⟨o, e, _⟩ := h3 a m; rw [e]; exact s a o e) (.of_same s), h2, fun a m => by
    obtain ⟨o, e, n⟩ := h3 a m; exact ⟨o, s a o e, n⟩⟩
theorem satL.at {H : Hp} {A : Asn G} : ∀ {L : List (Asn G)} {fp : List Addr} {i : Nat}, satL H L fp → L[i]? = some A → ∃ fp, A.sat H fp
  | [], _, _, _, e => by simp at e
  | B :: L, _, 0, ⟨f1, _, _, k1, _⟩, e => ⟨f1, by
      have : B = A := Option.some.inj e
      subst this; exact k1⟩
  | B :: L, _, i + 1, ⟨_, f2, _, _, k2⟩, e => satL.at (L := L) (i := i) k2 (by simpa using e)
theorem Sep.at {H : Hp} {L : List (Asn G)} (h : Sep H L) {i : Nat} {A : Asn G} (e : L[i]? = some A) : ∃ fp, A.sat H fp := by
  obtain ⟨fp, h1, _, _⟩ := h
  exact satL.at h1 e
/-- the i-th one ahead -/
theorem pull_perm {α : Type} : ∀ {L : List α} {i : Nat} {A : α}, L[i]? = some A → L.Perm (A :: L.eraseIdx i)
  | [], _, _, e => by simp at e
  | B :: L, 0, A, e => by
    have : B = A := Option.some.inj e
    subst this
    exact .refl _
  | B :: L, i + 1, A, e => by
    have ih := pull_perm (L := L) (i := i) (A := A) (by simpa using e)
    exact (List.Perm.cons B ih).trans (List.Perm.swap A B _)
theorem set_perm {α : Type} : ∀ {L : List α} {i : Nat} {A B : α}, L[i]? = some A → (B :: L.eraseIdx i).Perm (L.set i B)
  | [], _, _, _, e => by simp at e
  | C :: L, 0, A, B, e => .refl _
  | C :: L, i + 1, A, B, e => by
    have ih := set_perm (L := L) (i := i) (A := A) (B := B) (by simpa using e)
    exact (List.Perm.swap C B _).trans (List.Perm.cons C ih)
/-- chosen ones, in a chosen order -/
def pick {α : Type} (L : List α) (is : List Nat) : List α := is.filterMap fun i => L[i]?
theorem pick_perm {α : Type} : ∀ (is : List Nat) (L : List α), is.Nodup → ∃ R, L.Perm (pick L is ++ R)
  | [], L, _ => ⟨L, .refl _⟩
  | i :: is, L, nd => by
    obtain ⟨n1, n2⟩ := List.nodup_cons.mp nd
    cases e : L[i]? with
    | none =>
      obtain ⟨R, p⟩ := pick_perm is L n2
      refine ⟨R, ?_⟩
      have : pick L (i :: is) = pick L is := by unfold pick; rw [List.filterMap_cons, e]
      rw [this]; exact p
    | some A =>
      -- the others by their places without i
      have key : ∀ (js : List Nat), i ∉ js → pick L js = pick (L.eraseIdx i) (js.map fun j => if j < i then j else j - 1) := by
        intro js hj
        unfold pick
        rw [List.filterMap_map]
        have gen : ∀ js : List Nat, i ∉ js → js.filterMap (fun i => L[i]?) = js.filterMap ((fun j => (L.eraseIdx i)[j]?) ∘ fun j => if j < i then j else j - 1) := by
          intro js
          induction js with
          | nil => intro _; rfl
          | cons j js ih =>
            intro hm
            have hji : j ≠ i := fun z => hm (by rw [z]; exact List.mem_cons_self)
            have ih' := ih fun z => hm (List.mem_cons_of_mem _ z)
            have ej : L[j]? = ((fun j => (L.eraseIdx i)[j]?) ∘ fun j => if j < i then j else j - 1) j := by
              show L[j]? = (L.eraseIdx i)[if j < i then j else j - 1]?
              rw [List.getElem?_eraseIdx]
              by_cases c : j < i
              · rw [if_pos c, if_pos c]
              · rw [if_neg c, if_neg (by omega)]
                congr 1; omega
            rw [List.filterMap_cons, List.filterMap_cons, ih', ej]
        exact gen js hj
      have nd2 : (is.map fun j => if j < i then j else j - 1).Nodup := by
        refine List.pairwise_map.mpr (List.Pairwise.imp_of_mem ?_ n2)
        intro a b ha hb hab z
        have ha' : a ≠ i := fun q => n1 (q ▸ ha)
        have hb' : b ≠ i := fun q => n1 (q ▸ hb)
        split at z <;> split at z <;> omega
      obtain ⟨R, p⟩ := pick_perm (is.map fun j => if j < i then j else j - 1) (L.eraseIdx i) nd2
      refine ⟨R, ?_⟩
      have e2 : pick L (i :: is) = A :: pick L is := by unfold pick; rw [List.filterMap_cons, e]
      rw [e2, key is n1]
      exact (pull_perm e).trans (List.Perm.cons A p)
termination_by is => is.length
theorem Sep.sel {H : Hp} {L L' : List (Asn G)} (h : Sep H L) (is : List Nat) (nd : is.Nodup) (e : pick L is = L') : Sep H L' := by
  obtain ⟨R, p⟩ := pick_perm is L nd
  rw [e] at p
  exact (h.perm p).left

/-! ### the kinds of assertions -/
/-- at a stands o, owned -/
def cell (a : Addr) (o : HO) : Asn G := ⟨fun H fp => fp = [a] ∧ H a = some o, fun H H' fp h k _ => ⟨h.1, by rw [k a (by rw [h.1]; simp)]; exact h.2⟩⟩
/-- a fact that stays -/
def fact (p : Hp → Prop) (st : ∀ H H', p H → Stab G H H' → p H') : Asn G := ⟨fun H fp => fp = [] ∧ p H, fun H H' fp h _ s => ⟨h.1, st H H' h.2 s⟩⟩
/-- several as one -/
def star (L : List (Asn G)) : Asn G := ⟨fun H fp => satL H L fp, fun H H' fp h k s => h.loc k s⟩
/-- some one of them -/
def exA {α : Type} (f : α → Asn G) : Asn G := ⟨fun H fp => ∃ x, (f x).sat H fp, fun H H' fp ⟨x, h⟩ k s => ⟨x, (f x).loc H H' fp h k s⟩⟩
/-- and a plain truth -/
def andA (p : Prop) (A : Asn G) : Asn G := ⟨fun H fp => p ∧ A.sat H fp, fun H H' fp ⟨x, h⟩ k s => ⟨x, A.loc H H' fp h k s⟩⟩

theorem Sep.star {H : Hp} {L M : List (Asn G)} (h : Sep H (M ++ [Ml.star L])) : Sep H (M ++ L) := by
  obtain ⟨fp, h1, h2, h3⟩ := h
  obtain ⟨f1, f2, e, k1, g1, g2, e2, k2, k3⟩ := satL.append.mp h1
  have k3' : g2 = [] := k3
  subst k3'
  rw [List.append_nil] at e2
  subst e2
  exact ⟨fp, satL.append.mpr ⟨f1, f2, e, k1, k2⟩, h2, h3⟩
theorem Sep.unstar {H : Hp} {L M : List (Asn G)} (h : Sep H (M ++ L)) : Sep H (M ++ [Ml.star L]) := by
  obtain ⟨fp, h1, h2, h3⟩ := h
  obtain ⟨f1, f2, e, k1, k2⟩ := satL.append.mp h1
  exact ⟨fp, satL.append.mpr ⟨f1, f2, e, k1, f2, [], by simp, k2, rfl⟩, h2, h3⟩
theorem Sep.star1 {H : Hp} {L M : List (Asn G)} (h : Sep H (Ml.star L :: M)) : Sep H (L ++ M) := by
  obtain ⟨fp, ⟨f1, f2, e, h1, k⟩, h2, h3⟩ := h
  exact ⟨fp, satL.append.mpr ⟨f1, f2, e, h1, k⟩, h2, h3⟩
theorem Sep.unstar1 {H : Hp} {L M : List (Asn G)} (h : Sep H (L ++ M)) : Sep H (Ml.star L :: M) := by
  obtain ⟨fp, h1, h2, h3⟩ := h
  obtain ⟨f1, f2, e, k1, k2⟩ := satL.append.mp h1
  exact ⟨fp, ⟨f1, f2, e, k1, k2⟩, h2, h3⟩
theorem Sep.ex {α : Type} {f : α → Asn G} {H : Hp} {M : List (Asn G)} (h : Sep H (exA f :: M)) : ∃ x, Sep H (f x :: M) := by
  obtain ⟨fp, ⟨f1, f2, e, ⟨x, h1⟩, k⟩, h2, h3⟩ := h
  exact ⟨x, fp, ⟨f1, f2, e, h1, k⟩, h2, h3⟩
theorem Sep.exI {α : Type} {f : α → Asn G} {H : Hp} {M : List (Asn G)} (x : α) (h : Sep H (f x :: M)) : Sep H (exA f :: M) := by
  obtain ⟨fp, ⟨f1, f2, e, h1, k⟩, h2, h3⟩ := h
  exact ⟨fp, ⟨f1, f2, e, ⟨x, h1⟩, k⟩, h2, h3⟩
theorem Sep.and {p : Prop} {A : Asn G} {H : Hp} {M : List (Asn G)} (h : Sep H (andA p A :: M)) : p ∧ Sep H (A :: M) := by
  obtain ⟨fp, ⟨f1, f2, e, ⟨x, h1⟩, k⟩, h2, h3⟩ := h
  exact ⟨x, fp, ⟨f1, f2, e, h1, k⟩, h2, h3⟩
theorem Sep.andI {p : Prop} {A : Asn G} {H : Hp} {M : List (Asn G)} (x : p) (h : Sep H (A :: M)) : Sep H (andA p A :: M) := by
  obtain ⟨fp, ⟨f1, f2, e, h1, k⟩, h2, h3⟩ := h
  exact ⟨fp, ⟨f1, f2, e, ⟨x, h1⟩, k⟩, h2, h3⟩
/-- another view of the first one, over the same part -/
theorem Sep.view {A B : Asn G} {H : Hp} {M : List (Asn G)} (h : Sep H (A :: M)) (v : ∀ fp, A.sat H fp → B.sat H fp) : Sep H (B :: M) := by
  obtain ⟨fp, ⟨f1, f2, e, h1, k⟩, h2, h3⟩ := h
  exact ⟨fp, ⟨f1, f2, e, v f1 h1, k⟩, h2, h3⟩
theorem Sep.addFact {p : Hp → Prop} {st : ∀ H H', p H → Stab G H H' → p H'} {H : Hp} {M : List (Asn G)} (h : Sep H M) (x : p H) : Sep H (fact p st :: M) := by
  obtain ⟨fp, h1, h2, h3⟩ := h
  exact ⟨fp, ⟨[], fp, rfl, ⟨rfl, x⟩, h1⟩, h2, h3⟩
theorem Sep.getFact {p : Hp → Prop} {st : ∀ H H', p H → Stab G H H' → p H'} {H : Hp} {M : List (Asn G)} (h : Sep H M) {i : Nat} (e : M[i]? = some (fact p st)) : p H := by
  obtain ⟨fp, _, x⟩ := h.at e
  exact x
theorem Sep.getCell {H : Hp} {M : List (Asn G)} (h : Sep H M) {i : Nat} {a : Addr} {o : HO} (e : M[i]? = some (cell a o)) : H a = some o := by
  obtain ⟨fp, _, x⟩ := h.at e
  exact x
theorem same_new {H : Hp} {p : Addr} {o : HO} (h : H p = none) : Same H (upd H p o) := fun b u e => by
  rw [upd_ne (ne_of_none e h)]; exact e
/-- a new thing -/
theorem Sep.new {H : Hp} {M : List (Asn G)} (h : Sep H M) {p : Addr} {o : HO} (hp : H p = none) (n : per G o = false) : Sep (upd H p o) (cell p o :: M) := by
  have h' := h.more (same_new (o := o) hp)
  obtain ⟨fp, h1, h2, h3⟩ := h
  obtain ⟨_, k1, _, _⟩ := (⟨fp, h1, h2, h3⟩ : Sep H M)
  have q : satL (upd H p o) M fp := h1.loc (fun a m => by obtain ⟨u, e, _⟩ := h3 a m; exact upd_ne (ne_of_none e hp)) (.of_same (same_new hp))
  refine ⟨p :: fp, ⟨[p], fp, rfl, ⟨rfl, upd_same⟩, q⟩, List.nodup_cons.mpr ⟨fun m => ?_, h2⟩, fun a m => ?_⟩
  · obtain ⟨u, e, _⟩ := h3 p m
    rw [hp] at e; cases e
  · rcases List.mem_cons.mp m with rfl | m
    · exact ⟨o, upd_same, n⟩
    · obtain ⟨u, e, z⟩ := h3 a m
      exact ⟨u, by rw [upd_ne (ne_of_none e hp)]; exact e, z⟩
/-- a store at the first one's place -/
theorem Sep.put1 {H : Hp} {M : List (Asn G)} {a : Addr} {o o' : HO} (h : Sep H (cell a o :: M)) (n : per G o' = false) : Sep (upd H a o') (cell a o' :: M) := by
  obtain ⟨fp, ⟨f1, f2, e, ⟨e1, ho⟩, k⟩, h2, h3⟩ := h
  subst e1; subst e
  have nd : ¬ a ∈ f2 := (List.nodup_cons.mp h2).1
  obtain ⟨u, hu, nu⟩ := h3 a (by simp)
  have st : Stab G H (upd H a o') := fun b x hb pb => by
    by_cases z : b = a
    · subst z; rw [hu] at hb; cases hb; rw [nu] at pb; cases pb
    · rw [upd_ne z]; exact hb
  refine ⟨a :: f2, ⟨[a], f2, rfl, ⟨rfl, upd_same⟩, k.loc (fun b m => upd_ne fun z => nd (z ▸ m)) st⟩, h2, fun b m => ?_⟩
  rcases List.mem_cons.mp m with rfl | m
  · exact ⟨o', upd_same, n⟩
  · obtain ⟨x, hx, nx⟩ := h3 b (by simp [m])
    exact ⟨x, by rw [upd_ne (fun z => nd (by rw [← z]; exact m))]; exact hx, nx⟩
theorem Sep.put {H : Hp} {M : List (Asn G)} {i : Nat} {a : Addr} {o o' : HO} (h : Sep H M) (e : M[i]? = some (cell a o)) (n : per G o' = false) : Sep (upd H a o') (M.set i (cell a o')) :=
  ((h.perm (pull_perm e)).put1 n).perm (set_perm e)
/-- another view of the i-th one -/
theorem Sep.viewAt {A B : Asn G} {H : Hp} {M : List (Asn G)} {i : Nat} (h : Sep H M) (e : M[i]? = some A) (v : ∀ fp, A.sat H fp → B.sat H fp) : Sep H (M.set i B) :=
  ((h.perm (pull_perm e)).view v).perm (set_perm e)
end Ml

namespace Ml
open PySem L2
/-! ### plain programs: what is reckoned, an error, or a bound that is not kept -/
structure Exc where
  cls : Nat
  row : Int
  deriving DecidableEq, Repr
inductive R (α : Type) where
  | ok (a : α) | exc (x : Exc) | bad
  deriving DecidableEq, Repr
namespace R
variable {α β σ ρ : Type}
def bind : R α → (α → R β) → R β
  | .ok a, f => f a
  | .exc x, _ => .exc x
  | .bad, _ => .bad
@[simp] theorem bind_ok (a : α) (f : α → R β) : (R.ok a).bind f = f a := rfl
@[simp] theorem bind_exc (x : Exc) (f : α → R β) : (R.exc x : R α).bind f = .exc x := rfl
@[simp] theorem bind_bad (f : α → R β) : (R.bad : R α).bind f = .bad := rfl
theorem bind_assoc {γ : Type} (m : R α) (f : α → R β) (g : β → R γ) : (m.bind f).bind g = m.bind fun x => (f x).bind g := by cases m <;> rfl
def need (p : Prop) [Decidable p] (k : R α) : R α := if p then k else .bad
@[simp] theorem need_pos {p : Prop} [Decidable p] (h : p) (k : R α) : need p k = k := if_pos h
/-- what holds of the answer, or of the error -/
def wp : R α → (α → Prop) → (Exc → Prop) → Prop
  | .ok a, q, _ => q a
  | .exc x, _, e => e x
  | .bad, _, _ => False
theorem wp_bind {m : R α} {f : α → R β} {q : β → Prop} {e : Exc → Prop} (h : wp (m.bind f) q e) : wp m (fun a => wp (f a) q e) e := by
  cases m <;> exact h
theorem wp_need {p : Prop} [Decidable p] {k : R α} {q : α → Prop} {e : Exc → Prop} (h : wp (need p k) q e) : p ∧ wp k q e := by
  unfold need at h
  by_cases c : p
  · rw [if_pos c] at h; exact ⟨c, h⟩
  · rw [if_neg c] at h; exact h.elim
theorem wp_mono {m : R α} {q q' : α → Prop} {e e' : Exc → Prop} (h : wp m q e) (hq : ∀ a, q a → q' a) (he : ∀ x, e x → e' x) : wp m q' e' := by
  cases m with
  | ok a => exact hq a h
  | exc x => exact he x h
  | bad => exact h
theorem wp_of {m : R α} {a : α} {q : α → Prop} {e : Exc → Prop} (h : m = .ok a) (k : q a) : wp m q e := by rw [h]; exact k
theorem wp_if {c : Prop} [Decidable c] {a b : R α} {q : α → Prop} {e : Exc → Prop} (h : wp (if c then a else b) q e) : (c → wp a q e) ∧ (¬ c → wp b q e) := by
  by_cases x : c
  · rw [if_pos x] at h; exact ⟨fun _ => h, fun n => absurd x n⟩
  · rw [if_neg x] at h; exact ⟨fun y => absurd y x, fun _ => h⟩
end R
/-- a turn's end: on with s, out of the loop with s, out of the def with r -/
inductive Fl (σ ρ : Type) where
  | go (s : σ) | brk (s : σ) | out (r : ρ)
  deriving DecidableEq, Repr
section
variable {α β σ ρ : Type}
def forR (f : σ → α → R σ) : List α → σ → R σ
  | [], s => .ok s
  | x :: xs, s => (f s x).bind fun s => forR f xs s
def forF (f : σ → α → R (Fl σ ρ)) : List α → σ → R (Fl σ ρ)
  | [], s => .ok (.go s)
  | x :: xs, s => (f s x).bind fun r => match r with
    | .go s => forF f xs s
    | .brk s => .ok (.go s)
    | .out r => .ok (.out r)
def whileR (c : σ → R Bool) (f : σ → R σ) : Nat → σ → R σ
  | 0, s => (c s).bind fun b => if b = true then .bad else .ok s
  | n + 1, s => (c s).bind fun b => if b = true then (f s).bind fun s => whileR c f n s else .ok s
def whileF (c : σ → R Bool) (f : σ → R (Fl σ ρ)) : Nat → σ → R (Fl σ ρ)
  | 0, s => (c s).bind fun b => if b = true then .bad else .ok (.go s)
  | n + 1, s => (c s).bind fun b => if b = true then (f s).bind fun r => (match r with
    | .go s => whileF c f n s
    | .brk s => .ok (.go s)
    | .out r => .ok (.out r)) else .ok (.go s)
/-- a comprehension: what each item gives, the state carried -/
def compR (f : σ → α → R (σ × Option β)) : List α → σ → R (σ × List β)
  | [], s => .ok (s, [])
  | x :: xs, s => (f s x).bind fun r => (compR f xs r.1).bind fun t => .ok (t.1, match r.2 with
    | some y => y :: t.2
    | none => t.2)
end

/-! ### values -/
class Im (G : Gx) (α : Type) where
  im : Hp → V → α → Prop
  st : ∀ {H H' : Hp} {v : V} {x : α}, im H v x → Stab G H H' → im H' v x
class Fv (G : Gx) (α : Type) extends Im G α where
  enc : α → V
  im_iff : ∀ {H : Hp} {v : V} {x : α}, im H v x ↔ v = enc x
variable {G : Gx}
instance imInt : Im G Int := ⟨fun _ v x => v = .int x, fun h _ => h⟩
instance imBool : Im G Bool := ⟨fun _ v x => v = .bl x, fun h _ => h⟩
instance imStr : Im G Str := ⟨fun _ v x => v = .str x, fun h _ => h⟩
instance imUnit : Im G Unit := ⟨fun _ v _ => v = .non, fun h _ => h⟩
instance fInt : Fv G Int := { enc := .int, im_iff := .rfl }
instance fBool : Fv G Bool := { enc := .bl, im_iff := .rfl }
instance fStr : Fv G Str := { enc := .str, im_iff := .rfl }
instance fUnit : Fv G Unit := { enc := fun _ => .non, im_iff := .rfl }
/-- the script -/
structure Script where
  ns : List Int
instance : Im G Script := ⟨fun H v x => ∃ a, v = .ref a ∧ ((∃ o, H a = some (.frz o (.lst (x.ns.map V.int)))) ∨ ∃ o its n, List.lookup a G.K = some o ∧ o.cls = Value.type "list" ∧ o.dict = none ∧ o.data = Data.seq its n ∧ its.size ≤ sizeLine ∧ Vals (x.ns.map V.int) its.toList),
  fun ⟨a, e, h⟩ s => ⟨a, e, h.imp (fun ⟨o, h⟩ => ⟨o, s a _ h rfl⟩) id⟩⟩
theorem im_script {H : Hp} {v : V} {x : Script} (h : Im.im G H v x) : ∃ a, v = .ref a ∧ SqL G.K H a (x.ns.map V.int) := by
  obtain ⟨a, e, h⟩ := h
  refine ⟨a, e, ?_⟩
  rcases h with ⟨o, h⟩ | h
  · exact .inl (.inr ⟨o, h⟩)
  · exact .inr h
theorem sq_script {H : Hp} {a : Addr} {x : Script} (h : Im.im G H (.ref a) x) : SqL G.K H a (x.ns.map V.int) := by
  obtain ⟨b, e, h⟩ := im_script h
  cases e; exact h
def imL {α : Type} [Im G α] (H : Hp) : List V → List α → Prop
  | [], [] => True
  | v :: vs, x :: xs => Im.im G H v x ∧ imL H vs xs
  | _, _ => False
section
variable {α : Type} [Im G α] {H H' : Hp}
theorem imL.st : ∀ {vs : List V} {xs : List α}, imL (G := G) H vs xs → Stab G H H' → imL (G := G) H' vs xs
  | [], [], _, _ => True.intro
  | v :: vs, x :: xs, h, s => ⟨Im.st h.1 s, imL.st h.2 s⟩
  | [], _ :: _, h, _ => h
  | _ :: _, [], h, _ => h
theorem imL.len : ∀ {vs : List V} {xs : List α}, imL (G := G) H vs xs → vs.length = xs.length
  | [], [], _ => rfl
  | v :: vs, x :: xs, h => by rw [List.length_cons, List.length_cons, imL.len h.2]
  | [], _ :: _, h => h.elim
  | _ :: _, [], h => h.elim
theorem imL.app : ∀ {vs ws : List V} {xs ys : List α}, imL (G := G) H vs xs → imL (G := G) H ws ys → imL (G := G) H (vs ++ ws) (xs ++ ys)
  | [], _, [], _, _, h => h
  | v :: vs, _, x :: xs, _, h, k => ⟨h.1, imL.app h.2 k⟩
  | [], _, _ :: _, _, h, _ => h.elim
  | _ :: _, _, [], _, h, _ => h.elim
theorem imL.get : ∀ {vs : List V} {xs : List α} {i : Nat} {x : α}, imL (G := G) H vs xs → xs[i]? = some x → ∃ v, vs[i]? = some v ∧ Im.im G H v x
  | [], [], _, _, _, e => by simp at e
  | v :: vs, x :: xs, 0, y, h, e => by
    have : x = y := Option.some.inj e
    subst this
    exact ⟨v, rfl, h.1⟩
  | v :: vs, x :: xs, i + 1, y, h, e => by
    obtain ⟨u, h1, h2⟩ := imL.get (i := i) (x := y) h.2 (by simpa using e)
    exact ⟨u, by simpa using h1, h2⟩
  | [], _ :: _, _, _, h, _ => h.elim
  | _ :: _, [], _, _, h, _ => h.elim
theorem imL.getV : ∀ {vs : List V} {xs : List α} {i : Nat} {v : V}, imL (G := G) H vs xs → vs[i]? = some v → ∃ x, xs[i]? = some x ∧ Im.im G H v x
  | [], [], _, _, _, e => by simp at e
  | v :: vs, x :: xs, 0, y, h, e => by
    have : v = y := Option.some.inj e
    subst this
    exact ⟨x, rfl, h.1⟩
  | v :: vs, x :: xs, i + 1, y, h, e => by
    obtain ⟨u, h1, h2⟩ := imL.getV (i := i) (v := y) h.2 (by simpa using e)
    exact ⟨u, by simpa using h1, h2⟩
  | [], _ :: _, _, _, h, _ => h.elim
  | _ :: _, [], _, _, h, _ => h.elim
theorem imL.set : ∀ {vs : List V} {xs : List α} {i : Nat} {x : α} {v : V}, imL (G := G) H vs xs → Im.im G H v x → imL (G := G) H (vs.set i v) (xs.set i x)
  | [], [], _, _, _, _, _ => True.intro
  | v :: vs, x :: xs, 0, y, u, h, k => ⟨k, h.2⟩
  | v :: vs, x :: xs, i + 1, y, u, h, k => ⟨h.1, imL.set h.2 k⟩
  | [], _ :: _, _, _, _, h, _ => h.elim
  | _ :: _, [], _, _, _, h, _ => h.elim
theorem imL.take : ∀ {vs : List V} {xs : List α} (n : Nat), imL (G := G) H vs xs → imL (G := G) H (vs.take n) (xs.take n)
  | [], [], n, _ => by simp [imL]
  | v :: vs, x :: xs, 0, h => True.intro
  | v :: vs, x :: xs, n + 1, h => ⟨h.1, imL.take n h.2⟩
  | [], _ :: _, _, h => h.elim
  | _ :: _, [], _, h => h.elim
theorem imL.drop : ∀ {vs : List V} {xs : List α} (n : Nat), imL (G := G) H vs xs → imL (G := G) H (vs.drop n) (xs.drop n)
  | [], [], n, _ => by simp [imL]
  | v :: vs, x :: xs, 0, h => h
  | v :: vs, x :: xs, n + 1, h => imL.drop n h.2
  | [], _ :: _, _, h => h.elim
  | _ :: _, [], _, h => h.elim
end
section
variable {α : Type} [Fv G α] {H H' : Hp}
theorem imL.flat : ∀ {vs : List V} {xs : List α}, imL (G := G) H vs xs ↔ vs = xs.map (Fv.enc G)
  | [], [] => ⟨fun _ => rfl, fun _ => True.intro⟩
  | v :: vs, x :: xs => by
    show (Im.im G H v x ∧ imL (G := G) H vs xs) ↔ _
    rw [Fv.im_iff, imL.flat]
    simp
  | [], _ :: _ => by simp [imL]
  | _ :: _, [] => by simp [imL]
end

/-! ### lists that one owns -/
section
variable {α : Type} [Im G α]
def lstA (a : Addr) (xs : List α) : Asn G := ⟨fun H fp => fp = [a] ∧ ∃ vs, H a = some (.lst vs) ∧ imL (G := G) H vs xs,
  fun H H' fp ⟨e, vs, h, m⟩ k s => ⟨e, vs, by rw [k a (by rw [e]; simp)]; exact h, m.st s⟩⟩
/-- a value's fact -/
def imA (v : V) (x : α) : Asn G := fact (fun H => Im.im G H v x) fun H H' h s => Im.st h s
variable {H : Hp} {L : List (Asn G)}
theorem Sep.lst (h : Sep H L) {i : Nat} {a : Addr} {xs : List α} (e : L[i]? = some (lstA a xs)) : ∃ vs, H a = some (.lst vs) ∧ imL (G := G) H vs xs := by
  obtain ⟨fp, _, x⟩ := h.at e
  exact x
theorem Sep.im (h : Sep H L) {i : Nat} {v : V} {x : α} (e : L[i]? = some (imA v x)) : Im.im G H v x := h.getFact e
theorem Sep.addIm (h : Sep H L) {v : V} {x : α} (e : Im.im G H v x) : Sep H (imA v x :: L) := h.addFact e
/-- the list's own cell, and back -/
theorem Sep.openL (h : Sep H L) {i : Nat} {a : Addr} {xs : List α} (e : L[i]? = some (lstA a xs)) : ∃ vs, imL (G := G) H vs xs ∧ Sep H (L.set i (cell a (.lst vs))) := by
  obtain ⟨vs, e1, m⟩ := h.lst e
  exact ⟨vs, m, h.viewAt e fun fp ⟨q, _⟩ => ⟨q, e1⟩⟩
theorem Sep.closeL {i : Nat} {a : Addr} {vs : List V} {xs : List α} (h : Sep H L) (e : L[i]? = some (cell a (.lst vs))) (m : imL (G := G) H vs xs) : Sep H (L.set i (lstA a xs)) :=
  h.viewAt e fun fp ⟨q, r⟩ => ⟨q, vs, r, m⟩
theorem Sep.newL (h : Sep H L) {p : Addr} {vs : List V} {xs : List α} (hp : H p = none) (m : imL (G := G) H vs xs) : Sep (upd H p (.lst vs)) (lstA p xs :: L) :=
  (h.new (o := .lst vs) hp rfl).view fun fp ⟨q, r⟩ => ⟨q, vs, r, m.st (.of_same (same_new hp))⟩
theorem stab_put {a : Addr} {o o' : HO} (e : H a = some o) (n : per G o = false) : Stab G H (upd H a o') := fun b x hb pb => by
  by_cases z : b = a
  · subst z; rw [e] at hb; cases hb; rw [n] at pb; cases pb
  · rw [upd_ne z]; exact hb
theorem set_set {β : Type} {l : List β} {i : Nat} {x y : β} : (l.set i x).set i y = l.set i y := by simp
theorem get_set {β : Type} {l : List β} {i : Nat} {x y : β} (h : l[i]? = some x) : (l.set i y)[i]? = some y := by
  have : i < l.length := by
    have := List.getElem?_eq_some_iff.mp h
    exact this.1
  simp [this]
theorem Sep.putL (h : Sep H L) {i : Nat} {a : Addr} {xs ys : List α} {vs : List V} (e : L[i]? = some (lstA a xs)) (m : imL (G := G) H vs ys) : Sep (upd H a (.lst vs)) (L.set i (lstA a ys)) := by
  obtain ⟨us, mu, h1⟩ := h.openL e
  have e1 := get_set (y := cell (G := G) a (.lst us)) e
  have h2 := h1.put (o' := .lst vs) e1 rfl
  rw [set_set] at h2
  have st : Stab G H (upd H a (.lst vs)) := stab_put (h1.getCell e1) rfl
  have h3 := h2.closeL (get_set e) (m.st st)
  rw [set_set] at h3
  exact h3
end
end Ml

namespace Ml
open PySem L2
variable {G : Gx}
/-! ### what an expression comes to where nothing is made -/
def Ev (te : TE) (σ : St) (H : Hp) (v : V) : Prop := ∀ Q : VK, Q v H → te σ H Q
def Et (t : TT) (σ : St) (H : Hp) (b : Bool) : Prop := ∀ Q : Bool → Hp → Prop, Q b H → t σ H Q
def Ea (t : TA) (σ : St) (H : Hp) (vs : List V) : Prop := ∀ Q : List V → Hp → Prop, Q vs H → t σ H Q
def Eo (t : TO) (σ : St) (H : Hp) (o : Option Int) : Prop := ∀ Q : Option Int → Hp → Prop, Q o H → t σ H Q
section
variable {σ : St} {H : Hp} {ta tb tc te : TE} {t u : TT} {x y v : V} {i j : Int} {a b : Bool} {s z : Str} {vs : List V}
theorem ev_var {k : Nat} (h : σ[k]? = some (some v)) : Ev (tVar k) σ H v := fun _ q => ⟨v, h, q⟩
theorem ev_c : Ev (tC v) σ H v := fun _ q => q
theorem ev_op {r : R2} (ha : Ev ta σ H x) (hb : Ev tb σ H y) (hr : ∀ Q : VK, Q v H → r x y H Q) : Ev (tOp r ta tb) σ H v := fun Q q => ha _ (hb _ (hr _ q))
theorem ev_un {r : V → Hp → VK → Prop} (ha : Ev ta σ H x) (hr : ∀ Q : VK, Q v H → r x H Q) : Ev (tUn r ta) σ H v := fun Q q => ha _ (hr _ q)
theorem r_I0 {g : Int → Int → V} (Q : VK) (q : Q (g i j) H) : rI0 g (.int i) (.int j) H Q := ⟨i, j, rfl, rfl, q⟩
theorem r_I {C : Int → Int → Prop} {g : Int → Int → V} (c : C i j) (Q : VK) (q : Q (g i j) H) : rI C g (.int i) (.int j) H Q := ⟨i, j, rfl, rfl, c, q⟩
theorem ev_i0 {g : Int → Int → V} (ha : Ev ta σ H (.int i)) (hb : Ev tb σ H (.int j)) : Ev (tOp (rI0 g) ta tb) σ H (g i j) := ev_op ha hb fun Q q => r_I0 Q q
theorem ev_i {C : Int → Int → Prop} {g : Int → Int → V} (ha : Ev ta σ H (.int i)) (hb : Ev tb σ H (.int j)) (c : C i j) : Ev (tOp (rI C g) ta tb) σ H (g i j) := ev_op ha hb fun Q q => r_I c Q q
theorem ev_mul (ha : Ev ta σ H (.int i)) (hb : Ev tb σ H (.int j)) (c : CMul i j) : Ev (tOp (rI CMul fun i j => .int (i * j)) ta tb) σ H (.int (i * j)) := ev_i ha hb c
theorem ev_fdiv (ha : Ev ta σ H (.int i)) (hb : Ev tb σ H (.int j)) (c : 0 < j ∧ j < 1073741824) : Ev (tOp (rI CDiv fun i j => .int (i / j)) ta tb) σ H (.int (i / j)) := ev_i ha hb c
theorem ev_mod (ha : Ev ta σ H (.int i)) (hb : Ev tb σ H (.int j)) (c : 0 < j) : Ev (tOp (rI (fun _ j => 0 < j) fun i j => .int (i % j)) ta tb) σ H (.int (i % j)) := ev_i ha hb c
theorem ev_add (ha : Ev ta σ H (.int i)) (hb : Ev tb σ H (.int j)) : Ev (tOp (rI0 fun i j => .int (i + j)) ta tb) σ H (.int (i + j)) := ev_i0 ha hb
theorem ev_sub (ha : Ev ta σ H (.int i)) (hb : Ev tb σ H (.int j)) : Ev (tOp (rI0 fun i j => .int (i - j)) ta tb) σ H (.int (i - j)) := ev_i0 ha hb
theorem r_eqI (Q : VK) (q : Q (.bl (decide (i = j))) H) : rEq (.int i) (.int j) H Q := ⟨rfl, by
  have : decide (V.int i = V.int j) = decide (i = j) := by simp
  rw [this]; exact q⟩
theorem r_neI (Q : VK) (q : Q (.bl (!decide (i = j))) H) : rNe (.int i) (.int j) H Q := ⟨rfl, by
  have : decide (V.int i = V.int j) = decide (i = j) := by simp
  rw [this]; exact q⟩
theorem r_eqS (Q : VK) (q : Q (.bl (decide (s = z))) H) : rEq (.str s) (.str z) H Q := ⟨rfl, by
  have : decide (V.str s = V.str z) = decide (s = z) := by simp
  rw [this]; exact q⟩
theorem r_neS (Q : VK) (q : Q (.bl (!decide (s = z))) H) : rNe (.str s) (.str z) H Q := ⟨rfl, by
  have : decide (V.str s = V.str z) = decide (s = z) := by simp
  rw [this]; exact q⟩
theorem r_eqB (Q : VK) (q : Q (.bl (decide (a = b))) H) : rEq (.bl a) (.bl b) H Q := ⟨rfl, by
  have : decide (V.bl a = V.bl b) = decide (a = b) := by simp
  rw [this]; exact q⟩
theorem r_neB (Q : VK) (q : Q (.bl (!decide (a = b))) H) : rNe (.bl a) (.bl b) H Q := ⟨rfl, by
  have : decide (V.bl a = V.bl b) = decide (a = b) := by simp
  rw [this]; exact q⟩
theorem ev_eqI (ha : Ev ta σ H (.int i)) (hb : Ev tb σ H (.int j)) : Ev (tOp rEq ta tb) σ H (.bl (decide (i = j))) := ev_op ha hb fun Q q => r_eqI Q q
theorem ev_neI (ha : Ev ta σ H (.int i)) (hb : Ev tb σ H (.int j)) : Ev (tOp rNe ta tb) σ H (.bl (!decide (i = j))) := ev_op ha hb fun Q q => r_neI Q q
theorem ev_eqS (ha : Ev ta σ H (.str s)) (hb : Ev tb σ H (.str z)) : Ev (tOp rEq ta tb) σ H (.bl (decide (s = z))) := ev_op ha hb fun Q q => r_eqS Q q
theorem ev_neS (ha : Ev ta σ H (.str s)) (hb : Ev tb σ H (.str z)) : Ev (tOp rNe ta tb) σ H (.bl (!decide (s = z))) := ev_op ha hb fun Q q => r_neS Q q
theorem ev_eqB (ha : Ev ta σ H (.bl a)) (hb : Ev tb σ H (.bl b)) : Ev (tOp rEq ta tb) σ H (.bl (decide (a = b))) := ev_op ha hb fun Q q => r_eqB Q q
theorem ev_neB (ha : Ev ta σ H (.bl a)) (hb : Ev tb σ H (.bl b)) : Ev (tOp rNe ta tb) σ H (.bl (!decide (a = b))) := ev_op ha hb fun Q q => r_neB Q q
def rCatS : R2 := fun x y H Q => ∃ i j, x = .str i ∧ y = .str j ∧ i.length + j.length ≤ sizeLine ∧ Q (.str (i ++ j)) H
theorem op_catS {X : Cx} : OpR X (binaryOp .Add) rCatS := op_add_str
theorem r_catS (c : s.length + z.length ≤ sizeLine) (Q : VK) (q : Q (.str (s ++ z)) H) : rCatS (.str s) (.str z) H Q := ⟨s, z, rfl, rfl, c, q⟩
theorem ev_catS (ha : Ev ta σ H (.str s)) (hb : Ev tb σ H (.str z)) (c : s.length + z.length ≤ sizeLine) : Ev (tOp rCatS ta tb) σ H (.str (s ++ z)) := ev_op ha hb fun Q q => r_catS c Q q
/-- a sign in a written text -/
def rInSg : R2 := fun x y H Q => ∃ (c : Nat) (z : Str), x = .str ⟨#[c]⟩ ∧ y = .str z ∧ Q (.bl (decide (c ∈ z.cps.toList))) H
def rNiSg : R2 := fun x y H Q => ∃ (c : Nat) (z : Str), x = .str ⟨#[c]⟩ ∧ y = .str z ∧ Q (.bl (!decide (c ∈ z.cps.toList))) H
theorem op_inSg {X : Cx} : OpR X (compareOp .In) rInSg := op_in_sign
theorem op_niSg {X : Cx} : OpR X (compareOp .NotIn) rNiSg := op_notIn_sign
theorem ev_inSg {c : Nat} (ha : Ev ta σ H (.str ⟨#[c]⟩)) (hb : Ev tb σ H (.str z)) : Ev (tOp rInSg ta tb) σ H (.bl (decide (c ∈ z.cps.toList))) := ev_op ha hb fun Q q => ⟨c, z, rfl, rfl, q⟩
theorem ev_niSg {c : Nat} (ha : Ev ta σ H (.str ⟨#[c]⟩)) (hb : Ev tb σ H (.str z)) : Ev (tOp rNiSg ta tb) σ H (.bl (!decide (c ∈ z.cps.toList))) := ev_op ha hb fun Q q => ⟨c, z, rfl, rfl, q⟩
/-! tests -/
theorem et_test (h : Ev te σ H (.bl b)) : Et (tTest te) σ H b := fun _ q => h _ ⟨b, rfl, q⟩
theorem et_B (h : Ev te σ H (.bl b)) : Et (tB te) σ H b := fun _ q => h _ ⟨b, rfl, q⟩
theorem et_not (h : Et t σ H a) : Et (tNot t) σ H (!a) := fun _ q => h _ q
theorem et_and (h1 : Et t σ H a) (h2 : a = true → Et u σ H b) : Et (tAnd t u) σ H (a && b) := fun Q q => h1 _ (by
  cases a with
  | true => exact h2 rfl _ q
  | false => exact q)
theorem et_or (h1 : Et t σ H a) (h2 : a = false → Et u σ H b) : Et (tOr t u) σ H (a || b) := fun Q q => h1 _ (by
  cases a with
  | true => exact q
  | false => exact h2 rfl _ q)
theorem ev_andV (h1 : Ev ta σ H (.bl a)) (h2 : a = true → Ev tb σ H (.bl b)) : Ev (tAndV ta tb) σ H (.bl (a && b)) := fun Q q => h1 _ ⟨a, rfl, by
  cases a with
  | true => exact h2 rfl _ q
  | false => exact q⟩
theorem ev_orV (h1 : Ev ta σ H (.bl a)) (h2 : a = false → Ev tb σ H (.bl b)) : Ev (tOrV ta tb) σ H (.bl (a || b)) := fun Q q => h1 _ ⟨a, rfl, by
  cases a with
  | true => exact q
  | false => exact h2 rfl _ q⟩
theorem ev_notV (h1 : Ev ta σ H (.bl a)) : Ev (tNotV ta) σ H (.bl (!a)) := fun _ q => h1 _ ⟨a, rfl, q⟩
theorem ev_chainB {r r' : R2} (ha : Ev ta σ H x) (hb : Ev tb σ H y) (hc : a = true → Ev tc σ H v) (h1 : ∀ Q : VK, Q (.bl a) H → r x y H Q) (h2 : a = true → ∀ Q : VK, Q (.bl b) H → r' y v H Q) :
    Ev (tChain r r' ta tb tc) σ H (.bl (a && b)) := fun Q q => ha _ (hb _ (h1 _ ⟨a, rfl, by
  cases a with
  | true => exact hc rfl _ (h2 rfl _ q)
  | false => exact q⟩))
/-! arguments -/
theorem ea_nil : Ea tNil σ H [] := fun _ q => q
theorem ea_cons {tr : TA} (h : Ev ta σ H x) (hr : Ea tr σ H vs) : Ea (tCons ta tr) σ H (x :: vs) := fun _ q => h _ (hr _ q)
theorem eo_no : Eo tNoPart σ H none := fun _ q => q
theorem eo_some (h : Ev te σ H (.int i)) : Eo (tPart te) σ H (some i) := fun _ q => h _ ⟨i, rfl, q⟩
theorem ev_cb {r : List V → Hp → VK → Prop} {tr : TA} (h : Ea tr σ H vs) (hr : ∀ Q : VK, Q v H → r vs H Q) : Ev (tCB r tr) σ H v := fun Q q => h _ (hr _ q)
/-! lists read -/
variable {K : PySem.W.Frag} {α : Type}
theorem ev_ixSq {p : Addr} {ws : List V} (ha : Ev ta σ H (.ref p)) (hb : Ev tb σ H (.int i)) (hs : SqL K H p ws) (e : atI ws i = some v) : Ev (tOp (rIxL K) ta tb) σ H v := ev_op ha hb fun _ q => ⟨p, ws, i, v, rfl, rfl, hs, e, q⟩
theorem ev_ixS {c : Nat} (ha : Ev ta σ H (.str z)) (hb : Ev tb σ H (.int i)) (hl : z.length ≤ sizeLine) (e : atI z.cps.toList i = some c) : Ev (tOp rIxS ta tb) σ H (.str ⟨#[c]⟩) := ev_op ha hb fun _ q => ⟨z, i, c, rfl, rfl, hl, e, q⟩
theorem ev_slS {tl th : TO} {l h : Option Int} (ha : Ev ta σ H (.str z)) (h1 : Eo tl σ H l) (h2 : Eo th σ H h) (hl : z.length ≤ sizeLine) : Ev (tSl rSlS ta tl th) σ H (.str (cutS z l h)) := fun _ q => ha _ (h1 _ (h2 _ ⟨z, rfl, hl, q⟩))
def rLenSq (K : PySem.W.Frag) : List V → Hp → VK → Prop := fun xs H Q => ∃ p ys, xs = [.ref p] ∧ (SqL K H p ys ∨ SqT K H p ys) ∧ Q (.int ys.length) H
theorem call_lenSq {X : Cx} : CallR X (.builtin "len") (rLenSq X.K) := call_len_seq
def rLenS : List V → Hp → VK → Prop := fun xs H Q => ∃ z, xs = [.str z] ∧ z.length ≤ sizeLine ∧ Q (.int z.length) H
theorem call_lenS {X : Cx} : CallR X (.builtin "len") rLenS := call_len_str
theorem ev_lenL {p : Addr} {ws : List V} (ha : Ev ta σ H (.ref p)) (hs : SqL K H p ws) : Ev (tCB (rLenSq K) (tCons ta tNil)) σ H (.int ws.length) := ev_cb (ea_cons ha ea_nil) fun _ q => ⟨p, ws, rfl, .inl hs, q⟩
theorem ev_lenS (ha : Ev ta σ H (.str z)) (hl : z.length ≤ sizeLine) : Ev (tCB rLenS (tCons ta tNil)) σ H (.int z.length) := ev_cb (ea_cons ha ea_nil) fun _ q => ⟨z, rfl, hl, q⟩
end
/-! ### statements -/
section
variable {σ σ' : St} {H : Hp} {te : TE} {t : TT} {D : Ends} {t1 t2 tb : TS} {v : V} {b : Bool}
theorem st_seq (h : t1 { D with nx := t2 D } σ H) : tSeq t1 t2 D σ H := h
theorem st_set {i : Nat} (h : Ev te σ H v) (e : σ.set i (some v) = σ') (k : D.nx σ' H) : tAsg te (gName i) D σ H := h _ (by subst e; exact k)
theorem st_ret (h : Ev te σ H v) (k : D.rt v H) : tRet te D σ H := h _ k
theorem st_drop (h : Ev te σ H v) (k : D.nx σ H) : tDrop te D σ H := h _ k
theorem st_if (h : Et t σ H b) (h1 : b = true → t1 D σ H) (h2 : b = false → t2 D σ H) : tIfS t t1 t2 D σ H := h _ (by
  cases b with
  | true => exact h1 rfl
  | false => exact h2 rfl)
theorem ev_to (h : Ev te σ H v) {Q : VK} (q : Q v H) : te σ H Q := h Q q
theorem ea_to {t : TA} {vs : List V} (h : Ea t σ H vs) {Q : List V → Hp → Prop} (q : Q vs H) : t σ H Q := h Q q
theorem eo_to {t : TO} {o : Option Int} (h : Eo t σ H o) {Q : Option Int → Hp → Prop} (q : Q o H) : t σ H Q := h Q q
theorem et_to (h : Et t σ H b) {Q : Bool → Hp → Prop} (q : Q b H) : t σ H Q := h Q q
end

/-! ### loops -/
section
variable {α β τ ρ : Type} {H : Hp} {σ : St} {D : Ends} {tb : TS} {g : TG} {K : PySem.W.Frag}
/-- a walk J over the items xs: at turn i it yields a v of which the i-th item holds -/
structure Wk (J : It) (I : St → Hp → Prop) (im : Hp → V → α → Prop) (xs : List α) : Prop where
  go : ∀ i σ H, I σ H → i < xs.length → J.go i H
  yl : ∀ i σ H v H' x, I σ H → xs[i]? = some x → J.yld i H v H' → I σ H' ∧ im H' v x
  sp : ∀ σ H, I σ H → J.stop xs.length H
/-- for .. in ..: the state s : τ, I s its place in slots and heap; each turn reckons f -/
theorem for_walk {J : It} {I : τ → St → Hp → Prop} {im : Hp → V → α → Prop} {xs : List α} {f : τ → α → R τ} {k : τ → Prop} {e : Exc → Prop} {s : τ}
    (w : ∀ s, Wk J (I s) im xs) (h0 : I s σ H) (hm : R.wp (forR f xs s) k e)
    (turn : ∀ (s : τ) (x : α) (v : V) (σ : St) (H : Hp) (q : τ → Prop) (N : St → Hp → Prop), I s σ H → im H v x → R.wp (f s x) q e → (∀ s' σ' H', q s' → I s' σ' H' → N σ' H') → g v σ H fun σ2 H2 => tb { D with nx := N, ct := N, bk := D.nx } σ2 H2)
    (done : ∀ s σ H, k s → I s σ H → D.nx σ H) :
    ∃ W : Nat → Nat → St → Hp → Prop, (∃ m, W 0 m σ H) ∧ ∀ i m σ H, W i m σ H →
      (J.stop i H ∧ D.nx σ H) ∨ (J.go i H ∧ ∃ N : St → Hp → Prop, (∀ σ' H', N σ' H' → ∃ m', m' < m ∧ W (i + 1) m' σ' H') ∧ ∀ x H', J.yld i H x H' → g x σ H' fun σ2 H2 => tb { D with nx := N, ct := N, bk := D.nx } σ2 H2) := by
  refine ⟨fun i m σ H => m = xs.length - i ∧ i ≤ xs.length ∧ ∃ s, I s σ H ∧ R.wp (forR f (xs.drop i) s) k e, ⟨xs.length, by simp, Nat.zero_le _, s, h0, by simpa using hm⟩, ?_⟩
  rintro i m σ H ⟨rfl, hi, s, hI, hw⟩
  by_cases c : i < xs.length
  · have ed : xs.drop i = xs[i] :: xs.drop (i + 1) := List.drop_eq_getElem_cons c
    rw [ed] at hw
    refine .inr ⟨(w s).go i σ H hI c, fun σ' H' => ∃ s', I s' σ' H' ∧ R.wp (forR f (xs.drop (i + 1)) s') k e, fun σ' H' ⟨s', h1, h2⟩ => ⟨xs.length - (i + 1), by omega, rfl, c, s', h1, h2⟩, fun v H' y => ?_⟩
    obtain ⟨hI', hv⟩ := (w s).yl i σ H v H' xs[i] hI (List.getElem?_eq_getElem c) y
    exact turn s xs[i] v σ H' _ _ hI' hv (R.wp_bind hw) fun s' σ' H'' q hI'' => ⟨s', hI'', q⟩
  · have ei : i = xs.length := by omega
    subst ei
    rw [List.drop_length] at hw
    exact .inl ⟨(w s).sp σ H hI, done s σ H hw hI⟩
/-- .. whose turns may leave it -/
theorem for_walkF {J : It} {I : τ → St → Hp → Prop} {im : Hp → V → α → Prop} {xs : List α} {f : τ → α → R (Fl τ ρ)} {k : Fl τ ρ → Prop} {e : Exc → Prop} {s : τ}
    (w : ∀ s, Wk J (I s) im xs) (h0 : I s σ H) (hm : R.wp (forF f xs s) k e)
    (turn : ∀ (s : τ) (x : α) (v : V) (σ : St) (H : Hp) (q : Fl τ ρ → Prop) (N B : St → Hp → Prop), I s σ H → im H v x → R.wp (f s x) q e → (∀ s' σ' H', q (.go s') → I s' σ' H' → N σ' H') → (∀ s' σ' H', q (.brk s') → I s' σ' H' → B σ' H') → (∀ r, q (.out r) → k (.out r)) →
      g v σ H fun σ2 H2 => tb { D with nx := N, ct := N, bk := B } σ2 H2)
    (done : ∀ s σ H, k (.go s) → I s σ H → D.nx σ H) :
    ∃ W : Nat → Nat → St → Hp → Prop, (∃ m, W 0 m σ H) ∧ ∀ i m σ H, W i m σ H →
      (J.stop i H ∧ D.nx σ H) ∨ (J.go i H ∧ ∃ N : St → Hp → Prop, (∀ σ' H', N σ' H' → ∃ m', m' < m ∧ W (i + 1) m' σ' H') ∧ ∀ x H', J.yld i H x H' → g x σ H' fun σ2 H2 => tb { D with nx := N, ct := N, bk := D.nx } σ2 H2) := by
  refine ⟨fun i m σ H => m = xs.length - i ∧ i ≤ xs.length ∧ ∃ s, I s σ H ∧ R.wp (forF f (xs.drop i) s) k e, ⟨xs.length, by simp, Nat.zero_le _, s, h0, by simpa using hm⟩, ?_⟩
  rintro i m σ H ⟨rfl, hi, s, hI, hw⟩
  by_cases c : i < xs.length
  · have ed : xs.drop i = xs[i] :: xs.drop (i + 1) := List.drop_eq_getElem_cons c
    rw [ed] at hw
    refine .inr ⟨(w s).go i σ H hI c, fun σ' H' => ∃ s', I s' σ' H' ∧ R.wp (forF f (xs.drop (i + 1)) s') k e, fun σ' H' ⟨s', h1, h2⟩ => ⟨xs.length - (i + 1), by omega, rfl, c, s', h1, h2⟩, fun v H' y => ?_⟩
    obtain ⟨hI', hv⟩ := (w s).yl i σ H v H' xs[i] hI (List.getElem?_eq_getElem c) y
    have hw' := R.wp_bind hw
    exact turn s xs[i] v σ H' _ _ _ hI' hv hw' (fun s' σ' H'' q hI'' => ⟨s', hI'', q⟩) (fun s' σ' H'' q hI'' => done s' σ' H'' q hI'') fun r q => q
  · have ei : i = xs.length := by omega
    subst ei
    rw [List.drop_length] at hw
    exact .inl ⟨(w s).sp σ H hI, done s σ H hw hI⟩
/-- a comprehension -/
theorem lc_walk {J : It} {I : Addr → τ → List β → Hp → Prop} {im : Hp → V → α → Prop} [Im G β] {xs : List α} {f : τ → α → R (τ × Option β)} {k : τ × List β → Prop} {e : Exc → Prop} {s : τ} {tt : TT} {te : TE} {vs : List Nat} {Q : VK} {Dr : Addr}
    (w : ∀ s ys, Wk J (fun _ H => I Dr s ys H) im xs) (h0 : I Dr s [] (upd H Dr (.lst []))) (hm : R.wp (compR f xs s) k e) (hl : xs.length ≤ sizeLine)
    (turn : ∀ (s : τ) (ys : List β) (x : α) (v : V) (H : Hp) (q : τ × Option β → Prop) (Nx : Hp → Prop), I Dr s ys H → im H v x → R.wp (f s x) q e → ys.length < sizeLine →
      (∀ s' y u H', q (s', some y) → Im.im G H' u y → I Dr s' ys H' → ∃ acc, H' Dr = some (.lst acc) ∧ acc.length < sizeLine ∧ Nx (upd H' Dr (.lst (acc ++ [u])))) → (∀ s' H', q (s', none) → I Dr s' ys H' → Nx H') →
      g v (wipe σ vs) H fun σ2 H2 => wipe σ2 vs = wipe σ vs ∧ tt σ2 H2 fun b H3 => if b = true then te σ2 H3 fun y H4 => ∃ acc, H4 Dr = some (.lst acc) ∧ acc.length < sizeLine ∧ Nx (upd H4 Dr (.lst (acc ++ [y]))) else Nx H3)
    (app : ∀ s ys y u H, I Dr s ys H → Im.im G H u y → ∃ acc, H Dr = some (.lst acc) ∧ acc.length = ys.length ∧ I Dr s (ys ++ [y]) (upd H Dr (.lst (acc ++ [u]))))
    (done : ∀ s ys H, k (s, ys) → I Dr s ys H → Q (.ref Dr) H) :
    ∃ W : Nat → Nat → Hp → Prop, (∃ m, W 0 m (upd H Dr (.lst []))) ∧ ∀ i m H, W i m H →
      (J.stop i H ∧ Q (.ref Dr) H) ∨ (J.go i H ∧ ∃ Nx : Hp → Prop, (∀ H', Nx H' → ∃ m', m' < m ∧ W (i + 1) m' H') ∧ ∀ x H', J.yld i H x H' → g x (wipe σ vs) H' fun σ2 H2 => wipe σ2 vs = wipe σ vs ∧ tt σ2 H2 fun b H3 =>
        if b = true then te σ2 H3 fun y H4 => ∃ acc, H4 Dr = some (.lst acc) ∧ acc.length < sizeLine ∧ Nx (upd H4 Dr (.lst (acc ++ [y]))) else Nx H3) := by
  refine ⟨fun i m H => m = xs.length - i ∧ i ≤ xs.length ∧ ∃ s ys, ys.length ≤ i ∧ I Dr s ys H ∧ R.wp (compR f (xs.drop i) s) (fun t => k (t.1, ys ++ t.2)) e, ⟨xs.length, by simp, Nat.zero_le _, s, [], Nat.le_refl _, h0, by simpa using hm⟩, ?_⟩
  rintro i m H ⟨rfl, hi, s, ys, hy, hI, hw⟩
  by_cases c : i < xs.length
  · have ed : xs.drop i = xs[i] :: xs.drop (i + 1) := List.drop_eq_getElem_cons c
    rw [ed] at hw
    refine .inr ⟨(w s ys).go i [] H hI c, fun H' => ∃ s' ys', ys'.length ≤ i + 1 ∧ I Dr s' ys' H' ∧ R.wp (compR f (xs.drop (i + 1)) s') (fun t => k (t.1, ys' ++ t.2)) e,
      fun H' ⟨s', ys', h0, h1, h2⟩ => ⟨xs.length - (i + 1), by omega, rfl, c, s', ys', h0, h1, h2⟩, fun v H' y => ?_⟩
    obtain ⟨hI', hv⟩ := (w s ys).yl i [] H v H' xs[i] hI (List.getElem?_eq_getElem c) y
    have hw' := R.wp_bind hw
    refine turn s ys xs[i] v H' _ _ hI' hv hw' (by omega) (fun s' y u H'' q hu hI'' => ?_) (fun s' H'' q hI'' => ?_)
    · have q' := R.wp_bind q
      obtain ⟨acc, ea, la, hI3⟩ := app s' ys y u H'' hI'' hu
      refine ⟨acc, ea, by omega, s', ys ++ [y], by simp; omega, hI3, ?_⟩
      refine R.wp_mono q' (fun t ht => ?_) fun _ z => z
      have ht' : k (t.1, ys ++ y :: t.2) := ht
      rw [List.append_assoc]; exact ht'
    · have q' := R.wp_bind q
      exact ⟨s', ys, by omega, hI'', R.wp_mono q' (fun t ht => ht) fun _ z => z⟩
  · have ei : i = xs.length := by omega
    subst ei
    rw [List.drop_length] at hw
    have hw : k (s, ys ++ []) := hw
    rw [List.append_nil] at hw
    exact .inl ⟨(w s ys).sp [] H hI, done s ys H hw hI⟩
end
end Ml

namespace Ml
open PySem L2
variable {G : Gx}
/-! ### items by place, in plain Lean -/
def idxR {α : Type} (xs : List α) (i : Int) : R α := match atI xs i with
  | some x => .ok x
  | none => .bad
theorem wp_idx {α ρ : Type} {xs : List α} {i : Int} {f : α → R ρ} {q : ρ → Prop} {e : Exc → Prop} (h : R.wp ((idxR xs i).bind f) q e) : ∃ x, atI xs i = some x ∧ R.wp (f x) q e := by
  unfold idxR at h
  cases c : atI xs i with
  | some x => rw [c] at h; exact ⟨x, rfl, h⟩
  | none => rw [c] at h; exact h.elim
theorem atI_map {α β : Type} {xs : List α} {f : α → β} {i : Int} {x : α} (h : atI xs i = some x) : atI (xs.map f) i = some (f x) := by
  unfold atI at h ⊢
  rw [List.length_map]
  cases e : ixN xs.length i with
  | none => rw [e] at h; cases h
  | some j =>
    rw [e] at h
    show (xs.map f)[j]? = some (f x)
    have h : xs[j]? = some x := h
    rw [List.getElem?_map, h]; rfl
theorem atI_im {α : Type} [Im G α] {H : Hp} {vs : List V} {xs : List α} {i : Int} {x : α} (m : imL (G := G) H vs xs) (h : atI xs i = some x) : ∃ v, atI vs i = some v ∧ Im.im G H v x := by
  unfold atI at h ⊢
  rw [m.len]
  cases e : ixN xs.length i with
  | none => rw [e] at h; cases h
  | some j =>
    rw [e] at h
    exact m.get h
theorem atI_ok {α : Type} {xs : List α} {i : Int} (h0 : 0 ≤ i) (h1 : i < xs.length) : ∃ x, xs[i.toNat]? = some x ∧ atI xs i = some x := by
  have hj : i.toNat < xs.length := by omega
  refine ⟨xs[i.toNat], List.getElem?_eq_getElem hj, ?_⟩
  unfold atI ixN
  rw [if_pos h0, if_pos h1]
  exact List.getElem?_eq_getElem hj
theorem idxR_ok {α : Type} {xs : List α} {i : Int} {x : α} (h0 : 0 ≤ i) (h1 : xs[i.toNat]? = some x) : idxR xs i = .ok x := by
  have hl : i.toNat < xs.length := (List.getElem?_eq_some_iff.mp h1).1
  obtain ⟨y, hy, h⟩ := atI_ok (xs := xs) h0 (by omega)
  rw [h1] at hy; cases hy
  unfold idxR; rw [h]
/-- one sign as a text -/
abbrev sg (c : Nat) : Str := ⟨#[c]⟩
def mulOk (i j : Int) : Prop := (-(2 ^ 64) < i ∧ i < 2 ^ 64) ∨ (-(2 ^ 64) < j ∧ j < 2 ^ 64)
instance (i j : Int) : Decidable (mulOk i j) := by unfold mulOk; infer_instance
theorem mulOk_c {i j : Int} (h : mulOk i j) : CMul i j := h
def rngL (lo : Int) (n : Nat) : List Int := (List.range n).map fun (i : Nat) => lo + (i : Int)
theorem rngL_len (lo : Int) (n : Nat) : (rngL lo n).length = n := by simp [rngL]
theorem rngL_get {lo : Int} {n i : Nat} {x : Int} (h : (rngL lo n)[i]? = some x) : x = lo + (i : Int) ∧ i < n := by
  have hl : i < (rngL lo n).length := (List.getElem?_eq_some_iff.mp h).1
  rw [rngL_len] at hl
  unfold rngL at h
  rw [List.getElem?_map, List.getElem?_range hl] at h
  exact ⟨(Option.some.inj h).symm, hl⟩
/-! ### what is walked -/
section
variable {α τ : Type} {I : St → Hp → Prop} {K : PySem.W.Frag} {a : Addr}
theorem wk_list [Im G α] {xs : List α} (h : ∀ σ H, I σ H → ∃ vs, SqL K H a vs ∧ imL (G := G) H vs xs) : Wk (Itl K a) I (Im.im G) xs where
  go := fun i σ H hI hi => by
    obtain ⟨vs, s, m⟩ := h σ H hI
    have hl : i < vs.length := by rw [m.len]; exact hi
    exact ⟨vs, vs[i], s, List.getElem?_eq_getElem hl⟩
  yl := fun i σ H v H' x hI hx y => by
    obtain ⟨vs, s, m⟩ := h σ H hI
    obtain ⟨rfl, y⟩ := y
    obtain ⟨u, hu, im⟩ := m.get hx
    have e := y vs s
    rw [hu] at e; cases e
    exact ⟨hI, im⟩
  sp := fun σ H hI => by
    obtain ⟨vs, s, m⟩ := h σ H hI
    exact ⟨vs, s, by rw [m.len]; exact Nat.le_refl _⟩
theorem wk_range {lo : Int} {n : Nat} : Wk (Itr lo n) I (fun _ v (x : Int) => v = .int x) (rngL lo n) where
  go := fun i σ H _ hi => by rw [rngL_len] at hi; exact hi
  yl := fun i σ H v H' x hI hx y => by
    obtain ⟨rfl, y⟩ := y
    obtain ⟨e, _⟩ := rngL_get hx
    exact ⟨hI, by rw [y, e]⟩
  sp := fun σ H _ => by rw [rngL_len]; exact Nat.le_refl _
theorem wk_str {z : Str} : Wk (Its z) I (fun _ v (c : Nat) => v = .str (sg c)) z.cps.toList where
  go := fun i σ H _ hi => by show i < z.cps.size; simpa using hi
  yl := fun i σ H v H' x hI hx y => by
    obtain ⟨rfl, c, hc, y⟩ := y
    have : z.cps[i]? = some x := by simpa using hx
    rw [hc] at this; cases this
    exact ⟨hI, y⟩
  sp := fun σ H _ => by show z.cps.size ≤ _; simp
end
theorem Sep.sq {α : Type} [Im G α] {H : Hp} {L : List (Asn G)} (h : Sep H L) {i : Nat} {a : Addr} {xs : List α} (e : L[i]? = some (lstA a xs)) : ∃ vs, SqL G.K H a vs ∧ imL (G := G) H vs xs := by
  obtain ⟨vs, e, m⟩ := h.lst e
  exact ⟨vs, .inl (.inl e), m⟩
theorem Sep.sqF {α : Type} [Fv G α] {H : Hp} {L : List (Asn G)} (h : Sep H L) {i : Nat} {a : Addr} {xs : List α} (e : L[i]? = some (lstA a xs)) : SqL G.K H a (xs.map (Fv.enc G)) := by
  obtain ⟨vs, e, m⟩ := h.sq e
  rw [imL.flat.mp m] at e
  exact e
/-! ### making, changing: each step leaves the next heap by its assertions alone -/
section
variable {σ σ' : St} {H : Hp} {L L' : List (Asn G)} {D : Ends} {Q : VK} {te ta tb : TE} {α β : Type}
theorem c_op {r : R2} (h : ta σ H fun x H1 => tb σ H1 fun y H2 => r x y H2 Q) : tOp r ta tb σ H Q := h
theorem c_cons {tr : TA} {P : List V → Hp → Prop} (h : ta σ H fun x H1 => tr σ H1 fun xs H2 => P (x :: xs) H2) : tCons ta tr σ H P := h
theorem c_nil {P : List V → Hp → Prop} (h : P [] H) : tNil σ H P := h
theorem c_call {sp : Sp} {dvs : List V} {E : XK} {t : TA} (h : t σ H fun vs H1 => sp (vs ++ dvs) H1 Q E) : tCall sp dvs E t σ H Q := h
theorem c_cb {r : List V → Hp → VK → Prop} {t : TA} (h : t σ H fun vs H1 => r vs H1 Q) : tCB r t σ H Q := h
theorem c_asg {i : Nat} (h : te σ H fun v H1 => D.nx (σ.set i (some v)) H1) : tAsg te (gName i) D σ H := h
theorem c_ret (h : te σ H D.rt) : tRet te D σ H := h
theorem c_drop (h : te σ H fun _ H1 => D.nx σ H1) : tDrop te D σ H := h
theorem c_set {i : Nat} {v : V} (e : σ.set i (some v) = σ') (h : D.nx σ' H) : D.nx (σ.set i (some v)) H := by rw [e]; exact h
theorem c_if {t : TT} {t1 t2 : TS} (h : t σ H fun b H1 => if b = true then t1 D σ H1 else t2 D σ H1) : tIfS t t1 t2 D σ H := h
theorem c_test {P : Bool → Hp → Prop} (h : te σ H fun x H1 => ∃ k, x = .bl k ∧ P k H1) : tTest te σ H P := h
theorem c_B {P : Bool → Hp → Prop} (h : te σ H fun x H1 => ∃ k, x = .bl k ∧ P k H1) : tB te σ H P := h
theorem c_bool {b : Bool} {P : Bool → Hp → Prop} (h : P b H) : ∃ k, V.bl b = .bl k ∧ P k H := ⟨b, rfl, h⟩
theorem c_ite {b : Bool} {A B : Prop} (h1 : b = true → A) (h2 : b = false → B) : if b = true then A else B := by
  cases b with
  | true => exact h1 rfl
  | false => exact h2 rfl
theorem c_not {t : TT} {P : Bool → Hp → Prop} (h : t σ H fun c H1 => P (!c) H1) : tNot t σ H P := h
theorem c_and {t u : TT} {P : Bool → Hp → Prop} (h : t σ H fun c H1 => if c = true then u σ H1 P else P false H1) : tAnd t u σ H P := h
theorem c_or {t u : TT} {P : Bool → Hp → Prop} (h : t σ H fun c H1 => if c = true then P true H1 else u σ H1 P) : tOr t u σ H P := h
theorem c_andV (h : ta σ H fun x H1 => ∃ c, x = .bl c ∧ if c = true then tb σ H1 Q else Q (.bl false) H1) : tAndV ta tb σ H Q := h
theorem c_orV (h : ta σ H fun x H1 => ∃ c, x = .bl c ∧ if c = true then Q (.bl true) H1 else tb σ H1 Q) : tOrV ta tb σ H Q := h
theorem c_notV (h : ta σ H fun x H1 => ∃ c, x = .bl c ∧ Q (.bl (!c)) H1) : tNotV ta σ H Q := h
theorem c_ifE {t : TT} (h : t σ H fun c H1 => if c = true then ta σ H1 Q else tb σ H1 Q) : tIf t ta tb σ H Q := h
theorem c_b1 {c : Bool} {A : Bool → Prop} (h : A c) : ∃ k, V.bl c = .bl k ∧ A k := ⟨c, rfl, h⟩
/-- a new list of written items -/
def lstK (Q : VK) : List V → Hp → Prop := fun xs H1 => xs.length ≤ sizeLine ∧ ∀ p, H1 p = none → Q (.ref p) (upd H1 p (.lst xs))
def tupK (Q : VK) : List V → Hp → Prop := fun xs H1 => xs.length ≤ sizeLine ∧ ∀ p, H1 p = none → Q (.ref p) (upd H1 p (.tup xs))
theorem k_lst [Im G α] {vs : List V} {xs : List α} (hS : Sep H L) (m : imL (G := G) H vs xs) (z : vs.length ≤ sizeLine) (k : ∀ p H', Sep H' (lstA p xs :: L) → Q (.ref p) H') :
    lstK Q vs H := ⟨z, fun p hp => k p _ (hS.newL hp m)⟩
theorem c_lst {t : TA} (h : t σ H (lstK Q)) : tLst t σ H Q := h
theorem c_tup {t : TA} (h : t σ H (tupK Q)) : tTup t σ H Q := h
theorem c_bm {K : PySem.W.Frag} {T : String} {r : V → List V → Hp → VK → Prop} {to : TE} {t : TA} (h : to σ H fun x H1 => tyV K T x H1 ∧ t σ H1 fun xs H2 => r x xs H2 Q) : tBM K T r to t σ H Q := h
theorem c_bm0 {K : PySem.W.Frag} {T : String} {r : V → List V → Hp → VK → Prop} {to : TE} (h : to σ H fun x H1 => tyV K T x H1 ∧ r x [] H1 Q) : tBM0 K T r to σ H Q := h
theorem tyL [Im G α] {i : Nat} {a : Addr} {xs : List α} (hS : Sep H L) (e : L[i]? = some (lstA a xs)) : tyV G.K "list" (.ref a) H := by
  obtain ⟨vs, h, _⟩ := hS.sq e
  exact .inl ⟨rfl, vs, h⟩
theorem k_append [Im G α] {i : Nat} {a : Addr} {xs : List α} {x : α} {v : V} (hS : Sep H L) (e : L[i]? = some (lstA a xs)) (hv : Im.im G H v x) (z : xs.length < sizeLine) (e2 : L.set i (lstA a (xs ++ [x])) = L')
    (k : ∀ H', Sep H' L' → Q .non H') : rAppend (.ref a) [v] H Q := by
  obtain ⟨vs, h, m⟩ := hS.lst e
  refine ⟨a, vs, v, rfl, rfl, h, by rw [m.len]; exact z, k _ ?_⟩
  subst e2
  exact hS.putL e (m.app (vs := vs) (ws := [v]) ⟨hv, True.intro⟩)
theorem k_clear [Im G α] {i : Nat} {a : Addr} {xs : List α} (hS : Sep H L) (e : L[i]? = some (lstA a xs)) (e2 : L.set i (lstA a ([] : List α)) = L')
    (k : ∀ H', Sep H' L' → Q .non H') : rClear (.ref a) [] H Q := by
  obtain ⟨vs, h, m⟩ := hS.lst e
  refine ⟨a, vs, rfl, rfl, h, k _ ?_⟩
  subst e2
  exact hS.putL (vs := []) (ys := ([] : List α)) e True.intro
theorem k_cat [Im G α] {i j : Nat} {a b : Addr} {xs ys : List α} (hS : Sep H L) (e1 : L[i]? = some (lstA a xs)) (e2 : L[j]? = some (lstA b ys)) (z : xs.length + ys.length ≤ sizeLine)
    (k : ∀ p H', Sep H' (lstA p (xs ++ ys) :: L) → Q (.ref p) H') : rCat (.ref a) (.ref b) H Q := by
  obtain ⟨vs, h, m⟩ := hS.lst e1
  obtain ⟨ws, h', m'⟩ := hS.lst e2
  exact ⟨a, b, vs, ws, rfl, rfl, h, h', by rw [m.len, m'.len]; exact z, fun p hp => k p _ (hS.newL hp (m.app m'))⟩
/-- xs[i] = v -/
theorem k_setL [Im G α] {n : Nat} {a : Addr} {xs : List α} {x : α} {v : V} {i : Int} {P : Hp → Prop} (hS : Sep H L) (e : L[n]? = some (lstA a xs)) (hv : Im.im G H v x) (j : Nat) (hj : ixN xs.length i = some j) (e2 : L.set n (lstA a (xs.set j x)) = L')
    (k : ∀ H', Sep H' L' → P H') : rSetL (.ref a) (.int i) v H P := by
  obtain ⟨vs, h, m⟩ := hS.lst e
  refine ⟨a, vs, i, j, rfl, rfl, h, by rw [m.len]; exact hj, k _ ?_⟩
  subst e2
  exact hS.putL e (m.set hv)
def cutL (xs : List α) (lo hi : Option Int) : List α := (xs.drop (HT.sIx xs.length 0 lo)).take (HT.sIx xs.length xs.length hi - HT.sIx xs.length 0 lo)
theorem cutL_im [Im G α] {vs : List V} {xs : List α} {lo hi : Option Int} (m : imL (G := G) H vs xs) : imL (G := G) H (cutV vs lo hi) (cutL xs lo hi) := by
  unfold cutV cutL
  rw [m.len]
  exact (m.drop _).take _
theorem k_slL [Im G α] {n : Nat} {a : Addr} {xs : List α} {lo hi : Option Int} (hS : Sep H L) (e : L[n]? = some (lstA a xs))
    (k : ∀ p H', Sep H' (lstA p (cutL xs lo hi) :: L) → Q (.ref p) H') : rSlL G.K (.ref a) lo hi H Q := by
  obtain ⟨vs, h, m⟩ := hS.sq e
  exact ⟨a, vs, rfl, h, fun p hp => k p _ (hS.newL hp (cutL_im m))⟩
theorem c_sl {r : V → Option Int → Option Int → Hp → VK → Prop} {tl th : TO} (h : te σ H fun x H1 => tl σ H1 fun l H2 => th σ H2 fun u H3 => r x l u H3 Q) : tSl r te tl th σ H Q := h
def rListSq (K : PySem.W.Frag) : List V → Hp → VK → Prop := fun xs H Q => ∃ p ys, xs = [.ref p] ∧ (SqL K H p ys ∨ SqT K H p ys) ∧ ∀ l, H l = none → Q (.ref l) (upd H l (.lst ys))
theorem call_listSq {X : Cx} : CallR X (.type "list") (rListSq X.K) := call_list_of
theorem k_list [Im G α] {n : Nat} {a : Addr} {xs : List α} (hS : Sep H L) (e : L[n]? = some (lstA a xs)) (k : ∀ p H', Sep H' (lstA p xs :: L) → Q (.ref p) H') : rListSq G.K [.ref a] H Q := by
  obtain ⟨vs, h, m⟩ := hS.sq e
  exact ⟨a, vs, rfl, .inl h, fun p hp => k p _ (hS.newL hp m)⟩
/-- sep.join(xs) -/
def rJoin (K : PySem.W.Frag) : V → List V → Hp → VK → Prop := fun x xs H Q => ∃ a p, ∃ ys : List Str, x = .str a ∧ xs = [.ref p] ∧ (SqL K H p (ys.map V.str) ∨ SqT K H p (ys.map V.str)) ∧ (ys.map (·.length)).sum + ys.length * a.length ≤ 16777216 ∧ Q (.str (Txt.join a ys)) H
theorem k_join {n : Nat} {p : Addr} {a : Str} {ys : List Str} (hS : Sep H L) (e : L[n]? = some (lstA p ys)) (z : (ys.map (·.length)).sum + ys.length * a.length ≤ 16777216) (k : Q (.str (Txt.join a ys)) H) : rJoin G.K (.str a) [.ref p] H Q :=
  ⟨a, p, ys, rfl, rfl, .inl (hS.sqF e), z, k⟩
theorem c_m1 {r : V → List V → Hp → VK → Prop} {to : TE} {a : Str} (h1 : Ev to σ H (.str a)) (h : te σ H fun y H2 => r (.str a) [y] H2 Q) : tM1 r to te σ H Q := h1 _ ⟨⟨a, rfl⟩, h⟩
theorem c_m0 {r : V → List V → Hp → VK → Prop} {to : TE} {a : Str} (h1 : Ev to σ H (.str a)) (h : r (.str a) [] H Q) : tM0 r to σ H Q := h1 _ ⟨⟨a, rfl⟩, h⟩
end
end Ml

namespace Ml
open PySem L2
variable {G : Gx}
/-! ### dicts -/
section
variable {κ β : Type} [DecidableEq κ]
def dget (kvs : List (κ × β)) (k : κ) : Option β := (kvs.find? fun kv => decide (kv.1 = k)).map (·.2)
def dput (kvs : List (κ × β)) (k : κ) (v : β) : List (κ × β) :=
  if (kvs.any fun kv => decide (kv.1 = k)) = true then kvs.map (fun kv => if kv.1 = k then (kv.1, v) else kv) else kvs ++ [(k, v)]
def ddrop (kvs : List (κ × β)) (k : κ) : List (κ × β) := kvs.filter fun kv => decide (kv.1 ≠ k)
def dhas (kvs : List (κ × β)) (k : κ) : Bool := (dget kvs k).isSome
end
class Kx (κ : Type) where
  key : κ → Key
  inj : ∀ {a b : κ}, key a = key b → a = b
instance : Kx Int := ⟨Sum.inl, fun h => Sum.inl.inj h⟩
instance : Kx Str := ⟨Sum.inr, fun h => Sum.inr.inj h⟩
section
variable {κ β : Type} [DecidableEq κ] [Kx κ] [Im G β]
def imD (H : Hp) : List (Key × V) → List (κ × β) → Prop
  | [], [] => True
  | p :: ps, q :: qs => (p.1 = Kx.key q.1 ∧ Im.im G H p.2 q.2) ∧ imD H ps qs
  | _, _ => False
variable {H H' : Hp}
theorem imD.st : ∀ {ps : List (Key × V)} {qs : List (κ × β)}, imD (G := G) H ps qs → Stab G H H' → imD (G := G) H' ps qs
  | [], [], _, _ => True.intro
  | p :: ps, q :: qs, h, s => ⟨⟨h.1.1, Im.st h.1.2 s⟩, imD.st h.2 s⟩
  | [], _ :: _, h, _ => h
  | _ :: _, [], h, _ => h
theorem imD.len : ∀ {ps : List (Key × V)} {qs : List (κ × β)}, imD (G := G) H ps qs → ps.length = qs.length
  | [], [], _ => rfl
  | p :: ps, q :: qs, h => by rw [List.length_cons, List.length_cons, imD.len h.2]
  | [], _ :: _, h => h.elim
  | _ :: _, [], h => h.elim
theorem key_dec (a b : κ) : decide (Kx.key a = Kx.key b) = decide (a = b) := by
  by_cases h : a = b
  · subst h; simp
  · have : ¬ Kx.key a = Kx.key b := fun e => h (Kx.inj e)
    simp [h, this]
theorem imD.val : ∀ {ps : List (Key × V)} {qs : List (κ × β)} (k : κ), imD (G := G) H ps qs → (∀ y, dget qs k = some y → ∃ v, valV ps (Kx.key k) = some v ∧ Im.im G H v y) ∧ (dget qs k = none → valV ps (Kx.key k) = none)
  | [], [], _, _ => ⟨fun y e => (by cases (show (none : Option β) = some y from e)), fun _ => rfl⟩
  | p :: ps, q :: qs, k, ⟨⟨e1, e2⟩, h⟩ => by
    have ih := imD.val k h
    by_cases c : q.1 = k
    · have c1 : p.1 = Kx.key k := by rw [e1, c]
      have d : dget (q :: qs) k = some q.2 := by simp [dget, List.find?_cons, c]
      rw [d, valV_pos c1]
      exact ⟨fun y e => ⟨p.2, rfl, by cases e; exact e2⟩, fun e => by cases e⟩
    · have c1 : ¬ p.1 = Kx.key k := fun z => c (Kx.inj (e1.symm.trans z))
      have d : dget (q :: qs) k = dget qs k := by simp [dget, List.find?_cons, c]
      rw [d, valV_neg c1]
      exact ih
  | [], _ :: _, _, h => h.elim
  | _ :: _, [], _, h => h.elim
theorem imD.any : ∀ {ps : List (Key × V)} {qs : List (κ × β)} (k : κ), imD (G := G) H ps qs → (ps.any fun kv => decide (kv.1 = Kx.key k)) = qs.any fun kv => decide (kv.1 = k)
  | [], [], _, _ => rfl
  | p :: ps, q :: qs, k, ⟨⟨e1, e2⟩, h⟩ => by
    rw [List.any_cons, List.any_cons, imD.any k h, e1, key_dec]
  | [], _ :: _, _, h => h.elim
  | _ :: _, [], _, h => h.elim
theorem imD.app : ∀ {ps rs : List (Key × V)} {qs ts : List (κ × β)}, imD (G := G) H ps qs → imD (G := G) H rs ts → imD (G := G) H (ps ++ rs) (qs ++ ts)
  | [], _, [], _, _, h => h
  | _ :: _, _, _ :: _, _, h, k => ⟨h.1, imD.app h.2 k⟩
  | [], _, _ :: _, _, h, _ => h.elim
  | _ :: _, _, [], _, h, _ => h.elim
theorem imD.rep : ∀ {ps : List (Key × V)} {qs : List (κ × β)} {k : κ} {v : V} {y : β}, imD (G := G) H ps qs → Im.im G H v y →
    imD (G := G) H (ps.map fun kv => if kv.1 = Kx.key k then (kv.1, v) else kv) (qs.map fun kv => if kv.1 = k then (kv.1, y) else kv)
  | [], [], _, _, _, _, _ => True.intro
  | p :: ps, q :: qs, k, v, y, ⟨⟨e1, e2⟩, h⟩, hv => by
    refine ⟨?_, imD.rep h hv⟩
    show (if p.1 = Kx.key k then (p.1, v) else p).1 = Kx.key (if q.1 = k then (q.1, y) else q).1 ∧ Im.im G H (if p.1 = Kx.key k then (p.1, v) else p).2 (if q.1 = k then (q.1, y) else q).2
    by_cases c : q.1 = k
    · have c1 : p.1 = Kx.key k := by rw [e1, c]
      rw [if_pos c, if_pos c1]; exact ⟨e1, hv⟩
    · have c1 : ¬ p.1 = Kx.key k := fun z => c (Kx.inj (e1.symm.trans z))
      rw [if_neg c, if_neg c1]; exact ⟨e1, e2⟩
  | [], _ :: _, _, _, _, h, _ => h.elim
  | _ :: _, [], _, _, _, h, _ => h.elim
theorem imD.put {ps : List (Key × V)} {qs : List (κ × β)} {k : κ} {v : V} {y : β} (h : imD (G := G) H ps qs) (hv : Im.im G H v y) : imD (G := G) H (putK ps (Kx.key k) v) (dput qs k y) := by
  unfold putK dput
  rw [h.any k]
  split
  · exact h.rep hv
  · exact h.app (rs := [(Kx.key k, v)]) (ts := [(k, y)]) ⟨⟨rfl, hv⟩, True.intro⟩
theorem imD.drop : ∀ {ps : List (Key × V)} {qs : List (κ × β)} (k : κ), imD (G := G) H ps qs → imD (G := G) H (dropK ps (Kx.key k)) (ddrop qs k)
  | [], [], _, _ => True.intro
  | p :: ps, q :: qs, k, ⟨⟨e1, e2⟩, h⟩ => by
    have ih := imD.drop k h
    unfold dropK ddrop at ih ⊢
    rw [List.filter_cons, List.filter_cons]
    by_cases c : q.1 = k
    · have c1 : p.1 = Kx.key k := by rw [e1, c]
      simp only [c, c1, ne_eq, not_true_eq_false, decide_false, Bool.false_eq_true, if_false]
      exact ih
    · have c1 : ¬ p.1 = Kx.key k := fun z => c (Kx.inj (e1.symm.trans z))
      simp only [c, c1, ne_eq, not_false_eq_true, decide_true, if_true]
      exact ⟨⟨e1, e2⟩, ih⟩
  | [], _ :: _, _, h => h.elim
  | _ :: _, [], _, h => h.elim
theorem imD.keys : ∀ {ps : List (Key × V)} {qs : List (κ × β)}, imD (G := G) H ps qs → ps.map (·.1) = qs.map fun q => Kx.key q.1
  | [], [], _ => rfl
  | p :: ps, q :: qs, h => by rw [List.map_cons, List.map_cons, imD.keys h.2, h.1.1]
  | [], _ :: _, h => h.elim
  | _ :: _, [], h => h.elim
def dictA (a : Addr) (kvs : List (κ × β)) : Asn G := ⟨fun H fp => fp = [a] ∧ ∃ ps, H a = some (.dK ps) ∧ imD (G := G) H ps kvs,
  fun H H' fp ⟨e, ps, h, m⟩ k s => ⟨e, ps, by rw [k a (by rw [e]; simp)]; exact h, m.st s⟩⟩
variable {L L' : List (Asn G)}
theorem Sep.dict (h : Sep H L) {i : Nat} {a : Addr} {kvs : List (κ × β)} (e : L[i]? = some (dictA a kvs)) : ∃ ps, H a = some (.dK ps) ∧ imD (G := G) H ps kvs := by
  obtain ⟨fp, _, x⟩ := h.at e
  exact x
theorem Sep.newD (h : Sep H L) {p : Addr} (hp : H p = none) : Sep (upd H p (.dK [])) (dictA p ([] : List (κ × β)) :: L) :=
  (h.new (o := .dK []) hp rfl).view fun fp ⟨q, r⟩ => ⟨q, [], r, True.intro⟩
theorem Sep.putD (h : Sep H L) {i : Nat} {a : Addr} {xs ys : List (κ × β)} {ps : List (Key × V)} (e : L[i]? = some (dictA a xs)) (m : imD (G := G) H ps ys) : Sep (upd H a (.dK ps)) (L.set i (dictA a ys)) := by
  obtain ⟨us, e0, mu⟩ := h.dict e
  have h1 : Sep H (L.set i (cell a (.dK us))) := h.viewAt e fun fp ⟨q, _⟩ => ⟨q, e0⟩
  have e1 := get_set (y := cell (G := G) a (.dK us)) e
  have h2 := h1.put (o' := .dK ps) e1 rfl
  rw [set_set] at h2
  have st : Stab G H (upd H a (.dK ps)) := stab_put (h1.getCell e1) rfl
  have h3 := h2.viewAt (B := dictA a ys) (get_set e) fun fp ⟨q, r⟩ => ⟨q, ps, r, m.st st⟩
  rw [set_set] at h3
  exact h3
variable {σ : St} {Q : VK} {td ty tx : TE} {k : κ} {a : Addr} {xs : List (κ × β)} {i : Nat}
theorem k_dnew (hS : Sep H L) (q : ∀ p H', Sep H' (dictA p ([] : List (κ × β)) :: L) → Q (.ref p) H') : tDNewK σ H Q := fun p hp => q p _ (hS.newD hp)
theorem dget_at (hS : Sep H L) (e : L[i]? = some (dictA a xs)) {o : Option β} (ho : dget xs k = o) : ∃ r, DGet H a (kV (Kx.key k)) r ∧ (∀ y, o = some y → ∃ v, r = some v ∧ Im.im G H v y) ∧ (o = none → r = none) := by
  obtain ⟨ps, h, m⟩ := hS.dict e
  obtain ⟨v1, v2⟩ := m.val k
  exact ⟨_, DGet.k h, fun y q => v1 y (ho.trans q), fun q => v2 (ho.trans q)⟩
theorem ev_din (hS : Sep H L) (e : L[i]? = some (dictA a xs)) (hy : Ev ty σ H (kV (Kx.key k))) (hd : Ev td σ H (.ref a)) : Ev (tDIn ty td) σ H (.bl (dhas xs k)) := fun Q q => hy _ (hd _ (by
  obtain ⟨r, g, h1, h2⟩ := dget_at hS e (k := k) rfl
  refine ⟨a, r, rfl, g, ?_⟩
  have : r.isSome = dhas xs k := by
    unfold dhas
    cases c : dget xs k with
    | none => rw [h2 c]; rfl
    | some y => obtain ⟨v, e, _⟩ := h1 y c; rw [e]; rfl
  rw [this]; exact q))
theorem ev_dnotin (hS : Sep H L) (e : L[i]? = some (dictA a xs)) (hy : Ev ty σ H (kV (Kx.key k))) (hd : Ev td σ H (.ref a)) : Ev (tDNotIn ty td) σ H (.bl (!dhas xs k)) := fun Q q => hy _ (hd _ (by
  obtain ⟨r, g, h1, h2⟩ := dget_at hS e (k := k) rfl
  refine ⟨a, r, rfl, g, ?_⟩
  have : r.isSome = dhas xs k := by
    unfold dhas
    cases c : dget xs k with
    | none => rw [h2 c]; rfl
    | some y => obtain ⟨v, e, _⟩ := h1 y c; rw [e]; rfl
  rw [this]; exact q))
theorem isD_of (hS : Sep H L) (e : L[i]? = some (dictA a xs)) : IsD H a := by
  obtain ⟨ps, h, _⟩ := hS.dict e
  exact .inl ⟨ps, .inl h⟩
/-- d.setdefault(k, z), what it hands back not looked at -/
theorem k_dsetd0 {z : V} {y : β} (hS : Sep H L) (e : L[i]? = some (dictA a xs)) (hz : Im.im G H z y) (hl : xs.length < sizeLine) (e2 : L.set i (dictA a (if dhas xs k then xs else dput xs k y)) = L')
    (q : ∀ v H', Sep H' L' → Q v H') : ∃ (kvs : List (Key × V)) (k' : Key), H a = some (.dK kvs) ∧ kV (Kx.key k) = kV k' ∧ kvs.length < sizeLine ∧ (∀ v, valV kvs k' = some v → Q v H) ∧ (valV kvs k' = none → Q z (upd H a (.dK (putK kvs k' z)))) := by
  obtain ⟨ps, h, m⟩ := hS.dict e
  obtain ⟨v1, v2⟩ := m.val k
  refine ⟨ps, Kx.key k, h, rfl, by rw [m.len]; exact hl, fun v hv => q v _ ?_, fun hn => q z _ ?_⟩
  · have : dhas xs k = true := by
      unfold dhas
      cases c : dget xs k with
      | none => rw [v2 c] at hv; cases hv
      | some y => rfl
    rw [this] at e2
    subst e2
    have : L.set i (dictA a xs) = L := by
      have hi := (List.getElem?_eq_some_iff.mp e)
      obtain ⟨h1, h2⟩ := hi
      rw [← h2]; exact List.set_getElem_self h1
    rw [if_pos rfl, this]; exact hS
  · have : dhas xs k = false := by
      unfold dhas
      cases c : dget xs k with
      | none => rfl
      | some y => obtain ⟨v, e, _⟩ := v1 y c; rw [e] at hn; cases hn
    rw [this] at e2
    subst e2
    rw [if_neg Bool.false_ne_true]
    exact hS.putD e (m.put hz)
theorem k_dsetd {z : V} {y : β} (hS : Sep H L) (e : L[i]? = some (dictA a xs)) (hd : Ev td σ H (.ref a)) (hy : Ev ty σ H (kV (Kx.key k))) (hx : Ev tx σ H z) (hz : Im.im G H z y) (hl : xs.length < sizeLine) (e2 : L.set i (dictA a (if dhas xs k then xs else dput xs k y)) = L')
    (q : ∀ v H', Sep H' L' → Q v H') : tDSetd td ty tx σ H Q := hd _ ⟨a, rfl, isD_of hS e, hy _ (hx _ (k_dsetd0 hS e hz hl e2 q))⟩
def rListD : List V → Hp → VK → Prop := fun xs H Q => ∃ (a : Addr) (kvs : List (Key × V)), xs = [.ref a] ∧ Rd H a (.dK kvs) ∧ ∀ p, H p = none → Q (.ref p) (upd H p (.lst (kvs.map fun kv => kV kv.1)))
theorem call_lstD {X : Cx} (hc : X.calm = true) : CallR X (.type "list") rListD := call_listD hc
theorem k_listD [Fv G κ] (hk : ∀ k : κ, kV (Kx.key k) = Fv.enc G k) (hS : Sep H L) (e : L[i]? = some (dictA a xs)) (q : ∀ p H', Sep H' (lstA p (xs.map (·.1)) :: L) → Q (.ref p) H') : rListD [.ref a] H Q := by
  obtain ⟨ps, h, m⟩ := hS.dict e
  refine ⟨a, ps, rfl, .inl h, fun p hp => q p _ (hS.newL hp (imL.flat.mpr ?_))⟩
  have e1 : ps.map (fun kv => kV kv.1) = (ps.map (·.1)).map kV := by rw [List.map_map]; rfl
  rw [e1, m.keys, List.map_map, List.map_map]
  exact List.map_congr_left fun q _ => hk q.1
end
/-! ### == of data -/
class Lay (α : Type) where
  lay : α → Bool
instance : Lay Int := ⟨fun _ => true⟩
instance : Lay Bool := ⟨fun _ => true⟩
instance : Lay Str := ⟨fun x => PyData.strOk x⟩
def layAllB {α : Type} [Lay α] (xs : List α) : Bool := xs.all Lay.lay
class Pd (G : Gx) (α : Type) [Im G α] [DecidableEq α] [Lay α] where
  pd : α → PyData
  dep : Nat
  dp : ∀ {H : Hp} {v : V} {x : α}, Im.im G H v x → Dp G.K H v (pd x)
  lay_ok : ∀ x, Lay.lay x = true → (pd x).canLay0 = true
  dep_ok : ∀ x, (pd x).depth ≤ dep
  eqv : ∀ x y, PyData.eqv (pd x) (pd y) = decide (x = y)
instance pInt : Pd G Int where
  pd := .int
  dep := 0
  dp := fun {H v x} h => by
    have h : v = .int x := h
    subst h; exact .int x
  lay_ok := fun _ _ => rfl
  dep_ok := fun _ => Nat.le_refl _
  eqv := fun x y => by
    show (x == y) = decide (x = y)
    rfl
instance pBool : Pd G Bool where
  pd := .bool
  dep := 0
  dp := fun {H v x} h => by
    have h : v = .bl x := h
    subst h; exact .bl x
  lay_ok := fun _ _ => rfl
  dep_ok := fun _ => Nat.le_refl _
  eqv := fun x y => by cases x <;> cases y <;> rfl
theorem str_beq (x y : Str) : (x == y) = decide (x = y) := by
  by_cases h : x = y
  · subst h; simp
  · simp [h]
instance pStr : Pd G Str where
  pd := .str
  dep := 0
  dp := fun {H v x} h => by
    have h : v = .str x := h
    subst h; exact .str x
  lay_ok := fun _ h => h
  dep_ok := fun _ => Nat.le_refl _
  eqv := fun x y => str_beq x y
section
variable {α : Type} [Im G α] [DecidableEq α] [Lay α] [Pd G α] {H : Hp} {L : List (Asn G)}
theorem dpAll : ∀ {vs : List V} {xs : List α}, imL (G := G) H vs xs → DpAll G.K H vs (xs.map (Pd.pd G))
  | [], [], _ => .nil
  | v :: vs, x :: xs, h => .cons (Pd.dp h.1) (dpAll h.2)
  | [], _ :: _, h => h.elim
  | _ :: _, [], h => h.elim
theorem layAll : ∀ {xs : List α}, layAllB xs = true → PyData.canLayAll0 (xs.map (Pd.pd G)) = true
  | [], _ => rfl
  | x :: xs, h => by
    unfold layAllB at h
    rw [List.all_cons, Bool.and_eq_true] at h
    show ((Pd.pd G x).canLay0 && PyData.canLayAll0 (xs.map (Pd.pd G))) = true
    rw [Pd.lay_ok x h.1, layAll h.2]; rfl
theorem depAll : ∀ (xs : List α), PyData.depthAll (xs.map (Pd.pd G)) ≤ Pd.dep G α
  | [] => Nat.zero_le _
  | x :: xs => by
    show max (Pd.pd G x).depth (PyData.depthAll (xs.map (Pd.pd G))) ≤ _
    exact Nat.max_le.mpr ⟨Pd.dep_ok x, depAll xs⟩
theorem eqvAll_is : ∀ (xs ys : List α), PyData.eqvAll (xs.map (Pd.pd G)) (ys.map (Pd.pd G)) = decide (xs = ys)
  | [], [] => rfl
  | x :: xs, y :: ys => by
    show (PyData.eqv (Pd.pd G x) (Pd.pd G y) && PyData.eqvAll (xs.map (Pd.pd G)) (ys.map (Pd.pd G))) = _
    rw [Pd.eqv, eqvAll_is xs ys]
    simp
  | [], _ :: _ => rfl
  | _ :: _, [] => rfl
theorem shapedL {xs : List α} (h : layAllB xs = true) (d : Pd.dep G α + 1 ≤ 64) : SeqAt.shaped (.list (xs.map (Pd.pd G))) = true := by
  unfold SeqAt.shaped
  have h1 : (PyData.list (xs.map (Pd.pd G))).canLay0 = true := layAll h
  have h2 : (PyData.list (xs.map (Pd.pd G))).depth ≤ 64 := by
    show PyData.depthAll (xs.map (Pd.pd G)) + 1 ≤ 64
    have := depAll (G := G) xs
    omega
  rw [h1, decide_eq_true h2]; rfl
variable {a b : Addr} {xs ys : List α} {i j : Nat} {σ : St} {ta tb : TE}
theorem ev_eqL (hS : Sep H L) (e1 : L[i]? = some (lstA a xs)) (e2 : L[j]? = some (lstA b ys)) (ha : Ev ta σ H (.ref a)) (hb : Ev tb σ H (.ref b)) (l1 : layAllB xs = true) (l2 : layAllB ys = true) (d : Pd.dep G α + 1 ≤ 64) :
    Ev (tOp (rEqD G.K) ta tb) σ H (.bl (decide (xs = ys))) := ev_op ha hb fun Q q => by
  obtain ⟨vs, s1, m1⟩ := hS.sq e1
  obtain ⟨ws, s2, m2⟩ := hS.sq e2
  refine ⟨_, _, .lst s1 (dpAll m1), .lst s2 (dpAll m2), shapedL l1 d, shapedL l2 d, ?_⟩
  have : PyData.eqv (.list (xs.map (Pd.pd G))) (.list (ys.map (Pd.pd G))) = decide (xs = ys) := eqvAll_is xs ys
  rw [this]; exact q
theorem r_eqL (hS : Sep H L) (e1 : L[i]? = some (lstA a xs)) (e2 : L[j]? = some (lstA b ys)) (l1 : layAllB xs = true) (l2 : layAllB ys = true) (d : Pd.dep G α + 1 ≤ 64) (Q : VK) (q : Q (.bl (decide (xs = ys))) H) : rEqD G.K (.ref a) (.ref b) H Q :=
  ev_eqL (σ := []) (ta := tC (.ref a)) (tb := tC (.ref b)) hS e1 e2 ev_c ev_c l1 l2 d Q q
theorem ev_neL (hS : Sep H L) (e1 : L[i]? = some (lstA a xs)) (e2 : L[j]? = some (lstA b ys)) (ha : Ev ta σ H (.ref a)) (hb : Ev tb σ H (.ref b)) (l1 : layAllB xs = true) (l2 : layAllB ys = true) (d : Pd.dep G α + 1 ≤ 64) :
    Ev (tOp (rNeD G.K) ta tb) σ H (.bl (!decide (xs = ys))) := ev_op ha hb fun Q q => by
  obtain ⟨vs, s1, m1⟩ := hS.sq e1
  obtain ⟨ws, s2, m2⟩ := hS.sq e2
  refine ⟨_, _, .lst s1 (dpAll m1), .lst s2 (dpAll m2), shapedL l1 d, shapedL l2 d, ?_⟩
  have : PyData.eqv (.list (xs.map (Pd.pd G))) (.list (ys.map (Pd.pd G))) = decide (xs = ys) := eqvAll_is xs ys
  rw [this]; exact q
theorem r_neL (hS : Sep H L) (e1 : L[i]? = some (lstA a xs)) (e2 : L[j]? = some (lstA b ys)) (l1 : layAllB xs = true) (l2 : layAllB ys = true) (d : Pd.dep G α + 1 ≤ 64) (Q : VK) (q : Q (.bl (!decide (xs = ys))) H) : rNeD G.K (.ref a) (.ref b) H Q :=
  ev_neL (σ := []) (ta := tC (.ref a)) (tb := tC (.ref b)) hS e1 e2 ev_c ev_c l1 l2 d Q q
end
/-! ### in, isinstance -/
section
variable {H : Hp} {L : List (Asn G)} {σ : St} {ta tb : TE} {a : Addr} {i : Nat}
theorem inV_str (x : Str) : ∀ ys : List Str, inV (.str x) (ys.map V.str) = decide (x ∈ ys)
  | [] => rfl
  | y :: ys => by
    have ih := inV_str x ys
    unfold inV at ih ⊢
    rw [List.map_cons, List.any_cons, ih]
    show ((y == x) || _) = _
    by_cases h : y = x
    · subst h; simp
    · have h' : ¬ x = y := fun e => h e.symm
      simp [h, h']
theorem flat_str : ∀ ys : List Str, (ys.map V.str).all flatV = true
  | [] => rfl
  | y :: ys => by rw [List.map_cons, List.all_cons, flat_str ys]; rfl
theorem ev_inL {x : Str} {ys : List Str} (hS : Sep H L) (e : L[i]? = some (lstA a ys)) (ha : Ev ta σ H (.str x)) (hb : Ev tb σ H (.ref a)) : Ev (tOp (rIn G.K false) ta tb) σ H (.bl (decide (x ∈ ys))) := ev_op ha hb fun Q q =>
  ⟨a, ys.map V.str, rfl, .inl (hS.sqF e), rfl, flat_str ys, by
    show Q (.bl (inV (.str x) (ys.map V.str))) H
    rw [inV_str]; exact q⟩
theorem ev_niL {x : Str} {ys : List Str} (hS : Sep H L) (e : L[i]? = some (lstA a ys)) (ha : Ev ta σ H (.str x)) (hb : Ev tb σ H (.ref a)) : Ev (tOp (rIn G.K true) ta tb) σ H (.bl (!decide (x ∈ ys))) := ev_op ha hb fun Q q =>
  ⟨a, ys.map V.str, rfl, .inl (hS.sqF e), rfl, flat_str ys, by
    show Q (.bl (!inV (.str x) (ys.map V.str))) H
    rw [inV_str]; exact q⟩
theorem ev_isi {x : V} {T U : String} {b : Bool} (ha : Ev ta σ H x) (hb : Ev tb σ H (.ty U)) (t : TyX G.K H x (.type T)) (e : kitB T U = some b) : Ev (tCB (rIsi G.K) (tCons ta (tCons tb tNil))) σ H (.bl b) :=
  ev_cb (ea_cons ha (ea_cons hb ea_nil)) fun Q q => ⟨x, .ty U, _, _, b, rfl, .ty U, t, kit_ty e, q⟩
theorem ty_lst {α : Type} [Im G α] {xs : List α} (hS : Sep H L) (e : L[i]? = some (lstA a xs)) : TyX G.K H (.ref a) (.type "list") := by
  obtain ⟨vs, h, _⟩ := hS.lst e
  exact .base (.lst h)
theorem ty_dict {κ β : Type} [DecidableEq κ] [Kx κ] [Im G β] {xs : List (κ × β)} (hS : Sep H L) (e : L[i]? = some (dictA a xs)) : TyX G.K H (.ref a) (.type "dict") := by
  obtain ⟨vs, h, _⟩ := hS.dict e
  exact .base (.dK h)
end
end Ml

namespace Ml
open PySem L2
variable {G : Gx}
section
variable {σ σ' : St} {H : Hp} {L L' M : List (Asn G)} {D : Ends} {Q : VK} {te : TE} {tt : TT} {tb : TS} {α β τ ρ : Type} {i : Nat} {v : V} {vs : List Nat}
theorem c_gN {P : St → Hp → Prop} (e : σ.set i (some v) = σ') (h : P σ' H) : gName i v σ H P := by
  show P (σ.set i (some v)) H
  rw [e]; exact h
theorem c_gLc {P : Bool → Hp → Prop} (e : (wipe σ vs).set i (some v) = σ') (hw : wipe σ' vs = wipe σ vs) (h : tt σ' H P) : gName i v (wipe σ vs) H fun σ2 H2 => wipe σ2 vs = wipe σ vs ∧ tt σ2 H2 P := by
  show wipe ((wipe σ vs).set i (some v)) vs = wipe σ vs ∧ tt ((wipe σ vs).set i (some v)) H P
  rw [e]; exact ⟨hw, h⟩
theorem c_yes {A B : Hp → Prop} (h : A H) : tYes σ H fun b H3 => if b = true then A H3 else B H3 := h
theorem lc_app [Im G β] {Dr : Addr} {ys : List β} {y : β} {u : V} (hS : Sep H (lstA Dr ys :: M)) (hu : Im.im G H u y) : ∃ acc, H Dr = some (.lst acc) ∧ acc.length = ys.length ∧ Sep (upd H Dr (.lst (acc ++ [u]))) (lstA Dr (ys ++ [y]) :: M) := by
  obtain ⟨acc, h, m⟩ := hS.lst (i := 0) rfl
  exact ⟨acc, h, m.len, hS.putL (i := 0) rfl (m.app (vs := acc) (ws := [u]) ⟨hu, True.intro⟩)⟩
theorem st_nx (h : D.nx σ H) : tNext D σ H := h
def sq (t : TS) (D : Ends) : Ends := { D with nx := t D }
theorem f_seq {t1 t2 : TS} (h : t1 (sq t2 D) σ H) : tSeq t1 t2 D σ H := h
theorem sq_nx {t2 : TS} (h : t2 D σ H) : (sq t2 D).nx σ H := h
def forK (g : TG) (tb : TS) (D : Ends) (σ : L2.St) : It → Hp → Prop := fun J H1 => ∃ W : Nat → Nat → L2.St → Hp → Prop, (∃ m, W 0 m σ H1) ∧ ∀ i m σ H, W i m σ H →
  (J.stop i H ∧ D.nx σ H) ∨ (J.go i H ∧ ∃ N : L2.St → Hp → Prop, (∀ σ' H', N σ' H' → ∃ m', m' < m ∧ W (i + 1) m' σ' H') ∧ ∀ x H', J.yld i H x H' → g x σ H' fun σ2 H2 => tb { D with nx := N, ct := N, bk := D.nx } σ2 H2)
def loopD (D : Ends) (N B : L2.St → Hp → Prop) : Ends := { D with nx := N, ct := N, bk := B }
theorem c_for {wi : TI} {g : TG} (h : wi σ H (forK g tb D σ)) : tFor wi g tb D σ H := h
def lcK (g : TG) (tt : TT) (te : TE) (vs : List Nat) (σ : L2.St) (Q : VK) : It → Hp → Prop := fun J H1 => ∀ D, H1 D = none → ∃ W : Nat → Nat → Hp → Prop, (∃ m, W 0 m (upd H1 D (.lst []))) ∧ ∀ i m H, W i m H →
  (J.stop i H ∧ Q (.ref D) H) ∨ (J.go i H ∧ ∃ Nx : Hp → Prop, (∀ H', Nx H' → ∃ m', m' < m ∧ W (i + 1) m' H') ∧ ∀ x H', J.yld i H x H' → g x (wipe σ vs) H' fun σ2 H2 => wipe σ2 vs = wipe σ vs ∧ tt σ2 H2 fun b H3 =>
    if b = true then te σ2 H3 fun y H4 => ∃ acc, H4 D = some (.lst acc) ∧ acc.length < sizeLine ∧ Nx (upd H4 D (.lst (acc ++ [y]))) else Nx H3)
theorem c_lc {wi : TI} {g : TG} (h : wi σ H (lcK g tt te vs σ Q)) : tLc wi g tt te vs σ H Q := h
def rng1K (R : It → Hp → Prop) : List V → Hp → Prop := fun vs H1 => ∃ j : Int, vs = [.int j] ∧ -(2 ^ 62) ≤ j ∧ j < 2 ^ 62 ∧ R (Itr 0 j.toNat) H1
def rng2K (R : It → Hp → Prop) : List V → Hp → Prop := fun vs H1 => ∃ i j : Int, vs = [.int i, .int j] ∧ (-(2 ^ 62) ≤ i ∧ i < 2 ^ 62 ∧ -(2 ^ 62) ≤ j ∧ j < 2 ^ 62) ∧ R (Itr i (j - i).toNat) H1
def ilK (K : PySem.W.Frag) (R : It → Hp → Prop) : VK := fun x H1 => ∃ a, x = .ref a ∧ (∃ xs, SqL K H1 a xs) ∧ R (Itl K a) H1
def isK (R : It → Hp → Prop) : VK := fun v H1 => ∃ x, v = .str x ∧ R (Its x) H1
theorem c_rng1 {ta : TA} {R : It → Hp → Prop} (h : ta σ H (rng1K R)) : iRng1 ta σ H R := h
theorem c_rng2 {ta : TA} {R : It → Hp → Prop} (h : ta σ H (rng2K R)) : iRng2 ta σ H R := h
theorem c_il {K : PySem.W.Frag} {R : It → Hp → Prop} (h : te σ H (ilK K R)) : iList K te σ H R := h
theorem c_is {R : It → Hp → Prop} (h : te σ H (isK R)) : iStr te σ H R := h
theorem k_rng1 {R : It → Hp → Prop} {j : Int} (h1 : -(2 ^ 62) ≤ j) (h2 : j < 2 ^ 62) (h : R (Itr 0 j.toNat) H) : rng1K R [.int j] H := ⟨j, rfl, h1, h2, h⟩
theorem k_rng2 {R : It → Hp → Prop} {i j : Int} (h1 : -(2 ^ 62) ≤ i) (h2 : i < 2 ^ 62) (h3 : -(2 ^ 62) ≤ j) (h4 : j < 2 ^ 62) (h : R (Itr i (j - i).toNat) H) : rng2K R [.int i, .int j] H := ⟨i, j, rfl, ⟨h1, h2, h3, h4⟩, h⟩
theorem k_il [Im G α] {a : Addr} {xs : List α} {R : It → Hp → Prop} (hS : Sep H L) (e : L[i]? = some (lstA a xs)) (h : R (Itl G.K a) H) : ilK G.K R (.ref a) H := by
  obtain ⟨vs, s, _⟩ := hS.sq e
  exact ⟨a, rfl, ⟨vs, s⟩, h⟩
theorem k_is {z : Str} {R : It → Hp → Prop} (h : R (Its z) H) : isK R (.str z) H := ⟨z, rfl, h⟩
/-- for .. in .. -/
theorem k_for {J : It} {g : TG} {im : Hp → V → α → Prop} {xs : List α} {f : τ → α → R τ} {rest : τ → R ρ} {q : ρ → Prop} {e : Exc → Prop} {s : τ} (I : τ → L2.St → Hp → Prop)
    (w : ∀ s, Wk J (I s) im xs) (h0 : I s σ H) (hm : R.wp ((forR f xs s).bind rest) q e)
    (turn : ∀ (s : τ) (x : α) (v : V) (σ : L2.St) (H : Hp) (q : τ → Prop) (N : L2.St → Hp → Prop), I s σ H → im H v x → R.wp (f s x) q e → (∀ s' σ' H', q s' → I s' σ' H' → N σ' H') → g v σ H fun σ2 H2 => tb (loopD D N D.nx) σ2 H2)
    (done : ∀ s σ H, R.wp (rest s) q e → I s σ H → D.nx σ H) : forK g tb D σ J H :=
  for_walk (I := I) w h0 (R.wp_bind hm) turn done
theorem lp_nx {N B : L2.St → Hp → Prop} (h : N σ H) : (loopD D N B).nx σ H := h
theorem lp_ct {N B : L2.St → Hp → Prop} (h : N σ H) : tCont (loopD D N B) σ H := h
theorem lp_bk {N B : L2.St → Hp → Prop} (h : B σ H) : tBreak (loopD D N B) σ H := h
/-- a comprehension over owned things -/
theorem lc_sep [Im G β] {J : It} {im : Hp → V → α → Prop} {xs : List α} {f : τ → α → R (τ × Option β)} {rest : τ × List β → R ρ} {q : ρ → Prop} {e : Exc → Prop} {s : τ} (M : τ → List (Asn G))
    (hS : Sep H (M s)) (w : ∀ (Dr : Addr) (s : τ) (ys : List β), Wk J (fun (_ : St) H => Sep H (lstA Dr ys :: M s)) im xs) (hl : xs.length ≤ sizeLine) (hm : R.wp ((compR f xs s).bind rest) q e)
    (turn : ∀ (Dr : Addr) (s : τ) (ys : List β) (x : α) (v : V) (H : Hp) (q : τ × Option β → Prop) (Nx : Hp → Prop), Sep H (lstA Dr ys :: M s) → im H v x → R.wp (f s x) q e →
      (∀ s' y u H', q (s', some y) → Im.im G H' u y → Sep H' (lstA Dr ys :: M s') → ∃ acc, H' Dr = some (.lst acc) ∧ acc.length < sizeLine ∧ Nx (upd H' Dr (.lst (acc ++ [u])))) → (∀ s' H', q (s', none) → Sep H' (lstA Dr ys :: M s') → Nx H') →
      gName i v (wipe σ vs) H fun σ2 H2 => wipe σ2 vs = wipe σ vs ∧ tt σ2 H2 fun b H3 => if b = true then te σ2 H3 fun y H4 => ∃ acc, H4 Dr = some (.lst acc) ∧ acc.length < sizeLine ∧ Nx (upd H4 Dr (.lst (acc ++ [y]))) else Nx H3)
    (done : ∀ (Dr : Addr) (t : τ × List β) H, R.wp (rest t) q e → Sep H (lstA Dr t.2 :: M t.1) → Q (.ref Dr) H) :
    lcK (gName i) tt te vs σ Q J H := fun Dr hD =>
  lc_walk (G := G) (I := fun Dr s ys H => Sep H (lstA Dr ys :: M s)) (im := im) (xs := xs) (f := f) (k := fun t => R.wp (rest t) q e) (e := e) (s := s) (w Dr)
    (hS.newL (vs := []) (xs := ([] : List β)) hD True.intro) (R.wp_bind hm) hl
    (fun s ys x v H q Nx hI hv hw _ k1 k2 => turn Dr s ys x v H q Nx hI hv hw k1 k2)
    (fun s ys y u H hI hu => lc_app hI hu)
    (fun s ys H hk hI => done Dr (s, ys) H hk hI)
theorem c_aug {ti : TIp} {x : V} (e : σ[i]? = some (some x)) (h : te σ H fun y H1 => ti x y H1 fun z H2 => D.nx (σ.set i (some z)) H2) : tAug i te ti D σ H := ⟨x, e, h⟩
theorem c_asgS {to ti : TE} {t : TSet} (h : te σ H fun v H1 => to σ H1 fun o H2 => ti σ H2 fun j H3 => t o j v H3 fun H4 => D.nx σ H4) : tAsg te (gSub to ti t) D σ H := h
def ipS : TIp := fun x y H Q => ∃ i j, x = .str i ∧ y = .str j ∧ i.length + j.length ≤ sizeLine ∧ Q (.str (i ++ j)) H
theorem ip_catS {X : Cx} : PIp X .Add ipS := iop_add_str
theorem mt_joinS {X : Cx} : MtR X "str.join" (rJoin X.K) := mt_join
theorem m2 {X : Cx} {o : Expr} {m : Str} {apos : Pos} {e f : Expr} {cpos : Pos} (base : attributeBase o m X.env (eval o X.env) = eval o X.env := by rfl)
  (few : ((backTo cpos (starEach [e, f] X.env)).all (fun x => !x.1) && (backToKw cpos (keywordEach [] X.env)).all (fun x => x.1.isSome)
    && decide (([e, f] : List Expr).length + ([] : List Keyword).length + (if ([] : List Keyword).isEmpty then 0 else 1) < 30)) = true := by rfl)
  (line : (apos.endLine == cpos.line) = true := by rfl) (trees : backTo cpos (starEach [e, f] X.env) = [(false, eval e X.env), (false, eval f X.env)] := by rfl) : M2 X o m apos e f cpos := ⟨base, few, line, trees⟩
def ixR {α : Type} (xs : List α) (i : Int) : R Nat := match ixN xs.length i with
  | some j => .ok j
  | none => .bad
theorem wp_ix {xs : List α} {i : Int} {f : Nat → R ρ} {q : ρ → Prop} {e : Exc → Prop} (h : R.wp ((ixR xs i).bind f) q e) : ∃ j, ixN xs.length i = some j ∧ R.wp (f j) q e := by
  unfold ixR at h
  cases c : ixN xs.length i with
  | some x => rw [c] at h; exact ⟨x, rfl, h⟩
  | none => rw [c] at h; exact h.elim
theorem r_ixSq {K : PySem.W.Frag} {p : Addr} {ws : List V} {i : Int} (hs : SqL K H p ws) (e : atI ws i = some v) (Q : VK) (q : Q v H) : rIxL K (.ref p) (.int i) H Q := ⟨p, ws, i, v, rfl, rfl, hs, e, q⟩
theorem ev_lenLm {K : PySem.W.Frag} {ta : TE} {p : Addr} {xs : List α} {f : α → V} (ha : Ev ta σ H (.ref p)) (hs : SqL K H p (xs.map f)) : Ev (tCB (rLenSq K) (tCons ta tNil)) σ H (.int xs.length) := by
  have := ev_lenL ha hs
  rw [List.length_map] at this
  exact this
theorem ev_m0 {r : V → List V → Hp → VK → Prop} {to : TE} {a : Str} (h1 : Ev to σ H (.str a)) (h : ∀ Q : VK, Q v H → r (.str a) [] H Q) : Ev (tM0 r to) σ H v := fun Q q => c_m0 h1 (h Q q)
theorem ev_m1 {r : V → List V → Hp → VK → Prop} {to ti : TE} {a : Str} {y : V} (h1 : Ev to σ H (.str a)) (h2 : Ev ti σ H y) (h : ∀ Q : VK, Q v H → r (.str a) [y] H Q) : Ev (tM1 r to ti) σ H v := fun Q q => c_m1 h1 (h2 _ (h Q q))
theorem k_lenL [Im G α] {a : Addr} {xs : List α} (hS : Sep H L) (e : L[i]? = some (lstA a xs)) (q : Q (.int xs.length) H) : rLenSq G.K [.ref a] H Q := by
  obtain ⟨vs, h, m⟩ := hS.sq e
  exact ⟨a, vs, rfl, .inl h, by rw [m.len]; exact q⟩
end
end Ml

namespace Ml
open PySem L2
variable {G : Gx}
/-! ### ends that stay folded -/
def andK (u : TT) (σ : St) (P : Bool → Hp → Prop) : Bool → Hp → Prop := fun c H => if c = true then u σ H P else P false H
def orK (u : TT) (σ : St) (P : Bool → Hp → Prop) : Bool → Hp → Prop := fun c H => if c = true then P true H else u σ H P
def notK (P : Bool → Hp → Prop) : Bool → Hp → Prop := fun c H => P (!c) H
def ifK (t1 t2 : TS) (D : Ends) (σ : St) : Bool → Hp → Prop := fun c H => if c = true then t1 D σ H else t2 D σ H
def ifE (ta tb : TE) (σ : St) (Q : VK) : Bool → Hp → Prop := fun c H => if c = true then ta σ H Q else tb σ H Q
/-- a value that is a Bool -/
def blK (P : Bool → Hp → Prop) : VK := fun x H => ∃ k, x = .bl k ∧ P k H
/-- a Bool as a value -/
def vK (Q : VK) : Bool → Hp → Prop := fun b H => Q (.bl b) H
def andVK (tb : TE) (σ : St) (Q : VK) : VK := fun x H => ∃ c, x = .bl c ∧ if c = true then tb σ H Q else Q (.bl false) H
def orVK (tb : TE) (σ : St) (Q : VK) : VK := fun x H => ∃ c, x = .bl c ∧ if c = true then Q (.bl true) H else tb σ H Q
def notVK (Q : VK) : VK := fun x H => ∃ c, x = .bl c ∧ Q (.bl (!c)) H
section
variable {σ : St} {H : Hp} {L : List (Asn G)} {D : Ends} {Q : VK} {P : Bool → Hp → Prop} {t u : TT} {t1 t2 : TS} {ta tb te : TE} {ρ τ : Type} {a b : Bool} {v w : V}
theorem f_and (h : t σ H (andK u σ P)) : tAnd t u σ H P := h
theorem f_or (h : t σ H (orK u σ P)) : tOr t u σ H P := h
theorem f_not (h : t σ H (notK P)) : tNot t σ H P := h
theorem f_if (h : t σ H (ifK t1 t2 D σ)) : tIfS t t1 t2 D σ H := h
theorem f_ifE (h : t σ H (ifE ta tb σ Q)) : tIf t ta tb σ H Q := h
theorem f_test (h : te σ H (blK P)) : tTest te σ H P := h
theorem f_B (h : te σ H (blK P)) : tB te σ H P := h
theorem f_bl (h : P b H) : blK P (.bl b) H := ⟨b, rfl, h⟩
theorem f_andV (h : ta σ H (andVK tb σ Q)) : tAndV ta tb σ H Q := h
theorem f_orV (h : ta σ H (orVK tb σ Q)) : tOrV ta tb σ H Q := h
theorem f_notV (h : ta σ H (notVK Q)) : tNotV ta σ H Q := h
theorem f_nV (h : Q (.bl (!b)) H) : notVK Q (.bl b) H := ⟨b, rfl, h⟩
theorem f_nK (h : P (!b) H) : notK P b H := h
/-! known answers -/
theorem andK_t (h : u σ H P) : andK u σ P true H := h
theorem andK_f (h : P false H) : andK u σ P false H := h
theorem orK_f (h : u σ H P) : orK u σ P false H := h
theorem orK_t (h : P true H) : orK u σ P true H := h
theorem andVK_t (h : tb σ H Q) : andVK tb σ Q (.bl true) H := ⟨true, rfl, h⟩
theorem andVK_f (h : Q (.bl false) H) : andVK tb σ Q (.bl false) H := ⟨false, rfl, h⟩
theorem orVK_f (h : tb σ H Q) : orVK tb σ Q (.bl false) H := ⟨false, rfl, h⟩
theorem orVK_t (h : Q (.bl true) H) : orVK tb σ Q (.bl true) H := ⟨true, rfl, h⟩
theorem ifK_t (h : t1 D σ H) : ifK t1 t2 D σ true H := h
theorem ifK_f (h : t2 D σ H) : ifK t1 t2 D σ false H := h
theorem ifE_t (h : ta σ H Q) : ifE ta tb σ Q true H := h
theorem ifE_f (h : tb σ H Q) : ifE ta tb σ Q false H := h
/-! two ways, joined behind -/
variable {A B : R Bool} {rest : Bool → R ρ} {q : ρ → Prop} {e : Exc → Prop}
theorem andK_J (hm : R.wp ((if a = true then A else .ok false).bind rest) q e) (hS : Sep H L)
    (h1 : a = true → ∀ q' : Bool → Prop, R.wp A q' e → (∀ b H', q' b → Sep H' L → P b H') → u σ H P) (k : ∀ b H', R.wp (rest b) q e → Sep H' L → P b H') : andK u σ P a H := by
  have hm' := R.wp_bind hm
  cases a with
  | true => exact h1 rfl _ hm' k
  | false => exact k false H hm' hS
theorem orK_J (hm : R.wp ((if a = true then .ok true else A).bind rest) q e) (hS : Sep H L)
    (h1 : a = false → ∀ q' : Bool → Prop, R.wp A q' e → (∀ b H', q' b → Sep H' L → P b H') → u σ H P) (k : ∀ b H', R.wp (rest b) q e → Sep H' L → P b H') : orK u σ P a H := by
  have hm' := R.wp_bind hm
  cases a with
  | true => exact k true H hm' hS
  | false => exact h1 rfl _ hm' k
theorem andVK_J (hm : R.wp ((if a = true then A else .ok false).bind rest) q e) (hS : Sep H L)
    (h1 : a = true → ∀ q' : Bool → Prop, R.wp A q' e → (∀ b H', q' b → Sep H' L → Q (.bl b) H') → tb σ H Q) (k : ∀ b H', R.wp (rest b) q e → Sep H' L → Q (.bl b) H') : andVK tb σ Q (.bl a) H := by
  have hm' := R.wp_bind hm
  refine ⟨a, rfl, ?_⟩
  cases a with
  | true => exact h1 rfl _ hm' k
  | false => exact k false H hm' hS
theorem orVK_J (hm : R.wp ((if a = true then .ok true else A).bind rest) q e) (hS : Sep H L)
    (h1 : a = false → ∀ q' : Bool → Prop, R.wp A q' e → (∀ b H', q' b → Sep H' L → Q (.bl b) H') → tb σ H Q) (k : ∀ b H', R.wp (rest b) q e → Sep H' L → Q (.bl b) H') : orVK tb σ Q (.bl a) H := by
  have hm' := R.wp_bind hm
  refine ⟨a, rfl, ?_⟩
  cases a with
  | true => exact k true H hm' hS
  | false => exact h1 rfl _ hm' k
theorem ifK_2 (h1 : a = true → t1 D σ H) (h2 : a = false → t2 D σ H) : ifK t1 t2 D σ a H := by
  cases a with
  | true => exact h1 rfl
  | false => exact h2 rfl
theorem ifK_J {A B : R τ} {rest : τ → R ρ} (J : τ → St → Hp → Prop) (hm : R.wp ((if a = true then A else B).bind rest) q e)
    (h1 : a = true → ∀ q' : τ → Prop, R.wp A q' e → (∀ s σ' H', q' s → J s σ' H' → D.nx σ' H') → t1 D σ H)
    (h2 : a = false → ∀ q' : τ → Prop, R.wp B q' e → (∀ s σ' H', q' s → J s σ' H' → D.nx σ' H') → t2 D σ H)
    (k : ∀ s σ' H', R.wp (rest s) q e → J s σ' H' → D.nx σ' H') : ifK t1 t2 D σ a H := by
  have hm' := R.wp_bind hm
  cases a with
  | true => exact h1 rfl _ hm' k
  | false => exact h2 rfl _ hm' k
/-! a name for what was reckoned -/
theorem wp_let {α : Type} {x : α} {f : α → R ρ} (hm : R.wp ((R.ok x).bind f) q e) : ∃ y, x = y ∧ R.wp (f y) q e := ⟨x, rfl, hm⟩
theorem ev_is (h : Ev te σ H v) (e : v = w) : Ev te σ H w := by rw [← e]; exact h
theorem q_is (e : v = w) (h : Q w H) : Q v H := by rw [e]; exact h
theorem n_is {i : Nat} (e : v = w) (h : D.nx (σ.set i (some w)) H) : D.nx (σ.set i (some v)) H := by rw [e]; exact h
theorem p_is (e : a = b) (h : P b H) : P a H := by rw [e]; exact h
/-- [elt ..] with a test: the two ways -/
theorem lc_if {A B : Prop} (h1 : a = true → A) (h2 : a = false → B) : if a = true then A else B := by
  cases a with
  | true => exact h1 rfl
  | false => exact h2 rfl
end
end Ml

namespace Ml
open PySem L2
/-! ### the layer's rules with the written part by its name -/
section
variable {X : Cx} (K : PySem.W.Frag) (hK : X.K = K := by rfl)
include hK
theorem ix_listK : IxR X (rIxL K) := by subst hK; exact ix_list
theorem ix_tupK : IxR X (rIxT K) := by subst hK; exact ix_tup
theorem sl_listK : SlR X (rSlL K) := by subst hK; exact sl_list
theorem lenSqK : CallR X (.builtin "len") (rLenSq K) := by subst hK; exact call_lenSq
theorem listSqK : CallR X (.type "list") (rListSq K) := by subst hK; exact call_listSq
theorem isiK : CallR X (.builtin "isinstance") (rIsi K) := by subst hK; exact call_isi
theorem inSqK : OpR X (compareOp .In) (rIn K false) := by subst hK; exact op_in_seq
theorem niSqK : OpR X (compareOp .NotIn) (rIn K true) := by subst hK; exact op_notIn_seq
theorem joinK : MtR X "str.join" (rJoin K) := by subst hK; exact mt_joinS
end
theorem eqDK {X : Cx} (K : PySem.W.Frag) (hu : X.A.units + 64 < cLine) (hK : X.K = K := by rfl) : OpR X (compareOp .Eq) (rEqD K) := by subst hK; exact op_eqD hu
theorem neDK {X : Cx} (K : PySem.W.Frag) (hu : X.A.units + 64 < cLine) (hK : X.K = K := by rfl) : OpR X (compareOp .NotEq) (rNeD K) := by subst hK; exact op_neD hu
theorem allK {X : Cx} (K : PySem.W.Frag) (hc : X.calm = true) (hK : X.K = K := by rfl) : CallR X (.builtin "all") (rAll K) := by subst hK; exact cr_all hc
theorem anyK {X : Cx} (K : PySem.W.Frag) (hc : X.calm = true) (hK : X.K = K := by rfl) : CallR X (.builtin "any") (rAny K) := by subst hK; exact cr_any hc
theorem pi_listK {X : Cx} {tg e : Expr} {tl : TE} (K : PySem.W.Frag) (h : PE X e tl) (hK : X.K = K := by rfl) : PI X tg e (iList K tl) := by subst hK; exact pi_list h
section
variable {X : Cx} {T : String} {name : Str} {id : String} {r : V → List V → Hp → VK → Prop} {o e : Expr} {es : List Expr} {to : TE} {t : TA} {apos cpos : Pos}
theorem pe_bm0K (K : PySem.W.Frag) (pa : PlainAttrs T) (slot : Slot T name id) (hty : typeOf (.builtin id) = pure (.type "method_descriptor")) (hm : MtR X id r) (ho : PE X o to) (hK : X.K = K := by rfl)
    (hbase : attributeBase o name X.env (eval o X.env) = eval o X.env := by rfl) (hline : (apos.endLine == cpos.line) = true := by rfl) :
    PE X (.Call (.Attribute o name apos) [] [] cpos) (tBM0 K T r to) := by subst hK; exact pe_bm0 pa slot hty hm ho hbase hline
theorem pe_bmK (K : PySem.W.Frag) (pa : PlainAttrs T) (slot : Slot T name id) (hty : typeOf (.builtin id) = pure (.type "method_descriptor")) (hm : MtR X id r) (ho : PE X o to) (ha : PA X (e :: es) t) (hK : X.K = K := by rfl)
    (hbase : attributeBase o name X.env (eval o X.env) = eval o X.env := by rfl)
    (hfew : ((backTo cpos (starEach (e :: es) X.env)).all (fun x => !x.1) && (backToKw cpos (keywordEach [] X.env)).all (fun x => x.1.isSome)
      && decide ((e :: es).length + ([] : List Keyword).length + (if ([] : List Keyword).isEmpty then 0 else 1) < 30)) = true := by rfl)
    (hline : (apos.endLine == cpos.line) = true := by rfl) (hs : starEach (e :: es) X.env = (false, eval e X.env) :: starEach es X.env := by rfl) (hplain : (backTo cpos (starEach es X.env)).any (·.1) = false := by rfl) :
    PE X (.Call (.Attribute o name apos) (e :: es) [] cpos) (tBM K T r to t) := by subst hK; exact pe_bm pa slot hty hm ho ha hbase hfew hline hs hplain
end
end Ml
namespace Ml
open PySem L2
theorem im_of_only {G : Gx} {H : Hp} {a : Addr} {ns : List Int} (hO : Only H) (hS : SqL G.K H a (ns.map V.int)) : Im.im G H (.ref a) (⟨ns⟩ : Script) := by
  refine ⟨a, rfl, ?_⟩
  rcases hS with (h | ⟨o, h⟩) | h
  · rcases hO a with z | ⟨o, xs, z⟩
    · rw [h] at z; cases z
    · rw [h] at z; cases z
  · exact .inl ⟨o, h⟩
  · exact .inr h
end Ml

namespace Ml
open PySem L2
/-! ### plain lemmas: loops, items, texts -/
section
variable {α β σ ρ : Type}
theorem forR_ok {f : σ → α → R σ} (I : List α → σ → Prop) : ∀ {xs : List α} {s : σ} (pre : List α), I pre s → (∀ p x q s, pre ++ xs = p ++ x :: q → I p s → ∃ s', f s x = .ok s' ∧ I (p ++ [x]) s') → ∃ s', forR f xs s = .ok s' ∧ I (pre ++ xs) s'
  | [], s, pre, h0, _ => ⟨s, rfl, by rw [List.append_nil]; exact h0⟩
  | x :: xs, s, pre, h0, hs => by
    obtain ⟨s1, e1, h1⟩ := hs pre x xs s rfl h0
    obtain ⟨s2, e2, h2⟩ := forR_ok I (xs := xs) (s := s1) (pre ++ [x]) h1 fun p y q s e => hs p y q s (by rw [← e]; simp)
    refine ⟨s2, ?_, by rw [List.append_assoc] at h2; exact h2⟩
    show (f s x).bind _ = _
    rw [e1, R.bind_ok]; exact e2
theorem forR_inv {f : σ → α → R σ} {xs : List α} {s : σ} (I : List α → σ → Prop) (h0 : I [] s) (hs : ∀ p x q s, xs = p ++ x :: q → I p s → ∃ s', f s x = .ok s' ∧ I (p ++ [x]) s') : ∃ s', forR f xs s = .ok s' ∧ I xs s' := by
  obtain ⟨s', h1, h2⟩ := forR_ok I (xs := xs) (s := s) [] h0 fun p x q s e => hs p x q s (by simpa using e)
  exact ⟨s', h1, by simpa using h2⟩
/-- an invariant that does not look at the place -/
theorem forR_keep {f : σ → α → R σ} {xs : List α} {s : σ} (I : σ → Prop) (h0 : I s) (hs : ∀ x s, x ∈ xs → I s → ∃ s', f s x = .ok s' ∧ I s') : ∃ s', forR f xs s = .ok s' ∧ I s' :=
  forR_inv (fun _ s => I s) h0 fun p x q s e h => hs x s (by rw [e]; simp) h
theorem forR_foldl {f : σ → α → R σ} {g : σ → α → σ} {xs : List α} {s : σ} (h : ∀ s x, x ∈ xs → f s x = .ok (g s x)) : forR f xs s = .ok (xs.foldl g s) := by
  induction xs generalizing s with
  | nil => rfl
  | cons x xs ih =>
    show (f s x).bind _ = _
    rw [h s x (by simp), R.bind_ok]
    exact ih fun s y hy => h s y (by simp [hy])
theorem forF_inv {f : σ → α → R (Fl σ ρ)} (I : List α → σ → Prop) : ∀ {xs : List α} {s : σ} (pre : List α), I pre s → (∀ p x q s, pre ++ xs = p ++ x :: q → I p s → ∃ s', f s x = .ok (.go s') ∧ I (p ++ [x]) s') → ∃ s', forF f xs s = .ok (.go s') ∧ I (pre ++ xs) s'
  | [], s, pre, h0, _ => ⟨s, rfl, by rw [List.append_nil]; exact h0⟩
  | x :: xs, s, pre, h0, hs => by
    obtain ⟨s1, e1, h1⟩ := hs pre x xs s rfl h0
    obtain ⟨s2, e2, h2⟩ := forF_inv I (xs := xs) (s := s1) (pre ++ [x]) h1 fun p y q s e => hs p y q s (by rw [← e]; simp)
    refine ⟨s2, ?_, by rw [List.append_assoc] at h2; exact h2⟩
    show (f s x).bind _ = _
    rw [e1, R.bind_ok]; exact e2
/-- the loop goes on to its end -/
theorem forF_keep {f : σ → α → R (Fl σ ρ)} {xs : List α} {s : σ} (I : σ → Prop) (h0 : I s) (hs : ∀ x s, x ∈ xs → I s → ∃ s', f s x = .ok (.go s') ∧ I s') : ∃ s', forF f xs s = .ok (.go s') ∧ I s' := by
  obtain ⟨s', h1, h2⟩ := forF_inv (fun _ s => I s) (xs := xs) (s := s) [] h0 fun p x q s e h => hs x s (by rw [List.nil_append] at e; rw [e]; simp) h
  exact ⟨s', h1, h2⟩
theorem compR_map {f : Unit → α → R (Unit × Option β)} {g : α → β} {xs : List α} (h : ∀ x, x ∈ xs → f () x = .ok ((), some (g x))) : compR f xs () = .ok ((), xs.map g) := by
  induction xs with
  | nil => rfl
  | cons x xs ih =>
    show (f () x).bind _ = _
    rw [h x (by simp), R.bind_ok, ih fun y hy => h y (by simp [hy])]
    rfl
theorem compR_filterMap {f : Unit → α → R (Unit × Option β)} {g : α → Option β} {xs : List α} (h : ∀ x, x ∈ xs → f () x = .ok ((), g x)) : compR f xs () = .ok ((), xs.filterMap g) := by
  induction xs with
  | nil => rfl
  | cons x xs ih =>
    show (f () x).bind _ = _
    rw [h x (by simp), R.bind_ok, ih fun y hy => h y (by simp [hy])]
    cases e : g x with
    | none => simp [e]
    | some y => simp [e]
theorem compR_all {f : Unit → α → R (Unit × Option β)} {xs : List α} (P : β → Prop) (h : ∀ x, x ∈ xs → ∃ y, f () x = .ok ((), some y) ∧ P y) : ∃ ys, compR f xs () = .ok ((), ys) ∧ ys.length = xs.length ∧ ∀ y, y ∈ ys → P y := by
  induction xs with
  | nil => exact ⟨[], rfl, rfl, by simp⟩
  | cons x xs ih =>
    obtain ⟨y, e, p⟩ := h x (by simp)
    obtain ⟨ys, e2, l, q⟩ := ih fun z hz => h z (by simp [hz])
    refine ⟨y :: ys, ?_, by simp [l], fun z hz => ?_⟩
    · show (f () x).bind _ = _
      rw [e, R.bind_ok, e2]; rfl
    · rcases List.mem_cons.mp hz with rfl | hz
      · exact p
      · exact q z hz
/-- a comprehension that carries a state -/
theorem compR_keep {f : σ → α → R (σ × Option β)} {xs : List α} {s : σ} (I : σ → Prop) (P : β → Prop) (h0 : I s) (h : ∀ s x, x ∈ xs → I s → ∃ s' y, f s x = .ok (s', some y) ∧ I s' ∧ P y) : ∃ s' ys, compR f xs s = .ok (s', ys) ∧ I s' ∧ ys.length = xs.length ∧ ∀ y, y ∈ ys → P y := by
  induction xs generalizing s with
  | nil => exact ⟨s, [], rfl, h0, rfl, by simp⟩
  | cons x xs ih =>
    obtain ⟨s1, y, e, h1, p⟩ := h s x (by simp) h0
    obtain ⟨s2, ys, e2, h2, l, q⟩ := ih h1 fun s z hz => h s z (by simp [hz])
    refine ⟨s2, y :: ys, ?_, h2, by simp [l], fun z hz => ?_⟩
    · show (f s x).bind _ = _
      rw [e, R.bind_ok, e2]; rfl
    · rcases List.mem_cons.mp hz with rfl | hz
      · exact p
      · exact q z hz
theorem idxR_mem {xs : List α} {i : Int} (h0 : 0 ≤ i) (h1 : i < xs.length) : ∃ x, idxR xs i = .ok x ∧ x ∈ xs ∧ xs[i.toNat]? = some x := by
  obtain ⟨x, h, _⟩ := atI_ok h0 h1
  exact ⟨x, idxR_ok h0 h, List.mem_of_getElem? h, h⟩
theorem ixR_ok {xs : List α} {i : Int} (h0 : 0 ≤ i) (h1 : i < xs.length) : ixR xs i = .ok i.toNat := by
  unfold ixR ixN
  rw [if_pos h0, if_pos h1]
theorem mem_set {xs : List α} {j : Nat} {v x : α} (h : x ∈ xs.set j v) : x ∈ xs ∨ x = v := by
  rcases List.mem_or_eq_of_mem_set h with h | h
  · exact .inl h
  · exact .inr h
theorem cutL_sub {xs : List α} {lo hi : Option Int} : (cutL xs lo hi).Sublist xs := (List.take_sublist _ _).trans (List.drop_sublist _ _)
theorem cutL_mem {xs : List α} {lo hi : Option Int} {x : α} (h : x ∈ cutL xs lo hi) : x ∈ xs := cutL_sub.subset h
theorem cutL_len {xs : List α} {lo hi : Option Int} : (cutL xs lo hi).length ≤ xs.length := cutL_sub.length_le
theorem sIx_nn {n d : Nat} {i : Int} (h : 0 ≤ i) : HT.sIx n d (some i) = min i.toNat n := by
  show (if i < 0 then (i + (n : Int)).toNat else min i.toNat n) = _
  rw [if_neg (by omega)]
theorem cutL_to {xs : List α} {i : Int} (h : 0 ≤ i) : cutL xs none (some i) = xs.take i.toNat := by
  unfold cutL
  rw [sIx_nn h, HT.sIx_none, List.drop_zero, Nat.sub_zero]
  by_cases c : i.toNat ≤ xs.length
  · rw [Nat.min_eq_left c]
  · rw [Nat.min_eq_right (by omega), List.take_of_length_le (Nat.le_refl _), List.take_of_length_le (by omega)]
theorem cutL_from {xs : List α} {i : Int} (h : 0 ≤ i) : cutL xs (some i) none = xs.drop i.toNat := by
  unfold cutL
  rw [sIx_nn h, HT.sIx_none]
  by_cases c : i.toNat ≤ xs.length
  · rw [Nat.min_eq_left c, List.take_of_length_le (by rw [List.length_drop]; exact Nat.le_refl _)]
  · rw [Nat.min_eq_right (by omega), List.drop_length, List.drop_of_length_le (by omega), List.take_nil]
theorem cutL_but1 {xs : List α} : cutL xs none (some (-1)) = xs.dropLast := by
  unfold cutL
  have e : HT.sIx xs.length xs.length (some (-1)) = (-1 + (xs.length : Int)).toNat := by
    show (if (-1 : Int) < 0 then (-1 + (xs.length : Int)).toNat else min (-1 : Int).toNat xs.length) = _
    rw [if_pos (by decide)]
  rw [HT.sIx_none, e, List.drop_zero, Nat.sub_zero, List.dropLast_eq_take]
  congr 1; omega
theorem rngL_mem {lo x : Int} {n : Nat} (h : x ∈ rngL lo n) : lo ≤ x ∧ x < lo + n := by
  unfold rngL at h
  obtain ⟨i, hi, rfl⟩ := List.mem_map.mp h
  have := List.mem_range.mp hi
  omega
end
/-! texts -/
theorem len_app (a b : Str) : (a ++ b).length = a.length + b.length := by
  show (a.cps ++ b.cps).size = a.cps.size + b.cps.size
  rw [Array.size_append]
theorem tl_app (a b : Str) : (a ++ b).cps.toList = a.cps.toList ++ b.cps.toList := by
  show (a.cps ++ b.cps).toList = _
  rw [Array.toList_append]
theorem len_tl (x : Str) : x.length = x.cps.toList.length := by simp [Str.length]
theorem str_ext {x y : Str} (h : x.cps.toList = y.cps.toList) : x = y := Str.ext' (Array.toList_inj.mp h)
/-- all signs below 128 -/
def Asc (x : Str) : Prop := ∀ c, c ∈ x.cps.toList → c < 128
theorem Asc.app {a b : Str} (ha : Asc a) (hb : Asc b) : Asc (a ++ b) := fun c hc => by
  rw [tl_app] at hc
  rcases List.mem_append.mp hc with h | h
  · exact ha c h
  · exact hb c h
theorem Asc.sg {c : Nat} (h : c < 128) : Asc (sg c) := fun d hd => by
  have : d = c := by simpa [Ml.sg] using hd
  omega
theorem Asc.lit {x : Str} (h : x.cps.toList.all (· < 128) = true) : Asc x := fun c hc => by
  have := List.all_eq_true.mp h c hc
  simpa using this
theorem Asc.lay {x : Str} (h : Asc x) : (Lay.lay x : Bool) = true := by
  show PyData.strOk x = true
  unfold PyData.strOk
  rw [← Array.all_toList]
  exact List.all_eq_true.mpr fun c hc => decide_eq_true (Nat.lt_trans (h c hc) (by decide))
theorem lay_all {xs : List Str} (h : ∀ x, x ∈ xs → Asc x) : layAllB xs = true := List.all_eq_true.mpr fun x hx => (h x hx).lay
theorem joinL_nil : ∀ ls : List (List Nat), TL.joinL [] ls = ls.flatten
  | [] => rfl
  | [l] => by simp [TL.joinL]
  | l :: m :: r => by
    rw [TL.joinL, joinL_nil (m :: r)]; simp
theorem join_nil (ys : List Str) : (Txt.join ("" : Str) ys).cps.toList = (ys.map fun y => y.cps.toList).flatten := by
  rw [TL.join_eq]
  have ej := TL.tl_join ("" : Str) ys
  have e0 : TL.tl ("" : Str) = [] := by decide
  rw [e0, joinL_nil] at ej
  exact ej
theorem len_join_nil (ys : List Str) : (Txt.join ("" : Str) ys).length = (ys.map (·.length)).sum := by
  rw [len_tl, join_nil, List.length_flatten, List.map_map]
  exact congrArg List.sum (List.map_congr_left fun y _ => (len_tl y).symm)
theorem sum_le {xs : List Str} {k : Nat} (h : ∀ x, x ∈ xs → x.length ≤ k) : (xs.map (·.length)).sum ≤ xs.length * k := by
  induction xs with
  | nil => simp
  | cons x xs ih =>
    have h1 := h x (by simp)
    have h2 := ih fun y hy => h y (by simp [hy])
    rw [List.map_cons, List.sum_cons, List.length_cons, Nat.succ_mul]
    omega
theorem Asc.join {ys : List Str} (h : ∀ y, y ∈ ys → Asc y) : Asc (Txt.join ("" : Str) ys) := fun c hc => by
  rw [join_nil] at hc
  obtain ⟨l, hl, hc⟩ := List.mem_flatten.mp hc
  obtain ⟨y, hy, rfl⟩ := List.mem_map.mp hl
  exact h y hy c hc
theorem upper_tl {x : Str} (h : Asc x) : (Txt.upper x).cps.toList = x.cps.toList.map PyProof.Rows.up1 := by
  rw [PyProof.Rows.upper_ascii h]; simp
theorem lower_tl {x : Str} (h : Asc x) : (Txt.lower x).cps.toList = x.cps.toList.map PyProof.Rows.lo1 := by
  rw [PyProof.Rows.lower_ascii h]; simp
theorem up1_lt {c : Nat} (h : c < 128) : PyProof.Rows.up1 c < 128 := by unfold PyProof.Rows.up1; split <;> omega
theorem lo1_lt {c : Nat} (h : c < 128) : PyProof.Rows.lo1 c < 128 := by unfold PyProof.Rows.lo1; split <;> omega
theorem Asc.upper {x : Str} (h : Asc x) : Asc (Txt.upper x) := fun c hc => by
  rw [upper_tl h] at hc
  obtain ⟨d, hd, rfl⟩ := List.mem_map.mp hc
  exact up1_lt (h d hd)
theorem Asc.lower {x : Str} (h : Asc x) : Asc (Txt.lower x) := fun c hc => by
  rw [lower_tl h] at hc
  obtain ⟨d, hd, rfl⟩ := List.mem_map.mp hc
  exact lo1_lt (h d hd)
theorem len_upper {x : Str} (h : Asc x) : (Txt.upper x).length = x.length := by rw [len_tl, upper_tl h, List.length_map, len_tl]
theorem len_lower {x : Str} (h : Asc x) : (Txt.lower x).length = x.length := by rw [len_tl, lower_tl h, List.length_map, len_tl]
theorem len_sg (c : Nat) : (sg c).length = 1 := rfl
/-! str of a small number -/
theorem log2_small {i : Int} (h0 : -1000000000000 < i) (h1 : i < 1000000000000) : i.natAbs.log2 < 1920 := by
  have h : i.natAbs < 2 ^ 40 := by omega
  by_cases z : i.natAbs = 0
  · rw [z]; decide
  · exact Nat.lt_trans ((Nat.log2_lt z).mpr h) (by decide)
theorem tl_num (n : Nat) : (Str.ofString (toString ((n : Nat) : Int))).cps.toList = TL.numL n := TL.tl_num n
end Ml
namespace Ml
open PySem L2
/-! ### total programs: it comes to an answer with P -/
def Ok {α : Type} (m : R α) (P : α → Prop) : Prop := ∃ a, m = .ok a ∧ P a
namespace Ok
variable {α β σ ρ : Type} {P : ρ → Prop}
theorem ret {a : ρ} (h : P a) : Ok (.ok a) P := ⟨a, rfl, h⟩
theorem bind {m : R α} {f : α → R ρ} {Q : α → Prop} (h : Ok m Q) (k : ∀ a, Q a → Ok (f a) P) : Ok (m.bind f) P := by
  obtain ⟨a, e, q⟩ := h
  rw [e, R.bind_ok]; exact k a q
theorem bindE {m : R α} {f : α → R ρ} {a : α} (h : m = .ok a) (k : Ok (f a) P) : Ok (m.bind f) P := by
  rw [h, R.bind_ok]; exact k
theorem lets {a : α} {f : α → R ρ} (k : Ok (f a) P) : Ok ((R.ok a).bind f) P := k
theorem name {a : α} {f : α → R ρ} (k : ∀ y, y = a → Ok (f y) P) : Ok ((R.ok a).bind f) P := k a rfl
theorem need {p : Prop} [Decidable p] {m : R ρ} (h : p) (k : Ok m P) : Ok (R.need p m) P := by rw [R.need_pos h]; exact k
theorem ite {c : Prop} [Decidable c] {a b : R ρ} (h1 : c → Ok a P) (h2 : ¬ c → Ok b P) : Ok (if c then a else b) P := by
  by_cases h : c
  · rw [if_pos h]; exact h1 h
  · rw [if_neg h]; exact h2 h
theorem ifT {c : Prop} [Decidable c] {a b : R ρ} (h : c) (k : Ok a P) : Ok (if c then a else b) P := by rw [if_pos h]; exact k
theorem ifF {c : Prop} [Decidable c] {a b : R ρ} (h : ¬ c) (k : Ok b P) : Ok (if c then a else b) P := by rw [if_neg h]; exact k
theorem mono {Q : ρ → Prop} {m : R ρ} (h : Ok m Q) (k : ∀ a, Q a → P a) : Ok m P := by
  obtain ⟨a, e, q⟩ := h
  exact ⟨a, e, k a q⟩
theorem eq {m : R ρ} {v : ρ} (h : Ok m (· = v)) : m = .ok v := by
  obtain ⟨a, e, q⟩ := h
  rw [e, q]
theorem idx {xs : List α} {i : Int} {f : α → R ρ} (h0 : 0 ≤ i) (h1 : i < xs.length) (k : ∀ x, x ∈ xs → xs[i.toNat]? = some x → Ok (f x) P) : Ok ((idxR xs i).bind f) P := by
  obtain ⟨x, e, m, g⟩ := idxR_mem h0 h1
  rw [e, R.bind_ok]; exact k x m g
theorem ix {xs : List α} {i : Int} {f : Nat → R ρ} (h0 : 0 ≤ i) (h1 : i < xs.length) (k : Ok (f i.toNat) P) : Ok ((ixR xs i).bind f) P := by
  rw [ixR_ok h0 h1, R.bind_ok]; exact k
theorem forI {f : σ → α → R σ} {xs : List α} {s : σ} {rest : σ → R ρ} (I : List α → σ → Prop) (h0 : I [] s) (hs : ∀ p x q s, xs = p ++ x :: q → I p s → Ok (f s x) (I (p ++ [x]))) (k : ∀ s, I xs s → Ok (rest s) P) : Ok ((forR f xs s).bind rest) P :=
  bind (forR_inv I h0 hs) k
theorem forK {f : σ → α → R σ} {xs : List α} {s : σ} {rest : σ → R ρ} (I : σ → Prop) (h0 : I s) (hs : ∀ x s, x ∈ xs → I s → Ok (f s x) I) (k : ∀ s, I s → Ok (rest s) P) : Ok ((forR f xs s).bind rest) P :=
  bind (forR_keep I h0 hs) k
theorem forL {f : σ → α → R σ} (g : σ → α → σ) {xs : List α} {s : σ} {rest : σ → R ρ} (hs : ∀ x s, x ∈ xs → f s x = .ok (g s x)) (k : Ok (rest (xs.foldl g s)) P) : Ok ((forR f xs s).bind rest) P :=
  bindE (forR_foldl fun s x h => hs x s h) k
theorem forFK {τ : Type} {f : σ → α → R (Fl σ τ)} {xs : List α} {s : σ} {rest : Fl σ τ → R ρ} (I : σ → Prop) (h0 : I s) (hs : ∀ x s, x ∈ xs → I s → Ok (f s x) (fun r => ∃ s', r = .go s' ∧ I s')) (k : ∀ s, I s → Ok (rest (.go s)) P) : Ok ((forF f xs s).bind rest) P := by
  obtain ⟨s', e, h⟩ := forF_keep (f := f) (xs := xs) I h0 fun x s hx hI => by
    obtain ⟨r, e, s', rfl, h⟩ := hs x s hx hI
    exact ⟨s', e, h⟩
  exact bindE e (k s' h)
theorem forFI {τ : Type} {f : σ → α → R (Fl σ τ)} {xs : List α} {s : σ} {rest : Fl σ τ → R ρ} (I : List α → σ → Prop) (h0 : I [] s) (hs : ∀ p x q s, xs = p ++ x :: q → I p s → Ok (f s x) (fun r => ∃ s', r = .go s' ∧ I (p ++ [x]) s')) (k : ∀ s, I xs s → Ok (rest (.go s)) P) : Ok ((forF f xs s).bind rest) P := by
  obtain ⟨s', e, h⟩ := forF_inv (f := f) (xs := xs) I [] h0 fun p x q s hx hI => by
    obtain ⟨r, e, s', rfl, h⟩ := hs p x q s (by simpa using hx) hI
    exact ⟨s', e, h⟩
  exact bindE e (k s' (by simpa using h))
/-- a comprehension whose items all have Q -/
theorem comp {f : Unit → α → R (Unit × Option β)} {xs : List α} {rest : Unit × List β → R ρ} (Q : β → Prop) (h : ∀ x, x ∈ xs → Ok (f () x) (fun r => ∃ y, r.2 = some y ∧ Q y)) (k : ∀ ys, ys.length = xs.length → (∀ y, y ∈ ys → Q y) → Ok (rest ((), ys)) P) : Ok ((compR f xs ()).bind rest) P := by
  obtain ⟨ys, e, l, q⟩ := compR_all (f := f) (xs := xs) Q fun x hx => by
    obtain ⟨r, e, y, e2, hy⟩ := h x hx
    exact ⟨y, by rw [e, ← e2], hy⟩
  exact bindE e (k ys l q)
/-- .. whose items are told -/
theorem compM {f : Unit → α → R (Unit × Option β)} {xs : List α} {rest : Unit × List β → R ρ} (g : α → β) (h : ∀ x, x ∈ xs → Ok (f () x) (fun r => r.2 = some (g x))) (k : Ok (rest ((), xs.map g)) P) : Ok ((compR f xs ()).bind rest) P := by
  refine bindE (compR_map (g := g) fun x hx => ?_) k
  obtain ⟨r, e, e2⟩ := h x hx
  rw [e, ← e2]
theorem compF {f : Unit → α → R (Unit × Option β)} {xs : List α} {rest : Unit × List β → R ρ} (g : α → Option β) (h : ∀ x, x ∈ xs → Ok (f () x) (fun r => r.2 = g x)) (k : Ok (rest ((), xs.filterMap g)) P) : Ok ((compR f xs ()).bind rest) P := by
  refine bindE (compR_filterMap (g := g) fun x hx => ?_) k
  obtain ⟨r, e, e2⟩ := h x hx
  rw [e, ← e2]
/-- .. that carries a state -/
theorem compS {f : σ → α → R (σ × Option β)} {xs : List α} {s : σ} {rest : σ × List β → R ρ} (I : σ → Prop) (Q : β → Prop) (h0 : I s) (h : ∀ s x, x ∈ xs → I s → Ok (f s x) (fun r => I r.1 ∧ ∃ y, r.2 = some y ∧ Q y)) (k : ∀ s ys, I s → ys.length = xs.length → (∀ y, y ∈ ys → Q y) → Ok (rest (s, ys)) P) : Ok ((compR f xs s).bind rest) P := by
  obtain ⟨s', ys, e, hI, l, q⟩ := compR_keep (f := f) (xs := xs) I Q h0 fun s x hx hI => by
    obtain ⟨r, e, h1, y, e2, hy⟩ := h s x hx hI
    exact ⟨r.1, y, by rw [e, ← e2], h1, hy⟩
  exact bindE e (k s' ys hI l q)
end Ok
theorem pre_lt {α : Type} {xs p q : List α} {x : α} (e : xs = p ++ x :: q) : p.length < xs.length := by
  rw [e, List.length_append, List.length_cons]; omega
theorem lt_line {n m : Nat} (h : n ≤ m) (hm : m < 16777216) : n < sizeLine := Nat.lt_of_le_of_lt h hm
theorem le_line {n : Nat} (h : n ≤ 16777216) : n ≤ sizeLine := h
end Ml

namespace Lw
open PySem L2 Ml
def m_each_once (v_row : (List Str)) : R (List Str) :=
(forR (fun (s2 : (List (Str × Bool))) (x3 : Str) =>
R.need (s2.length < sizeLine) <|
.ok (if dhas s2 x3 then s2 else dput s2 x3 true)) (v_row) (([] : (List (Str × Bool))))).bind fun (s2 : (List (Str × Bool))) =>
.ok (s2.map (·.1))
def m_law_row (v_law_script : Script) (v_law_many : Int) : R (List Int) :=
R.need (-(2 ^ 62) ≤ v_law_many ∧ v_law_many < 2 ^ 62) <|
(forR (fun (s3 : (List Int) × Int) (x4 : Int) =>
(if (decide (0 < (v_law_script.ns.length : Int))) = true then (
R.need (0 < (v_law_script.ns.length : Int)) <|
(idxR v_law_script.ns (x4 % (v_law_script.ns.length : Int))).bind fun x10 =>
.ok (x10)) else (
.ok (0))).bind fun (s8 : Int) =>
(R.ok ((((s3.2 * 48271) + s8) + x4) % 2147483647 : Int)).bind fun y11 =>
R.need (mulOk (y11) (y11)) <|
R.need (s3.1.length < sizeLine) <|
.ok (s3.1 ++ [((y11 * y11) + (16807 * y11)) % 2147483629], y11)) (rngL 0 (v_law_many).toNat) (([] : (List Int)), 7)).bind fun (s3 : (List Int) × Int) =>
.ok (s3.1)
def m_law_word (v_law_base : Int) (v_law_turn : Int) : R Str :=
(compR (fun (_ : Unit) (x2 : Int) =>
R.need (mulOk (v_law_base / 99991) (x2)) <|
(idxR (("abcdefghijklmnopqrstuvwxyz0123456789" : Str)).cps.toList ((((v_law_base / 64) + (7 * x2)) + ((v_law_base / 99991) * x2)) % 36)).bind fun c6 =>
.ok ((), some (sg (c6)))) (rngL 0 20) ()).bind fun (t7 : Unit × List Str) =>
if ((decide ((v_law_base % 3) = 0)) && (decide (v_law_turn < 20))) = true then (
R.need (((cutL t7.2 none (some (1 + v_law_turn))).map (·.length)).sum + (cutL t7.2 none (some (1 + v_law_turn))).length * (("" : Str)).length ≤ 16777216) <|
.ok (Txt.join ("" : Str) (cutL t7.2 none (some (1 + v_law_turn))))) else (
if ((decide ((v_law_base % 3) < 2)) || (decide (35 < v_law_turn))) = true then (
R.need (((cutL t7.2 none (some (1 + ((v_law_base / 3) % 16)))).map (·.length)).sum + (cutL t7.2 none (some (1 + ((v_law_base / 3) % 16)))).length * (("" : Str)).length ≤ 16777216) <|
R.need ((Txt.join ("" : Str) (cutL t7.2 none (some (1 + ((v_law_base / 3) % 16))))).length + (("x" : Str)).length ≤ sizeLine) <|
R.need ((v_law_turn : Int).natAbs.log2 < 1920) <|
R.need (((Txt.join ("" : Str) (cutL t7.2 none (some (1 + ((v_law_base / 3) % 16))))) ++ ("x" : Str)).length + (Str.ofString (toString (v_law_turn : Int))).length ≤ sizeLine) <|
.ok (((Txt.join ("" : Str) (cutL t7.2 none (some (1 + ((v_law_base / 3) % 16))))) ++ ("x" : Str)) ++ (Str.ofString (toString (v_law_turn : Int))))) else (
(R.ok (1 + ((v_law_base / 3) % 20) : Int)).bind fun y17 =>
R.need (0 < y17) <|
(R.ok ((v_law_base / 61) % y17 : Int)).bind fun y19 =>
(idxR (("abcdefghijklmnopqrstuvwxyz0123456789" : Str)).cps.toList (((v_law_base / 2311) + v_law_turn) % 36)).bind fun c20 =>
(ixR t7.2 (y19)).bind fun j21 =>
R.need (((cutL (t7.2.set j21 (sg (c20))) none (some (y17))).map (·.length)).sum + (cutL (t7.2.set j21 (sg (c20))) none (some (y17))).length * (("" : Str)).length ≤ 16777216) <|
.ok (Txt.join ("" : Str) (cutL (t7.2.set j21 (sg (c20))) none (some (y17))))))
def m_law (v_law_script : Script) : R Bool :=
(m_law_row v_law_script 2).bind fun r1 =>
(idxR r1 (1)).bind fun x3 =>
(compR (fun (_ : Unit) (x5 : Int) =>
(m_law_word x3 x5).bind fun r8 =>
.ok ((), some (r8))) (rngL 0 6) ()).bind fun (t9 : Unit × List Str) =>
(idxR t9.2 ((x3 / 11) % 6)).bind fun x10 =>
R.need ((x10).length ≤ 5592405) <|
(idxR t9.2 ((x3 / 7) % 6)).bind fun x12 =>
R.need ((x12).length + ((" " : Str)).length ≤ sizeLine) <|
R.need (t9.2.length + ([Txt.upper x10, x12 ++ (" " : Str), ("" : Str)]).length ≤ sizeLine) <|
(R.ok (t9.2 ++ ([Txt.upper x10, x12 ++ (" " : Str), ("" : Str)]) : (List Str))).bind fun y17 =>
(m_law_row v_law_script (if (v_law_script.ns.length : Int) < 30 then (v_law_script.ns.length : Int) else 30)).bind fun r18 =>
R.need ((r18).length ≤ sizeLine) <|
(compR (fun (_ : Unit) (x22 : Int) =>
(idxR y17 ((x22 / 3) % 9)).bind fun x25 =>
.ok ((), some (x25))) (r18) ()).bind fun (t26 : Unit × List Str) =>
(forR (fun (s28 : (List Str)) (x29 : Str) =>
(if (!decide (x29 ∈ s28)) = true then (
R.need (s28.length + ([x29]).length ≤ sizeLine) <|
(R.ok (s28 ++ ([x29]) : (List Str))).bind fun y38 =>
.ok (y38)) else (
.ok (s28))).bind fun (s33 : (List Str)) =>
.ok (s33)) (t26.2) (([] : (List Str)))).bind fun (s28 : (List Str)) =>
(m_each_once t26.2).bind fun r40 =>
R.need (layAllB r40 = true) <|
R.need (layAllB s28 = true) <|
(if (!decide (r40 = s28)) = true then .ok true else (
R.need (layAllB t26.2 = true) <|
R.need (layAllB t26.2 = true) <|
.ok (!decide (t26.2 = t26.2)))).bind fun b44 =>
if b44 = true then (
.ok (false)) else (
R.need (layAllB r40 = true) <|
R.need (layAllB s28 = true) <|
if (!decide (r40 = s28)) = true then (
.ok (false)) else (
(m_each_once t26.2).bind fun r52 =>
R.need (layAllB r52 = true) <|
R.need (layAllB s28 = true) <|
if (!decide (r52 = s28)) = true then (
.ok (false)) else (
R.need (r40.length < sizeLine) <|
R.need (r52.length < sizeLine) <|
R.need (layAllB (cutL (r40 ++ [("x" : Str)]) none (some (-1))) = true) <|
R.need (layAllB s28 = true) <|
(if (decide ((cutL (r40 ++ [("x" : Str)]) none (some (-1))) = s28)) = true then (
R.need (layAllB t26.2 = true) <|
R.need (layAllB t26.2 = true) <|
(if (decide (t26.2 = t26.2)) = true then (
(m_each_once t26.2).bind fun r66 =>
R.need (layAllB r66 = true) <|
R.need (layAllB s28 = true) <|
.ok (decide (r66 = s28))) else .ok false).bind fun b65 =>
.ok (b65)) else .ok false).bind fun b62 =>
.ok (b62))))
end Lw

namespace Lw
open PySem L2 Ml
/-! the numbers drawn -/
theorem m_law_row_ok (s : Script) {n : Int} (h0 : 0 ≤ n) (h1 : n ≤ 1000) : Ok (m_law_row s n) fun r => r.length = n.toNat ∧ ∀ x, x ∈ r → 0 ≤ x ∧ x < 2147483629 := by
  unfold m_law_row
  refine .need (by omega) ?_
  refine .forI (fun pre (s : List Int × Int) => s.1.length = pre.length ∧ (∀ x, x ∈ s.1 → 0 ≤ x ∧ x < 2147483629) ∧ 0 ≤ s.2 ∧ s.2 < 2147483647) ⟨rfl, by simp, by decide, by decide⟩ ?_ ?_
  · rintro p x q ⟨l, m⟩ ep ⟨hl, hx, hm0, hm1⟩
    have hp := pre_lt ep
    rw [rngL_len] at hp
    refine .bind (Q := fun _ => True) (.ite (fun c => ?_) fun _ => .ret trivial) fun c _ => .lets ?_
    · have c := of_decide_eq_true c
      exact .need c (.idx (Int.emod_nonneg _ (by omega)) (Int.emod_lt_of_pos _ c) fun _ _ _ => .ret trivial)
    · dsimp only
      have hy0 : 0 ≤ (m * 48271 + c + x) % 2147483647 := Int.emod_nonneg _ (by decide)
      have hy1 : (m * 48271 + c + x) % 2147483647 < 2147483647 := Int.emod_lt_of_pos _ (by decide)
      generalize (m * 48271 + c + x) % 2147483647 = y at *
      have hl' : l.length = p.length := hl
      refine .need (show mulOk y y from .inl ⟨by omega, by omega⟩) (.need (lt_line (m := 1000) (by omega) (by decide)) (.ret ⟨by simp [hl'], fun z hz => ?_, hy0, hy1⟩))
      rcases List.mem_append.mp hz with h | h
      · exact hx z h
      · rw [List.mem_singleton.mp h]
        exact ⟨Int.emod_nonneg _ (by decide), Int.emod_lt_of_pos _ (by decide)⟩
  · rintro ⟨l, m⟩ ⟨hl, hx, _⟩
    exact .ret ⟨by rw [hl, rngL_len], hx⟩
/-! the signs of words -/
theorem alph_len : ("abcdefghijklmnopqrstuvwxyz0123456789" : Str).cps.toList.length = 36 := by decide +kernel
theorem alph_asc : Asc ("abcdefghijklmnopqrstuvwxyz0123456789" : Str) := Asc.lit (by decide +kernel)
def wsg (c : Nat) : Bool := (97 ≤ c && c ≤ 122) || (48 ≤ c && c ≤ 57)
theorem wsg_lt {c : Nat} (h : wsg c = true) : c < 128 := by
  unfold wsg at h
  simp at h
  omega
theorem alph_wsg : ∀ c, c ∈ ("abcdefghijklmnopqrstuvwxyz0123456789" : Str).cps.toList → wsg c = true := by
  have : ("abcdefghijklmnopqrstuvwxyz0123456789" : Str).cps.toList.all wsg = true := by decide +kernel
  exact fun c hc => List.all_eq_true.mp this c hc
theorem alph_at {ρ : Type} {P : ρ → Prop} {i : Int} {f : Nat → R ρ} (k : ∀ c, wsg c = true → Ok (f c) P) : Ok ((idxR ("abcdefghijklmnopqrstuvwxyz0123456789" : Str).cps.toList (i % 36)).bind f) P :=
  .idx (Int.emod_nonneg _ (by decide)) (by rw [alph_len]; exact Int.emod_lt_of_pos _ (by decide)) fun c m _ => k c (alph_wsg c m)
/-- word signs alone -/
def Wsg (x : Str) : Prop := ∀ c, c ∈ x.cps.toList → wsg c = true
theorem Wsg.asc {x : Str} (h : Wsg x) : Asc x := fun c hc => wsg_lt (h c hc)
theorem Wsg.app {a b : Str} (ha : Wsg a) (hb : Wsg b) : Wsg (a ++ b) := fun c hc => by
  rw [tl_app] at hc
  rcases List.mem_append.mp hc with h | h
  · exact ha c h
  · exact hb c h
theorem Wsg.sg {c : Nat} (h : wsg c = true) : Wsg (sg c) := fun d hd => by
  have : d = c := by simpa [Ml.sg] using hd
  rw [this]; exact h
theorem Wsg.lit {x : Str} (h : x.cps.toList.all wsg = true) : Wsg x := fun c hc => List.all_eq_true.mp h c hc
theorem Wsg.join {ys : List Str} (h : ∀ y, y ∈ ys → Wsg y) : Wsg (Txt.join ("" : Str) ys) := fun c hc => by
  rw [join_nil] at hc
  obtain ⟨l, hl, hc⟩ := List.mem_flatten.mp hc
  obtain ⟨y, hy, rfl⟩ := List.mem_map.mp hl
  exact h y hy c hc
theorem num_wd {i : Int} (h0 : 0 ≤ i) (h1 : i < 1000000) : Wsg (Str.ofString (toString i)) ∧ (Str.ofString (toString i)).length ≤ 6 ∧ 1 ≤ (Str.ofString (toString i)).length := by
  obtain ⟨n, rfl⟩ : ∃ n : Nat, i = (n : Int) := ⟨i.toNat, by omega⟩
  have hd := TL.numL_digits n
  refine ⟨fun c hc => ?_, ?_, ?_⟩
  · rw [tl_num] at hc
    have h2 : 48 ≤ c ∧ c ≤ 57 := hd c hc
    unfold wsg
    simp; omega
  · rw [len_tl, tl_num]
    exact TL.numL_len (n := n) (k := 6) (by decide) (by omega)
  · rw [len_tl, tl_num]
    have := TL.numL_ne n
    cases e : TL.numL n with
    | nil => exact absurd e this
    | cons a l => simp
/-! a word -/
theorem joins20 {zs : List Str} (hz : ∀ z, z ∈ zs → Wsg z ∧ z.length = 1) (hl : zs.length ≤ 20) : Wsg (Txt.join ("" : Str) zs) ∧ (Txt.join ("" : Str) zs).length = zs.length ∧ (zs.map (·.length)).sum + zs.length * ("" : Str).length ≤ 16777216 := by
  have h1 : (zs.map (·.length)).sum = zs.length := by
    clear hl
    induction zs with
    | nil => rfl
    | cons x xs ih =>
      rw [List.map_cons, List.sum_cons, ih fun z m => hz z (by simp [m]), (hz x (by simp)).2, List.length_cons]; omega
  have e0 : ("" : Str).length = 0 := by decide
  rw [e0]
  exact ⟨.join fun z m => (hz z m).1, by rw [len_join_nil, h1], by omega⟩
/-- a word of 1 to 20 signs, where the number is small -/
theorem m_law_word_ok {b t : Int} (hb : 0 ≤ b ∧ b < 2147483647) (ht : 0 ≤ t ∧ t < 1000) : Ok (m_law_word b t) fun z => Wsg z ∧ 1 ≤ z.length ∧ z.length ≤ 20 := by
  unfold m_law_word
  refine .comp (fun y => Wsg y ∧ y.length = 1) (fun x hx => ?_) fun ys hl hy => ?_
  · have hx' := rngL_mem hx
    exact .need (show mulOk (b / 99991) x from .inr ⟨by omega, by omega⟩) (alph_at fun c hc => .ret ⟨_, rfl, Wsg.sg hc, rfl⟩)
  · rw [rngL_len] at hl
    dsimp only
    have cut : ∀ (i : Int) (zs : List Str), (∀ z, z ∈ zs → Wsg z ∧ z.length = 1) → zs.length = 20 → 1 ≤ i → i ≤ 20 → (∀ z, z ∈ cutL zs none (some i) → Wsg z ∧ z.length = 1) ∧ (cutL zs none (some i)).length = i.toNat := fun i zs hz hl h1 h2 =>
      ⟨fun z m => hz z (cutL_mem m), by rw [cutL_to (by omega), List.length_take]; omega⟩
    refine .ite (fun c1 => ?_) fun c1 => .ite (fun c2 => ?_) fun c2 => ?_
    · simp at c1
      obtain ⟨h1, h2⟩ := cut (1 + t) ys hy hl (by omega) (by omega)
      obtain ⟨j1, j2, j3⟩ := joins20 h1 (by omega)
      exact .need j3 (.ret ⟨j1, by omega, by omega⟩)
    · obtain ⟨h1, h2⟩ := cut (1 + b / 3 % 16) ys hy hl (by omega) (by omega)
      obtain ⟨j1, j2, j3⟩ := joins20 h1 (by omega)
      obtain ⟨n1, n2, n3⟩ := num_wd (i := t) ht.1 (by omega)
      have n4 : (Str.ofString (toString t)).length ≤ 3 := by
        obtain ⟨n, rfl⟩ : ∃ n : Nat, t = (n : Int) := ⟨t.toNat, by omega⟩
        rw [len_tl, tl_num]
        exact TL.numL_len (n := n) (k := 3) (by decide) (by omega)
      have ex : ("x" : Str).length = 1 := by decide
      refine .need j3 (.need (le_line (by rw [ex]; omega)) (.need (log2_small (by omega) (by omega)) (.need (le_line (by rw [len_app, ex]; omega)) (.ret ⟨(j1.app (.lit (by decide +kernel))).app n1, by rw [len_app, len_app, ex]; omega, by rw [len_app, len_app, ex]; omega⟩))))
    · refine .lets (.need (by omega) (.lets (alph_at fun c hc => .ix (Int.emod_nonneg _ (by omega)) (by rw [hl]; have := Int.emod_lt_of_pos (b / 61) (show 0 < 1 + b / 3 % 20 by omega); omega) ?_)))
      have hy' : ∀ z, z ∈ ys.set (b / 61 % (1 + b / 3 % 20)).toNat (sg c) → Wsg z ∧ z.length = 1 := fun z m => by
        rcases mem_set m with h | rfl
        · exact hy z h
        · exact ⟨Wsg.sg hc, rfl⟩
      obtain ⟨h1, h2⟩ := cut (1 + b / 3 % 20) _ hy' (by rw [List.length_set]; exact hl) (by omega) (by omega)
      obtain ⟨j1, j2, j3⟩ := joins20 h1 (by omega)
      exact .need j3 (.ret ⟨j1, by omega, by omega⟩)
/-! each once -/
def onceF (l : List Str) (x : Str) : List Str := if x ∈ l then l else l ++ [x]
def once (row : List Str) : List Str := row.foldl onceF []
theorem onceF_len (l : List Str) (x : Str) : (onceF l x).length ≤ l.length + 1 := by unfold onceF; split <;> simp
theorem once_len (row : List Str) : ∀ l : List Str, (row.foldl onceF l).length ≤ l.length + row.length := by
  induction row with
  | nil => intro l; simp
  | cons x r ih =>
    intro l
    have h1 := ih (onceF l x)
    have h2 := onceF_len l x
    rw [List.foldl_cons, List.length_cons]; omega
theorem once_mem (row : List Str) (P : Str → Prop) : ∀ l : List Str, (∀ x, x ∈ l → P x) → (∀ x, x ∈ row → P x) → ∀ x, x ∈ row.foldl onceF l → P x := by
  induction row with
  | nil => intro l h _ x hx; exact h x hx
  | cons y r ih =>
    intro l h hr x hx
    rw [List.foldl_cons] at hx
    refine ih _ (fun z hz => ?_) (fun z hz => hr z (by simp [hz])) x hx
    unfold onceF at hz
    split at hz
    · exact h z hz
    · rcases List.mem_append.mp hz with q | q
      · exact h z q
      · rw [List.mem_singleton.mp q]; exact hr y (by simp)
theorem dget_iff {β : Type} (d : List (Str × β)) (k : Str) : dhas d k = decide (k ∈ d.map (·.1)) := by
  induction d with
  | nil => rfl
  | cons p d ih =>
    by_cases c : p.1 = k
    · have h1 : dhas (p :: d) k = true := by simp [dhas, dget, List.find?_cons, c]
      rw [h1, List.map_cons, c]; simp
    · have h1 : dhas (p :: d) k = dhas d k := by simp [dhas, dget, List.find?_cons, c]
      have c' : ¬ k = p.1 := fun e => c e.symm
      rw [h1, ih]; simp only [List.map_cons, List.mem_cons, c', false_or]
theorem dput_new {β : Type} (d : List (Str × β)) (k : Str) (v : β) (h : ¬ k ∈ d.map (·.1)) : dput d k v = d ++ [(k, v)] := by
  unfold dput
  have : (d.any fun kv => decide (kv.1 = k)) = false := by
    rw [List.any_eq_false]
    intro x hx
    have : x.1 ≠ k := fun e => h (List.mem_map.mpr ⟨x, hx, e⟩)
    simpa using this
  rw [this]; rfl
theorem m_each_once_ok {row : List Str} (h : row.length ≤ 10000) : m_each_once row = .ok (once row) := by
  refine Ok.eq ?_
  unfold m_each_once
  refine .forI (fun pre d => d.map (·.1) = once pre ∧ d.length ≤ pre.length) ⟨rfl, Nat.le_refl _⟩ ?_ fun d hd => .ret hd.1
  rintro p x q d ep ⟨h1, h2⟩
  have hp := pre_lt ep
  have eo : once (p ++ [x]) = onceF (once p) x := by unfold once; rw [List.foldl_append]; rfl
  refine .need (lt_line (m := 10000) (by omega) (by decide)) (.ret ?_)
  rw [eo, ← h1, dget_iff]
  unfold onceF
  by_cases c : x ∈ d.map (·.1)
  · rw [if_pos (decide_eq_true c), if_pos c]
    exact ⟨rfl, by simp; omega⟩
  · rw [if_neg (by simpa using c), if_neg c, dput_new d x true c]
    exact ⟨by simp, by simp; omega⟩
theorem law_ok (s : Script) (h : s.ns.length ≤ 63) : m_law s = .ok true := by
  refine Ok.eq ?_
  unfold m_law
  refine .bind (m_law_row_ok s (n := 2) (by decide) (by decide)) fun r1 ⟨l1, h1⟩ => ?_
  refine .idx (by decide) (by rw [l1]; decide) fun b mb _ => ?_
  have hb := h1 b mb
  refine .comp (fun z => Wsg z ∧ 1 ≤ z.length ∧ z.length ≤ 20) (fun x hx => ?_) fun ws lw hw => ?_
  · have hx' := rngL_mem hx
    exact .bind (m_law_word_ok (b := b) (t := x) (by omega) (by omega)) fun z hz => .ret ⟨z, rfl, hz⟩
  rw [rngL_len] at lw
  dsimp only
  refine .idx (Int.emod_nonneg _ (by decide)) (by rw [lw]; exact Int.emod_lt_of_pos _ (by decide)) fun u mu _ => ?_
  have hu := hw u mu
  refine .need (by omega) (.idx (Int.emod_nonneg _ (by decide)) (by rw [lw]; exact Int.emod_lt_of_pos _ (by decide)) fun v mv _ => ?_)
  have hv := hw v mv
  have el : (" " : Str).length = 1 := by decide
  refine .need (le_line (by rw [el]; omega)) (.need (le_line (by rw [lw]; simp)) (.lets ?_))
  have hsome : ∀ x, x ∈ ws ++ [Txt.upper u, v ++ (" " : Str), ("" : Str)] → Asc x := fun x hx => by
    rcases List.mem_append.mp hx with q | q
    · exact (hw x q).1.asc
    · simp only [List.mem_cons, List.not_mem_nil, or_false] at q
      rcases q with rfl | rfl | rfl
      · exact hu.1.asc.upper
      · exact hv.1.asc.app (.lit (by decide +kernel))
      · exact .lit (by decide +kernel)
  have lsome : (ws ++ [Txt.upper u, v ++ (" " : Str), ("" : Str)]).length = 9 := by rw [List.length_append, lw]; rfl
  generalize ws ++ [Txt.upper u, v ++ (" " : Str), ("" : Str)] = some9 at hsome lsome ⊢
  refine .bind (m_law_row_ok s (n := if (s.ns.length : Int) < 30 then (s.ns.length : Int) else 30) (by split <;> omega) (by split <;> omega)) fun r2 ⟨l2, _⟩ => ?_
  have l2' : r2.length ≤ 30 := by rw [l2]; split <;> omega
  refine .need (le_line (by omega)) (.comp Asc (fun x hx => .idx (Int.emod_nonneg _ (by decide)) (by rw [lsome]; exact Int.emod_lt_of_pos _ (by decide)) fun z m _ => .ret ⟨z, rfl, hsome z m⟩) fun ts lt ht => ?_)
  dsimp only
  refine .forI (fun pre d => d = once pre ∧ d.length ≤ pre.length) ⟨rfl, Nat.le_refl _⟩ ?_ ?_
  · rintro p x q d ep ⟨h1, h2⟩
    have hp := pre_lt ep
    have eo : once (p ++ [x]) = onceF d x := by rw [h1]; unfold once; rw [List.foldl_append]; rfl
    refine .bind (Q := fun r => r = onceF d x) (.ite (fun c => ?_) fun c => ?_) fun r hr => .ret ?_
    · have c : ¬ x ∈ d := by simpa using c
      exact .need (le_line (by simp; omega)) (.lets (.ret (by unfold onceF; rw [if_neg c])))
    · have c : x ∈ d := by simpa using c
      exact .ret (by unfold onceF; rw [if_pos c])
    · have := onceF_len d x
      exact ⟨by rw [hr, eo], by rw [hr]; simp; omega⟩
  · rintro d ⟨rfl, _⟩
    have lay1 : layAllB (once ts) = true := lay_all (once_mem ts Asc [] (by simp) ht)
    have lay2 : layAllB ts = true := lay_all ht
    have lo : (once ts).length ≤ 30 := by have := once_len ts []; simp only [List.length_nil, Nat.zero_add] at this; unfold once; omega
    refine ⟨true, ?_, rfl⟩
    rw [m_each_once_ok (by omega)]
    simp only [R.bind_ok, R.need_pos lay1, R.need_pos lay2, R.need_pos (lt_line lo (by decide)), cutL_but1, List.dropLast_concat, decide_true, Bool.not_true, Bool.false_eq_true, if_false, if_true]
end Lw

namespace Lw
open PySem PySem.Spec PyProof.Rows L2 Ml
def top (i : Nat) : Stmt := PySem.Challenge.pw_mailroom_k03_each_once.main.body.getD i (.Pass ⟨0, 0, 0, 0⟩)
abbrev gx (K : PySem.W.Frag) : Gx := ⟨K, fun _ => none⟩
abbrev s_each_once : Stmt := top 1
abbrev s_law_row : Stmt := top 3
abbrev s_law_word : Stmt := top 4
abbrev s_law : Stmt := top 5
structure Txt (K : PySem.W.Frag) (mg : Str → Option Value) where
  a_each_once : Addr
  fd_each_once : FuncData
  F_each_once : Fun K "each_once" "each_once" s_each_once a_each_once fd_each_once
  b_each_once : Binds K fd_each_once ["row"] []
  g_each_once : mg "each_once" = some (.ref a_each_once)
  a_law_row : Addr
  fd_law_row : FuncData
  F_law_row : Fun K "_law_row" "_law_row" s_law_row a_law_row fd_law_row
  b_law_row : Binds K fd_law_row ["_law_script", "_law_many"] []
  g_law_row : mg "_law_row" = some (.ref a_law_row)
  a_law_word : Addr
  fd_law_word : FuncData
  F_law_word : Fun K "_law_word" "_law_word" s_law_word a_law_word fd_law_word
  b_law_word : Binds K fd_law_word ["_law_base", "_law_turn"] []
  g_law_word : mg "_law_word" = some (.ref a_law_word)
  a_law : Addr
  fd_law : FuncData
  F_law : Fun K "law" "law" s_law a_law fd_law
  b_law : Binds K fd_law ["_law_script"] []
  g_law : mg "law" = some (.ref a_law)
  z_isinstance : mg "isinstance" = none
  z_len : mg "len" = none
  z_list : mg "list" = none
  z_min : mg "min" = none
  z_range : mg "range" = none
  z_str : mg "str" = none
section
variable {P : Program} {w : World} {K : PySem.W.Frag} {mg : Str → Option Value} {base : Heap}
def sp_each_once (K : PySem.W.Frag) : Sp := fun vs H Q E => ∃ (a_v_row : Addr) (v_row : (List Str)) (F : Asn (gx K)), vs = [.ref a_v_row] ∧ Sep H [lstA a_v_row v_row, F] ∧ R.wp (m_each_once v_row) (fun r => ∀ p H', Sep H' [lstA p r, lstA a_v_row v_row, F] → Q (.ref p) H') (fun _ => False)
abbrev N_each_once : List Str := ["row", "found", "one"]
theorem sc_each_once : FnScope N_each_once ["row"] (defScope s_each_once) := ⟨rfl, rfl, rfl, by decide +kernel, rfl, by decide +kernel, by decide +kernel⟩
theorem ok_each_once (T : Txt K mg) : FnOk P w K mg base CX0 1 T.a_each_once T.fd_each_once ["row"] (sp_each_once K) := by
  have nd := sc_each_once.nd
  refine T.F_each_once.ok sc_each_once (fun vs H Q E h => ?_) (fun cdv A outer s H vs Q E hr h => ?_)
  · obtain ⟨a_v_row, v_row, F, rfl, _⟩ := h; rfl
  · obtain ⟨a_v_row, v_row, F, rfl, hS, hm⟩ := h
    refine ⟨_, (pss_cons (ps_set (i := 1) nd rfl (Or.inl rfl) pe_dnewK)
      (pss_cons (ps_for PassesOwn.never rfl (pi_listK K (pv 0)) (pg_name (i := 2) nd rfl (Or.inl rfl)) (pss_one (ps_expr (pe_dsetd (pv 1) (pv 2) pe_bl m2))))
      (pss_one (ps_ret (pe_callTy (call_lstD rfl) (by rfl) T.z_list (by decide +kernel) (pa_cons (pv 1) pa_nil)))))), ?_⟩
    unfold m_each_once at hm
    refine f_seq ?_
    refine c_asg ?_
    refine k_dnew (κ := Str) (β := Bool) hS fun p1 H hS => ?_
    refine c_set (σ' := [some (.ref a_v_row), some (.ref p1), none]) rfl ?_
    refine sq_nx ?_
    refine f_seq ?_
    refine c_for ?_
    refine c_il ?_
    refine ev_to (ev_var rfl) ?_
    refine k_il hS (i := 1) rfl ?_
    refine k_for (τ := (List (Str × Bool))) (fun (s2 : (List (Str × Bool))) (σ : L2.St) (H : Hp) => ∃ (w5 : Option V), σ = [some (.ref a_v_row), some (.ref p1), w5] ∧ Sep H ([dictA p1 (s2 : (List (Str × Bool))), lstA a_v_row (v_row : (List Str)), F] : List (Asn (gx K)))) (im := (Im.im (gx K))) (s := (([] : (List (Str × Bool))))) (fun _ => wk_list fun _ _ ⟨_, _, h⟩ => h.sq (i := 1) rfl) ⟨_, rfl, hS.sel [0, 1, 2] (by decide) rfl⟩ hm (fun s2 x3 v4 σ H q N hI hx hm nx => ?_) (fun s2 σ H hm hI => ?_)
    · cases hx
      obtain ⟨w5, rfl, hS⟩ := hI
      refine c_gN (σ' := [some (.ref a_v_row), some (.ref p1), some (.str (x3))]) rfl ?_
      refine c_drop ?_
      obtain ⟨h6, hm⟩ := R.wp_need hm
      refine k_dsetd (k := x3) (y := true) hS (i := 0) rfl (ev_var rfl) (ev_var rfl) ev_c rfl h6 rfl fun v7 H hS => ?_
      exact nx _ _ _ hm ⟨_, rfl, hS.sel [0, 1, 2] (by decide) rfl⟩
    · obtain ⟨w5, rfl, hS⟩ := hI
      refine sq_nx ?_
      refine c_ret ?_
      refine c_cb ?_
      refine ea_to (ea_cons (ev_var rfl) ea_nil) ?_
      refine k_listD (fun _ => rfl) hS (i := 0) rfl fun p8 H hS => ?_
      exact hm _ _ (hS.sel [0, 2, 3] (by decide) rfl)
def sp_law_row (K : PySem.W.Frag) : Sp := fun vs H Q E => ∃ (a_v_law_script : V) (v_law_script : Script) (v_law_many : Int) (F : Asn (gx K)), vs = [a_v_law_script, (.int (v_law_many))] ∧ Im.im (gx K) H a_v_law_script v_law_script ∧ Sep H [F] ∧ R.wp (m_law_row v_law_script v_law_many) (fun r => ∀ p H', Sep H' [lstA p r, F] → Q (.ref p) H') (fun _ => False)
abbrev N_law_row : List Str := ["_law_script", "_law_many", "_law_found", "_law_more", "_law_k", "_law_cell"]
theorem sc_law_row : FnScope N_law_row ["_law_script", "_law_many"] (defScope s_law_row) := ⟨rfl, rfl, rfl, by decide +kernel, rfl, by decide +kernel, by decide +kernel⟩
theorem ok_law_row (T : Txt K mg) : FnOk P w K mg base CX0 1 T.a_law_row T.fd_law_row ["_law_script", "_law_many"] (sp_law_row K) := by
  have nd := sc_law_row.nd
  refine T.F_law_row.ok sc_law_row (fun vs H Q E h => ?_) (fun cdv A outer s H vs Q E hr h => ?_)
  · obtain ⟨a_v_law_script, v_law_script, v_law_many, F, rfl, _⟩ := h; rfl
  · obtain ⟨a_v_law_script, v_law_script, v_law_many, F, rfl, him_v_law_script, hS, hm⟩ := h
    obtain ⟨ad_v_law_script, rfl, _⟩ := im_script him_v_law_script
    have hS := hS.addIm him_v_law_script
    refine ⟨_, (pss_cons (ps_set (i := 2) nd rfl (Or.inl rfl) (pe_lst pa_nil))
      (pss_cons (ps_set (i := 3) nd rfl (Or.inl rfl) pe_int)
      (pss_cons (ps_for PassesOwn.never rfl (pi_range1 rfl T.z_range (pa_cons (pv 1) pa_nil)) (pg_name (i := 4) nd rfl (Or.inl rfl)) (pss_cons (ps_set (i := 5) nd rfl (Or.inl rfl) pe_int)
      (pss_cons (ps_if (pt_cmpR op_gt (pe_callB (lenSqK K) (by rfl) T.z_len PySem.boot_len (pa_cons (pv 0) pa_nil)) pe_int (nomark _)) (pss_one (ps_set (i := 5) nd rfl (Or.inl rfl) (pe_ix (ix_listK K) (pv 0) (pe_op op_mod (pv 4) (pe_callB (lenSqK K) (by rfl) T.z_len PySem.boot_len (pa_cons (pv 0) pa_nil))) (fun _ _ => rfl)))) pss_nil)
      (pss_cons (ps_set (i := 3) nd rfl (Or.inl rfl) (pe_op op_mod (pe_op op_add (pe_op op_add (pe_op op_mul (pv 3) pe_int) (pv 5)) (pv 4)) pe_int))
      (pss_one (ps_expr (pe_bmK K PySem.F.plainAttrs_list PySem.F.slot_list_append PySem.F.type_list_append mt_append (pv 2) (pa_cons (pe_op op_mod (pe_op op_add (pe_op op_mul (pv 3) (pv 3)) (pe_op op_mul pe_int (pv 3))) pe_int) pa_nil))))))))
      (pss_one (ps_ret (pv 2)))))), ?_⟩
    unfold m_law_row at hm
    refine f_seq ?_
    refine c_asg ?_
    refine c_lst ?_
    refine ea_to ea_nil ?_
    refine k_lst (α := Int) (vs := []) (xs := ([] : (List Int))) hS True.intro (by show 0 ≤ sizeLine; decide) fun p1 H hS => ?_
    refine c_set (σ' := [some (.ref ad_v_law_script), some (.int (v_law_many)), some (.ref p1), none, none, none]) rfl ?_
    refine sq_nx ?_
    refine f_seq ?_
    refine c_asg ?_
    refine ev_to ev_c ?_
    refine c_set (σ' := [some (.ref ad_v_law_script), some (.int (v_law_many)), some (.ref p1), some (.int (7)), none, none]) rfl ?_
    refine sq_nx ?_
    refine f_seq ?_
    refine c_for ?_
    refine c_rng1 ?_
    refine ea_to (ea_cons (ev_var rfl) ea_nil) ?_
    obtain ⟨h2, hm⟩ := R.wp_need hm
    refine k_rng1 h2.1 h2.2 ?_
    refine k_for (τ := (List Int) × Int) (fun (s3 : (List Int) × Int) (σ : L2.St) (H : Hp) => ∃ (w6 w7 : Option V), σ = [some (.ref ad_v_law_script), some (.int (v_law_many)), some (.ref p1), some (.int (s3.2)), w6, w7] ∧ Sep H ([lstA p1 (s3.1 : (List Int)), imA (.ref ad_v_law_script) v_law_script, F] : List (Asn (gx K)))) (im := (fun _ v (x : Int) => v = .int x)) (s := (([] : (List Int)), 7)) (fun _ => wk_range) ⟨_, _, rfl, hS.sel [0, 1, 2] (by decide) rfl⟩ hm (fun s3 x4 v5 σ H q N hI hx hm nx => ?_) (fun s3 σ H hm hI => ?_)
    · cases hx
      obtain ⟨w6, w7, rfl, hS⟩ := hI
      refine c_gN (σ' := [some (.ref ad_v_law_script), some (.int (v_law_many)), some (.ref p1), some (.int (s3.2)), some (.int (x4)), w7]) rfl ?_
      refine f_seq ?_
      refine c_asg ?_
      refine ev_to ev_c ?_
      refine c_set (σ' := [some (.ref ad_v_law_script), some (.int (v_law_many)), some (.ref p1), some (.int (s3.2)), some (.int (x4)), some (.int (0))]) rfl ?_
      refine sq_nx ?_
      refine f_seq ?_
      refine f_if ?_
      refine et_to (et_test (ev_i0 (ev_lenLm (ev_var rfl) (sq_script (hS.im (i := 1) rfl))) ev_c)) ?_
      refine ifK_J (τ := Int) (fun (s8 : Int) (σ : L2.St) (H : Hp) => σ = [some (.ref ad_v_law_script), some (.int (v_law_many)), some (.ref p1), some (.int (s3.2)), some (.int (x4)), some (.int (s8))] ∧ Sep H ([lstA p1 (s3.1 : (List Int)), imA (.ref ad_v_law_script) v_law_script, F] : List (Asn (gx K)))) hm (fun hb q hm nx => ?_) (fun hb q hm nx => ?_) (fun s8 σ H hm hI => ?_)
      ·
        refine c_asg ?_
        obtain ⟨h9, hm⟩ := R.wp_need hm
        obtain ⟨x10, hx10, hm⟩ := wp_idx hm
        refine ev_to (ev_ixSq (ev_var rfl) (ev_mod (ev_var rfl) (ev_lenLm (ev_var rfl) (sq_script (hS.im (i := 1) rfl))) h9) (sq_script (hS.im (i := 1) rfl)) (atI_map hx10)) ?_
        refine c_set (σ' := [some (.ref ad_v_law_script), some (.int (v_law_many)), some (.ref p1), some (.int (s3.2)), some (.int (x4)), some (.int (x10))]) rfl ?_
        exact nx _ _ _ hm ⟨rfl, hS.sel [0, 1, 2] (by decide) rfl⟩
      ·
        refine st_nx ?_
        exact nx _ _ _ hm ⟨rfl, hS.sel [0, 1, 2] (by decide) rfl⟩
      · obtain ⟨rfl, hS⟩ := hI
        refine sq_nx ?_
        refine f_seq ?_
        refine c_asg ?_
        refine ev_to (ev_mod (ev_add (ev_add (ev_mul (ev_var rfl) ev_c (.inr (by constructor <;> decide))) (ev_var rfl)) (ev_var rfl)) ev_c (by decide)) ?_
        obtain ⟨y11, hy11, hm⟩ := wp_let hm
        refine n_is (w := (.int (y11))) (by rw [hy11]) ?_
        refine c_set (σ' := [some (.ref ad_v_law_script), some (.int (v_law_many)), some (.ref p1), some (.int (y11)), some (.int (x4)), some (.int (s8))]) rfl ?_
        refine sq_nx ?_
        refine c_drop ?_
        refine c_bm ?_
        refine ev_to (ev_var rfl) ⟨tyL hS (i := 0) rfl, ?_⟩
        obtain ⟨h12, hm⟩ := R.wp_need hm
        refine ea_to (ea_cons (ev_mod (ev_add (ev_mul (ev_var rfl) (ev_var rfl) h12) (ev_mul ev_c (ev_var rfl) (.inl (by constructor <;> decide)))) ev_c (by decide)) ea_nil) ?_
        obtain ⟨h13, hm⟩ := R.wp_need hm
        refine k_append (x := ((y11 * y11) + (16807 * y11)) % 2147483629) hS (i := 0) rfl rfl h13 rfl fun H hS => ?_
        exact nx _ _ _ hm ⟨_, _, rfl, hS.sel [0, 1, 2] (by decide) rfl⟩
    · obtain ⟨w6, w7, rfl, hS⟩ := hI
      refine sq_nx ?_
      refine c_ret ?_
      refine ev_to (ev_var rfl) ?_
      exact hm _ _ (hS.sel [0, 2] (by decide) rfl)
def sp_law_word (K : PySem.W.Frag) : Sp := fun vs H Q E => ∃ (v_law_base : Int) (v_law_turn : Int) (F : Asn (gx K)), vs = [(.int (v_law_base)), (.int (v_law_turn))] ∧ Sep H [F] ∧ R.wp (m_law_word v_law_base v_law_turn) (fun r => ∀ H', Sep H' [F] → Q (.str (r)) H') (fun _ => False)
abbrev N_law_word : List Str := ["_law_base", "_law_turn", "_law_some", "_law_k", "_law_signs", "_law_size", "_law_at"]
theorem sc_law_word : FnScope N_law_word ["_law_base", "_law_turn"] (defScope s_law_word) := ⟨rfl, rfl, rfl, by decide +kernel, rfl, by decide +kernel, by decide +kernel⟩
theorem ok_law_word (T : Txt K mg) : FnOk P w K mg base CX0 1 T.a_law_word T.fd_law_word ["_law_base", "_law_turn"] (sp_law_word K) := by
  have nd := sc_law_word.nd
  refine T.F_law_word.ok sc_law_word (fun vs H Q E h => ?_) (fun cdv A outer s H vs Q E hr h => ?_)
  · obtain ⟨v_law_base, v_law_turn, F, rfl, _⟩ := h; rfl
  · obtain ⟨v_law_base, v_law_turn, F, rfl, hS, hm⟩ := h
    refine ⟨_, (pss_cons (ps_set (i := 2) nd rfl (Or.inr rfl) pe_str)
      (pss_cons (ps_setLc (i := 4) (own := [("_law_k", 3)]) (g := gName 3) rfl nd rfl rfl (sw_true rfl rfl rfl (by decide +kernel)) (pi_range1 rfl T.z_range (pa_cons pe_int pa_nil)) (blkOk_by (own := [("_law_k", 3)]) (N := N_law_word) (sc := defScope s_law_word) (by decide +kernel)) (fun _ _ _ _ _ => pg_name (i := 3) nd rfl (Or.inl rfl)) (fun _ _ _ _ _ => pts_nil) (fun _ _ _ _ _ => (pe_ix ix_str (pv 2) (pe_op op_mod (pe_op op_add (pe_op op_add (pe_op op_fdiv (pv 0) pe_int) (pe_op op_mul pe_int (pv 3))) (pe_op op_mul (pe_op op_fdiv (pv 0) pe_int) (pv 3))) pe_int) (fun _ _ => rfl))))
      (pss_cons (ps_if (PW.pt (pw_and (pt_cmpR op_eq (pe_op op_mod (pv 0) pe_int) pe_int (nomark _)) (pw_and1 (pt_cmpR op_lt (pv 1) pe_int (nomark _))))) (pss_one (ps_ret (pe_m1 PySem.F.slot_str_join PySem.F.type_str_join (joinK K) pe_str (pe_slice (sl_listK K) (pv 4) po_none (po_some (pe_op op_add pe_int (pv 1))))))) pss_nil)
      (pss_cons (ps_if (PW.pt (pw_or (pt_cmpR op_lt (pe_op op_mod (pv 0) pe_int) pe_int (nomark _)) (pw_or1 (pt_cmpR op_gt (pv 1) pe_int (nomark _))))) (pss_one (ps_ret (pe_op op_catS (pe_op op_catS (pe_m1 PySem.F.slot_str_join PySem.F.type_str_join (joinK K) pe_str (pe_slice (sl_listK K) (pv 4) po_none (po_some (pe_op op_add pe_int (pe_op op_mod (pe_op op_fdiv (pv 0) pe_int) pe_int))))) pe_str) (pe_callTy call_str_int (by rfl) T.z_str (by decide +kernel) (pa_cons (pv 1) pa_nil))))) pss_nil)
      (pss_cons (ps_set (i := 5) nd rfl (Or.inl rfl) (pe_op op_add pe_int (pe_op op_mod (pe_op op_fdiv (pv 0) pe_int) pe_int)))
      (pss_cons (ps_set (i := 6) nd rfl (Or.inl rfl) (pe_op op_mod (pe_op op_fdiv (pv 0) pe_int) (pv 5)))
      (pss_cons (ps_asg (pe_ix ix_str (pv 2) (pe_op op_mod (pe_op op_add (pe_op op_fdiv (pv 0) pe_int) (pv 1)) pe_int) (fun _ _ => rfl)) (pg_sub (pv 4) (pv 6) set_list))
      (pss_one (ps_ret (pe_m1 PySem.F.slot_str_join PySem.F.type_str_join (joinK K) pe_str (pe_slice (sl_listK K) (pv 4) po_none (po_some (pv 5))))))))))))), ?_⟩
    unfold m_law_word at hm
    refine f_seq ?_
    refine c_asg ?_
    refine ev_to ev_c ?_
    refine c_set (σ' := [some (.int (v_law_base)), some (.int (v_law_turn)), some (.str (("abcdefghijklmnopqrstuvwxyz0123456789" : Str))), none, none, none, none]) rfl ?_
    refine sq_nx ?_
    refine f_seq ?_
    refine c_asg ?_
    refine c_lc ?_
    refine c_rng1 ?_
    refine ea_to (ea_cons ev_c ea_nil) ?_
    refine k_rng1 (by decide) (by decide) ?_
    refine lc_sep (β := Str) (fun (_ : Unit) => [F]) (s := ()) (im := (fun _ v (x : Int) => v = .int x)) hS (fun _ _ _ => wk_range) (by rw [rngL_len]; decide) hm (fun p1 _ ys4 x2 v3 H q Nx hS hx hm kS kN => ?_) (fun p1 t H hm hS => ?_)
    · cases hx
      refine c_gLc (σ' := [some (.int (v_law_base)), some (.int (v_law_turn)), some (.str (("abcdefghijklmnopqrstuvwxyz0123456789" : Str))), some (.int (x2)), none, none, none]) rfl rfl ?_
      refine c_yes ?_
      obtain ⟨h5, hm⟩ := R.wp_need hm
      obtain ⟨c6, hc6, hm⟩ := wp_idx hm
      refine ev_to (ev_ixS (ev_var rfl) (ev_mod (ev_add (ev_add (ev_fdiv (ev_var rfl) ev_c ⟨by decide, by decide⟩) (ev_mul ev_c (ev_var rfl) (.inl (by constructor <;> decide)))) (ev_mul (ev_fdiv (ev_var rfl) ev_c ⟨by decide, by decide⟩) (ev_var rfl) h5)) ev_c (by decide)) (by decide +kernel) hc6) ?_
      exact kS () _ _ _ hm rfl (hS.sel [0, 1] (by decide) rfl)
    · revert hm hS; generalize t = t7; intro hm hS
      refine c_set (σ' := [some (.int (v_law_base)), some (.int (v_law_turn)), some (.str (("abcdefghijklmnopqrstuvwxyz0123456789" : Str))), none, some (.ref p1), none, none]) rfl ?_
      refine sq_nx ?_
      refine f_seq ?_
      refine f_if ?_
      refine et_to (et_and (et_test (ev_eqI (ev_mod (ev_var rfl) ev_c (by decide)) ev_c)) fun _ => (et_test (ev_i0 (ev_var rfl) ev_c))) ?_
      obtain ⟨hy, hn⟩ := R.wp_if hm
      refine ifK_2 (fun hb8 => ?_) (fun hb8 => ?_)
      · have hm := hy hb8
        refine c_ret ?_
        refine c_m1 ev_c ?_
        refine c_sl ?_
        refine ev_to (ev_var rfl) ?_
        refine eo_to eo_no ?_
        refine eo_to (eo_some (ev_add ev_c (ev_var rfl))) ?_
        refine k_slL hS (n := 0) rfl fun p9 H hS => ?_
        obtain ⟨h10, hm⟩ := R.wp_need hm
        refine k_join hS (n := 0) rfl h10 ?_
        exact hm _ (hS.sel [2] (by decide) rfl)
      · have hm := hn (by rw [hb8]; decide)
        refine st_nx ?_
        refine sq_nx ?_
        refine f_seq ?_
        refine f_if ?_
        refine et_to (et_or (et_test (ev_i0 (ev_mod (ev_var rfl) ev_c (by decide)) ev_c)) fun _ => (et_test (ev_i0 (ev_var rfl) ev_c))) ?_
        obtain ⟨hy, hn⟩ := R.wp_if hm
        refine ifK_2 (fun hb11 => ?_) (fun hb11 => ?_)
        · have hm := hy hb11
          refine c_ret ?_
          refine c_op ?_
          refine c_op ?_
          refine c_m1 ev_c ?_
          refine c_sl ?_
          refine ev_to (ev_var rfl) ?_
          refine eo_to eo_no ?_
          refine eo_to (eo_some (ev_add ev_c (ev_mod (ev_fdiv (ev_var rfl) ev_c ⟨by decide, by decide⟩) ev_c (by decide)))) ?_
          refine k_slL hS (n := 0) rfl fun p12 H hS => ?_
          obtain ⟨h13, hm⟩ := R.wp_need hm
          refine k_join hS (n := 0) rfl h13 ?_
          refine ev_to ev_c ?_
          obtain ⟨h14, hm⟩ := R.wp_need hm
          refine r_catS h14 _ ?_
          obtain ⟨h15, hm⟩ := R.wp_need hm
          refine ev_to (ev_cb (ea_cons (ev_var rfl) ea_nil) fun _ q => ⟨_, rfl, h15, q⟩) ?_
          obtain ⟨h16, hm⟩ := R.wp_need hm
          refine r_catS h16 _ ?_
          exact hm _ (hS.sel [2] (by decide) rfl)
        · have hm := hn (by rw [hb11]; decide)
          refine st_nx ?_
          refine sq_nx ?_
          refine f_seq ?_
          refine c_asg ?_
          refine ev_to (ev_add ev_c (ev_mod (ev_fdiv (ev_var rfl) ev_c ⟨by decide, by decide⟩) ev_c (by decide))) ?_
          obtain ⟨y17, hy17, hm⟩ := wp_let hm
          refine n_is (w := (.int (y17))) (by rw [hy17]) ?_
          refine c_set (σ' := [some (.int (v_law_base)), some (.int (v_law_turn)), some (.str (("abcdefghijklmnopqrstuvwxyz0123456789" : Str))), none, some (.ref p1), some (.int (y17)), none]) rfl ?_
          refine sq_nx ?_
          refine f_seq ?_
          refine c_asg ?_
          obtain ⟨h18, hm⟩ := R.wp_need hm
          refine ev_to (ev_mod (ev_fdiv (ev_var rfl) ev_c ⟨by decide, by decide⟩) (ev_var rfl) h18) ?_
          obtain ⟨y19, hy19, hm⟩ := wp_let hm
          refine n_is (w := (.int (y19))) (by rw [hy19]) ?_
          refine c_set (σ' := [some (.int (v_law_base)), some (.int (v_law_turn)), some (.str (("abcdefghijklmnopqrstuvwxyz0123456789" : Str))), none, some (.ref p1), some (.int (y17)), some (.int (y19))]) rfl ?_
          refine sq_nx ?_
          refine f_seq ?_
          refine c_asgS ?_
          obtain ⟨c20, hc20, hm⟩ := wp_idx hm
          refine ev_to (ev_ixS (ev_var rfl) (ev_mod (ev_add (ev_fdiv (ev_var rfl) ev_c ⟨by decide, by decide⟩) (ev_var rfl)) ev_c (by decide)) (by decide +kernel) hc20) ?_
          obtain ⟨j21, hj21, hm⟩ := wp_ix hm
          refine ev_to (ev_var rfl) ?_
          refine ev_to (ev_var rfl) ?_
          refine k_setL (x := sg (c20)) hS (n := 0) rfl rfl j21 hj21 rfl fun H hS => ?_
          refine sq_nx ?_
          refine c_ret ?_
          refine c_m1 ev_c ?_
          refine c_sl ?_
          refine ev_to (ev_var rfl) ?_
          refine eo_to eo_no ?_
          refine eo_to (eo_some (ev_var rfl)) ?_
          refine k_slL hS (n := 0) rfl fun p22 H hS => ?_
          obtain ⟨h23, hm⟩ := R.wp_need hm
          refine k_join hS (n := 0) rfl h23 ?_
          exact hm _ (hS.sel [2] (by decide) rfl)
def sp_law (K : PySem.W.Frag) : Sp := fun vs H Q E => ∃ (a_v_law_script : V) (v_law_script : Script) (F : Asn (gx K)), vs = [a_v_law_script] ∧ Im.im (gx K) H a_v_law_script v_law_script ∧ Sep H [F] ∧ R.wp (m_law v_law_script) (fun r => ∀ H', Sep H' [F] → Q (.bl (r)) H') (fun _ => False)
abbrev N_law : List Str := ["_law_script", "_law_base", "_law_turn", "_law_some", "_law_number", "_law_texts", "_law_due", "_law_one", "_law_handed", "_law_found", "_law_same", "_law_again"]
theorem sc_law : FnScope N_law ["_law_script"] (defScope s_law) := ⟨rfl, rfl, rfl, by decide +kernel, rfl, by decide +kernel, by decide +kernel⟩
theorem ok_law (T : Txt K mg) : FnOk P w K mg base CX0 2 T.a_law T.fd_law ["_law_script"] (sp_law K) := by
  have nd := sc_law.nd
  refine T.F_law.ok sc_law (fun vs H Q E h => ?_) (fun cdv A outer s H vs Q E hr h => ?_)
  · obtain ⟨a_v_law_script, v_law_script, F, rfl, _⟩ := h; rfl
  · obtain ⟨a_v_law_script, v_law_script, F, rfl, him_v_law_script, hS, hm⟩ := h
    obtain ⟨ad_v_law_script, rfl, _⟩ := im_script him_v_law_script
    have hS := hS.addIm him_v_law_script
    refine ⟨_, (pss_cons (ps_set (i := 1) nd rfl (Or.inr rfl) (pe_ix (ix_listK K) (pe_call (ok_law_row T) (hr.mono (by decide)) rfl T.g_law_row T.F_law_row.kp T.b_law_row .nil pass0 (pa_cons (pv 0) (pa_cons pe_int pa_nil))) pe_int (fun _ _ => rfl)))
      (pss_cons (ps_set (i := 3) nd rfl (Or.inr rfl) (pe_lc (own := [("_law_turn", 2)]) (g := gName 2) rfl nd (pi_range1 rfl T.z_range (pa_cons pe_int pa_nil)) (blkOk_by (own := [("_law_turn", 2)]) (N := N_law) (sc := defScope s_law) (by decide +kernel)) (fun _ _ _ _ _ => pg_name (i := 2) nd rfl (Or.inl rfl)) (fun _ _ _ _ _ => pts_nil) (fun _ _ _ _ _ => (pe_call (ok_law_word T) (hr.mono (by decide)) rfl T.g_law_word T.F_law_word.kp T.b_law_word .nil pass0 (pa_cons (pv 1) (pa_cons (pv 2) pa_nil))))))
      (pss_cons (ps_set (i := 3) nd rfl (Or.inr rfl) (pe_op op_cat (pv 3) (pe_lst (pa_cons (pe_m0 PySem.F.slot_str_upper PySem.F.type_str_upper mt_upper (pe_ix (ix_listK K) (pv 3) (pe_op op_mod (pe_op op_fdiv (pv 1) pe_int) pe_int) (fun _ _ => rfl))) (pa_cons (pe_op op_catS (pe_ix (ix_listK K) (pv 3) (pe_op op_mod (pe_op op_fdiv (pv 1) pe_int) pe_int) (fun _ _ => rfl)) pe_str) (pa_cons pe_str pa_nil))))))
      (pss_cons (ps_setLc (i := 5) (own := [("_law_number", 4)]) (g := gName 4) rfl nd rfl rfl (sw_true rfl rfl rfl (by decide +kernel)) (pi_listK K (pe_call (ok_law_row T) (hr.mono (by decide)) rfl T.g_law_row T.F_law_row.kp T.b_law_row .nil pass0 (pa_cons (pv 0) (pa_cons (pe_callB (call_min2 rfl) (by rfl) T.z_min (by decide +kernel) (pa_cons pe_int (pa_cons (pe_callB (lenSqK K) (by rfl) T.z_len PySem.boot_len (pa_cons (pv 0) pa_nil)) pa_nil))) pa_nil)))) (blkOk_by (own := [("_law_number", 4)]) (N := N_law) (sc := defScope s_law) (by decide +kernel)) (fun _ _ _ _ _ => pg_name (i := 4) nd rfl (Or.inl rfl)) (fun _ _ _ _ _ => pts_nil) (fun _ _ _ _ _ => (pe_ix (ix_listK K) (pv 3) (pe_op op_mod (pe_op op_fdiv (pv 4) pe_int) pe_int) (fun _ _ => rfl))))
      (pss_cons (ps_set (i := 6) nd rfl (Or.inl rfl) (pe_lst pa_nil))
      (pss_cons (ps_for PassesOwn.never rfl (pi_listK K (pv 5)) (pg_name (i := 7) nd rfl (Or.inl rfl)) (pss_one (ps_if (pt_cmpR (niSqK K) (pv 7) (pv 6) (by rfl)) (pss_one (ps_set (i := 6) nd rfl (Or.inl rfl) (pe_op op_cat (pv 6) (pe_lst (pa_cons (pv 7) pa_nil))))) pss_nil)))
      (pss_cons (ps_set (i := 8) nd rfl (Or.inl rfl) (pe_callTy (listSqK K) (by rfl) T.z_list (by decide +kernel) (pa_cons (pv 5) pa_nil)))
      (pss_cons (ps_set (i := 9) nd rfl (Or.inl rfl) (pe_call (ok_each_once T) (hr.mono (by decide)) rfl T.g_each_once T.F_each_once.kp T.b_each_once .nil pass0 (pa_cons (pv 8) pa_nil)))
      (pss_cons (ps_if (PW.pt (pw_or (pt_not (pt_val (pe_callB (isiK K) (by rfl) T.z_isinstance (by decide +kernel) (pa_cons (pv 9) (pa_cons (pe_bltn (v := .ty "list") (by rfl) T.z_list (by decide +kernel) rfl) pa_nil))))) (pw_or (pt_cmpR (neDK K hr.units) (pv 9) (pv 6) (nomark _)) (pw_or1 (pt_cmpR (neDK K hr.units) (pv 8) (pv 5) (nomark _)))))) (pss_one (ps_ret pe_bl)) pss_nil)
      (pss_cons (ps_expr (pe_bm0K K PySem.F.plainAttrs_list PySem.F.slot_list_clear PySem.F.type_list_clear mt_clear (pv 8)))
      (pss_cons (ps_if (pt_cmpR (neDK K hr.units) (pv 9) (pv 6) (nomark _)) (pss_one (ps_ret pe_bl)) pss_nil)
      (pss_cons (ps_set (i := 10) nd rfl (Or.inl rfl) (pe_callTy (listSqK K) (by rfl) T.z_list (by decide +kernel) (pa_cons (pv 5) pa_nil)))
      (pss_cons (ps_set (i := 11) nd rfl (Or.inl rfl) (pe_call (ok_each_once T) (hr.mono (by decide)) rfl T.g_each_once T.F_each_once.kp T.b_each_once .nil pass0 (pa_cons (pv 5) pa_nil)))
      (pss_cons (ps_if (pt_cmpR (neDK K hr.units) (pv 11) (pv 6) (nomark _)) (pss_one (ps_ret pe_bl)) pss_nil)
      (pss_cons (ps_expr (pe_bmK K PySem.F.plainAttrs_list PySem.F.slot_list_append PySem.F.type_list_append mt_append (pv 9) (pa_cons pe_str pa_nil)))
      (pss_cons (ps_expr (pe_bmK K PySem.F.plainAttrs_list PySem.F.slot_list_append PySem.F.type_list_append mt_append (pv 11) (pa_cons pe_str pa_nil)))
      (pss_one (ps_ret (pe_and (pe_cmpR (eqDK K hr.units) (pe_slice (sl_listK K) (pv 9) po_none (po_some (pe_un un_neg pe_int))) (pv 6) (nomark _)) (pe_and (pe_cmpR (eqDK K hr.units) (pv 5) (pv 10) (nomark _)) (pe_one (pe_cmpR (eqDK K hr.units) (pe_call (ok_each_once T) (hr.mono (by decide)) rfl T.g_each_once T.F_each_once.kp T.b_each_once .nil pass0 (pa_cons (pv 5) pa_nil)) (pv 6) (nomark _))))))))))))))))))))))), ?_⟩
    unfold m_law at hm
    refine f_seq ?_
    refine c_asg ?_
    refine c_op ?_
    refine c_call ?_
    refine ea_to (ea_cons (ev_var rfl) (ea_cons ev_c ea_nil)) ?_
    refine ⟨_, _, _, star [imA (.ref ad_v_law_script) v_law_script, F], rfl, hS.im (i := 0) rfl, Sep.unstar (M := []) (hS.sel [0, 1] (by decide) rfl : Sep H ([] ++ [imA (.ref ad_v_law_script) v_law_script, F])), R.wp_mono (R.wp_bind hm) (fun r1 hm p2 H hS => ?_) (fun _ z => z)⟩
    have hS : Sep H ([lstA p2 (r1 : (List Int)), imA (.ref ad_v_law_script) v_law_script, F] : List (Asn (gx K))) := Sep.star (M := [lstA p2 (r1 : (List Int))]) hS
    refine ev_to ev_c ?_
    obtain ⟨x3, hx3, hm⟩ := wp_idx hm
    refine r_ixSq (hS.sqF (i := 0) rfl) (atI_map hx3) _ ?_
    refine c_set (σ' := [some (.ref ad_v_law_script), some (.int (x3)), none, none, none, none, none, none, none, none, none, none]) rfl ?_
    refine sq_nx ?_
    refine f_seq ?_
    refine c_asg ?_
    refine c_lc ?_
    refine c_rng1 ?_
    refine ea_to (ea_cons ev_c ea_nil) ?_
    refine k_rng1 (by decide) (by decide) ?_
    refine lc_sep (β := Str) (fun (_ : Unit) => [lstA p2 (r1 : (List Int)), imA (.ref ad_v_law_script) v_law_script, F]) (s := ()) (im := (fun _ v (x : Int) => v = .int x)) hS (fun _ _ _ => wk_range) (by rw [rngL_len]; decide) hm (fun p4 _ ys7 x5 v6 H q Nx hS hx hm kS kN => ?_) (fun p4 t H hm hS => ?_)
    · cases hx
      refine c_gLc (σ' := [some (.ref ad_v_law_script), some (.int (x3)), some (.int (x5)), none, none, none, none, none, none, none, none, none]) rfl rfl ?_
      refine c_yes ?_
      refine c_call ?_
      refine ea_to (ea_cons (ev_var rfl) (ea_cons (ev_var rfl) ea_nil)) ?_
      refine ⟨_, _, star [lstA p4 (ys7 : List Str), lstA p2 (r1 : (List Int)), imA (.ref ad_v_law_script) v_law_script, F], rfl, Sep.unstar (M := []) (hS.sel [0, 1, 2, 3] (by decide) rfl : Sep H ([] ++ [lstA p4 (ys7 : List Str), lstA p2 (r1 : (List Int)), imA (.ref ad_v_law_script) v_law_script, F])), R.wp_mono (R.wp_bind hm) (fun r8 hm H hS => ?_) (fun _ z => z)⟩
      have hS : Sep H ([lstA p4 (ys7 : List Str), lstA p2 (r1 : (List Int)), imA (.ref ad_v_law_script) v_law_script, F] : List (Asn (gx K))) := Sep.star (M := []) hS
      exact kS () _ _ _ hm rfl (hS.sel [0, 1, 2, 3] (by decide) rfl)
    · revert hm hS; generalize t = t9; intro hm hS
      refine c_set (σ' := [some (.ref ad_v_law_script), some (.int (x3)), none, some (.ref p4), none, none, none, none, none, none, none, none]) rfl ?_
      refine sq_nx ?_
      refine f_seq ?_
      refine c_asg ?_
      refine c_op ?_
      refine ev_to (ev_var rfl) ?_
      refine c_lst ?_
      obtain ⟨x10, hx10, hm⟩ := wp_idx hm
      obtain ⟨h11, hm⟩ := R.wp_need hm
      obtain ⟨x12, hx12, hm⟩ := wp_idx hm
      obtain ⟨h13, hm⟩ := R.wp_need hm
      refine ea_to (ea_cons (ev_m0 (ev_ixSq (ev_var rfl) (ev_mod (ev_fdiv (ev_var rfl) ev_c ⟨by decide, by decide⟩) ev_c (by decide)) (hS.sqF (i := 0) rfl) (atI_map hx10)) fun _ q => ⟨_, rfl, rfl, h11, q⟩) (ea_cons (ev_catS (ev_ixSq (ev_var rfl) (ev_mod (ev_fdiv (ev_var rfl) ev_c ⟨by decide, by decide⟩) ev_c (by decide)) (hS.sqF (i := 0) rfl) (atI_map hx12)) ev_c h13) (ea_cons ev_c ea_nil))) ?_
      refine k_lst (α := Str) (vs := [(.str (Txt.upper x10)), (.str (x12 ++ (" " : Str))), (.str (("" : Str)))]) (xs := [Txt.upper x10, x12 ++ (" " : Str), ("" : Str)]) hS ⟨rfl, ⟨rfl, ⟨rfl, True.intro⟩⟩⟩ (by show 3 ≤ sizeLine; decide) fun p14 H hS => ?_
      obtain ⟨h15, hm⟩ := R.wp_need hm
      refine k_cat hS (i := 1) (j := 0) rfl rfl h15 fun p16 H hS => ?_
      obtain ⟨y17, hy17, hm⟩ := wp_let hm
      have hS : Sep H ([lstA p16 (y17 : (List Str)), lstA p14 ([Txt.upper x10, x12 ++ (" " : Str), ("" : Str)] : (List Str)), lstA p4 (t9.2 : (List Str)), lstA p2 (r1 : (List Int)), imA (.ref ad_v_law_script) v_law_script, F] : List (Asn (gx K))) := by rw [← hy17]; exact hS
      refine c_set (σ' := [some (.ref ad_v_law_script), some (.int (x3)), none, some (.ref p16), none, none, none, none, none, none, none, none]) rfl ?_
      refine sq_nx ?_
      refine f_seq ?_
      refine c_asg ?_
      refine c_lc ?_
      refine c_il ?_
      refine c_call ?_
      refine ea_to (ea_cons (ev_var rfl) (ea_cons (ev_cb (ea_cons ev_c (ea_cons (ev_lenLm (ev_var rfl) (sq_script (hS.im (i := 4) rfl))) ea_nil)) fun _ q => ⟨_, _, rfl, q⟩) ea_nil)) ?_
      refine ⟨_, _, _, star [lstA p16 (y17 : (List Str)), lstA p14 ([Txt.upper x10, x12 ++ (" " : Str), ("" : Str)] : (List Str)), lstA p4 (t9.2 : (List Str)), lstA p2 (r1 : (List Int)), imA (.ref ad_v_law_script) v_law_script, F], rfl, hS.im (i := 4) rfl, Sep.unstar (M := []) (hS.sel [0, 1, 2, 3, 4, 5] (by decide) rfl : Sep H ([] ++ [lstA p16 (y17 : (List Str)), lstA p14 ([Txt.upper x10, x12 ++ (" " : Str), ("" : Str)] : (List Str)), lstA p4 (t9.2 : (List Str)), lstA p2 (r1 : (List Int)), imA (.ref ad_v_law_script) v_law_script, F])), R.wp_mono (R.wp_bind hm) (fun r18 hm p19 H hS => ?_) (fun _ z => z)⟩
      have hS : Sep H ([lstA p19 (r18 : (List Int)), lstA p16 (y17 : (List Str)), lstA p14 ([Txt.upper x10, x12 ++ (" " : Str), ("" : Str)] : (List Str)), lstA p4 (t9.2 : (List Str)), lstA p2 (r1 : (List Int)), imA (.ref ad_v_law_script) v_law_script, F] : List (Asn (gx K))) := Sep.star (M := [lstA p19 (r18 : (List Int))]) hS
      refine k_il hS (i := 0) rfl ?_
      obtain ⟨h20, hm⟩ := R.wp_need hm
      refine lc_sep (β := Str) (fun (_ : Unit) => [lstA p19 (r18 : (List Int)), lstA p16 (y17 : (List Str)), lstA p14 ([Txt.upper x10, x12 ++ (" " : Str), ("" : Str)] : (List Str)), lstA p4 (t9.2 : (List Str)), lstA p2 (r1 : (List Int)), imA (.ref ad_v_law_script) v_law_script, F]) (s := ()) (im := (Im.im (gx K))) hS (fun _ _ _ => wk_list fun _ _ h => h.sq (i := 1) rfl) h20 hm (fun p21 _ ys24 x22 v23 H q Nx hS hx hm kS kN => ?_) (fun p21 t H hm hS => ?_)
      · cases hx
        refine c_gLc (σ' := [some (.ref ad_v_law_script), some (.int (x3)), none, some (.ref p16), some (.int (x22)), none, none, none, none, none, none, none]) rfl rfl ?_
        refine c_yes ?_
        obtain ⟨x25, hx25, hm⟩ := wp_idx hm
        refine ev_to (ev_ixSq (ev_var rfl) (ev_mod (ev_fdiv (ev_var rfl) ev_c ⟨by decide, by decide⟩) ev_c (by decide)) (hS.sqF (i := 2) rfl) (atI_map hx25)) ?_
        exact kS () _ _ _ hm rfl (hS.sel [0, 1, 2, 3, 4, 5, 6, 7] (by decide) rfl)
      · revert hm hS; generalize t = t26; intro hm hS
        refine c_set (σ' := [some (.ref ad_v_law_script), some (.int (x3)), none, some (.ref p16), none, some (.ref p21), none, none, none, none, none, none]) rfl ?_
        refine sq_nx ?_
        refine f_seq ?_
        refine c_asg ?_
        refine c_lst ?_
        refine ea_to ea_nil ?_
        refine k_lst (α := Str) (vs := []) (xs := ([] : (List Str))) hS True.intro (by show 0 ≤ sizeLine; decide) fun p27 H hS => ?_
        refine c_set (σ' := [some (.ref ad_v_law_script), some (.int (x3)), none, some (.ref p16), none, some (.ref p21), some (.ref p27), none, none, none, none, none]) rfl ?_
        refine sq_nx ?_
        refine f_seq ?_
        refine c_for ?_
        refine c_il ?_
        refine ev_to (ev_var rfl) ?_
        refine k_il hS (i := 1) rfl ?_
        refine k_for (τ := (List Str)) (fun (s28 : (List Str)) (σ : L2.St) (H : Hp) => ∃ (w31 : Option V), ∃ (a32 : Addr), σ = [some (.ref ad_v_law_script), some (.int (x3)), none, some (.ref p16), none, some (.ref p21), some (.ref a32), w31, none, none, none, none] ∧ Sep H ([lstA a32 (s28 : (List Str)), lstA p21 (t26.2 : (List Str)), lstA p19 (r18 : (List Int)), lstA p16 (y17 : (List Str)), lstA p14 ([Txt.upper x10, x12 ++ (" " : Str), ("" : Str)] : (List Str)), lstA p4 (t9.2 : (List Str)), lstA p2 (r1 : (List Int)), imA (.ref ad_v_law_script) v_law_script, F] : List (Asn (gx K)))) (im := (Im.im (gx K))) (s := (([] : (List Str)))) (fun _ => wk_list fun _ _ ⟨_, _, _, h⟩ => h.sq (i := 1) rfl) ⟨_, _, rfl, hS.sel [0, 1, 2, 3, 4, 5, 6, 7, 8] (by decide) rfl⟩ hm (fun s28 x29 v30 σ H q N hI hx hm nx => ?_) (fun s28 σ H hm hI => ?_)
        · cases hx
          obtain ⟨w31, a32, rfl, hS⟩ := hI
          refine c_gN (σ' := [some (.ref ad_v_law_script), some (.int (x3)), none, some (.ref p16), none, some (.ref p21), some (.ref a32), some (.str (x29)), none, none, none, none]) rfl ?_
          refine f_if ?_
          refine et_to (et_test (ev_niL hS (i := 0) rfl (ev_var rfl) (ev_var rfl))) ?_
          refine ifK_J (τ := (List Str)) (fun (s33 : (List Str)) (σ : L2.St) (H : Hp) => ∃ (a34 : Addr), σ = [some (.ref ad_v_law_script), some (.int (x3)), none, some (.ref p16), none, some (.ref p21), some (.ref a34), some (.str (x29)), none, none, none, none] ∧ Sep H ([lstA a34 (s33 : (List Str)), lstA p21 (t26.2 : (List Str)), lstA p19 (r18 : (List Int)), lstA p16 (y17 : (List Str)), lstA p14 ([Txt.upper x10, x12 ++ (" " : Str), ("" : Str)] : (List Str)), lstA p4 (t9.2 : (List Str)), lstA p2 (r1 : (List Int)), imA (.ref ad_v_law_script) v_law_script, F] : List (Asn (gx K)))) hm (fun hb q hm nx => ?_) (fun hb q hm nx => ?_) (fun s33 σ H hm hI => ?_)
          ·
            refine c_asg ?_
            refine c_op ?_
            refine ev_to (ev_var rfl) ?_
            refine c_lst ?_
            refine ea_to (ea_cons (ev_var rfl) ea_nil) ?_
            refine k_lst (α := Str) (vs := [(.str (x29))]) (xs := [x29]) hS ⟨rfl, True.intro⟩ (by show 1 ≤ sizeLine; decide) fun p35 H hS => ?_
            obtain ⟨h36, hm⟩ := R.wp_need hm
            refine k_cat hS (i := 1) (j := 0) rfl rfl h36 fun p37 H hS => ?_
            obtain ⟨y38, hy38, hm⟩ := wp_let hm
            have hS : Sep H ([lstA p37 (y38 : (List Str)), lstA p35 ([x29] : (List Str)), lstA a32 (s28 : (List Str)), lstA p21 (t26.2 : (List Str)), lstA p19 (r18 : (List Int)), lstA p16 (y17 : (List Str)), lstA p14 ([Txt.upper x10, x12 ++ (" " : Str), ("" : Str)] : (List Str)), lstA p4 (t9.2 : (List Str)), lstA p2 (r1 : (List Int)), imA (.ref ad_v_law_script) v_law_script, F] : List (Asn (gx K))) := by rw [← hy38]; exact hS
            refine c_set (σ' := [some (.ref ad_v_law_script), some (.int (x3)), none, some (.ref p16), none, some (.ref p21), some (.ref p37), some (.str (x29)), none, none, none, none]) rfl ?_
            exact nx _ _ _ hm ⟨_, rfl, hS.sel [0, 3, 4, 5, 6, 7, 8, 9, 10] (by decide) rfl⟩
          ·
            refine st_nx ?_
            exact nx _ _ _ hm ⟨_, rfl, hS.sel [0, 1, 2, 3, 4, 5, 6, 7, 8] (by decide) rfl⟩
          · obtain ⟨a34, rfl, hS⟩ := hI
            exact nx _ _ _ hm ⟨_, _, rfl, hS.sel [0, 1, 2, 3, 4, 5, 6, 7, 8] (by decide) rfl⟩
        · obtain ⟨w31, a32, rfl, hS⟩ := hI
          refine sq_nx ?_
          refine f_seq ?_
          refine c_asg ?_
          refine c_cb ?_
          refine ea_to (ea_cons (ev_var rfl) ea_nil) ?_
          refine k_list hS (n := 1) rfl fun p39 H hS => ?_
          refine c_set (σ' := [some (.ref ad_v_law_script), some (.int (x3)), none, some (.ref p16), none, some (.ref p21), some (.ref a32), w31, some (.ref p39), none, none, none]) rfl ?_
          refine sq_nx ?_
          refine f_seq ?_
          refine c_asg ?_
          refine c_call ?_
          refine ea_to (ea_cons (ev_var rfl) ea_nil) ?_
          refine ⟨_, _, star [lstA a32 (s28 : (List Str)), lstA p21 (t26.2 : (List Str)), lstA p19 (r18 : (List Int)), lstA p16 (y17 : (List Str)), lstA p14 ([Txt.upper x10, x12 ++ (" " : Str), ("" : Str)] : (List Str)), lstA p4 (t9.2 : (List Str)), lstA p2 (r1 : (List Int)), imA (.ref ad_v_law_script) v_law_script, F], rfl, Sep.unstar (M := [lstA p39 (t26.2 : (List Str))]) (hS.sel [0, 1, 2, 3, 4, 5, 6, 7, 8, 9] (by decide) rfl : Sep H ([lstA p39 (t26.2 : (List Str))] ++ [lstA a32 (s28 : (List Str)), lstA p21 (t26.2 : (List Str)), lstA p19 (r18 : (List Int)), lstA p16 (y17 : (List Str)), lstA p14 ([Txt.upper x10, x12 ++ (" " : Str), ("" : Str)] : (List Str)), lstA p4 (t9.2 : (List Str)), lstA p2 (r1 : (List Int)), imA (.ref ad_v_law_script) v_law_script, F])), R.wp_mono (R.wp_bind hm) (fun r40 hm p41 H hS => ?_) (fun _ z => z)⟩
          have hS : Sep H ([lstA p41 (r40 : (List Str)), lstA p39 (t26.2 : (List Str)), lstA a32 (s28 : (List Str)), lstA p21 (t26.2 : (List Str)), lstA p19 (r18 : (List Int)), lstA p16 (y17 : (List Str)), lstA p14 ([Txt.upper x10, x12 ++ (" " : Str), ("" : Str)] : (List Str)), lstA p4 (t9.2 : (List Str)), lstA p2 (r1 : (List Int)), imA (.ref ad_v_law_script) v_law_script, F] : List (Asn (gx K))) := Sep.star (M := [lstA p41 (r40 : (List Str)), lstA p39 (t26.2 : (List Str))]) hS
          refine c_set (σ' := [some (.ref ad_v_law_script), some (.int (x3)), none, some (.ref p16), none, some (.ref p21), some (.ref a32), w31, some (.ref p39), some (.ref p41), none, none]) rfl ?_
          refine sq_nx ?_
          refine f_seq ?_
          refine f_if ?_
          refine f_or ?_
          refine et_to (et_not (et_B (ev_isi (T := "list") (b := true) (ev_var rfl) ev_c (ty_lst hS (i := 0) rfl) (by decide +kernel)))) ?_
          refine orK_f ?_
          refine f_or ?_
          obtain ⟨h42, hm⟩ := R.wp_need hm
          obtain ⟨h43, hm⟩ := R.wp_need hm
          refine et_to (et_test (ev_neL hS (i := 0) (j := 2) rfl rfl (ev_var rfl) (ev_var rfl) h42 h43 (Nat.le_of_ble_eq_true rfl))) ?_
          refine orK_J hm hS (fun hb q hm nx => ?_) (fun b44 H hm hS => ?_)
          ·
            obtain ⟨h45, hm⟩ := R.wp_need hm
            obtain ⟨h46, hm⟩ := R.wp_need hm
            refine et_to (et_test (ev_neL hS (i := 1) (j := 3) rfl rfl (ev_var rfl) (ev_var rfl) h45 h46 (Nat.le_of_ble_eq_true rfl))) ?_
            exact nx _ _ hm (hS.sel [0, 1, 2, 3, 4, 5, 6, 7, 8, 9, 10] (by decide) rfl)
          ·
            obtain ⟨hy, hn⟩ := R.wp_if hm
            refine ifK_2 (fun hb47 => ?_) (fun hb47 => ?_)
            · have hm := hy hb47
              refine c_ret ?_
              refine ev_to ev_c ?_
              exact hm _ (hS.sel [10] (by decide) rfl)
            · have hm := hn (by rw [hb47]; decide)
              refine st_nx ?_
              refine sq_nx ?_
              refine f_seq ?_
              refine c_drop ?_
              refine c_bm0 ?_
              refine ev_to (ev_var rfl) ⟨tyL hS (i := 1) rfl, ?_⟩
              refine k_clear hS (i := 1) rfl rfl fun H hS => ?_
              refine sq_nx ?_
              refine f_seq ?_
              refine f_if ?_
              obtain ⟨h48, hm⟩ := R.wp_need hm
              obtain ⟨h49, hm⟩ := R.wp_need hm
              refine et_to (et_test (ev_neL hS (i := 0) (j := 2) rfl rfl (ev_var rfl) (ev_var rfl) h48 h49 (Nat.le_of_ble_eq_true rfl))) ?_
              obtain ⟨hy, hn⟩ := R.wp_if hm
              refine ifK_2 (fun hb50 => ?_) (fun hb50 => ?_)
              · have hm := hy hb50
                refine c_ret ?_
                refine ev_to ev_c ?_
                exact hm _ (hS.sel [10] (by decide) rfl)
              · have hm := hn (by rw [hb50]; decide)
                refine st_nx ?_
                refine sq_nx ?_
                refine f_seq ?_
                refine c_asg ?_
                refine c_cb ?_
                refine ea_to (ea_cons (ev_var rfl) ea_nil) ?_
                refine k_list hS (n := 3) rfl fun p51 H hS => ?_
                refine c_set (σ' := [some (.ref ad_v_law_script), some (.int (x3)), none, some (.ref p16), none, some (.ref p21), some (.ref a32), w31, some (.ref p39), some (.ref p41), some (.ref p51), none]) rfl ?_
                refine sq_nx ?_
                refine f_seq ?_
                refine c_asg ?_
                refine c_call ?_
                refine ea_to (ea_cons (ev_var rfl) ea_nil) ?_
                refine ⟨_, _, star [lstA p51 (t26.2 : (List Str)), lstA p41 (r40 : (List Str)), lstA p39 (([] : (List Str)) : (List Str)), lstA a32 (s28 : (List Str)), lstA p19 (r18 : (List Int)), lstA p16 (y17 : (List Str)), lstA p14 ([Txt.upper x10, x12 ++ (" " : Str), ("" : Str)] : (List Str)), lstA p4 (t9.2 : (List Str)), lstA p2 (r1 : (List Int)), imA (.ref ad_v_law_script) v_law_script, F], rfl, Sep.unstar (M := [lstA p21 (t26.2 : (List Str))]) (hS.sel [4, 0, 1, 2, 3, 5, 6, 7, 8, 9, 10, 11] (by decide) rfl : Sep H ([lstA p21 (t26.2 : (List Str))] ++ [lstA p51 (t26.2 : (List Str)), lstA p41 (r40 : (List Str)), lstA p39 (([] : (List Str)) : (List Str)), lstA a32 (s28 : (List Str)), lstA p19 (r18 : (List Int)), lstA p16 (y17 : (List Str)), lstA p14 ([Txt.upper x10, x12 ++ (" " : Str), ("" : Str)] : (List Str)), lstA p4 (t9.2 : (List Str)), lstA p2 (r1 : (List Int)), imA (.ref ad_v_law_script) v_law_script, F])), R.wp_mono (R.wp_bind hm) (fun r52 hm p53 H hS => ?_) (fun _ z => z)⟩
                have hS : Sep H ([lstA p53 (r52 : (List Str)), lstA p21 (t26.2 : (List Str)), lstA p51 (t26.2 : (List Str)), lstA p41 (r40 : (List Str)), lstA p39 (([] : (List Str)) : (List Str)), lstA a32 (s28 : (List Str)), lstA p19 (r18 : (List Int)), lstA p16 (y17 : (List Str)), lstA p14 ([Txt.upper x10, x12 ++ (" " : Str), ("" : Str)] : (List Str)), lstA p4 (t9.2 : (List Str)), lstA p2 (r1 : (List Int)), imA (.ref ad_v_law_script) v_law_script, F] : List (Asn (gx K))) := Sep.star (M := [lstA p53 (r52 : (List Str)), lstA p21 (t26.2 : (List Str))]) hS
                refine c_set (σ' := [some (.ref ad_v_law_script), some (.int (x3)), none, some (.ref p16), none, some (.ref p21), some (.ref a32), w31, some (.ref p39), some (.ref p41), some (.ref p51), some (.ref p53)]) rfl ?_
                refine sq_nx ?_
                refine f_seq ?_
                refine f_if ?_
                obtain ⟨h54, hm⟩ := R.wp_need hm
                obtain ⟨h55, hm⟩ := R.wp_need hm
                refine et_to (et_test (ev_neL hS (i := 0) (j := 5) rfl rfl (ev_var rfl) (ev_var rfl) h54 h55 (Nat.le_of_ble_eq_true rfl))) ?_
                obtain ⟨hy, hn⟩ := R.wp_if hm
                refine ifK_2 (fun hb56 => ?_) (fun hb56 => ?_)
                · have hm := hy hb56
                  refine c_ret ?_
                  refine ev_to ev_c ?_
                  exact hm _ (hS.sel [12] (by decide) rfl)
                · have hm := hn (by rw [hb56]; decide)
                  refine st_nx ?_
                  refine sq_nx ?_
                  refine f_seq ?_
                  refine c_drop ?_
                  refine c_bm ?_
                  refine ev_to (ev_var rfl) ⟨tyL hS (i := 3) rfl, ?_⟩
                  refine ea_to (ea_cons ev_c ea_nil) ?_
                  obtain ⟨h57, hm⟩ := R.wp_need hm
                  refine k_append (x := ("x" : Str)) hS (i := 3) rfl rfl h57 rfl fun H hS => ?_
                  refine sq_nx ?_
                  refine f_seq ?_
                  refine c_drop ?_
                  refine c_bm ?_
                  refine ev_to (ev_var rfl) ⟨tyL hS (i := 0) rfl, ?_⟩
                  refine ea_to (ea_cons ev_c ea_nil) ?_
                  obtain ⟨h58, hm⟩ := R.wp_need hm
                  refine k_append (x := ("y" : Str)) hS (i := 0) rfl rfl h58 rfl fun H hS => ?_
                  refine sq_nx ?_
                  refine c_ret ?_
                  refine f_andV ?_
                  refine c_op ?_
                  refine c_sl ?_
                  refine ev_to (ev_var rfl) ?_
                  refine eo_to eo_no ?_
                  refine eo_to (eo_some (ev_un ev_c fun _ q => ⟨_, rfl, q⟩)) ?_
                  refine k_slL hS (n := 3) rfl fun p59 H hS => ?_
                  refine ev_to (ev_var rfl) ?_
                  obtain ⟨h60, hm⟩ := R.wp_need hm
                  obtain ⟨h61, hm⟩ := R.wp_need hm
                  refine r_eqL hS (i := 0) (j := 6) rfl rfl h60 h61 (Nat.le_of_ble_eq_true rfl) _ ?_
                  refine andVK_J hm hS (fun hb q hm nx => ?_) (fun b62 H hm hS => ?_)
                  ·
                    refine f_andV ?_
                    obtain ⟨h63, hm⟩ := R.wp_need hm
                    obtain ⟨h64, hm⟩ := R.wp_need hm
                    refine ev_to (ev_eqL hS (i := 2) (j := 3) rfl rfl (ev_var rfl) (ev_var rfl) h63 h64 (Nat.le_of_ble_eq_true rfl)) ?_
                    refine andVK_J hm hS (fun hb q hm nx => ?_) (fun b65 H hm hS => ?_)
                    ·
                      refine c_op ?_
                      refine c_call ?_
                      refine ea_to (ea_cons (ev_var rfl) ea_nil) ?_
                      refine ⟨_, _, star [lstA p59 (cutL (r40 ++ [("x" : Str)]) none (some (-1)) : (List Str)), lstA p53 (r52 ++ [("y" : Str)] : (List Str)), lstA p51 (t26.2 : (List Str)), lstA p41 (r40 ++ [("x" : Str)] : (List Str)), lstA p39 (([] : (List Str)) : (List Str)), lstA a32 (s28 : (List Str)), lstA p19 (r18 : (List Int)), lstA p16 (y17 : (List Str)), lstA p14 ([Txt.upper x10, x12 ++ (" " : Str), ("" : Str)] : (List Str)), lstA p4 (t9.2 : (List Str)), lstA p2 (r1 : (List Int)), imA (.ref ad_v_law_script) v_law_script, F], rfl, Sep.unstar (M := [lstA p21 (t26.2 : (List Str))]) (hS.sel [2, 0, 1, 3, 4, 5, 6, 7, 8, 9, 10, 11, 12, 13] (by decide) rfl : Sep H ([lstA p21 (t26.2 : (List Str))] ++ [lstA p59 (cutL (r40 ++ [("x" : Str)]) none (some (-1)) : (List Str)), lstA p53 (r52 ++ [("y" : Str)] : (List Str)), lstA p51 (t26.2 : (List Str)), lstA p41 (r40 ++ [("x" : Str)] : (List Str)), lstA p39 (([] : (List Str)) : (List Str)), lstA a32 (s28 : (List Str)), lstA p19 (r18 : (List Int)), lstA p16 (y17 : (List Str)), lstA p14 ([Txt.upper x10, x12 ++ (" " : Str), ("" : Str)] : (List Str)), lstA p4 (t9.2 : (List Str)), lstA p2 (r1 : (List Int)), imA (.ref ad_v_law_script) v_law_script, F])), R.wp_mono (R.wp_bind hm) (fun r66 hm p67 H hS => ?_) (fun _ z => z)⟩
                      have hS : Sep H ([lstA p67 (r66 : (List Str)), lstA p21 (t26.2 : (List Str)), lstA p59 (cutL (r40 ++ [("x" : Str)]) none (some (-1)) : (List Str)), lstA p53 (r52 ++ [("y" : Str)] : (List Str)), lstA p51 (t26.2 : (List Str)), lstA p41 (r40 ++ [("x" : Str)] : (List Str)), lstA p39 (([] : (List Str)) : (List Str)), lstA a32 (s28 : (List Str)), lstA p19 (r18 : (List Int)), lstA p16 (y17 : (List Str)), lstA p14 ([Txt.upper x10, x12 ++ (" " : Str), ("" : Str)] : (List Str)), lstA p4 (t9.2 : (List Str)), lstA p2 (r1 : (List Int)), imA (.ref ad_v_law_script) v_law_script, F] : List (Asn (gx K))) := Sep.star (M := [lstA p67 (r66 : (List Str)), lstA p21 (t26.2 : (List Str))]) hS
                      refine ev_to (ev_var rfl) ?_
                      obtain ⟨h68, hm⟩ := R.wp_need hm
                      obtain ⟨h69, hm⟩ := R.wp_need hm
                      refine r_eqL hS (i := 0) (j := 7) rfl rfl h68 h69 (Nat.le_of_ble_eq_true rfl) _ ?_
                      exact nx _ _ hm (hS.sel [2, 3, 1, 4, 5, 6, 7, 8, 9, 10, 11, 12, 13, 14] (by decide) rfl)
                    ·
                      exact nx _ _ hm (hS.sel [0, 1, 2, 3, 4, 5, 6, 7, 8, 9, 10, 11, 12, 13] (by decide) rfl)
                  ·
                    exact hm _ (hS.sel [13] (by decide) rfl)
end
end Lw

namespace Lw
open PySem PySem.Spec PyProof.Rows L2 Ml
theorem all_mk {l : PySem.W.OpenLaw} {w : World} {K : PySem.W.Frag} {h : Heap} {mg : Str → Option Value} {fa : Addr} (X : K.In h) (G : h.Ns mainGlobals mg) (hfa : mg "law" = some (.ref fa))
    {f0 : Addr} {od0 an0 : Option Addr} {sl0 : Array (Option Value)} {oc0 kV0 dc0 pm0 cd0 ct0 : Value}
    {f1 : Addr} {od1 an1 : Option Addr} {sl1 : Array (Option Value)} {oc1 kV1 dc1 pm1 cd1 ct1 : Value}
    {f2 : Addr} {od2 an2 : Option Addr} {sl2 : Array (Option Value)} {oc2 kV2 dc2 pm2 cd2 ct2 : Value}
    {f3 : Addr} {od3 an3 : Option Addr} {sl3 : Array (Option Value)} {oc3 kV3 dc3 pm3 cd3 ct3 : Value}
    (a0 : PySem.W.nsIn K mainGlobals "each_once" = some (some (.ref f0))) (l0 : K.lookup f0 = some ⟨oc0, od0, .func (PySem.W.fnOf "each_once" "each_once" (defArgs s_each_once) (defBody s_each_once) (defScope s_each_once) .none kV0 dc0 pm0 an0 cd0 ct0), sl0⟩) (c0 : PySem.W.codeIn K cd0 "each_once" = true) (k0 : PySem.W.keepIn K (.ref f0) = true)
    (a1 : PySem.W.nsIn K mainGlobals "_law_row" = some (some (.ref f1))) (l1 : K.lookup f1 = some ⟨oc1, od1, .func (PySem.W.fnOf "_law_row" "_law_row" (defArgs s_law_row) (defBody s_law_row) (defScope s_law_row) .none kV1 dc1 pm1 an1 cd1 ct1), sl1⟩) (c1 : PySem.W.codeIn K cd1 "_law_row" = true) (k1 : PySem.W.keepIn K (.ref f1) = true)
    (a2 : PySem.W.nsIn K mainGlobals "_law_word" = some (some (.ref f2))) (l2 : K.lookup f2 = some ⟨oc2, od2, .func (PySem.W.fnOf "_law_word" "_law_word" (defArgs s_law_word) (defBody s_law_word) (defScope s_law_word) .none kV2 dc2 pm2 an2 cd2 ct2), sl2⟩) (c2 : PySem.W.codeIn K cd2 "_law_word" = true) (k2 : PySem.W.keepIn K (.ref f2) = true)
    (a3 : PySem.W.nsIn K mainGlobals "law" = some (some (.ref f3))) (l3 : K.lookup f3 = some ⟨oc3, od3, .func (PySem.W.fnOf "law" "law" (defArgs s_law) (defBody s_law) (defScope s_law) .none kV3 dc3 pm3 an3 cd3 ct3), sl3⟩) (c3 : PySem.W.codeIn K cd3 "law" = true) (k3 : PySem.W.keepIn K (.ref f3) = true)
    (z_isinstance : PySem.W.nsIn K mainGlobals "isinstance" = some none)
    (z_len : PySem.W.nsIn K mainGlobals "len" = some none)
    (z_list : PySem.W.nsIn K mainGlobals "list" = some none)
    (z_min : PySem.W.nsIn K mainGlobals "min" = some none)
    (z_range : PySem.W.nsIn K mainGlobals "range" = some none)
    (z_str : PySem.W.nsIn K mainGlobals "str" = some none)
    : ∃ fd : FuncData, (∀ (s : Shared) (v : Value), BindsTo s fd ⟨[v], []⟩ [("_law_script", v)]) ∧ ∀ base : Heap, K.In base → base.Ns mainGlobals mg → FnOk l.prog w K mg base CX0 2 fa fd ["_law_script"] (sp_law K) := by
  have e := hfa.symm.trans (PySem.W.mg_of X G a3)
  cases e
  have F0 := fun_mk (st := s_each_once) l0 c0 k0
  have b0 := F0.binds (ps := ["row"]) fun _ _ _ _ _ _ us hl => match us, hl with | [_], _ => rfl
  have F1 := fun_mk (st := s_law_row) l1 c1 k1
  have b1 := F1.binds (ps := ["_law_script", "_law_many"]) fun _ _ _ _ _ _ us hl => match us, hl with | [_, _], _ => rfl
  have F2 := fun_mk (st := s_law_word) l2 c2 k2
  have b2 := F2.binds (ps := ["_law_base", "_law_turn"]) fun _ _ _ _ _ _ us hl => match us, hl with | [_, _], _ => rfl
  have F3 := fun_mk (st := s_law) l3 c3 k3
  have b3 := F3.binds (ps := ["_law_script"]) fun _ _ _ _ _ _ us hl => match us, hl with | [_], _ => rfl
  let T : Txt K mg := ⟨f0, _, F0, b0, PySem.W.mg_of X G a0, f1, _, F1, b1, PySem.W.mg_of X G a1, f2, _, F2, b2, PySem.W.mg_of X G a2, fa, _, F3, b3, PySem.W.mg_of X G a3, PySem.W.mg_none_of X G z_isinstance, PySem.W.mg_none_of X G z_len, PySem.W.mg_none_of X G z_list, PySem.W.mg_none_of X G z_min, PySem.W.mg_none_of X G z_range, PySem.W.mg_none_of X G z_str⟩
  exact ⟨T.fd_law, fun s v => .of_eq rfl, fun base _ _ => ok_law T⟩
theorem walk {l : PySem.W.OpenLaw} {q : Program} {loose : List Str} {XP : (Str → Option Value) → Heap → Prop} {YP : World → Heap → Prop} {d : DefRec} {K : Params → PySem.W.Frag} (hn : l.most = some 63) (hdf : d.params.defaults = [])
    (hY : ∀ (w : World) (h : Heap), YP w h → (K w.params).In h)
    (F : ∀ (w : World) (mg : Str → Option Value) (fa : Addr) (h : Heap), (K w.params).In h → h.Ns mainGlobals mg → mg d.name = some (.ref fa) →
      ∃ fd : FuncData, (∀ (s : Shared) (u : Value), BindsTo s fd ⟨[u], []⟩ [("_law_script", u)]) ∧ ∀ base : Heap, (K w.params).In base → base.Ns mainGlobals mg → FnOk l.prog w (K w.params) mg base CX0 2 fa fd ["_law_script"] (sp_law (K w.params))) :
    PySem.W.WalkO q loose XP YP l.row.toRowW d [] (fun f vs => PySem.call f vs) :=
  L2.walk_of (n := 63) (k := 2) (x := "_law_script") (CX := fun _ => CX0) (sp := fun w => sp_law (K w.params)) hn (by decide) hdf ⟨rfl, by decide, by decide⟩ hY F
    (fun w H a ns hl hO hS => ⟨.ref a, ⟨ns⟩, star [], rfl, im_of_only hO hS, Sep.unstar (M := []) (Sep.nil H), R.wp_of (law_ok ⟨ns⟩ hl) fun H' _ => rfl⟩) fun _ _ _ _ _ z => z
end Lw
open PySem PySem.W PyProof.Rows
set_option maxRecDepth 100000 in
set_option maxHeartbeats 0 in
theorem PySem.Challenge.cw_mailroom_k03_each_once_holds : PySem.Challenge.rw_mailroom_k03_each_once.Holds := by
  w_on; o_law; k_head; (case hw => w_witness2)
  k_fill
  refine Lw.walk (l := PySem.Challenge.rw_mailroom_k03_each_once) rfl rfl (fun w h Y => PySem.W.kIn_of Y) ?F
  case F =>
    intro w mg fa h KX G hmg
    refine' Lw.all_mk KX G hmg ?a0 ?l0 ?c0 ?k0 ?a1 ?l1 ?c1 ?k1 ?a2 ?l2 ?c2 ?k2 ?a3 ?l3 ?c3 ?k3 ?z_isinstance ?z_len ?z_list ?z_min ?z_range ?z_str
    (case a0 => k_is)
    (case l0 => k_is)
    (case c0 => k_is)
    (case k0 => k_is)
    (case a1 => k_is)
    (case l1 => k_is)
    (case c1 => k_is)
    (case k1 => k_is)
    (case a2 => k_is)
    (case l2 => k_is)
    (case c2 => k_is)
    (case k2 => k_is)
    (case a3 => k_is)
    (case l3 => k_is)
    (case c3 => k_is)
    (case k3 => k_is)
    (case z_isinstance => k_is)
    (case z_len => k_is)
    (case z_list => k_is)
    (case z_min => k_is)
    (case z_range => k_is)
    (case z_str => k_is)

