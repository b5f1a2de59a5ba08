import PyProof.Rows.All
import Wide.All
import OpenK.AllK
import Wide.FinOn
import HandS.ForMost
import HandS.ForExc
import HandS.SetKeys
import HandS.IsInst
import HandS.Flow
import HandS.Style
import HandS.CallSlots
import HandS.TryMany
import HandS.StrMore
import HandS.Strs
import HandS.TupLe
import HandS.TupAny
import HandS.More
import HandS.Conv
import HandS.Replace
import PyProof.Rows.StrCase
import PySem.Challenge.RW_mailroom_k01_words_told
set_option Elab.async false
set_option linter.all false
set_option maxRecDepth 100000
set_option maxHeartbeats 4000000
namespace Ml
open PySem L2
/-! ### the assertions: what stands where, and who owns it -/
structure Gx where
  K : PySem.W.Frag
  fz : Addr → Option Nat

/-- what never changes once it stands -/
def per (G : Gx) : HO → Bool
  | .tup _ => true
  | .frz _ (.lst _) => true
  | .ins C _ fs => decide (G.fz C = some fs.length)
  | _ => false

/-- what sort of thing it is -/
def kindOf : HO → Nat
  | .lst _ => 0
  | .frz _ (.lst _) => 0
  | .dK _ => 1
  | .dT _ => 1
  | .tup _ => 2
  | .set _ _ => 3
  | .ins _ _ _ => 4
  | _ => 5
/-- all that never changes stands on, and nothing becomes another sort of thing -/
def Stab (G : Gx) (H H' : Hp) : Prop := (∀ a o, H a = some o → per G o = true → H' a = some o) ∧ ∀ a o, H a = some o → ∃ o', H' a = some o' ∧ kindOf o' = kindOf o
theorem Stab.refl {G : Gx} (H : Hp) : Stab G H H := ⟨fun _ _ h _ => h, fun _ o h => ⟨o, h, rfl⟩⟩
theorem Stab.trans {G : Gx} {H H1 H2 : Hp} (a : Stab G H H1) (b : Stab G H1 H2) : Stab G H H2 := ⟨fun x o h p => b.1 x o (a.1 x o h p) p, fun x o h => by
  obtain ⟨o1, h1, k1⟩ := a.2 x o h
  obtain ⟨o2, h2, k2⟩ := b.2 x o1 h1
  exact ⟨o2, h2, k2.trans k1⟩⟩
theorem Stab.of_same {G : Gx} {H H' : Hp} (s : Same H H') : Stab G H H' := ⟨fun a o h _ => s a o h, fun a o h => ⟨o, s a o h, rfl⟩⟩
theorem stab_put {G : Gx} {H : Hp} {a : Addr} {o o' : HO} (e : H a = some o) (n : per G o = false) (kd : kindOf o' = kindOf o) : Stab G H (upd H a o') := ⟨fun b x hb pb => by
  by_cases z : b = a
  · subst z; rw [e] at hb; cases hb; rw [n] at pb; cases pb
  · rw [upd_ne z]; exact hb, fun b x hb => by
  by_cases z : b = a
  · subst z; rw [e] at hb; cases hb; exact ⟨o', upd_same, kd⟩
  · exact ⟨x, by rw [upd_ne z]; exact hb, rfl⟩⟩

structure Asn (G : Gx) where
  sat : Hp → List Addr → Prop
  loc : ∀ H H' fp, sat H fp → (∀ a, a ∈ fp → H' a = H a) → Stab G H H' → sat H' fp

variable {G : Gx}

def satL (H : Hp) : List (Asn G) → List Addr → Prop
  | [], fp => fp = []
  | A :: L, fp => ∃ f1 f2, fp = f1 ++ f2 ∧ A.sat H f1 ∧ satL H L f2

theorem satL.loc {H H' : Hp} : ∀ {L : List (Asn G)} {fp : List Addr}, satL H L fp → (∀ a, a ∈ fp → H' a = H a) → Stab G H H' → satL H' L fp
  | [], fp, h, _, _ => h
  | A :: L, fp, ⟨f1, f2, e, h1, h2⟩, k, s => ⟨f1, f2, e, A.loc H H' f1 h1 (fun a m => k a (by rw [e]; exact List.mem_append_left _ m)) s,
      satL.loc h2 (fun a m => k a (by rw [e]; exact List.mem_append_right _ m)) s⟩

theorem satL.perm {H : Hp} {L L' : List (Asn G)} (p : L.Perm L') : ∀ {fp : List Addr}, satL H L fp → ∃ fp', fp'.Perm fp ∧ satL H L' fp' := by
  induction p with
  | nil => intro fp h; exact ⟨fp, .refl _, h⟩
  | cons x _ ih =>
    rintro fp ⟨f1, f2, e, h1, h2⟩
    obtain ⟨g, pg, hg⟩ := ih h2
    exact ⟨f1 ++ g, by rw [e]; exact List.Perm.append_left f1 pg, f1, g, rfl, h1, hg⟩
  | swap x y l =>
    rintro fp ⟨f1, f2, e, h1, g1, g2, e2, k1, k2⟩
    refine ⟨g1 ++ (f1 ++ g2), ?_, g1, f1 ++ g2, rfl, k1, f1, g2, rfl, h1, k2⟩
    rw [e, e2, ← List.append_assoc, ← List.append_assoc]
    exact List.Perm.append_right g2 List.perm_append_comm
  | trans _ _ ih1 ih2 =>
    intro fp h
    obtain ⟨g, pg, hg⟩ := ih1 h
    obtain ⟨k, pk, hk⟩ := ih2 hg
    exact ⟨k, pk.trans pg, hk⟩

theorem satL.append {H : Hp} : ∀ {L L' : List (Asn G)} {fp : List Addr}, satL H (L ++ L') fp ↔ ∃ f1 f2, fp = f1 ++ f2 ∧ satL H L f1 ∧ satL H L' f2
  | [], L', fp => ⟨fun h => ⟨[], fp, rfl, rfl, h⟩, fun ⟨f1, f2, e, h1, h2⟩ => by
      have h1' : f1 = [] := h1
      subst h1'; subst e; exact h2⟩
  | A :: L, L', fp => by
    constructor
    · rintro ⟨f1, f2, e, h1, h2⟩
      obtain ⟨g1, g2, e2, k1, k2⟩ := satL.append.mp h2
      exact ⟨f1 ++ g1, g2, by rw [e, e2, List.append_assoc], ⟨f1, g1, rfl, h1, k1⟩, k2⟩
    · rintro ⟨f1, f2, e, ⟨g1, g2, e2, h1, h2⟩, h3⟩
      exact ⟨g1, g2 ++ f2, by rw [e, e2, List.append_assoc], h1, satL.append.mpr ⟨g2, f2, rfl, h2, h3⟩⟩

/-- the assertions hold, each of its own part of the heap -/
def Sep (H : Hp) (L : List (Asn G)) : Prop := ∃ fp, satL H L fp ∧ fp.Nodup ∧ ∀ a, a ∈ fp → ∃ o, H a = some o ∧ per G o = false

theorem Sep.perm {H : Hp} {L L' : List (Asn G)} (h : Sep H L) (p : L.Perm L') : Sep H L' := by
  obtain ⟨fp, h1, h2, h3⟩ := h
  obtain ⟨g, pg, hg⟩ := satL.perm p h1
  exact ⟨g, hg, pg.nodup_iff.mpr h2, fun a m => h3 a (pg.mem_iff.mp m)⟩
theorem Sep.nil (H : Hp) : Sep H ([] : List (Asn G)) := ⟨[], rfl, List.nodup_nil, fun a m => absurd m (by simp)⟩
theorem Sep.left {H : Hp} {L L' : List (Asn G)} (h : Sep H (L ++ L')) : Sep H L := by
  obtain ⟨fp, h1, h2, h3⟩ := h
  obtain ⟨f1, f2, e, k1, k2⟩ := satL.append.mp h1
  subst e
  exact ⟨f1, k1, (List.nodup_append.mp h2).1, fun a m => h3 a (List.mem_append_left _ m)⟩
theorem Sep.tail {H : Hp} {A : Asn G} {L : List (Asn G)} (h : Sep H (A :: L)) : Sep H L := by
  have p : (A :: L).Perm (L ++ [A]) := (List.perm_append_singleton A L).symm
  exact (h.perm p).left
/-- old things stand, new ones may come -/
theorem Sep.more {H H' : Hp} {L : List (Asn G)} (h : Sep H L) (s : Same H H') : Sep H' L := by
  obtain ⟨fp, h1, h2, h3⟩ := h
  exact ⟨fp, h1.loc (fun a m => by obtain ⟨o, e, _⟩ := h3 a m; rw [e]; exact s a o e) (.of_same s), h2, fun a m => by
    obtain ⟨o, e, n⟩ := h3 a m; exact ⟨o, s a o e, n⟩⟩
theorem satL.at {H : Hp} {A : Asn G} : ∀ {L : List (Asn G)} {fp : List Addr} {i : Nat}, satL H L fp → L[i]? = some A → ∃ fp, A.sat H fp
  | [], _, _, _, e => by simp at e
  | B :: L, _, 0, ⟨f1, _, _, k1, _⟩, e => ⟨f1, by
      have : B = A := Option.some.inj e
      subst this; exact k1⟩
  | B :: L, _, i + 1, ⟨_, f2, _, _, k2⟩, e => satL.at (L := L) (i := i) k2 (by simpa using e)
theorem Sep.at {H : Hp} {L : List (Asn G)} (h : Sep H L) {i : Nat} {A : Asn G} (e : L[i]? = some A) : ∃ fp, A.sat H fp := by
  obtain ⟨fp, h1, _, _⟩ := h
  exact satL.at h1 e
/-- the i-th one ahead -/
theorem pull_perm {α : Type} : ∀ {L : List α} {i : Nat} {A : α}, L[i]? = some A → L.Perm (A :: L.eraseIdx i)
  | [], _, _, e => by simp at e
  | B :: L, 0, A, e => by
    have : B = A := Option.some.inj e
    subst this
    exact .refl _
  | B :: L, i + 1, A, e => by
    have ih := pull_perm (L := L) (i := i) (A := A) (by simpa using e)
    exact (List.Perm.cons B ih).trans (List.Perm.swap A B _)
theorem set_perm {α : Type} : ∀ {L : List α} {i : Nat} {A B : α}, L[i]? = some A → (B :: L.eraseIdx i).Perm (L.set i B)
  | [], _, _, _, e => by simp at e
  | C :: L, 0, A, B, e => .refl _
  | C :: L, i + 1, A, B, e => by
    have ih := set_perm (L := L) (i := i) (A := A) (B := B) (by simpa using e)
    exact (List.Perm.swap C B _).trans (List.Perm.cons C ih)
/-- chosen ones, in a chosen order -/
def pick {α : Type} (L : List α) (is : List Nat) : List α := is.filterMap fun i => L[i]?
theorem pick_perm {α : Type} : ∀ (is : List Nat) (L : List α), is.Nodup → ∃ R, L.Perm (pick L is ++ R)
  | [], L, _ => ⟨L, .refl _⟩
  | i :: is, L, nd => by
    obtain ⟨n1, n2⟩ := List.nodup_cons.mp nd
    cases e : L[i]? with
    | none =>
      obtain ⟨R, p⟩ := pick_perm is L n2
      refine ⟨R, ?_⟩
      have : pick L (i :: is) = pick L is := by unfold pick; rw [List.filterMap_cons, e]
      rw [this]; exact p
    | some A =>
      -- the others by their places without i
      have key : ∀ (js : List Nat), i ∉ js → pick L js = pick (L.eraseIdx i) (js.map fun j => if j < i then j else j - 1) := by
        intro js hj
        unfold pick
        rw [List.filterMap_map]
        have gen : ∀ js : List Nat, i ∉ js → js.filterMap (fun i => L[i]?) = js.filterMap ((fun j => (L.eraseIdx i)[j]?) ∘ fun j => if j < i then j else j - 1) := by
          intro js
          induction js with
          | nil => intro _; rfl
          | cons j js ih =>
            intro hm
            have hji : j ≠ i := fun z => hm (by rw [z]; exact List.mem_cons_self)
            have ih' := ih fun z => hm (List.mem_cons_of_mem _ z)
            have ej : L[j]? = ((fun j => (L.eraseIdx i)[j]?) ∘ fun j => if j < i then j else j - 1) j := by
              show L[j]? = (L.eraseIdx i)[if j < i then j else j - 1]?
              rw [List.getElem?_eraseIdx]
              by_cases c : j < i
              · rw [if_pos c, if_pos c]
              · rw [if_neg c, if_neg (by omega)]
                congr 1; omega
            rw [List.filterMap_cons, List.filterMap_cons, ih', ej]
        exact gen js hj
      have nd2 : (is.map fun j => if j < i then j else j - 1).Nodup := by
        refine List.pairwise_map.mpr (List.Pairwise.imp_of_mem ?_ n2)
        intro a b ha hb hab z
        have ha' : a ≠ i := fun q => n1 (q ▸ ha)
        have hb' : b ≠ i := fun q => n1 (q ▸ hb)
        split at z <;> split at z <;> omega
      obtain ⟨R, p⟩ := pick_perm (is.map fun j => if j < i then j else j - 1) (L.eraseIdx i) nd2
      refine ⟨R, ?_⟩
      have e2 : pick L (i :: is) = A :: pick L is := by unfold pick; rw [List.filterMap_cons, e]
      rw [e2, key is n1]
      exact (pull_perm e).trans (List.Perm.cons A p)
termination_by is => is.length
theorem Sep.sel {H : Hp} {L L' : List (Asn G)} (h : Sep H L) (is : List Nat) (nd : is.Nodup) (e : pick L is = L') : Sep H L' := by
  obtain ⟨R, p⟩ := pick_perm is L nd
  rw [e] at p
  exact (h.perm p).left

/-! ### the kinds of assertions -/
/-- at a stands o, owned -/
def cell (a : Addr) (o : HO) : Asn G := ⟨fun H fp => fp = [a] ∧ H a = some o, fun H H' fp h k _ => ⟨h.1, by rw [k a (by rw [h.1]; simp)]; exact h.2⟩⟩
/-- a fact that stays -/
def fact (p : Hp → Prop) (st : ∀ H H', p H → Stab G H H' → p H') : Asn G := ⟨fun H fp => fp = [] ∧ p H, fun H H' fp h _ s => ⟨h.1, st H H' h.2 s⟩⟩
/-- several as one -/
def star (L : List (Asn G)) : Asn G := ⟨fun H fp => satL H L fp, fun H H' fp h k s => h.loc k s⟩
/-- some one of them -/
def exA {α : Type} (f : α → Asn G) : Asn G := ⟨fun H fp => ∃ x, (f x).sat H fp, fun H H' fp ⟨x, h⟩ k s => ⟨x, (f x).loc H H' fp h k s⟩⟩
/-- and a plain truth -/
def andA (p : Prop) (A : Asn G) : Asn G := ⟨fun H fp => p ∧ A.sat H fp, fun H H' fp ⟨x, h⟩ k s => ⟨x, A.loc H H' fp h k s⟩⟩

theorem Sep.star {H : Hp} {L M : List (Asn G)} (h : Sep H (M ++ [Ml.star L])) : Sep H (M ++ L) := by
  obtain ⟨fp, h1, h2, h3⟩ := h
  obtain ⟨f1, f2, e, k1, g1, g2, e2, k2, k3⟩ := satL.append.mp h1
  have k3' : g2 = [] := k3
  subst k3'
  rw [List.append_nil] at e2
  subst e2
  exact ⟨fp, satL.append.mpr ⟨f1, f2, e, k1, k2⟩, h2, h3⟩
theorem Sep.unstar {H : Hp} {L M : List (Asn G)} (h : Sep H (M ++ L)) : Sep H (M ++ [Ml.star L]) := by
  obtain ⟨fp, h1, h2, h3⟩ := h
  obtain ⟨f1, f2, e, k1, k2⟩ := satL.append.mp h1
  exact ⟨fp, satL.append.mpr ⟨f1, f2, e, k1, f2, [], by simp, k2, rfl⟩, h2, h3⟩
theorem Sep.star1 {H : Hp} {L M : List (Asn G)} (h : Sep H (Ml.star L :: M)) : Sep H (L ++ M) := by
  obtain ⟨fp, ⟨f1, f2, e, h1, k⟩, h2, h3⟩ := h
  exact ⟨fp, satL.append.mpr ⟨f1, f2, e, h1, k⟩, h2, h3⟩
theorem Sep.unstar1 {H : Hp} {L M : List (Asn G)} (h : Sep H (L ++ M)) : Sep H (Ml.star L :: M) := by
  obtain ⟨fp, h1, h2, h3⟩ := h
  obtain ⟨f1, f2, e, k1, k2⟩ := satL.append.mp h1
  exact ⟨fp, ⟨f1, f2, e, k1, k2⟩, h2, h3⟩
theorem Sep.ex {α : Type} {f : α → Asn G} {H : Hp} {M : List (Asn G)} (h : Sep H (exA f :: M)) : ∃ x, Sep H (f x :: M) := by
  obtain ⟨fp, ⟨f1, f2, e, ⟨x, h1⟩, k⟩, h2, h3⟩ := h
  exact ⟨x, fp, ⟨f1, f2, e, h1, k⟩, h2, h3⟩
theorem Sep.exI {α : Type} {f : α → Asn G} {H : Hp} {M : List (Asn G)} (x : α) (h : Sep H (f x :: M)) : Sep H (exA f :: M) := by
  obtain ⟨fp, ⟨f1, f2, e, h1, k⟩, h2, h3⟩ := h
  exact ⟨fp, ⟨f1, f2, e, ⟨x, h1⟩, k⟩, h2, h3⟩
theorem Sep.and {p : Prop} {A : Asn G} {H : Hp} {M : List (Asn G)} (h : Sep H (andA p A :: M)) : p ∧ Sep H (A :: M) := by
  obtain ⟨fp, ⟨f1, f2, e, ⟨x, h1⟩, k⟩, h2, h3⟩ := h
  exact ⟨x, fp, ⟨f1, f2, e, h1, k⟩, h2, h3⟩
theorem Sep.andI {p : Prop} {A : Asn G} {H : Hp} {M : List (Asn G)} (x : p) (h : Sep H (A :: M)) : Sep H (andA p A :: M) := by
  obtain ⟨fp, ⟨f1, f2, e, h1, k⟩, h2, h3⟩ := h
  exact ⟨fp, ⟨f1, f2, e, ⟨x, h1⟩, k⟩, h2, h3⟩
/-- another view of the first one, over the same part -/
theorem Sep.view {A B : Asn G} {H : Hp} {M : List (Asn G)} (h : Sep H (A :: M)) (v : ∀ fp, A.sat H fp → B.sat H fp) : Sep H (B :: M) := by
  obtain ⟨fp, ⟨f1, f2, e, h1, k⟩, h2, h3⟩ := h
  exact ⟨fp, ⟨f1, f2, e, v f1 h1, k⟩, h2, h3⟩
theorem Sep.addFact {p : Hp → Prop} {st : ∀ H H', p H → Stab G H H' → p H'} {H : Hp} {M : List (Asn G)} (h : Sep H M) (x : p H) : Sep H (fact p st :: M) := by
  obtain ⟨fp, h1, h2, h3⟩ := h
  exact ⟨fp, ⟨[], fp, rfl, ⟨rfl, x⟩, h1⟩, h2, h3⟩
theorem Sep.getFact {p : Hp → Prop} {st : ∀ H H', p H → Stab G H H' → p H'} {H : Hp} {M : List (Asn G)} (h : Sep H M) {i : Nat} (e : M[i]? = some (fact p st)) : p H := by
  obtain ⟨fp, _, x⟩ := h.at e
  exact x
theorem Sep.getCell {H : Hp} {M : List (Asn G)} (h : Sep H M) {i : Nat} {a : Addr} {o : HO} (e : M[i]? = some (cell a o)) : H a = some o := by
  obtain ⟨fp, _, x⟩ := h.at e
  exact x
theorem same_new {H : Hp} {p : Addr} {o : HO} (h : H p = none) : Same H (upd H p o) := fun b u e => by
  rw [upd_ne (ne_of_none e h)]; exact e
/-- a new thing -/
theorem Sep.new {H : Hp} {M : List (Asn G)} (h : Sep H M) {p : Addr} {o : HO} (hp : H p = none) (n : per G o = false) : Sep (upd H p o) (cell p o :: M) := by
  have h' := h.more (same_new (o := o) hp)
  obtain ⟨fp, h1, h2, h3⟩ := h
  obtain ⟨_, k1, _, _⟩ := (⟨fp, h1, h2, h3⟩ : Sep H M)
  have q : satL (upd H p o) M fp := h1.loc (fun a m => by obtain ⟨u, e, _⟩ := h3 a m; exact upd_ne (ne_of_none e hp)) (.of_same (same_new hp))
  refine ⟨p :: fp, ⟨[p], fp, rfl, ⟨rfl, upd_same⟩, q⟩, List.nodup_cons.mpr ⟨fun m => ?_, h2⟩, fun a m => ?_⟩
  · obtain ⟨u, e, _⟩ := h3 p m
    rw [hp] at e; cases e
  · rcases List.mem_cons.mp m with rfl | m
    · exact ⟨o, upd_same, n⟩
    · obtain ⟨u, e, z⟩ := h3 a m
      exact ⟨u, by rw [upd_ne (ne_of_none e hp)]; exact e, z⟩
/-- a store at the first one's place -/
theorem Sep.put1 {H : Hp} {M : List (Asn G)} {a : Addr} {o o' : HO} (h : Sep H (cell a o :: M)) (n : per G o' = false) (kd : kindOf o' = kindOf o) : Sep (upd H a o') (cell a o' :: M) := by
  obtain ⟨fp, ⟨f1, f2, e, ⟨e1, ho⟩, k⟩, h2, h3⟩ := h
  subst e1; subst e
  have nd : ¬ a ∈ f2 := (List.nodup_cons.mp h2).1
  obtain ⟨u, hu, nu⟩ := h3 a (by simp)
  have st : Stab G H (upd H a o') := stab_put ho (by rw [hu] at ho; cases ho; exact nu) kd
  refine ⟨a :: f2, ⟨[a], f2, rfl, ⟨rfl, upd_same⟩, k.loc (fun b m => upd_ne fun z => nd (z ▸ m)) st⟩, h2, fun b m => ?_⟩
  rcases List.mem_cons.mp m with rfl | m
  · exact ⟨o', upd_same, n⟩
  · obtain ⟨x, hx, nx⟩ := h3 b (by simp [m])
    exact ⟨x, by rw [upd_ne (fun z => nd (by rw [← z]; exact m))]; exact hx, nx⟩
theorem Sep.put {H : Hp} {M : List (Asn G)} {i : Nat} {a : Addr} {o o' : HO} (h : Sep H M) (e : M[i]? = some (cell a o)) (n : per G o' = false) (kd : kindOf o' = kindOf o) : Sep (upd H a o') (M.set i (cell a o')) :=
  ((h.perm (pull_perm e)).put1 n kd).perm (set_perm e)
/-- another view of the i-th one -/
theorem Sep.viewAt {A B : Asn G} {H : Hp} {M : List (Asn G)} {i : Nat} (h : Sep H M) (e : M[i]? = some A) (v : ∀ fp, A.sat H fp → B.sat H fp) : Sep H (M.set i B) :=
  ((h.perm (pull_perm e)).view v).perm (set_perm e)
end Ml

namespace Ml
open PySem L2
/-! ### plain programs: what is reckoned, an error, or a bound that is not kept -/
structure Exc where
  cls : Nat
  row : Int
  deriving DecidableEq, Repr
inductive R (α : Type) where
  | ok (a : α) | exc (x : Exc) | bad
  deriving DecidableEq, Repr
namespace R
variable {α β σ ρ : Type}
def bind : R α → (α → R β) → R β
  | .ok a, f => f a
  | .exc x, _ => .exc x
  | .bad, _ => .bad
@[simp] theorem bind_ok (a : α) (f : α → R β) : (R.ok a).bind f = f a := rfl
@[simp] theorem bind_exc (x : Exc) (f : α → R β) : (R.exc x : R α).bind f = .exc x := rfl
@[simp] theorem bind_bad (f : α → R β) : (R.bad : R α).bind f = .bad := rfl
theorem bind_assoc {γ : Type} (m : R α) (f : α → R β) (g : β → R γ) : (m.bind f).bind g = m.bind fun x => (f x).bind g := by cases m <;> rfl
def need (p : Prop) [Decidable p] (k : R α) : R α := if p then k else .bad
@[simp] theorem need_pos {p : Prop} [Decidable p] (h : p) (k : R α) : need p k = k := if_pos h
/-- what holds of the answer, or of the error -/
def wp : R α → (α → Prop) → (Exc → Prop) → Prop
  | .ok a, q, _ => q a
  | .exc x, _, e => e x
  | .bad, _, _ => False
theorem wp_bind {m : R α} {f : α → R β} {q : β → Prop} {e : Exc → Prop} (h : wp (m.bind f) q e) : wp m (fun a => wp (f a) q e) e := by
  cases m <;> exact h
theorem wp_need {p : Prop} [Decidable p] {k : R α} {q : α → Prop} {e : Exc → Prop} (h : wp (need p k) q e) : p ∧ wp k q e := by
  unfold need at h
  by_cases c : p
  · rw [if_pos c] at h; exact ⟨c, h⟩
  · rw [if_neg c] at h; exact h.elim
theorem wp_mono {m : R α} {q q' : α → Prop} {e e' : Exc → Prop} (h : wp m q e) (hq : ∀ a, q a → q' a) (he : ∀ x, e x → e' x) : wp m q' e' := by
  cases m with
  | ok a => exact hq a h
  | exc x => exact he x h
  | bad => exact h
theorem wp_of {m : R α} {a : α} {q : α → Prop} {e : Exc → Prop} (h : m = .ok a) (k : q a) : wp m q e := by rw [h]; exact k
theorem wp_if {c : Prop} [Decidable c] {a b : R α} {q : α → Prop} {e : Exc → Prop} (h : wp (if c then a else b) q e) : (c → wp a q e) ∧ (¬ c → wp b q e) := by
  by_cases x : c
  · rw [if_pos x] at h; exact ⟨fun _ => h, fun n => absurd x n⟩
  · rw [if_neg x] at h; exact ⟨fun y => absurd y x, fun _ => h⟩
end R
/-- a turn's end: on with s, out of the loop with s, out of the def with r -/
inductive Fl (σ ρ : Type) where
  | go (s : σ) | brk (s : σ) | out (r : ρ)
  deriving DecidableEq, Repr
section
variable {α β σ ρ : Type}
def forR (f : σ → α → R σ) : List α → σ → R σ
  | [], s => .ok s
  | x :: xs, s => (f s x).bind fun s => forR f xs s
def forF (f : σ → α → R (Fl σ ρ)) : List α → σ → R (Fl σ ρ)
  | [], s => .ok (.go s)
  | x :: xs, s => (f s x).bind fun r => match r with
    | .go s => forF f xs s
    | .brk s => .ok (.go s)
    | .out r => .ok (.out r)
def whileR (c : σ → R Bool) (f : σ → R σ) : Nat → σ → R σ
  | 0, s => (c s).bind fun b => if b = true then .bad else .ok s
  | n + 1, s => (c s).bind fun b => if b = true then (f s).bind fun s => whileR c f n s else .ok s
def whileF (c : σ → R Bool) (f : σ → R (Fl σ ρ)) : Nat → σ → R (Fl σ ρ)
  | 0, s => (c s).bind fun b => if b = true then .bad else .ok (.go s)
  | n + 1, s => (c s).bind fun b => if b = true then (f s).bind fun r => (match r with
    | .go s => whileF c f n s
    | .brk s => .ok (.go s)
    | .out r => .ok (.out r)) else .ok (.go s)
/-- a comprehension: what each item gives, the state carried -/
def compR (f : σ → α → R (σ × Option β)) : List α → σ → R (σ × List β)
  | [], s => .ok (s, [])
  | x :: xs, s => (f s x).bind fun r => (compR f xs r.1).bind fun t => .ok (t.1, match r.2 with
    | some y => y :: t.2
    | none => t.2)
end

/-! ### values -/
class Im (G : Gx) (α : Type) where
  im : Hp → V → α → Prop
  st : ∀ {H H' : Hp} {v : V} {x : α}, im H v x → Stab G H H' → im H' v x
class Fv (G : Gx) (α : Type) extends Im G α where
  enc : α → V
  im_iff : ∀ {H : Hp} {v : V} {x : α}, im H v x ↔ v = enc x
variable {G : Gx}
instance imInt : Im G Int := ⟨fun _ v x => v = .int x, fun h _ => h⟩
instance imBool : Im G Bool := ⟨fun _ v x => v = .bl x, fun h _ => h⟩
instance imStr : Im G Str := ⟨fun _ v x => v = .str x, fun h _ => h⟩
instance imUnit : Im G Unit := ⟨fun _ v _ => v = .non, fun h _ => h⟩
instance fInt : Fv G Int := { enc := .int, im_iff := .rfl }
instance fBool : Fv G Bool := { enc := .bl, im_iff := .rfl }
instance fStr : Fv G Str := { enc := .str, im_iff := .rfl }
instance fUnit : Fv G Unit := { enc := fun _ => .non, im_iff := .rfl }
/-- the script -/
structure Script where
  ns : List Int
instance : Im G Script := ⟨fun H v x => ∃ a, v = .ref a ∧ ((∃ o, H a = some (.frz o (.lst (x.ns.map V.int)))) ∨ ∃ o its n, List.lookup a G.K = some o ∧ o.cls = Value.type "list" ∧ o.dict = none ∧ o.data = Data.seq its n ∧ its.size ≤ sizeLine ∧ Vals (x.ns.map V.int) its.toList),
  fun ⟨a, e, h⟩ s => ⟨a, e, h.imp (fun ⟨o, h⟩ => ⟨o, s.1 a _ h rfl⟩) id⟩⟩
theorem im_script {H : Hp} {v : V} {x : Script} (h : Im.im G H v x) : ∃ a, v = .ref a ∧ SqL G.K H a (x.ns.map V.int) := by
  obtain ⟨a, e, h⟩ := h
  refine ⟨a, e, ?_⟩
  rcases h with ⟨o, h⟩ | h
  · exact .inl (.inr ⟨o, h⟩)
  · exact .inr h
theorem sq_script {H : Hp} {a : Addr} {x : Script} (h : Im.im G H (.ref a) x) : SqL G.K H a (x.ns.map V.int) := by
  obtain ⟨b, e, h⟩ := im_script h
  cases e; exact h
def imL {α : Type} [Im G α] (H : Hp) : List V → List α → Prop
  | [], [] => True
  | v :: vs, x :: xs => Im.im G H v x ∧ imL H vs xs
  | _, _ => False
section
variable {α : Type} [Im G α] {H H' : Hp}
theorem imL.st : ∀ {vs : List V} {xs : List α}, imL (G := G) H vs xs → Stab G H H' → imL (G := G) H' vs xs
  | [], [], _, _ => True.intro
  | v :: vs, x :: xs, h, s => ⟨Im.st h.1 s, imL.st h.2 s⟩
  | [], _ :: _, h, _ => h
  | _ :: _, [], h, _ => h
theorem imL.len : ∀ {vs : List V} {xs : List α}, imL (G := G) H vs xs → vs.length = xs.length
  | [], [], _ => rfl
  | v :: vs, x :: xs, h => by rw [List.length_cons, List.length_cons, imL.len h.2]
  | [], _ :: _, h => h.elim
  | _ :: _, [], h => h.elim
theorem imL.app : ∀ {vs ws : List V} {xs ys : List α}, imL (G := G) H vs xs → imL (G := G) H ws ys → imL (G := G) H (vs ++ ws) (xs ++ ys)
  | [], _, [], _, _, h => h
  | v :: vs, _, x :: xs, _, h, k => ⟨h.1, imL.app h.2 k⟩
  | [], _, _ :: _, _, h, _ => h.elim
  | _ :: _, _, [], _, h, _ => h.elim
theorem imL.get : ∀ {vs : List V} {xs : List α} {i : Nat} {x : α}, imL (G := G) H vs xs → xs[i]? = some x → ∃ v, vs[i]? = some v ∧ Im.im G H v x
  | [], [], _, _, _, e => by simp at e
  | v :: vs, x :: xs, 0, y, h, e => by
    have : x = y := Option.some.inj e
    subst this
    exact ⟨v, rfl, h.1⟩
  | v :: vs, x :: xs, i + 1, y, h, e => by
    obtain ⟨u, h1, h2⟩ := imL.get (i := i) (x := y) h.2 (by simpa using e)
    exact ⟨u, by simpa using h1, h2⟩
  | [], _ :: _, _, _, h, _ => h.elim
  | _ :: _, [], _, _, h, _ => h.elim
theorem imL.getV : ∀ {vs : List V} {xs : List α} {i : Nat} {v : V}, imL (G := G) H vs xs → vs[i]? = some v → ∃ x, xs[i]? = some x ∧ Im.im G H v x
  | [], [], _, _, _, e => by simp at e
  | v :: vs, x :: xs, 0, y, h, e => by
    have : v = y := Option.some.inj e
    subst this
    exact ⟨x, rfl, h.1⟩
  | v :: vs, x :: xs, i + 1, y, h, e => by
    obtain ⟨u, h1, h2⟩ := imL.getV (i := i) (v := y) h.2 (by simpa using e)
    exact ⟨u, by simpa using h1, h2⟩
  | [], _ :: _, _, _, h, _ => h.elim
  | _ :: _, [], _, _, h, _ => h.elim
theorem imL.set : ∀ {vs : List V} {xs : List α} {i : Nat} {x : α} {v : V}, imL (G := G) H vs xs → Im.im G H v x → imL (G := G) H (vs.set i v) (xs.set i x)
  | [], [], _, _, _, _, _ => True.intro
  | v :: vs, x :: xs, 0, y, u, h, k => ⟨k, h.2⟩
  | v :: vs, x :: xs, i + 1, y, u, h, k => ⟨h.1, imL.set h.2 k⟩
  | [], _ :: _, _, _, _, h, _ => h.elim
  | _ :: _, [], _, _, _, h, _ => h.elim
theorem imL.take : ∀ {vs : List V} {xs : List α} (n : Nat), imL (G := G) H vs xs → imL (G := G) H (vs.take n) (xs.take n)
  | [], [], n, _ => by simp [imL]
  | v :: vs, x :: xs, 0, h => True.intro
  | v :: vs, x :: xs, n + 1, h => ⟨h.1, imL.take n h.2⟩
  | [], _ :: _, _, h => h.elim
  | _ :: _, [], _, h => h.elim
theorem imL.drop : ∀ {vs : List V} {xs : List α} (n : Nat), imL (G := G) H vs xs → imL (G := G) H (vs.drop n) (xs.drop n)
  | [], [], n, _ => by simp [imL]
  | v :: vs, x :: xs, 0, h => h
  | v :: vs, x :: xs, n + 1, h => imL.drop n h.2
  | [], _ :: _, _, h => h.elim
  | _ :: _, [], _, h => h.elim
end
section
variable {α : Type} [Fv G α] {H H' : Hp}
theorem imL.flat : ∀ {vs : List V} {xs : List α}, imL (G := G) H vs xs ↔ vs = xs.map (Fv.enc G)
  | [], [] => ⟨fun _ => rfl, fun _ => True.intro⟩
  | v :: vs, x :: xs => by
    show (Im.im G H v x ∧ imL (G := G) H vs xs) ↔ _
    rw [Fv.im_iff, imL.flat]
    simp
  | [], _ :: _ => by simp [imL]
  | _ :: _, [] => by simp [imL]
end

/-! ### lists that one owns -/
section
variable {α : Type} [Im G α]
def lstA (a : Addr) (xs : List α) : Asn G := ⟨fun H fp => fp = [a] ∧ ∃ vs, H a = some (.lst vs) ∧ imL (G := G) H vs xs,
  fun H H' fp ⟨e, vs, h, m⟩ k s => ⟨e, vs, by rw [k a (by rw [e]; simp)]; exact h, m.st s⟩⟩
/-- a value's fact -/
def imA (v : V) (x : α) : Asn G := fact (fun H => Im.im G H v x) fun H H' h s => Im.st h s
variable {H : Hp} {L : List (Asn G)}
theorem Sep.lst (h : Sep H L) {i : Nat} {a : Addr} {xs : List α} (e : L[i]? = some (lstA a xs)) : ∃ vs, H a = some (.lst vs) ∧ imL (G := G) H vs xs := by
  obtain ⟨fp, _, x⟩ := h.at e
  exact x
theorem Sep.im (h : Sep H L) {i : Nat} {v : V} {x : α} (e : L[i]? = some (imA v x)) : Im.im G H v x := h.getFact e
theorem Sep.addIm (h : Sep H L) {v : V} {x : α} (e : Im.im G H v x) : Sep H (imA v x :: L) := h.addFact e
/-- the list's own cell, and back -/
theorem Sep.openL (h : Sep H L) {i : Nat} {a : Addr} {xs : List α} (e : L[i]? = some (lstA a xs)) : ∃ vs, imL (G := G) H vs xs ∧ Sep H (L.set i (cell a (.lst vs))) := by
  obtain ⟨vs, e1, m⟩ := h.lst e
  exact ⟨vs, m, h.viewAt e fun fp ⟨q, _⟩ => ⟨q, e1⟩⟩
theorem Sep.closeL {i : Nat} {a : Addr} {vs : List V} {xs : List α} (h : Sep H L) (e : L[i]? = some (cell a (.lst vs))) (m : imL (G := G) H vs xs) : Sep H (L.set i (lstA a xs)) :=
  h.viewAt e fun fp ⟨q, r⟩ => ⟨q, vs, r, m⟩
theorem Sep.newL (h : Sep H L) {p : Addr} {vs : List V} {xs : List α} (hp : H p = none) (m : imL (G := G) H vs xs) : Sep (upd H p (.lst vs)) (lstA p xs :: L) :=
  (h.new (o := .lst vs) hp rfl).view fun fp ⟨q, r⟩ => ⟨q, vs, r, m.st (.of_same (same_new hp))⟩
theorem set_set {β : Type} {l : List β} {i : Nat} {x y : β} : (l.set i x).set i y = l.set i y := by simp
theorem get_set {β : Type} {l : List β} {i : Nat} {x y : β} (h : l[i]? = some x) : (l.set i y)[i]? = some y := by
  have : i < l.length := by
    have := List.getElem?_eq_some_iff.mp h
    exact this.1
  simp [this]
theorem Sep.putL (h : Sep H L) {i : Nat} {a : Addr} {xs ys : List α} {vs : List V} (e : L[i]? = some (lstA a xs)) (m : imL (G := G) H vs ys) : Sep (upd H a (.lst vs)) (L.set i (lstA a ys)) := by
  obtain ⟨us, mu, h1⟩ := h.openL e
  have e1 := get_set (y := cell (G := G) a (.lst us)) e
  have h2 := h1.put (o' := .lst vs) e1 rfl rfl
  rw [set_set] at h2
  have st : Stab G H (upd H a (.lst vs)) := stab_put (h1.getCell e1) rfl rfl
  have h3 := h2.closeL (get_set e) (m.st st)
  rw [set_set] at h3
  exact h3
end
end Ml

namespace Ml
open PySem L2
variable {G : Gx}
/-! ### what an expression comes to where nothing is made -/
def Ev (te : TE) (σ : St) (H : Hp) (v : V) : Prop := ∀ Q : VK, Q v H → te σ H Q
def Et (t : TT) (σ : St) (H : Hp) (b : Bool) : Prop := ∀ Q : Bool → Hp → Prop, Q b H → t σ H Q
def Ea (t : TA) (σ : St) (H : Hp) (vs : List V) : Prop := ∀ Q : List V → Hp → Prop, Q vs H → t σ H Q
def Eo (t : TO) (σ : St) (H : Hp) (o : Option Int) : Prop := ∀ Q : Option Int → Hp → Prop, Q o H → t σ H Q
section
variable {σ : St} {H : Hp} {ta tb tc te : TE} {t u : TT} {x y v : V} {i j : Int} {a b : Bool} {s z : Str} {vs : List V}
theorem ev_var {k : Nat} (h : σ[k]? = some (some v)) : Ev (tVar k) σ H v := fun _ q => ⟨v, h, q⟩
theorem ev_c : Ev (tC v) σ H v := fun _ q => q
theorem ev_op {r : R2} (ha : Ev ta σ H x) (hb : Ev tb σ H y) (hr : ∀ Q : VK, Q v H → r x y H Q) : Ev (tOp r ta tb) σ H v := fun Q q => ha _ (hb _ (hr _ q))
theorem ev_un {r : V → Hp → VK → Prop} (ha : Ev ta σ H x) (hr : ∀ Q : VK, Q v H → r x H Q) : Ev (tUn r ta) σ H v := fun Q q => ha _ (hr _ q)
theorem r_I0 {g : Int → Int → V} (Q : VK) (q : Q (g i j) H) : rI0 g (.int i) (.int j) H Q := ⟨i, j, rfl, rfl, q⟩
theorem r_I {C : Int → Int → Prop} {g : Int → Int → V} (c : C i j) (Q : VK) (q : Q (g i j) H) : rI C g (.int i) (.int j) H Q := ⟨i, j, rfl, rfl, c, q⟩
theorem ev_i0 {g : Int → Int → V} (ha : Ev ta σ H (.int i)) (hb : Ev tb σ H (.int j)) : Ev (tOp (rI0 g) ta tb) σ H (g i j) := ev_op ha hb fun Q q => r_I0 Q q
theorem ev_i {C : Int → Int → Prop} {g : Int → Int → V} (ha : Ev ta σ H (.int i)) (hb : Ev tb σ H (.int j)) (c : C i j) : Ev (tOp (rI C g) ta tb) σ H (g i j) := ev_op ha hb fun Q q => r_I c Q q
theorem ev_mul (ha : Ev ta σ H (.int i)) (hb : Ev tb σ H (.int j)) (c : CMul i j) : Ev (tOp (rI CMul fun i j => .int (i * j)) ta tb) σ H (.int (i * j)) := ev_i ha hb c
theorem ev_fdiv (ha : Ev ta σ H (.int i)) (hb : Ev tb σ H (.int j)) (c : 0 < j ∧ j < 1073741824) : Ev (tOp (rI CDiv fun i j => .int (i / j)) ta tb) σ H (.int (i / j)) := ev_i ha hb c
theorem ev_mod (ha : Ev ta σ H (.int i)) (hb : Ev tb σ H (.int j)) (c : 0 < j) : Ev (tOp (rI (fun _ j => 0 < j) fun i j => .int (i % j)) ta tb) σ H (.int (i % j)) := ev_i ha hb c
theorem ev_add (ha : Ev ta σ H (.int i)) (hb : Ev tb σ H (.int j)) : Ev (tOp (rI0 fun i j => .int (i + j)) ta tb) σ H (.int (i + j)) := ev_i0 ha hb
theorem ev_sub (ha : Ev ta σ H (.int i)) (hb : Ev tb σ H (.int j)) : Ev (tOp (rI0 fun i j => .int (i - j)) ta tb) σ H (.int (i - j)) := ev_i0 ha hb
theorem r_eqI (Q : VK) (q : Q (.bl (decide (i = j))) H) : rEq (.int i) (.int j) H Q := ⟨rfl, by
  have : decide (V.int i = V.int j) = decide (i = j) := by simp
  rw [this]; exact q⟩
theorem r_neI (Q : VK) (q : Q (.bl (!decide (i = j))) H) : rNe (.int i) (.int j) H Q := ⟨rfl, by
  have : decide (V.int i = V.int j) = decide (i = j) := by simp
  rw [this]; exact q⟩
theorem r_eqS (Q : VK) (q : Q (.bl (decide (s = z))) H) : rEq (.str s) (.str z) H Q := ⟨rfl, by
  have : decide (V.str s = V.str z) = decide (s = z) := by simp
  rw [this]; exact q⟩
theorem r_neS (Q : VK) (q : Q (.bl (!decide (s = z))) H) : rNe (.str s) (.str z) H Q := ⟨rfl, by
  have : decide (V.str s = V.str z) = decide (s = z) := by simp
  rw [this]; exact q⟩
theorem r_eqB (Q : VK) (q : Q (.bl (decide (a = b))) H) : rEq (.bl a) (.bl b) H Q := ⟨rfl, by
  have : decide (V.bl a = V.bl b) = decide (a = b) := by simp
  rw [this]; exact q⟩
theorem r_neB (Q : VK) (q : Q (.bl (!decide (a = b))) H) : rNe (.bl a) (.bl b) H Q := ⟨rfl, by
  have : decide (V.bl a = V.bl b) = decide (a = b) := by simp
  rw [this]; exact q⟩
theorem ev_eqI (ha : Ev ta σ H (.int i)) (hb : Ev tb σ H (.int j)) : Ev (tOp rEq ta tb) σ H (.bl (decide (i = j))) := ev_op ha hb fun Q q => r_eqI Q q
theorem ev_neI (ha : Ev ta σ H (.int i)) (hb : Ev tb σ H (.int j)) : Ev (tOp rNe ta tb) σ H (.bl (!decide (i = j))) := ev_op ha hb fun Q q => r_neI Q q
theorem ev_eqS (ha : Ev ta σ H (.str s)) (hb : Ev tb σ H (.str z)) : Ev (tOp rEq ta tb) σ H (.bl (decide (s = z))) := ev_op ha hb fun Q q => r_eqS Q q
theorem ev_neS (ha : Ev ta σ H (.str s)) (hb : Ev tb σ H (.str z)) : Ev (tOp rNe ta tb) σ H (.bl (!decide (s = z))) := ev_op ha hb fun Q q => r_neS Q q
theorem ev_eqB (ha : Ev ta σ H (.bl a)) (hb : Ev tb σ H (.bl b)) : Ev (tOp rEq ta tb) σ H (.bl (decide (a = b))) := ev_op ha hb fun Q q => r_eqB Q q
theorem ev_neB (ha : Ev ta σ H (.bl a)) (hb : Ev tb σ H (.bl b)) : Ev (tOp rNe ta tb) σ H (.bl (!decide (a = b))) := ev_op ha hb fun Q q => r_neB Q q
def rCatS : R2 := fun x y H Q => ∃ i j, x = .str i ∧ y = .str j ∧ i.length + j.length ≤ sizeLine ∧ Q (.str (i ++ j)) H
theorem op_catS {X : Cx} : OpR X (binaryOp .Add) rCatS := op_add_str
theorem r_catS (c : s.length + z.length ≤ sizeLine) (Q : VK) (q : Q (.str (s ++ z)) H) : rCatS (.str s) (.str z) H Q := ⟨s, z, rfl, rfl, c, q⟩
theorem ev_catS (ha : Ev ta σ H (.str s)) (hb : Ev tb σ H (.str z)) (c : s.length + z.length ≤ sizeLine) : Ev (tOp rCatS ta tb) σ H (.str (s ++ z)) := ev_op ha hb fun Q q => r_catS c Q q
/-- a sign in a written text -/
def rInSg : R2 := fun x y H Q => ∃ (c : Nat) (z : Str), x = .str ⟨#[c]⟩ ∧ y = .str z ∧ Q (.bl (decide (c ∈ z.cps.toList))) H
def rNiSg : R2 := fun x y H Q => ∃ (c : Nat) (z : Str), x = .str ⟨#[c]⟩ ∧ y = .str z ∧ Q (.bl (!decide (c ∈ z.cps.toList))) H
theorem op_inSg {X : Cx} : OpR X (compareOp .In) rInSg := op_in_sign
theorem op_niSg {X : Cx} : OpR X (compareOp .NotIn) rNiSg := op_notIn_sign
theorem ev_inSg {c : Nat} (ha : Ev ta σ H (.str ⟨#[c]⟩)) (hb : Ev tb σ H (.str z)) : Ev (tOp rInSg ta tb) σ H (.bl (decide (c ∈ z.cps.toList))) := ev_op ha hb fun Q q => ⟨c, z, rfl, rfl, q⟩
theorem ev_niSg {c : Nat} (ha : Ev ta σ H (.str ⟨#[c]⟩)) (hb : Ev tb σ H (.str z)) : Ev (tOp rNiSg ta tb) σ H (.bl (!decide (c ∈ z.cps.toList))) := ev_op ha hb fun Q q => ⟨c, z, rfl, rfl, q⟩
/-! tests -/
theorem et_test (h : Ev te σ H (.bl b)) : Et (tTest te) σ H b := fun _ q => h _ ⟨b, rfl, q⟩
theorem et_B (h : Ev te σ H (.bl b)) : Et (tB te) σ H b := fun _ q => h _ ⟨b, rfl, q⟩
theorem et_not (h : Et t σ H a) : Et (tNot t) σ H (!a) := fun _ q => h _ q
theorem et_and (h1 : Et t σ H a) (h2 : a = true → Et u σ H b) : Et (tAnd t u) σ H (a && b) := fun Q q => h1 _ (by
  cases a with
  | true => exact h2 rfl _ q
  | false => exact q)
theorem et_or (h1 : Et t σ H a) (h2 : a = false → Et u σ H b) : Et (tOr t u) σ H (a || b) := fun Q q => h1 _ (by
  cases a with
  | true => exact q
  | false => exact h2 rfl _ q)
theorem ev_andV (h1 : Ev ta σ H (.bl a)) (h2 : a = true → Ev tb σ H (.bl b)) : Ev (tAndV ta tb) σ H (.bl (a && b)) := fun Q q => h1 _ ⟨a, rfl, by
  cases a with
  | true => exact h2 rfl _ q
  | false => exact q⟩
theorem ev_orV (h1 : Ev ta σ H (.bl a)) (h2 : a = false → Ev tb σ H (.bl b)) : Ev (tOrV ta tb) σ H (.bl (a || b)) := fun Q q => h1 _ ⟨a, rfl, by
  cases a with
  | true => exact q
  | false => exact h2 rfl _ q⟩
theorem ev_notV (h1 : Ev ta σ H (.bl a)) : Ev (tNotV ta) σ H (.bl (!a)) := fun _ q => h1 _ ⟨a, rfl, q⟩
theorem ev_chainB {r r' : R2} (ha : Ev ta σ H x) (hb : Ev tb σ H y) (hc : a = true → Ev tc σ H v) (h1 : ∀ Q : VK, Q (.bl a) H → r x y H Q) (h2 : a = true → ∀ Q : VK, Q (.bl b) H → r' y v H Q) :
    Ev (tChain r r' ta tb tc) σ H (.bl (a && b)) := fun Q q => ha _ (hb _ (h1 _ ⟨a, rfl, by
  cases a with
  | true => exact hc rfl _ (h2 rfl _ q)
  | false => exact q⟩))
/-! arguments -/
theorem ea_nil : Ea tNil σ H [] := fun _ q => q
theorem ea_cons {tr : TA} (h : Ev ta σ H x) (hr : Ea tr σ H vs) : Ea (tCons ta tr) σ H (x :: vs) := fun _ q => h _ (hr _ q)
theorem eo_no : Eo tNoPart σ H none := fun _ q => q
theorem eo_some (h : Ev te σ H (.int i)) : Eo (tPart te) σ H (some i) := fun _ q => h _ ⟨i, rfl, q⟩
theorem ev_cb {r : List V → Hp → VK → Prop} {tr : TA} (h : Ea tr σ H vs) (hr : ∀ Q : VK, Q v H → r vs H Q) : Ev (tCB r tr) σ H v := fun Q q => h _ (hr _ q)
/-! lists read -/
variable {K : PySem.W.Frag} {α : Type}
theorem ev_ixSq {p : Addr} {ws : List V} (ha : Ev ta σ H (.ref p)) (hb : Ev tb σ H (.int i)) (hs : SqL K H p ws) (e : atI ws i = some v) : Ev (tOp (rIxL K) ta tb) σ H v := ev_op ha hb fun _ q => ⟨p, ws, i, v, rfl, rfl, hs, e, q⟩
theorem ev_ixS {c : Nat} (ha : Ev ta σ H (.str z)) (hb : Ev tb σ H (.int i)) (hl : z.length ≤ sizeLine) (e : atI z.cps.toList i = some c) : Ev (tOp rIxS ta tb) σ H (.str ⟨#[c]⟩) := ev_op ha hb fun _ q => ⟨z, i, c, rfl, rfl, hl, e, q⟩
theorem ev_slS {tl th : TO} {l h : Option Int} (ha : Ev ta σ H (.str z)) (h1 : Eo tl σ H l) (h2 : Eo th σ H h) (hl : z.length ≤ sizeLine) : Ev (tSl rSlS ta tl th) σ H (.str (cutS z l h)) := fun _ q => ha _ (h1 _ (h2 _ ⟨z, rfl, hl, q⟩))
def rLenSq (K : PySem.W.Frag) : List V → Hp → VK → Prop := fun xs H Q => ∃ p ys, xs = [.ref p] ∧ (SqL K H p ys ∨ SqT K H p ys) ∧ Q (.int ys.length) H
theorem call_lenSq {X : Cx} : CallR X (.builtin "len") (rLenSq X.K) := call_len_seq
def rLenS : List V → Hp → VK → Prop := fun xs H Q => ∃ z, xs = [.str z] ∧ z.length ≤ sizeLine ∧ Q (.int z.length) H
theorem call_lenS {X : Cx} : CallR X (.builtin "len") rLenS := call_len_str
theorem ev_lenL {p : Addr} {ws : List V} (ha : Ev ta σ H (.ref p)) (hs : SqL K H p ws) : Ev (tCB (rLenSq K) (tCons ta tNil)) σ H (.int ws.length) := ev_cb (ea_cons ha ea_nil) fun _ q => ⟨p, ws, rfl, .inl hs, q⟩
theorem ev_lenS (ha : Ev ta σ H (.str z)) (hl : z.length ≤ sizeLine) : Ev (tCB rLenS (tCons ta tNil)) σ H (.int z.length) := ev_cb (ea_cons ha ea_nil) fun _ q => ⟨z, rfl, hl, q⟩
end
/-! ### statements -/
section
variable {σ σ' : St} {H : Hp} {te : TE} {t : TT} {D : Ends} {t1 t2 tb : TS} {v : V} {b : Bool}
theorem st_seq (h : t1 { D with nx := t2 D } σ H) : tSeq t1 t2 D σ H := h
theorem st_set {i : Nat} (h : Ev te σ H v) (e : σ.set i (some v) = σ') (k : D.nx σ' H) : tAsg te (gName i) D σ H := h _ (by subst e; exact k)
theorem st_ret (h : Ev te σ H v) (k : D.rt v H) : tRet te D σ H := h _ k
theorem st_drop (h : Ev te σ H v) (k : D.nx σ H) : tDrop te D σ H := h _ k
theorem st_if (h : Et t σ H b) (h1 : b = true → t1 D σ H) (h2 : b = false → t2 D σ H) : tIfS t t1 t2 D σ H := h _ (by
  cases b with
  | true => exact h1 rfl
  | false => exact h2 rfl)
theorem ev_to (h : Ev te σ H v) {Q : VK} (q : Q v H) : te σ H Q := h Q q
theorem ea_to {t : TA} {vs : List V} (h : Ea t σ H vs) {Q : List V → Hp → Prop} (q : Q vs H) : t σ H Q := h Q q
theorem eo_to {t : TO} {o : Option Int} (h : Eo t σ H o) {Q : Option Int → Hp → Prop} (q : Q o H) : t σ H Q := h Q q
theorem et_to (h : Et t σ H b) {Q : Bool → Hp → Prop} (q : Q b H) : t σ H Q := h Q q
end

/-! ### loops -/
section
variable {α β τ ρ : Type} {H : Hp} {σ : St} {D : Ends} {tb : TS} {g : TG} {K : PySem.W.Frag}
/-- a walk J over the items xs: at turn i it yields a v of which the i-th item holds -/
structure Wk (J : It) (I : St → Hp → Prop) (im : Hp → V → α → Prop) (xs : List α) : Prop where
  go : ∀ i σ H, I σ H → i < xs.length → J.go i H
  yl : ∀ i σ H v H' x, I σ H → xs[i]? = some x → J.yld i H v H' → I σ H' ∧ im H' v x
  sp : ∀ σ H, I σ H → J.stop xs.length H
/-- for .. in ..: the state s : τ, I s its place in slots and heap; each turn reckons f -/
theorem for_walk {J : It} {I : τ → St → Hp → Prop} {im : Hp → V → α → Prop} {xs : List α} {f : τ → α → R τ} {k : τ → Prop} {e : Exc → Prop} {s : τ}
    (w : ∀ s, Wk J (I s) im xs) (h0 : I s σ H) (hm : R.wp (forR f xs s) k e)
    (turn : ∀ (s : τ) (x : α) (v : V) (σ : St) (H : Hp) (q : τ → Prop) (N : St → Hp → Prop), I s σ H → im H v x → R.wp (f s x) q e → (∀ s' σ' H', q s' → I s' σ' H' → N σ' H') → g v σ H fun σ2 H2 => tb { D with nx := N, ct := N, bk := D.nx } σ2 H2)
    (done : ∀ s σ H, k s → I s σ H → D.nx σ H) :
    ∃ W : Nat → Nat → St → Hp → Prop, (∃ m, W 0 m σ H) ∧ ∀ i m σ H, W i m σ H →
      (J.stop i H ∧ D.nx σ H) ∨ (J.go i H ∧ ∃ N : St → Hp → Prop, (∀ σ' H', N σ' H' → ∃ m', m' < m ∧ W (i + 1) m' σ' H') ∧ ∀ x H', J.yld i H x H' → g x σ H' fun σ2 H2 => tb { D with nx := N, ct := N, bk := D.nx } σ2 H2) := by
  refine ⟨fun i m σ H => m = xs.length - i ∧ i ≤ xs.length ∧ ∃ s, I s σ H ∧ R.wp (forR f (xs.drop i) s) k e, ⟨xs.length, by simp, Nat.zero_le _, s, h0, by simpa using hm⟩, ?_⟩
  rintro i m σ H ⟨rfl, hi, s, hI, hw⟩
  by_cases c : i < xs.length
  · have ed : xs.drop i = xs[i] :: xs.drop (i + 1) := List.drop_eq_getElem_cons c
    rw [ed] at hw
    refine .inr ⟨(w s).go i σ H hI c, fun σ' H' => ∃ s', I s' σ' H' ∧ R.wp (forR f (xs.drop (i + 1)) s') k e, fun σ' H' ⟨s', h1, h2⟩ => ⟨xs.length - (i + 1), by omega, rfl, c, s', h1, h2⟩, fun v H' y => ?_⟩
    obtain ⟨hI', hv⟩ := (w s).yl i σ H v H' xs[i] hI (List.getElem?_eq_getElem c) y
    exact turn s xs[i] v σ H' _ _ hI' hv (R.wp_bind hw) fun s' σ' H'' q hI'' => ⟨s', hI'', q⟩
  · have ei : i = xs.length := by omega
    subst ei
    rw [List.drop_length] at hw
    exact .inl ⟨(w s).sp σ H hI, done s σ H hw hI⟩
/-- .. whose turns may leave it -/
theorem for_walkF {J : It} {I : τ → St → Hp → Prop} {im : Hp → V → α → Prop} {xs : List α} {f : τ → α → R (Fl τ ρ)} {k : Fl τ ρ → Prop} {e : Exc → Prop} {s : τ}
    (w : ∀ s, Wk J (I s) im xs) (h0 : I s σ H) (hm : R.wp (forF f xs s) k e)
    (turn : ∀ (s : τ) (x : α) (v : V) (σ : St) (H : Hp) (q : Fl τ ρ → Prop) (N B : St → Hp → Prop), I s σ H → im H v x → R.wp (f s x) q e → (∀ s' σ' H', q (.go s') → I s' σ' H' → N σ' H') → (∀ s' σ' H', q (.brk s') → I s' σ' H' → B σ' H') → (∀ r, q (.out r) → k (.out r)) →
      g v σ H fun σ2 H2 => tb { D with nx := N, ct := N, bk := B } σ2 H2)
    (done : ∀ s σ H, k (.go s) → I s σ H → D.nx σ H) :
    ∃ W : Nat → Nat → St → Hp → Prop, (∃ m, W 0 m σ H) ∧ ∀ i m σ H, W i m σ H →
      (J.stop i H ∧ D.nx σ H) ∨ (J.go i H ∧ ∃ N : St → Hp → Prop, (∀ σ' H', N σ' H' → ∃ m', m' < m ∧ W (i + 1) m' σ' H') ∧ ∀ x H', J.yld i H x H' → g x σ H' fun σ2 H2 => tb { D with nx := N, ct := N, bk := D.nx } σ2 H2) := by
  refine ⟨fun i m σ H => m = xs.length - i ∧ i ≤ xs.length ∧ ∃ s, I s σ H ∧ R.wp (forF f (xs.drop i) s) k e, ⟨xs.length, by simp, Nat.zero_le _, s, h0, by simpa using hm⟩, ?_⟩
  rintro i m σ H ⟨rfl, hi, s, hI, hw⟩
  by_cases c : i < xs.length
  · have ed : xs.drop i = xs[i] :: xs.drop (i + 1) := List.drop_eq_getElem_cons c
    rw [ed] at hw
    refine .inr ⟨(w s).go i σ H hI c, fun σ' H' => ∃ s', I s' σ' H' ∧ R.wp (forF f (xs.drop (i + 1)) s') k e, fun σ' H' ⟨s', h1, h2⟩ => ⟨xs.length - (i + 1), by omega, rfl, c, s', h1, h2⟩, fun v H' y => ?_⟩
    obtain ⟨hI', hv⟩ := (w s).yl i σ H v H' xs[i] hI (List.getElem?_eq_getElem c) y
    have hw' := R.wp_bind hw
    exact turn s xs[i] v σ H' _ _ _ hI' hv hw' (fun s' σ' H'' q hI'' => ⟨s', hI'', q⟩) (fun s' σ' H'' q hI'' => done s' σ' H'' q hI'') fun r q => q
  · have ei : i = xs.length := by omega
    subst ei
    rw [List.drop_length] at hw
    exact .inl ⟨(w s).sp σ H hI, done s σ H hw hI⟩
/-- a comprehension -/
theorem lc_walk {J : It} {I : Addr → τ → List β → Hp → Prop} {im : Hp → V → α → Prop} [Im G β] {xs : List α} {f : τ → α → R (τ × Option β)} {k : τ × List β → Prop} {e : Exc → Prop} {s : τ} {tt : TT} {te : TE} {vs : List Nat} {Q : VK} {Dr : Addr}
    (w : ∀ s ys, Wk J (fun _ H => I Dr s ys H) im xs) (h0 : I Dr s [] (upd H Dr (.lst []))) (hm : R.wp (compR f xs s) k e) (hl : xs.length ≤ sizeLine)
    (turn : ∀ (s : τ) (ys : List β) (x : α) (v : V) (H : Hp) (q : τ × Option β → Prop) (Nx : Hp → Prop), I Dr s ys H → im H v x → R.wp (f s x) q e → ys.length < sizeLine →
      (∀ s' y u H', q (s', some y) → Im.im G H' u y → I Dr s' ys H' → ∃ acc, H' Dr = some (.lst acc) ∧ acc.length < sizeLine ∧ Nx (upd H' Dr (.lst (acc ++ [u])))) → (∀ s' H', q (s', none) → I Dr s' ys H' → Nx H') →
      g v (wipe σ vs) H fun σ2 H2 => wipe σ2 vs = wipe σ vs ∧ tt σ2 H2 fun b H3 => if b = true then te σ2 H3 fun y H4 => ∃ acc, H4 Dr = some (.lst acc) ∧ acc.length < sizeLine ∧ Nx (upd H4 Dr (.lst (acc ++ [y]))) else Nx H3)
    (app : ∀ s ys y u H, I Dr s ys H → Im.im G H u y → ∃ acc, H Dr = some (.lst acc) ∧ acc.length = ys.length ∧ I Dr s (ys ++ [y]) (upd H Dr (.lst (acc ++ [u]))))
    (done : ∀ s ys H, k (s, ys) → I Dr s ys H → Q (.ref Dr) H) :
    ∃ W : Nat → Nat → Hp → Prop, (∃ m, W 0 m (upd H Dr (.lst []))) ∧ ∀ i m H, W i m H →
      (J.stop i H ∧ Q (.ref Dr) H) ∨ (J.go i H ∧ ∃ Nx : Hp → Prop, (∀ H', Nx H' → ∃ m', m' < m ∧ W (i + 1) m' H') ∧ ∀ x H', J.yld i H x H' → g x (wipe σ vs) H' fun σ2 H2 => wipe σ2 vs = wipe σ vs ∧ tt σ2 H2 fun b H3 =>
        if b = true then te σ2 H3 fun y H4 => ∃ acc, H4 Dr = some (.lst acc) ∧ acc.length < sizeLine ∧ Nx (upd H4 Dr (.lst (acc ++ [y]))) else Nx H3) := by
  refine ⟨fun i m H => m = xs.length - i ∧ i ≤ xs.length ∧ ∃ s ys, ys.length ≤ i ∧ I Dr s ys H ∧ R.wp (compR f (xs.drop i) s) (fun t => k (t.1, ys ++ t.2)) e, ⟨xs.length, by simp, Nat.zero_le _, s, [], Nat.le_refl _, h0, by simpa using hm⟩, ?_⟩
  rintro i m H ⟨rfl, hi, s, ys, hy, hI, hw⟩
  by_cases c : i < xs.length
  · have ed : xs.drop i = xs[i] :: xs.drop (i + 1) := List.drop_eq_getElem_cons c
    rw [ed] at hw
    refine .inr ⟨(w s ys).go i [] H hI c, fun H' => ∃ s' ys', ys'.length ≤ i + 1 ∧ I Dr s' ys' H' ∧ R.wp (compR f (xs.drop (i + 1)) s') (fun t => k (t.1, ys' ++ t.2)) e,
      fun H' ⟨s', ys', h0, h1, h2⟩ => ⟨xs.length - (i + 1), by omega, rfl, c, s', ys', h0, h1, h2⟩, fun v H' y => ?_⟩
    obtain ⟨hI', hv⟩ := (w s ys).yl i [] H v H' xs[i] hI (List.getElem?_eq_getElem c) y
    have hw' := R.wp_bind hw
    refine turn s ys xs[i] v H' _ _ hI' hv hw' (by omega) (fun s' y u H'' q hu hI'' => ?_) (fun s' H'' q hI'' => ?_)
    · have q' := R.wp_bind q
      obtain ⟨acc, ea, la, hI3⟩ := app s' ys y u H'' hI'' hu
      refine ⟨acc, ea, by omega, s', ys ++ [y], by simp; omega, hI3, ?_⟩
      refine R.wp_mono q' (fun t ht => ?_) fun _ z => z
      have ht' : k (t.1, ys ++ y :: t.2) := ht
      rw [List.append_assoc]; exact ht'
    · have q' := R.wp_bind q
      exact ⟨s', ys, by omega, hI'', R.wp_mono q' (fun t ht => ht) fun _ z => z⟩
  · have ei : i = xs.length := by omega
    subst ei
    rw [List.drop_length] at hw
    have hw : k (s, ys ++ []) := hw
    rw [List.append_nil] at hw
    exact .inl ⟨(w s ys).sp [] H hI, done s ys H hw hI⟩
end
end Ml

namespace Ml
open PySem L2
variable {G : Gx}
/-! ### items by place, in plain Lean -/
def idxR {α : Type} (xs : List α) (i : Int) : R α := match atI xs i with
  | some x => .ok x
  | none => .bad
theorem wp_idx {α ρ : Type} {xs : List α} {i : Int} {f : α → R ρ} {q : ρ → Prop} {e : Exc → Prop} (h : R.wp ((idxR xs i).bind f) q e) : ∃ x, atI xs i = some x ∧ R.wp (f x) q e := by
  unfold idxR at h
  cases c : atI xs i with
  | some x => rw [c] at h; exact ⟨x, rfl, h⟩
  | none => rw [c] at h; exact h.elim
theorem atI_map {α β : Type} {xs : List α} {f : α → β} {i : Int} {x : α} (h : atI xs i = some x) : atI (xs.map f) i = some (f x) := by
  unfold atI at h ⊢
  rw [List.length_map]
  cases e : ixN xs.length i with
  | none => rw [e] at h; cases h
  | some j =>
    rw [e] at h
    show (xs.map f)[j]? = some (f x)
    have h : xs[j]? = some x := h
    rw [List.getElem?_map, h]; rfl
theorem atI_im {α : Type} [Im G α] {H : Hp} {vs : List V} {xs : List α} {i : Int} {x : α} (m : imL (G := G) H vs xs) (h : atI xs i = some x) : ∃ v, atI vs i = some v ∧ Im.im G H v x := by
  unfold atI at h ⊢
  rw [m.len]
  cases e : ixN xs.length i with
  | none => rw [e] at h; cases h
  | some j =>
    rw [e] at h
    exact m.get h
theorem atI_ok {α : Type} {xs : List α} {i : Int} (h0 : 0 ≤ i) (h1 : i < xs.length) : ∃ x, xs[i.toNat]? = some x ∧ atI xs i = some x := by
  have hj : i.toNat < xs.length := by omega
  refine ⟨xs[i.toNat], List.getElem?_eq_getElem hj, ?_⟩
  unfold atI ixN
  rw [if_pos h0, if_pos h1]
  exact List.getElem?_eq_getElem hj
theorem idxR_ok {α : Type} {xs : List α} {i : Int} {x : α} (h0 : 0 ≤ i) (h1 : xs[i.toNat]? = some x) : idxR xs i = .ok x := by
  have hl : i.toNat < xs.length := (List.getElem?_eq_some_iff.mp h1).1
  obtain ⟨y, hy, h⟩ := atI_ok (xs := xs) h0 (by omega)
  rw [h1] at hy; cases hy
  unfold idxR; rw [h]
/-- one sign as a text -/
abbrev sg (c : Nat) : Str := ⟨#[c]⟩
def mulOk (i j : Int) : Prop := (-(2 ^ 64) < i ∧ i < 2 ^ 64) ∨ (-(2 ^ 64) < j ∧ j < 2 ^ 64)
instance (i j : Int) : Decidable (mulOk i j) := by unfold mulOk; infer_instance
theorem mulOk_c {i j : Int} (h : mulOk i j) : CMul i j := h
def rngL (lo : Int) (n : Nat) : List Int := (List.range n).map fun (i : Nat) => lo + (i : Int)
theorem rngL_len (lo : Int) (n : Nat) : (rngL lo n).length = n := by simp [rngL]
theorem rngL_get {lo : Int} {n i : Nat} {x : Int} (h : (rngL lo n)[i]? = some x) : x = lo + (i : Int) ∧ i < n := by
  have hl : i < (rngL lo n).length := (List.getElem?_eq_some_iff.mp h).1
  rw [rngL_len] at hl
  unfold rngL at h
  rw [List.getElem?_map, List.getElem?_range hl] at h
  exact ⟨(Option.some.inj h).symm, hl⟩
/-! ### what is walked -/
section
variable {α τ : Type} {I : St → Hp → Prop} {K : PySem.W.Frag} {a : Addr}
theorem wk_list [Im G α] {xs : List α} (h : ∀ σ H, I σ H → ∃ vs, SqL K H a vs ∧ imL (G := G) H vs xs) : Wk (Itl K a) I (Im.im G) xs where
  go := fun i σ H hI hi => by
    obtain ⟨vs, s, m⟩ := h σ H hI
    have hl : i < vs.length := by rw [m.len]; exact hi
    exact ⟨vs, vs[i], s, List.getElem?_eq_getElem hl⟩
  yl := fun i σ H v H' x hI hx y => by
    obtain ⟨vs, s, m⟩ := h σ H hI
    obtain ⟨rfl, y⟩ := y
    obtain ⟨u, hu, im⟩ := m.get hx
    have e := y vs s
    rw [hu] at e; cases e
    exact ⟨hI, im⟩
  sp := fun σ H hI => by
    obtain ⟨vs, s, m⟩ := h σ H hI
    exact ⟨vs, s, by rw [m.len]; exact Nat.le_refl _⟩
theorem wk_range {lo : Int} {n : Nat} : Wk (Itr lo n) I (fun _ v (x : Int) => v = .int x) (rngL lo n) where
  go := fun i σ H _ hi => by rw [rngL_len] at hi; exact hi
  yl := fun i σ H v H' x hI hx y => by
    obtain ⟨rfl, y⟩ := y
    obtain ⟨e, _⟩ := rngL_get hx
    exact ⟨hI, by rw [y, e]⟩
  sp := fun σ H _ => by rw [rngL_len]; exact Nat.le_refl _
theorem wk_str {z : Str} : Wk (Its z) I (fun _ v (c : Nat) => v = .str (sg c)) z.cps.toList where
  go := fun i σ H _ hi => by show i < z.cps.size; simpa using hi
  yl := fun i σ H v H' x hI hx y => by
    obtain ⟨rfl, c, hc, y⟩ := y
    have : z.cps[i]? = some x := by simpa using hx
    rw [hc] at this; cases this
    exact ⟨hI, y⟩
  sp := fun σ H _ => by show z.cps.size ≤ _; simp
end
theorem Sep.sq {α : Type} [Im G α] {H : Hp} {L : List (Asn G)} (h : Sep H L) {i : Nat} {a : Addr} {xs : List α} (e : L[i]? = some (lstA a xs)) : ∃ vs, SqL G.K H a vs ∧ imL (G := G) H vs xs := by
  obtain ⟨vs, e, m⟩ := h.lst e
  exact ⟨vs, .inl (.inl e), m⟩
theorem Sep.sqF {α : Type} [Fv G α] {H : Hp} {L : List (Asn G)} (h : Sep H L) {i : Nat} {a : Addr} {xs : List α} (e : L[i]? = some (lstA a xs)) : SqL G.K H a (xs.map (Fv.enc G)) := by
  obtain ⟨vs, e, m⟩ := h.sq e
  rw [imL.flat.mp m] at e
  exact e
/-! ### making, changing: each step leaves the next heap by its assertions alone -/
section
variable {σ σ' : St} {H : Hp} {L L' : List (Asn G)} {D : Ends} {Q : VK} {te ta tb : TE} {α β : Type}
theorem c_op {r : R2} (h : ta σ H fun x H1 => tb σ H1 fun y H2 => r x y H2 Q) : tOp r ta tb σ H Q := h
theorem c_cons {tr : TA} {P : List V → Hp → Prop} (h : ta σ H fun x H1 => tr σ H1 fun xs H2 => P (x :: xs) H2) : tCons ta tr σ H P := h
theorem c_nil {P : List V → Hp → Prop} (h : P [] H) : tNil σ H P := h
theorem c_call {sp : Sp} {dvs : List V} {E : XK} {t : TA} (h : t σ H fun vs H1 => sp (vs ++ dvs) H1 Q E) : tCall sp dvs E t σ H Q := h
theorem c_cb {r : List V → Hp → VK → Prop} {t : TA} (h : t σ H fun vs H1 => r vs H1 Q) : tCB r t σ H Q := h
theorem c_asg {i : Nat} (h : te σ H fun v H1 => D.nx (σ.set i (some v)) H1) : tAsg te (gName i) D σ H := h
theorem c_ret (h : te σ H D.rt) : tRet te D σ H := h
theorem c_drop (h : te σ H fun _ H1 => D.nx σ H1) : tDrop te D σ H := h
theorem c_set {i : Nat} {v : V} (e : σ.set i (some v) = σ') (h : D.nx σ' H) : D.nx (σ.set i (some v)) H := by rw [e]; exact h
theorem c_if {t : TT} {t1 t2 : TS} (h : t σ H fun b H1 => if b = true then t1 D σ H1 else t2 D σ H1) : tIfS t t1 t2 D σ H := h
theorem c_test {P : Bool → Hp → Prop} (h : te σ H fun x H1 => ∃ k, x = .bl k ∧ P k H1) : tTest te σ H P := h
theorem c_B {P : Bool → Hp → Prop} (h : te σ H fun x H1 => ∃ k, x = .bl k ∧ P k H1) : tB te σ H P := h
theorem c_bool {b : Bool} {P : Bool → Hp → Prop} (h : P b H) : ∃ k, V.bl b = .bl k ∧ P k H := ⟨b, rfl, h⟩
theorem c_ite {b : Bool} {A B : Prop} (h1 : b = true → A) (h2 : b = false → B) : if b = true then A else B := by
  cases b with
  | true => exact h1 rfl
  | false => exact h2 rfl
theorem c_not {t : TT} {P : Bool → Hp → Prop} (h : t σ H fun c H1 => P (!c) H1) : tNot t σ H P := h
theorem c_and {t u : TT} {P : Bool → Hp → Prop} (h : t σ H fun c H1 => if c = true then u σ H1 P else P false H1) : tAnd t u σ H P := h
theorem c_or {t u : TT} {P : Bool → Hp → Prop} (h : t σ H fun c H1 => if c = true then P true H1 else u σ H1 P) : tOr t u σ H P := h
theorem c_andV (h : ta σ H fun x H1 => ∃ c, x = .bl c ∧ if c = true then tb σ H1 Q else Q (.bl false) H1) : tAndV ta tb σ H Q := h
theorem c_orV (h : ta σ H fun x H1 => ∃ c, x = .bl c ∧ if c = true then Q (.bl true) H1 else tb σ H1 Q) : tOrV ta tb σ H Q := h
theorem c_notV (h : ta σ H fun x H1 => ∃ c, x = .bl c ∧ Q (.bl (!c)) H1) : tNotV ta σ H Q := h
theorem c_ifE {t : TT} (h : t σ H fun c H1 => if c = true then ta σ H1 Q else tb σ H1 Q) : tIf t ta tb σ H Q := h
theorem c_b1 {c : Bool} {A : Bool → Prop} (h : A c) : ∃ k, V.bl c = .bl k ∧ A k := ⟨c, rfl, h⟩
/-- a new list of written items -/
def lstK (Q : VK) : List V → Hp → Prop := fun xs H1 => xs.length ≤ sizeLine ∧ ∀ p, H1 p = none → Q (.ref p) (upd H1 p (.lst xs))
def tupK (Q : VK) : List V → Hp → Prop := fun xs H1 => xs.length ≤ sizeLine ∧ ∀ p, H1 p = none → Q (.ref p) (upd H1 p (.tup xs))
theorem k_lst [Im G α] {vs : List V} {xs : List α} (hS : Sep H L) (m : imL (G := G) H vs xs) (z : vs.length ≤ sizeLine) (k : ∀ p H', Sep H' (lstA p xs :: L) → Q (.ref p) H') :
    lstK Q vs H := ⟨z, fun p hp => k p _ (hS.newL hp m)⟩
theorem c_lst {t : TA} (h : t σ H (lstK Q)) : tLst t σ H Q := h
theorem c_tup {t : TA} (h : t σ H (tupK Q)) : tTup t σ H Q := h
theorem c_bm {K : PySem.W.Frag} {T : String} {r : V → List V → Hp → VK → Prop} {to : TE} {t : TA} (h : to σ H fun x H1 => tyV K T x H1 ∧ t σ H1 fun xs H2 => r x xs H2 Q) : tBM K T r to t σ H Q := h
theorem c_bm0 {K : PySem.W.Frag} {T : String} {r : V → List V → Hp → VK → Prop} {to : TE} (h : to σ H fun x H1 => tyV K T x H1 ∧ r x [] H1 Q) : tBM0 K T r to σ H Q := h
theorem tyL [Im G α] {i : Nat} {a : Addr} {xs : List α} (hS : Sep H L) (e : L[i]? = some (lstA a xs)) : tyV G.K "list" (.ref a) H := by
  obtain ⟨vs, h, _⟩ := hS.sq e
  exact .inl ⟨rfl, vs, h⟩
theorem k_append [Im G α] {i : Nat} {a : Addr} {xs : List α} {x : α} {v : V} (hS : Sep H L) (e : L[i]? = some (lstA a xs)) (hv : Im.im G H v x) (z : xs.length < sizeLine) (e2 : L.set i (lstA a (xs ++ [x])) = L')
    (k : ∀ H', Sep H' L' → Q .non H') : rAppend (.ref a) [v] H Q := by
  obtain ⟨vs, h, m⟩ := hS.lst e
  refine ⟨a, vs, v, rfl, rfl, h, by rw [m.len]; exact z, k _ ?_⟩
  subst e2
  exact hS.putL e (m.app (vs := vs) (ws := [v]) ⟨hv, True.intro⟩)
theorem k_clear [Im G α] {i : Nat} {a : Addr} {xs : List α} (hS : Sep H L) (e : L[i]? = some (lstA a xs)) (e2 : L.set i (lstA a ([] : List α)) = L')
    (k : ∀ H', Sep H' L' → Q .non H') : rClear (.ref a) [] H Q := by
  obtain ⟨vs, h, m⟩ := hS.lst e
  refine ⟨a, vs, rfl, rfl, h, k _ ?_⟩
  subst e2
  exact hS.putL (vs := []) (ys := ([] : List α)) e True.intro
theorem k_cat [Im G α] {i j : Nat} {a b : Addr} {xs ys : List α} (hS : Sep H L) (e1 : L[i]? = some (lstA a xs)) (e2 : L[j]? = some (lstA b ys)) (z : xs.length + ys.length ≤ sizeLine)
    (k : ∀ p H', Sep H' (lstA p (xs ++ ys) :: L) → Q (.ref p) H') : rCat (.ref a) (.ref b) H Q := by
  obtain ⟨vs, h, m⟩ := hS.lst e1
  obtain ⟨ws, h', m'⟩ := hS.lst e2
  exact ⟨a, b, vs, ws, rfl, rfl, h, h', by rw [m.len, m'.len]; exact z, fun p hp => k p _ (hS.newL hp (m.app m'))⟩
/-- xs[i] = v -/
theorem k_setL [Im G α] {n : Nat} {a : Addr} {xs : List α} {x : α} {v : V} {i : Int} {P : Hp → Prop} (hS : Sep H L) (e : L[n]? = some (lstA a xs)) (hv : Im.im G H v x) (j : Nat) (hj : ixN xs.length i = some j) (e2 : L.set n (lstA a (xs.set j x)) = L')
    (k : ∀ H', Sep H' L' → P H') : rSetL (.ref a) (.int i) v H P := by
  obtain ⟨vs, h, m⟩ := hS.lst e
  refine ⟨a, vs, i, j, rfl, rfl, h, by rw [m.len]; exact hj, k _ ?_⟩
  subst e2
  exact hS.putL e (m.set hv)
def cutL (xs : List α) (lo hi : Option Int) : List α := (xs.drop (HT.sIx xs.length 0 lo)).take (HT.sIx xs.length xs.length hi - HT.sIx xs.length 0 lo)
theorem cutL_im [Im G α] {vs : List V} {xs : List α} {lo hi : Option Int} (m : imL (G := G) H vs xs) : imL (G := G) H (cutV vs lo hi) (cutL xs lo hi) := by
  unfold cutV cutL
  rw [m.len]
  exact (m.drop _).take _
theorem k_slL [Im G α] {n : Nat} {a : Addr} {xs : List α} {lo hi : Option Int} (hS : Sep H L) (e : L[n]? = some (lstA a xs))
    (k : ∀ p H', Sep H' (lstA p (cutL xs lo hi) :: L) → Q (.ref p) H') : rSlL G.K (.ref a) lo hi H Q := by
  obtain ⟨vs, h, m⟩ := hS.sq e
  exact ⟨a, vs, rfl, h, fun p hp => k p _ (hS.newL hp (cutL_im m))⟩
theorem c_sl {r : V → Option Int → Option Int → Hp → VK → Prop} {tl th : TO} (h : te σ H fun x H1 => tl σ H1 fun l H2 => th σ H2 fun u H3 => r x l u H3 Q) : tSl r te tl th σ H Q := h
def rListSq (K : PySem.W.Frag) : List V → Hp → VK → Prop := fun xs H Q => ∃ p ys, xs = [.ref p] ∧ (SqL K H p ys ∨ SqT K H p ys) ∧ ∀ l, H l = none → Q (.ref l) (upd H l (.lst ys))
theorem call_listSq {X : Cx} : CallR X (.type "list") (rListSq X.K) := call_list_of
theorem k_list [Im G α] {n : Nat} {a : Addr} {xs : List α} (hS : Sep H L) (e : L[n]? = some (lstA a xs)) (k : ∀ p H', Sep H' (lstA p xs :: L) → Q (.ref p) H') : rListSq G.K [.ref a] H Q := by
  obtain ⟨vs, h, m⟩ := hS.sq e
  exact ⟨a, vs, rfl, .inl h, fun p hp => k p _ (hS.newL hp m)⟩
/-- sep.join(xs) -/
def rJoin (K : PySem.W.Frag) : V → List V → Hp → VK → Prop := fun x xs H Q => ∃ a p, ∃ ys : List Str, x = .str a ∧ xs = [.ref p] ∧ (SqL K H p (ys.map V.str) ∨ SqT K H p (ys.map V.str)) ∧ (ys.map (·.length)).sum + ys.length * a.length ≤ 16777216 ∧ Q (.str (Txt.join a ys)) H
theorem k_join {n : Nat} {p : Addr} {a : Str} {ys : List Str} (hS : Sep H L) (e : L[n]? = some (lstA p ys)) (z : (ys.map (·.length)).sum + ys.length * a.length ≤ 16777216) (k : Q (.str (Txt.join a ys)) H) : rJoin G.K (.str a) [.ref p] H Q :=
  ⟨a, p, ys, rfl, rfl, .inl (hS.sqF e), z, k⟩
theorem c_m1 {r : V → List V → Hp → VK → Prop} {to : TE} {a : Str} (h1 : Ev to σ H (.str a)) (h : te σ H fun y H2 => r (.str a) [y] H2 Q) : tM1 r to te σ H Q := h1 _ ⟨⟨a, rfl⟩, h⟩
theorem c_m0 {r : V → List V → Hp → VK → Prop} {to : TE} {a : Str} (h1 : Ev to σ H (.str a)) (h : r (.str a) [] H Q) : tM0 r to σ H Q := h1 _ ⟨⟨a, rfl⟩, h⟩
end
end Ml

namespace Ml
open PySem L2
variable {G : Gx}
/-! ### dicts -/
section
variable {κ β : Type} [DecidableEq κ]
def dget (kvs : List (κ × β)) (k : κ) : Option β := (kvs.find? fun kv => decide (kv.1 = k)).map (·.2)
def dput (kvs : List (κ × β)) (k : κ) (v : β) : List (κ × β) :=
  if (kvs.any fun kv => decide (kv.1 = k)) = true then kvs.map (fun kv => if kv.1 = k then (kv.1, v) else kv) else kvs ++ [(k, v)]
def ddrop (kvs : List (κ × β)) (k : κ) : List (κ × β) := kvs.filter fun kv => decide (kv.1 ≠ k)
def dhas (kvs : List (κ × β)) (k : κ) : Bool := (dget kvs k).isSome
end
class Kx (κ : Type) where
  key : κ → Key
  inj : ∀ {a b : κ}, key a = key b → a = b
instance : Kx Int := ⟨Sum.inl, fun h => Sum.inl.inj h⟩
instance : Kx Str := ⟨Sum.inr, fun h => Sum.inr.inj h⟩
section
variable {κ β : Type} [DecidableEq κ] [Kx κ] [Im G β]
def imD (H : Hp) : List (Key × V) → List (κ × β) → Prop
  | [], [] => True
  | p :: ps, q :: qs => (p.1 = Kx.key q.1 ∧ Im.im G H p.2 q.2) ∧ imD H ps qs
  | _, _ => False
variable {H H' : Hp}
theorem imD.st : ∀ {ps : List (Key × V)} {qs : List (κ × β)}, imD (G := G) H ps qs → Stab G H H' → imD (G := G) H' ps qs
  | [], [], _, _ => True.intro
  | p :: ps, q :: qs, h, s => ⟨⟨h.1.1, Im.st h.1.2 s⟩, imD.st h.2 s⟩
  | [], _ :: _, h, _ => h
  | _ :: _, [], h, _ => h
theorem imD.len : ∀ {ps : List (Key × V)} {qs : List (κ × β)}, imD (G := G) H ps qs → ps.length = qs.length
  | [], [], _ => rfl
  | p :: ps, q :: qs, h => by rw [List.length_cons, List.length_cons, imD.len h.2]
  | [], _ :: _, h => h.elim
  | _ :: _, [], h => h.elim
theorem key_dec (a b : κ) : decide (Kx.key a = Kx.key b) = decide (a = b) := by
  by_cases h : a = b
  · subst h; simp
  · have : ¬ Kx.key a = Kx.key b := fun e => h (Kx.inj e)
    simp [h, this]
theorem imD.val : ∀ {ps : List (Key × V)} {qs : List (κ × β)} (k : κ), imD (G := G) H ps qs → (∀ y, dget qs k = some y → ∃ v, valV ps (Kx.key k) = some v ∧ Im.im G H v y) ∧ (dget qs k = none → valV ps (Kx.key k) = none)
  | [], [], _, _ => ⟨fun y e => (by cases (show (none : Option β) = some y from e)), fun _ => rfl⟩
  | p :: ps, q :: qs, k, ⟨⟨e1, e2⟩, h⟩ => by
    have ih := imD.val k h
    by_cases c : q.1 = k
    · have c1 : p.1 = Kx.key k := by rw [e1, c]
      have d : dget (q :: qs) k = some q.2 := by simp [dget, List.find?_cons, c]
      rw [d, valV_pos c1]
      exact ⟨fun y e => ⟨p.2, rfl, by cases e; exact e2⟩, fun e => by cases e⟩
    · have c1 : ¬ p.1 = Kx.key k := fun z => c (Kx.inj (e1.symm.trans z))
      have d : dget (q :: qs) k = dget qs k := by simp [dget, List.find?_cons, c]
      rw [d, valV_neg c1]
      exact ih
  | [], _ :: _, _, h => h.elim
  | _ :: _, [], _, h => h.elim
theorem imD.any : ∀ {ps : List (Key × V)} {qs : List (κ × β)} (k : κ), imD (G := G) H ps qs → (ps.any fun kv => decide (kv.1 = Kx.key k)) = qs.any fun kv => decide (kv.1 = k)
  | [], [], _, _ => rfl
  | p :: ps, q :: qs, k, ⟨⟨e1, e2⟩, h⟩ => by
    rw [List.any_cons, List.any_cons, imD.any k h, e1, key_dec]
  | [], _ :: _, _, h => h.elim
  | _ :: _, [], _, h => h.elim
theorem imD.app : ∀ {ps rs : List (Key × V)} {qs ts : List (κ × β)}, imD (G := G) H ps qs → imD (G := G) H rs ts → imD (G := G) H (ps ++ rs) (qs ++ ts)
  | [], _, [], _, _, h => h
  | _ :: _, _, _ :: _, _, h, k => ⟨h.1, imD.app h.2 k⟩
  | [], _, _ :: _, _, h, _ => h.elim
  | _ :: _, _, [], _, h, _ => h.elim
theorem imD.rep : ∀ {ps : List (Key × V)} {qs : List (κ × β)} {k : κ} {v : V} {y : β}, imD (G := G) H ps qs → Im.im G H v y →
    imD (G := G) H (ps.map fun kv => if kv.1 = Kx.key k then (kv.1, v) else kv) (qs.map fun kv => if kv.1 = k then (kv.1, y) else kv)
  | [], [], _, _, _, _, _ => True.intro
  | p :: ps, q :: qs, k, v, y, ⟨⟨e1, e2⟩, h⟩, hv => by
    refine ⟨?_, imD.rep h hv⟩
    show (if p.1 = Kx.key k then (p.1, v) else p).1 = Kx.key (if q.1 = k then (q.1, y) else q).1 ∧ Im.im G H (if p.1 = Kx.key k then (p.1, v) else p).2 (if q.1 = k then (q.1, y) else q).2
    by_cases c : q.1 = k
    · have c1 : p.1 = Kx.key k := by rw [e1, c]
      rw [if_pos c, if_pos c1]; exact ⟨e1, hv⟩
    · have c1 : ¬ p.1 = Kx.key k := fun z => c (Kx.inj (e1.symm.trans z))
      rw [if_neg c, if_neg c1]; exact ⟨e1, e2⟩
  | [], _ :: _, _, _, _, h, _ => h.elim
  | _ :: _, [], _, _, _, h, _ => h.elim
theorem imD.put {ps : List (Key × V)} {qs : List (κ × β)} {k : κ} {v : V} {y : β} (h : imD (G := G) H ps qs) (hv : Im.im G H v y) : imD (G := G) H (putK ps (Kx.key k) v) (dput qs k y) := by
  unfold putK dput
  rw [h.any k]
  split
  · exact h.rep hv
  · exact h.app (rs := [(Kx.key k, v)]) (ts := [(k, y)]) ⟨⟨rfl, hv⟩, True.intro⟩
theorem imD.drop : ∀ {ps : List (Key × V)} {qs : List (κ × β)} (k : κ), imD (G := G) H ps qs → imD (G := G) H (dropK ps (Kx.key k)) (ddrop qs k)
  | [], [], _, _ => True.intro
  | p :: ps, q :: qs, k, ⟨⟨e1, e2⟩, h⟩ => by
    have ih := imD.drop k h
    unfold dropK ddrop at ih ⊢
    rw [List.filter_cons, List.filter_cons]
    by_cases c : q.1 = k
    · have c1 : p.1 = Kx.key k := by rw [e1, c]
      simp only [c, c1, ne_eq, not_true_eq_false, decide_false, Bool.false_eq_true, if_false]
      exact ih
    · have c1 : ¬ p.1 = Kx.key k := fun z => c (Kx.inj (e1.symm.trans z))
      simp only [c, c1, ne_eq, not_false_eq_true, decide_true, if_true]
      exact ⟨⟨e1, e2⟩, ih⟩
  | [], _ :: _, _, h => h.elim
  | _ :: _, [], _, h => h.elim
theorem imD.keys : ∀ {ps : List (Key × V)} {qs : List (κ × β)}, imD (G := G) H ps qs → ps.map (·.1) = qs.map fun q => Kx.key q.1
  | [], [], _ => rfl
  | p :: ps, q :: qs, h => by rw [List.map_cons, List.map_cons, imD.keys h.2, h.1.1]
  | [], _ :: _, h => h.elim
  | _ :: _, [], h => h.elim
def dictA (a : Addr) (kvs : List (κ × β)) : Asn G := ⟨fun H fp => fp = [a] ∧ ∃ ps, H a = some (.dK ps) ∧ imD (G := G) H ps kvs,
  fun H H' fp ⟨e, ps, h, m⟩ k s => ⟨e, ps, by rw [k a (by rw [e]; simp)]; exact h, m.st s⟩⟩
variable {L L' : List (Asn G)}
theorem Sep.dict (h : Sep H L) {i : Nat} {a : Addr} {kvs : List (κ × β)} (e : L[i]? = some (dictA a kvs)) : ∃ ps, H a = some (.dK ps) ∧ imD (G := G) H ps kvs := by
  obtain ⟨fp, _, x⟩ := h.at e
  exact x
theorem Sep.newD (h : Sep H L) {p : Addr} (hp : H p = none) : Sep (upd H p (.dK [])) (dictA p ([] : List (κ × β)) :: L) :=
  (h.new (o := .dK []) hp rfl).view fun fp ⟨q, r⟩ => ⟨q, [], r, True.intro⟩
theorem Sep.putD (h : Sep H L) {i : Nat} {a : Addr} {xs ys : List (κ × β)} {ps : List (Key × V)} (e : L[i]? = some (dictA a xs)) (m : imD (G := G) H ps ys) : Sep (upd H a (.dK ps)) (L.set i (dictA a ys)) := by
  obtain ⟨us, e0, mu⟩ := h.dict e
  have h1 : Sep H (L.set i (cell a (.dK us))) := h.viewAt e fun fp ⟨q, _⟩ => ⟨q, e0⟩
  have e1 := get_set (y := cell (G := G) a (.dK us)) e
  have h2 := h1.put (o' := .dK ps) e1 rfl rfl
  rw [set_set] at h2
  have st : Stab G H (upd H a (.dK ps)) := stab_put (h1.getCell e1) rfl rfl
  have h3 := h2.viewAt (B := dictA a ys) (get_set e) fun fp ⟨q, r⟩ => ⟨q, ps, r, m.st st⟩
  rw [set_set] at h3
  exact h3
variable {σ : St} {Q : VK} {td ty tx : TE} {k : κ} {a : Addr} {xs : List (κ × β)} {i : Nat}
theorem k_dnew (hS : Sep H L) (q : ∀ p H', Sep H' (dictA p ([] : List (κ × β)) :: L) → Q (.ref p) H') : tDNewK σ H Q := fun p hp => q p _ (hS.newD hp)
theorem dget_at (hS : Sep H L) (e : L[i]? = some (dictA a xs)) {o : Option β} (ho : dget xs k = o) : ∃ r, DGet H a (kV (Kx.key k)) r ∧ (∀ y, o = some y → ∃ v, r = some v ∧ Im.im G H v y) ∧ (o = none → r = none) := by
  obtain ⟨ps, h, m⟩ := hS.dict e
  obtain ⟨v1, v2⟩ := m.val k
  exact ⟨_, DGet.k h, fun y q => v1 y (ho.trans q), fun q => v2 (ho.trans q)⟩
theorem ev_din (hS : Sep H L) (e : L[i]? = some (dictA a xs)) (hy : Ev ty σ H (kV (Kx.key k))) (hd : Ev td σ H (.ref a)) : Ev (tDIn ty td) σ H (.bl (dhas xs k)) := fun Q q => hy _ (hd _ (by
  obtain ⟨r, g, h1, h2⟩ := dget_at hS e (k := k) rfl
  refine ⟨a, r, rfl, g, ?_⟩
  have : r.isSome = dhas xs k := by
    unfold dhas
    cases c : dget xs k with
    | none => rw [h2 c]; rfl
    | some y => obtain ⟨v, e, _⟩ := h1 y c; rw [e]; rfl
  rw [this]; exact q))
theorem ev_dnotin (hS : Sep H L) (e : L[i]? = some (dictA a xs)) (hy : Ev ty σ H (kV (Kx.key k))) (hd : Ev td σ H (.ref a)) : Ev (tDNotIn ty td) σ H (.bl (!dhas xs k)) := fun Q q => hy _ (hd _ (by
  obtain ⟨r, g, h1, h2⟩ := dget_at hS e (k := k) rfl
  refine ⟨a, r, rfl, g, ?_⟩
  have : r.isSome = dhas xs k := by
    unfold dhas
    cases c : dget xs k with
    | none => rw [h2 c]; rfl
    | some y => obtain ⟨v, e, _⟩ := h1 y c; rw [e]; rfl
  rw [this]; exact q))
theorem isD_of (hS : Sep H L) (e : L[i]? = some (dictA a xs)) : IsD H a := by
  obtain ⟨ps, h, _⟩ := hS.dict e
  exact .inl ⟨ps, .inl h⟩
/-- d.setdefault(k, z), what it hands back not looked at -/
theorem k_dsetd0 {z : V} {y : β} (hS : Sep H L) (e : L[i]? = some (dictA a xs)) (hz : Im.im G H z y) (hl : xs.length < sizeLine) (e2 : L.set i (dictA a (if dhas xs k then xs else dput xs k y)) = L')
    (q : ∀ v H', Sep H' L' → Q v H') : ∃ (kvs : List (Key × V)) (k' : Key), H a = some (.dK kvs) ∧ kV (Kx.key k) = kV k' ∧ kvs.length < sizeLine ∧ (∀ v, valV kvs k' = some v → Q v H) ∧ (valV kvs k' = none → Q z (upd H a (.dK (putK kvs k' z)))) := by
  obtain ⟨ps, h, m⟩ := hS.dict e
  obtain ⟨v1, v2⟩ := m.val k
  refine ⟨ps, Kx.key k, h, rfl, by rw [m.len]; exact hl, fun v hv => q v _ ?_, fun hn => q z _ ?_⟩
  · have : dhas xs k = true := by
      unfold dhas
      cases c : dget xs k with
      | none => rw [v2 c] at hv; cases hv
      | some y => rfl
    rw [this] at e2
    subst e2
    have : L.set i (dictA a xs) = L := by
      have hi := (List.getElem?_eq_some_iff.mp e)
      obtain ⟨h1, h2⟩ := hi
      rw [← h2]; exact List.set_getElem_self h1
    rw [if_pos rfl, this]; exact hS
  · have : dhas xs k = false := by
      unfold dhas
      cases c : dget xs k with
      | none => rfl
      | some y => obtain ⟨v, e, _⟩ := v1 y c; rw [e] at hn; cases hn
    rw [this] at e2
    subst e2
    rw [if_neg Bool.false_ne_true]
    exact hS.putD e (m.put hz)
theorem k_dsetd {z : V} {y : β} (hS : Sep H L) (e : L[i]? = some (dictA a xs)) (hd : Ev td σ H (.ref a)) (hy : Ev ty σ H (kV (Kx.key k))) (hx : Ev tx σ H z) (hz : Im.im G H z y) (hl : xs.length < sizeLine) (e2 : L.set i (dictA a (if dhas xs k then xs else dput xs k y)) = L')
    (q : ∀ v H', Sep H' L' → Q v H') : tDSetd td ty tx σ H Q := hd _ ⟨a, rfl, isD_of hS e, hy _ (hx _ (k_dsetd0 hS e hz hl e2 q))⟩
def rListD : List V → Hp → VK → Prop := fun xs H Q => ∃ (a : Addr) (kvs : List (Key × V)), xs = [.ref a] ∧ Rd H a (.dK kvs) ∧ ∀ p, H p = none → Q (.ref p) (upd H p (.lst (kvs.map fun kv => kV kv.1)))
theorem call_lstD {X : Cx} (hc : X.calm = true) : CallR X (.type "list") rListD := call_listD hc
theorem k_listD [Fv G κ] (hk : ∀ k : κ, kV (Kx.key k) = Fv.enc G k) (hS : Sep H L) (e : L[i]? = some (dictA a xs)) (q : ∀ p H', Sep H' (lstA p (xs.map (·.1)) :: L) → Q (.ref p) H') : rListD [.ref a] H Q := by
  obtain ⟨ps, h, m⟩ := hS.dict e
  refine ⟨a, ps, rfl, .inl h, fun p hp => q p _ (hS.newL hp (imL.flat.mpr ?_))⟩
  have e1 : ps.map (fun kv => kV kv.1) = (ps.map (·.1)).map kV := by rw [List.map_map]; rfl
  rw [e1, m.keys, List.map_map, List.map_map]
  exact List.map_congr_left fun q _ => hk q.1
end
/-! ### == of data -/
class Lay (α : Type) where
  lay : α → Bool
instance : Lay Int := ⟨fun _ => true⟩
instance : Lay Bool := ⟨fun _ => true⟩
instance : Lay Str := ⟨fun x => PyData.strOk x⟩
def layAllB {α : Type} [Lay α] (xs : List α) : Bool := xs.all Lay.lay
class Pd (G : Gx) (α : Type) [Im G α] [DecidableEq α] [Lay α] where
  pd : α → PyData
  dep : Nat
  dp : ∀ {H : Hp} {v : V} {x : α}, Im.im G H v x → Dp G.K H v (pd x)
  lay_ok : ∀ x, Lay.lay x = true → (pd x).canLay0 = true
  dep_ok : ∀ x, (pd x).depth ≤ dep
  eqv : ∀ x y, PyData.eqv (pd x) (pd y) = decide (x = y)
instance pInt : Pd G Int where
  pd := .int
  dep := 0
  dp := fun {H v x} h => by
    have h : v = .int x := h
    subst h; exact .int x
  lay_ok := fun _ _ => rfl
  dep_ok := fun _ => Nat.le_refl _
  eqv := fun x y => by
    show (x == y) = decide (x = y)
    rfl
instance pBool : Pd G Bool where
  pd := .bool
  dep := 0
  dp := fun {H v x} h => by
    have h : v = .bl x := h
    subst h; exact .bl x
  lay_ok := fun _ _ => rfl
  dep_ok := fun _ => Nat.le_refl _
  eqv := fun x y => by cases x <;> cases y <;> rfl
theorem str_beq (x y : Str) : (x == y) = decide (x = y) := by
  by_cases h : x = y
  · subst h; simp
  · simp [h]
instance pStr : Pd G Str where
  pd := .str
  dep := 0
  dp := fun {H v x} h => by
    have h : v = .str x := h
    subst h; exact .str x
  lay_ok := fun _ h => h
  dep_ok := fun _ => Nat.le_refl _
  eqv := fun x y => str_beq x y
section
variable {α : Type} [Im G α] [DecidableEq α] [Lay α] [Pd G α] {H : Hp} {L : List (Asn G)}
theorem dpAll : ∀ {vs : List V} {xs : List α}, imL (G := G) H vs xs → DpAll G.K H vs (xs.map (Pd.pd G))
  | [], [], _ => .nil
  | v :: vs, x :: xs, h => .cons (Pd.dp h.1) (dpAll h.2)
  | [], _ :: _, h => h.elim
  | _ :: _, [], h => h.elim
theorem layAll : ∀ {xs : List α}, layAllB xs = true → PyData.canLayAll0 (xs.map (Pd.pd G)) = true
  | [], _ => rfl
  | x :: xs, h => by
    unfold layAllB at h
    rw [List.all_cons, Bool.and_eq_true] at h
    show ((Pd.pd G x).canLay0 && PyData.canLayAll0 (xs.map (Pd.pd G))) = true
    rw [Pd.lay_ok x h.1, layAll h.2]; rfl
theorem depAll : ∀ (xs : List α), PyData.depthAll (xs.map (Pd.pd G)) ≤ Pd.dep G α
  | [] => Nat.zero_le _
  | x :: xs => by
    show max (Pd.pd G x).depth (PyData.depthAll (xs.map (Pd.pd G))) ≤ _
    exact Nat.max_le.mpr ⟨Pd.dep_ok x, depAll xs⟩
theorem eqvAll_is : ∀ (xs ys : List α), PyData.eqvAll (xs.map (Pd.pd G)) (ys.map (Pd.pd G)) = decide (xs = ys)
  | [], [] => rfl
  | x :: xs, y :: ys => by
    show (PyData.eqv (Pd.pd G x) (Pd.pd G y) && PyData.eqvAll (xs.map (Pd.pd G)) (ys.map (Pd.pd G))) = _
    rw [Pd.eqv, eqvAll_is xs ys]
    simp
  | [], _ :: _ => rfl
  | _ :: _, [] => rfl
theorem shapedL {xs : List α} (h : layAllB xs = true) (d : Pd.dep G α + 1 ≤ 64) : SeqAt.shaped (.list (xs.map (Pd.pd G))) = true := by
  unfold SeqAt.shaped
  have h1 : (PyData.list (xs.map (Pd.pd G))).canLay0 = true := layAll h
  have h2 : (PyData.list (xs.map (Pd.pd G))).depth ≤ 64 := by
    show PyData.depthAll (xs.map (Pd.pd G)) + 1 ≤ 64
    have := depAll (G := G) xs
    omega
  rw [h1, decide_eq_true h2]; rfl
variable {a b : Addr} {xs ys : List α} {i j : Nat} {σ : St} {ta tb : TE}
theorem ev_eqL (hS : Sep H L) (e1 : L[i]? = some (lstA a xs)) (e2 : L[j]? = some (lstA b ys)) (ha : Ev ta σ H (.ref a)) (hb : Ev tb σ H (.ref b)) (l1 : layAllB xs = true) (l2 : layAllB ys = true) (d : Pd.dep G α + 1 ≤ 64) :
    Ev (tOp (rEqD G.K) ta tb) σ H (.bl (decide (xs = ys))) := ev_op ha hb fun Q q => by
  obtain ⟨vs, s1, m1⟩ := hS.sq e1
  obtain ⟨ws, s2, m2⟩ := hS.sq e2
  refine ⟨_, _, .lst s1 (dpAll m1), .lst s2 (dpAll m2), shapedL l1 d, shapedL l2 d, ?_⟩
  have : PyData.eqv (.list (xs.map (Pd.pd G))) (.list (ys.map (Pd.pd G))) = decide (xs = ys) := eqvAll_is xs ys
  rw [this]; exact q
theorem r_eqL (hS : Sep H L) (e1 : L[i]? = some (lstA a xs)) (e2 : L[j]? = some (lstA b ys)) (l1 : layAllB xs = true) (l2 : layAllB ys = true) (d : Pd.dep G α + 1 ≤ 64) (Q : VK) (q : Q (.bl (decide (xs = ys))) H) : rEqD G.K (.ref a) (.ref b) H Q :=
  ev_eqL (σ := []) (ta := tC (.ref a)) (tb := tC (.ref b)) hS e1 e2 ev_c ev_c l1 l2 d Q q
theorem ev_neL (hS : Sep H L) (e1 : L[i]? = some (lstA a xs)) (e2 : L[j]? = some (lstA b ys)) (ha : Ev ta σ H (.ref a)) (hb : Ev tb σ H (.ref b)) (l1 : layAllB xs = true) (l2 : layAllB ys = true) (d : Pd.dep G α + 1 ≤ 64) :
    Ev (tOp (rNeD G.K) ta tb) σ H (.bl (!decide (xs = ys))) := ev_op ha hb fun Q q => by
  obtain ⟨vs, s1, m1⟩ := hS.sq e1
  obtain ⟨ws, s2, m2⟩ := hS.sq e2
  refine ⟨_, _, .lst s1 (dpAll m1), .lst s2 (dpAll m2), shapedL l1 d, shapedL l2 d, ?_⟩
  have : PyData.eqv (.list (xs.map (Pd.pd G))) (.list (ys.map (Pd.pd G))) = decide (xs = ys) := eqvAll_is xs ys
  rw [this]; exact q
theorem r_neL (hS : Sep H L) (e1 : L[i]? = some (lstA a xs)) (e2 : L[j]? = some (lstA b ys)) (l1 : layAllB xs = true) (l2 : layAllB ys = true) (d : Pd.dep G α + 1 ≤ 64) (Q : VK) (q : Q (.bl (!decide (xs = ys))) H) : rNeD G.K (.ref a) (.ref b) H Q :=
  ev_neL (σ := []) (ta := tC (.ref a)) (tb := tC (.ref b)) hS e1 e2 ev_c ev_c l1 l2 d Q q
end
/-! ### in, isinstance -/
section
variable {H : Hp} {L : List (Asn G)} {σ : St} {ta tb : TE} {a : Addr} {i : Nat}
theorem inV_str (x : Str) : ∀ ys : List Str, inV (.str x) (ys.map V.str) = decide (x ∈ ys)
  | [] => rfl
  | y :: ys => by
    have ih := inV_str x ys
    unfold inV at ih ⊢
    rw [List.map_cons, List.any_cons, ih]
    show ((y == x) || _) = _
    by_cases h : y = x
    · subst h; simp
    · have h' : ¬ x = y := fun e => h e.symm
      simp [h, h']
theorem flat_str : ∀ ys : List Str, (ys.map V.str).all flatV = true
  | [] => rfl
  | y :: ys => by rw [List.map_cons, List.all_cons, flat_str ys]; rfl
theorem ev_inL {x : Str} {ys : List Str} (hS : Sep H L) (e : L[i]? = some (lstA a ys)) (ha : Ev ta σ H (.str x)) (hb : Ev tb σ H (.ref a)) : Ev (tOp (rIn G.K false) ta tb) σ H (.bl (decide (x ∈ ys))) := ev_op ha hb fun Q q =>
  ⟨a, ys.map V.str, rfl, .inl (hS.sqF e), rfl, flat_str ys, by
    show Q (.bl (inV (.str x) (ys.map V.str))) H
    rw [inV_str]; exact q⟩
theorem ev_niL {x : Str} {ys : List Str} (hS : Sep H L) (e : L[i]? = some (lstA a ys)) (ha : Ev ta σ H (.str x)) (hb : Ev tb σ H (.ref a)) : Ev (tOp (rIn G.K true) ta tb) σ H (.bl (!decide (x ∈ ys))) := ev_op ha hb fun Q q =>
  ⟨a, ys.map V.str, rfl, .inl (hS.sqF e), rfl, flat_str ys, by
    show Q (.bl (!inV (.str x) (ys.map V.str))) H
    rw [inV_str]; exact q⟩
theorem ev_isi {x : V} {T U : String} {b : Bool} (ha : Ev ta σ H x) (hb : Ev tb σ H (.ty U)) (t : TyX G.K H x (.type T)) (e : kitB T U = some b) : Ev (tCB (rIsi G.K) (tCons ta (tCons tb tNil))) σ H (.bl b) :=
  ev_cb (ea_cons ha (ea_cons hb ea_nil)) fun Q q => ⟨x, .ty U, _, _, b, rfl, .ty U, t, kit_ty e, q⟩
theorem ty_lst {α : Type} [Im G α] {xs : List α} (hS : Sep H L) (e : L[i]? = some (lstA a xs)) : TyX G.K H (.ref a) (.type "list") := by
  obtain ⟨vs, h, _⟩ := hS.lst e
  exact .base (.lst h)
theorem ty_dict {κ β : Type} [DecidableEq κ] [Kx κ] [Im G β] {xs : List (κ × β)} (hS : Sep H L) (e : L[i]? = some (dictA a xs)) : TyX G.K H (.ref a) (.type "dict") := by
  obtain ⟨vs, h, _⟩ := hS.dict e
  exact .base (.dK h)
end
end Ml

namespace Ml
open PySem L2
variable {G : Gx}
section
variable {σ σ' : St} {H : Hp} {L L' M : List (Asn G)} {D : Ends} {Q : VK} {te : TE} {tt : TT} {tb : TS} {α β τ ρ : Type} {i : Nat} {v : V} {vs : List Nat}
theorem c_gN {P : St → Hp → Prop} (e : σ.set i (some v) = σ') (h : P σ' H) : gName i v σ H P := by
  show P (σ.set i (some v)) H
  rw [e]; exact h
theorem c_gLc {P : Bool → Hp → Prop} (e : (wipe σ vs).set i (some v) = σ') (hw : wipe σ' vs = wipe σ vs) (h : tt σ' H P) : gName i v (wipe σ vs) H fun σ2 H2 => wipe σ2 vs = wipe σ vs ∧ tt σ2 H2 P := by
  show wipe ((wipe σ vs).set i (some v)) vs = wipe σ vs ∧ tt ((wipe σ vs).set i (some v)) H P
  rw [e]; exact ⟨hw, h⟩
theorem c_yes {A B : Hp → Prop} (h : A H) : tYes σ H fun b H3 => if b = true then A H3 else B H3 := h
theorem lc_app [Im G β] {Dr : Addr} {ys : List β} {y : β} {u : V} (hS : Sep H (lstA Dr ys :: M)) (hu : Im.im G H u y) : ∃ acc, H Dr = some (.lst acc) ∧ acc.length = ys.length ∧ Sep (upd H Dr (.lst (acc ++ [u]))) (lstA Dr (ys ++ [y]) :: M) := by
  obtain ⟨acc, h, m⟩ := hS.lst (i := 0) rfl
  exact ⟨acc, h, m.len, hS.putL (i := 0) rfl (m.app (vs := acc) (ws := [u]) ⟨hu, True.intro⟩)⟩
theorem st_nx (h : D.nx σ H) : tNext D σ H := h
def sq (t : TS) (D : Ends) : Ends := { D with nx := t D }
theorem f_seq {t1 t2 : TS} (h : t1 (sq t2 D) σ H) : tSeq t1 t2 D σ H := h
theorem sq_nx {t2 : TS} (h : t2 D σ H) : (sq t2 D).nx σ H := h
def forK (g : TG) (tb : TS) (D : Ends) (σ : L2.St) : It → Hp → Prop := fun J H1 => ∃ W : Nat → Nat → L2.St → Hp → Prop, (∃ m, W 0 m σ H1) ∧ ∀ i m σ H, W i m σ H →
  (J.stop i H ∧ D.nx σ H) ∨ (J.go i H ∧ ∃ N : L2.St → Hp → Prop, (∀ σ' H', N σ' H' → ∃ m', m' < m ∧ W (i + 1) m' σ' H') ∧ ∀ x H', J.yld i H x H' → g x σ H' fun σ2 H2 => tb { D with nx := N, ct := N, bk := D.nx } σ2 H2)
def loopD (D : Ends) (N B : L2.St → Hp → Prop) : Ends := { D with nx := N, ct := N, bk := B }
theorem c_for {wi : TI} {g : TG} (h : wi σ H (forK g tb D σ)) : tFor wi g tb D σ H := h
def lcK (g : TG) (tt : TT) (te : TE) (vs : List Nat) (σ : L2.St) (Q : VK) : It → Hp → Prop := fun J H1 => ∀ D, H1 D = none → ∃ W : Nat → Nat → Hp → Prop, (∃ m, W 0 m (upd H1 D (.lst []))) ∧ ∀ i m H, W i m H →
  (J.stop i H ∧ Q (.ref D) H) ∨ (J.go i H ∧ ∃ Nx : Hp → Prop, (∀ H', Nx H' → ∃ m', m' < m ∧ W (i + 1) m' H') ∧ ∀ x H', J.yld i H x H' → g x (wipe σ vs) H' fun σ2 H2 => wipe σ2 vs = wipe σ vs ∧ tt σ2 H2 fun b H3 =>
    if b = true then te σ2 H3 fun y H4 => ∃ acc, H4 D = some (.lst acc) ∧ acc.length < sizeLine ∧ Nx (upd H4 D (.lst (acc ++ [y]))) else Nx H3)
theorem c_lc {wi : TI} {g : TG} (h : wi σ H (lcK g tt te vs σ Q)) : tLc wi g tt te vs σ H Q := h
def rng1K (R : It → Hp → Prop) : List V → Hp → Prop := fun vs H1 => ∃ j : Int, vs = [.int j] ∧ -(2 ^ 62) ≤ j ∧ j < 2 ^ 62 ∧ R (Itr 0 j.toNat) H1
def rng2K (R : It → Hp → Prop) : List V → Hp → Prop := fun vs H1 => ∃ i j : Int, vs = [.int i, .int j] ∧ (-(2 ^ 62) ≤ i ∧ i < 2 ^ 62 ∧ -(2 ^ 62) ≤ j ∧ j < 2 ^ 62) ∧ R (Itr i (j - i).toNat) H1
def ilK (K : PySem.W.Frag) (R : It → Hp → Prop) : VK := fun x H1 => ∃ a, x = .ref a ∧ (∃ xs, SqL K H1 a xs) ∧ R (Itl K a) H1
def isK (R : It → Hp → Prop) : VK := fun v H1 => ∃ x, v = .str x ∧ R (Its x) H1
theorem c_rng1 {ta : TA} {R : It → Hp → Prop} (h : ta σ H (rng1K R)) : iRng1 ta σ H R := h
theorem c_rng2 {ta : TA} {R : It → Hp → Prop} (h : ta σ H (rng2K R)) : iRng2 ta σ H R := h
theorem c_il {K : PySem.W.Frag} {R : It → Hp → Prop} (h : te σ H (ilK K R)) : iList K te σ H R := h
theorem c_is {R : It → Hp → Prop} (h : te σ H (isK R)) : iStr te σ H R := h
theorem k_rng1 {R : It → Hp → Prop} {j : Int} (h1 : -(2 ^ 62) ≤ j) (h2 : j < 2 ^ 62) (h : R (Itr 0 j.toNat) H) : rng1K R [.int j] H := ⟨j, rfl, h1, h2, h⟩
theorem k_rng2 {R : It → Hp → Prop} {i j : Int} (h1 : -(2 ^ 62) ≤ i) (h2 : i < 2 ^ 62) (h3 : -(2 ^ 62) ≤ j) (h4 : j < 2 ^ 62) (h : R (Itr i (j - i).toNat) H) : rng2K R [.int i, .int j] H := ⟨i, j, rfl, ⟨h1, h2, h3, h4⟩, h⟩
theorem k_il [Im G α] {a : Addr} {xs : List α} {R : It → Hp → Prop} (hS : Sep H L) (e : L[i]? = some (lstA a xs)) (h : R (Itl G.K a) H) : ilK G.K R (.ref a) H := by
  obtain ⟨vs, s, _⟩ := hS.sq e
  exact ⟨a, rfl, ⟨vs, s⟩, h⟩
theorem k_is {z : Str} {R : It → Hp → Prop} (h : R (Its z) H) : isK R (.str z) H := ⟨z, rfl, h⟩
/-- for .. in .. -/
theorem k_for {J : It} {g : TG} {im : Hp → V → α → Prop} {xs : List α} {f : τ → α → R τ} {rest : τ → R ρ} {q : ρ → Prop} {e : Exc → Prop} {s : τ} (I : τ → L2.St → Hp → Prop)
    (w : ∀ s, Wk J (I s) im xs) (h0 : I s σ H) (hm : R.wp ((forR f xs s).bind rest) q e)
    (turn : ∀ (s : τ) (x : α) (v : V) (σ : L2.St) (H : Hp) (q : τ → Prop) (N : L2.St → Hp → Prop), I s σ H → im H v x → R.wp (f s x) q e → (∀ s' σ' H', q s' → I s' σ' H' → N σ' H') → g v σ H fun σ2 H2 => tb (loopD D N D.nx) σ2 H2)
    (done : ∀ s σ H, R.wp (rest s) q e → I s σ H → D.nx σ H) : forK g tb D σ J H :=
  for_walk (I := I) w h0 (R.wp_bind hm) turn done
theorem lp_nx {N B : L2.St → Hp → Prop} (h : N σ H) : (loopD D N B).nx σ H := h
theorem lp_ct {N B : L2.St → Hp → Prop} (h : N σ H) : tCont (loopD D N B) σ H := h
theorem lp_bk {N B : L2.St → Hp → Prop} (h : B σ H) : tBreak (loopD D N B) σ H := h
/-- a comprehension over owned things -/
theorem lc_sep [Im G β] {J : It} {im : Hp → V → α → Prop} {xs : List α} {f : τ → α → R (τ × Option β)} {rest : τ × List β → R ρ} {q : ρ → Prop} {e : Exc → Prop} {s : τ} (M : τ → List (Asn G))
    (hS : Sep H (M s)) (w : ∀ (Dr : Addr) (s : τ) (ys : List β), Wk J (fun (_ : St) H => Sep H (lstA Dr ys :: M s)) im xs) (hl : xs.length ≤ sizeLine) (hm : R.wp ((compR f xs s).bind rest) q e)
    (turn : ∀ (Dr : Addr) (s : τ) (ys : List β) (x : α) (v : V) (H : Hp) (q : τ × Option β → Prop) (Nx : Hp → Prop), Sep H (lstA Dr ys :: M s) → im H v x → R.wp (f s x) q e →
      (∀ s' y u H', q (s', some y) → Im.im G H' u y → Sep H' (lstA Dr ys :: M s') → ∃ acc, H' Dr = some (.lst acc) ∧ acc.length < sizeLine ∧ Nx (upd H' Dr (.lst (acc ++ [u])))) → (∀ s' H', q (s', none) → Sep H' (lstA Dr ys :: M s') → Nx H') →
      gName i v (wipe σ vs) H fun σ2 H2 => wipe σ2 vs = wipe σ vs ∧ tt σ2 H2 fun b H3 => if b = true then te σ2 H3 fun y H4 => ∃ acc, H4 Dr = some (.lst acc) ∧ acc.length < sizeLine ∧ Nx (upd H4 Dr (.lst (acc ++ [y]))) else Nx H3)
    (done : ∀ (Dr : Addr) (t : τ × List β) H, R.wp (rest t) q e → Sep H (lstA Dr t.2 :: M t.1) → Q (.ref Dr) H) :
    lcK (gName i) tt te vs σ Q J H := fun Dr hD =>
  lc_walk (G := G) (I := fun Dr s ys H => Sep H (lstA Dr ys :: M s)) (im := im) (xs := xs) (f := f) (k := fun t => R.wp (rest t) q e) (e := e) (s := s) (w Dr)
    (hS.newL (vs := []) (xs := ([] : List β)) hD True.intro) (R.wp_bind hm) hl
    (fun s ys x v H q Nx hI hv hw _ k1 k2 => turn Dr s ys x v H q Nx hI hv hw k1 k2)
    (fun s ys y u H hI hu => lc_app hI hu)
    (fun s ys H hk hI => done Dr (s, ys) H hk hI)
theorem c_aug {ti : TIp} {x : V} (e : σ[i]? = some (some x)) (h : te σ H fun y H1 => ti x y H1 fun z H2 => D.nx (σ.set i (some z)) H2) : tAug i te ti D σ H := ⟨x, e, h⟩
theorem c_asgS {to ti : TE} {t : TSet} (h : te σ H fun v H1 => to σ H1 fun o H2 => ti σ H2 fun j H3 => t o j v H3 fun H4 => D.nx σ H4) : tAsg te (gSub to ti t) D σ H := h
def ipS : TIp := fun x y H Q => ∃ i j, x = .str i ∧ y = .str j ∧ i.length + j.length ≤ sizeLine ∧ Q (.str (i ++ j)) H
theorem ip_catS {X : Cx} : PIp X .Add ipS := iop_add_str
theorem mt_joinS {X : Cx} : MtR X "str.join" (rJoin X.K) := mt_join
theorem m2 {X : Cx} {o : Expr} {m : Str} {apos : Pos} {e f : Expr} {cpos : Pos} (base : attributeBase o m X.env (eval o X.env) = eval o X.env := by rfl)
  (few : ((backTo cpos (starEach [e, f] X.env)).all (fun x => !x.1) && (backToKw cpos (keywordEach [] X.env)).all (fun x => x.1.isSome)
    && decide (([e, f] : List Expr).length + ([] : List Keyword).length + (if ([] : List Keyword).isEmpty then 0 else 1) < 30)) = true := by rfl)
  (line : (apos.endLine == cpos.line) = true := by rfl) (trees : backTo cpos (starEach [e, f] X.env) = [(false, eval e X.env), (false, eval f X.env)] := by rfl) : M2 X o m apos e f cpos := ⟨base, few, line, trees⟩
def ixR {α : Type} (xs : List α) (i : Int) : R Nat := match ixN xs.length i with
  | some j => .ok j
  | none => .bad
theorem wp_ix {xs : List α} {i : Int} {f : Nat → R ρ} {q : ρ → Prop} {e : Exc → Prop} (h : R.wp ((ixR xs i).bind f) q e) : ∃ j, ixN xs.length i = some j ∧ R.wp (f j) q e := by
  unfold ixR at h
  cases c : ixN xs.length i with
  | some x => rw [c] at h; exact ⟨x, rfl, h⟩
  | none => rw [c] at h; exact h.elim
theorem r_ixSq {K : PySem.W.Frag} {p : Addr} {ws : List V} {i : Int} (hs : SqL K H p ws) (e : atI ws i = some v) (Q : VK) (q : Q v H) : rIxL K (.ref p) (.int i) H Q := ⟨p, ws, i, v, rfl, rfl, hs, e, q⟩
theorem ev_lenLm {K : PySem.W.Frag} {ta : TE} {p : Addr} {xs : List α} {f : α → V} (ha : Ev ta σ H (.ref p)) (hs : SqL K H p (xs.map f)) : Ev (tCB (rLenSq K) (tCons ta tNil)) σ H (.int xs.length) := by
  have := ev_lenL ha hs
  rw [List.length_map] at this
  exact this
theorem ev_m0 {r : V → List V → Hp → VK → Prop} {to : TE} {a : Str} (h1 : Ev to σ H (.str a)) (h : ∀ Q : VK, Q v H → r (.str a) [] H Q) : Ev (tM0 r to) σ H v := fun Q q => c_m0 h1 (h Q q)
theorem ev_m1 {r : V → List V → Hp → VK → Prop} {to ti : TE} {a : Str} {y : V} (h1 : Ev to σ H (.str a)) (h2 : Ev ti σ H y) (h : ∀ Q : VK, Q v H → r (.str a) [y] H Q) : Ev (tM1 r to ti) σ H v := fun Q q => c_m1 h1 (h2 _ (h Q q))
theorem k_lenL [Im G α] {a : Addr} {xs : List α} (hS : Sep H L) (e : L[i]? = some (lstA a xs)) (q : Q (.int xs.length) H) : rLenSq G.K [.ref a] H Q := by
  obtain ⟨vs, h, m⟩ := hS.sq e
  exact ⟨a, vs, rfl, .inl h, by rw [m.len]; exact q⟩
end
end Ml

namespace Ml
open PySem L2
variable {G : Gx}
/-! ### ends that stay folded -/
def andK (u : TT) (σ : St) (P : Bool → Hp → Prop) : Bool → Hp → Prop := fun c H => if c = true then u σ H P else P false H
def orK (u : TT) (σ : St) (P : Bool → Hp → Prop) : Bool → Hp → Prop := fun c H => if c = true then P true H else u σ H P
def notK (P : Bool → Hp → Prop) : Bool → Hp → Prop := fun c H => P (!c) H
def ifK (t1 t2 : TS) (D : Ends) (σ : St) : Bool → Hp → Prop := fun c H => if c = true then t1 D σ H else t2 D σ H
def ifE (ta tb : TE) (σ : St) (Q : VK) : Bool → Hp → Prop := fun c H => if c = true then ta σ H Q else tb σ H Q
/-- a value that is a Bool -/
def blK (P : Bool → Hp → Prop) : VK := fun x H => ∃ k, x = .bl k ∧ P k H
/-- a Bool as a value -/
def vK (Q : VK) : Bool → Hp → Prop := fun b H => Q (.bl b) H
def andVK (tb : TE) (σ : St) (Q : VK) : VK := fun x H => ∃ c, x = .bl c ∧ if c = true then tb σ H Q else Q (.bl false) H
def orVK (tb : TE) (σ : St) (Q : VK) : VK := fun x H => ∃ c, x = .bl c ∧ if c = true then Q (.bl true) H else tb σ H Q
def notVK (Q : VK) : VK := fun x H => ∃ c, x = .bl c ∧ Q (.bl (!c)) H
section
variable {σ : St} {H : Hp} {L : List (Asn G)} {D : Ends} {Q : VK} {P : Bool → Hp → Prop} {t u : TT} {t1 t2 : TS} {ta tb te : TE} {ρ τ : Type} {a b : Bool} {v w : V}
theorem f_and (h : t σ H (andK u σ P)) : tAnd t u σ H P := h
theorem f_or (h : t σ H (orK u σ P)) : tOr t u σ H P := h
theorem f_not (h : t σ H (notK P)) : tNot t σ H P := h
theorem f_if (h : t σ H (ifK t1 t2 D σ)) : tIfS t t1 t2 D σ H := h
theorem f_ifE (h : t σ H (ifE ta tb σ Q)) : tIf t ta tb σ H Q := h
theorem f_test (h : te σ H (blK P)) : tTest te σ H P := h
theorem f_B (h : te σ H (blK P)) : tB te σ H P := h
theorem f_bl (h : P b H) : blK P (.bl b) H := ⟨b, rfl, h⟩
theorem f_andV (h : ta σ H (andVK tb σ Q)) : tAndV ta tb σ H Q := h
theorem f_orV (h : ta σ H (orVK tb σ Q)) : tOrV ta tb σ H Q := h
theorem f_notV (h : ta σ H (notVK Q)) : tNotV ta σ H Q := h
theorem f_nV (h : Q (.bl (!b)) H) : notVK Q (.bl b) H := ⟨b, rfl, h⟩
theorem f_nK (h : P (!b) H) : notK P b H := h
/-! known answers -/
theorem andK_t (h : u σ H P) : andK u σ P true H := h
theorem andK_f (h : P false H) : andK u σ P false H := h
theorem orK_f (h : u σ H P) : orK u σ P false H := h
theorem orK_t (h : P true H) : orK u σ P true H := h
theorem andVK_t (h : tb σ H Q) : andVK tb σ Q (.bl true) H := ⟨true, rfl, h⟩
theorem andVK_f (h : Q (.bl false) H) : andVK tb σ Q (.bl false) H := ⟨false, rfl, h⟩
theorem orVK_f (h : tb σ H Q) : orVK tb σ Q (.bl false) H := ⟨false, rfl, h⟩
theorem orVK_t (h : Q (.bl true) H) : orVK tb σ Q (.bl true) H := ⟨true, rfl, h⟩
theorem ifK_t (h : t1 D σ H) : ifK t1 t2 D σ true H := h
theorem ifK_f (h : t2 D σ H) : ifK t1 t2 D σ false H := h
theorem ifE_t (h : ta σ H Q) : ifE ta tb σ Q true H := h
theorem ifE_f (h : tb σ H Q) : ifE ta tb σ Q false H := h
/-! two ways, joined behind -/
variable {A B : R Bool} {rest : Bool → R ρ} {q : ρ → Prop} {e : Exc → Prop}
theorem andK_J (hm : R.wp ((if a = true then A else .ok false).bind rest) q e) (hS : Sep H L)
    (h1 : a = true → ∀ q' : Bool → Prop, R.wp A q' e → (∀ b H', q' b → Sep H' L → P b H') → u σ H P) (k : ∀ b H', R.wp (rest b) q e → Sep H' L → P b H') : andK u σ P a H := by
  have hm' := R.wp_bind hm
  cases a with
  | true => exact h1 rfl _ hm' k
  | false => exact k false H hm' hS
theorem orK_J (hm : R.wp ((if a = true then .ok true else A).bind rest) q e) (hS : Sep H L)
    (h1 : a = false → ∀ q' : Bool → Prop, R.wp A q' e → (∀ b H', q' b → Sep H' L → P b H') → u σ H P) (k : ∀ b H', R.wp (rest b) q e → Sep H' L → P b H') : orK u σ P a H := by
  have hm' := R.wp_bind hm
  cases a with
  | true => exact k true H hm' hS
  | false => exact h1 rfl _ hm' k
theorem andVK_J (hm : R.wp ((if a = true then A else .ok false).bind rest) q e) (hS : Sep H L)
    (h1 : a = true → ∀ q' : Bool → Prop, R.wp A q' e → (∀ b H', q' b → Sep H' L → Q (.bl b) H') → tb σ H Q) (k : ∀ b H', R.wp (rest b) q e → Sep H' L → Q (.bl b) H') : andVK tb σ Q (.bl a) H := by
  have hm' := R.wp_bind hm
  refine ⟨a, rfl, ?_⟩
  cases a with
  | true => exact h1 rfl _ hm' k
  | false => exact k false H hm' hS
theorem orVK_J (hm : R.wp ((if a = true then .ok true else A).bind rest) q e) (hS : Sep H L)
    (h1 : a = false → ∀ q' : Bool → Prop, R.wp A q' e → (∀ b H', q' b → Sep H' L → Q (.bl b) H') → tb σ H Q) (k : ∀ b H', R.wp (rest b) q e → Sep H' L → Q (.bl b) H') : orVK tb σ Q (.bl a) H := by
  have hm' := R.wp_bind hm
  refine ⟨a, rfl, ?_⟩
  cases a with
  | true => exact k true H hm' hS
  | false => exact h1 rfl _ hm' k
theorem ifK_2 (h1 : a = true → t1 D σ H) (h2 : a = false → t2 D σ H) : ifK t1 t2 D σ a H := by
  cases a with
  | true => exact h1 rfl
  | false => exact h2 rfl
theorem ifK_J {A B : R τ} {rest : τ → R ρ} (J : τ → St → Hp → Prop) (hm : R.wp ((if a = true then A else B).bind rest) q e)
    (h1 : a = true → ∀ q' : τ → Prop, R.wp A q' e → (∀ s σ' H', q' s → J s σ' H' → D.nx σ' H') → t1 D σ H)
    (h2 : a = false → ∀ q' : τ → Prop, R.wp B q' e → (∀ s σ' H', q' s → J s σ' H' → D.nx σ' H') → t2 D σ H)
    (k : ∀ s σ' H', R.wp (rest s) q e → J s σ' H' → D.nx σ' H') : ifK t1 t2 D σ a H := by
  have hm' := R.wp_bind hm
  cases a with
  | true => exact h1 rfl _ hm' k
  | false => exact h2 rfl _ hm' k
/-! a name for what was reckoned -/
theorem wp_let {α : Type} {x : α} {f : α → R ρ} (hm : R.wp ((R.ok x).bind f) q e) : ∃ y, x = y ∧ R.wp (f y) q e := ⟨x, rfl, hm⟩
theorem ev_is (h : Ev te σ H v) (e : v = w) : Ev te σ H w := by rw [← e]; exact h
theorem q_is (e : v = w) (h : Q w H) : Q v H := by rw [e]; exact h
theorem n_is {i : Nat} (e : v = w) (h : D.nx (σ.set i (some w)) H) : D.nx (σ.set i (some v)) H := by rw [e]; exact h
theorem p_is (e : a = b) (h : P b H) : P a H := by rw [e]; exact h
/-- [elt ..] with a test: the two ways -/
theorem lc_if {A B : Prop} (h1 : a = true → A) (h2 : a = false → B) : if a = true then A else B := by
  cases a with
  | true => exact h1 rfl
  | false => exact h2 rfl
end
end Ml

namespace Ml
open PySem L2
/-! ### the layer's rules with the written part by its name -/
section
variable {X : Cx} (K : PySem.W.Frag) (hK : X.K = K := by rfl)
include hK
theorem ix_listK : IxR X (rIxL K) := by subst hK; exact ix_list
theorem ix_tupK : IxR X (rIxT K) := by subst hK; exact ix_tup
theorem sl_listK : SlR X (rSlL K) := by subst hK; exact sl_list
theorem lenSqK : CallR X (.builtin "len") (rLenSq K) := by subst hK; exact call_lenSq
theorem listSqK : CallR X (.type "list") (rListSq K) := by subst hK; exact call_listSq
theorem isiK : CallR X (.builtin "isinstance") (rIsi K) := by subst hK; exact call_isi
theorem inSqK : OpR X (compareOp .In) (rIn K false) := by subst hK; exact op_in_seq
theorem niSqK : OpR X (compareOp .NotIn) (rIn K true) := by subst hK; exact op_notIn_seq
theorem joinK : MtR X "str.join" (rJoin K) := by subst hK; exact mt_joinS
end
theorem eqDK {X : Cx} (K : PySem.W.Frag) (hu : X.A.units + 64 < cLine) (hK : X.K = K := by rfl) : OpR X (compareOp .Eq) (rEqD K) := by subst hK; exact op_eqD hu
theorem neDK {X : Cx} (K : PySem.W.Frag) (hu : X.A.units + 64 < cLine) (hK : X.K = K := by rfl) : OpR X (compareOp .NotEq) (rNeD K) := by subst hK; exact op_neD hu
theorem allK {X : Cx} (K : PySem.W.Frag) (hc : X.calm = true) (hK : X.K = K := by rfl) : CallR X (.builtin "all") (rAll K) := by subst hK; exact cr_all hc
theorem anyK {X : Cx} (K : PySem.W.Frag) (hc : X.calm = true) (hK : X.K = K := by rfl) : CallR X (.builtin "any") (rAny K) := by subst hK; exact cr_any hc
theorem pi_listK {X : Cx} {tg e : Expr} {tl : TE} (K : PySem.W.Frag) (h : PE X e tl) (hK : X.K = K := by rfl) : PI X tg e (iList K tl) := by subst hK; exact pi_list h
section
variable {X : Cx} {T : String} {name : Str} {id : String} {r : V → List V → Hp → VK → Prop} {o e : Expr} {es : List Expr} {to : TE} {t : TA} {apos cpos : Pos}
theorem pe_bm0K (K : PySem.W.Frag) (pa : PlainAttrs T) (slot : Slot T name id) (hty : typeOf (.builtin id) = pure (.type "method_descriptor")) (hm : MtR X id r) (ho : PE X o to) (hK : X.K = K := by rfl)
    (hbase : attributeBase o name X.env (eval o X.env) = eval o X.env := by rfl) (hline : (apos.endLine == cpos.line) = true := by rfl) :
    PE X (.Call (.Attribute o name apos) [] [] cpos) (tBM0 K T r to) := by subst hK; exact pe_bm0 pa slot hty hm ho hbase hline
theorem pe_bmK (K : PySem.W.Frag) (pa : PlainAttrs T) (slot : Slot T name id) (hty : typeOf (.builtin id) = pure (.type "method_descriptor")) (hm : MtR X id r) (ho : PE X o to) (ha : PA X (e :: es) t) (hK : X.K = K := by rfl)
    (hbase : attributeBase o name X.env (eval o X.env) = eval o X.env := by rfl)
    (hfew : ((backTo cpos (starEach (e :: es) X.env)).all (fun x => !x.1) && (backToKw cpos (keywordEach [] X.env)).all (fun x => x.1.isSome)
      && decide ((e :: es).length + ([] : List Keyword).length + (if ([] : List Keyword).isEmpty then 0 else 1) < 30)) = true := by rfl)
    (hline : (apos.endLine == cpos.line) = true := by rfl) (hs : starEach (e :: es) X.env = (false, eval e X.env) :: starEach es X.env := by rfl) (hplain : (backTo cpos (starEach es X.env)).any (·.1) = false := by rfl) :
    PE X (.Call (.Attribute o name apos) (e :: es) [] cpos) (tBM K T r to t) := by subst hK; exact pe_bm pa slot hty hm ho ha hbase hfew hline hs hplain
end
end Ml
namespace Ml
open PySem L2
theorem im_of_only {G : Gx} {H : Hp} {a : Addr} {ns : List Int} (hO : Only H) (hS : SqL G.K H a (ns.map V.int)) : Im.im G H (.ref a) (⟨ns⟩ : Script) := by
  refine ⟨a, rfl, ?_⟩
  rcases hS with (h | ⟨o, h⟩) | h
  · rcases hO a with z | ⟨o, xs, z⟩
    · rw [h] at z; cases z
    · rw [h] at z; cases z
  · exact .inl ⟨o, h⟩
  · exact .inr h
end Ml

namespace Ml
open PySem L2
/-! ### xs[i] += y -/
def rGetL (o i : V) (H : Hp) (Q : VK) : Prop := ∃ p xs k v, o = .ref p ∧ i = .int k ∧ H p = some (.lst xs) ∧ 0 ≤ k ∧ k < 2 ^ 63 ∧ xs[k.toNat]? = some v ∧ Q v H
theorem get_list {X : Cx} : PGet X rGetL := by
  intro pins s σ H o i ov iv Q hI ho hi ⟨p, xs, k, v, e1, e2, hp, h0, h1, hx, hq⟩
  subst e1; subst e2
  cases ho; obtain ⟨t, rfl⟩ := hi
  have := hI.hok p _ hp
  simp only [ObjOk] at this
  obtain ⟨_, its, n, hv, hg⟩ := this
  have hw : ∃ u, its.toArray[k.toNat]? = some u ∧ RelV v u := by
    obtain ⟨u, hu, hr⟩ := Vals.get hv hx
    exact ⟨u, by simpa using hu, hr⟩
  obtain ⟨u, hu, hr⟩ := hw
  exact wpAny_getItem_list ⟨_, hg, rfl, n, rfl⟩ h0 h1 hu ⟨v, H, hI, hr, hq⟩
variable {G : Gx} {σ : St} {H : Hp} {L : List (Asn G)} {D : Ends} {Q : VK} {α ρ : Type} {v : V}
theorem c_augS {to ti te : TE} {tget : V → V → Hp → VK → Prop} {tip : TIp} {tset : TSet} (h : to σ H fun o H1 => ti σ H1 fun i H2 => tget o i H2 fun x H3 => te σ H3 fun y H4 => tip x y H4 fun z H5 => tset o i z H5 fun H6 => D.nx σ H6) :
    tAugS to ti te tget tip tset D σ H := h
/-- the item to be made anew -/
def ixA (xs : List α) (i : Int) : R (Nat × α) := if 0 ≤ i ∧ i < 2 ^ 63 then match xs[i.toNat]? with
  | some x => .ok (i.toNat, x)
  | none => .bad else .bad
theorem wp_ixA {xs : List α} {i : Int} {f : Nat × α → R ρ} {q : ρ → Prop} {e : Exc → Prop} (h : R.wp ((ixA xs i).bind f) q e) :
    ∃ j x, (0 ≤ i ∧ i < 2 ^ 63 ∧ i.toNat = j ∧ xs[i.toNat]? = some x ∧ ixN xs.length i = some j) ∧ R.wp (f (j, x)) q e := by
  unfold ixA at h
  by_cases c : 0 ≤ i ∧ i < 2 ^ 63
  · rw [if_pos c] at h
    cases d : xs[i.toNat]? with
    | some x =>
      rw [d] at h
      refine ⟨i.toNat, x, ⟨c.1, c.2, rfl, rfl, ?_⟩, h⟩
      have := (List.getElem?_eq_some_iff.mp d).1
      unfold ixN
      rw [if_pos c.1, if_pos (by omega)]
    | none => rw [d] at h; exact h.elim
  · rw [if_neg c] at h; exact h.elim
theorem k_getL [Fv G α] {n : Nat} {a : Addr} {xs : List α} {x : α} {i : Int} {j : Nat} (hS : Sep H L) (e : L[n]? = some (lstA a xs)) (h : 0 ≤ i ∧ i < 2 ^ 63 ∧ i.toNat = j ∧ xs[i.toNat]? = some x ∧ ixN xs.length i = some j)
    (k : Q (Fv.enc G x) H) : rGetL (.ref a) (.int i) H Q := by
  obtain ⟨vs, h1, m⟩ := hS.lst e
  obtain ⟨u, hu, hm⟩ := m.get h.2.2.2.1
  rw [Fv.im_iff] at hm
  subst hm
  exact ⟨a, vs, i, _, rfl, rfl, h1, h.1, h.2.1, hu, k⟩
theorem r_mod {i j : Int} (c : 0 < j) (q : Q (.int (i % j)) H) : rI (fun _ j => 0 < j) (fun i j => V.int (i % j)) (.int i) (.int j) H Q := ⟨i, j, rfl, rfl, c, q⟩
theorem r_mul {i j : Int} (c : CMul i j) (q : Q (.int (i * j)) H) : rI CMul (fun i j => V.int (i * j)) (.int i) (.int j) H Q := ⟨i, j, rfl, rfl, c, q⟩
theorem r_fdiv {i j : Int} (c : 0 < j ∧ j < 1073741824) (q : Q (.int (i / j)) H) : rI CDiv (fun i j => V.int (i / j)) (.int i) (.int j) H Q := ⟨i, j, rfl, rfl, c, q⟩
/-! ### the place of a text in a text -/
def rIndexS : V → List V → Hp → VK → Prop := fun x xs H Q => ∃ a b i rest, x = .str a ∧ xs = [.str b] ∧ Builtin.Str.occurrences a b 0 a.length 1 = i :: rest ∧ Q (.int i) H
theorem mt_sindexR {X : Cx} : MtR X "str.index" rIndexS := mt_sindex
def indexR (a b : Str) : R Int := match Builtin.Str.occurrences a b 0 a.length 1 with
  | i :: _ => .ok i
  | [] => .bad
theorem wp_index {a b : Str} {f : Int → R ρ} {q : ρ → Prop} {e : Exc → Prop} (h : R.wp ((indexR a b).bind f) q e) :
    ∃ i, (∃ (j : Nat) (rest : List Nat), Builtin.Str.occurrences a b 0 a.length 1 = j :: rest ∧ i = (j : Int)) ∧ R.wp (f i) q e := by
  unfold indexR at h
  cases c : Builtin.Str.occurrences a b 0 a.length 1 with
  | cons x r => rw [c] at h; exact ⟨x, ⟨x, r, rfl, rfl⟩, h⟩
  | nil => rw [c] at h; exact h.elim
theorem ev_sindex {to ti : TE} {a b : Str} {i : Int} (h1 : Ev to σ H (.str a)) (h2 : Ev ti σ H (.str b)) (h : ∃ (j : Nat) (rest : List Nat), Builtin.Str.occurrences a b 0 a.length 1 = j :: rest ∧ i = (j : Int)) : Ev (tM1 rIndexS to ti) σ H (.int i) := by
  obtain ⟨j, rest, h3, rfl⟩ := h
  exact ev_m1 h1 h2 fun _ q => ⟨a, b, j, rest, rfl, rfl, h3, q⟩
end Ml

namespace Ml
open PySem L2
/-! ### things of any sort -/
inductive Any where
  | str (s : Str) | int (i : Int) | bl (b : Bool) | non | tup (xs : List Any) | oth (k : Nat)
section
variable (G : Gx)
mutual
def imAny (H : Hp) : V → Any → Prop
  | v, .str s => v = .str s
  | v, .int i => v = .int i
  | v, .bl b => v = .bl b
  | v, .non => v = .non
  | v, .tup xs => ∃ a vs, v = .ref a ∧ H a = some (.tup vs) ∧ imAnyL H vs xs
  | v, .oth k => ∃ a o, v = .ref a ∧ H a = some o ∧ kindOf o = k ∧ (k = 0 ∨ k = 1)
def imAnyL (H : Hp) : List V → List Any → Prop
  | [], [] => True
  | v :: vs, x :: xs => imAny H v x ∧ imAnyL H vs xs
  | _, _ => False
end
variable {G} {H H' : Hp}
mutual
theorem imAny.st : ∀ {v : V} {x : Any}, imAny H v x → Stab G H H' → imAny H' v x
  | v, .str s, h, _ => by rw [imAny] at h ⊢; exact h
  | v, .int i, h, _ => by rw [imAny] at h ⊢; exact h
  | v, .bl b, h, _ => by rw [imAny] at h ⊢; exact h
  | v, .non, h, _ => by rw [imAny] at h ⊢; exact h
  | v, .tup xs, h, s => by
    rw [imAny] at h ⊢
    obtain ⟨a, vs, e, g, m⟩ := h
    exact ⟨a, vs, e, s.1 a _ g rfl, imAnyL.st m s⟩
  | v, .oth k, h, s => by
    rw [imAny] at h ⊢
    obtain ⟨a, o, e, g, q, z⟩ := h
    obtain ⟨o', g', q'⟩ := s.2 a o g
    exact ⟨a, o', e, g', q'.trans q, z⟩
theorem imAnyL.st : ∀ {vs : List V} {xs : List Any}, imAnyL H vs xs → Stab G H H' → imAnyL H' vs xs
  | [], [], h, _ => h
  | v :: vs, x :: xs, h, s => by
    rw [imAnyL] at h ⊢
    exact ⟨imAny.st h.1 s, imAnyL.st h.2 s⟩
  | [], _ :: _, h, _ => by rw [imAnyL] at h; exact h.elim; all_goals simp
  | _ :: _, [], h, _ => by rw [imAnyL] at h; exact h.elim; all_goals simp
end
instance imAnyI : Im G Any := ⟨fun H v x => imAny H v x, fun h s => imAny.st h s⟩
end
variable {G : Gx} {H : Hp} {L : List (Asn G)}
theorem any_str {v : V} {s : Str} : Im.im G H v (Any.str s) ↔ v = .str s := by show imAny H v (.str s) ↔ _; rw [imAny]
theorem any_int {v : V} {s : Int} : Im.im G H v (Any.int s) ↔ v = .int s := by show imAny H v (.int s) ↔ _; rw [imAny]
theorem any_bl {v : V} {s : Bool} : Im.im G H v (Any.bl s) ↔ v = .bl s := by show imAny H v (.bl s) ↔ _; rw [imAny]
theorem any_non {v : V} : Im.im G H v Any.non ↔ v = .non := by show imAny H v .non ↔ _; rw [imAny]
theorem imAnyL_eq : ∀ {vs : List V} {xs : List Any}, imAnyL H vs xs ↔ imL (G := G) H vs xs
  | [], [] => by rw [imAnyL]; exact Iff.rfl
  | v :: vs, x :: xs => by
    rw [imAnyL]
    exact and_congr_right fun _ => imAnyL_eq (vs := vs) (xs := xs)
  | [], _ :: _ => ⟨fun h => by rw [imAnyL] at h; exact h.elim; all_goals simp, fun h => h.elim⟩
  | _ :: _, [] => ⟨fun h => by rw [imAnyL] at h; exact h.elim; all_goals simp, fun h => h.elim⟩
theorem any_tup {v : V} {xs : List Any} : Im.im G H v (Any.tup xs) ↔ ∃ a vs, v = .ref a ∧ H a = some (.tup vs) ∧ imL (G := G) H vs xs := by
  show imAny H v (.tup xs) ↔ _
  rw [imAny]
  exact exists_congr fun a => exists_congr fun vs => and_congr_right fun _ => and_congr_right fun _ => imAnyL_eq
theorem any_oth {v : V} {k : Nat} : Im.im G H v (Any.oth k) ↔ ∃ a o, v = .ref a ∧ H a = some o ∧ kindOf o = k ∧ (k = 0 ∨ k = 1) := by
  show imAny H v (.oth k) ↔ _
  rw [imAny]
def Any.ty : Any → String
  | .str _ => "str"
  | .int _ => "int"
  | .bl _ => "bool"
  | .non => "NoneType"
  | .tup _ => "tuple"
  | .oth 0 => "list"
  | .oth _ => "dict"
theorem ty_of_kind {K : PySem.W.Frag} {a : Addr} {o : HO} {k : Nat} (h : H a = some o) (e : kindOf o = k) (z : k = 0 ∨ k = 1) : TyX K H (.ref a) (.type (Any.oth k).ty) := by
  rcases z with rfl | rfl
  · cases o with
    | lst xs => exact .base (.lst h)
    | frz o x => cases x with
      | lst xs => exact .base (.frz h)
      | _ => cases e
    | _ => cases e
  · cases o with
    | dK xs => exact .base (.dK h)
    | dT xs => exact .base (.dT h)
    | frz o x => cases x with
      | lst xs => cases e
      | _ => cases e
    | _ => cases e
theorem ty_any {v : V} {x : Any} (h : Im.im G H v x) : TyX G.K H v (.type x.ty) := by
  cases x with
  | str s => rw [any_str] at h; subst h; exact .base (.str s)
  | int s => rw [any_int] at h; subst h; exact .base (.int s)
  | bl s => rw [any_bl] at h; subst h; exact .base (.bl s)
  | non => rw [any_non] at h; subst h; exact .base .non
  | tup xs => rw [any_tup] at h; obtain ⟨a, vs, rfl, g, _⟩ := h; exact .base (.tup g)
  | oth k => rw [any_oth] at h; obtain ⟨a, o, rfl, g, q, z⟩ := h; exact ty_of_kind g q z
/-- isinstance of a plain type -/
def Any.is (x : Any) (t : String) : Bool := x.ty == t || (x.ty == "bool" && t == "int")
theorem any_kit (x : Any) (t : String) (ht : t ∈ ["str", "int", "bool", "tuple", "list", "dict"]) : kitB x.ty t = some (x.is t) := by
  have : ∀ u, u ∈ ["str", "int", "bool", "tuple", "list", "dict", "NoneType"] → ∀ t, t ∈ ["str", "int", "bool", "tuple", "list", "dict"] → kitB u t = some (u == t || (u == "bool" && t == "int")) := by decide +kernel
  refine this _ ?_ t ht
  unfold Any.ty
  split <;> decide
theorem ev_isAny {σ : St} {ta tb : TE} {v : V} {x : Any} {t : String} (ha : Ev ta σ H v) (hb : Ev tb σ H (.ty t)) (h : Im.im G H v x) (ht : t ∈ ["str", "int", "bool", "tuple", "list", "dict"]) : Ev (tCB (rIsi G.K) (tCons ta (tCons tb tNil))) σ H (.bl (x.is t)) :=
  ev_isi ha hb (ty_any h) (any_kit x t ht)
end Ml
namespace Ml
open PySem L2
variable {G : Gx} {H : Hp} {L : List (Asn G)} {ρ : Type} {q : ρ → Prop} {e : Exc → Prop} {Q : VK} {σ : St}
def Any.asStr : Any → R Str
  | .str s => .ok s
  | _ => .bad
def Any.asInt : Any → R Int
  | .int s => .ok s
  | _ => .bad
def Any.asBl : Any → R Bool
  | .bl s => .ok s
  | _ => .bad
def Any.asTup : Any → R (List Any)
  | .tup s => .ok s
  | _ => .bad
theorem wp_asStr {x : Any} {f : Str → R ρ} (h : R.wp (x.asStr.bind f) q e) : ∃ s, x = .str s ∧ R.wp (f s) q e := by
  cases x with
  | str s => exact ⟨s, rfl, h⟩
  | _ => exact h.elim
theorem wp_asInt {x : Any} {f : Int → R ρ} (h : R.wp (x.asInt.bind f) q e) : ∃ s, x = .int s ∧ R.wp (f s) q e := by
  cases x with
  | int s => exact ⟨s, rfl, h⟩
  | _ => exact h.elim
theorem wp_asBl {x : Any} {f : Bool → R ρ} (h : R.wp (x.asBl.bind f) q e) : ∃ s, x = .bl s ∧ R.wp (f s) q e := by
  cases x with
  | bl s => exact ⟨s, rfl, h⟩
  | _ => exact h.elim
theorem wp_asTup {x : Any} {f : List Any → R ρ} (h : R.wp (x.asTup.bind f) q e) : ∃ s, x = .tup s ∧ R.wp (f s) q e := by
  cases x with
  | tup s => exact ⟨s, rfl, h⟩
  | _ => exact h.elim
theorem v_str {v : V} {x : Any} {s : Str} (h : Im.im G H v x) (e : x = .str s) : v = .str s := any_str.mp (e ▸ h)
theorem v_int {v : V} {x : Any} {s : Int} (h : Im.im G H v x) (e : x = .int s) : v = .int s := any_int.mp (e ▸ h)
theorem v_bl {v : V} {x : Any} {s : Bool} (h : Im.im G H v x) (e : x = .bl s) : v = .bl s := any_bl.mp (e ▸ h)
theorem any_lst {α : Type} [Im G α] {i : Nat} {a : Addr} {xs : List α} (hS : Sep H L) (e : L[i]? = some (lstA a xs)) : Im.im G H (.ref a) (Any.oth 0) := by
  obtain ⟨vs, h, _⟩ := hS.lst e
  exact any_oth.mpr ⟨a, _, rfl, h, rfl, .inl rfl⟩
theorem any_dict {κ β : Type} [DecidableEq κ] [Kx κ] [Im G β] {i : Nat} {a : Addr} {xs : List (κ × β)} (hS : Sep H L) (e : L[i]? = some (dictA a xs)) : Im.im G H (.ref a) (Any.oth 1) := by
  obtain ⟨vs, h, _⟩ := hS.dict e
  exact any_oth.mpr ⟨a, _, rfl, h, rfl, .inr rfl⟩
/-- a tuple, of things of any sort -/
theorem k_tupA {vs : List V} {xs : List Any} (hS : Sep H L) (m : imL (G := G) H vs xs) (hl : vs.length ≤ sizeLine) (k : ∀ p H', Sep H' (imA (.ref p) (Any.tup xs) :: L) → Q (.ref p) H') :
    tupK Q vs H :=
  ⟨hl, fun p hp => k p _ ((hS.more (same_new hp)).addIm (any_tup.mpr ⟨p, vs, rfl, upd_same, m.st (.of_same (same_new hp))⟩))⟩
/-- an item, of a list of things that stay -/
theorem k_ixL {α : Type} [Im G α] {n : Nat} {a : Addr} {xs : List α} {i : Int} {x : α} (hS : Sep H L) (e : L[n]? = some (lstA a xs)) (h : atI xs i = some x) (k : ∀ v, Sep H (imA v x :: L) → Q v H) : rIxL G.K (.ref a) (.int i) H Q := by
  obtain ⟨vs, hp, m⟩ := hS.lst e
  obtain ⟨v, hv, hi⟩ := atI_im m h
  exact ⟨a, vs, i, v, rfl, rfl, .inl (.inl hp), hv, k v (hS.addIm hi)⟩
end Ml

namespace Ml
open PySem L2
/-! ### plain lemmas: loops, items, texts -/
section
variable {α β σ ρ : Type}
theorem forR_ok {f : σ → α → R σ} (I : List α → σ → Prop) : ∀ {xs : List α} {s : σ} (pre : List α), I pre s → (∀ p x q s, pre ++ xs = p ++ x :: q → I p s → ∃ s', f s x = .ok s' ∧ I (p ++ [x]) s') → ∃ s', forR f xs s = .ok s' ∧ I (pre ++ xs) s'
  | [], s, pre, h0, _ => ⟨s, rfl, by rw [List.append_nil]; exact h0⟩
  | x :: xs, s, pre, h0, hs => by
    obtain ⟨s1, e1, h1⟩ := hs pre x xs s rfl h0
    obtain ⟨s2, e2, h2⟩ := forR_ok I (xs := xs) (s := s1) (pre ++ [x]) h1 fun p y q s e => hs p y q s (by rw [← e]; simp)
    refine ⟨s2, ?_, by rw [List.append_assoc] at h2; exact h2⟩
    show (f s x).bind _ = _
    rw [e1, R.bind_ok]; exact e2
theorem forR_inv {f : σ → α → R σ} {xs : List α} {s : σ} (I : List α → σ → Prop) (h0 : I [] s) (hs : ∀ p x q s, xs = p ++ x :: q → I p s → ∃ s', f s x = .ok s' ∧ I (p ++ [x]) s') : ∃ s', forR f xs s = .ok s' ∧ I xs s' := by
  obtain ⟨s', h1, h2⟩ := forR_ok I (xs := xs) (s := s) [] h0 fun p x q s e => hs p x q s (by simpa using e)
  exact ⟨s', h1, by simpa using h2⟩
/-- an invariant that does not look at the place -/
theorem forR_keep {f : σ → α → R σ} {xs : List α} {s : σ} (I : σ → Prop) (h0 : I s) (hs : ∀ x s, x ∈ xs → I s → ∃ s', f s x = .ok s' ∧ I s') : ∃ s', forR f xs s = .ok s' ∧ I s' :=
  forR_inv (fun _ s => I s) h0 fun p x q s e h => hs x s (by rw [e]; simp) h
theorem forR_foldl {f : σ → α → R σ} {g : σ → α → σ} {xs : List α} {s : σ} (h : ∀ s x, x ∈ xs → f s x = .ok (g s x)) : forR f xs s = .ok (xs.foldl g s) := by
  induction xs generalizing s with
  | nil => rfl
  | cons x xs ih =>
    show (f s x).bind _ = _
    rw [h s x (by simp), R.bind_ok]
    exact ih fun s y hy => h s y (by simp [hy])
theorem forF_inv {f : σ → α → R (Fl σ ρ)} (I : List α → σ → Prop) : ∀ {xs : List α} {s : σ} (pre : List α), I pre s → (∀ p x q s, pre ++ xs = p ++ x :: q → I p s → ∃ s', f s x = .ok (.go s') ∧ I (p ++ [x]) s') → ∃ s', forF f xs s = .ok (.go s') ∧ I (pre ++ xs) s'
  | [], s, pre, h0, _ => ⟨s, rfl, by rw [List.append_nil]; exact h0⟩
  | x :: xs, s, pre, h0, hs => by
    obtain ⟨s1, e1, h1⟩ := hs pre x xs s rfl h0
    obtain ⟨s2, e2, h2⟩ := forF_inv I (xs := xs) (s := s1) (pre ++ [x]) h1 fun p y q s e => hs p y q s (by rw [← e]; simp)
    refine ⟨s2, ?_, by rw [List.append_assoc] at h2; exact h2⟩
    show (f s x).bind _ = _
    rw [e1, R.bind_ok]; exact e2
/-- the loop goes on to its end -/
theorem forF_keep {f : σ → α → R (Fl σ ρ)} {xs : List α} {s : σ} (I : σ → Prop) (h0 : I s) (hs : ∀ x s, x ∈ xs → I s → ∃ s', f s x = .ok (.go s') ∧ I s') : ∃ s', forF f xs s = .ok (.go s') ∧ I s' := by
  obtain ⟨s', h1, h2⟩ := forF_inv (fun _ s => I s) (xs := xs) (s := s) [] h0 fun p x q s e h => hs x s (by rw [List.nil_append] at e; rw [e]; simp) h
  exact ⟨s', h1, h2⟩
theorem compR_map {f : Unit → α → R (Unit × Option β)} {g : α → β} {xs : List α} (h : ∀ x, x ∈ xs → f () x = .ok ((), some (g x))) : compR f xs () = .ok ((), xs.map g) := by
  induction xs with
  | nil => rfl
  | cons x xs ih =>
    show (f () x).bind _ = _
    rw [h x (by simp), R.bind_ok, ih fun y hy => h y (by simp [hy])]
    rfl
theorem compR_filterMap {f : Unit → α → R (Unit × Option β)} {g : α → Option β} {xs : List α} (h : ∀ x, x ∈ xs → f () x = .ok ((), g x)) : compR f xs () = .ok ((), xs.filterMap g) := by
  induction xs with
  | nil => rfl
  | cons x xs ih =>
    show (f () x).bind _ = _
    rw [h x (by simp), R.bind_ok, ih fun y hy => h y (by simp [hy])]
    cases e : g x with
    | none => simp [e]
    | some y => simp [e]
theorem compR_all {f : Unit → α → R (Unit × Option β)} {xs : List α} (P : β → Prop) (h : ∀ x, x ∈ xs → ∃ y, f () x = .ok ((), some y) ∧ P y) : ∃ ys, compR f xs () = .ok ((), ys) ∧ ys.length = xs.length ∧ ∀ y, y ∈ ys → P y := by
  induction xs with
  | nil => exact ⟨[], rfl, rfl, by simp⟩
  | cons x xs ih =>
    obtain ⟨y, e, p⟩ := h x (by simp)
    obtain ⟨ys, e2, l, q⟩ := ih fun z hz => h z (by simp [hz])
    refine ⟨y :: ys, ?_, by simp [l], fun z hz => ?_⟩
    · show (f () x).bind _ = _
      rw [e, R.bind_ok, e2]; rfl
    · rcases List.mem_cons.mp hz with rfl | hz
      · exact p
      · exact q z hz
/-- a comprehension that carries a state -/
theorem compR_keep {f : σ → α → R (σ × Option β)} {xs : List α} {s : σ} (I : σ → Prop) (P : β → Prop) (h0 : I s) (h : ∀ s x, x ∈ xs → I s → ∃ s' y, f s x = .ok (s', some y) ∧ I s' ∧ P y) : ∃ s' ys, compR f xs s = .ok (s', ys) ∧ I s' ∧ ys.length = xs.length ∧ ∀ y, y ∈ ys → P y := by
  induction xs generalizing s with
  | nil => exact ⟨s, [], rfl, h0, rfl, by simp⟩
  | cons x xs ih =>
    obtain ⟨s1, y, e, h1, p⟩ := h s x (by simp) h0
    obtain ⟨s2, ys, e2, h2, l, q⟩ := ih h1 fun s z hz => h s z (by simp [hz])
    refine ⟨s2, y :: ys, ?_, h2, by simp [l], fun z hz => ?_⟩
    · show (f s x).bind _ = _
      rw [e, R.bind_ok, e2]; rfl
    · rcases List.mem_cons.mp hz with rfl | hz
      · exact p
      · exact q z hz
theorem idxR_mem {xs : List α} {i : Int} (h0 : 0 ≤ i) (h1 : i < xs.length) : ∃ x, idxR xs i = .ok x ∧ x ∈ xs ∧ xs[i.toNat]? = some x := by
  obtain ⟨x, h, _⟩ := atI_ok h0 h1
  exact ⟨x, idxR_ok h0 h, List.mem_of_getElem? h, h⟩
theorem ixR_ok {xs : List α} {i : Int} (h0 : 0 ≤ i) (h1 : i < xs.length) : ixR xs i = .ok i.toNat := by
  unfold ixR ixN
  rw [if_pos h0, if_pos h1]
theorem mem_set {xs : List α} {j : Nat} {v x : α} (h : x ∈ xs.set j v) : x ∈ xs ∨ x = v := by
  rcases List.mem_or_eq_of_mem_set h with h | h
  · exact .inl h
  · exact .inr h
theorem cutL_sub {xs : List α} {lo hi : Option Int} : (cutL xs lo hi).Sublist xs := (List.take_sublist _ _).trans (List.drop_sublist _ _)
theorem cutL_mem {xs : List α} {lo hi : Option Int} {x : α} (h : x ∈ cutL xs lo hi) : x ∈ xs := cutL_sub.subset h
theorem cutL_len {xs : List α} {lo hi : Option Int} : (cutL xs lo hi).length ≤ xs.length := cutL_sub.length_le
theorem sIx_nn {n d : Nat} {i : Int} (h : 0 ≤ i) : HT.sIx n d (some i) = min i.toNat n := by
  show (if i < 0 then (i + (n : Int)).toNat else min i.toNat n) = _
  rw [if_neg (by omega)]
theorem cutL_to {xs : List α} {i : Int} (h : 0 ≤ i) : cutL xs none (some i) = xs.take i.toNat := by
  unfold cutL
  rw [sIx_nn h, HT.sIx_none, List.drop_zero, Nat.sub_zero]
  by_cases c : i.toNat ≤ xs.length
  · rw [Nat.min_eq_left c]
  · rw [Nat.min_eq_right (by omega), List.take_of_length_le (Nat.le_refl _), List.take_of_length_le (by omega)]
theorem cutL_from {xs : List α} {i : Int} (h : 0 ≤ i) : cutL xs (some i) none = xs.drop i.toNat := by
  unfold cutL
  rw [sIx_nn h, HT.sIx_none]
  by_cases c : i.toNat ≤ xs.length
  · rw [Nat.min_eq_left c, List.take_of_length_le (by rw [List.length_drop]; exact Nat.le_refl _)]
  · rw [Nat.min_eq_right (by omega), List.drop_length, List.drop_of_length_le (by omega), List.take_nil]
theorem cutL_but1 {xs : List α} : cutL xs none (some (-1)) = xs.dropLast := by
  unfold cutL
  have e : HT.sIx xs.length xs.length (some (-1)) = (-1 + (xs.length : Int)).toNat := by
    show (if (-1 : Int) < 0 then (-1 + (xs.length : Int)).toNat else min (-1 : Int).toNat xs.length) = _
    rw [if_pos (by decide)]
  rw [HT.sIx_none, e, List.drop_zero, Nat.sub_zero, List.dropLast_eq_take]
  congr 1; omega
theorem rngL_mem {lo x : Int} {n : Nat} (h : x ∈ rngL lo n) : lo ≤ x ∧ x < lo + n := by
  unfold rngL at h
  obtain ⟨i, hi, rfl⟩ := List.mem_map.mp h
  have := List.mem_range.mp hi
  omega
end
/-! texts -/
theorem len_app (a b : Str) : (a ++ b).length = a.length + b.length := by
  show (a.cps ++ b.cps).size = a.cps.size + b.cps.size
  rw [Array.size_append]
theorem tl_app (a b : Str) : (a ++ b).cps.toList = a.cps.toList ++ b.cps.toList := by
  show (a.cps ++ b.cps).toList = _
  rw [Array.toList_append]
theorem len_tl (x : Str) : x.length = x.cps.toList.length := by simp [Str.length]
theorem str_ext {x y : Str} (h : x.cps.toList = y.cps.toList) : x = y := Str.ext' (Array.toList_inj.mp h)
/-- all signs below 128 -/
def Asc (x : Str) : Prop := ∀ c, c ∈ x.cps.toList → c < 128
theorem Asc.app {a b : Str} (ha : Asc a) (hb : Asc b) : Asc (a ++ b) := fun c hc => by
  rw [tl_app] at hc
  rcases List.mem_append.mp hc with h | h
  · exact ha c h
  · exact hb c h
theorem Asc.sg {c : Nat} (h : c < 128) : Asc (sg c) := fun d hd => by
  have : d = c := by simpa [Ml.sg] using hd
  omega
theorem Asc.lit {x : Str} (h : x.cps.toList.all (· < 128) = true) : Asc x := fun c hc => by
  have := List.all_eq_true.mp h c hc
  simpa using this
theorem Asc.lay {x : Str} (h : Asc x) : (Lay.lay x : Bool) = true := by
  show PyData.strOk x = true
  unfold PyData.strOk
  rw [← Array.all_toList]
  exact List.all_eq_true.mpr fun c hc => decide_eq_true (Nat.lt_trans (h c hc) (by decide))
theorem lay_all {xs : List Str} (h : ∀ x, x ∈ xs → Asc x) : layAllB xs = true := List.all_eq_true.mpr fun x hx => (h x hx).lay
theorem joinL_nil : ∀ ls : List (List Nat), TL.joinL [] ls = ls.flatten
  | [] => rfl
  | [l] => by simp [TL.joinL]
  | l :: m :: r => by
    rw [TL.joinL, joinL_nil (m :: r)]; simp
theorem join_nil (ys : List Str) : (Txt.join ("" : Str) ys).cps.toList = (ys.map fun y => y.cps.toList).flatten := by
  rw [TL.join_eq]
  have ej := TL.tl_join ("" : Str) ys
  have e0 : TL.tl ("" : Str) = [] := by decide
  rw [e0, joinL_nil] at ej
  exact ej
theorem len_join_nil (ys : List Str) : (Txt.join ("" : Str) ys).length = (ys.map (·.length)).sum := by
  rw [len_tl, join_nil, List.length_flatten, List.map_map]
  exact congrArg List.sum (List.map_congr_left fun y _ => (len_tl y).symm)
theorem sum_le {xs : List Str} {k : Nat} (h : ∀ x, x ∈ xs → x.length ≤ k) : (xs.map (·.length)).sum ≤ xs.length * k := by
  induction xs with
  | nil => simp
  | cons x xs ih =>
    have h1 := h x (by simp)
    have h2 := ih fun y hy => h y (by simp [hy])
    rw [List.map_cons, List.sum_cons, List.length_cons, Nat.succ_mul]
    omega
theorem Asc.join {ys : List Str} (h : ∀ y, y ∈ ys → Asc y) : Asc (Txt.join ("" : Str) ys) := fun c hc => by
  rw [join_nil] at hc
  obtain ⟨l, hl, hc⟩ := List.mem_flatten.mp hc
  obtain ⟨y, hy, rfl⟩ := List.mem_map.mp hl
  exact h y hy c hc
theorem upper_tl {x : Str} (h : Asc x) : (Txt.upper x).cps.toList = x.cps.toList.map PyProof.Rows.up1 := by
  rw [PyProof.Rows.upper_ascii h]; simp
theorem lower_tl {x : Str} (h : Asc x) : (Txt.lower x).cps.toList = x.cps.toList.map PyProof.Rows.lo1 := by
  rw [PyProof.Rows.lower_ascii h]; simp
theorem up1_lt {c : Nat} (h : c < 128) : PyProof.Rows.up1 c < 128 := by unfold PyProof.Rows.up1; split <;> omega
theorem lo1_lt {c : Nat} (h : c < 128) : PyProof.Rows.lo1 c < 128 := by unfold PyProof.Rows.lo1; split <;> omega
theorem Asc.upper {x : Str} (h : Asc x) : Asc (Txt.upper x) := fun c hc => by
  rw [upper_tl h] at hc
  obtain ⟨d, hd, rfl⟩ := List.mem_map.mp hc
  exact up1_lt (h d hd)
theorem Asc.lower {x : Str} (h : Asc x) : Asc (Txt.lower x) := fun c hc => by
  rw [lower_tl h] at hc
  obtain ⟨d, hd, rfl⟩ := List.mem_map.mp hc
  exact lo1_lt (h d hd)
theorem len_upper {x : Str} (h : Asc x) : (Txt.upper x).length = x.length := by rw [len_tl, upper_tl h, List.length_map, len_tl]
theorem len_lower {x : Str} (h : Asc x) : (Txt.lower x).length = x.length := by rw [len_tl, lower_tl h, List.length_map, len_tl]
theorem len_sg (c : Nat) : (sg c).length = 1 := rfl
theorem cutS_tl (z : Str) (lo hi : Option Int) : (cutS z lo hi).cps.toList = cutL z.cps.toList lo hi := by
  show ((cutS z lo hi).cps).toList = _
  unfold cutS cutL
  rw [← len_tl]
theorem cutS_asc {x : Str} {a b : Option Int} (h : Asc x) : Asc (cutS x a b) := fun c hc => h c (by
  rw [cutS_tl] at hc
  exact cutL_mem hc)
theorem cutS_len2 {x : Str} {n : Int} (h : 0 ≤ n) : (cutS x none (some n)).length + (cutS x (some n) none).length ≤ x.length := by
  rw [len_tl, len_tl, len_tl, cutS_tl, cutS_tl, cutL_to h, cutL_from h, List.length_take, List.length_drop]; omega
/-! str of a small number -/
theorem log2_small {i : Int} (h0 : -1000000000000 < i) (h1 : i < 1000000000000) : i.natAbs.log2 < 1920 := by
  have h : i.natAbs < 2 ^ 40 := by omega
  by_cases z : i.natAbs = 0
  · rw [z]; decide
  · exact Nat.lt_trans ((Nat.log2_lt z).mpr h) (by decide)
theorem tl_num (n : Nat) : (Str.ofString (toString ((n : Nat) : Int))).cps.toList = TL.numL n := TL.tl_num n
end Ml
namespace Ml
open PySem L2
/-! ### total programs: it comes to an answer with P -/
def Ok {α : Type} (m : R α) (P : α → Prop) : Prop := ∃ a, m = .ok a ∧ P a
namespace Ok
variable {α β σ ρ : Type} {P : ρ → Prop}
theorem ret {a : ρ} (h : P a) : Ok (.ok a) P := ⟨a, rfl, h⟩
theorem bind {m : R α} {f : α → R ρ} {Q : α → Prop} (h : Ok m Q) (k : ∀ a, Q a → Ok (f a) P) : Ok (m.bind f) P := by
  obtain ⟨a, e, q⟩ := h
  rw [e, R.bind_ok]; exact k a q
theorem bindE {m : R α} {f : α → R ρ} {a : α} (h : m = .ok a) (k : Ok (f a) P) : Ok (m.bind f) P := by
  rw [h, R.bind_ok]; exact k
theorem lets {a : α} {f : α → R ρ} (k : Ok (f a) P) : Ok ((R.ok a).bind f) P := k
theorem name {a : α} {f : α → R ρ} (k : ∀ y, y = a → Ok (f y) P) : Ok ((R.ok a).bind f) P := k a rfl
theorem need {p : Prop} [Decidable p] {m : R ρ} (h : p) (k : Ok m P) : Ok (R.need p m) P := by rw [R.need_pos h]; exact k
theorem ite {c : Prop} [Decidable c] {a b : R ρ} (h1 : c → Ok a P) (h2 : ¬ c → Ok b P) : Ok (if c then a else b) P := by
  by_cases h : c
  · rw [if_pos h]; exact h1 h
  · rw [if_neg h]; exact h2 h
theorem ifT {c : Prop} [Decidable c] {a b : R ρ} (h : c) (k : Ok a P) : Ok (if c then a else b) P := by rw [if_pos h]; exact k
theorem ifF {c : Prop} [Decidable c] {a b : R ρ} (h : ¬ c) (k : Ok b P) : Ok (if c then a else b) P := by rw [if_neg h]; exact k
theorem mono {Q : ρ → Prop} {m : R ρ} (h : Ok m Q) (k : ∀ a, Q a → P a) : Ok m P := by
  obtain ⟨a, e, q⟩ := h
  exact ⟨a, e, k a q⟩
theorem eq {m : R ρ} {v : ρ} (h : Ok m (· = v)) : m = .ok v := by
  obtain ⟨a, e, q⟩ := h
  rw [e, q]
theorem idx {xs : List α} {i : Int} {f : α → R ρ} (h0 : 0 ≤ i) (h1 : i < xs.length) (k : ∀ x, x ∈ xs → xs[i.toNat]? = some x → Ok (f x) P) : Ok ((idxR xs i).bind f) P := by
  obtain ⟨x, e, m, g⟩ := idxR_mem h0 h1
  rw [e, R.bind_ok]; exact k x m g
theorem ix {xs : List α} {i : Int} {f : Nat → R ρ} (h0 : 0 ≤ i) (h1 : i < xs.length) (k : Ok (f i.toNat) P) : Ok ((ixR xs i).bind f) P := by
  rw [ixR_ok h0 h1, R.bind_ok]; exact k
theorem forI {f : σ → α → R σ} {xs : List α} {s : σ} {rest : σ → R ρ} (I : List α → σ → Prop) (h0 : I [] s) (hs : ∀ p x q s, xs = p ++ x :: q → I p s → Ok (f s x) (I (p ++ [x]))) (k : ∀ s, I xs s → Ok (rest s) P) : Ok ((forR f xs s).bind rest) P :=
  bind (forR_inv I h0 hs) k
theorem forK {f : σ → α → R σ} {xs : List α} {s : σ} {rest : σ → R ρ} (I : σ → Prop) (h0 : I s) (hs : ∀ x s, x ∈ xs → I s → Ok (f s x) I) (k : ∀ s, I s → Ok (rest s) P) : Ok ((forR f xs s).bind rest) P :=
  bind (forR_keep I h0 hs) k
theorem forL {f : σ → α → R σ} (g : σ → α → σ) {xs : List α} {s : σ} {rest : σ → R ρ} (hs : ∀ x s, x ∈ xs → f s x = .ok (g s x)) (k : Ok (rest (xs.foldl g s)) P) : Ok ((forR f xs s).bind rest) P :=
  bindE (forR_foldl fun s x h => hs x s h) k
theorem forFK {τ : Type} {f : σ → α → R (Fl σ τ)} {xs : List α} {s : σ} {rest : Fl σ τ → R ρ} (I : σ → Prop) (h0 : I s) (hs : ∀ x s, x ∈ xs → I s → Ok (f s x) (fun r => ∃ s', r = .go s' ∧ I s')) (k : ∀ s, I s → Ok (rest (.go s)) P) : Ok ((forF f xs s).bind rest) P := by
  obtain ⟨s', e, h⟩ := forF_keep (f := f) (xs := xs) I h0 fun x s hx hI => by
    obtain ⟨r, e, s', rfl, h⟩ := hs x s hx hI
    exact ⟨s', e, h⟩
  exact bindE e (k s' h)
theorem forFI {τ : Type} {f : σ → α → R (Fl σ τ)} {xs : List α} {s : σ} {rest : Fl σ τ → R ρ} (I : List α → σ → Prop) (h0 : I [] s) (hs : ∀ p x q s, xs = p ++ x :: q → I p s → Ok (f s x) (fun r => ∃ s', r = .go s' ∧ I (p ++ [x]) s')) (k : ∀ s, I xs s → Ok (rest (.go s)) P) : Ok ((forF f xs s).bind rest) P := by
  obtain ⟨s', e, h⟩ := forF_inv (f := f) (xs := xs) I [] h0 fun p x q s hx hI => by
    obtain ⟨r, e, s', rfl, h⟩ := hs p x q s (by simpa using hx) hI
    exact ⟨s', e, h⟩
  exact bindE e (k s' (by simpa using h))
/-- a comprehension whose items all have Q -/
theorem comp {f : Unit → α → R (Unit × Option β)} {xs : List α} {rest : Unit × List β → R ρ} (Q : β → Prop) (h : ∀ x, x ∈ xs → Ok (f () x) (fun r => ∃ y, r.2 = some y ∧ Q y)) (k : ∀ ys, ys.length = xs.length → (∀ y, y ∈ ys → Q y) → Ok (rest ((), ys)) P) : Ok ((compR f xs ()).bind rest) P := by
  obtain ⟨ys, e, l, q⟩ := compR_all (f := f) (xs := xs) Q fun x hx => by
    obtain ⟨r, e, y, e2, hy⟩ := h x hx
    exact ⟨y, by rw [e, ← e2], hy⟩
  exact bindE e (k ys l q)
/-- .. whose items are told -/
theorem compM {f : Unit → α → R (Unit × Option β)} {xs : List α} {rest : Unit × List β → R ρ} (g : α → β) (h : ∀ x, x ∈ xs → Ok (f () x) (fun r => r.2 = some (g x))) (k : Ok (rest ((), xs.map g)) P) : Ok ((compR f xs ()).bind rest) P := by
  refine bindE (compR_map (g := g) fun x hx => ?_) k
  obtain ⟨r, e, e2⟩ := h x hx
  rw [e, ← e2]
theorem compF {f : Unit → α → R (Unit × Option β)} {xs : List α} {rest : Unit × List β → R ρ} (g : α → Option β) (h : ∀ x, x ∈ xs → Ok (f () x) (fun r => r.2 = g x)) (k : Ok (rest ((), xs.filterMap g)) P) : Ok ((compR f xs ()).bind rest) P := by
  refine bindE (compR_filterMap (g := g) fun x hx => ?_) k
  obtain ⟨r, e, e2⟩ := h x hx
  rw [e, ← e2]
/-- .. that carries a state -/
theorem compS {f : σ → α → R (σ × Option β)} {xs : List α} {s : σ} {rest : σ × List β → R ρ} (I : σ → Prop) (Q : β → Prop) (h0 : I s) (h : ∀ s x, x ∈ xs → I s → Ok (f s x) (fun r => I r.1 ∧ ∃ y, r.2 = some y ∧ Q y)) (k : ∀ s ys, I s → ys.length = xs.length → (∀ y, y ∈ ys → Q y) → Ok (rest (s, ys)) P) : Ok ((compR f xs s).bind rest) P := by
  obtain ⟨s', ys, e, hI, l, q⟩ := compR_keep (f := f) (xs := xs) I Q h0 fun s x hx hI => by
    obtain ⟨r, e, h1, y, e2, hy⟩ := h s x hx hI
    exact ⟨r.1, y, by rw [e, ← e2], h1, hy⟩
  exact bindE e (k s' ys hI l q)
end Ok
theorem pre_lt {α : Type} {xs p q : List α} {x : α} (e : xs = p ++ x :: q) : p.length < xs.length := by
  rw [e, List.length_append, List.length_cons]; omega
theorem lt_line {n m : Nat} (h : n ≤ m) (hm : m < 16777216) : n < sizeLine := Nat.lt_of_le_of_lt h hm
theorem le_line {n : Nat} (h : n ≤ 16777216) : n ≤ sizeLine := h
end Ml

namespace Lw
open PySem L2 Ml
def m_is_sign (v_sign : Nat) : R Bool :=
R.ok ((decide (v_sign ∈ (("abcdefghijklmnopqrstuvwxyz" : Str)).cps.toList)) || (decide (v_sign ∈ (("0123456789" : Str)).cps.toList)))
def m_is_word (v_thing : Any) : R Bool :=
(if (!(Any.is v_thing "str")) = true then R.ok true else (
(v_thing.asStr).bind fun z2 =>
R.need ((z2).length ≤ sizeLine) <|
R.ok (!(decide (1 ≤ ((z2).length : Int)) && decide (((z2).length : Int) ≤ 20))))).bind fun b1 =>
if b1 = true then (
R.ok (false)) else (
(v_thing.asStr).bind fun z5 =>
R.need (((z5).cps.toList).length ≤ sizeLine) <|
(compR (fun (_ : Unit) (x8 : Nat) =>
(m_is_sign x8).bind fun r11 =>
R.ok ((), some (r11))) ((z5).cps.toList) ()).bind fun (t12 : Unit × List Bool) =>
R.ok (t12.2.all id))
def m_law_row (v_law_script : Script) (v_law_many : Int) : R (List Int) :=
R.need (-(2 ^ 62) ≤ v_law_many ∧ v_law_many < 2 ^ 62) <|
(forR (fun (s3 : (List Int) × Int) (x4 : Int) =>
(if (decide (0 < (v_law_script.ns.length : Int))) = true then (
R.need (0 < (v_law_script.ns.length : Int)) <|
(idxR v_law_script.ns (x4 % (v_law_script.ns.length : Int))).bind fun x10 =>
R.ok (x10)) else (
R.ok (0))).bind fun (s8 : Int) =>
(R.ok ((((s3.2 * 48271) + s8) + x4) % 2147483647 : Int)).bind fun y11 =>
R.need (mulOk (y11) (y11)) <|
R.need (s3.1.length < sizeLine) <|
R.ok (s3.1 ++ [((y11 * y11) + (16807 * y11)) % 2147483629], y11)) (rngL 0 (v_law_many).toNat) (([] : (List Int)), 7)).bind fun (s3 : (List Int) × Int) =>
R.ok (s3.1)
def m_law_text (v_law_row_here : (List Int)) : R Str :=
(idxR v_law_row_here (0)).bind fun x1 =>
(R.ok (x1 % 25 : Int)).bind fun y2 =>
(idxR v_law_row_here (1)).bind fun x3 =>
(if (decide ((x3 % 3) = 0)) = true then (
(idxR v_law_row_here (0)).bind fun x5 =>
(R.ok (19 + (x5 % 3) : Int)).bind fun y6 =>
R.ok (y6)) else (
R.ok (y2))).bind fun (s4 : Int) =>
R.need (-(2 ^ 62) ≤ s4 ∧ s4 < 2 ^ 62) <|
R.need ((rngL 0 (s4).toNat).length ≤ sizeLine) <|
(compR (fun (_ : Unit) (x10 : Int) =>
(idxR v_law_row_here (2)).bind fun x13 =>
(idxR v_law_row_here (3)).bind fun x14 =>
R.need (mulOk (x14) (x10)) <|
(idxR (("abcdefghijklmnopqrstuvwxyz0123456789" : Str)).cps.toList ((x13 + (x14 * x10)) % 36)).bind fun c16 =>
R.ok ((), some (sg (c16)))) (rngL 0 (s4).toNat) ()).bind fun (t17 : Unit × List Str) =>
R.need ((t17.2.map (·.length)).sum + t17.2.length * (("" : Str)).length ≤ 16777216) <|
(R.ok (Txt.join ("" : Str) t17.2 : Str)).bind fun y19 =>
(idxR v_law_row_here (4)).bind fun x20 =>
(if ((decide ((x20 % 2) = 1)) && (decide (0 < s4))) = true then (
(idxR v_law_row_here (5)).bind fun x25 =>
R.need (0 < s4) <|
(idxR v_law_row_here (5)).bind fun x27 =>
R.need (0 < s4) <|
(idxR v_law_row_here (6)).bind fun x30 =>
(idxR ([x25 % s4, 0, s4 - 1, x27 % s4]) (x30 % 4)).bind fun x31 =>
(R.ok ((" !\"#$&'()*+,-./:;<=>?@ABCDEFGHIJKLMNOPQRSTUVWXYZ[\\]^_`{|}~\n\t" : Str) : Str)).bind fun y32 =>
(idxR v_law_row_here (7)).bind fun x33 =>
R.need ((y32).length ≤ sizeLine) <|
R.need (0 < ((y32).length : Int)) <|
R.need ((y32).length ≤ sizeLine) <|
(idxR (y32).cps.toList (x33 % ((y32).length : Int))).bind fun c37 =>
R.need ((y19).length ≤ sizeLine) <|
R.need ((cutS y19 none (some (x31))).length + (sg (c37)).length ≤ sizeLine) <|
R.need ((y19).length ≤ sizeLine) <|
R.need (((cutS y19 none (some (x31))) ++ (sg (c37))).length + (cutS y19 (some (x31 + 1)) none).length ≤ sizeLine) <|
(R.ok (((cutS y19 none (some (x31))) ++ (sg (c37))) ++ (cutS y19 (some (x31 + 1)) none) : Str)).bind fun y42 =>
R.ok (y42)) else (
R.ok (y19))).bind fun (s21 : Str) =>
R.ok (s21)
def m_law (v_law_script : Script) : R Bool :=
(m_law_row v_law_script 10).bind fun r1 =>
(m_law_text r1).bind fun r3 =>
R.need ((r3).length ≤ sizeLine) <|
(R.ok (decide (0 < ((r3).length : Int)) && decide (((r3).length : Int) < 21) : Bool)).bind fun y5 =>
(forR (fun (s6 : Bool) (x7 : Nat) =>
(if (!decide (x7 ∈ (("abcdefghijklmnopqrstuvwxyz0123456789" : Str)).cps.toList)) = true then (
R.ok (false)) else (
R.ok (s6))).bind fun (s10 : Bool) =>
R.ok (s10)) ((r3).cps.toList) (y5)).bind fun (s6 : Bool) =>
(idxR r1 (8)).bind fun x11 =>
(if (decide ((x11 % 6) = 0)) = true then (
(idxR r1 (9)).bind fun x19 =>
(idxR ([Any.non, (Any.int 7), (Any.bl true), (Any.tup [(Any.str ("a" : Str))]), (Any.oth 0), (Any.oth 1), (Any.int 0), (Any.bl false), (Any.tup [])]) (x19 % 9)).bind fun x20 =>
R.ok (x20, false)) else (
R.ok ((Any.str r3), s6))).bind fun (s12 : Any × Bool) =>
(m_is_word s12.1).bind fun r24 =>
(if (decide (r24 = s12.2)) = true then (
(m_is_word s12.1).bind fun r26 =>
R.ok (decide (r26 = s12.2))) else R.ok false).bind fun b25 =>
R.ok (b25)
end Lw

namespace Lw
open PySem L2 Ml
/-! the signs of words -/
theorem alph_len : ("abcdefghijklmnopqrstuvwxyz0123456789" : Str).cps.toList.length = 36 := by decide +kernel
theorem alph_asc : Asc ("abcdefghijklmnopqrstuvwxyz0123456789" : Str) := Asc.lit (by decide +kernel)
def wsg (c : Nat) : Bool := (97 ≤ c && c ≤ 122) || (48 ≤ c && c ≤ 57)
theorem wsg_lt {c : Nat} (h : wsg c = true) : c < 128 := by
  unfold wsg at h
  simp at h
  omega
theorem alph_wsg : ∀ c, c ∈ ("abcdefghijklmnopqrstuvwxyz0123456789" : Str).cps.toList → wsg c = true := by
  have : ("abcdefghijklmnopqrstuvwxyz0123456789" : Str).cps.toList.all wsg = true := by decide +kernel
  exact fun c hc => List.all_eq_true.mp this c hc
theorem alph_at {ρ : Type} {P : ρ → Prop} {i : Int} {f : Nat → R ρ} (k : ∀ c, wsg c = true → Ok (f c) P) : Ok ((idxR ("abcdefghijklmnopqrstuvwxyz0123456789" : Str).cps.toList (i % 36)).bind f) P :=
  .idx (Int.emod_nonneg _ (by decide)) (by rw [alph_len]; exact Int.emod_lt_of_pos _ (by decide)) fun c m _ => k c (alph_wsg c m)
/-- word signs alone -/
def Wsg (x : Str) : Prop := ∀ c, c ∈ x.cps.toList → wsg c = true
theorem Wsg.asc {x : Str} (h : Wsg x) : Asc x := fun c hc => wsg_lt (h c hc)
theorem Wsg.app {a b : Str} (ha : Wsg a) (hb : Wsg b) : Wsg (a ++ b) := fun c hc => by
  rw [tl_app] at hc
  rcases List.mem_append.mp hc with h | h
  · exact ha c h
  · exact hb c h
theorem Wsg.sg {c : Nat} (h : wsg c = true) : Wsg (sg c) := fun d hd => by
  have : d = c := by simpa [Ml.sg] using hd
  rw [this]; exact h
theorem Wsg.lit {x : Str} (h : x.cps.toList.all wsg = true) : Wsg x := fun c hc => List.all_eq_true.mp h c hc
theorem Wsg.join {ys : List Str} (h : ∀ y, y ∈ ys → Wsg y) : Wsg (Txt.join ("" : Str) ys) := fun c hc => by
  rw [join_nil] at hc
  obtain ⟨l, hl, hc⟩ := List.mem_flatten.mp hc
  obtain ⟨y, hy, rfl⟩ := List.mem_map.mp hl
  exact h y hy c hc
theorem num_wd {i : Int} (h0 : 0 ≤ i) (h1 : i < 1000000) : Wsg (Str.ofString (toString i)) ∧ (Str.ofString (toString i)).length ≤ 6 ∧ 1 ≤ (Str.ofString (toString i)).length := by
  obtain ⟨n, rfl⟩ : ∃ n : Nat, i = (n : Int) := ⟨i.toNat, by omega⟩
  have hd := TL.numL_digits n
  refine ⟨fun c hc => ?_, ?_, ?_⟩
  · rw [tl_num] at hc
    have h2 : 48 ≤ c ∧ c ≤ 57 := hd c hc
    unfold wsg
    simp; omega
  · rw [len_tl, tl_num]
    exact TL.numL_len (n := n) (k := 6) (by decide) (by omega)
  · rw [len_tl, tl_num]
    have := TL.numL_ne n
    cases e : TL.numL n with
    | nil => exact absurd e this
    | cons a l => simp
/-! the numbers drawn -/
theorem m_law_row_ok (s : Script) {n : Int} (h0 : 0 ≤ n) (h1 : n ≤ 1000) : Ok (m_law_row s n) fun r => r.length = n.toNat ∧ ∀ x, x ∈ r → 0 ≤ x ∧ x < 2147483629 := by
  unfold m_law_row
  refine .need (by omega) ?_
  refine .forI (fun pre (s : List Int × Int) => s.1.length = pre.length ∧ (∀ x, x ∈ s.1 → 0 ≤ x ∧ x < 2147483629) ∧ 0 ≤ s.2 ∧ s.2 < 2147483647) ⟨rfl, by simp, by decide, by decide⟩ ?_ ?_
  · rintro p x q ⟨l, m⟩ ep ⟨hl, hx, hm0, hm1⟩
    have hp := pre_lt ep
    rw [rngL_len] at hp
    refine .bind (Q := fun _ => True) (.ite (fun c => ?_) fun _ => .ret trivial) fun c _ => .lets ?_
    · have c := of_decide_eq_true c
      exact .need c (.idx (Int.emod_nonneg _ (by omega)) (Int.emod_lt_of_pos _ c) fun _ _ _ => .ret trivial)
    · dsimp only
      have hy0 : 0 ≤ (m * 48271 + c + x) % 2147483647 := Int.emod_nonneg _ (by decide)
      have hy1 : (m * 48271 + c + x) % 2147483647 < 2147483647 := Int.emod_lt_of_pos _ (by decide)
      generalize (m * 48271 + c + x) % 2147483647 = y at *
      have hl' : l.length = p.length := hl
      refine .need (show mulOk y y from .inl ⟨by omega, by omega⟩) (.need (lt_line (m := 1000) (by omega) (by decide)) (.ret ⟨by simp [hl'], fun z hz => ?_, hy0, hy1⟩))
      rcases List.mem_append.mp hz with h | h
      · exact hx z h
      · rw [List.mem_singleton.mp h]
        exact ⟨Int.emod_nonneg _ (by decide), Int.emod_lt_of_pos _ (by decide)⟩
  · rintro ⟨l, m⟩ ⟨hl, hx, _⟩
    exact .ret ⟨by rw [hl, rngL_len], hx⟩
/-! a sign of a word -/
theorem is_sign_eq (c : Nat) : m_is_sign c = .ok (wsg c) := by
  unfold m_is_sign
  congr 1
  have h1 : (("abcdefghijklmnopqrstuvwxyz" : Str)).cps.toList = (List.range 26).map (97 + ·) := by decide +kernel
  have h2 : (("0123456789" : Str)).cps.toList = (List.range 10).map (48 + ·) := by decide +kernel
  rw [h1, h2]
  unfold wsg
  rw [Bool.eq_iff_iff]
  simp only [Bool.or_eq_true, decide_eq_true_eq, List.mem_map, List.mem_range, Bool.and_eq_true]
  constructor
  · rintro (⟨a, h, rfl⟩ | ⟨a, h, rfl⟩) <;> omega
  · rintro (h | h)
    · exact .inl ⟨c - 97, by omega, by omega⟩
    · exact .inr ⟨c - 48, by omega, by omega⟩
/-! whether a thing is a word -/
def wordB (s : Str) : Bool := decide (1 ≤ s.length) && decide (s.length ≤ 20) && s.cps.toList.all wsg
def anyWord : Any → Bool
  | .str s => wordB s
  | _ => false
theorem all_map_id {xs : List Nat} {g : Nat → Bool} : (xs.map g).all id = xs.all g := by
  induction xs with
  | nil => rfl
  | cons x xs ih => simp [ih]
theorem is_word_str (s : Str) (h : s.length ≤ sizeLine) : m_is_word (.str s) = .ok (wordB s) := by
  unfold m_is_word
  refine Ok.eq (.bindE (a := !(decide (1 ≤ ((s).length : Int)) && decide (((s).length : Int) ≤ 20))) ?_ (.ite (fun c => .ret ?_) fun c => .bindE (a := s) rfl (.need (by rw [← len_tl]; exact h) (.compM (fun c => wsg c) (fun c _ => .bindE (is_sign_eq c) (.ret rfl)) (.ret ?_)))))
  · rw [if_neg (by rw [show Any.is (Any.str s) "str" = true from (by decide : ("str" == "str" || ("str" == "bool" && "str" == "int")) = true)]; decide)]
    show R.bind (.ok s) _ = _
    rw [R.bind_ok, R.need_pos h]
  · unfold wordB
    simp only [Bool.not_eq_true', Bool.and_eq_false_iff, decide_eq_false_iff_not] at c
    rcases c with c | c
    · rw [decide_eq_false (by omega)]; rfl
    · rw [decide_eq_false (p := s.length ≤ 20) (by omega)]; simp
  · unfold wordB
    simp only [Bool.not_eq_true', Bool.not_eq_false, Bool.and_eq_true, decide_eq_true_eq] at c
    rw [decide_eq_true (p := 1 ≤ s.length) (by omega), decide_eq_true (p := s.length ≤ 20) (by omega), all_map_id]; rfl
theorem is_word_any (x : Any) (h : ∀ s, x = .str s → s.length ≤ sizeLine) : m_is_word x = .ok (anyWord x) := by
  cases x with
  | str s => exact is_word_str s (h s rfl)
  | int i => rfl
  | bl b => rfl
  | non => rfl
  | tup xs => rfl
  | oth k => cases k <;> rfl
theorem alph_in (c : Nat) : decide (c ∈ ("abcdefghijklmnopqrstuvwxyz0123456789" : Str).cps.toList) = wsg c := by
  have h1 : (("abcdefghijklmnopqrstuvwxyz0123456789" : Str)).cps.toList = (List.range 26).map (97 + ·) ++ (List.range 10).map (48 + ·) := by decide +kernel
  rw [h1]
  unfold wsg
  rw [Bool.eq_iff_iff]
  simp only [Bool.or_eq_true, decide_eq_true_eq, List.mem_append, List.mem_map, List.mem_range, Bool.and_eq_true]
  constructor
  · rintro (⟨a, h, rfl⟩ | ⟨a, h, rfl⟩) <;> omega
  · rintro (h | h)
    · exact .inl ⟨c - 97, by omega, by omega⟩
    · exact .inr ⟨c - 48, by omega, by omega⟩
theorem law_text_ok {r : List Int} (hl : r.length = 10) (hx : ∀ x, x ∈ r → 0 ≤ x ∧ x < 2147483629) : Ok (m_law_text r) fun t => t.length ≤ 100 := by
  unfold m_law_text
  have at_ : ∀ {ρ : Type} {P : ρ → Prop} {i : Int} {f : Int → R ρ}, 0 ≤ i → i < 10 → (∀ x : Int, 0 ≤ x ∧ x < 2147483629 → Ok (f x) P) → Ok ((idxR r i).bind f) P := fun h0 h1 k => .idx h0 (by rw [hl]; exact h1) fun x m _ => k x (hx x m)
  refine at_ (by decide) (by decide) fun x1 h1 => .lets (at_ (by decide) (by decide) fun x3 h3 => ?_)
  have e1 := Int.emod_nonneg x1 (show (25 : Int) ≠ 0 by decide)
  have e2 := Int.emod_lt_of_pos x1 (show (0 : Int) < 25 by decide)
  refine .bind (Q := fun n => 0 ≤ n ∧ n ≤ 24) (.ite (fun _ => at_ (by decide) (by decide) fun x5 _ => .lets (.ret ?_)) fun _ => .ret ⟨e1, by omega⟩) fun n hn => ?_
  · have e1 := Int.emod_nonneg x5 (show (3 : Int) ≠ 0 by decide)
    have e2 := Int.emod_lt_of_pos x5 (show (0 : Int) < 3 by decide)
    exact ⟨by omega, by omega⟩
  refine .need (by omega) (.need (by rw [rngL_len]; exact le_line (by omega)) ?_)
  refine .comp (fun y => y.length = 1) (fun x hx' => ?_) fun ys hl2 hy => ?_
  · have hx' := rngL_mem hx'
    exact at_ (by decide) (by decide) fun x13 _ => at_ (by decide) (by decide) fun x14 _ => .need (show mulOk x14 x from .inr ⟨by omega, by omega⟩) (alph_at fun c hc => .ret ⟨_, rfl, rfl⟩)
  rw [rngL_len] at hl2
  have hs := sum_le (xs := ys) (k := 1) fun y m => by rw [hy y m]; exact Nat.le_refl _
  have e0 : ("" : Str).length = 0 := by decide
  have hj : (Txt.join ("" : Str) ys).length ≤ 24 := by rw [len_join_nil]; omega
  refine .need (by dsimp only; rw [e0]; omega) (.lets (at_ (by decide) (by decide) fun x20 _ => ?_))
  dsimp only at hj ⊢
  generalize Txt.join ("" : Str) ys = t at *
  refine .bind (Q := fun t => t.length ≤ 100) (.ite (fun c => ?_) fun _ => .ret (by omega)) fun t ht => .ret ht
  have hn0 : 0 < n := by simp at c; exact c.2
  refine at_ (by decide) (by decide) fun x25 _ => .need hn0 (at_ (by decide) (by decide) fun x27 _ => .need hn0 (at_ (by decide) (by decide) fun x30 _ => ?_))
  refine .idx (Int.emod_nonneg _ (by decide)) (Int.emod_lt_of_pos _ (by decide)) fun x31 m31 _ => .lets (at_ (by decide) (by decide) fun x33 _ => ?_)
  have l60 : (" !\"#$&'()*+,-./:;<=>?@ABCDEFGHIJKLMNOPQRSTUVWXYZ[\\]^_`{|}~\n\t" : Str).length = 60 := by decide +kernel
  refine .need (le_line (by rw [l60]; decide)) (.need (by rw [l60]; decide) (.need (le_line (by rw [l60]; decide)) (.idx (Int.emod_nonneg _ (by rw [l60]; decide)) (by rw [← len_tl, l60]; exact Int.emod_lt_of_pos _ (by decide)) fun c _ _ => ?_)))
  have q1 : (cutS t none (some x31)).length ≤ t.length := cutS_length ..
  have q2 : (cutS t (some (x31 + 1)) none).length ≤ t.length := cutS_length ..
  exact .need (le_line (by omega)) (.need (le_line (by rw [len_sg]; omega)) (.need (le_line (by omega)) (.need (le_line (by rw [len_app, len_sg]; omega)) (.lets (.ret (by rw [len_app, len_app, len_sg]; omega))))))
theorem law_ok (s : Script) (_ : s.ns.length ≤ 63) : m_law s = .ok true := by
  unfold m_law
  refine Ok.eq (.bind (m_law_row_ok s (by decide) (by decide)) fun r hr => ?_)
  obtain ⟨hl, hx⟩ := hr
  have hl : r.length = 10 := hl
  have at_ : ∀ {ρ : Type} {P : ρ → Prop} {i : Int} {f : Int → R ρ}, 0 ≤ i → i < 10 → (∀ x : Int, 0 ≤ x ∧ x < 2147483629 → Ok (f x) P) → Ok ((idxR r i).bind f) P := fun h0 h1 k => .idx h0 (by rw [hl]; exact h1) fun x m _ => k x (hx x m)
  refine .bind (law_text_ok hl hx) fun t ht => .need (le_line (by omega)) (.lets ?_)
  refine .forI (fun p b => b = ((decide (0 < (t.length : Int)) && decide ((t.length : Int) < 21)) && p.all wsg)) (by simp) ?_ ?_
  · rintro p c q b ep hb
    refine .bind (Q := fun b => b = ((decide (0 < (t.length : Int)) && decide ((t.length : Int) < 21)) && (p ++ [c]).all wsg)) (.ite (fun h => .ret ?_) fun h => .ret ?_) fun b h => .ret h
    · rw [alph_in] at h
      simp at h
      simp [h]
    · rw [alph_in] at h
      simp at h
      simp [h, hb]
  · intro b hb
    have hb : b = wordB t := by
      rw [hb]
      unfold wordB
      congr 2
      · exact decide_eq_decide.mpr (by omega)
      · exact decide_eq_decide.mpr (by omega)
    refine at_ (by decide) (by decide) fun x11 _ => ?_
    refine .bind (Q := fun p => (∀ s, p.1 = .str s → s.length ≤ 100) ∧ p.2 = anyWord p.1) (.ite (fun _ => at_ (by decide) (by decide) fun x19 _ => .idx (Int.emod_nonneg _ (by decide)) (Int.emod_lt_of_pos _ (by decide)) fun x20 m20 _ => .ret ?_) fun _ => .ret ⟨fun s h => by cases h; exact ht, hb⟩) fun p hp => ?_
    · simp only [List.mem_cons, List.not_mem_nil, or_false] at m20
      rcases m20 with rfl | rfl | rfl | rfl | rfl | rfl | rfl | rfl | rfl <;> exact ⟨fun s h => (by cases h), rfl⟩
    · have ew := is_word_any p.1 fun s h => le_line (by have := hp.1 s h; omega)
      refine .bindE ew (.bind (Q := fun b => b = true) (.ifT (by simp [hp.2]) (.bindE ew (.ret (by simp [hp.2])))) fun b h => .ret h)
end Lw

namespace Lw
open PySem PySem.Spec PyProof.Rows L2 Ml
def top (i : Nat) : Stmt := PySem.Challenge.pw_mailroom_k01_words_told.main.body.getD i (.Pass ⟨0, 0, 0, 0⟩)
abbrev gx (K : PySem.W.Frag) : Gx := ⟨K, fun _ => none⟩
abbrev s_is_sign : Stmt := top 4
abbrev s_is_word : Stmt := top 5
abbrev s_law_row : Stmt := top 7
abbrev s_law_text : Stmt := top 8
abbrev s_law : Stmt := top 9
structure Txt (K : PySem.W.Frag) (mg : Str → Option Value) where
  a_is_sign : Addr
  fd_is_sign : FuncData
  F_is_sign : Fun K "is_sign" "is_sign" s_is_sign a_is_sign fd_is_sign
  b_is_sign : Binds K fd_is_sign ["sign"] []
  g_is_sign : mg "is_sign" = some (.ref a_is_sign)
  a_is_word : Addr
  fd_is_word : FuncData
  F_is_word : Fun K "is_word" "is_word" s_is_word a_is_word fd_is_word
  b_is_word : Binds K fd_is_word ["thing"] []
  g_is_word : mg "is_word" = some (.ref a_is_word)
  a_law_row : Addr
  fd_law_row : FuncData
  F_law_row : Fun K "_law_row" "_law_row" s_law_row a_law_row fd_law_row
  b_law_row : Binds K fd_law_row ["_law_script", "_law_many"] []
  g_law_row : mg "_law_row" = some (.ref a_law_row)
  a_law_text : Addr
  fd_law_text : FuncData
  F_law_text : Fun K "_law_text" "_law_text" s_law_text a_law_text fd_law_text
  b_law_text : Binds K fd_law_text ["_law_row_here"] []
  g_law_text : mg "_law_text" = some (.ref a_law_text)
  a_law : Addr
  fd_law : FuncData
  F_law : Fun K "law" "law" s_law a_law fd_law
  b_law : Binds K fd_law ["_law_script"] []
  g_law : mg "law" = some (.ref a_law)
  z_all : mg "all" = none
  z_bool : mg "bool" = none
  z_isinstance : mg "isinstance" = none
  z_len : mg "len" = none
  z_range : mg "range" = none
  z_str : mg "str" = none
  t_FIGURES : Tok
  c_FIGURES : mg "FIGURES" = some (.str ("0123456789" : Str) t_FIGURES)
  t_MOST_SIGNS : Tok
  c_MOST_SIGNS : mg "MOST_SIGNS" = some (.int 20 t_MOST_SIGNS)
  t_SMALL : Tok
  c_SMALL : mg "SMALL" = some (.str ("abcdefghijklmnopqrstuvwxyz" : Str) t_SMALL)
section
variable {P : Program} {w : World} {K : PySem.W.Frag} {mg : Str → Option Value} {base : Heap}
def sp_is_sign (K : PySem.W.Frag) : Sp := fun vs H Q E => ∃ (v_sign : Nat) (F : Asn (gx K)), vs = [(.str (sg (v_sign)))] ∧ Sep H [F] ∧ R.wp (m_is_sign v_sign) (fun r => ∀ H', Sep H' [F] → Q (.bl (r)) H') (fun _ => False)
abbrev N_is_sign : List Str := ["sign"]
theorem sc_is_sign : FnScope N_is_sign ["sign"] (defScope s_is_sign) := ⟨rfl, rfl, rfl, by decide +kernel, rfl, by decide +kernel, by decide +kernel⟩
theorem ok_is_sign (T : Txt K mg) : FnOk P w K mg base CX0 1 T.a_is_sign T.fd_is_sign ["sign"] (sp_is_sign K) := by
  have nd := sc_is_sign.nd
  refine T.F_is_sign.ok sc_is_sign (fun vs H Q E h => ?_) (fun cdv A outer s H vs Q E hr h => ?_)
  · obtain ⟨v_sign, F, rfl, _⟩ := h; rfl
  · obtain ⟨v_sign, F, rfl, hS, hm⟩ := h
    refine ⟨_, (pss_one (ps_ret (pe_or (pe_cmpR op_inSg (pv 0) (pe_glob (v := .str ("abcdefghijklmnopqrstuvwxyz" : Str)) rfl T.c_SMALL ⟨_, rfl⟩) (by rfl)) (pe_one (pe_cmpR op_inSg (pv 0) (pe_glob (v := .str ("0123456789" : Str)) rfl T.c_FIGURES ⟨_, rfl⟩) (by rfl)))))), ?_⟩
    unfold m_is_sign at hm
    refine c_ret ?_
    refine ev_to (ev_orV (ev_inSg (ev_var rfl) ev_c) fun _ => (ev_inSg (ev_var rfl) ev_c)) ?_
    exact hm _ (hS.sel [0] (by decide) rfl)
def sp_is_word (K : PySem.W.Frag) : Sp := fun vs H Q E => ∃ (a_v_thing : V) (v_thing : Any) (F : Asn (gx K)), vs = [a_v_thing] ∧ Im.im (gx K) H a_v_thing v_thing ∧ Sep H [F] ∧ R.wp (m_is_word v_thing) (fun r => ∀ H', Sep H' [F] → Q (.bl (r)) H') (fun _ => False)
abbrev N_is_word : List Str := ["thing", "sign"]
theorem sc_is_word : FnScope N_is_word ["thing"] (defScope s_is_word) := ⟨rfl, rfl, rfl, by decide +kernel, rfl, by decide +kernel, by decide +kernel⟩
theorem ok_is_word (T : Txt K mg) : FnOk P w K mg base CX0 2 T.a_is_word T.fd_is_word ["thing"] (sp_is_word K) := by
  have nd := sc_is_word.nd
  refine T.F_is_word.ok sc_is_word (fun vs H Q E h => ?_) (fun cdv A outer s H vs Q E hr h => ?_)
  · obtain ⟨a_v_thing, v_thing, F, rfl, _⟩ := h; rfl
  · obtain ⟨a_v_thing, v_thing, F, rfl, him_v_thing, hS, hm⟩ := h
    have hS := hS.addIm him_v_thing
    refine ⟨_, (pss_cons (ps_if (PW.pt (pw_or (pt_not (pt_val (pe_callB (isiK K) (by rfl) T.z_isinstance (by decide +kernel) (pa_cons (pv 0) (pa_cons (pe_bltn (v := .ty "str") (by rfl) T.z_str (by decide +kernel) rfl) pa_nil))))) (pw_or1 (pt_not (pt_chain op_le op_le pe_int (pe_callB call_lenS (by rfl) T.z_len PySem.boot_len (pa_cons (pv 0) pa_nil)) (pe_glob (v := .int 20) rfl T.c_MOST_SIGNS ⟨_, rfl⟩)))))) (pss_one (ps_ret pe_bl)) pss_nil)
      (pss_one (ps_ret (pe_callB (allK K rfl) (by rfl) T.z_all (by decide +kernel) (pa_cons (pe_lc (own := [("sign", 1)]) (g := gName 1) rfl nd (pi_str (pv 0)) (blkOk_by (own := [("sign", 1)]) (N := N_is_word) (sc := defScope s_is_word) (by decide +kernel)) (fun _ _ _ _ _ => pg_name (i := 1) nd rfl (Or.inl rfl)) (fun _ _ _ _ _ => pts_nil) (fun _ _ _ _ _ => (pe_call (ok_is_sign T) (hr.mono (by decide)) rfl T.g_is_sign T.F_is_sign.kp T.b_is_sign .nil pass0 (pa_cons (pv 1) pa_nil)))) pa_nil))))), ?_⟩
    unfold m_is_word at hm
    refine f_seq ?_
    refine f_if ?_
    refine f_or ?_
    refine et_to (et_not (et_B (ev_isAny (ev_var rfl) ev_c (hS.im (i := 0) rfl) (by decide)))) ?_
    refine orK_J hm hS (fun hb q hm nx => ?_) (fun b1 H hm hS => ?_)
    ·
      obtain ⟨z2, ez2, hm⟩ := wp_asStr hm; obtain rfl := v_str (hS.im (i := 0) rfl) ez2
      obtain ⟨h3, hm⟩ := R.wp_need hm
      refine et_to (et_not (et_test (ev_chainB (a := decide (1 ≤ ((z2).length : Int))) (b := decide (((z2).length : Int) ≤ 20)) ev_c (ev_lenS (ev_var rfl) h3) (fun _ => ev_c) (fun Q q => r_I0 Q q) (fun _ Q q => r_I0 Q q)))) ?_
      exact nx _ _ hm (hS.sel [0, 1] (by decide) rfl)
    ·
      obtain ⟨hy, hn⟩ := R.wp_if hm
      refine ifK_2 (fun hb4 => ?_) (fun hb4 => ?_)
      · have hm := hy hb4
        refine c_ret ?_
        refine ev_to ev_c ?_
        exact hm _ (hS.sel [1] (by decide) rfl)
      · have hm := hn (by rw [hb4]; decide)
        refine st_nx ?_
        refine sq_nx ?_
        refine c_ret ?_
        refine c_cb ?_
        refine c_cons ?_
        refine c_lc ?_
        refine c_is ?_
        obtain ⟨z5, ez5, hm⟩ := wp_asStr hm; obtain rfl := v_str (hS.im (i := 0) rfl) ez5
        refine ev_to (ev_var rfl) ?_
        refine k_is ?_
        obtain ⟨h6, hm⟩ := R.wp_need hm
        refine lc_sep (β := Bool) (fun (_ : Unit) => [imA (.str (z5)) v_thing, F]) (s := ()) (im := (fun _ v (c : Nat) => v = .str (sg c))) hS (fun _ _ _ => wk_str) h6 hm (fun p7 _ ys10 x8 v9 H q Nx hS hx hm kS kN => ?_) (fun p7 t H hm hS => ?_)
        · cases hx
          refine c_gLc (σ' := [some (.str (z5)), some (.str (sg (x8)))]) rfl rfl ?_
          refine c_yes ?_
          refine c_call ?_
          refine ea_to (ea_cons (ev_var rfl) ea_nil) ?_
          refine ⟨_, star [lstA p7 (ys10 : List Bool), imA (.str (z5)) v_thing, F], rfl, Sep.unstar (M := []) (hS.sel [0, 1, 2] (by decide) rfl : Sep H ([] ++ [lstA p7 (ys10 : List Bool), imA (.str (z5)) v_thing, F])), R.wp_mono (R.wp_bind hm) (fun r11 hm H hS => ?_) (fun _ z => z)⟩
          have hS : Sep H ([lstA p7 (ys10 : List Bool), imA (.str (z5)) v_thing, F] : List (Asn (gx K))) := Sep.star (M := []) hS
          exact kS () _ _ _ hm rfl (hS.sel [0, 1, 2] (by decide) rfl)
        · revert hm hS; generalize t = t12; intro hm hS
          refine c_nil ?_
          refine ⟨_, _, rfl, hS.sqF (i := 0) rfl, ?_⟩
          exact hm _ (hS.sel [2] (by decide) rfl)
def sp_law_row (K : PySem.W.Frag) : Sp := fun vs H Q E => ∃ (a_v_law_script : V) (v_law_script : Script) (v_law_many : Int) (F : Asn (gx K)), vs = [a_v_law_script, (.int (v_law_many))] ∧ Im.im (gx K) H a_v_law_script v_law_script ∧ Sep H [F] ∧ R.wp (m_law_row v_law_script v_law_many) (fun r => ∀ p H', Sep H' [lstA p r, F] → Q (.ref p) H') (fun _ => False)
abbrev N_law_row : List Str := ["_law_script", "_law_many", "_law_found", "_law_more", "_law_k", "_law_cell"]
theorem sc_law_row : FnScope N_law_row ["_law_script", "_law_many"] (defScope s_law_row) := ⟨rfl, rfl, rfl, by decide +kernel, rfl, by decide +kernel, by decide +kernel⟩
theorem ok_law_row (T : Txt K mg) : FnOk P w K mg base CX0 1 T.a_law_row T.fd_law_row ["_law_script", "_law_many"] (sp_law_row K) := by
  have nd := sc_law_row.nd
  refine T.F_law_row.ok sc_law_row (fun vs H Q E h => ?_) (fun cdv A outer s H vs Q E hr h => ?_)
  · obtain ⟨a_v_law_script, v_law_script, v_law_many, F, rfl, _⟩ := h; rfl
  · obtain ⟨a_v_law_script, v_law_script, v_law_many, F, rfl, him_v_law_script, hS, hm⟩ := h
    obtain ⟨ad_v_law_script, rfl, _⟩ := im_script him_v_law_script
    have hS := hS.addIm him_v_law_script
    refine ⟨_, (pss_cons (ps_set (i := 2) nd rfl (Or.inl rfl) (pe_lst pa_nil))
      (pss_cons (ps_set (i := 3) nd rfl (Or.inl rfl) pe_int)
      (pss_cons (ps_for PassesOwn.never rfl (pi_range1 rfl T.z_range (pa_cons (pv 1) pa_nil)) (pg_name (i := 4) nd rfl (Or.inl rfl)) (pss_cons (ps_set (i := 5) nd rfl (Or.inl rfl) pe_int)
      (pss_cons (ps_if (pt_cmpR op_gt (pe_callB (lenSqK K) (by rfl) T.z_len PySem.boot_len (pa_cons (pv 0) pa_nil)) pe_int (nomark _)) (pss_one (ps_set (i := 5) nd rfl (Or.inl rfl) (pe_ix (ix_listK K) (pv 0) (pe_op op_mod (pv 4) (pe_callB (lenSqK K) (by rfl) T.z_len PySem.boot_len (pa_cons (pv 0) pa_nil))) (fun _ _ => rfl)))) pss_nil)
      (pss_cons (ps_set (i := 3) nd rfl (Or.inl rfl) (pe_op op_mod (pe_op op_add (pe_op op_add (pe_op op_mul (pv 3) pe_int) (pv 5)) (pv 4)) pe_int))
      (pss_one (ps_expr (pe_bmK K PySem.F.plainAttrs_list PySem.F.slot_list_append PySem.F.type_list_append mt_append (pv 2) (pa_cons (pe_op op_mod (pe_op op_add (pe_op op_mul (pv 3) (pv 3)) (pe_op op_mul pe_int (pv 3))) pe_int) pa_nil))))))))
      (pss_one (ps_ret (pv 2)))))), ?_⟩
    unfold m_law_row at hm
    refine f_seq ?_
    refine c_asg ?_
    refine c_lst ?_
    refine ea_to ea_nil ?_
    refine k_lst (α := Int) (vs := []) (xs := ([] : (List Int))) hS True.intro (by show 0 ≤ sizeLine; decide) fun p1 H hS => ?_
    refine c_set (σ' := [some (.ref ad_v_law_script), some (.int (v_law_many)), some (.ref p1), none, none, none]) rfl ?_
    refine sq_nx ?_
    refine f_seq ?_
    refine c_asg ?_
    refine ev_to ev_c ?_
    refine c_set (σ' := [some (.ref ad_v_law_script), some (.int (v_law_many)), some (.ref p1), some (.int (7)), none, none]) rfl ?_
    refine sq_nx ?_
    refine f_seq ?_
    refine c_for ?_
    refine c_rng1 ?_
    refine ea_to (ea_cons (ev_var rfl) ea_nil) ?_
    obtain ⟨h2, hm⟩ := R.wp_need hm
    refine k_rng1 h2.1 h2.2 ?_
    refine k_for (τ := (List Int) × Int) (fun (s3 : (List Int) × Int) (σ : L2.St) (H : Hp) => ∃ (w6 w7 : Option V), σ = [some (.ref ad_v_law_script), some (.int (v_law_many)), some (.ref p1), some (.int (s3.2)), w6, w7] ∧ Sep H ([lstA p1 (s3.1 : (List Int)), imA (.ref ad_v_law_script) v_law_script, F] : List (Asn (gx K)))) (im := (fun _ v (x : Int) => v = .int x)) (s := (([] : (List Int)), 7)) (fun _ => wk_range) ⟨_, _, rfl, hS.sel [0, 1, 2] (by decide) rfl⟩ hm (fun s3 x4 v5 σ H q N hI hx hm nx => ?_) (fun s3 σ H hm hI => ?_)
    · cases hx
      obtain ⟨w6, w7, rfl, hS⟩ := hI
      refine c_gN (σ' := [some (.ref ad_v_law_script), some (.int (v_law_many)), some (.ref p1), some (.int (s3.2)), some (.int (x4)), w7]) rfl ?_
      refine f_seq ?_
      refine c_asg ?_
      refine ev_to ev_c ?_
      refine c_set (σ' := [some (.ref ad_v_law_script), some (.int (v_law_many)), some (.ref p1), some (.int (s3.2)), some (.int (x4)), some (.int (0))]) rfl ?_
      refine sq_nx ?_
      refine f_seq ?_
      refine f_if ?_
      refine et_to (et_test (ev_i0 (ev_lenLm (ev_var rfl) (sq_script (hS.im (i := 1) rfl))) ev_c)) ?_
      refine ifK_J (τ := Int) (fun (s8 : Int) (σ : L2.St) (H : Hp) => σ = [some (.ref ad_v_law_script), some (.int (v_law_many)), some (.ref p1), some (.int (s3.2)), some (.int (x4)), some (.int (s8))] ∧ Sep H ([lstA p1 (s3.1 : (List Int)), imA (.ref ad_v_law_script) v_law_script, F] : List (Asn (gx K)))) hm (fun hb q hm nx => ?_) (fun hb q hm nx => ?_) (fun s8 σ H hm hI => ?_)
      ·
        refine c_asg ?_
        obtain ⟨h9, hm⟩ := R.wp_need hm
        obtain ⟨x10, hx10, hm⟩ := wp_idx hm
        refine ev_to (ev_ixSq (ev_var rfl) (ev_mod (ev_var rfl) (ev_lenLm (ev_var rfl) (sq_script (hS.im (i := 1) rfl))) h9) (sq_script (hS.im (i := 1) rfl)) (atI_map hx10)) ?_
        refine c_set (σ' := [some (.ref ad_v_law_script), some (.int (v_law_many)), some (.ref p1), some (.int (s3.2)), some (.int (x4)), some (.int (x10))]) rfl ?_
        exact nx _ _ _ hm ⟨rfl, hS.sel [0, 1, 2] (by decide) rfl⟩
      ·
        refine st_nx ?_
        exact nx _ _ _ hm ⟨rfl, hS.sel [0, 1, 2] (by decide) rfl⟩
      · obtain ⟨rfl, hS⟩ := hI
        refine sq_nx ?_
        refine f_seq ?_
        refine c_asg ?_
        refine ev_to (ev_mod (ev_add (ev_add (ev_mul (ev_var rfl) ev_c (.inr (by constructor <;> decide))) (ev_var rfl)) (ev_var rfl)) ev_c (by decide)) ?_
        obtain ⟨y11, hy11, hm⟩ := wp_let hm
        refine n_is (w := (.int (y11))) (by rw [hy11]) ?_
        refine c_set (σ' := [some (.ref ad_v_law_script), some (.int (v_law_many)), some (.ref p1), some (.int (y11)), some (.int (x4)), some (.int (s8))]) rfl ?_
        refine sq_nx ?_
        refine c_drop ?_
        refine c_bm ?_
        refine ev_to (ev_var rfl) ⟨tyL hS (i := 0) rfl, ?_⟩
        obtain ⟨h12, hm⟩ := R.wp_need hm
        refine ea_to (ea_cons (ev_mod (ev_add (ev_mul (ev_var rfl) (ev_var rfl) h12) (ev_mul ev_c (ev_var rfl) (.inl (by constructor <;> decide)))) ev_c (by decide)) ea_nil) ?_
        obtain ⟨h13, hm⟩ := R.wp_need hm
        refine k_append (x := ((y11 * y11) + (16807 * y11)) % 2147483629) hS (i := 0) rfl rfl h13 rfl fun H hS => ?_
        exact nx _ _ _ hm ⟨_, _, rfl, hS.sel [0, 1, 2] (by decide) rfl⟩
    · obtain ⟨w6, w7, rfl, hS⟩ := hI
      refine sq_nx ?_
      refine c_ret ?_
      refine ev_to (ev_var rfl) ?_
      exact hm _ _ (hS.sel [0, 2] (by decide) rfl)
def sp_law_text (K : PySem.W.Frag) : Sp := fun vs H Q E => ∃ (a_v_law_row_here : Addr) (v_law_row_here : (List Int)) (F : Asn (gx K)), vs = [.ref a_v_law_row_here] ∧ Sep H [lstA a_v_law_row_here v_law_row_here, F] ∧ R.wp (m_law_text v_law_row_here) (fun r => ∀ H', Sep H' [lstA a_v_law_row_here v_law_row_here, F] → Q (.str (r)) H') (fun _ => False)
abbrev N_law_text : List Str := ["_law_row_here", "_law_some", "_law_size", "_law_k", "_law_text_here", "_law_at", "_law_others", "_law_other"]
theorem sc_law_text : FnScope N_law_text ["_law_row_here"] (defScope s_law_text) := ⟨rfl, rfl, rfl, by decide +kernel, rfl, by decide +kernel, by decide +kernel⟩
theorem ok_law_text (T : Txt K mg) : FnOk P w K mg base CX0 1 T.a_law_text T.fd_law_text ["_law_row_here"] (sp_law_text K) := by
  have nd := sc_law_text.nd
  refine T.F_law_text.ok sc_law_text (fun vs H Q E h => ?_) (fun cdv A outer s H vs Q E hr h => ?_)
  · obtain ⟨a_v_law_row_here, v_law_row_here, F, rfl, _⟩ := h; rfl
  · obtain ⟨a_v_law_row_here, v_law_row_here, F, rfl, hS, hm⟩ := h
    refine ⟨_, (pss_cons (ps_set (i := 1) nd rfl (Or.inr rfl) pe_str)
      (pss_cons (ps_set (i := 2) nd rfl (Or.inl rfl) (pe_op op_mod (pe_ix (ix_listK K) (pv 0) pe_int (fun _ _ => rfl)) pe_int))
      (pss_cons (ps_if (pt_cmpR op_eq (pe_op op_mod (pe_ix (ix_listK K) (pv 0) pe_int (fun _ _ => rfl)) pe_int) pe_int (nomark _)) (pss_one (ps_set (i := 2) nd rfl (Or.inl rfl) (pe_op op_add pe_int (pe_op op_mod (pe_ix (ix_listK K) (pv 0) pe_int (fun _ _ => rfl)) pe_int)))) pss_nil)
      (pss_cons (ps_set (i := 4) nd rfl (Or.inl rfl) (pe_m1 PySem.F.slot_str_join PySem.F.type_str_join (joinK K) pe_str (pe_lc (own := [("_law_k", 3)]) (g := gName 3) rfl nd (pi_range1 rfl T.z_range (pa_cons (pv 2) pa_nil)) (blkOk_by (own := [("_law_k", 3)]) (N := N_law_text) (sc := defScope s_law_text) (by decide +kernel)) (fun _ _ _ _ _ => pg_name (i := 3) nd rfl (Or.inl rfl)) (fun _ _ _ _ _ => pts_nil) (fun _ _ _ _ _ => (pe_ix ix_str (pv 1) (pe_op op_mod (pe_op op_add (pe_ix (ix_listK K) (pv 0) pe_int (fun _ _ => rfl)) (pe_op op_mul (pe_ix (ix_listK K) (pv 0) pe_int (fun _ _ => rfl)) (pv 3))) pe_int) (fun _ _ => rfl))))))
      (pss_cons (ps_if (PW.pt (pw_and (pt_cmpR op_eq (pe_op op_mod (pe_ix (ix_listK K) (pv 0) pe_int (fun _ _ => rfl)) pe_int) pe_int (nomark _)) (pw_and1 (pt_cmpR op_gt (pv 2) pe_int (nomark _))))) (pss_cons (ps_set (i := 5) nd rfl (Or.inl rfl) (pe_ix (ix_listK K) (pe_lst (pa_cons (pe_op op_mod (pe_ix (ix_listK K) (pv 0) pe_int (fun _ _ => rfl)) (pv 2)) (pa_cons pe_int (pa_cons (pe_op op_sub (pv 2) pe_int) (pa_cons (pe_op op_mod (pe_ix (ix_listK K) (pv 0) pe_int (fun _ _ => rfl)) (pv 2)) pa_nil))))) (pe_op op_mod (pe_ix (ix_listK K) (pv 0) pe_int (fun _ _ => rfl)) pe_int) (fun _ _ => rfl)))
      (pss_cons (ps_set (i := 6) nd rfl (Or.inl rfl) pe_str)
      (pss_cons (ps_set (i := 7) nd rfl (Or.inl rfl) (pe_ix ix_str (pv 6) (pe_op op_mod (pe_ix (ix_listK K) (pv 0) pe_int (fun _ _ => rfl)) (pe_callB call_lenS (by rfl) T.z_len PySem.boot_len (pa_cons (pv 6) pa_nil))) (fun _ _ => rfl)))
      (pss_one (ps_set (i := 4) nd rfl (Or.inl rfl) (pe_op op_catS (pe_op op_catS (pe_slice sl_str (pv 4) po_none (po_some (pv 5))) (pv 7)) (pe_slice sl_str (pv 4) (po_some (pe_op op_add (pv 5) pe_int)) po_none))))))) pss_nil)
      (pss_one (ps_ret (pv 4)))))))), ?_⟩
    unfold m_law_text at hm
    refine f_seq ?_
    refine c_asg ?_
    refine ev_to ev_c ?_
    refine c_set (σ' := [some (.ref a_v_law_row_here), some (.str (("abcdefghijklmnopqrstuvwxyz0123456789" : Str))), none, none, none, none, none, none]) rfl ?_
    refine sq_nx ?_
    refine f_seq ?_
    refine c_asg ?_
    obtain ⟨x1, hx1, hm⟩ := wp_idx hm
    refine ev_to (ev_mod (ev_ixSq (ev_var rfl) ev_c (hS.sqF (i := 0) rfl) (atI_map hx1)) ev_c (by decide)) ?_
    obtain ⟨y2, hy2, hm⟩ := wp_let hm
    refine n_is (w := (.int (y2))) (by rw [hy2]) ?_
    refine c_set (σ' := [some (.ref a_v_law_row_here), some (.str (("abcdefghijklmnopqrstuvwxyz0123456789" : Str))), some (.int (y2)), none, none, none, none, none]) rfl ?_
    refine sq_nx ?_
    refine f_seq ?_
    refine f_if ?_
    obtain ⟨x3, hx3, hm⟩ := wp_idx hm
    refine et_to (et_test (ev_eqI (ev_mod (ev_ixSq (ev_var rfl) ev_c (hS.sqF (i := 0) rfl) (atI_map hx3)) ev_c (by decide)) ev_c)) ?_
    refine ifK_J (τ := Int) (fun (s4 : Int) (σ : L2.St) (H : Hp) => σ = [some (.ref a_v_law_row_here), some (.str (("abcdefghijklmnopqrstuvwxyz0123456789" : Str))), some (.int (s4)), none, none, none, none, none] ∧ Sep H ([lstA a_v_law_row_here (v_law_row_here : (List Int)), F] : List (Asn (gx K)))) hm (fun hb q hm nx => ?_) (fun hb q hm nx => ?_) (fun s4 σ H hm hI => ?_)
    ·
      refine c_asg ?_
      obtain ⟨x5, hx5, hm⟩ := wp_idx hm
      refine ev_to (ev_add ev_c (ev_mod (ev_ixSq (ev_var rfl) ev_c (hS.sqF (i := 0) rfl) (atI_map hx5)) ev_c (by decide))) ?_
      obtain ⟨y6, hy6, hm⟩ := wp_let hm
      refine n_is (w := (.int (y6))) (by rw [hy6]) ?_
      refine c_set (σ' := [some (.ref a_v_law_row_here), some (.str (("abcdefghijklmnopqrstuvwxyz0123456789" : Str))), some (.int (y6)), none, none, none, none, none]) rfl ?_
      exact nx _ _ _ hm ⟨rfl, hS.sel [0, 1] (by decide) rfl⟩
    ·
      refine st_nx ?_
      exact nx _ _ _ hm ⟨rfl, hS.sel [0, 1] (by decide) rfl⟩
    · obtain ⟨rfl, hS⟩ := hI
      refine sq_nx ?_
      refine f_seq ?_
      refine c_asg ?_
      refine c_m1 ev_c ?_
      refine c_lc ?_
      refine c_rng1 ?_
      refine ea_to (ea_cons (ev_var rfl) ea_nil) ?_
      obtain ⟨h7, hm⟩ := R.wp_need hm
      refine k_rng1 h7.1 h7.2 ?_
      obtain ⟨h8, hm⟩ := R.wp_need hm
      refine lc_sep (β := Str) (fun (_ : Unit) => [lstA a_v_law_row_here (v_law_row_here : (List Int)), F]) (s := ()) (im := (fun _ v (x : Int) => v = .int x)) hS (fun _ _ _ => wk_range) h8 hm (fun p9 _ ys12 x10 v11 H q Nx hS hx hm kS kN => ?_) (fun p9 t H hm hS => ?_)
      · cases hx
        refine c_gLc (σ' := [some (.ref a_v_law_row_here), some (.str (("abcdefghijklmnopqrstuvwxyz0123456789" : Str))), some (.int (s4)), some (.int (x10)), none, none, none, none]) rfl rfl ?_
        refine c_yes ?_
        obtain ⟨x13, hx13, hm⟩ := wp_idx hm
        obtain ⟨x14, hx14, hm⟩ := wp_idx hm
        obtain ⟨h15, hm⟩ := R.wp_need hm
        obtain ⟨c16, hc16, hm⟩ := wp_idx hm
        refine ev_to (ev_ixS (ev_var rfl) (ev_mod (ev_add (ev_ixSq (ev_var rfl) ev_c (hS.sqF (i := 1) rfl) (atI_map hx13)) (ev_mul (ev_ixSq (ev_var rfl) ev_c (hS.sqF (i := 1) rfl) (atI_map hx14)) (ev_var rfl) h15)) ev_c (by decide)) (by decide +kernel) hc16) ?_
        exact kS () _ _ _ hm rfl (hS.sel [0, 1, 2] (by decide) rfl)
      · revert hm hS; generalize t = t17; intro hm hS
        obtain ⟨h18, hm⟩ := R.wp_need hm
        refine k_join hS (n := 0) rfl h18 ?_
        obtain ⟨y19, hy19, hm⟩ := wp_let hm
        refine n_is (w := (.str (y19))) (by rw [hy19]) ?_
        refine c_set (σ' := [some (.ref a_v_law_row_here), some (.str (("abcdefghijklmnopqrstuvwxyz0123456789" : Str))), some (.int (s4)), none, some (.str (y19)), none, none, none]) rfl ?_
        refine sq_nx ?_
        refine f_seq ?_
        refine f_if ?_
        obtain ⟨x20, hx20, hm⟩ := wp_idx hm
        refine et_to (et_and (et_test (ev_eqI (ev_mod (ev_ixSq (ev_var rfl) ev_c (hS.sqF (i := 1) rfl) (atI_map hx20)) ev_c (by decide)) ev_c)) fun _ => (et_test (ev_i0 (ev_var rfl) ev_c))) ?_
        refine ifK_J (τ := Str) (fun (s21 : Str) (σ : L2.St) (H : Hp) => ∃ (w22 w23 w24 : Option V), σ = [some (.ref a_v_law_row_here), some (.str (("abcdefghijklmnopqrstuvwxyz0123456789" : Str))), some (.int (s4)), none, some (.str (s21)), w22, w23, w24] ∧ Sep H ([lstA p9 (t17.2 : (List Str)), lstA a_v_law_row_here (v_law_row_here : (List Int)), F] : List (Asn (gx K)))) hm (fun hb q hm nx => ?_) (fun hb q hm nx => ?_) (fun s21 σ H hm hI => ?_)
        ·
          refine f_seq ?_
          refine c_asg ?_
          refine c_op ?_
          refine c_lst ?_
          obtain ⟨x25, hx25, hm⟩ := wp_idx hm
          obtain ⟨h26, hm⟩ := R.wp_need hm
          obtain ⟨x27, hx27, hm⟩ := wp_idx hm
          obtain ⟨h28, hm⟩ := R.wp_need hm
          refine ea_to (ea_cons (ev_mod (ev_ixSq (ev_var rfl) ev_c (hS.sqF (i := 1) rfl) (atI_map hx25)) (ev_var rfl) h26) (ea_cons ev_c (ea_cons (ev_sub (ev_var rfl) ev_c) (ea_cons (ev_mod (ev_ixSq (ev_var rfl) ev_c (hS.sqF (i := 1) rfl) (atI_map hx27)) (ev_var rfl) h28) ea_nil)))) ?_
          refine k_lst (α := Int) (vs := [(.int (x25 % s4)), (.int (0)), (.int (s4 - 1)), (.int (x27 % s4))]) (xs := [x25 % s4, 0, s4 - 1, x27 % s4]) hS ⟨rfl, ⟨rfl, ⟨rfl, ⟨rfl, True.intro⟩⟩⟩⟩ (by show 4 ≤ sizeLine; decide) fun p29 H hS => ?_
          obtain ⟨x30, hx30, hm⟩ := wp_idx hm
          refine ev_to (ev_mod (ev_ixSq (ev_var rfl) ev_c (hS.sqF (i := 2) rfl) (atI_map hx30)) ev_c (by decide)) ?_
          obtain ⟨x31, hx31, hm⟩ := wp_idx hm
          refine r_ixSq (hS.sqF (i := 0) rfl) (atI_map hx31) _ ?_
          refine c_set (σ' := [some (.ref a_v_law_row_here), some (.str (("abcdefghijklmnopqrstuvwxyz0123456789" : Str))), some (.int (s4)), none, some (.str (y19)), some (.int (x31)), none, none]) rfl ?_
          refine sq_nx ?_
          refine f_seq ?_
          refine c_asg ?_
          refine ev_to ev_c ?_
          obtain ⟨y32, hy32, hm⟩ := wp_let hm
          refine n_is (w := (.str (y32))) (by rw [hy32]) ?_
          refine c_set (σ' := [some (.ref a_v_law_row_here), some (.str (("abcdefghijklmnopqrstuvwxyz0123456789" : Str))), some (.int (s4)), none, some (.str (y19)), some (.int (x31)), some (.str (y32)), none]) rfl ?_
          refine sq_nx ?_
          refine f_seq ?_
          refine c_asg ?_
          obtain ⟨x33, hx33, hm⟩ := wp_idx hm
          obtain ⟨h34, hm⟩ := R.wp_need hm
          obtain ⟨h35, hm⟩ := R.wp_need hm
          obtain ⟨h36, hm⟩ := R.wp_need hm
          obtain ⟨c37, hc37, hm⟩ := wp_idx hm
          refine ev_to (ev_ixS (ev_var rfl) (ev_mod (ev_ixSq (ev_var rfl) ev_c (hS.sqF (i := 2) rfl) (atI_map hx33)) (ev_lenS (ev_var rfl) h34) h35) h36 hc37) ?_
          refine c_set (σ' := [some (.ref a_v_law_row_here), some (.str (("abcdefghijklmnopqrstuvwxyz0123456789" : Str))), some (.int (s4)), none, some (.str (y19)), some (.int (x31)), some (.str (y32)), some (.str (sg (c37)))]) rfl ?_
          refine sq_nx ?_
          refine c_asg ?_
          obtain ⟨h38, hm⟩ := R.wp_need hm
          obtain ⟨h39, hm⟩ := R.wp_need hm
          obtain ⟨h40, hm⟩ := R.wp_need hm
          obtain ⟨h41, hm⟩ := R.wp_need hm
          refine ev_to (ev_catS (ev_catS (ev_slS (ev_var rfl) eo_no (eo_some (ev_var rfl)) h38) (ev_var rfl) h39) (ev_slS (ev_var rfl) (eo_some (ev_add (ev_var rfl) ev_c)) eo_no h40) h41) ?_
          obtain ⟨y42, hy42, hm⟩ := wp_let hm
          refine n_is (w := (.str (y42))) (by rw [hy42]) ?_
          refine c_set (σ' := [some (.ref a_v_law_row_here), some (.str (("abcdefghijklmnopqrstuvwxyz0123456789" : Str))), some (.int (s4)), none, some (.str (y42)), some (.int (x31)), some (.str (y32)), some (.str (sg (c37)))]) rfl ?_
          exact nx _ _ _ hm ⟨_, _, _, rfl, hS.sel [1, 2, 3] (by decide) rfl⟩
        ·
          refine st_nx ?_
          exact nx _ _ _ hm ⟨_, _, _, rfl, hS.sel [0, 1, 2] (by decide) rfl⟩
        · obtain ⟨w22, w23, w24, rfl, hS⟩ := hI
          refine sq_nx ?_
          refine c_ret ?_
          refine ev_to (ev_var rfl) ?_
          exact hm _ (hS.sel [1, 2] (by decide) rfl)
def sp_law (K : PySem.W.Frag) : Sp := fun vs H Q E => ∃ (a_v_law_script : V) (v_law_script : Script) (F : Asn (gx K)), vs = [a_v_law_script] ∧ Im.im (gx K) H a_v_law_script v_law_script ∧ Sep H [F] ∧ R.wp (m_law v_law_script) (fun r => ∀ H', Sep H' [F] → Q (.bl (r)) H') (fun _ => False)
abbrev N_law : List Str := ["_law_script", "_law_row_here", "_law_thing", "_law_due", "_law_sign", "_law_found"]
theorem sc_law : FnScope N_law ["_law_script"] (defScope s_law) := ⟨rfl, rfl, rfl, by decide +kernel, rfl, by decide +kernel, by decide +kernel⟩
theorem ok_law (T : Txt K mg) : FnOk P w K mg base CX0 3 T.a_law T.fd_law ["_law_script"] (sp_law K) := by
  have nd := sc_law.nd
  refine T.F_law.ok sc_law (fun vs H Q E h => ?_) (fun cdv A outer s H vs Q E hr h => ?_)
  · obtain ⟨a_v_law_script, v_law_script, F, rfl, _⟩ := h; rfl
  · obtain ⟨a_v_law_script, v_law_script, F, rfl, him_v_law_script, hS, hm⟩ := h
    obtain ⟨ad_v_law_script, rfl, _⟩ := im_script him_v_law_script
    have hS := hS.addIm him_v_law_script
    refine ⟨_, (pss_cons (ps_set (i := 1) nd rfl (Or.inl rfl) (pe_call (ok_law_row T) (hr.mono (by decide)) rfl T.g_law_row T.F_law_row.kp T.b_law_row .nil pass0 (pa_cons (pv 0) (pa_cons pe_int pa_nil))))
      (pss_cons (ps_set (i := 2) nd rfl (Or.inl rfl) (pe_call (ok_law_text T) (hr.mono (by decide)) rfl T.g_law_text T.F_law_text.kp T.b_law_text .nil pass0 (pa_cons (pv 1) pa_nil)))
      (pss_cons (ps_set (i := 3) nd rfl (Or.inl rfl) (pe_chain op_lt op_lt pe_int (pe_callB call_lenS (by rfl) T.z_len PySem.boot_len (pa_cons (pv 2) pa_nil)) pe_int))
      (pss_cons (ps_for PassesOwn.never rfl (pi_str (pv 2)) (pg_name (i := 4) nd rfl (Or.inl rfl)) (pss_one (ps_if (pt_cmpR op_niSg (pv 4) pe_str (by rfl)) (pss_one (ps_set (i := 3) nd rfl (Or.inl rfl) pe_bl)) pss_nil)))
      (pss_cons (ps_if (pt_cmpR op_eq (pe_op op_mod (pe_ix (ix_listK K) (pv 1) pe_int (fun _ _ => rfl)) pe_int) pe_int (nomark _)) (pss_cons (ps_set (i := 2) nd rfl (Or.inl rfl) (pe_ix (ix_listK K) (pe_lst (pa_cons pe_non (pa_cons pe_int (pa_cons pe_bl (pa_cons (pe_tup (pa_cons pe_str pa_nil)) (pa_cons (pe_lst (pa_cons pe_str pa_nil)) (pa_cons pe_dnewK (pa_cons pe_int (pa_cons pe_bl (pa_cons (pe_tup pa_nil) pa_nil)))))))))) (pe_op op_mod (pe_ix (ix_listK K) (pv 1) pe_int (fun _ _ => rfl)) pe_int) (fun _ _ => rfl)))
      (pss_one (ps_set (i := 3) nd rfl (Or.inl rfl) pe_bl))) pss_nil)
      (pss_cons (ps_set (i := 5) nd rfl (Or.inl rfl) (pe_call (ok_is_word T) (hr.mono (by decide)) rfl T.g_is_word T.F_is_word.kp T.b_is_word .nil pass0 (pa_cons (pv 2) pa_nil)))
      (pss_one (ps_ret (pe_and (pe_callB (isiK K) (by rfl) T.z_isinstance (by decide +kernel) (pa_cons (pv 5) (pa_cons (pe_bltn (v := .ty "bool") (by rfl) T.z_bool (by decide +kernel) rfl) pa_nil))) (pe_and (pe_cmpR op_eq (pv 5) (pv 3) (nomark _)) (pe_one (pe_cmpR op_eq (pe_call (ok_is_word T) (hr.mono (by decide)) rfl T.g_is_word T.F_is_word.kp T.b_is_word .nil pass0 (pa_cons (pv 2) pa_nil)) (pv 3) (nomark _))))))))))))), ?_⟩
    unfold m_law at hm
    refine f_seq ?_
    refine c_asg ?_
    refine c_call ?_
    refine ea_to (ea_cons (ev_var rfl) (ea_cons ev_c ea_nil)) ?_
    refine ⟨_, _, _, star [imA (.ref ad_v_law_script) v_law_script, F], rfl, hS.im (i := 0) rfl, Sep.unstar (M := []) (hS.sel [0, 1] (by decide) rfl : Sep H ([] ++ [imA (.ref ad_v_law_script) v_law_script, F])), R.wp_mono (R.wp_bind hm) (fun r1 hm p2 H hS => ?_) (fun _ z => z)⟩
    have hS : Sep H ([lstA p2 (r1 : (List Int)), imA (.ref ad_v_law_script) v_law_script, F] : List (Asn (gx K))) := Sep.star (M := [lstA p2 (r1 : (List Int))]) hS
    refine c_set (σ' := [some (.ref ad_v_law_script), some (.ref p2), none, none, none, none]) rfl ?_
    refine sq_nx ?_
    refine f_seq ?_
    refine c_asg ?_
    refine c_call ?_
    refine ea_to (ea_cons (ev_var rfl) ea_nil) ?_
    refine ⟨_, _, star [imA (.ref ad_v_law_script) v_law_script, F], rfl, Sep.unstar (M := [lstA p2 (r1 : (List Int))]) (hS.sel [0, 1, 2] (by decide) rfl : Sep H ([lstA p2 (r1 : (List Int))] ++ [imA (.ref ad_v_law_script) v_law_script, F])), R.wp_mono (R.wp_bind hm) (fun r3 hm H hS => ?_) (fun _ z => z)⟩
    have hS : Sep H ([lstA p2 (r1 : (List Int)), imA (.ref ad_v_law_script) v_law_script, F] : List (Asn (gx K))) := Sep.star (M := [lstA p2 (r1 : (List Int))]) hS
    refine c_set (σ' := [some (.ref ad_v_law_script), some (.ref p2), some (.str (r3)), none, none, none]) rfl ?_
    refine sq_nx ?_
    refine f_seq ?_
    refine c_asg ?_
    obtain ⟨h4, hm⟩ := R.wp_need hm
    refine ev_to (ev_chainB (a := decide (0 < ((r3).length : Int))) (b := decide (((r3).length : Int) < 21)) ev_c (ev_lenS (ev_var rfl) h4) (fun _ => ev_c) (fun Q q => r_I0 Q q) (fun _ Q q => r_I0 Q q)) ?_
    obtain ⟨y5, hy5, hm⟩ := wp_let hm
    refine n_is (w := (.bl (y5))) (by rw [hy5]) ?_
    refine c_set (σ' := [some (.ref ad_v_law_script), some (.ref p2), some (.str (r3)), some (.bl (y5)), none, none]) rfl ?_
    refine sq_nx ?_
    refine f_seq ?_
    refine c_for ?_
    refine c_is ?_
    refine ev_to (ev_var rfl) ?_
    refine k_is ?_
    refine k_for (τ := Bool) (fun (s6 : Bool) (σ : L2.St) (H : Hp) => ∃ (w9 : Option V), σ = [some (.ref ad_v_law_script), some (.ref p2), some (.str (r3)), some (.bl (s6)), w9, none] ∧ Sep H ([lstA p2 (r1 : (List Int)), imA (.ref ad_v_law_script) v_law_script, F] : List (Asn (gx K)))) (im := (fun _ v (c : Nat) => v = .str (sg c))) (s := (y5)) (fun _ => wk_str) ⟨_, rfl, hS.sel [0, 1, 2] (by decide) rfl⟩ hm (fun s6 x7 v8 σ H q N hI hx hm nx => ?_) (fun s6 σ H hm hI => ?_)
    · cases hx
      obtain ⟨w9, rfl, hS⟩ := hI
      refine c_gN (σ' := [some (.ref ad_v_law_script), some (.ref p2), some (.str (r3)), some (.bl (s6)), some (.str (sg (x7))), none]) rfl ?_
      refine f_if ?_
      refine et_to (et_test (ev_niSg (ev_var rfl) ev_c)) ?_
      refine ifK_J (τ := Bool) (fun (s10 : Bool) (σ : L2.St) (H : Hp) => σ = [some (.ref ad_v_law_script), some (.ref p2), some (.str (r3)), some (.bl (s10)), some (.str (sg (x7))), none] ∧ Sep H ([lstA p2 (r1 : (List Int)), imA (.ref ad_v_law_script) v_law_script, F] : List (Asn (gx K)))) hm (fun hb q hm nx => ?_) (fun hb q hm nx => ?_) (fun s10 σ H hm hI => ?_)
      ·
        refine c_asg ?_
        refine ev_to ev_c ?_
        refine c_set (σ' := [some (.ref ad_v_law_script), some (.ref p2), some (.str (r3)), some (.bl (false)), some (.str (sg (x7))), none]) rfl ?_
        exact nx _ _ _ hm ⟨rfl, hS.sel [0, 1, 2] (by decide) rfl⟩
      ·
        refine st_nx ?_
        exact nx _ _ _ hm ⟨rfl, hS.sel [0, 1, 2] (by decide) rfl⟩
      · obtain ⟨rfl, hS⟩ := hI
        exact nx _ _ _ hm ⟨_, rfl, hS.sel [0, 1, 2] (by decide) rfl⟩
    · obtain ⟨w9, rfl, hS⟩ := hI
      refine sq_nx ?_
      refine f_seq ?_
      refine f_if ?_
      obtain ⟨x11, hx11, hm⟩ := wp_idx hm
      refine et_to (et_test (ev_eqI (ev_mod (ev_ixSq (ev_var rfl) ev_c (hS.sqF (i := 0) rfl) (atI_map hx11)) ev_c (by decide)) ev_c)) ?_
      refine ifK_J (τ := Any × Bool) (fun (s12 : Any × Bool) (σ : L2.St) (H : Hp) => ∃ (a13 : V), σ = [some (.ref ad_v_law_script), some (.ref p2), some a13, some (.bl (s12.2)), w9, none] ∧ Sep H ([imA a13 s12.1, lstA p2 (r1 : (List Int)), imA (.ref ad_v_law_script) v_law_script, F] : List (Asn (gx K)))) hm (fun hb q hm nx => ?_) (fun hb q hm nx => ?_) (fun s12 σ H hm hI => ?_)
      ·
        refine f_seq ?_
        refine c_asg ?_
        refine c_op ?_
        refine c_lst ?_
        refine c_cons ?_
        refine ev_to ev_c ?_
        refine c_cons ?_
        refine ev_to ev_c ?_
        refine c_cons ?_
        refine ev_to ev_c ?_
        refine c_cons ?_
        refine c_tup ?_
        refine ea_to (ea_cons ev_c ea_nil) ?_
        refine k_tupA (vs := [(.str (("a" : Str)))]) (xs := [(Any.str ("a" : Str))]) hS ⟨any_str.mpr rfl, True.intro⟩ (by show 1 ≤ sizeLine; decide) fun p14 H hS => ?_
        refine c_cons ?_
        refine c_lst ?_
        refine ea_to (ea_cons ev_c ea_nil) ?_
        refine k_lst (α := Str) (vs := [(.str (("a" : Str)))]) (xs := [("a" : Str)]) hS ⟨rfl, True.intro⟩ (by show 1 ≤ sizeLine; decide) fun p15 H hS => ?_
        refine c_cons ?_
        refine k_dnew (κ := Str) (β := Str) hS fun p16 H hS => ?_
        refine c_cons ?_
        refine ev_to ev_c ?_
        refine c_cons ?_
        refine ev_to ev_c ?_
        refine c_cons ?_
        refine c_tup ?_
        refine ea_to ea_nil ?_
        refine k_tupA (vs := []) (xs := []) hS True.intro (by show 0 ≤ sizeLine; decide) fun p17 H hS => ?_
        refine c_nil ?_
        have hS := hS.addIm (any_lst hS (i := 2) rfl)
        have hS := hS.addIm (any_dict hS (i := 2) rfl)
        refine k_lst (α := Any) (vs := [.non, (.int (7)), (.bl (true)), (.ref p14), (.ref p15), (.ref p16), (.int (0)), (.bl (false)), (.ref p17)]) (xs := [Any.non, (Any.int 7), (Any.bl true), (Any.tup [(Any.str ("a" : Str))]), (Any.oth 0), (Any.oth 1), (Any.int 0), (Any.bl false), (Any.tup [])]) hS ⟨any_non.mpr rfl, ⟨any_int.mpr rfl, ⟨any_bl.mpr rfl, ⟨hS.im (i := 5) rfl, ⟨hS.im (i := 1) rfl, ⟨hS.im (i := 0) rfl, ⟨any_int.mpr rfl, ⟨any_bl.mpr rfl, ⟨hS.im (i := 2) rfl, True.intro⟩⟩⟩⟩⟩⟩⟩⟩⟩ (by show 9 ≤ sizeLine; decide) fun p18 H hS => ?_
        obtain ⟨x19, hx19, hm⟩ := wp_idx hm
        refine ev_to (ev_mod (ev_ixSq (ev_var rfl) ev_c (hS.sqF (i := 7) rfl) (atI_map hx19)) ev_c (by decide)) ?_
        obtain ⟨x20, hx20, hm⟩ := wp_idx hm
        refine k_ixL hS (n := 0) rfl hx20 fun v21 hS => ?_
        refine c_set (σ' := [some (.ref ad_v_law_script), some (.ref p2), some v21, some (.bl (s6)), w9, none]) rfl ?_
        refine sq_nx ?_
        refine c_asg ?_
        refine ev_to ev_c ?_
        refine c_set (σ' := [some (.ref ad_v_law_script), some (.ref p2), some v21, some (.bl (false)), w9, none]) rfl ?_
        have hS := hS.addIm (hS.im (i := 0) rfl : Im.im (gx K) _ v21 x20)
        exact nx _ _ _ hm ⟨_, rfl, hS.sel [0, 9, 10, 11] (by decide) rfl⟩
      ·
        refine st_nx ?_
        have hS := hS.addIm (any_str.mpr rfl : Im.im (gx K) _ (.str (r3)) (Any.str r3))
        exact nx _ _ _ hm ⟨_, rfl, hS.sel [0, 1, 2, 3] (by decide) rfl⟩
      · obtain ⟨a13, rfl, hS⟩ := hI
        refine sq_nx ?_
        refine f_seq ?_
        refine c_asg ?_
        refine c_call ?_
        refine ea_to (ea_cons (ev_var rfl) ea_nil) ?_
        refine ⟨_, _, star [imA a13 s12.1, lstA p2 (r1 : (List Int)), imA (.ref ad_v_law_script) v_law_script, F], rfl, hS.im (i := 0) rfl, Sep.unstar (M := []) (hS.sel [0, 1, 2, 3] (by decide) rfl : Sep H ([] ++ [imA a13 s12.1, lstA p2 (r1 : (List Int)), imA (.ref ad_v_law_script) v_law_script, F])), R.wp_mono (R.wp_bind hm) (fun r24 hm H hS => ?_) (fun _ z => z)⟩
        have hS : Sep H ([imA a13 s12.1, lstA p2 (r1 : (List Int)), imA (.ref ad_v_law_script) v_law_script, F] : List (Asn (gx K))) := Sep.star (M := []) hS
        refine c_set (σ' := [some (.ref ad_v_law_script), some (.ref p2), some a13, some (.bl (s12.2)), w9, some (.bl (r24))]) rfl ?_
        refine sq_nx ?_
        refine c_ret ?_
        refine f_andV ?_
        refine ev_to (ev_isi (G := gx K) (x := (.bl (r24))) (T := "bool") (U := "bool") (b := true) (ev_var rfl) ev_c (.base (.bl _)) (by decide +kernel)) ?_
        refine andVK_t ?_
        refine f_andV ?_
        refine ev_to (ev_eqB (ev_var rfl) (ev_var rfl)) ?_
        refine andVK_J hm hS (fun hb q hm nx => ?_) (fun b25 H hm hS => ?_)
        ·
          refine c_op ?_
          refine c_call ?_
          refine ea_to (ea_cons (ev_var rfl) ea_nil) ?_
          refine ⟨_, _, star [imA a13 s12.1, lstA p2 (r1 : (List Int)), imA (.ref ad_v_law_script) v_law_script, F], rfl, hS.im (i := 0) rfl, Sep.unstar (M := []) (hS.sel [0, 1, 2, 3] (by decide) rfl : Sep H ([] ++ [imA a13 s12.1, lstA p2 (r1 : (List Int)), imA (.ref ad_v_law_script) v_law_script, F])), R.wp_mono (R.wp_bind hm) (fun r26 hm H hS => ?_) (fun _ z => z)⟩
          have hS : Sep H ([imA a13 s12.1, lstA p2 (r1 : (List Int)), imA (.ref ad_v_law_script) v_law_script, F] : List (Asn (gx K))) := Sep.star (M := []) hS
          refine ev_to (ev_var rfl) ?_
          refine r_eqB _ ?_
          exact nx _ _ hm (hS.sel [0, 1, 2, 3] (by decide) rfl)
        ·
          exact hm _ (hS.sel [3] (by decide) rfl)
end
end Lw

namespace Lw
open PySem PySem.Spec PyProof.Rows L2 Ml
theorem all_mk {l : PySem.W.OpenLaw} {w : World} {K : PySem.W.Frag} {h : Heap} {mg : Str → Option Value} {fa : Addr} (X : K.In h) (G : h.Ns mainGlobals mg) (hfa : mg "law" = some (.ref fa))
    {f0 : Addr} {od0 an0 : Option Addr} {sl0 : Array (Option Value)} {oc0 kV0 dc0 pm0 cd0 ct0 : Value}
    {f1 : Addr} {od1 an1 : Option Addr} {sl1 : Array (Option Value)} {oc1 kV1 dc1 pm1 cd1 ct1 : Value}
    {f2 : Addr} {od2 an2 : Option Addr} {sl2 : Array (Option Value)} {oc2 kV2 dc2 pm2 cd2 ct2 : Value}
    {f3 : Addr} {od3 an3 : Option Addr} {sl3 : Array (Option Value)} {oc3 kV3 dc3 pm3 cd3 ct3 : Value}
    {f4 : Addr} {od4 an4 : Option Addr} {sl4 : Array (Option Value)} {oc4 kV4 dc4 pm4 cd4 ct4 : Value}
    {t_FIGURES : Tok}
    {t_MOST_SIGNS : Tok}
    {t_SMALL : Tok}
    (a0 : PySem.W.nsIn K mainGlobals "is_sign" = some (some (.ref f0))) (l0 : K.lookup f0 = some ⟨oc0, od0, .func (PySem.W.fnOf "is_sign" "is_sign" (defArgs s_is_sign) (defBody s_is_sign) (defScope s_is_sign) .none kV0 dc0 pm0 an0 cd0 ct0), sl0⟩) (c0 : PySem.W.codeIn K cd0 "is_sign" = true) (k0 : PySem.W.keepIn K (.ref f0) = true)
    (a1 : PySem.W.nsIn K mainGlobals "is_word" = some (some (.ref f1))) (l1 : K.lookup f1 = some ⟨oc1, od1, .func (PySem.W.fnOf "is_word" "is_word" (defArgs s_is_word) (defBody s_is_word) (defScope s_is_word) .none kV1 dc1 pm1 an1 cd1 ct1), sl1⟩) (c1 : PySem.W.codeIn K cd1 "is_word" = true) (k1 : PySem.W.keepIn K (.ref f1) = true)
    (a2 : PySem.W.nsIn K mainGlobals "_law_row" = some (some (.ref f2))) (l2 : K.lookup f2 = some ⟨oc2, od2, .func (PySem.W.fnOf "_law_row" "_law_row" (defArgs s_law_row) (defBody s_law_row) (defScope s_law_row) .none kV2 dc2 pm2 an2 cd2 ct2), sl2⟩) (c2 : PySem.W.codeIn K cd2 "_law_row" = true) (k2 : PySem.W.keepIn K (.ref f2) = true)
    (a3 : PySem.W.nsIn K mainGlobals "_law_text" = some (some (.ref f3))) (l3 : K.lookup f3 = some ⟨oc3, od3, .func (PySem.W.fnOf "_law_text" "_law_text" (defArgs s_law_text) (defBody s_law_text) (defScope s_law_text) .none kV3 dc3 pm3 an3 cd3 ct3), sl3⟩) (c3 : PySem.W.codeIn K cd3 "_law_text" = true) (k3 : PySem.W.keepIn K (.ref f3) = true)
    (a4 : PySem.W.nsIn K mainGlobals "law" = some (some (.ref f4))) (l4 : K.lookup f4 = some ⟨oc4, od4, .func (PySem.W.fnOf "law" "law" (defArgs s_law) (defBody s_law) (defScope s_law) .none kV4 dc4 pm4 an4 cd4 ct4), sl4⟩) (c4 : PySem.W.codeIn K cd4 "law" = true) (k4 : PySem.W.keepIn K (.ref f4) = true)
    (z_all : PySem.W.nsIn K mainGlobals "all" = some none)
    (z_bool : PySem.W.nsIn K mainGlobals "bool" = some none)
    (z_isinstance : PySem.W.nsIn K mainGlobals "isinstance" = some none)
    (z_len : PySem.W.nsIn K mainGlobals "len" = some none)
    (z_range : PySem.W.nsIn K mainGlobals "range" = some none)
    (z_str : PySem.W.nsIn K mainGlobals "str" = some none)
    (v_FIGURES : PySem.W.nsIn K mainGlobals "FIGURES" = some (some (.str ("0123456789" : Str) t_FIGURES)))
    (v_MOST_SIGNS : PySem.W.nsIn K mainGlobals "MOST_SIGNS" = some (some (.int 20 t_MOST_SIGNS)))
    (v_SMALL : PySem.W.nsIn K mainGlobals "SMALL" = some (some (.str ("abcdefghijklmnopqrstuvwxyz" : Str) t_SMALL)))
    : ∃ fd : FuncData, (∀ (s : Shared) (v : Value), BindsTo s fd ⟨[v], []⟩ [("_law_script", v)]) ∧ ∀ base : Heap, K.In base → base.Ns mainGlobals mg → FnOk l.prog w K mg base CX0 3 fa fd ["_law_script"] (sp_law K) := by
  have e := hfa.symm.trans (PySem.W.mg_of X G a4)
  cases e
  have F0 := fun_mk (st := s_is_sign) l0 c0 k0
  have b0 := F0.binds (ps := ["sign"]) fun _ _ _ _ _ _ us hl => match us, hl with | [_], _ => rfl
  have F1 := fun_mk (st := s_is_word) l1 c1 k1
  have b1 := F1.binds (ps := ["thing"]) fun _ _ _ _ _ _ us hl => match us, hl with | [_], _ => rfl
  have F2 := fun_mk (st := s_law_row) l2 c2 k2
  have b2 := F2.binds (ps := ["_law_script", "_law_many"]) fun _ _ _ _ _ _ us hl => match us, hl with | [_, _], _ => rfl
  have F3 := fun_mk (st := s_law_text) l3 c3 k3
  have b3 := F3.binds (ps := ["_law_row_here"]) fun _ _ _ _ _ _ us hl => match us, hl with | [_], _ => rfl
  have F4 := fun_mk (st := s_law) l4 c4 k4
  have b4 := F4.binds (ps := ["_law_script"]) fun _ _ _ _ _ _ us hl => match us, hl with | [_], _ => rfl
  let T : Txt K mg := ⟨f0, _, F0, b0, PySem.W.mg_of X G a0, f1, _, F1, b1, PySem.W.mg_of X G a1, f2, _, F2, b2, PySem.W.mg_of X G a2, f3, _, F3, b3, PySem.W.mg_of X G a3, fa, _, F4, b4, PySem.W.mg_of X G a4, PySem.W.mg_none_of X G z_all, PySem.W.mg_none_of X G z_bool, PySem.W.mg_none_of X G z_isinstance, PySem.W.mg_none_of X G z_len, PySem.W.mg_none_of X G z_range, PySem.W.mg_none_of X G z_str, t_FIGURES, PySem.W.mg_of X G v_FIGURES, t_MOST_SIGNS, PySem.W.mg_of X G v_MOST_SIGNS, t_SMALL, PySem.W.mg_of X G v_SMALL⟩
  exact ⟨T.fd_law, fun s v => .of_eq rfl, fun base _ _ => ok_law T⟩
theorem walk {l : PySem.W.OpenLaw} {q : Program} {loose : List Str} {XP : (Str → Option Value) → Heap → Prop} {YP : World → Heap → Prop} {d : DefRec} {K : Params → PySem.W.Frag} (hn : l.most = some 63) (hdf : d.params.defaults = [])
    (hY : ∀ (w : World) (h : Heap), YP w h → (K w.params).In h)
    (F : ∀ (w : World) (mg : Str → Option Value) (fa : Addr) (h : Heap), (K w.params).In h → h.Ns mainGlobals mg → mg d.name = some (.ref fa) →
      ∃ fd : FuncData, (∀ (s : Shared) (u : Value), BindsTo s fd ⟨[u], []⟩ [("_law_script", u)]) ∧ ∀ base : Heap, (K w.params).In base → base.Ns mainGlobals mg → FnOk l.prog w (K w.params) mg base CX0 3 fa fd ["_law_script"] (sp_law (K w.params))) :
    PySem.W.WalkO q loose XP YP l.row.toRowW d [] (fun f vs => PySem.call f vs) :=
  L2.walk_of (n := 63) (k := 3) (x := "_law_script") (CX := fun _ => CX0) (sp := fun w => sp_law (K w.params)) hn (by decide) hdf ⟨rfl, by decide, by decide⟩ hY F
    (fun w H a ns hl hO hS => ⟨.ref a, ⟨ns⟩, star [], rfl, im_of_only hO hS, Sep.unstar (M := []) (Sep.nil H), R.wp_of (law_ok ⟨ns⟩ hl) fun H' _ => rfl⟩) fun _ _ _ _ _ z => z
end Lw
open PySem PySem.W PyProof.Rows
set_option maxRecDepth 100000 in
set_option maxHeartbeats 0 in
theorem PySem.Challenge.cw_mailroom_k01_words_told_holds : PySem.Challenge.rw_mailroom_k01_words_told.Holds := by
  w_on; o_law; k_head; (case hw => w_witness2)
  k_fill
  refine Lw.walk (l := PySem.Challenge.rw_mailroom_k01_words_told) rfl rfl (fun w h Y => PySem.W.kIn_of Y) ?F
  case F =>
    intro w mg fa h KX G hmg
    refine' Lw.all_mk KX G hmg ?a0 ?l0 ?c0 ?k0 ?a1 ?l1 ?c1 ?k1 ?a2 ?l2 ?c2 ?k2 ?a3 ?l3 ?c3 ?k3 ?a4 ?l4 ?c4 ?k4 ?z_all ?z_bool ?z_isinstance ?z_len ?z_range ?z_str ?v_FIGURES ?v_MOST_SIGNS ?v_SMALL
    (case a0 => k_is)
    (case l0 => k_is)
    (case c0 => k_is)
    (case k0 => k_is)
    (case a1 => k_is)
    (case l1 => k_is)
    (case c1 => k_is)
    (case k1 => k_is)
    (case a2 => k_is)
    (case l2 => k_is)
    (case c2 => k_is)
    (case k2 => k_is)
    (case a3 => k_is)
    (case l3 => k_is)
    (case c3 => k_is)
    (case k3 => k_is)
    (case a4 => k_is)
    (case l4 => k_is)
    (case c4 => k_is)
    (case k4 => k_is)
    (case z_all => k_is)
    (case z_bool => k_is)
    (case z_isinstance => k_is)
    (case z_len => k_is)
    (case z_range => k_is)
    (case z_str => k_is)
    (case v_FIGURES => k_is)
    (case v_MOST_SIGNS => k_is)
    (case v_SMALL => k_is)

