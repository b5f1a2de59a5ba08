import PyProof.Rows.All
import Wide.All
import OpenK.AllK
import Wide.FinOn
import HandS.ForMost
import HandS.ForExc
import HandS.SetKeys
import HandS.IsInst
import HandS.Flow
import HandS.Style
import HandS.CallSlots
import HandS.TryMany
import HandS.StrMore
import HandS.Strs
import HandS.TupLe
import HandS.TupAny
import HandS.More
import HandS.Conv
import HandS.Replace
import HandS.FStr
import HandS.ExcIs
import HandS.RaiseMore
import HandS.Defaults
import HandS.DictTup
import HandS.TupSets
import HandS.SortOrd
import HandS.SortKw
import HandS.Lambda
import PyProof.Rows.StrCase
import HandS.TryOnly
import KE.DataFind
import HandS.HotCalls
import HandS.Small
import HandS.WordsDict
import KE.KEqDict
import PyProof.NeKinds
import PyProof.FactsAll.dict_1
import PyProof.FactsAll.dict_2
import PyProof.FactsAll.str
import PyProof.FactsAll.int
import PyProof.FactsAll.subtypes
import PySem.Challenge.RW_mailroom_k05_letters_refused
set_option Elab.async false
set_option linter.all false
set_option maxRecDepth 100000
set_option maxHeartbeats 4000000
namespace Ml
open PySem L2
/-! ### the assertions: what stands where, and who owns it -/
structure Gx where
  K : PySem.W.Frag
  fz : Addr → Option Nat
  cl : Nat → Addr

/-- what never changes once it stands -/
def per (G : Gx) : HO → Bool
  | .tup _ => true
  | .frz _ (.lst _) => true
  | .ins C _ fs => decide (G.fz C = some fs.length)
  | _ => false

/-- what sort of thing it is -/
def kindOf : HO → Nat
  | .lst _ => 0
  | .frz _ (.lst _) => 0
  | .dK _ => 1
  | .dT _ => 1
  | .tup _ => 2
  | .set _ _ => 3
  | .ins _ _ _ => 4
  | _ => 5
/-- all that never changes stands on, and nothing becomes another sort of thing -/
def Stab (G : Gx) (H H' : Hp) : Prop := (∀ a o, H a = some o → per G o = true → H' a = some o) ∧ ∀ a o, H a = some o → ∃ o', H' a = some o' ∧ kindOf o' = kindOf o
theorem Stab.refl {G : Gx} (H : Hp) : Stab G H H := ⟨fun _ _ h _ => h, fun _ o h => ⟨o, h, rfl⟩⟩
theorem Stab.trans {G : Gx} {H H1 H2 : Hp} (a : Stab G H H1) (b : Stab G H1 H2) : Stab G H H2 := ⟨fun x o h p => b.1 x o (a.1 x o h p) p, fun x o h => by
  obtain ⟨o1, h1, k1⟩ := a.2 x o h
  obtain ⟨o2, h2, k2⟩ := b.2 x o1 h1
  exact ⟨o2, h2, k2.trans k1⟩⟩
theorem Stab.of_same {G : Gx} {H H' : Hp} (s : Same H H') : Stab G H H' := ⟨fun a o h _ => s a o h, fun a o h => ⟨o, s a o h, rfl⟩⟩
theorem stab_put {G : Gx} {H : Hp} {a : Addr} {o o' : HO} (e : H a = some o) (n : per G o = false) (kd : kindOf o' = kindOf o) : Stab G H (upd H a o') := ⟨fun b x hb pb => by
  by_cases z : b = a
  · subst z; rw [e] at hb; cases hb; rw [n] at pb; cases pb
  · rw [upd_ne z]; exact hb, fun b x hb => by
  by_cases z : b = a
  · subst z; rw [e] at hb; cases hb; exact ⟨o', upd_same, kd⟩
  · exact ⟨x, by rw [upd_ne z]; exact hb, rfl⟩⟩

structure Asn (G : Gx) where
  sat : Hp → List Addr → Prop
  loc : ∀ H H' fp, sat H fp → (∀ a, a ∈ fp → H' a = H a) → Stab G H H' → sat H' fp

variable {G : Gx}

def satL (H : Hp) : List (Asn G) → List Addr → Prop
  | [], fp => fp = []
  | A :: L, fp => ∃ f1 f2, fp = f1 ++ f2 ∧ A.sat H f1 ∧ satL H L f2

theorem satL.loc {H H' : Hp} : ∀ {L : List (Asn G)} {fp : List Addr}, satL H L fp → (∀ a, a ∈ fp → H' a = H a) → Stab G H H' → satL H' L fp
  | [], fp, h, _, _ => h
  | A :: L, fp, ⟨f1, f2, e, h1, h2⟩, k, s => ⟨f1, f2, e, A.loc H H' f1 h1 (fun a m => k a (by rw [e]; exact List.mem_append_left _ m)) s,
      satL.loc h2 (fun a m => k a (by rw [e]; exact List.mem_append_right _ m)) s⟩

theorem satL.perm {H : Hp} {L L' : List (Asn G)} (p : L.Perm L') : ∀ {fp : List Addr}, satL H L fp → ∃ fp', fp'.Perm fp ∧ satL H L' fp' := by
  induction p with
  | nil => intro fp h; exact ⟨fp, .refl _, h⟩
  | cons x _ ih =>
    rintro fp ⟨f1, f2, e, h1, h2⟩
    obtain ⟨g, pg, hg⟩ := ih h2
    exact ⟨f1 ++ g, by rw [e]; exact List.Perm.append_left f1 pg, f1, g, rfl, h1, hg⟩
  | swap x y l =>
    rintro fp ⟨f1, f2, e, h1, g1, g2, e2, k1, k2⟩
    refine ⟨g1 ++ (f1 ++ g2), ?_, g1, f1 ++ g2, rfl, k1, f1, g2, rfl, h1, k2⟩
    rw [e, e2, ← List.append_assoc, ← List.append_assoc]
    exact List.Perm.append_right g2 List.perm_append_comm
  | trans _ _ ih1 ih2 =>
    intro fp h
    obtain ⟨g, pg, hg⟩ := ih1 h
    obtain ⟨k, pk, hk⟩ := ih2 hg
    exact ⟨k, pk.trans pg, hk⟩

theorem satL.append {H : Hp} : ∀ {L L' : List (Asn G)} {fp : List Addr}, satL H (L ++ L') fp ↔ ∃ f1 f2, fp = f1 ++ f2 ∧ satL H L f1 ∧ satL H L' f2
  | [], L', fp => ⟨fun h => ⟨[], fp, rfl, rfl, h⟩, fun ⟨f1, f2, e, h1, h2⟩ => by
      have h1' : f1 = [] := h1
      subst h1'; subst e; exact h2⟩
  | A :: L, L', fp => by
    constructor
    · rintro ⟨f1, f2, e, h1, h2⟩
      obtain ⟨g1, g2, e2, k1, k2⟩ := satL.append.mp h2
      exact ⟨f1 ++ g1, g2, by rw [e, e2, List.append_assoc], ⟨f1, g1, rfl, h1, k1⟩, k2⟩
    · rintro ⟨f1, f2, e, ⟨g1, g2, e2, h1, h2⟩, h3⟩
      exact ⟨g1, g2 ++ f2, by rw [e, e2, List.append_assoc], h1, satL.append.mpr ⟨g2, f2, rfl, h2, h3⟩⟩

/-- the assertions hold, each of its own part of the heap -/
def Sep (H : Hp) (L : List (Asn G)) : Prop := ∃ fp, satL H L fp ∧ fp.Nodup ∧ ∀ a, a ∈ fp → ∃ o, H a = some o ∧ per G o = false

theorem Sep.perm {H : Hp} {L L' : List (Asn G)} (h : Sep H L) (p : L.Perm L') : Sep H L' := by
  obtain ⟨fp, h1, h2, h3⟩ := h
  obtain ⟨g, pg, hg⟩ := satL.perm p h1
  exact ⟨g, hg, pg.nodup_iff.mpr h2, fun a m => h3 a (pg.mem_iff.mp m)⟩
theorem Sep.nil (H : Hp) : Sep H ([] : List (Asn G)) := ⟨[], rfl, List.nodup_nil, fun a m => absurd m (by simp)⟩
theorem Sep.left {H : Hp} {L L' : List (Asn G)} (h : Sep H (L ++ L')) : Sep H L := by
  obtain ⟨fp, h1, h2, h3⟩ := h
  obtain ⟨f1, f2, e, k1, k2⟩ := satL.append.mp h1
  subst e
  exact ⟨f1, k1, (List.nodup_append.mp h2).1, fun a m => h3 a (List.mem_append_left _ m)⟩
theorem Sep.tail {H : Hp} {A : Asn G} {L : List (Asn G)} (h : Sep H (A :: L)) : Sep H L := by
  have p : (A :: L).Perm (L ++ [A]) := (List.perm_append_singleton A L).symm
  exact (h.perm p).left
/-- old things stand, new ones may come -/
theorem Sep.more {H H' : Hp} {L : List (Asn G)} (h : Sep H L) (s : Same H H') : Sep H' L := by
  obtain ⟨fp, h1, h2, h3⟩ := h
  exact ⟨fp, h1.loc (fun a m => by obtain ⟨o, e, _⟩ := h3 a m; rw [e]; exact s a o e) (.of_same s), h2, fun a m => by
    obtain ⟨o, e, n⟩ := h3 a m; exact ⟨o, s a o e, n⟩⟩
theorem satL.at {H : Hp} {A : Asn G} : ∀ {L : List (Asn G)} {fp : List Addr} {i : Nat}, satL H L fp → L[i]? = some A → ∃ fp, A.sat H fp
  | [], _, _, _, e => by simp at e
  | B :: L, _, 0, ⟨f1, _, _, k1, _⟩, e => ⟨f1, by
      have : B = A := Option.some.inj e
      subst this; exact k1⟩
  | B :: L, _, i + 1, ⟨_, f2, _, _, k2⟩, e => satL.at (L := L) (i := i) k2 (by simpa using e)
theorem Sep.at {H : Hp} {L : List (Asn G)} (h : Sep H L) {i : Nat} {A : Asn G} (e : L[i]? = some A) : ∃ fp, A.sat H fp := by
  obtain ⟨fp, h1, _, _⟩ := h
  exact satL.at h1 e
/-- the i-th one ahead -/
theorem pull_perm {α : Type} : ∀ {L : List α} {i : Nat} {A : α}, L[i]? = some A → L.Perm (A :: L.eraseIdx i)
  | [], _, _, e => by simp at e
  | B :: L, 0, A, e => by
    have : B = A := Option.some.inj e
    subst this
    exact .refl _
  | B :: L, i + 1, A, e => by
    have ih := pull_perm (L := L) (i := i) (A := A) (by simpa using e)
    exact (List.Perm.cons B ih).trans (List.Perm.swap A B _)
theorem set_perm {α : Type} : ∀ {L : List α} {i : Nat} {A B : α}, L[i]? = some A → (B :: L.eraseIdx i).Perm (L.set i B)
  | [], _, _, _, e => by simp at e
  | C :: L, 0, A, B, e => .refl _
  | C :: L, i + 1, A, B, e => by
    have ih := set_perm (L := L) (i := i) (A := A) (B := B) (by simpa using e)
    exact (List.Perm.swap C B _).trans (List.Perm.cons C ih)
/-- chosen ones, in a chosen order -/
def pick {α : Type} (L : List α) (is : List Nat) : List α := is.filterMap fun i => L[i]?
theorem pick_perm {α : Type} : ∀ (is : List Nat) (L : List α), is.Nodup → ∃ R, L.Perm (pick L is ++ R)
  | [], L, _ => ⟨L, .refl _⟩
  | i :: is, L, nd => by
    obtain ⟨n1, n2⟩ := List.nodup_cons.mp nd
    cases e : L[i]? with
    | none =>
      obtain ⟨R, p⟩ := pick_perm is L n2
      refine ⟨R, ?_⟩
      have : pick L (i :: is) = pick L is := by unfold pick; rw [List.filterMap_cons, e]
      rw [this]; exact p
    | some A =>
      -- the others by their places without i
      have key : ∀ (js : List Nat), i ∉ js → pick L js = pick (L.eraseIdx i) (js.map fun j => if j < i then j else j - 1) := by
        intro js hj
        unfold pick
        rw [List.filterMap_map]
        have gen : ∀ js : List Nat, i ∉ js → js.filterMap (fun i => L[i]?) = js.filterMap ((fun j => (L.eraseIdx i)[j]?) ∘ fun j => if j < i then j else j - 1) := by
          intro js
          induction js with
          | nil => intro _; rfl
          | cons j js ih =>
            intro hm
            have hji : j ≠ i := fun z => hm (by rw [z]; exact List.mem_cons_self)
            have ih' := ih fun z => hm (List.mem_cons_of_mem _ z)
            have ej : L[j]? = ((fun j => (L.eraseIdx i)[j]?) ∘ fun j => if j < i then j else j - 1) j := by
              show L[j]? = (L.eraseIdx i)[if j < i then j else j - 1]?
              rw [List.getElem?_eraseIdx]
              by_cases c : j < i
              · rw [if_pos c, if_pos c]
              · rw [if_neg c, if_neg (by omega)]
                congr 1; omega
            rw [List.filterMap_cons, List.filterMap_cons, ih', ej]
        exact gen js hj
      have nd2 : (is.map fun j => if j < i then j else j - 1).Nodup := by
        refine List.pairwise_map.mpr (List.Pairwise.imp_of_mem ?_ n2)
        intro a b ha hb hab z
        have ha' : a ≠ i := fun q => n1 (q ▸ ha)
        have hb' : b ≠ i := fun q => n1 (q ▸ hb)
        split at z <;> split at z <;> omega
      obtain ⟨R, p⟩ := pick_perm (is.map fun j => if j < i then j else j - 1) (L.eraseIdx i) nd2
      refine ⟨R, ?_⟩
      have e2 : pick L (i :: is) = A :: pick L is := by unfold pick; rw [List.filterMap_cons, e]
      rw [e2, key is n1]
      exact (pull_perm e).trans (List.Perm.cons A p)
termination_by is => is.length
theorem Sep.sel {H : Hp} {L L' : List (Asn G)} (h : Sep H L) (is : List Nat) (nd : is.Nodup) (e : pick L is = L') : Sep H L' := by
  obtain ⟨R, p⟩ := pick_perm is L nd
  rw [e] at p
  exact (h.perm p).left

/-! ### the kinds of assertions -/
/-- at a stands o, owned -/
def cell (a : Addr) (o : HO) : Asn G := ⟨fun H fp => fp = [a] ∧ H a = some o, fun H H' fp h k _ => ⟨h.1, by rw [k a (by rw [h.1]; simp)]; exact h.2⟩⟩
/-- a fact that stays -/
def fact (p : Hp → Prop) (st : ∀ H H', p H → Stab G H H' → p H') : Asn G := ⟨fun H fp => fp = [] ∧ p H, fun H H' fp h _ s => ⟨h.1, st H H' h.2 s⟩⟩
/-- several as one -/
def star (L : List (Asn G)) : Asn G := ⟨fun H fp => satL H L fp, fun H H' fp h k s => h.loc k s⟩
/-- some one of them -/
def exA {α : Type} (f : α → Asn G) : Asn G := ⟨fun H fp => ∃ x, (f x).sat H fp, fun H H' fp ⟨x, h⟩ k s => ⟨x, (f x).loc H H' fp h k s⟩⟩
/-- and a plain truth -/
def andA (p : Prop) (A : Asn G) : Asn G := ⟨fun H fp => p ∧ A.sat H fp, fun H H' fp ⟨x, h⟩ k s => ⟨x, A.loc H H' fp h k s⟩⟩

theorem Sep.star {H : Hp} {L M : List (Asn G)} (h : Sep H (M ++ [Ml.star L])) : Sep H (M ++ L) := by
  obtain ⟨fp, h1, h2, h3⟩ := h
  obtain ⟨f1, f2, e, k1, g1, g2, e2, k2, k3⟩ := satL.append.mp h1
  have k3' : g2 = [] := k3
  subst k3'
  rw [List.append_nil] at e2
  subst e2
  exact ⟨fp, satL.append.mpr ⟨f1, f2, e, k1, k2⟩, h2, h3⟩
theorem Sep.unstar {H : Hp} {L M : List (Asn G)} (h : Sep H (M ++ L)) : Sep H (M ++ [Ml.star L]) := by
  obtain ⟨fp, h1, h2, h3⟩ := h
  obtain ⟨f1, f2, e, k1, k2⟩ := satL.append.mp h1
  exact ⟨fp, satL.append.mpr ⟨f1, f2, e, k1, f2, [], by simp, k2, rfl⟩, h2, h3⟩
theorem Sep.star1 {H : Hp} {L M : List (Asn G)} (h : Sep H (Ml.star L :: M)) : Sep H (L ++ M) := by
  obtain ⟨fp, ⟨f1, f2, e, h1, k⟩, h2, h3⟩ := h
  exact ⟨fp, satL.append.mpr ⟨f1, f2, e, h1, k⟩, h2, h3⟩
theorem Sep.unstar1 {H : Hp} {L M : List (Asn G)} (h : Sep H (L ++ M)) : Sep H (Ml.star L :: M) := by
  obtain ⟨fp, h1, h2, h3⟩ := h
  obtain ⟨f1, f2, e, k1, k2⟩ := satL.append.mp h1
  exact ⟨fp, ⟨f1, f2, e, k1, k2⟩, h2, h3⟩
theorem Sep.ex {α : Type} {f : α → Asn G} {H : Hp} {M : List (Asn G)} (h : Sep H (exA f :: M)) : ∃ x, Sep H (f x :: M) := by
  obtain ⟨fp, ⟨f1, f2, e, ⟨x, h1⟩, k⟩, h2, h3⟩ := h
  exact ⟨x, fp, ⟨f1, f2, e, h1, k⟩, h2, h3⟩
theorem Sep.exI {α : Type} {f : α → Asn G} {H : Hp} {M : List (Asn G)} (x : α) (h : Sep H (f x :: M)) : Sep H (exA f :: M) := by
  obtain ⟨fp, ⟨f1, f2, e, h1, k⟩, h2, h3⟩ := h
  exact ⟨fp, ⟨f1, f2, e, ⟨x, h1⟩, k⟩, h2, h3⟩
theorem Sep.and {p : Prop} {A : Asn G} {H : Hp} {M : List (Asn G)} (h : Sep H (andA p A :: M)) : p ∧ Sep H (A :: M) := by
  obtain ⟨fp, ⟨f1, f2, e, ⟨x, h1⟩, k⟩, h2, h3⟩ := h
  exact ⟨x, fp, ⟨f1, f2, e, h1, k⟩, h2, h3⟩
theorem Sep.andI {p : Prop} {A : Asn G} {H : Hp} {M : List (Asn G)} (x : p) (h : Sep H (A :: M)) : Sep H (andA p A :: M) := by
  obtain ⟨fp, ⟨f1, f2, e, h1, k⟩, h2, h3⟩ := h
  exact ⟨fp, ⟨f1, f2, e, ⟨x, h1⟩, k⟩, h2, h3⟩
/-- another view of the first one, over the same part -/
theorem Sep.view {A B : Asn G} {H : Hp} {M : List (Asn G)} (h : Sep H (A :: M)) (v : ∀ fp, A.sat H fp → B.sat H fp) : Sep H (B :: M) := by
  obtain ⟨fp, ⟨f1, f2, e, h1, k⟩, h2, h3⟩ := h
  exact ⟨fp, ⟨f1, f2, e, v f1 h1, k⟩, h2, h3⟩
theorem Sep.addFact {p : Hp → Prop} {st : ∀ H H', p H → Stab G H H' → p H'} {H : Hp} {M : List (Asn G)} (h : Sep H M) (x : p H) : Sep H (fact p st :: M) := by
  obtain ⟨fp, h1, h2, h3⟩ := h
  exact ⟨fp, ⟨[], fp, rfl, ⟨rfl, x⟩, h1⟩, h2, h3⟩
theorem Sep.getFact {p : Hp → Prop} {st : ∀ H H', p H → Stab G H H' → p H'} {H : Hp} {M : List (Asn G)} (h : Sep H M) {i : Nat} (e : M[i]? = some (fact p st)) : p H := by
  obtain ⟨fp, _, x⟩ := h.at e
  exact x
theorem Sep.getCell {H : Hp} {M : List (Asn G)} (h : Sep H M) {i : Nat} {a : Addr} {o : HO} (e : M[i]? = some (cell a o)) : H a = some o := by
  obtain ⟨fp, _, x⟩ := h.at e
  exact x
theorem same_new {H : Hp} {p : Addr} {o : HO} (h : H p = none) : Same H (upd H p o) := fun b u e => by
  rw [upd_ne (ne_of_none e h)]; exact e
/-- a new thing -/
theorem Sep.new {H : Hp} {M : List (Asn G)} (h : Sep H M) {p : Addr} {o : HO} (hp : H p = none) (n : per G o = false) : Sep (upd H p o) (cell p o :: M) := by
  have h' := h.more (same_new (o := o) hp)
  obtain ⟨fp, h1, h2, h3⟩ := h
  obtain ⟨_, k1, _, _⟩ := (⟨fp, h1, h2, h3⟩ : Sep H M)
  have q : satL (upd H p o) M fp := h1.loc (fun a m => by obtain ⟨u, e, _⟩ := h3 a m; exact upd_ne (ne_of_none e hp)) (.of_same (same_new hp))
  refine ⟨p :: fp, ⟨[p], fp, rfl, ⟨rfl, upd_same⟩, q⟩, List.nodup_cons.mpr ⟨fun m => ?_, h2⟩, fun a m => ?_⟩
  · obtain ⟨u, e, _⟩ := h3 p m
    rw [hp] at e; cases e
  · rcases List.mem_cons.mp m with rfl | m
    · exact ⟨o, upd_same, n⟩
    · obtain ⟨u, e, z⟩ := h3 a m
      exact ⟨u, by rw [upd_ne (ne_of_none e hp)]; exact e, z⟩
/-- a store at the first one's place -/
theorem Sep.put1 {H : Hp} {M : List (Asn G)} {a : Addr} {o o' : HO} (h : Sep H (cell a o :: M)) (n : per G o' = false) (kd : kindOf o' = kindOf o) : Sep (upd H a o') (cell a o' :: M) := by
  obtain ⟨fp, ⟨f1, f2, e, ⟨e1, ho⟩, k⟩, h2, h3⟩ := h
  subst e1; subst e
  have nd : ¬ a ∈ f2 := (List.nodup_cons.mp h2).1
  obtain ⟨u, hu, nu⟩ := h3 a (by simp)
  have st : Stab G H (upd H a o') := stab_put ho (by rw [hu] at ho; cases ho; exact nu) kd
  refine ⟨a :: f2, ⟨[a], f2, rfl, ⟨rfl, upd_same⟩, k.loc (fun b m => upd_ne fun z => nd (z ▸ m)) st⟩, h2, fun b m => ?_⟩
  rcases List.mem_cons.mp m with rfl | m
  · exact ⟨o', upd_same, n⟩
  · obtain ⟨x, hx, nx⟩ := h3 b (by simp [m])
    exact ⟨x, by rw [upd_ne (fun z => nd (by rw [← z]; exact m))]; exact hx, nx⟩
theorem Sep.put {H : Hp} {M : List (Asn G)} {i : Nat} {a : Addr} {o o' : HO} (h : Sep H M) (e : M[i]? = some (cell a o)) (n : per G o' = false) (kd : kindOf o' = kindOf o) : Sep (upd H a o') (M.set i (cell a o')) :=
  ((h.perm (pull_perm e)).put1 n kd).perm (set_perm e)
/-- another view of the i-th one -/
theorem Sep.viewAt {A B : Asn G} {H : Hp} {M : List (Asn G)} {i : Nat} (h : Sep H M) (e : M[i]? = some A) (v : ∀ fp, A.sat H fp → B.sat H fp) : Sep H (M.set i B) :=
  ((h.perm (pull_perm e)).view v).perm (set_perm e)
end Ml

namespace Ml
open PySem L2
/-! ### plain programs: what is reckoned, an error, or a bound that is not kept -/
structure Exc where
  cls : Nat
  row : Int
  deriving DecidableEq, Repr
inductive R (α : Type) where
  | ok (a : α) | exc (x : Exc) | bad
  deriving DecidableEq, Repr
namespace R
variable {α β σ ρ : Type}
def bind : R α → (α → R β) → R β
  | .ok a, f => f a
  | .exc x, _ => .exc x
  | .bad, _ => .bad
@[simp] theorem bind_ok (a : α) (f : α → R β) : (R.ok a).bind f = f a := rfl
@[simp] theorem bind_exc (x : Exc) (f : α → R β) : (R.exc x : R α).bind f = .exc x := rfl
@[simp] theorem bind_bad (f : α → R β) : (R.bad : R α).bind f = .bad := rfl
theorem bind_assoc {γ : Type} (m : R α) (f : α → R β) (g : β → R γ) : (m.bind f).bind g = m.bind fun x => (f x).bind g := by cases m <;> rfl
def need (p : Prop) [Decidable p] (k : R α) : R α := if p then k else .bad
@[simp] theorem need_pos {p : Prop} [Decidable p] (h : p) (k : R α) : need p k = k := if_pos h
/-- what holds of the answer, or of the error -/
def wp : R α → (α → Prop) → (Exc → Prop) → Prop
  | .ok a, q, _ => q a
  | .exc x, _, e => e x
  | .bad, _, _ => False
theorem wp_bind {m : R α} {f : α → R β} {q : β → Prop} {e : Exc → Prop} (h : wp (m.bind f) q e) : wp m (fun a => wp (f a) q e) e := by
  cases m <;> exact h
theorem wp_need {p : Prop} [Decidable p] {k : R α} {q : α → Prop} {e : Exc → Prop} (h : wp (need p k) q e) : p ∧ wp k q e := by
  unfold need at h
  by_cases c : p
  · rw [if_pos c] at h; exact ⟨c, h⟩
  · rw [if_neg c] at h; exact h.elim
theorem wp_mono {m : R α} {q q' : α → Prop} {e e' : Exc → Prop} (h : wp m q e) (hq : ∀ a, q a → q' a) (he : ∀ x, e x → e' x) : wp m q' e' := by
  cases m with
  | ok a => exact hq a h
  | exc x => exact he x h
  | bad => exact h
theorem wp_of {m : R α} {a : α} {q : α → Prop} {e : Exc → Prop} (h : m = .ok a) (k : q a) : wp m q e := by rw [h]; exact k
theorem wp_if {c : Prop} [Decidable c] {a b : R α} {q : α → Prop} {e : Exc → Prop} (h : wp (if c then a else b) q e) : (c → wp a q e) ∧ (¬ c → wp b q e) := by
  by_cases x : c
  · rw [if_pos x] at h; exact ⟨fun _ => h, fun n => absurd x n⟩
  · rw [if_neg x] at h; exact ⟨fun y => absurd y x, fun _ => h⟩
end R
/-- a turn's end: on with s, out of the loop with s, out of the def with r -/
inductive Fl (σ ρ : Type) where
  | go (s : σ) | brk (s : σ) | out (r : ρ)
  deriving DecidableEq, Repr
section
variable {α β σ ρ : Type}
def forR (f : σ → α → R σ) : List α → σ → R σ
  | [], s => .ok s
  | x :: xs, s => (f s x).bind fun s => forR f xs s
def forF (f : σ → α → R (Fl σ ρ)) : List α → σ → R (Fl σ ρ)
  | [], s => .ok (.go s)
  | x :: xs, s => (f s x).bind fun r => match r with
    | .go s => forF f xs s
    | .brk s => .ok (.go s)
    | .out r => .ok (.out r)
def whileR (c : σ → R Bool) (f : σ → R σ) : Nat → σ → R σ
  | 0, s => (c s).bind fun b => if b = true then .bad else .ok s
  | n + 1, s => (c s).bind fun b => if b = true then (f s).bind fun s => whileR c f n s else .ok s
def whileF (c : σ → R Bool) (f : σ → R (Fl σ ρ)) : Nat → σ → R (Fl σ ρ)
  | 0, s => (c s).bind fun b => if b = true then .bad else .ok (.go s)
  | n + 1, s => (c s).bind fun b => if b = true then (f s).bind fun r => (match r with
    | .go s => whileF c f n s
    | .brk s => .ok (.go s)
    | .out r => .ok (.out r)) else .ok (.go s)
/-- a comprehension: what each item gives, the state carried -/
def compR (f : σ → α → R (σ × Option β)) : List α → σ → R (σ × List β)
  | [], s => .ok (s, [])
  | x :: xs, s => (f s x).bind fun r => (compR f xs r.1).bind fun t => .ok (t.1, match r.2 with
    | some y => y :: t.2
    | none => t.2)
end

/-! ### values -/
class Im (G : Gx) (α : Type) where
  im : Hp → V → α → Prop
  st : ∀ {H H' : Hp} {v : V} {x : α}, im H v x → Stab G H H' → im H' v x
class Fv (G : Gx) (α : Type) extends Im G α where
  enc : α → V
  im_iff : ∀ {H : Hp} {v : V} {x : α}, im H v x ↔ v = enc x
variable {G : Gx}
instance imInt : Im G Int := ⟨fun _ v x => v = .int x, fun h _ => h⟩
instance imBool : Im G Bool := ⟨fun _ v x => v = .bl x, fun h _ => h⟩
instance imStr : Im G Str := ⟨fun _ v x => v = .str x, fun h _ => h⟩
instance imUnit : Im G Unit := ⟨fun _ v _ => v = .non, fun h _ => h⟩
instance fInt : Fv G Int := { enc := .int, im_iff := .rfl }
instance fBool : Fv G Bool := { enc := .bl, im_iff := .rfl }
instance fStr : Fv G Str := { enc := .str, im_iff := .rfl }
instance fUnit : Fv G Unit := { enc := fun _ => .non, im_iff := .rfl }
/-- the script -/
structure Script where
  ns : List Int
instance : Im G Script := ⟨fun H v x => ∃ a, v = .ref a ∧ ((∃ o, H a = some (.frz o (.lst (x.ns.map V.int)))) ∨ ∃ o its n, List.lookup a G.K = some o ∧ o.cls = Value.type "list" ∧ o.dict = none ∧ o.data = Data.seq its n ∧ its.size ≤ sizeLine ∧ Vals (x.ns.map V.int) its.toList),
  fun ⟨a, e, h⟩ s => ⟨a, e, h.imp (fun ⟨o, h⟩ => ⟨o, s.1 a _ h rfl⟩) id⟩⟩
theorem im_script {H : Hp} {v : V} {x : Script} (h : Im.im G H v x) : ∃ a, v = .ref a ∧ SqL G.K H a (x.ns.map V.int) := by
  obtain ⟨a, e, h⟩ := h
  refine ⟨a, e, ?_⟩
  rcases h with ⟨o, h⟩ | h
  · exact .inl (.inr ⟨o, h⟩)
  · exact .inr h
theorem sq_script {H : Hp} {a : Addr} {x : Script} (h : Im.im G H (.ref a) x) : SqL G.K H a (x.ns.map V.int) := by
  obtain ⟨b, e, h⟩ := im_script h
  cases e; exact h
def imL {α : Type} [Im G α] (H : Hp) : List V → List α → Prop
  | [], [] => True
  | v :: vs, x :: xs => Im.im G H v x ∧ imL H vs xs
  | _, _ => False
section
variable {α : Type} [Im G α] {H H' : Hp}
theorem imL.st : ∀ {vs : List V} {xs : List α}, imL (G := G) H vs xs → Stab G H H' → imL (G := G) H' vs xs
  | [], [], _, _ => True.intro
  | v :: vs, x :: xs, h, s => ⟨Im.st h.1 s, imL.st h.2 s⟩
  | [], _ :: _, h, _ => h
  | _ :: _, [], h, _ => h
theorem imL.len : ∀ {vs : List V} {xs : List α}, imL (G := G) H vs xs → vs.length = xs.length
  | [], [], _ => rfl
  | v :: vs, x :: xs, h => by rw [List.length_cons, List.length_cons, imL.len h.2]
  | [], _ :: _, h => h.elim
  | _ :: _, [], h => h.elim
theorem imL.app : ∀ {vs ws : List V} {xs ys : List α}, imL (G := G) H vs xs → imL (G := G) H ws ys → imL (G := G) H (vs ++ ws) (xs ++ ys)
  | [], _, [], _, _, h => h
  | v :: vs, _, x :: xs, _, h, k => ⟨h.1, imL.app h.2 k⟩
  | [], _, _ :: _, _, h, _ => h.elim
  | _ :: _, _, [], _, h, _ => h.elim
theorem imL.get : ∀ {vs : List V} {xs : List α} {i : Nat} {x : α}, imL (G := G) H vs xs → xs[i]? = some x → ∃ v, vs[i]? = some v ∧ Im.im G H v x
  | [], [], _, _, _, e => by simp at e
  | v :: vs, x :: xs, 0, y, h, e => by
    have : x = y := Option.some.inj e
    subst this
    exact ⟨v, rfl, h.1⟩
  | v :: vs, x :: xs, i + 1, y, h, e => by
    obtain ⟨u, h1, h2⟩ := imL.get (i := i) (x := y) h.2 (by simpa using e)
    exact ⟨u, by simpa using h1, h2⟩
  | [], _ :: _, _, _, h, _ => h.elim
  | _ :: _, [], _, _, h, _ => h.elim
theorem imL.getV : ∀ {vs : List V} {xs : List α} {i : Nat} {v : V}, imL (G := G) H vs xs → vs[i]? = some v → ∃ x, xs[i]? = some x ∧ Im.im G H v x
  | [], [], _, _, _, e => by simp at e
  | v :: vs, x :: xs, 0, y, h, e => by
    have : v = y := Option.some.inj e
    subst this
    exact ⟨x, rfl, h.1⟩
  | v :: vs, x :: xs, i + 1, y, h, e => by
    obtain ⟨u, h1, h2⟩ := imL.getV (i := i) (v := y) h.2 (by simpa using e)
    exact ⟨u, by simpa using h1, h2⟩
  | [], _ :: _, _, _, h, _ => h.elim
  | _ :: _, [], _, _, h, _ => h.elim
theorem imL.set : ∀ {vs : List V} {xs : List α} {i : Nat} {x : α} {v : V}, imL (G := G) H vs xs → Im.im G H v x → imL (G := G) H (vs.set i v) (xs.set i x)
  | [], [], _, _, _, _, _ => True.intro
  | v :: vs, x :: xs, 0, y, u, h, k => ⟨k, h.2⟩
  | v :: vs, x :: xs, i + 1, y, u, h, k => ⟨h.1, imL.set h.2 k⟩
  | [], _ :: _, _, _, _, h, _ => h.elim
  | _ :: _, [], _, _, _, h, _ => h.elim
theorem imL.take : ∀ {vs : List V} {xs : List α} (n : Nat), imL (G := G) H vs xs → imL (G := G) H (vs.take n) (xs.take n)
  | [], [], n, _ => by simp [imL]
  | v :: vs, x :: xs, 0, h => True.intro
  | v :: vs, x :: xs, n + 1, h => ⟨h.1, imL.take n h.2⟩
  | [], _ :: _, _, h => h.elim
  | _ :: _, [], _, h => h.elim
theorem imL.drop : ∀ {vs : List V} {xs : List α} (n : Nat), imL (G := G) H vs xs → imL (G := G) H (vs.drop n) (xs.drop n)
  | [], [], n, _ => by simp [imL]
  | v :: vs, x :: xs, 0, h => h
  | v :: vs, x :: xs, n + 1, h => imL.drop n h.2
  | [], _ :: _, _, h => h.elim
  | _ :: _, [], _, h => h.elim
end
section
variable {α : Type} [Fv G α] {H H' : Hp}
theorem imL.flat : ∀ {vs : List V} {xs : List α}, imL (G := G) H vs xs ↔ vs = xs.map (Fv.enc G)
  | [], [] => ⟨fun _ => rfl, fun _ => True.intro⟩
  | v :: vs, x :: xs => by
    show (Im.im G H v x ∧ imL (G := G) H vs xs) ↔ _
    rw [Fv.im_iff, imL.flat]
    simp
  | [], _ :: _ => by simp [imL]
  | _ :: _, [] => by simp [imL]
end

/-! ### lists that one owns -/
section
variable {α : Type} [Im G α]
def lstA (a : Addr) (xs : List α) : Asn G := ⟨fun H fp => fp = [a] ∧ ∃ vs, H a = some (.lst vs) ∧ imL (G := G) H vs xs,
  fun H H' fp ⟨e, vs, h, m⟩ k s => ⟨e, vs, by rw [k a (by rw [e]; simp)]; exact h, m.st s⟩⟩
/-- a value's fact -/
def imA (v : V) (x : α) : Asn G := fact (fun H => Im.im G H v x) fun H H' h s => Im.st h s
variable {H : Hp} {L : List (Asn G)}
theorem Sep.lst (h : Sep H L) {i : Nat} {a : Addr} {xs : List α} (e : L[i]? = some (lstA a xs)) : ∃ vs, H a = some (.lst vs) ∧ imL (G := G) H vs xs := by
  obtain ⟨fp, _, x⟩ := h.at e
  exact x
theorem Sep.im (h : Sep H L) {i : Nat} {v : V} {x : α} (e : L[i]? = some (imA v x)) : Im.im G H v x := h.getFact e
theorem Sep.addIm (h : Sep H L) {v : V} {x : α} (e : Im.im G H v x) : Sep H (imA v x :: L) := h.addFact e
/-- the list's own cell, and back -/
theorem Sep.openL (h : Sep H L) {i : Nat} {a : Addr} {xs : List α} (e : L[i]? = some (lstA a xs)) : ∃ vs, imL (G := G) H vs xs ∧ Sep H (L.set i (cell a (.lst vs))) := by
  obtain ⟨vs, e1, m⟩ := h.lst e
  exact ⟨vs, m, h.viewAt e fun fp ⟨q, _⟩ => ⟨q, e1⟩⟩
theorem Sep.closeL {i : Nat} {a : Addr} {vs : List V} {xs : List α} (h : Sep H L) (e : L[i]? = some (cell a (.lst vs))) (m : imL (G := G) H vs xs) : Sep H (L.set i (lstA a xs)) :=
  h.viewAt e fun fp ⟨q, r⟩ => ⟨q, vs, r, m⟩
theorem Sep.newL (h : Sep H L) {p : Addr} {vs : List V} {xs : List α} (hp : H p = none) (m : imL (G := G) H vs xs) : Sep (upd H p (.lst vs)) (lstA p xs :: L) :=
  (h.new (o := .lst vs) hp rfl).view fun fp ⟨q, r⟩ => ⟨q, vs, r, m.st (.of_same (same_new hp))⟩
theorem set_set {β : Type} {l : List β} {i : Nat} {x y : β} : (l.set i x).set i y = l.set i y := by simp
theorem get_set {β : Type} {l : List β} {i : Nat} {x y : β} (h : l[i]? = some x) : (l.set i y)[i]? = some y := by
  have : i < l.length := by
    have := List.getElem?_eq_some_iff.mp h
    exact this.1
  simp [this]
theorem Sep.putL (h : Sep H L) {i : Nat} {a : Addr} {xs ys : List α} {vs : List V} (e : L[i]? = some (lstA a xs)) (m : imL (G := G) H vs ys) : Sep (upd H a (.lst vs)) (L.set i (lstA a ys)) := by
  obtain ⟨us, mu, h1⟩ := h.openL e
  have e1 := get_set (y := cell (G := G) a (.lst us)) e
  have h2 := h1.put (o' := .lst vs) e1 rfl rfl
  rw [set_set] at h2
  have st : Stab G H (upd H a (.lst vs)) := stab_put (h1.getCell e1) rfl rfl
  have h3 := h2.closeL (get_set e) (m.st st)
  rw [set_set] at h3
  exact h3
end
end Ml

namespace Ml
open PySem L2
variable {G : Gx}
/-! ### what an expression comes to where nothing is made -/
def Ev (te : TE) (σ : St) (H : Hp) (v : V) : Prop := ∀ Q : VK, Q v H → te σ H Q
def Et (t : TT) (σ : St) (H : Hp) (b : Bool) : Prop := ∀ Q : Bool → Hp → Prop, Q b H → t σ H Q
def Ea (t : TA) (σ : St) (H : Hp) (vs : List V) : Prop := ∀ Q : List V → Hp → Prop, Q vs H → t σ H Q
def Eo (t : TO) (σ : St) (H : Hp) (o : Option Int) : Prop := ∀ Q : Option Int → Hp → Prop, Q o H → t σ H Q
section
variable {σ : St} {H : Hp} {ta tb tc te : TE} {t u : TT} {x y v : V} {i j : Int} {a b : Bool} {s z : Str} {vs : List V}
theorem ev_var {k : Nat} (h : σ[k]? = some (some v)) : Ev (tVar k) σ H v := fun _ q => ⟨v, h, q⟩
theorem ev_c : Ev (tC v) σ H v := fun _ q => q
theorem ev_op {r : R2} (ha : Ev ta σ H x) (hb : Ev tb σ H y) (hr : ∀ Q : VK, Q v H → r x y H Q) : Ev (tOp r ta tb) σ H v := fun Q q => ha _ (hb _ (hr _ q))
theorem ev_un {r : V → Hp → VK → Prop} (ha : Ev ta σ H x) (hr : ∀ Q : VK, Q v H → r x H Q) : Ev (tUn r ta) σ H v := fun Q q => ha _ (hr _ q)
theorem r_I0 {g : Int → Int → V} (Q : VK) (q : Q (g i j) H) : rI0 g (.int i) (.int j) H Q := ⟨i, j, rfl, rfl, q⟩
theorem r_I {C : Int → Int → Prop} {g : Int → Int → V} (c : C i j) (Q : VK) (q : Q (g i j) H) : rI C g (.int i) (.int j) H Q := ⟨i, j, rfl, rfl, c, q⟩
theorem ev_i0 {g : Int → Int → V} (ha : Ev ta σ H (.int i)) (hb : Ev tb σ H (.int j)) : Ev (tOp (rI0 g) ta tb) σ H (g i j) := ev_op ha hb fun Q q => r_I0 Q q
theorem ev_i {C : Int → Int → Prop} {g : Int → Int → V} (ha : Ev ta σ H (.int i)) (hb : Ev tb σ H (.int j)) (c : C i j) : Ev (tOp (rI C g) ta tb) σ H (g i j) := ev_op ha hb fun Q q => r_I c Q q
theorem ev_mul (ha : Ev ta σ H (.int i)) (hb : Ev tb σ H (.int j)) (c : CMul i j) : Ev (tOp (rI CMul fun i j => .int (i * j)) ta tb) σ H (.int (i * j)) := ev_i ha hb c
theorem ev_fdiv (ha : Ev ta σ H (.int i)) (hb : Ev tb σ H (.int j)) (c : 0 < j ∧ j < 1073741824) : Ev (tOp (rI CDiv fun i j => .int (i / j)) ta tb) σ H (.int (i / j)) := ev_i ha hb c
theorem ev_mod (ha : Ev ta σ H (.int i)) (hb : Ev tb σ H (.int j)) (c : 0 < j) : Ev (tOp (rI (fun _ j => 0 < j) fun i j => .int (i % j)) ta tb) σ H (.int (i % j)) := ev_i ha hb c
theorem ev_add (ha : Ev ta σ H (.int i)) (hb : Ev tb σ H (.int j)) : Ev (tOp (rI0 fun i j => .int (i + j)) ta tb) σ H (.int (i + j)) := ev_i0 ha hb
theorem ev_sub (ha : Ev ta σ H (.int i)) (hb : Ev tb σ H (.int j)) : Ev (tOp (rI0 fun i j => .int (i - j)) ta tb) σ H (.int (i - j)) := ev_i0 ha hb
theorem r_eqI (Q : VK) (q : Q (.bl (decide (i = j))) H) : rEq (.int i) (.int j) H Q := ⟨rfl, by
  have : decide (V.int i = V.int j) = decide (i = j) := by simp
  rw [this]; exact q⟩
theorem r_neI (Q : VK) (q : Q (.bl (!decide (i = j))) H) : rNe (.int i) (.int j) H Q := ⟨rfl, by
  have : decide (V.int i = V.int j) = decide (i = j) := by simp
  rw [this]; exact q⟩
theorem r_eqS (Q : VK) (q : Q (.bl (decide (s = z))) H) : rEq (.str s) (.str z) H Q := ⟨rfl, by
  have : decide (V.str s = V.str z) = decide (s = z) := by simp
  rw [this]; exact q⟩
theorem r_neS (Q : VK) (q : Q (.bl (!decide (s = z))) H) : rNe (.str s) (.str z) H Q := ⟨rfl, by
  have : decide (V.str s = V.str z) = decide (s = z) := by simp
  rw [this]; exact q⟩
theorem r_eqB (Q : VK) (q : Q (.bl (decide (a = b))) H) : rEq (.bl a) (.bl b) H Q := ⟨rfl, by
  have : decide (V.bl a = V.bl b) = decide (a = b) := by simp
  rw [this]; exact q⟩
theorem r_neB (Q : VK) (q : Q (.bl (!decide (a = b))) H) : rNe (.bl a) (.bl b) H Q := ⟨rfl, by
  have : decide (V.bl a = V.bl b) = decide (a = b) := by simp
  rw [this]; exact q⟩
theorem ev_eqI (ha : Ev ta σ H (.int i)) (hb : Ev tb σ H (.int j)) : Ev (tOp rEq ta tb) σ H (.bl (decide (i = j))) := ev_op ha hb fun Q q => r_eqI Q q
theorem ev_neI (ha : Ev ta σ H (.int i)) (hb : Ev tb σ H (.int j)) : Ev (tOp rNe ta tb) σ H (.bl (!decide (i = j))) := ev_op ha hb fun Q q => r_neI Q q
theorem ev_eqS (ha : Ev ta σ H (.str s)) (hb : Ev tb σ H (.str z)) : Ev (tOp rEq ta tb) σ H (.bl (decide (s = z))) := ev_op ha hb fun Q q => r_eqS Q q
theorem ev_neS (ha : Ev ta σ H (.str s)) (hb : Ev tb σ H (.str z)) : Ev (tOp rNe ta tb) σ H (.bl (!decide (s = z))) := ev_op ha hb fun Q q => r_neS Q q
theorem ev_eqB (ha : Ev ta σ H (.bl a)) (hb : Ev tb σ H (.bl b)) : Ev (tOp rEq ta tb) σ H (.bl (decide (a = b))) := ev_op ha hb fun Q q => r_eqB Q q
theorem ev_neB (ha : Ev ta σ H (.bl a)) (hb : Ev tb σ H (.bl b)) : Ev (tOp rNe ta tb) σ H (.bl (!decide (a = b))) := ev_op ha hb fun Q q => r_neB Q q
def rCatS : R2 := fun x y H Q => ∃ i j, x = .str i ∧ y = .str j ∧ i.length + j.length ≤ sizeLine ∧ Q (.str (i ++ j)) H
theorem op_catS {X : Cx} : OpR X (binaryOp .Add) rCatS := op_add_str
theorem r_catS (c : s.length + z.length ≤ sizeLine) (Q : VK) (q : Q (.str (s ++ z)) H) : rCatS (.str s) (.str z) H Q := ⟨s, z, rfl, rfl, c, q⟩
theorem ev_catS (ha : Ev ta σ H (.str s)) (hb : Ev tb σ H (.str z)) (c : s.length + z.length ≤ sizeLine) : Ev (tOp rCatS ta tb) σ H (.str (s ++ z)) := ev_op ha hb fun Q q => r_catS c Q q
/-- a sign in a written text -/
def rInSg : R2 := fun x y H Q => ∃ (c : Nat) (z : Str), x = .str ⟨#[c]⟩ ∧ y = .str z ∧ Q (.bl (decide (c ∈ z.cps.toList))) H
def rNiSg : R2 := fun x y H Q => ∃ (c : Nat) (z : Str), x = .str ⟨#[c]⟩ ∧ y = .str z ∧ Q (.bl (!decide (c ∈ z.cps.toList))) H
theorem op_inSg {X : Cx} : OpR X (compareOp .In) rInSg := op_in_sign
theorem op_niSg {X : Cx} : OpR X (compareOp .NotIn) rNiSg := op_notIn_sign
theorem ev_inSg {c : Nat} (ha : Ev ta σ H (.str ⟨#[c]⟩)) (hb : Ev tb σ H (.str z)) : Ev (tOp rInSg ta tb) σ H (.bl (decide (c ∈ z.cps.toList))) := ev_op ha hb fun Q q => ⟨c, z, rfl, rfl, q⟩
theorem ev_niSg {c : Nat} (ha : Ev ta σ H (.str ⟨#[c]⟩)) (hb : Ev tb σ H (.str z)) : Ev (tOp rNiSg ta tb) σ H (.bl (!decide (c ∈ z.cps.toList))) := ev_op ha hb fun Q q => ⟨c, z, rfl, rfl, q⟩
/-! tests -/
theorem et_test (h : Ev te σ H (.bl b)) : Et (tTest te) σ H b := fun _ q => h _ ⟨b, rfl, q⟩
theorem et_B (h : Ev te σ H (.bl b)) : Et (tB te) σ H b := fun _ q => h _ ⟨b, rfl, q⟩
theorem et_not (h : Et t σ H a) : Et (tNot t) σ H (!a) := fun _ q => h _ q
theorem et_and (h1 : Et t σ H a) (h2 : a = true → Et u σ H b) : Et (tAnd t u) σ H (a && b) := fun Q q => h1 _ (by
  cases a with
  | true => exact h2 rfl _ q
  | false => exact q)
theorem et_or (h1 : Et t σ H a) (h2 : a = false → Et u σ H b) : Et (tOr t u) σ H (a || b) := fun Q q => h1 _ (by
  cases a with
  | true => exact q
  | false => exact h2 rfl _ q)
theorem ev_andV (h1 : Ev ta σ H (.bl a)) (h2 : a = true → Ev tb σ H (.bl b)) : Ev (tAndV ta tb) σ H (.bl (a && b)) := fun Q q => h1 _ ⟨a, rfl, by
  cases a with
  | true => exact h2 rfl _ q
  | false => exact q⟩
theorem ev_orV (h1 : Ev ta σ H (.bl a)) (h2 : a = false → Ev tb σ H (.bl b)) : Ev (tOrV ta tb) σ H (.bl (a || b)) := fun Q q => h1 _ ⟨a, rfl, by
  cases a with
  | true => exact q
  | false => exact h2 rfl _ q⟩
theorem ev_notV (h1 : Ev ta σ H (.bl a)) : Ev (tNotV ta) σ H (.bl (!a)) := fun _ q => h1 _ ⟨a, rfl, q⟩
theorem ev_chainB {r r' : R2} (ha : Ev ta σ H x) (hb : Ev tb σ H y) (hc : a = true → Ev tc σ H v) (h1 : ∀ Q : VK, Q (.bl a) H → r x y H Q) (h2 : a = true → ∀ Q : VK, Q (.bl b) H → r' y v H Q) :
    Ev (tChain r r' ta tb tc) σ H (.bl (a && b)) := fun Q q => ha _ (hb _ (h1 _ ⟨a, rfl, by
  cases a with
  | true => exact hc rfl _ (h2 rfl _ q)
  | false => exact q⟩))
/-! arguments -/
theorem ea_nil : Ea tNil σ H [] := fun _ q => q
theorem ea_cons {tr : TA} (h : Ev ta σ H x) (hr : Ea tr σ H vs) : Ea (tCons ta tr) σ H (x :: vs) := fun _ q => h _ (hr _ q)
theorem eo_no : Eo tNoPart σ H none := fun _ q => q
theorem eo_some (h : Ev te σ H (.int i)) : Eo (tPart te) σ H (some i) := fun _ q => h _ ⟨i, rfl, q⟩
theorem ev_cb {r : List V → Hp → VK → Prop} {tr : TA} (h : Ea tr σ H vs) (hr : ∀ Q : VK, Q v H → r vs H Q) : Ev (tCB r tr) σ H v := fun Q q => h _ (hr _ q)
/-! lists read -/
variable {K : PySem.W.Frag} {α : Type}
theorem ev_ixSq {p : Addr} {ws : List V} (ha : Ev ta σ H (.ref p)) (hb : Ev tb σ H (.int i)) (hs : SqL K H p ws) (e : atI ws i = some v) : Ev (tOp (rIxL K) ta tb) σ H v := ev_op ha hb fun _ q => ⟨p, ws, i, v, rfl, rfl, hs, e, q⟩
theorem ev_ixS {c : Nat} (ha : Ev ta σ H (.str z)) (hb : Ev tb σ H (.int i)) (hl : z.length ≤ sizeLine) (e : atI z.cps.toList i = some c) : Ev (tOp rIxS ta tb) σ H (.str ⟨#[c]⟩) := ev_op ha hb fun _ q => ⟨z, i, c, rfl, rfl, hl, e, q⟩
theorem ev_slS {tl th : TO} {l h : Option Int} (ha : Ev ta σ H (.str z)) (h1 : Eo tl σ H l) (h2 : Eo th σ H h) (hl : z.length ≤ sizeLine) : Ev (tSl rSlS ta tl th) σ H (.str (cutS z l h)) := fun _ q => ha _ (h1 _ (h2 _ ⟨z, rfl, hl, q⟩))
def rLenSq (K : PySem.W.Frag) : List V → Hp → VK → Prop := fun xs H Q => ∃ p ys, xs = [.ref p] ∧ (SqL K H p ys ∨ SqT K H p ys) ∧ Q (.int ys.length) H
theorem call_lenSq {X : Cx} : CallR X (.builtin "len") (rLenSq X.K) := call_len_seq
def rLenS : List V → Hp → VK → Prop := fun xs H Q => ∃ z, xs = [.str z] ∧ z.length ≤ sizeLine ∧ Q (.int z.length) H
theorem call_lenS {X : Cx} : CallR X (.builtin "len") rLenS := call_len_str
theorem ev_lenL {p : Addr} {ws : List V} (ha : Ev ta σ H (.ref p)) (hs : SqL K H p ws) : Ev (tCB (rLenSq K) (tCons ta tNil)) σ H (.int ws.length) := ev_cb (ea_cons ha ea_nil) fun _ q => ⟨p, ws, rfl, .inl hs, q⟩
theorem ev_lenS (ha : Ev ta σ H (.str z)) (hl : z.length ≤ sizeLine) : Ev (tCB rLenS (tCons ta tNil)) σ H (.int z.length) := ev_cb (ea_cons ha ea_nil) fun _ q => ⟨z, rfl, hl, q⟩
end
/-! ### statements -/
section
variable {σ σ' : St} {H : Hp} {te : TE} {t : TT} {D : Ends} {t1 t2 tb : TS} {v : V} {b : Bool}
theorem st_seq (h : t1 { D with nx := t2 D } σ H) : tSeq t1 t2 D σ H := h
theorem st_set {i : Nat} (h : Ev te σ H v) (e : σ.set i (some v) = σ') (k : D.nx σ' H) : tAsg te (gName i) D σ H := h _ (by subst e; exact k)
theorem st_ret (h : Ev te σ H v) (k : D.rt v H) : tRet te D σ H := h _ k
theorem st_drop (h : Ev te σ H v) (k : D.nx σ H) : tDrop te D σ H := h _ k
theorem st_if (h : Et t σ H b) (h1 : b = true → t1 D σ H) (h2 : b = false → t2 D σ H) : tIfS t t1 t2 D σ H := h _ (by
  cases b with
  | true => exact h1 rfl
  | false => exact h2 rfl)
theorem ev_to (h : Ev te σ H v) {Q : VK} (q : Q v H) : te σ H Q := h Q q
theorem ea_to {t : TA} {vs : List V} (h : Ea t σ H vs) {Q : List V → Hp → Prop} (q : Q vs H) : t σ H Q := h Q q
theorem eo_to {t : TO} {o : Option Int} (h : Eo t σ H o) {Q : Option Int → Hp → Prop} (q : Q o H) : t σ H Q := h Q q
theorem et_to (h : Et t σ H b) {Q : Bool → Hp → Prop} (q : Q b H) : t σ H Q := h Q q
end

/-! ### loops -/
section
variable {α β τ ρ : Type} {H : Hp} {σ : St} {D : Ends} {tb : TS} {g : TG} {K : PySem.W.Frag}
/-- a walk J over the items xs: at turn i it yields a v of which the i-th item holds -/
structure Wk (J : It) (I : St → Hp → Prop) (im : Hp → V → α → Prop) (xs : List α) : Prop where
  go : ∀ i σ H, I σ H → i < xs.length → J.go i H
  yl : ∀ i σ H v H' x, I σ H → xs[i]? = some x → J.yld i H v H' → I σ H' ∧ im H' v x
  sp : ∀ σ H, I σ H → J.stop xs.length H
/-- for .. in ..: the state s : τ, I s its place in slots and heap; each turn reckons f -/
theorem for_walk {J : It} {I : τ → St → Hp → Prop} {im : Hp → V → α → Prop} {xs : List α} {f : τ → α → R τ} {k : τ → Prop} {e : Exc → Prop} {s : τ}
    (w : ∀ s, Wk J (I s) im xs) (h0 : I s σ H) (hm : R.wp (forR f xs s) k e)
    (turn : ∀ (s : τ) (x : α) (v : V) (σ : St) (H : Hp) (q : τ → Prop) (N : St → Hp → Prop), I s σ H → im H v x → R.wp (f s x) q e → (∀ s' σ' H', q s' → I s' σ' H' → N σ' H') → g v σ H fun σ2 H2 => tb { D with nx := N, ct := N, bk := D.nx } σ2 H2)
    (done : ∀ s σ H, k s → I s σ H → D.nx σ H) :
    ∃ W : Nat → Nat → St → Hp → Prop, (∃ m, W 0 m σ H) ∧ ∀ i m σ H, W i m σ H →
      (J.stop i H ∧ D.nx σ H) ∨ (J.go i H ∧ ∃ N : St → Hp → Prop, (∀ σ' H', N σ' H' → ∃ m', m' < m ∧ W (i + 1) m' σ' H') ∧ ∀ x H', J.yld i H x H' → g x σ H' fun σ2 H2 => tb { D with nx := N, ct := N, bk := D.nx } σ2 H2) := by
  refine ⟨fun i m σ H => m = xs.length - i ∧ i ≤ xs.length ∧ ∃ s, I s σ H ∧ R.wp (forR f (xs.drop i) s) k e, ⟨xs.length, by simp, Nat.zero_le _, s, h0, by simpa using hm⟩, ?_⟩
  rintro i m σ H ⟨rfl, hi, s, hI, hw⟩
  by_cases c : i < xs.length
  · have ed : xs.drop i = xs[i] :: xs.drop (i + 1) := List.drop_eq_getElem_cons c
    rw [ed] at hw
    refine .inr ⟨(w s).go i σ H hI c, fun σ' H' => ∃ s', I s' σ' H' ∧ R.wp (forR f (xs.drop (i + 1)) s') k e, fun σ' H' ⟨s', h1, h2⟩ => ⟨xs.length - (i + 1), by omega, rfl, c, s', h1, h2⟩, fun v H' y => ?_⟩
    obtain ⟨hI', hv⟩ := (w s).yl i σ H v H' xs[i] hI (List.getElem?_eq_getElem c) y
    exact turn s xs[i] v σ H' _ _ hI' hv (R.wp_bind hw) fun s' σ' H'' q hI'' => ⟨s', hI'', q⟩
  · have ei : i = xs.length := by omega
    subst ei
    rw [List.drop_length] at hw
    exact .inl ⟨(w s).sp σ H hI, done s σ H hw hI⟩
/-- .. whose turns may leave it -/
theorem for_walkF {J : It} {I : τ → St → Hp → Prop} {im : Hp → V → α → Prop} {xs : List α} {f : τ → α → R (Fl τ ρ)} {k : Fl τ ρ → Prop} {e : Exc → Prop} {s : τ}
    (w : ∀ s, Wk J (I s) im xs) (h0 : I s σ H) (hm : R.wp (forF f xs s) k e)
    (turn : ∀ (s : τ) (x : α) (v : V) (σ : St) (H : Hp) (q : Fl τ ρ → Prop) (N B : St → Hp → Prop), I s σ H → im H v x → R.wp (f s x) q e → (∀ s' σ' H', q (.go s') → I s' σ' H' → N σ' H') → (∀ s' σ' H', q (.brk s') → I s' σ' H' → B σ' H') → (∀ r, q (.out r) → k (.out r)) →
      g v σ H fun σ2 H2 => tb { D with nx := N, ct := N, bk := B } σ2 H2)
    (done : ∀ s σ H, k (.go s) → I s σ H → D.nx σ H) :
    ∃ W : Nat → Nat → St → Hp → Prop, (∃ m, W 0 m σ H) ∧ ∀ i m σ H, W i m σ H →
      (J.stop i H ∧ D.nx σ H) ∨ (J.go i H ∧ ∃ N : St → Hp → Prop, (∀ σ' H', N σ' H' → ∃ m', m' < m ∧ W (i + 1) m' σ' H') ∧ ∀ x H', J.yld i H x H' → g x σ H' fun σ2 H2 => tb { D with nx := N, ct := N, bk := D.nx } σ2 H2) := by
  refine ⟨fun i m σ H => m = xs.length - i ∧ i ≤ xs.length ∧ ∃ s, I s σ H ∧ R.wp (forF f (xs.drop i) s) k e, ⟨xs.length, by simp, Nat.zero_le _, s, h0, by simpa using hm⟩, ?_⟩
  rintro i m σ H ⟨rfl, hi, s, hI, hw⟩
  by_cases c : i < xs.length
  · have ed : xs.drop i = xs[i] :: xs.drop (i + 1) := List.drop_eq_getElem_cons c
    rw [ed] at hw
    refine .inr ⟨(w s).go i σ H hI c, fun σ' H' => ∃ s', I s' σ' H' ∧ R.wp (forF f (xs.drop (i + 1)) s') k e, fun σ' H' ⟨s', h1, h2⟩ => ⟨xs.length - (i + 1), by omega, rfl, c, s', h1, h2⟩, fun v H' y => ?_⟩
    obtain ⟨hI', hv⟩ := (w s).yl i σ H v H' xs[i] hI (List.getElem?_eq_getElem c) y
    have hw' := R.wp_bind hw
    exact turn s xs[i] v σ H' _ _ _ hI' hv hw' (fun s' σ' H'' q hI'' => ⟨s', hI'', q⟩) (fun s' σ' H'' q hI'' => done s' σ' H'' q hI'') fun r q => q
  · have ei : i = xs.length := by omega
    subst ei
    rw [List.drop_length] at hw
    exact .inl ⟨(w s).sp σ H hI, done s σ H hw hI⟩
/-- a comprehension -/
theorem lc_walk {J : It} {I : Addr → τ → List β → Hp → Prop} {im : Hp → V → α → Prop} [Im G β] {xs : List α} {f : τ → α → R (τ × Option β)} {k : τ × List β → Prop} {e : Exc → Prop} {s : τ} {tt : TT} {te : TE} {vs : List Nat} {Q : VK} {Dr : Addr}
    (w : ∀ s ys, Wk J (fun _ H => I Dr s ys H) im xs) (h0 : I Dr s [] (upd H Dr (.lst []))) (hm : R.wp (compR f xs s) k e) (hl : xs.length ≤ sizeLine)
    (turn : ∀ (s : τ) (ys : List β) (x : α) (v : V) (H : Hp) (q : τ × Option β → Prop) (Nx : Hp → Prop), I Dr s ys H → im H v x → R.wp (f s x) q e → ys.length < sizeLine →
      (∀ s' y u H', q (s', some y) → Im.im G H' u y → I Dr s' ys H' → ∃ acc, H' Dr = some (.lst acc) ∧ acc.length < sizeLine ∧ Nx (upd H' Dr (.lst (acc ++ [u])))) → (∀ s' H', q (s', none) → I Dr s' ys H' → Nx H') →
      g v (wipe σ vs) H fun σ2 H2 => wipe σ2 vs = wipe σ vs ∧ tt σ2 H2 fun b H3 => if b = true then te σ2 H3 fun y H4 => ∃ acc, H4 Dr = some (.lst acc) ∧ acc.length < sizeLine ∧ Nx (upd H4 Dr (.lst (acc ++ [y]))) else Nx H3)
    (app : ∀ s ys y u H, I Dr s ys H → Im.im G H u y → ∃ acc, H Dr = some (.lst acc) ∧ acc.length = ys.length ∧ I Dr s (ys ++ [y]) (upd H Dr (.lst (acc ++ [u]))))
    (done : ∀ s ys H, k (s, ys) → I Dr s ys H → Q (.ref Dr) H) :
    ∃ W : Nat → Nat → Hp → Prop, (∃ m, W 0 m (upd H Dr (.lst []))) ∧ ∀ i m H, W i m H →
      (J.stop i H ∧ Q (.ref Dr) H) ∨ (J.go i H ∧ ∃ Nx : Hp → Prop, (∀ H', Nx H' → ∃ m', m' < m ∧ W (i + 1) m' H') ∧ ∀ x H', J.yld i H x H' → g x (wipe σ vs) H' fun σ2 H2 => wipe σ2 vs = wipe σ vs ∧ tt σ2 H2 fun b H3 =>
        if b = true then te σ2 H3 fun y H4 => ∃ acc, H4 Dr = some (.lst acc) ∧ acc.length < sizeLine ∧ Nx (upd H4 Dr (.lst (acc ++ [y]))) else Nx H3) := by
  refine ⟨fun i m H => m = xs.length - i ∧ i ≤ xs.length ∧ ∃ s ys, ys.length ≤ i ∧ I Dr s ys H ∧ R.wp (compR f (xs.drop i) s) (fun t => k (t.1, ys ++ t.2)) e, ⟨xs.length, by simp, Nat.zero_le _, s, [], Nat.le_refl _, h0, by simpa using hm⟩, ?_⟩
  rintro i m H ⟨rfl, hi, s, ys, hy, hI, hw⟩
  by_cases c : i < xs.length
  · have ed : xs.drop i = xs[i] :: xs.drop (i + 1) := List.drop_eq_getElem_cons c
    rw [ed] at hw
    refine .inr ⟨(w s ys).go i [] H hI c, fun H' => ∃ s' ys', ys'.length ≤ i + 1 ∧ I Dr s' ys' H' ∧ R.wp (compR f (xs.drop (i + 1)) s') (fun t => k (t.1, ys' ++ t.2)) e,
      fun H' ⟨s', ys', h0, h1, h2⟩ => ⟨xs.length - (i + 1), by omega, rfl, c, s', ys', h0, h1, h2⟩, fun v H' y => ?_⟩
    obtain ⟨hI', hv⟩ := (w s ys).yl i [] H v H' xs[i] hI (List.getElem?_eq_getElem c) y
    have hw' := R.wp_bind hw
    refine turn s ys xs[i] v H' _ _ hI' hv hw' (by omega) (fun s' y u H'' q hu hI'' => ?_) (fun s' H'' q hI'' => ?_)
    · have q' := R.wp_bind q
      obtain ⟨acc, ea, la, hI3⟩ := app s' ys y u H'' hI'' hu
      refine ⟨acc, ea, by omega, s', ys ++ [y], by simp; omega, hI3, ?_⟩
      refine R.wp_mono q' (fun t ht => ?_) fun _ z => z
      have ht' : k (t.1, ys ++ y :: t.2) := ht
      rw [List.append_assoc]; exact ht'
    · have q' := R.wp_bind q
      exact ⟨s', ys, by omega, hI'', R.wp_mono q' (fun t ht => ht) fun _ z => z⟩
  · have ei : i = xs.length := by omega
    subst ei
    rw [List.drop_length] at hw
    have hw : k (s, ys ++ []) := hw
    rw [List.append_nil] at hw
    exact .inl ⟨(w s ys).sp [] H hI, done s ys H hw hI⟩
end
end Ml

namespace Ml
open PySem L2
variable {G : Gx}
/-! ### items by place, in plain Lean -/
def idxR {α : Type} (xs : List α) (i : Int) : R α := match atI xs i with
  | some x => .ok x
  | none => .bad
theorem wp_idx {α ρ : Type} {xs : List α} {i : Int} {f : α → R ρ} {q : ρ → Prop} {e : Exc → Prop} (h : R.wp ((idxR xs i).bind f) q e) : ∃ x, atI xs i = some x ∧ R.wp (f x) q e := by
  unfold idxR at h
  cases c : atI xs i with
  | some x => rw [c] at h; exact ⟨x, rfl, h⟩
  | none => rw [c] at h; exact h.elim
theorem atI_map {α β : Type} {xs : List α} {f : α → β} {i : Int} {x : α} (h : atI xs i = some x) : atI (xs.map f) i = some (f x) := by
  unfold atI at h ⊢
  rw [List.length_map]
  cases e : ixN xs.length i with
  | none => rw [e] at h; cases h
  | some j =>
    rw [e] at h
    show (xs.map f)[j]? = some (f x)
    have h : xs[j]? = some x := h
    rw [List.getElem?_map, h]; rfl
theorem atI_im {α : Type} [Im G α] {H : Hp} {vs : List V} {xs : List α} {i : Int} {x : α} (m : imL (G := G) H vs xs) (h : atI xs i = some x) : ∃ v, atI vs i = some v ∧ Im.im G H v x := by
  unfold atI at h ⊢
  rw [m.len]
  cases e : ixN xs.length i with
  | none => rw [e] at h; cases h
  | some j =>
    rw [e] at h
    exact m.get h
theorem atI_ok {α : Type} {xs : List α} {i : Int} (h0 : 0 ≤ i) (h1 : i < xs.length) : ∃ x, xs[i.toNat]? = some x ∧ atI xs i = some x := by
  have hj : i.toNat < xs.length := by omega
  refine ⟨xs[i.toNat], List.getElem?_eq_getElem hj, ?_⟩
  unfold atI ixN
  rw [if_pos h0, if_pos h1]
  exact List.getElem?_eq_getElem hj
theorem idxR_ok {α : Type} {xs : List α} {i : Int} {x : α} (h0 : 0 ≤ i) (h1 : xs[i.toNat]? = some x) : idxR xs i = .ok x := by
  have hl : i.toNat < xs.length := (List.getElem?_eq_some_iff.mp h1).1
  obtain ⟨y, hy, h⟩ := atI_ok (xs := xs) h0 (by omega)
  rw [h1] at hy; cases hy
  unfold idxR; rw [h]
/-- one sign as a text -/
abbrev sg (c : Nat) : Str := ⟨#[c]⟩
def mulOk (i j : Int) : Prop := (-(2 ^ 64) < i ∧ i < 2 ^ 64) ∨ (-(2 ^ 64) < j ∧ j < 2 ^ 64)
instance (i j : Int) : Decidable (mulOk i j) := by unfold mulOk; infer_instance
theorem mulOk_c {i j : Int} (h : mulOk i j) : CMul i j := h
def rngL (lo : Int) (n : Nat) : List Int := (List.range n).map fun (i : Nat) => lo + (i : Int)
theorem rngL_len (lo : Int) (n : Nat) : (rngL lo n).length = n := by simp [rngL]
theorem rngL_get {lo : Int} {n i : Nat} {x : Int} (h : (rngL lo n)[i]? = some x) : x = lo + (i : Int) ∧ i < n := by
  have hl : i < (rngL lo n).length := (List.getElem?_eq_some_iff.mp h).1
  rw [rngL_len] at hl
  unfold rngL at h
  rw [List.getElem?_map, List.getElem?_range hl] at h
  exact ⟨(Option.some.inj h).symm, hl⟩
/-! ### what is walked -/
section
variable {α τ : Type} {I : St → Hp → Prop} {K : PySem.W.Frag} {a : Addr}
theorem wk_list [Im G α] {xs : List α} (h : ∀ σ H, I σ H → ∃ vs, SqL K H a vs ∧ imL (G := G) H vs xs) : Wk (Itl K a) I (Im.im G) xs where
  go := fun i σ H hI hi => by
    obtain ⟨vs, s, m⟩ := h σ H hI
    have hl : i < vs.length := by rw [m.len]; exact hi
    exact ⟨vs, vs[i], s, List.getElem?_eq_getElem hl⟩
  yl := fun i σ H v H' x hI hx y => by
    obtain ⟨vs, s, m⟩ := h σ H hI
    obtain ⟨rfl, y⟩ := y
    obtain ⟨u, hu, im⟩ := m.get hx
    have e := y vs s
    rw [hu] at e; cases e
    exact ⟨hI, im⟩
  sp := fun σ H hI => by
    obtain ⟨vs, s, m⟩ := h σ H hI
    exact ⟨vs, s, by rw [m.len]; exact Nat.le_refl _⟩
theorem wk_range {lo : Int} {n : Nat} : Wk (Itr lo n) I (fun _ v (x : Int) => v = .int x) (rngL lo n) where
  go := fun i σ H _ hi => by rw [rngL_len] at hi; exact hi
  yl := fun i σ H v H' x hI hx y => by
    obtain ⟨rfl, y⟩ := y
    obtain ⟨e, _⟩ := rngL_get hx
    exact ⟨hI, by rw [y, e]⟩
  sp := fun σ H _ => by rw [rngL_len]; exact Nat.le_refl _
theorem wk_str {z : Str} : Wk (Its z) I (fun _ v (c : Nat) => v = .str (sg c)) z.cps.toList where
  go := fun i σ H _ hi => by show i < z.cps.size; simpa using hi
  yl := fun i σ H v H' x hI hx y => by
    obtain ⟨rfl, c, hc, y⟩ := y
    have : z.cps[i]? = some x := by simpa using hx
    rw [hc] at this; cases this
    exact ⟨hI, y⟩
  sp := fun σ H _ => by show z.cps.size ≤ _; simp
end
theorem Sep.sq {α : Type} [Im G α] {H : Hp} {L : List (Asn G)} (h : Sep H L) {i : Nat} {a : Addr} {xs : List α} (e : L[i]? = some (lstA a xs)) : ∃ vs, SqL G.K H a vs ∧ imL (G := G) H vs xs := by
  obtain ⟨vs, e, m⟩ := h.lst e
  exact ⟨vs, .inl (.inl e), m⟩
theorem Sep.sqF {α : Type} [Fv G α] {H : Hp} {L : List (Asn G)} (h : Sep H L) {i : Nat} {a : Addr} {xs : List α} (e : L[i]? = some (lstA a xs)) : SqL G.K H a (xs.map (Fv.enc G)) := by
  obtain ⟨vs, e, m⟩ := h.sq e
  rw [imL.flat.mp m] at e
  exact e
/-! ### making, changing: each step leaves the next heap by its assertions alone -/
section
variable {σ σ' : St} {H : Hp} {L L' : List (Asn G)} {D : Ends} {Q : VK} {te ta tb : TE} {α β : Type}
theorem c_op {r : R2} (h : ta σ H fun x H1 => tb σ H1 fun y H2 => r x y H2 Q) : tOp r ta tb σ H Q := h
theorem c_cons {tr : TA} {P : List V → Hp → Prop} (h : ta σ H fun x H1 => tr σ H1 fun xs H2 => P (x :: xs) H2) : tCons ta tr σ H P := h
theorem c_nil {P : List V → Hp → Prop} (h : P [] H) : tNil σ H P := h
theorem c_call {sp : Sp} {dvs : List V} {E : XK} {t : TA} (h : t σ H fun vs H1 => sp (vs ++ dvs) H1 Q E) : tCall sp dvs E t σ H Q := h
theorem c_cb {r : List V → Hp → VK → Prop} {t : TA} (h : t σ H fun vs H1 => r vs H1 Q) : tCB r t σ H Q := h
theorem c_asg {i : Nat} (h : te σ H fun v H1 => D.nx (σ.set i (some v)) H1) : tAsg te (gName i) D σ H := h
theorem c_ret (h : te σ H D.rt) : tRet te D σ H := h
theorem c_drop (h : te σ H fun _ H1 => D.nx σ H1) : tDrop te D σ H := h
theorem c_set {i : Nat} {v : V} (e : σ.set i (some v) = σ') (h : D.nx σ' H) : D.nx (σ.set i (some v)) H := by rw [e]; exact h
theorem c_if {t : TT} {t1 t2 : TS} (h : t σ H fun b H1 => if b = true then t1 D σ H1 else t2 D σ H1) : tIfS t t1 t2 D σ H := h
theorem c_test {P : Bool → Hp → Prop} (h : te σ H fun x H1 => ∃ k, x = .bl k ∧ P k H1) : tTest te σ H P := h
theorem c_B {P : Bool → Hp → Prop} (h : te σ H fun x H1 => ∃ k, x = .bl k ∧ P k H1) : tB te σ H P := h
theorem c_bool {b : Bool} {P : Bool → Hp → Prop} (h : P b H) : ∃ k, V.bl b = .bl k ∧ P k H := ⟨b, rfl, h⟩
theorem c_ite {b : Bool} {A B : Prop} (h1 : b = true → A) (h2 : b = false → B) : if b = true then A else B := by
  cases b with
  | true => exact h1 rfl
  | false => exact h2 rfl
theorem c_not {t : TT} {P : Bool → Hp → Prop} (h : t σ H fun c H1 => P (!c) H1) : tNot t σ H P := h
theorem c_and {t u : TT} {P : Bool → Hp → Prop} (h : t σ H fun c H1 => if c = true then u σ H1 P else P false H1) : tAnd t u σ H P := h
theorem c_or {t u : TT} {P : Bool → Hp → Prop} (h : t σ H fun c H1 => if c = true then P true H1 else u σ H1 P) : tOr t u σ H P := h
theorem c_andV (h : ta σ H fun x H1 => ∃ c, x = .bl c ∧ if c = true then tb σ H1 Q else Q (.bl false) H1) : tAndV ta tb σ H Q := h
theorem c_orV (h : ta σ H fun x H1 => ∃ c, x = .bl c ∧ if c = true then Q (.bl true) H1 else tb σ H1 Q) : tOrV ta tb σ H Q := h
theorem c_notV (h : ta σ H fun x H1 => ∃ c, x = .bl c ∧ Q (.bl (!c)) H1) : tNotV ta σ H Q := h
theorem c_ifE {t : TT} (h : t σ H fun c H1 => if c = true then ta σ H1 Q else tb σ H1 Q) : tIf t ta tb σ H Q := h
theorem c_b1 {c : Bool} {A : Bool → Prop} (h : A c) : ∃ k, V.bl c = .bl k ∧ A k := ⟨c, rfl, h⟩
/-- a new list of written items -/
def lstK (Q : VK) : List V → Hp → Prop := fun xs H1 => xs.length ≤ sizeLine ∧ ∀ p, H1 p = none → Q (.ref p) (upd H1 p (.lst xs))
def tupK (Q : VK) : List V → Hp → Prop := fun xs H1 => xs.length ≤ sizeLine ∧ ∀ p, H1 p = none → Q (.ref p) (upd H1 p (.tup xs))
theorem k_lst [Im G α] {vs : List V} {xs : List α} (hS : Sep H L) (m : imL (G := G) H vs xs) (z : vs.length ≤ sizeLine) (k : ∀ p H', Sep H' (lstA p xs :: L) → Q (.ref p) H') :
    lstK Q vs H := ⟨z, fun p hp => k p _ (hS.newL hp m)⟩
theorem c_lst {t : TA} (h : t σ H (lstK Q)) : tLst t σ H Q := h
theorem c_tup {t : TA} (h : t σ H (tupK Q)) : tTup t σ H Q := h
theorem c_bm {K : PySem.W.Frag} {T : String} {r : V → List V → Hp → VK → Prop} {to : TE} {t : TA} (h : to σ H fun x H1 => tyV K T x H1 ∧ t σ H1 fun xs H2 => r x xs H2 Q) : tBM K T r to t σ H Q := h
theorem c_bm0 {K : PySem.W.Frag} {T : String} {r : V → List V → Hp → VK → Prop} {to : TE} (h : to σ H fun x H1 => tyV K T x H1 ∧ r x [] H1 Q) : tBM0 K T r to σ H Q := h
theorem tyL [Im G α] {i : Nat} {a : Addr} {xs : List α} (hS : Sep H L) (e : L[i]? = some (lstA a xs)) : tyV G.K "list" (.ref a) H := by
  obtain ⟨vs, h, _⟩ := hS.sq e
  exact .inl ⟨rfl, vs, h⟩
theorem k_append [Im G α] {i : Nat} {a : Addr} {xs : List α} {x : α} {v : V} (hS : Sep H L) (e : L[i]? = some (lstA a xs)) (hv : Im.im G H v x) (z : xs.length < sizeLine) (e2 : L.set i (lstA a (xs ++ [x])) = L')
    (k : ∀ H', Sep H' L' → Q .non H') : rAppend (.ref a) [v] H Q := by
  obtain ⟨vs, h, m⟩ := hS.lst e
  refine ⟨a, vs, v, rfl, rfl, h, by rw [m.len]; exact z, k _ ?_⟩
  subst e2
  exact hS.putL e (m.app (vs := vs) (ws := [v]) ⟨hv, True.intro⟩)
theorem k_clear [Im G α] {i : Nat} {a : Addr} {xs : List α} (hS : Sep H L) (e : L[i]? = some (lstA a xs)) (e2 : L.set i (lstA a ([] : List α)) = L')
    (k : ∀ H', Sep H' L' → Q .non H') : rClear (.ref a) [] H Q := by
  obtain ⟨vs, h, m⟩ := hS.lst e
  refine ⟨a, vs, rfl, rfl, h, k _ ?_⟩
  subst e2
  exact hS.putL (vs := []) (ys := ([] : List α)) e True.intro
theorem k_cat [Im G α] {i j : Nat} {a b : Addr} {xs ys : List α} (hS : Sep H L) (e1 : L[i]? = some (lstA a xs)) (e2 : L[j]? = some (lstA b ys)) (z : xs.length + ys.length ≤ sizeLine)
    (k : ∀ p H', Sep H' (lstA p (xs ++ ys) :: L) → Q (.ref p) H') : rCat (.ref a) (.ref b) H Q := by
  obtain ⟨vs, h, m⟩ := hS.lst e1
  obtain ⟨ws, h', m'⟩ := hS.lst e2
  exact ⟨a, b, vs, ws, rfl, rfl, h, h', by rw [m.len, m'.len]; exact z, fun p hp => k p _ (hS.newL hp (m.app m'))⟩
/-- xs[i] = v -/
theorem k_setL [Im G α] {n : Nat} {a : Addr} {xs : List α} {x : α} {v : V} {i : Int} {P : Hp → Prop} (hS : Sep H L) (e : L[n]? = some (lstA a xs)) (hv : Im.im G H v x) (j : Nat) (hj : ixN xs.length i = some j) (e2 : L.set n (lstA a (xs.set j x)) = L')
    (k : ∀ H', Sep H' L' → P H') : rSetL (.ref a) (.int i) v H P := by
  obtain ⟨vs, h, m⟩ := hS.lst e
  refine ⟨a, vs, i, j, rfl, rfl, h, by rw [m.len]; exact hj, k _ ?_⟩
  subst e2
  exact hS.putL e (m.set hv)
def cutL (xs : List α) (lo hi : Option Int) : List α := (xs.drop (HT.sIx xs.length 0 lo)).take (HT.sIx xs.length xs.length hi - HT.sIx xs.length 0 lo)
theorem cutL_im [Im G α] {vs : List V} {xs : List α} {lo hi : Option Int} (m : imL (G := G) H vs xs) : imL (G := G) H (cutV vs lo hi) (cutL xs lo hi) := by
  unfold cutV cutL
  rw [m.len]
  exact (m.drop _).take _
theorem k_slL [Im G α] {n : Nat} {a : Addr} {xs : List α} {lo hi : Option Int} (hS : Sep H L) (e : L[n]? = some (lstA a xs))
    (k : ∀ p H', Sep H' (lstA p (cutL xs lo hi) :: L) → Q (.ref p) H') : rSlL G.K (.ref a) lo hi H Q := by
  obtain ⟨vs, h, m⟩ := hS.sq e
  exact ⟨a, vs, rfl, h, fun p hp => k p _ (hS.newL hp (cutL_im m))⟩
theorem c_sl {r : V → Option Int → Option Int → Hp → VK → Prop} {tl th : TO} (h : te σ H fun x H1 => tl σ H1 fun l H2 => th σ H2 fun u H3 => r x l u H3 Q) : tSl r te tl th σ H Q := h
def rListSq (K : PySem.W.Frag) : List V → Hp → VK → Prop := fun xs H Q => ∃ p ys, xs = [.ref p] ∧ (SqL K H p ys ∨ SqT K H p ys) ∧ ∀ l, H l = none → Q (.ref l) (upd H l (.lst ys))
theorem call_listSq {X : Cx} : CallR X (.type "list") (rListSq X.K) := call_list_of
theorem k_list [Im G α] {n : Nat} {a : Addr} {xs : List α} (hS : Sep H L) (e : L[n]? = some (lstA a xs)) (k : ∀ p H', Sep H' (lstA p xs :: L) → Q (.ref p) H') : rListSq G.K [.ref a] H Q := by
  obtain ⟨vs, h, m⟩ := hS.sq e
  exact ⟨a, vs, rfl, .inl h, fun p hp => k p _ (hS.newL hp m)⟩
/-- sep.join(xs) -/
def rJoin (K : PySem.W.Frag) : V → List V → Hp → VK → Prop := fun x xs H Q => ∃ a p, ∃ ys : List Str, x = .str a ∧ xs = [.ref p] ∧ (SqL K H p (ys.map V.str) ∨ SqT K H p (ys.map V.str)) ∧ (ys.map (·.length)).sum + ys.length * a.length ≤ 16777216 ∧ Q (.str (Txt.join a ys)) H
theorem k_join {n : Nat} {p : Addr} {a : Str} {ys : List Str} (hS : Sep H L) (e : L[n]? = some (lstA p ys)) (z : (ys.map (·.length)).sum + ys.length * a.length ≤ 16777216) (k : Q (.str (Txt.join a ys)) H) : rJoin G.K (.str a) [.ref p] H Q :=
  ⟨a, p, ys, rfl, rfl, .inl (hS.sqF e), z, k⟩
theorem c_m1 {r : V → List V → Hp → VK → Prop} {to : TE} {a : Str} (h1 : Ev to σ H (.str a)) (h : te σ H fun y H2 => r (.str a) [y] H2 Q) : tM1 r to te σ H Q := h1 _ ⟨⟨a, rfl⟩, h⟩
theorem c_m0 {r : V → List V → Hp → VK → Prop} {to : TE} {a : Str} (h1 : Ev to σ H (.str a)) (h : r (.str a) [] H Q) : tM0 r to σ H Q := h1 _ ⟨⟨a, rfl⟩, h⟩
end
end Ml

namespace Ml
open PySem L2
variable {G : Gx}
/-! ### dicts -/
section
variable {κ β : Type} [DecidableEq κ]
def dget (kvs : List (κ × β)) (k : κ) : Option β := (kvs.find? fun kv => decide (kv.1 = k)).map (·.2)
def dput (kvs : List (κ × β)) (k : κ) (v : β) : List (κ × β) :=
  if (kvs.any fun kv => decide (kv.1 = k)) = true then kvs.map (fun kv => if kv.1 = k then (kv.1, v) else kv) else kvs ++ [(k, v)]
def ddrop (kvs : List (κ × β)) (k : κ) : List (κ × β) := kvs.filter fun kv => decide (kv.1 ≠ k)
def dhas (kvs : List (κ × β)) (k : κ) : Bool := (dget kvs k).isSome
end
class Kx (κ : Type) where
  key : κ → Key
  inj : ∀ {a b : κ}, key a = key b → a = b
instance : Kx Int := ⟨Sum.inl, fun h => Sum.inl.inj h⟩
instance : Kx Str := ⟨Sum.inr, fun h => Sum.inr.inj h⟩
section
variable {κ β : Type} [DecidableEq κ] [Kx κ] [Im G β]
def imD (H : Hp) : List (Key × V) → List (κ × β) → Prop
  | [], [] => True
  | p :: ps, q :: qs => (p.1 = Kx.key q.1 ∧ Im.im G H p.2 q.2) ∧ imD H ps qs
  | _, _ => False
variable {H H' : Hp}
theorem imD.st : ∀ {ps : List (Key × V)} {qs : List (κ × β)}, imD (G := G) H ps qs → Stab G H H' → imD (G := G) H' ps qs
  | [], [], _, _ => True.intro
  | p :: ps, q :: qs, h, s => ⟨⟨h.1.1, Im.st h.1.2 s⟩, imD.st h.2 s⟩
  | [], _ :: _, h, _ => h
  | _ :: _, [], h, _ => h
theorem imD.len : ∀ {ps : List (Key × V)} {qs : List (κ × β)}, imD (G := G) H ps qs → ps.length = qs.length
  | [], [], _ => rfl
  | p :: ps, q :: qs, h => by rw [List.length_cons, List.length_cons, imD.len h.2]
  | [], _ :: _, h => h.elim
  | _ :: _, [], h => h.elim
theorem key_dec (a b : κ) : decide (Kx.key a = Kx.key b) = decide (a = b) := by
  by_cases h : a = b
  · subst h; simp
  · have : ¬ Kx.key a = Kx.key b := fun e => h (Kx.inj e)
    simp [h, this]
theorem imD.val : ∀ {ps : List (Key × V)} {qs : List (κ × β)} (k : κ), imD (G := G) H ps qs → (∀ y, dget qs k = some y → ∃ v, valV ps (Kx.key k) = some v ∧ Im.im G H v y) ∧ (dget qs k = none → valV ps (Kx.key k) = none)
  | [], [], _, _ => ⟨fun y e => (by cases (show (none : Option β) = some y from e)), fun _ => rfl⟩
  | p :: ps, q :: qs, k, ⟨⟨e1, e2⟩, h⟩ => by
    have ih := imD.val k h
    by_cases c : q.1 = k
    · have c1 : p.1 = Kx.key k := by rw [e1, c]
      have d : dget (q :: qs) k = some q.2 := by simp [dget, List.find?_cons, c]
      rw [d, valV_pos c1]
      exact ⟨fun y e => ⟨p.2, rfl, by cases e; exact e2⟩, fun e => by cases e⟩
    · have c1 : ¬ p.1 = Kx.key k := fun z => c (Kx.inj (e1.symm.trans z))
      have d : dget (q :: qs) k = dget qs k := by simp [dget, List.find?_cons, c]
      rw [d, valV_neg c1]
      exact ih
  | [], _ :: _, _, h => h.elim
  | _ :: _, [], _, h => h.elim
theorem imD.any : ∀ {ps : List (Key × V)} {qs : List (κ × β)} (k : κ), imD (G := G) H ps qs → (ps.any fun kv => decide (kv.1 = Kx.key k)) = qs.any fun kv => decide (kv.1 = k)
  | [], [], _, _ => rfl
  | p :: ps, q :: qs, k, ⟨⟨e1, e2⟩, h⟩ => by
    rw [List.any_cons, List.any_cons, imD.any k h, e1, key_dec]
  | [], _ :: _, _, h => h.elim
  | _ :: _, [], _, h => h.elim
theorem imD.app : ∀ {ps rs : List (Key × V)} {qs ts : List (κ × β)}, imD (G := G) H ps qs → imD (G := G) H rs ts → imD (G := G) H (ps ++ rs) (qs ++ ts)
  | [], _, [], _, _, h => h
  | _ :: _, _, _ :: _, _, h, k => ⟨h.1, imD.app h.2 k⟩
  | [], _, _ :: _, _, h, _ => h.elim
  | _ :: _, _, [], _, h, _ => h.elim
theorem imD.rep : ∀ {ps : List (Key × V)} {qs : List (κ × β)} {k : κ} {v : V} {y : β}, imD (G := G) H ps qs → Im.im G H v y →
    imD (G := G) H (ps.map fun kv => if kv.1 = Kx.key k then (kv.1, v) else kv) (qs.map fun kv => if kv.1 = k then (kv.1, y) else kv)
  | [], [], _, _, _, _, _ => True.intro
  | p :: ps, q :: qs, k, v, y, ⟨⟨e1, e2⟩, h⟩, hv => by
    refine ⟨?_, imD.rep h hv⟩
    show (if p.1 = Kx.key k then (p.1, v) else p).1 = Kx.key (if q.1 = k then (q.1, y) else q).1 ∧ Im.im G H (if p.1 = Kx.key k then (p.1, v) else p).2 (if q.1 = k then (q.1, y) else q).2
    by_cases c : q.1 = k
    · have c1 : p.1 = Kx.key k := by rw [e1, c]
      rw [if_pos c, if_pos c1]; exact ⟨e1, hv⟩
    · have c1 : ¬ p.1 = Kx.key k := fun z => c (Kx.inj (e1.symm.trans z))
      rw [if_neg c, if_neg c1]; exact ⟨e1, e2⟩
  | [], _ :: _, _, _, _, h, _ => h.elim
  | _ :: _, [], _, _, _, h, _ => h.elim
theorem imD.put {ps : List (Key × V)} {qs : List (κ × β)} {k : κ} {v : V} {y : β} (h : imD (G := G) H ps qs) (hv : Im.im G H v y) : imD (G := G) H (putK ps (Kx.key k) v) (dput qs k y) := by
  unfold putK dput
  rw [h.any k]
  split
  · exact h.rep hv
  · exact h.app (rs := [(Kx.key k, v)]) (ts := [(k, y)]) ⟨⟨rfl, hv⟩, True.intro⟩
theorem imD.drop : ∀ {ps : List (Key × V)} {qs : List (κ × β)} (k : κ), imD (G := G) H ps qs → imD (G := G) H (dropK ps (Kx.key k)) (ddrop qs k)
  | [], [], _, _ => True.intro
  | p :: ps, q :: qs, k, ⟨⟨e1, e2⟩, h⟩ => by
    have ih := imD.drop k h
    unfold dropK ddrop at ih ⊢
    rw [List.filter_cons, List.filter_cons]
    by_cases c : q.1 = k
    · have c1 : p.1 = Kx.key k := by rw [e1, c]
      simp only [c, c1, ne_eq, not_true_eq_false, decide_false, Bool.false_eq_true, if_false]
      exact ih
    · have c1 : ¬ p.1 = Kx.key k := fun z => c (Kx.inj (e1.symm.trans z))
      simp only [c, c1, ne_eq, not_false_eq_true, decide_true, if_true]
      exact ⟨⟨e1, e2⟩, ih⟩
  | [], _ :: _, _, h => h.elim
  | _ :: _, [], _, h => h.elim
theorem imD.keys : ∀ {ps : List (Key × V)} {qs : List (κ × β)}, imD (G := G) H ps qs → ps.map (·.1) = qs.map fun q => Kx.key q.1
  | [], [], _ => rfl
  | p :: ps, q :: qs, h => by rw [List.map_cons, List.map_cons, imD.keys h.2, h.1.1]
  | [], _ :: _, h => h.elim
  | _ :: _, [], h => h.elim
def dictA (a : Addr) (kvs : List (κ × β)) : Asn G := ⟨fun H fp => fp = [a] ∧ ∃ ps, H a = some (.dK ps) ∧ imD (G := G) H ps kvs,
  fun H H' fp ⟨e, ps, h, m⟩ k s => ⟨e, ps, by rw [k a (by rw [e]; simp)]; exact h, m.st s⟩⟩
variable {L L' : List (Asn G)}
theorem Sep.dict (h : Sep H L) {i : Nat} {a : Addr} {kvs : List (κ × β)} (e : L[i]? = some (dictA a kvs)) : ∃ ps, H a = some (.dK ps) ∧ imD (G := G) H ps kvs := by
  obtain ⟨fp, _, x⟩ := h.at e
  exact x
theorem Sep.newD (h : Sep H L) {p : Addr} (hp : H p = none) : Sep (upd H p (.dK [])) (dictA p ([] : List (κ × β)) :: L) :=
  (h.new (o := .dK []) hp rfl).view fun fp ⟨q, r⟩ => ⟨q, [], r, True.intro⟩
theorem Sep.putD (h : Sep H L) {i : Nat} {a : Addr} {xs ys : List (κ × β)} {ps : List (Key × V)} (e : L[i]? = some (dictA a xs)) (m : imD (G := G) H ps ys) : Sep (upd H a (.dK ps)) (L.set i (dictA a ys)) := by
  obtain ⟨us, e0, mu⟩ := h.dict e
  have h1 : Sep H (L.set i (cell a (.dK us))) := h.viewAt e fun fp ⟨q, _⟩ => ⟨q, e0⟩
  have e1 := get_set (y := cell (G := G) a (.dK us)) e
  have h2 := h1.put (o' := .dK ps) e1 rfl rfl
  rw [set_set] at h2
  have st : Stab G H (upd H a (.dK ps)) := stab_put (h1.getCell e1) rfl rfl
  have h3 := h2.viewAt (B := dictA a ys) (get_set e) fun fp ⟨q, r⟩ => ⟨q, ps, r, m.st st⟩
  rw [set_set] at h3
  exact h3
variable {σ : St} {Q : VK} {td ty tx : TE} {k : κ} {a : Addr} {xs : List (κ × β)} {i : Nat}
theorem k_dnew (hS : Sep H L) (q : ∀ p H', Sep H' (dictA p ([] : List (κ × β)) :: L) → Q (.ref p) H') : tDNewK σ H Q := fun p hp => q p _ (hS.newD hp)
theorem dget_at (hS : Sep H L) (e : L[i]? = some (dictA a xs)) {o : Option β} (ho : dget xs k = o) : ∃ r, DGet H a (kV (Kx.key k)) r ∧ (∀ y, o = some y → ∃ v, r = some v ∧ Im.im G H v y) ∧ (o = none → r = none) := by
  obtain ⟨ps, h, m⟩ := hS.dict e
  obtain ⟨v1, v2⟩ := m.val k
  exact ⟨_, DGet.k h, fun y q => v1 y (ho.trans q), fun q => v2 (ho.trans q)⟩
theorem ev_din (hS : Sep H L) (e : L[i]? = some (dictA a xs)) (hy : Ev ty σ H (kV (Kx.key k))) (hd : Ev td σ H (.ref a)) : Ev (tDIn ty td) σ H (.bl (dhas xs k)) := fun Q q => hy _ (hd _ (by
  obtain ⟨r, g, h1, h2⟩ := dget_at hS e (k := k) rfl
  refine ⟨a, r, rfl, g, ?_⟩
  have : r.isSome = dhas xs k := by
    unfold dhas
    cases c : dget xs k with
    | none => rw [h2 c]; rfl
    | some y => obtain ⟨v, e, _⟩ := h1 y c; rw [e]; rfl
  rw [this]; exact q))
theorem ev_dnotin (hS : Sep H L) (e : L[i]? = some (dictA a xs)) (hy : Ev ty σ H (kV (Kx.key k))) (hd : Ev td σ H (.ref a)) : Ev (tDNotIn ty td) σ H (.bl (!dhas xs k)) := fun Q q => hy _ (hd _ (by
  obtain ⟨r, g, h1, h2⟩ := dget_at hS e (k := k) rfl
  refine ⟨a, r, rfl, g, ?_⟩
  have : r.isSome = dhas xs k := by
    unfold dhas
    cases c : dget xs k with
    | none => rw [h2 c]; rfl
    | some y => obtain ⟨v, e, _⟩ := h1 y c; rw [e]; rfl
  rw [this]; exact q))
theorem isD_of (hS : Sep H L) (e : L[i]? = some (dictA a xs)) : IsD H a := by
  obtain ⟨ps, h, _⟩ := hS.dict e
  exact .inl ⟨ps, .inl h⟩
/-- d.setdefault(k, z), what it hands back not looked at -/
theorem k_dsetd0 {z : V} {y : β} (hS : Sep H L) (e : L[i]? = some (dictA a xs)) (hz : Im.im G H z y) (hl : xs.length < sizeLine) (e2 : L.set i (dictA a (if dhas xs k then xs else dput xs k y)) = L')
    (q : ∀ v H', Sep H' L' → Q v H') : ∃ (kvs : List (Key × V)) (k' : Key), H a = some (.dK kvs) ∧ kV (Kx.key k) = kV k' ∧ kvs.length < sizeLine ∧ (∀ v, valV kvs k' = some v → Q v H) ∧ (valV kvs k' = none → Q z (upd H a (.dK (putK kvs k' z)))) := by
  obtain ⟨ps, h, m⟩ := hS.dict e
  obtain ⟨v1, v2⟩ := m.val k
  refine ⟨ps, Kx.key k, h, rfl, by rw [m.len]; exact hl, fun v hv => q v _ ?_, fun hn => q z _ ?_⟩
  · have : dhas xs k = true := by
      unfold dhas
      cases c : dget xs k with
      | none => rw [v2 c] at hv; cases hv
      | some y => rfl
    rw [this] at e2
    subst e2
    have : L.set i (dictA a xs) = L := by
      have hi := (List.getElem?_eq_some_iff.mp e)
      obtain ⟨h1, h2⟩ := hi
      rw [← h2]; exact List.set_getElem_self h1
    rw [if_pos rfl, this]; exact hS
  · have : dhas xs k = false := by
      unfold dhas
      cases c : dget xs k with
      | none => rfl
      | some y => obtain ⟨v, e, _⟩ := v1 y c; rw [e] at hn; cases hn
    rw [this] at e2
    subst e2
    rw [if_neg Bool.false_ne_true]
    exact hS.putD e (m.put hz)
theorem k_dsetd {z : V} {y : β} (hS : Sep H L) (e : L[i]? = some (dictA a xs)) (hd : Ev td σ H (.ref a)) (hy : Ev ty σ H (kV (Kx.key k))) (hx : Ev tx σ H z) (hz : Im.im G H z y) (hl : xs.length < sizeLine) (e2 : L.set i (dictA a (if dhas xs k then xs else dput xs k y)) = L')
    (q : ∀ v H', Sep H' L' → Q v H') : tDSetd td ty tx σ H Q := hd _ ⟨a, rfl, isD_of hS e, hy _ (hx _ (k_dsetd0 hS e hz hl e2 q))⟩
def rListD : List V → Hp → VK → Prop := fun xs H Q => ∃ (a : Addr) (kvs : List (Key × V)), xs = [.ref a] ∧ Rd H a (.dK kvs) ∧ ∀ p, H p = none → Q (.ref p) (upd H p (.lst (kvs.map fun kv => kV kv.1)))
theorem call_lstD {X : Cx} (hc : X.calm = true) : CallR X (.type "list") rListD := call_listD hc
theorem k_listD [Fv G κ] (hk : ∀ k : κ, kV (Kx.key k) = Fv.enc G k) (hS : Sep H L) (e : L[i]? = some (dictA a xs)) (q : ∀ p H', Sep H' (lstA p (xs.map (·.1)) :: L) → Q (.ref p) H') : rListD [.ref a] H Q := by
  obtain ⟨ps, h, m⟩ := hS.dict e
  refine ⟨a, ps, rfl, .inl h, fun p hp => q p _ (hS.newL hp (imL.flat.mpr ?_))⟩
  have e1 : ps.map (fun kv => kV kv.1) = (ps.map (·.1)).map kV := by rw [List.map_map]; rfl
  rw [e1, m.keys, List.map_map, List.map_map]
  exact List.map_congr_left fun q _ => hk q.1
end
/-! ### == of data -/
class Lay (α : Type) where
  lay : α → Bool
instance : Lay Int := ⟨fun _ => true⟩
instance : Lay Bool := ⟨fun _ => true⟩
instance : Lay Str := ⟨fun x => PyData.strOk x⟩
def layAllB {α : Type} [Lay α] (xs : List α) : Bool := xs.all Lay.lay
class Pd (G : Gx) (α : Type) [Im G α] [DecidableEq α] [Lay α] where
  pd : α → PyData
  dep : Nat
  dp : ∀ {H : Hp} {v : V} {x : α}, Im.im G H v x → Dp G.K H v (pd x)
  lay_ok : ∀ x, Lay.lay x = true → (pd x).canLay0 = true
  dep_ok : ∀ x, (pd x).depth ≤ dep
  eqv : ∀ x y, PyData.eqv (pd x) (pd y) = decide (x = y)
instance pInt : Pd G Int where
  pd := .int
  dep := 0
  dp := fun {H v x} h => by
    have h : v = .int x := h
    subst h; exact .int x
  lay_ok := fun _ _ => rfl
  dep_ok := fun _ => Nat.le_refl _
  eqv := fun x y => by
    show (x == y) = decide (x = y)
    rfl
instance pBool : Pd G Bool where
  pd := .bool
  dep := 0
  dp := fun {H v x} h => by
    have h : v = .bl x := h
    subst h; exact .bl x
  lay_ok := fun _ _ => rfl
  dep_ok := fun _ => Nat.le_refl _
  eqv := fun x y => by cases x <;> cases y <;> rfl
theorem str_beq (x y : Str) : (x == y) = decide (x = y) := by
  by_cases h : x = y
  · subst h; simp
  · simp [h]
instance pStr : Pd G Str where
  pd := .str
  dep := 0
  dp := fun {H v x} h => by
    have h : v = .str x := h
    subst h; exact .str x
  lay_ok := fun _ h => h
  dep_ok := fun _ => Nat.le_refl _
  eqv := fun x y => str_beq x y
section
variable {α : Type} [Im G α] [DecidableEq α] [Lay α] [Pd G α] {H : Hp} {L : List (Asn G)}
theorem dpAll : ∀ {vs : List V} {xs : List α}, imL (G := G) H vs xs → DpAll G.K H vs (xs.map (Pd.pd G))
  | [], [], _ => .nil
  | v :: vs, x :: xs, h => .cons (Pd.dp h.1) (dpAll h.2)
  | [], _ :: _, h => h.elim
  | _ :: _, [], h => h.elim
theorem layAll : ∀ {xs : List α}, layAllB xs = true → PyData.canLayAll0 (xs.map (Pd.pd G)) = true
  | [], _ => rfl
  | x :: xs, h => by
    unfold layAllB at h
    rw [List.all_cons, Bool.and_eq_true] at h
    show ((Pd.pd G x).canLay0 && PyData.canLayAll0 (xs.map (Pd.pd G))) = true
    rw [Pd.lay_ok x h.1, layAll h.2]; rfl
theorem depAll : ∀ (xs : List α), PyData.depthAll (xs.map (Pd.pd G)) ≤ Pd.dep G α
  | [] => Nat.zero_le _
  | x :: xs => by
    show max (Pd.pd G x).depth (PyData.depthAll (xs.map (Pd.pd G))) ≤ _
    exact Nat.max_le.mpr ⟨Pd.dep_ok x, depAll xs⟩
theorem eqvAll_is : ∀ (xs ys : List α), PyData.eqvAll (xs.map (Pd.pd G)) (ys.map (Pd.pd G)) = decide (xs = ys)
  | [], [] => rfl
  | x :: xs, y :: ys => by
    show (PyData.eqv (Pd.pd G x) (Pd.pd G y) && PyData.eqvAll (xs.map (Pd.pd G)) (ys.map (Pd.pd G))) = _
    rw [Pd.eqv, eqvAll_is xs ys]
    simp
  | [], _ :: _ => rfl
  | _ :: _, [] => rfl
theorem shapedL {xs : List α} (h : layAllB xs = true) (d : Pd.dep G α + 1 ≤ 64) : SeqAt.shaped (.list (xs.map (Pd.pd G))) = true := by
  unfold SeqAt.shaped
  have h1 : (PyData.list (xs.map (Pd.pd G))).canLay0 = true := layAll h
  have h2 : (PyData.list (xs.map (Pd.pd G))).depth ≤ 64 := by
    show PyData.depthAll (xs.map (Pd.pd G)) + 1 ≤ 64
    have := depAll (G := G) xs
    omega
  rw [h1, decide_eq_true h2]; rfl
variable {a b : Addr} {xs ys : List α} {i j : Nat} {σ : St} {ta tb : TE}
theorem ev_eqL (hS : Sep H L) (e1 : L[i]? = some (lstA a xs)) (e2 : L[j]? = some (lstA b ys)) (ha : Ev ta σ H (.ref a)) (hb : Ev tb σ H (.ref b)) (l1 : layAllB xs = true) (l2 : layAllB ys = true) (d : Pd.dep G α + 1 ≤ 64) :
    Ev (tOp (rEqD G.K) ta tb) σ H (.bl (decide (xs = ys))) := ev_op ha hb fun Q q => by
  obtain ⟨vs, s1, m1⟩ := hS.sq e1
  obtain ⟨ws, s2, m2⟩ := hS.sq e2
  refine ⟨_, _, .lst s1 (dpAll m1), .lst s2 (dpAll m2), shapedL l1 d, shapedL l2 d, ?_⟩
  have : PyData.eqv (.list (xs.map (Pd.pd G))) (.list (ys.map (Pd.pd G))) = decide (xs = ys) := eqvAll_is xs ys
  rw [this]; exact q
theorem r_eqL (hS : Sep H L) (e1 : L[i]? = some (lstA a xs)) (e2 : L[j]? = some (lstA b ys)) (l1 : layAllB xs = true) (l2 : layAllB ys = true) (d : Pd.dep G α + 1 ≤ 64) (Q : VK) (q : Q (.bl (decide (xs = ys))) H) : rEqD G.K (.ref a) (.ref b) H Q :=
  ev_eqL (σ := []) (ta := tC (.ref a)) (tb := tC (.ref b)) hS e1 e2 ev_c ev_c l1 l2 d Q q
theorem ev_neL (hS : Sep H L) (e1 : L[i]? = some (lstA a xs)) (e2 : L[j]? = some (lstA b ys)) (ha : Ev ta σ H (.ref a)) (hb : Ev tb σ H (.ref b)) (l1 : layAllB xs = true) (l2 : layAllB ys = true) (d : Pd.dep G α + 1 ≤ 64) :
    Ev (tOp (rNeD G.K) ta tb) σ H (.bl (!decide (xs = ys))) := ev_op ha hb fun Q q => by
  obtain ⟨vs, s1, m1⟩ := hS.sq e1
  obtain ⟨ws, s2, m2⟩ := hS.sq e2
  refine ⟨_, _, .lst s1 (dpAll m1), .lst s2 (dpAll m2), shapedL l1 d, shapedL l2 d, ?_⟩
  have : PyData.eqv (.list (xs.map (Pd.pd G))) (.list (ys.map (Pd.pd G))) = decide (xs = ys) := eqvAll_is xs ys
  rw [this]; exact q
theorem r_neL (hS : Sep H L) (e1 : L[i]? = some (lstA a xs)) (e2 : L[j]? = some (lstA b ys)) (l1 : layAllB xs = true) (l2 : layAllB ys = true) (d : Pd.dep G α + 1 ≤ 64) (Q : VK) (q : Q (.bl (!decide (xs = ys))) H) : rNeD G.K (.ref a) (.ref b) H Q :=
  ev_neL (σ := []) (ta := tC (.ref a)) (tb := tC (.ref b)) hS e1 e2 ev_c ev_c l1 l2 d Q q
end
/-! ### in, isinstance -/
section
variable {H : Hp} {L : List (Asn G)} {σ : St} {ta tb : TE} {a : Addr} {i : Nat}
theorem inV_str (x : Str) : ∀ ys : List Str, inV (.str x) (ys.map V.str) = decide (x ∈ ys)
  | [] => rfl
  | y :: ys => by
    have ih := inV_str x ys
    unfold inV at ih ⊢
    rw [List.map_cons, List.any_cons, ih]
    show ((y == x) || _) = _
    by_cases h : y = x
    · subst h; simp
    · have h' : ¬ x = y := fun e => h e.symm
      simp [h, h']
theorem flat_str : ∀ ys : List Str, (ys.map V.str).all flatV = true
  | [] => rfl
  | y :: ys => by rw [List.map_cons, List.all_cons, flat_str ys]; rfl
theorem ev_inL {x : Str} {ys : List Str} (hS : Sep H L) (e : L[i]? = some (lstA a ys)) (ha : Ev ta σ H (.str x)) (hb : Ev tb σ H (.ref a)) : Ev (tOp (rIn G.K false) ta tb) σ H (.bl (decide (x ∈ ys))) := ev_op ha hb fun Q q =>
  ⟨a, ys.map V.str, rfl, .inl (hS.sqF e), rfl, flat_str ys, by
    show Q (.bl (inV (.str x) (ys.map V.str))) H
    rw [inV_str]; exact q⟩
theorem ev_niL {x : Str} {ys : List Str} (hS : Sep H L) (e : L[i]? = some (lstA a ys)) (ha : Ev ta σ H (.str x)) (hb : Ev tb σ H (.ref a)) : Ev (tOp (rIn G.K true) ta tb) σ H (.bl (!decide (x ∈ ys))) := ev_op ha hb fun Q q =>
  ⟨a, ys.map V.str, rfl, .inl (hS.sqF e), rfl, flat_str ys, by
    show Q (.bl (!inV (.str x) (ys.map V.str))) H
    rw [inV_str]; exact q⟩
theorem ev_isi {x : V} {T U : String} {b : Bool} (ha : Ev ta σ H x) (hb : Ev tb σ H (.ty U)) (t : TyX G.K H x (.type T)) (e : kitB T U = some b) : Ev (tCB (rIsi G.K) (tCons ta (tCons tb tNil))) σ H (.bl b) :=
  ev_cb (ea_cons ha (ea_cons hb ea_nil)) fun Q q => ⟨x, .ty U, _, _, b, rfl, .ty U, t, kit_ty e, q⟩
theorem ty_lst {α : Type} [Im G α] {xs : List α} (hS : Sep H L) (e : L[i]? = some (lstA a xs)) : TyX G.K H (.ref a) (.type "list") := by
  obtain ⟨vs, h, _⟩ := hS.lst e
  exact .base (.lst h)
theorem ty_dict {κ β : Type} [DecidableEq κ] [Kx κ] [Im G β] {xs : List (κ × β)} (hS : Sep H L) (e : L[i]? = some (dictA a xs)) : TyX G.K H (.ref a) (.type "dict") := by
  obtain ⟨vs, h, _⟩ := hS.dict e
  exact .base (.dK h)
end
end Ml

namespace Ml
open PySem L2
variable {G : Gx}
section
variable {σ σ' : St} {H : Hp} {L L' M : List (Asn G)} {D : Ends} {Q : VK} {te : TE} {tt : TT} {tb : TS} {α β τ ρ : Type} {i : Nat} {v : V} {vs : List Nat}
theorem c_gN {P : St → Hp → Prop} (e : σ.set i (some v) = σ') (h : P σ' H) : gName i v σ H P := by
  show P (σ.set i (some v)) H
  rw [e]; exact h
theorem c_gLc {P : Bool → Hp → Prop} (e : (wipe σ vs).set i (some v) = σ') (hw : wipe σ' vs = wipe σ vs) (h : tt σ' H P) : gName i v (wipe σ vs) H fun σ2 H2 => wipe σ2 vs = wipe σ vs ∧ tt σ2 H2 P := by
  show wipe ((wipe σ vs).set i (some v)) vs = wipe σ vs ∧ tt ((wipe σ vs).set i (some v)) H P
  rw [e]; exact ⟨hw, h⟩
theorem c_yes {A B : Hp → Prop} (h : A H) : tYes σ H fun b H3 => if b = true then A H3 else B H3 := h
theorem lc_app [Im G β] {Dr : Addr} {ys : List β} {y : β} {u : V} (hS : Sep H (lstA Dr ys :: M)) (hu : Im.im G H u y) : ∃ acc, H Dr = some (.lst acc) ∧ acc.length = ys.length ∧ Sep (upd H Dr (.lst (acc ++ [u]))) (lstA Dr (ys ++ [y]) :: M) := by
  obtain ⟨acc, h, m⟩ := hS.lst (i := 0) rfl
  exact ⟨acc, h, m.len, hS.putL (i := 0) rfl (m.app (vs := acc) (ws := [u]) ⟨hu, True.intro⟩)⟩
theorem st_nx (h : D.nx σ H) : tNext D σ H := h
def sq (t : TS) (D : Ends) : Ends := { D with nx := t D }
theorem f_seq {t1 t2 : TS} (h : t1 (sq t2 D) σ H) : tSeq t1 t2 D σ H := h
theorem sq_nx {t2 : TS} (h : t2 D σ H) : (sq t2 D).nx σ H := h
def forK (g : TG) (tb : TS) (D : Ends) (σ : L2.St) : It → Hp → Prop := fun J H1 => ∃ W : Nat → Nat → L2.St → Hp → Prop, (∃ m, W 0 m σ H1) ∧ ∀ i m σ H, W i m σ H →
  (J.stop i H ∧ D.nx σ H) ∨ (J.go i H ∧ ∃ N : L2.St → Hp → Prop, (∀ σ' H', N σ' H' → ∃ m', m' < m ∧ W (i + 1) m' σ' H') ∧ ∀ x H', J.yld i H x H' → g x σ H' fun σ2 H2 => tb { D with nx := N, ct := N, bk := D.nx } σ2 H2)
def loopD (D : Ends) (N B : L2.St → Hp → Prop) : Ends := { D with nx := N, ct := N, bk := B }
theorem c_for {wi : TI} {g : TG} (h : wi σ H (forK g tb D σ)) : tFor wi g tb D σ H := h
def lcK (g : TG) (tt : TT) (te : TE) (vs : List Nat) (σ : L2.St) (Q : VK) : It → Hp → Prop := fun J H1 => ∀ D, H1 D = none → ∃ W : Nat → Nat → Hp → Prop, (∃ m, W 0 m (upd H1 D (.lst []))) ∧ ∀ i m H, W i m H →
  (J.stop i H ∧ Q (.ref D) H) ∨ (J.go i H ∧ ∃ Nx : Hp → Prop, (∀ H', Nx H' → ∃ m', m' < m ∧ W (i + 1) m' H') ∧ ∀ x H', J.yld i H x H' → g x (wipe σ vs) H' fun σ2 H2 => wipe σ2 vs = wipe σ vs ∧ tt σ2 H2 fun b H3 =>
    if b = true then te σ2 H3 fun y H4 => ∃ acc, H4 D = some (.lst acc) ∧ acc.length < sizeLine ∧ Nx (upd H4 D (.lst (acc ++ [y]))) else Nx H3)
theorem c_lc {wi : TI} {g : TG} (h : wi σ H (lcK g tt te vs σ Q)) : tLc wi g tt te vs σ H Q := h
def rng1K (R : It → Hp → Prop) : List V → Hp → Prop := fun vs H1 => ∃ j : Int, vs = [.int j] ∧ -(2 ^ 62) ≤ j ∧ j < 2 ^ 62 ∧ R (Itr 0 j.toNat) H1
def rng2K (R : It → Hp → Prop) : List V → Hp → Prop := fun vs H1 => ∃ i j : Int, vs = [.int i, .int j] ∧ (-(2 ^ 62) ≤ i ∧ i < 2 ^ 62 ∧ -(2 ^ 62) ≤ j ∧ j < 2 ^ 62) ∧ R (Itr i (j - i).toNat) H1
def ilK (K : PySem.W.Frag) (R : It → Hp → Prop) : VK := fun x H1 => ∃ a, x = .ref a ∧ (∃ xs, SqL K H1 a xs) ∧ R (Itl K a) H1
def isK (R : It → Hp → Prop) : VK := fun v H1 => ∃ x, v = .str x ∧ R (Its x) H1
theorem c_rng1 {ta : TA} {R : It → Hp → Prop} (h : ta σ H (rng1K R)) : iRng1 ta σ H R := h
theorem c_rng2 {ta : TA} {R : It → Hp → Prop} (h : ta σ H (rng2K R)) : iRng2 ta σ H R := h
theorem c_il {K : PySem.W.Frag} {R : It → Hp → Prop} (h : te σ H (ilK K R)) : iList K te σ H R := h
theorem c_is {R : It → Hp → Prop} (h : te σ H (isK R)) : iStr te σ H R := h
theorem k_rng1 {R : It → Hp → Prop} {j : Int} (h1 : -(2 ^ 62) ≤ j) (h2 : j < 2 ^ 62) (h : R (Itr 0 j.toNat) H) : rng1K R [.int j] H := ⟨j, rfl, h1, h2, h⟩
theorem k_rng2 {R : It → Hp → Prop} {i j : Int} (h1 : -(2 ^ 62) ≤ i) (h2 : i < 2 ^ 62) (h3 : -(2 ^ 62) ≤ j) (h4 : j < 2 ^ 62) (h : R (Itr i (j - i).toNat) H) : rng2K R [.int i, .int j] H := ⟨i, j, rfl, ⟨h1, h2, h3, h4⟩, h⟩
theorem k_il [Im G α] {a : Addr} {xs : List α} {R : It → Hp → Prop} (hS : Sep H L) (e : L[i]? = some (lstA a xs)) (h : R (Itl G.K a) H) : ilK G.K R (.ref a) H := by
  obtain ⟨vs, s, _⟩ := hS.sq e
  exact ⟨a, rfl, ⟨vs, s⟩, h⟩
theorem k_is {z : Str} {R : It → Hp → Prop} (h : R (Its z) H) : isK R (.str z) H := ⟨z, rfl, h⟩
/-- for .. in .. -/
theorem k_for {J : It} {g : TG} {im : Hp → V → α → Prop} {xs : List α} {f : τ → α → R τ} {rest : τ → R ρ} {q : ρ → Prop} {e : Exc → Prop} {s : τ} (I : τ → L2.St → Hp → Prop)
    (w : ∀ s, Wk J (I s) im xs) (h0 : I s σ H) (hm : R.wp ((forR f xs s).bind rest) q e)
    (turn : ∀ (s : τ) (x : α) (v : V) (σ : L2.St) (H : Hp) (q : τ → Prop) (N : L2.St → Hp → Prop), I s σ H → im H v x → R.wp (f s x) q e → (∀ s' σ' H', q s' → I s' σ' H' → N σ' H') → g v σ H fun σ2 H2 => tb (loopD D N D.nx) σ2 H2)
    (done : ∀ s σ H, R.wp (rest s) q e → I s σ H → D.nx σ H) : forK g tb D σ J H :=
  for_walk (I := I) w h0 (R.wp_bind hm) turn done
theorem lp_nx {N B : L2.St → Hp → Prop} (h : N σ H) : (loopD D N B).nx σ H := h
theorem lp_ct {N B : L2.St → Hp → Prop} (h : N σ H) : tCont (loopD D N B) σ H := h
theorem lp_bk {N B : L2.St → Hp → Prop} (h : B σ H) : tBreak (loopD D N B) σ H := h
/-- a comprehension over owned things -/
theorem lc_sep [Im G β] {J : It} {im : Hp → V → α → Prop} {xs : List α} {f : τ → α → R (τ × Option β)} {rest : τ × List β → R ρ} {q : ρ → Prop} {e : Exc → Prop} {s : τ} (M : τ → List (Asn G))
    (hS : Sep H (M s)) (w : ∀ (Dr : Addr) (s : τ) (ys : List β), Wk J (fun (_ : St) H => Sep H (lstA Dr ys :: M s)) im xs) (hl : xs.length ≤ sizeLine) (hm : R.wp ((compR f xs s).bind rest) q e)
    (turn : ∀ (Dr : Addr) (s : τ) (ys : List β) (x : α) (v : V) (H : Hp) (q : τ × Option β → Prop) (Nx : Hp → Prop), Sep H (lstA Dr ys :: M s) → im H v x → R.wp (f s x) q e →
      (∀ s' y u H', q (s', some y) → Im.im G H' u y → Sep H' (lstA Dr ys :: M s') → ∃ acc, H' Dr = some (.lst acc) ∧ acc.length < sizeLine ∧ Nx (upd H' Dr (.lst (acc ++ [u])))) → (∀ s' H', q (s', none) → Sep H' (lstA Dr ys :: M s') → Nx H') →
      gName i v (wipe σ vs) H fun σ2 H2 => wipe σ2 vs = wipe σ vs ∧ tt σ2 H2 fun b H3 => if b = true then te σ2 H3 fun y H4 => ∃ acc, H4 Dr = some (.lst acc) ∧ acc.length < sizeLine ∧ Nx (upd H4 Dr (.lst (acc ++ [y]))) else Nx H3)
    (done : ∀ (Dr : Addr) (t : τ × List β) H, R.wp (rest t) q e → Sep H (lstA Dr t.2 :: M t.1) → Q (.ref Dr) H) :
    lcK (gName i) tt te vs σ Q J H := fun Dr hD =>
  lc_walk (G := G) (I := fun Dr s ys H => Sep H (lstA Dr ys :: M s)) (im := im) (xs := xs) (f := f) (k := fun t => R.wp (rest t) q e) (e := e) (s := s) (w Dr)
    (hS.newL (vs := []) (xs := ([] : List β)) hD True.intro) (R.wp_bind hm) hl
    (fun s ys x v H q Nx hI hv hw _ k1 k2 => turn Dr s ys x v H q Nx hI hv hw k1 k2)
    (fun s ys y u H hI hu => lc_app hI hu)
    (fun s ys H hk hI => done Dr (s, ys) H hk hI)
theorem c_aug {ti : TIp} {x : V} (e : σ[i]? = some (some x)) (h : te σ H fun y H1 => ti x y H1 fun z H2 => D.nx (σ.set i (some z)) H2) : tAug i te ti D σ H := ⟨x, e, h⟩
theorem c_asgS {to ti : TE} {t : TSet} (h : te σ H fun v H1 => to σ H1 fun o H2 => ti σ H2 fun j H3 => t o j v H3 fun H4 => D.nx σ H4) : tAsg te (gSub to ti t) D σ H := h
def ipS : TIp := fun x y H Q => ∃ i j, x = .str i ∧ y = .str j ∧ i.length + j.length ≤ sizeLine ∧ Q (.str (i ++ j)) H
theorem ip_catS {X : Cx} : PIp X .Add ipS := iop_add_str
theorem mt_joinS {X : Cx} : MtR X "str.join" (rJoin X.K) := mt_join
theorem m2 {X : Cx} {o : Expr} {m : Str} {apos : Pos} {e f : Expr} {cpos : Pos} (base : attributeBase o m X.env (eval o X.env) = eval o X.env := by rfl)
  (few : ((backTo cpos (starEach [e, f] X.env)).all (fun x => !x.1) && (backToKw cpos (keywordEach [] X.env)).all (fun x => x.1.isSome)
    && decide (([e, f] : List Expr).length + ([] : List Keyword).length + (if ([] : List Keyword).isEmpty then 0 else 1) < 30)) = true := by rfl)
  (line : (apos.endLine == cpos.line) = true := by rfl) (trees : backTo cpos (starEach [e, f] X.env) = [(false, eval e X.env), (false, eval f X.env)] := by rfl) : M2 X o m apos e f cpos := ⟨base, few, line, trees⟩
def ixR {α : Type} (xs : List α) (i : Int) : R Nat := match ixN xs.length i with
  | some j => .ok j
  | none => .bad
theorem wp_ix {xs : List α} {i : Int} {f : Nat → R ρ} {q : ρ → Prop} {e : Exc → Prop} (h : R.wp ((ixR xs i).bind f) q e) : ∃ j, ixN xs.length i = some j ∧ R.wp (f j) q e := by
  unfold ixR at h
  cases c : ixN xs.length i with
  | some x => rw [c] at h; exact ⟨x, rfl, h⟩
  | none => rw [c] at h; exact h.elim
theorem r_ixSq {K : PySem.W.Frag} {p : Addr} {ws : List V} {i : Int} (hs : SqL K H p ws) (e : atI ws i = some v) (Q : VK) (q : Q v H) : rIxL K (.ref p) (.int i) H Q := ⟨p, ws, i, v, rfl, rfl, hs, e, q⟩
theorem ev_lenLm {K : PySem.W.Frag} {ta : TE} {p : Addr} {xs : List α} {f : α → V} (ha : Ev ta σ H (.ref p)) (hs : SqL K H p (xs.map f)) : Ev (tCB (rLenSq K) (tCons ta tNil)) σ H (.int xs.length) := by
  have := ev_lenL ha hs
  rw [List.length_map] at this
  exact this
theorem ev_m0 {r : V → List V → Hp → VK → Prop} {to : TE} {a : Str} (h1 : Ev to σ H (.str a)) (h : ∀ Q : VK, Q v H → r (.str a) [] H Q) : Ev (tM0 r to) σ H v := fun Q q => c_m0 h1 (h Q q)
theorem ev_m1 {r : V → List V → Hp → VK → Prop} {to ti : TE} {a : Str} {y : V} (h1 : Ev to σ H (.str a)) (h2 : Ev ti σ H y) (h : ∀ Q : VK, Q v H → r (.str a) [y] H Q) : Ev (tM1 r to ti) σ H v := fun Q q => c_m1 h1 (h2 _ (h Q q))
theorem k_lenL [Im G α] {a : Addr} {xs : List α} (hS : Sep H L) (e : L[i]? = some (lstA a xs)) (q : Q (.int xs.length) H) : rLenSq G.K [.ref a] H Q := by
  obtain ⟨vs, h, m⟩ := hS.sq e
  exact ⟨a, vs, rfl, .inl h, by rw [m.len]; exact q⟩
end
end Ml

namespace Ml
open PySem L2
variable {G : Gx}
/-! ### ends that stay folded -/
def andK (u : TT) (σ : St) (P : Bool → Hp → Prop) : Bool → Hp → Prop := fun c H => if c = true then u σ H P else P false H
def orK (u : TT) (σ : St) (P : Bool → Hp → Prop) : Bool → Hp → Prop := fun c H => if c = true then P true H else u σ H P
def notK (P : Bool → Hp → Prop) : Bool → Hp → Prop := fun c H => P (!c) H
def ifK (t1 t2 : TS) (D : Ends) (σ : St) : Bool → Hp → Prop := fun c H => if c = true then t1 D σ H else t2 D σ H
def ifE (ta tb : TE) (σ : St) (Q : VK) : Bool → Hp → Prop := fun c H => if c = true then ta σ H Q else tb σ H Q
/-- a value that is a Bool -/
def blK (P : Bool → Hp → Prop) : VK := fun x H => ∃ k, x = .bl k ∧ P k H
/-- a Bool as a value -/
def vK (Q : VK) : Bool → Hp → Prop := fun b H => Q (.bl b) H
def andVK (tb : TE) (σ : St) (Q : VK) : VK := fun x H => ∃ c, x = .bl c ∧ if c = true then tb σ H Q else Q (.bl false) H
def orVK (tb : TE) (σ : St) (Q : VK) : VK := fun x H => ∃ c, x = .bl c ∧ if c = true then Q (.bl true) H else tb σ H Q
def notVK (Q : VK) : VK := fun x H => ∃ c, x = .bl c ∧ Q (.bl (!c)) H
section
variable {σ : St} {H : Hp} {L : List (Asn G)} {D : Ends} {Q : VK} {P : Bool → Hp → Prop} {t u : TT} {t1 t2 : TS} {ta tb te : TE} {ρ τ : Type} {a b : Bool} {v w : V}
theorem f_and (h : t σ H (andK u σ P)) : tAnd t u σ H P := h
theorem f_or (h : t σ H (orK u σ P)) : tOr t u σ H P := h
theorem f_not (h : t σ H (notK P)) : tNot t σ H P := h
theorem f_if (h : t σ H (ifK t1 t2 D σ)) : tIfS t t1 t2 D σ H := h
theorem f_ifE (h : t σ H (ifE ta tb σ Q)) : tIf t ta tb σ H Q := h
theorem f_test (h : te σ H (blK P)) : tTest te σ H P := h
theorem f_B (h : te σ H (blK P)) : tB te σ H P := h
theorem f_bl (h : P b H) : blK P (.bl b) H := ⟨b, rfl, h⟩
theorem f_andV (h : ta σ H (andVK tb σ Q)) : tAndV ta tb σ H Q := h
theorem f_orV (h : ta σ H (orVK tb σ Q)) : tOrV ta tb σ H Q := h
theorem f_notV (h : ta σ H (notVK Q)) : tNotV ta σ H Q := h
theorem f_nV (h : Q (.bl (!b)) H) : notVK Q (.bl b) H := ⟨b, rfl, h⟩
theorem f_nK (h : P (!b) H) : notK P b H := h
/-! known answers -/
theorem andK_t (h : u σ H P) : andK u σ P true H := h
theorem andK_f (h : P false H) : andK u σ P false H := h
theorem orK_f (h : u σ H P) : orK u σ P false H := h
theorem orK_t (h : P true H) : orK u σ P true H := h
theorem andVK_t (h : tb σ H Q) : andVK tb σ Q (.bl true) H := ⟨true, rfl, h⟩
theorem andVK_f (h : Q (.bl false) H) : andVK tb σ Q (.bl false) H := ⟨false, rfl, h⟩
theorem orVK_f (h : tb σ H Q) : orVK tb σ Q (.bl false) H := ⟨false, rfl, h⟩
theorem orVK_t (h : Q (.bl true) H) : orVK tb σ Q (.bl true) H := ⟨true, rfl, h⟩
theorem ifK_t (h : t1 D σ H) : ifK t1 t2 D σ true H := h
theorem ifK_f (h : t2 D σ H) : ifK t1 t2 D σ false H := h
theorem ifE_t (h : ta σ H Q) : ifE ta tb σ Q true H := h
theorem ifE_f (h : tb σ H Q) : ifE ta tb σ Q false H := h
/-! two ways, joined behind -/
variable {A B : R Bool} {rest : Bool → R ρ} {q : ρ → Prop} {e : Exc → Prop}
theorem andK_J (hm : R.wp ((if a = true then A else .ok false).bind rest) q e) (hS : Sep H L)
    (h1 : a = true → ∀ q' : Bool → Prop, R.wp A q' e → (∀ b H', q' b → Sep H' L → P b H') → u σ H P) (k : ∀ b H', R.wp (rest b) q e → Sep H' L → P b H') : andK u σ P a H := by
  have hm' := R.wp_bind hm
  cases a with
  | true => exact h1 rfl _ hm' k
  | false => exact k false H hm' hS
theorem orK_J (hm : R.wp ((if a = true then .ok true else A).bind rest) q e) (hS : Sep H L)
    (h1 : a = false → ∀ q' : Bool → Prop, R.wp A q' e → (∀ b H', q' b → Sep H' L → P b H') → u σ H P) (k : ∀ b H', R.wp (rest b) q e → Sep H' L → P b H') : orK u σ P a H := by
  have hm' := R.wp_bind hm
  cases a with
  | true => exact k true H hm' hS
  | false => exact h1 rfl _ hm' k
theorem andVK_J (hm : R.wp ((if a = true then A else .ok false).bind rest) q e) (hS : Sep H L)
    (h1 : a = true → ∀ q' : Bool → Prop, R.wp A q' e → (∀ b H', q' b → Sep H' L → Q (.bl b) H') → tb σ H Q) (k : ∀ b H', R.wp (rest b) q e → Sep H' L → Q (.bl b) H') : andVK tb σ Q (.bl a) H := by
  have hm' := R.wp_bind hm
  refine ⟨a, rfl, ?_⟩
  cases a with
  | true => exact h1 rfl _ hm' k
  | false => exact k false H hm' hS
theorem orVK_J (hm : R.wp ((if a = true then .ok true else A).bind rest) q e) (hS : Sep H L)
    (h1 : a = false → ∀ q' : Bool → Prop, R.wp A q' e → (∀ b H', q' b → Sep H' L → Q (.bl b) H') → tb σ H Q) (k : ∀ b H', R.wp (rest b) q e → Sep H' L → Q (.bl b) H') : orVK tb σ Q (.bl a) H := by
  have hm' := R.wp_bind hm
  refine ⟨a, rfl, ?_⟩
  cases a with
  | true => exact k true H hm' hS
  | false => exact h1 rfl _ hm' k
theorem ifK_2 (h1 : a = true → t1 D σ H) (h2 : a = false → t2 D σ H) : ifK t1 t2 D σ a H := by
  cases a with
  | true => exact h1 rfl
  | false => exact h2 rfl
theorem ifK_J {A B : R τ} {rest : τ → R ρ} (J : τ → St → Hp → Prop) (hm : R.wp ((if a = true then A else B).bind rest) q e)
    (h1 : a = true → ∀ q' : τ → Prop, R.wp A q' e → (∀ s σ' H', q' s → J s σ' H' → D.nx σ' H') → t1 D σ H)
    (h2 : a = false → ∀ q' : τ → Prop, R.wp B q' e → (∀ s σ' H', q' s → J s σ' H' → D.nx σ' H') → t2 D σ H)
    (k : ∀ s σ' H', R.wp (rest s) q e → J s σ' H' → D.nx σ' H') : ifK t1 t2 D σ a H := by
  have hm' := R.wp_bind hm
  cases a with
  | true => exact h1 rfl _ hm' k
  | false => exact h2 rfl _ hm' k
/-! a name for what was reckoned -/
theorem wp_let {α : Type} {x : α} {f : α → R ρ} (hm : R.wp ((R.ok x).bind f) q e) : ∃ y, x = y ∧ R.wp (f y) q e := ⟨x, rfl, hm⟩
theorem ev_is (h : Ev te σ H v) (e : v = w) : Ev te σ H w := by rw [← e]; exact h
theorem q_is (e : v = w) (h : Q w H) : Q v H := by rw [e]; exact h
theorem n_is {i : Nat} (e : v = w) (h : D.nx (σ.set i (some w)) H) : D.nx (σ.set i (some v)) H := by rw [e]; exact h
theorem p_is (e : a = b) (h : P b H) : P a H := by rw [e]; exact h
/-- [elt ..] with a test: the two ways -/
theorem lc_if {A B : Prop} (h1 : a = true → A) (h2 : a = false → B) : if a = true then A else B := by
  cases a with
  | true => exact h1 rfl
  | false => exact h2 rfl
end
end Ml

namespace Ml
open PySem L2
/-! ### the layer's rules with the written part by its name -/
section
variable {X : Cx} (K : PySem.W.Frag) (hK : X.K = K := by rfl)
include hK
theorem ix_listK : IxR X (rIxL K) := by subst hK; exact ix_list
theorem ix_tupK : IxR X (rIxT K) := by subst hK; exact ix_tup
theorem sl_listK : SlR X (rSlL K) := by subst hK; exact sl_list
theorem lenSqK : CallR X (.builtin "len") (rLenSq K) := by subst hK; exact call_lenSq
theorem listSqK : CallR X (.type "list") (rListSq K) := by subst hK; exact call_listSq
theorem isiK : CallR X (.builtin "isinstance") (rIsi K) := by subst hK; exact call_isi
theorem inSqK : OpR X (compareOp .In) (rIn K false) := by subst hK; exact op_in_seq
theorem niSqK : OpR X (compareOp .NotIn) (rIn K true) := by subst hK; exact op_notIn_seq
theorem joinK : MtR X "str.join" (rJoin K) := by subst hK; exact mt_joinS
end
theorem eqDK {X : Cx} (K : PySem.W.Frag) (hu : X.A.units + 64 < cLine) (hK : X.K = K := by rfl) : OpR X (compareOp .Eq) (rEqD K) := by subst hK; exact op_eqD hu
theorem neDK {X : Cx} (K : PySem.W.Frag) (hu : X.A.units + 64 < cLine) (hK : X.K = K := by rfl) : OpR X (compareOp .NotEq) (rNeD K) := by subst hK; exact op_neD hu
theorem allK {X : Cx} (K : PySem.W.Frag) (hc : X.calm = true) (hK : X.K = K := by rfl) : CallR X (.builtin "all") (rAll K) := by subst hK; exact cr_all hc
theorem anyK {X : Cx} (K : PySem.W.Frag) (hc : X.calm = true) (hK : X.K = K := by rfl) : CallR X (.builtin "any") (rAny K) := by subst hK; exact cr_any hc
theorem pi_listK {X : Cx} {tg e : Expr} {tl : TE} (K : PySem.W.Frag) (h : PE X e tl) (hK : X.K = K := by rfl) : PI X tg e (iList K tl) := by subst hK; exact pi_list h
section
variable {X : Cx} {T : String} {name : Str} {id : String} {r : V → List V → Hp → VK → Prop} {o e : Expr} {es : List Expr} {to : TE} {t : TA} {apos cpos : Pos}
theorem pe_bm0K (K : PySem.W.Frag) (pa : PlainAttrs T) (slot : Slot T name id) (hty : typeOf (.builtin id) = pure (.type "method_descriptor")) (hm : MtR X id r) (ho : PE X o to) (hK : X.K = K := by rfl)
    (hbase : attributeBase o name X.env (eval o X.env) = eval o X.env := by rfl) (hline : (apos.endLine == cpos.line) = true := by rfl) :
    PE X (.Call (.Attribute o name apos) [] [] cpos) (tBM0 K T r to) := by subst hK; exact pe_bm0 pa slot hty hm ho hbase hline
theorem pe_bmK (K : PySem.W.Frag) (pa : PlainAttrs T) (slot : Slot T name id) (hty : typeOf (.builtin id) = pure (.type "method_descriptor")) (hm : MtR X id r) (ho : PE X o to) (ha : PA X (e :: es) t) (hK : X.K = K := by rfl)
    (hbase : attributeBase o name X.env (eval o X.env) = eval o X.env := by rfl)
    (hfew : ((backTo cpos (starEach (e :: es) X.env)).all (fun x => !x.1) && (backToKw cpos (keywordEach [] X.env)).all (fun x => x.1.isSome)
      && decide ((e :: es).length + ([] : List Keyword).length + (if ([] : List Keyword).isEmpty then 0 else 1) < 30)) = true := by rfl)
    (hline : (apos.endLine == cpos.line) = true := by rfl) (hs : starEach (e :: es) X.env = (false, eval e X.env) :: starEach es X.env := by rfl) (hplain : (backTo cpos (starEach es X.env)).any (·.1) = false := by rfl) :
    PE X (.Call (.Attribute o name apos) (e :: es) [] cpos) (tBM K T r to t) := by subst hK; exact pe_bm pa slot hty hm ho ha hbase hfew hline hs hplain
end
end Ml
namespace Ml
open PySem L2
theorem im_of_only {G : Gx} {H : Hp} {a : Addr} {ns : List Int} (hO : Only H) (hS : SqL G.K H a (ns.map V.int)) : Im.im G H (.ref a) (⟨ns⟩ : Script) := by
  refine ⟨a, rfl, ?_⟩
  rcases hS with (h | ⟨o, h⟩) | h
  · rcases hO a with z | ⟨o, xs, z⟩
    · rw [h] at z; cases z
    · rw [h] at z; cases z
  · exact .inl ⟨o, h⟩
  · exact .inr h
end Ml

namespace Ml
open PySem L2
/-! ### xs[i] += y -/
def rGetL (o i : V) (H : Hp) (Q : VK) : Prop := ∃ p xs k v, o = .ref p ∧ i = .int k ∧ H p = some (.lst xs) ∧ 0 ≤ k ∧ k < 2 ^ 63 ∧ xs[k.toNat]? = some v ∧ Q v H
theorem get_list {X : Cx} : PGet X rGetL := by
  intro pins s σ H o i ov iv Q hI ho hi ⟨p, xs, k, v, e1, e2, hp, h0, h1, hx, hq⟩
  subst e1; subst e2
  cases ho; obtain ⟨t, rfl⟩ := hi
  have := hI.hok p _ hp
  simp only [ObjOk] at this
  obtain ⟨_, its, n, hv, hg⟩ := this
  have hw : ∃ u, its.toArray[k.toNat]? = some u ∧ RelV v u := by
    obtain ⟨u, hu, hr⟩ := Vals.get hv hx
    exact ⟨u, by simpa using hu, hr⟩
  obtain ⟨u, hu, hr⟩ := hw
  exact wpAny_getItem_list ⟨_, hg, rfl, n, rfl⟩ h0 h1 hu ⟨v, H, hI, hr, hq⟩
variable {G : Gx} {σ : St} {H : Hp} {L : List (Asn G)} {D : Ends} {Q : VK} {α ρ : Type} {v : V}
theorem c_augS {to ti te : TE} {tget : V → V → Hp → VK → Prop} {tip : TIp} {tset : TSet} (h : to σ H fun o H1 => ti σ H1 fun i H2 => tget o i H2 fun x H3 => te σ H3 fun y H4 => tip x y H4 fun z H5 => tset o i z H5 fun H6 => D.nx σ H6) :
    tAugS to ti te tget tip tset D σ H := h
/-- the item to be made anew -/
def ixA (xs : List α) (i : Int) : R (Nat × α) := if 0 ≤ i ∧ i < 2 ^ 63 then match xs[i.toNat]? with
  | some x => .ok (i.toNat, x)
  | none => .bad else .bad
theorem wp_ixA {xs : List α} {i : Int} {f : Nat × α → R ρ} {q : ρ → Prop} {e : Exc → Prop} (h : R.wp ((ixA xs i).bind f) q e) :
    ∃ j x, (0 ≤ i ∧ i < 2 ^ 63 ∧ i.toNat = j ∧ xs[i.toNat]? = some x ∧ ixN xs.length i = some j) ∧ R.wp (f (j, x)) q e := by
  unfold ixA at h
  by_cases c : 0 ≤ i ∧ i < 2 ^ 63
  · rw [if_pos c] at h
    cases d : xs[i.toNat]? with
    | some x =>
      rw [d] at h
      refine ⟨i.toNat, x, ⟨c.1, c.2, rfl, rfl, ?_⟩, h⟩
      have := (List.getElem?_eq_some_iff.mp d).1
      unfold ixN
      rw [if_pos c.1, if_pos (by omega)]
    | none => rw [d] at h; exact h.elim
  · rw [if_neg c] at h; exact h.elim
theorem k_getL [Fv G α] {n : Nat} {a : Addr} {xs : List α} {x : α} {i : Int} {j : Nat} (hS : Sep H L) (e : L[n]? = some (lstA a xs)) (h : 0 ≤ i ∧ i < 2 ^ 63 ∧ i.toNat = j ∧ xs[i.toNat]? = some x ∧ ixN xs.length i = some j)
    (k : Q (Fv.enc G x) H) : rGetL (.ref a) (.int i) H Q := by
  obtain ⟨vs, h1, m⟩ := hS.lst e
  obtain ⟨u, hu, hm⟩ := m.get h.2.2.2.1
  rw [Fv.im_iff] at hm
  subst hm
  exact ⟨a, vs, i, _, rfl, rfl, h1, h.1, h.2.1, hu, k⟩
theorem r_mod {i j : Int} (c : 0 < j) (q : Q (.int (i % j)) H) : rI (fun _ j => 0 < j) (fun i j => V.int (i % j)) (.int i) (.int j) H Q := ⟨i, j, rfl, rfl, c, q⟩
theorem r_mul {i j : Int} (c : CMul i j) (q : Q (.int (i * j)) H) : rI CMul (fun i j => V.int (i * j)) (.int i) (.int j) H Q := ⟨i, j, rfl, rfl, c, q⟩
theorem r_fdiv {i j : Int} (c : 0 < j ∧ j < 1073741824) (q : Q (.int (i / j)) H) : rI CDiv (fun i j => V.int (i / j)) (.int i) (.int j) H Q := ⟨i, j, rfl, rfl, c, q⟩
/-! ### the place of a text in a text -/
def rIndexS : V → List V → Hp → VK → Prop := fun x xs H Q => ∃ a b i rest, x = .str a ∧ xs = [.str b] ∧ Builtin.Str.occurrences a b 0 a.length 1 = i :: rest ∧ Q (.int i) H
theorem mt_sindexR {X : Cx} : MtR X "str.index" rIndexS := mt_sindex
def indexR (a b : Str) : R Int := match Builtin.Str.occurrences a b 0 a.length 1 with
  | i :: _ => .ok i
  | [] => .bad
theorem wp_index {a b : Str} {f : Int → R ρ} {q : ρ → Prop} {e : Exc → Prop} (h : R.wp ((indexR a b).bind f) q e) :
    ∃ i, (∃ (j : Nat) (rest : List Nat), Builtin.Str.occurrences a b 0 a.length 1 = j :: rest ∧ i = (j : Int)) ∧ R.wp (f i) q e := by
  unfold indexR at h
  cases c : Builtin.Str.occurrences a b 0 a.length 1 with
  | cons x r => rw [c] at h; exact ⟨x, ⟨x, r, rfl, rfl⟩, h⟩
  | nil => rw [c] at h; exact h.elim
theorem ev_sindex {to ti : TE} {a b : Str} {i : Int} (h1 : Ev to σ H (.str a)) (h2 : Ev ti σ H (.str b)) (h : ∃ (j : Nat) (rest : List Nat), Builtin.Str.occurrences a b 0 a.length 1 = j :: rest ∧ i = (j : Int)) : Ev (tM1 rIndexS to ti) σ H (.int i) := by
  obtain ⟨j, rest, h3, rfl⟩ := h
  exact ev_m1 h1 h2 fun _ q => ⟨a, b, j, rest, rfl, rfl, h3, q⟩
end Ml


namespace Ml
open PySem L2
/-! ### a list is locked for good: from then on it is a value -/
def fzK (Q : VK) : VK := fun v H => Q v H ∨ ∃ a u, v = .ref a ∧ H a = some u ∧ Mut (some u) ∧ ∀ o, Q v (upd H a (.frz o u))
def tFz (t : TE) : TE := fun σ H Q => t σ H (fzK Q)
theorem pe_fz {X : Cx} {e : Expr} {t : TE} (h : PE X e t) : PE X e (tFz t) := by
  refine ⟨fun pins s σ H Q I hw => ?_⟩
  refine thn (h.run pins s σ H _ I hw) fun v s1 ⟨x, H1, I1, r, q⟩ => ?_
  rcases q with q | ⟨a, u, e, ha, mu, q⟩
  · exact ⟨x, H1, I1, r, q⟩
  · obtain ⟨od, I2⟩ := I1.lock ha mu
    exact ⟨x, _, I2, r, q od⟩
variable {G : Gx}
section
variable {σ : St} {H : Hp} {L : List (Asn G)} {te : TE} {Q : VK} {v : V} {α : Type}
theorem c_fz (h : te σ H (fzK Q)) : tFz te σ H Q := h
theorem fz_no (h : Q v H) : fzK Q v H := .inl h
theorem ev_fz (h : Ev te σ H v) : Ev (tFz te) σ H v := fun Q q => h _ (.inl q)
/-- a locked list: a value -/
instance imList [Im G α] : Im G (List α) := ⟨fun H v xs => ∃ a vs, v = .ref a ∧ (∃ o, H a = some (.frz o (.lst vs))) ∧ imL (G := G) H vs xs,
  fun ⟨a, vs, e, ⟨o, h⟩, m⟩ s => ⟨a, vs, e, ⟨o, s.1 a _ h rfl⟩, m.st s⟩⟩
theorem imPl [Im G α] {a : Addr} {xs : List α} (h : Im.im G H (.ref a) xs) : ∃ vs, SqL G.K H a vs ∧ imL (G := G) H vs xs := by
  obtain ⟨b, vs, e, ⟨o, h⟩, m⟩ := h
  cases e
  exact ⟨vs, .inl (.inr ⟨o, h⟩), m⟩
theorem imPlF [Fv G α] {a : Addr} {xs : List α} (h : Im.im G H (.ref a) xs) : SqL G.K H a (xs.map (Fv.enc G)) := by
  obtain ⟨vs, e, m⟩ := imPl h
  rw [imL.flat.mp m] at e
  exact e
/-- the i-th thing is dropped, the rest stays while its cell changes -/
theorem Sep.drop1 {a : Addr} {o o' : HO} {M : List (Asn G)} (h : Sep H (cell a o :: M)) (kd : kindOf o' = kindOf o) : Sep (upd H a o') M := by
  obtain ⟨fp, ⟨f1, f2, e, ⟨e1, ho⟩, k⟩, h2, h3⟩ := h
  subst e1; subst e
  have nd : ¬ a ∈ f2 := (List.nodup_cons.mp h2).1
  obtain ⟨u, hu, nu⟩ := h3 a (by simp)
  have eu : u = o := by rw [ho] at hu; cases hu; rfl
  have st : Stab G H (upd H a o') := stab_put hu nu (by rw [eu]; exact kd)
  refine ⟨f2, k.loc (fun b m => upd_ne fun z => nd (z ▸ m)) st, (List.nodup_cons.mp h2).2, fun b m => ?_⟩
  obtain ⟨x, hx, nx⟩ := h3 b (by simp [m])
  exact ⟨x, by rw [upd_ne (fun z => nd (by rw [← z]; exact m))]; exact hx, nx⟩
theorem fz_yes [Im G α] {i : Nat} {a : Addr} {xs : List α} (hS : Sep H L) (e : L[i]? = some (lstA a xs)) (k : ∀ H', Sep H' (imA (.ref a) xs :: L.eraseIdx i) → Q (.ref a) H') : fzK Q (.ref a) H := by
  obtain ⟨vs, m, h1⟩ := hS.openL e
  have h0 := h1.getCell (get_set e)
  refine .inr ⟨a, .lst vs, rfl, h0, True.intro, fun o => k _ ?_⟩
  have h2 := h1.perm (pull_perm (get_set (y := cell (G := G) a (.lst vs)) e))
  have e3 : (L.set i (cell a (.lst vs))).eraseIdx i = L.eraseIdx i := by simp [List.eraseIdx_set_eq]
  rw [e3] at h2
  obtain ⟨fp, ⟨f1, f2, _, ⟨ef, _⟩, _⟩, nd0, nper⟩ := id h2
  have nu : per G (.lst vs) = false := rfl
  have st : Stab G H (upd H a (.frz o (.lst vs))) := stab_put h0 nu rfl
  have h4 := h2.drop1 (o' := .frz o (.lst vs)) rfl
  exact h4.addIm ⟨a, vs, rfl, ⟨o, upd_same⟩, m.st st⟩
end
/-! ### tuples -/
structure T3 (α β γ : Type) where
  a : α
  b : β
  c : γ
  deriving DecidableEq, Repr
structure T4 (α β γ δ : Type) where
  a : α
  b : β
  c : γ
  d : δ
  deriving DecidableEq, Repr
structure T5 (α β γ δ ε : Type) where
  a : α
  b : β
  c : γ
  d : δ
  e : ε
  deriving DecidableEq, Repr
structure T1 (α : Type) where
  a : α
  deriving DecidableEq, Repr
section
variable {α β γ δ ε : Type} [Im G α] [Im G β] [Im G γ] [Im G δ] [Im G ε] {H H' : Hp} {a : Addr} {u1 u2 u3 u4 u5 : V}
instance imT1 : Im G (T1 α) := ⟨fun H v x => ∃ a u1, v = .ref a ∧ H a = some (.tup [u1]) ∧ Im.im G H u1 x.a,
  fun ⟨a, u1, e, h, i1⟩ s => ⟨a, u1, e, s.1 a _ h rfl, Im.st i1 s⟩⟩
instance imT2 : Im G (α × β) := ⟨fun H v x => ∃ a u1 u2, v = .ref a ∧ H a = some (.tup [u1, u2]) ∧ Im.im G H u1 x.1 ∧ Im.im G H u2 x.2,
  fun ⟨a, u1, u2, e, h, i1, i2⟩ s => ⟨a, u1, u2, e, s.1 a _ h rfl, Im.st i1 s, Im.st i2 s⟩⟩
instance imT3 : Im G (T3 α β γ) := ⟨fun H v x => ∃ a u1 u2 u3, v = .ref a ∧ H a = some (.tup [u1, u2, u3]) ∧ Im.im G H u1 x.a ∧ Im.im G H u2 x.b ∧ Im.im G H u3 x.c,
  fun ⟨a, u1, u2, u3, e, h, i1, i2, i3⟩ s => ⟨a, u1, u2, u3, e, s.1 a _ h rfl, Im.st i1 s, Im.st i2 s, Im.st i3 s⟩⟩
instance imT4 : Im G (T4 α β γ δ) := ⟨fun H v x => ∃ a u1 u2 u3 u4, v = .ref a ∧ H a = some (.tup [u1, u2, u3, u4]) ∧ Im.im G H u1 x.a ∧ Im.im G H u2 x.b ∧ Im.im G H u3 x.c ∧ Im.im G H u4 x.d,
  fun ⟨a, u1, u2, u3, u4, e, h, i1, i2, i3, i4⟩ s => ⟨a, u1, u2, u3, u4, e, s.1 a _ h rfl, Im.st i1 s, Im.st i2 s, Im.st i3 s, Im.st i4 s⟩⟩
instance imT5 : Im G (T5 α β γ δ ε) := ⟨fun H v x => ∃ a u1 u2 u3 u4 u5, v = .ref a ∧ H a = some (.tup [u1, u2, u3, u4, u5]) ∧ Im.im G H u1 x.a ∧ Im.im G H u2 x.b ∧ Im.im G H u3 x.c ∧ Im.im G H u4 x.d ∧ Im.im G H u5 x.e,
  fun ⟨a, u1, u2, u3, u4, u5, e, h, i1, i2, i3, i4, i5⟩ s => ⟨a, u1, u2, u3, u4, u5, e, s.1 a _ h rfl, Im.st i1 s, Im.st i2 s, Im.st i3 s, Im.st i4 s, Im.st i5 s⟩⟩
theorem im1 {x : T1 α} (h : Im.im G H (.ref a) x) : ∃ u1, H a = some (.tup [u1]) ∧ Im.im G H u1 x.a := by
  obtain ⟨b, u1, e, h⟩ := h; cases e; exact ⟨u1, h⟩
theorem im2 {x : α × β} (h : Im.im G H (.ref a) x) : ∃ u1 u2, H a = some (.tup [u1, u2]) ∧ Im.im G H u1 x.1 ∧ Im.im G H u2 x.2 := by
  obtain ⟨b, u1, u2, e, h⟩ := h; cases e; exact ⟨u1, u2, h⟩
theorem im3 {x : T3 α β γ} (h : Im.im G H (.ref a) x) : ∃ u1 u2 u3, H a = some (.tup [u1, u2, u3]) ∧ Im.im G H u1 x.a ∧ Im.im G H u2 x.b ∧ Im.im G H u3 x.c := by
  obtain ⟨b, u1, u2, u3, e, h⟩ := h; cases e; exact ⟨u1, u2, u3, h⟩
theorem im4 {x : T4 α β γ δ} (h : Im.im G H (.ref a) x) : ∃ u1 u2 u3 u4, H a = some (.tup [u1, u2, u3, u4]) ∧ Im.im G H u1 x.a ∧ Im.im G H u2 x.b ∧ Im.im G H u3 x.c ∧ Im.im G H u4 x.d := by
  obtain ⟨b, u1, u2, u3, u4, e, h⟩ := h; cases e; exact ⟨u1, u2, u3, u4, h⟩
theorem im5 {x : T5 α β γ δ ε} (h : Im.im G H (.ref a) x) : ∃ u1 u2 u3 u4 u5, H a = some (.tup [u1, u2, u3, u4, u5]) ∧ Im.im G H u1 x.a ∧ Im.im G H u2 x.b ∧ Im.im G H u3 x.c ∧ Im.im G H u4 x.d ∧ Im.im G H u5 x.e := by
  obtain ⟨b, u1, u2, u3, u4, u5, e, h⟩ := h; cases e; exact ⟨u1, u2, u3, u4, u5, h⟩
theorem mk1 {x : T1 α} (i1 : Im.im G H u1 x.a) (h : H' a = some (.tup [u1])) (s : Stab G H H') : Im.im G H' (.ref a) x := ⟨a, u1, rfl, h, Im.st i1 s⟩
theorem mk2 {x : α × β} (i1 : Im.im G H u1 x.1) (i2 : Im.im G H u2 x.2) (h : H' a = some (.tup [u1, u2])) (s : Stab G H H') : Im.im G H' (.ref a) x := ⟨a, u1, u2, rfl, h, Im.st i1 s, Im.st i2 s⟩
theorem mk3 {x : T3 α β γ} (i1 : Im.im G H u1 x.a) (i2 : Im.im G H u2 x.b) (i3 : Im.im G H u3 x.c) (h : H' a = some (.tup [u1, u2, u3])) (s : Stab G H H') : Im.im G H' (.ref a) x := ⟨a, u1, u2, u3, rfl, h, Im.st i1 s, Im.st i2 s, Im.st i3 s⟩
theorem mk4 {x : T4 α β γ δ} (i1 : Im.im G H u1 x.a) (i2 : Im.im G H u2 x.b) (i3 : Im.im G H u3 x.c) (i4 : Im.im G H u4 x.d) (h : H' a = some (.tup [u1, u2, u3, u4])) (s : Stab G H H') : Im.im G H' (.ref a) x := ⟨a, u1, u2, u3, u4, rfl, h, Im.st i1 s, Im.st i2 s, Im.st i3 s, Im.st i4 s⟩
theorem mk5 {x : T5 α β γ δ ε} (i1 : Im.im G H u1 x.a) (i2 : Im.im G H u2 x.b) (i3 : Im.im G H u3 x.c) (i4 : Im.im G H u4 x.d) (i5 : Im.im G H u5 x.e) (h : H' a = some (.tup [u1, u2, u3, u4, u5])) (s : Stab G H H') : Im.im G H' (.ref a) x :=
  ⟨a, u1, u2, u3, u4, u5, rfl, h, Im.st i1 s, Im.st i2 s, Im.st i3 s, Im.st i4 s, Im.st i5 s⟩
end
class IsRef (G : Gx) (α : Type) [Im G α] : Prop where
  isref : ∀ {H : Hp} {v : V} {x : α}, Im.im G H v x → ∃ a, v = .ref a
theorem isref {α : Type} [Im G α] [IsRef G α] {H : Hp} {v : V} {x : α} (h : Im.im G H v x) : ∃ a, v = .ref a := IsRef.isref h
section
variable {α β γ δ ε : Type} [Im G α] [Im G β] [Im G γ] [Im G δ] [Im G ε]
instance : IsRef G (List α) := ⟨fun h => by obtain ⟨a, _, e, _⟩ := h; exact ⟨a, e⟩⟩
instance : IsRef G (T1 α) := ⟨fun h => by obtain ⟨a, _, e, _⟩ := h; exact ⟨a, e⟩⟩
instance : IsRef G (α × β) := ⟨fun h => by obtain ⟨a, _, _, e, _⟩ := h; exact ⟨a, e⟩⟩
instance : IsRef G (T3 α β γ) := ⟨fun h => by obtain ⟨a, _, _, _, e, _⟩ := h; exact ⟨a, e⟩⟩
instance : IsRef G (T4 α β γ δ) := ⟨fun h => by obtain ⟨a, _, _, _, _, e, _⟩ := h; exact ⟨a, e⟩⟩
instance : IsRef G (T5 α β γ δ ε) := ⟨fun h => by obtain ⟨a, _, _, _, _, _, e, _⟩ := h; exact ⟨a, e⟩⟩
end
section
variable {σ σ' : St} {H : Hp} {L : List (Asn G)} {D : Ends} {Q : VK} {te ta tb : TE} {α : Type} {K : PySem.W.Frag} {v : V}
/-- a tuple is laid -/
theorem k_tupP [Im G α] {vs : List V} {x : α} (hS : Sep H L) (mk : ∀ (H' : Hp) (p : Addr), H' p = some (.tup vs) → Stab G H H' → Im.im G H' (.ref p) x) (hl : vs.length ≤ sizeLine)
    (k : ∀ p H', Sep H' (imA (.ref p) x :: L) → Q (.ref p) H') : tupK Q vs H :=
  ⟨hl, fun p hp => k p _ ((hS.more (same_new hp)).addIm (mk _ p upd_same (.of_same (same_new hp))))⟩
theorem sqT_of {a : Addr} {us : List V} (h : H a = some (.tup us)) : SqT K H a us := SqT.of h
theorem ev_ixT {a : Addr} {i : Int} {us : List V} (ha : Ev ta σ H (.ref a)) (hb : Ev tb σ H (.int i)) (h : H a = some (.tup us)) (e : atI us i = some v) : Ev (tOp (rIxT K) ta tb) σ H v :=
  ev_op ha hb fun _ q => ⟨a, us, i, v, rfl, rfl, SqT.of h, e, q⟩
theorem r_ixT {a : Addr} {i : Int} {us : List V} (h : H a = some (.tup us)) (e : atI us i = some v) (q : Q v H) : rIxT K (.ref a) (.int i) H Q := ⟨a, us, i, v, rfl, rfl, SqT.of h, e, q⟩
/-- a field -/
theorem ev_fld {a C dx : Addr} {fs : List (Str × V)} {f : Str} (ha : Ev ta σ H (.ref a)) (h : H a = some (.ins C dx fs)) (c : Cls K C) (n : NoAttr K C f) (l : fs.lookup f = some v) : Ev (tFld K ta f) σ H v :=
  fun _ q => ha _ ⟨a, C, dx, fs, v, rfl, h, c, n, l, q⟩
end
end Ml

namespace Ml
open PySem L2
/-! ### things of any sort -/
inductive Any where
  | str (s : Str) | int (i : Int) | bl (b : Bool) | non | tup (xs : List Any) | lst (xs : List Any) | oth (k : Nat)
section
variable (G : Gx)
mutual
def imAny (H : Hp) : V → Any → Prop
  | v, .str s => v = .str s
  | v, .int i => v = .int i
  | v, .bl b => v = .bl b
  | v, .non => v = .non
  | v, .tup xs => ∃ a vs, v = .ref a ∧ H a = some (.tup vs) ∧ imAnyL H vs xs
  | v, .lst xs => ∃ a vs, v = .ref a ∧ (∃ o, H a = some (.frz o (.lst vs))) ∧ imAnyL H vs xs
  | v, .oth k => ∃ a o, v = .ref a ∧ H a = some o ∧ kindOf o = k ∧ (k = 0 ∨ k = 1)
def imAnyL (H : Hp) : List V → List Any → Prop
  | [], [] => True
  | v :: vs, x :: xs => imAny H v x ∧ imAnyL H vs xs
  | _, _ => False
end
variable {G} {H H' : Hp}
mutual
theorem imAny.st : ∀ {v : V} {x : Any}, imAny H v x → Stab G H H' → imAny H' v x
  | v, .str s, h, _ => by rw [imAny] at h ⊢; exact h
  | v, .int i, h, _ => by rw [imAny] at h ⊢; exact h
  | v, .bl b, h, _ => by rw [imAny] at h ⊢; exact h
  | v, .non, h, _ => by rw [imAny] at h ⊢; exact h
  | v, .tup xs, h, s => by
    rw [imAny] at h ⊢
    obtain ⟨a, vs, e, g, m⟩ := h
    exact ⟨a, vs, e, s.1 a _ g rfl, imAnyL.st m s⟩
  | v, .lst xs, h, s => by
    rw [imAny] at h ⊢
    obtain ⟨a, vs, e, ⟨o, g⟩, m⟩ := h
    exact ⟨a, vs, e, ⟨o, s.1 a _ g rfl⟩, imAnyL.st m s⟩
  | v, .oth k, h, s => by
    rw [imAny] at h ⊢
    obtain ⟨a, o, e, g, q, z⟩ := h
    obtain ⟨o', g', q'⟩ := s.2 a o g
    exact ⟨a, o', e, g', q'.trans q, z⟩
theorem imAnyL.st : ∀ {vs : List V} {xs : List Any}, imAnyL H vs xs → Stab G H H' → imAnyL H' vs xs
  | [], [], h, _ => h
  | v :: vs, x :: xs, h, s => by
    rw [imAnyL] at h ⊢
    exact ⟨imAny.st h.1 s, imAnyL.st h.2 s⟩
  | [], _ :: _, h, _ => by rw [imAnyL] at h; exact h.elim; all_goals simp
  | _ :: _, [], h, _ => by rw [imAnyL] at h; exact h.elim; all_goals simp
end
instance imAnyI : Im G Any := ⟨fun H v x => imAny H v x, fun h s => imAny.st h s⟩
end
variable {G : Gx} {H : Hp} {L : List (Asn G)}
theorem any_str {v : V} {s : Str} : Im.im G H v (Any.str s) ↔ v = .str s := by show imAny H v (.str s) ↔ _; rw [imAny]
theorem any_int {v : V} {s : Int} : Im.im G H v (Any.int s) ↔ v = .int s := by show imAny H v (.int s) ↔ _; rw [imAny]
theorem any_bl {v : V} {s : Bool} : Im.im G H v (Any.bl s) ↔ v = .bl s := by show imAny H v (.bl s) ↔ _; rw [imAny]
theorem any_non {v : V} : Im.im G H v Any.non ↔ v = .non := by show imAny H v .non ↔ _; rw [imAny]
theorem imAnyL_eq : ∀ {vs : List V} {xs : List Any}, imAnyL H vs xs ↔ imL (G := G) H vs xs
  | [], [] => by rw [imAnyL]; exact Iff.rfl
  | v :: vs, x :: xs => by
    rw [imAnyL]
    exact and_congr_right fun _ => imAnyL_eq (vs := vs) (xs := xs)
  | [], _ :: _ => ⟨fun h => by rw [imAnyL] at h; exact h.elim; all_goals simp, fun h => h.elim⟩
  | _ :: _, [] => ⟨fun h => by rw [imAnyL] at h; exact h.elim; all_goals simp, fun h => h.elim⟩
theorem any_tup {v : V} {xs : List Any} : Im.im G H v (Any.tup xs) ↔ ∃ a vs, v = .ref a ∧ H a = some (.tup vs) ∧ imL (G := G) H vs xs := by
  show imAny H v (.tup xs) ↔ _
  rw [imAny]
  exact exists_congr fun a => exists_congr fun vs => and_congr_right fun _ => and_congr_right fun _ => imAnyL_eq
theorem any_lsts {v : V} {xs : List Any} : Im.im G H v (Any.lst xs) ↔ ∃ a vs, v = .ref a ∧ (∃ o, H a = some (.frz o (.lst vs))) ∧ imL (G := G) H vs xs := by
  show imAny H v (.lst xs) ↔ _
  rw [imAny]
  exact exists_congr fun a => exists_congr fun vs => and_congr_right fun _ => and_congr_right fun _ => imAnyL_eq
theorem any_oth {v : V} {k : Nat} : Im.im G H v (Any.oth k) ↔ ∃ a o, v = .ref a ∧ H a = some o ∧ kindOf o = k ∧ (k = 0 ∨ k = 1) := by
  show imAny H v (.oth k) ↔ _
  rw [imAny]
def Any.ty : Any → String
  | .str _ => "str"
  | .int _ => "int"
  | .bl _ => "bool"
  | .non => "NoneType"
  | .tup _ => "tuple"
  | .lst _ => "list"
  | .oth 0 => "list"
  | .oth _ => "dict"
theorem ty_of_kind {K : PySem.W.Frag} {a : Addr} {o : HO} {k : Nat} (h : H a = some o) (e : kindOf o = k) (z : k = 0 ∨ k = 1) : TyX K H (.ref a) (.type (Any.oth k).ty) := by
  rcases z with rfl | rfl
  · cases o with
    | lst xs => exact .base (.lst h)
    | frz o x => cases x with
      | lst xs => exact .base (.frz h)
      | _ => cases e
    | _ => cases e
  · cases o with
    | dK xs => exact .base (.dK h)
    | dT xs => exact .base (.dT h)
    | frz o x => cases x with
      | lst xs => cases e
      | _ => cases e
    | _ => cases e
theorem ty_any {v : V} {x : Any} (h : Im.im G H v x) : TyX G.K H v (.type x.ty) := by
  cases x with
  | str s => rw [any_str] at h; subst h; exact .base (.str s)
  | int s => rw [any_int] at h; subst h; exact .base (.int s)
  | bl s => rw [any_bl] at h; subst h; exact .base (.bl s)
  | non => rw [any_non] at h; subst h; exact .base .non
  | tup xs => rw [any_tup] at h; obtain ⟨a, vs, rfl, g, _⟩ := h; exact .base (.tup g)
  | lst xs => rw [any_lsts] at h; obtain ⟨a, vs, rfl, ⟨o, g⟩, _⟩ := h; exact .base (.frz g)
  | oth k => rw [any_oth] at h; obtain ⟨a, o, rfl, g, q, z⟩ := h; exact ty_of_kind g q z
/-- isinstance of a plain type -/
def Any.is (x : Any) (t : String) : Bool := x.ty == t || (x.ty == "bool" && t == "int")
theorem any_kit (x : Any) (t : String) (ht : t ∈ ["str", "int", "bool", "tuple", "list", "dict"]) : kitB x.ty t = some (x.is t) := by
  have : ∀ u, u ∈ ["str", "int", "bool", "tuple", "list", "dict", "NoneType"] → ∀ t, t ∈ ["str", "int", "bool", "tuple", "list", "dict"] → kitB u t = some (u == t || (u == "bool" && t == "int")) := by decide +kernel
  refine this _ ?_ t ht
  unfold Any.ty
  split <;> decide
theorem ev_isAny {σ : St} {ta tb : TE} {v : V} {x : Any} {t : String} (ha : Ev ta σ H v) (hb : Ev tb σ H (.ty t)) (h : Im.im G H v x) (ht : t ∈ ["str", "int", "bool", "tuple", "list", "dict"]) : Ev (tCB (rIsi G.K) (tCons ta (tCons tb tNil))) σ H (.bl (x.is t)) :=
  ev_isi ha hb (ty_any h) (any_kit x t ht)
end Ml
namespace Ml
open PySem L2
variable {G : Gx} {H : Hp} {L : List (Asn G)} {ρ : Type} {q : ρ → Prop} {e : Exc → Prop} {Q : VK} {σ : St}
def Any.asStr : Any → R Str
  | .str s => .ok s
  | _ => .bad
def Any.asInt : Any → R Int
  | .int s => .ok s
  | _ => .bad
def Any.asBl : Any → R Bool
  | .bl s => .ok s
  | _ => .bad
def Any.asTup : Any → R (List Any)
  | .tup s => .ok s
  | _ => .bad
theorem wp_asStr {x : Any} {f : Str → R ρ} (h : R.wp (x.asStr.bind f) q e) : ∃ s, x = .str s ∧ R.wp (f s) q e := by
  cases x with
  | str s => exact ⟨s, rfl, h⟩
  | _ => exact h.elim
theorem wp_asInt {x : Any} {f : Int → R ρ} (h : R.wp (x.asInt.bind f) q e) : ∃ s, x = .int s ∧ R.wp (f s) q e := by
  cases x with
  | int s => exact ⟨s, rfl, h⟩
  | _ => exact h.elim
theorem wp_asBl {x : Any} {f : Bool → R ρ} (h : R.wp (x.asBl.bind f) q e) : ∃ s, x = .bl s ∧ R.wp (f s) q e := by
  cases x with
  | bl s => exact ⟨s, rfl, h⟩
  | _ => exact h.elim
theorem wp_asTup {x : Any} {f : List Any → R ρ} (h : R.wp (x.asTup.bind f) q e) : ∃ s, x = .tup s ∧ R.wp (f s) q e := by
  cases x with
  | tup s => exact ⟨s, rfl, h⟩
  | _ => exact h.elim
theorem v_str {v : V} {x : Any} {s : Str} (h : Im.im G H v x) (e : x = .str s) : v = .str s := any_str.mp (e ▸ h)
theorem v_int {v : V} {x : Any} {s : Int} (h : Im.im G H v x) (e : x = .int s) : v = .int s := any_int.mp (e ▸ h)
theorem v_bl {v : V} {x : Any} {s : Bool} (h : Im.im G H v x) (e : x = .bl s) : v = .bl s := any_bl.mp (e ▸ h)
theorem any_lst {α : Type} [Im G α] {i : Nat} {a : Addr} {xs : List α} (hS : Sep H L) (e : L[i]? = some (lstA a xs)) : Im.im G H (.ref a) (Any.oth 0) := by
  obtain ⟨vs, h, _⟩ := hS.lst e
  exact any_oth.mpr ⟨a, _, rfl, h, rfl, .inl rfl⟩
theorem any_dict {κ β : Type} [DecidableEq κ] [Kx κ] [Im G β] {i : Nat} {a : Addr} {xs : List (κ × β)} (hS : Sep H L) (e : L[i]? = some (dictA a xs)) : Im.im G H (.ref a) (Any.oth 1) := by
  obtain ⟨vs, h, _⟩ := hS.dict e
  exact any_oth.mpr ⟨a, _, rfl, h, rfl, .inr rfl⟩
/-- a tuple, of things of any sort -/
theorem k_tupA {vs : List V} {xs : List Any} (hS : Sep H L) (m : imL (G := G) H vs xs) (hl : vs.length ≤ sizeLine) (k : ∀ p H', Sep H' (imA (.ref p) (Any.tup xs) :: L) → Q (.ref p) H') :
    tupK Q vs H :=
  ⟨hl, fun p hp => k p _ ((hS.more (same_new hp)).addIm (any_tup.mpr ⟨p, vs, rfl, upd_same, m.st (.of_same (same_new hp))⟩))⟩
/-- an item, of a list of things that stay -/
theorem k_ixL {α : Type} [Im G α] {n : Nat} {a : Addr} {xs : List α} {i : Int} {x : α} (hS : Sep H L) (e : L[n]? = some (lstA a xs)) (h : atI xs i = some x) (k : ∀ v, Sep H (imA v x :: L) → Q v H) : rIxL G.K (.ref a) (.int i) H Q := by
  obtain ⟨vs, hp, m⟩ := hS.lst e
  obtain ⟨v, hv, hi⟩ := atI_im m h
  exact ⟨a, vs, i, v, rfl, rfl, .inl (.inl hp), hv, k v (hS.addIm hi)⟩
end Ml


namespace Ml
open PySem L2
variable {G : Gx}
/-! ### data as it is compared: lists and tuples of such -/
section
variable {α β γ δ ε : Type} [Lay α] [Lay β] [Lay γ] [Lay δ] [Lay ε]
instance layList : Lay (List α) := ⟨layAllB⟩
instance layT1 : Lay (T1 α) := ⟨fun x => Lay.lay x.a⟩
instance layT2 : Lay (α × β) := ⟨fun x => Lay.lay x.1 && Lay.lay x.2⟩
instance layT3 : Lay (T3 α β γ) := ⟨fun x => Lay.lay x.a && (Lay.lay x.b && Lay.lay x.c)⟩
instance layT4 : Lay (T4 α β γ δ) := ⟨fun x => Lay.lay x.a && (Lay.lay x.b && (Lay.lay x.c && Lay.lay x.d))⟩
instance layT5 : Lay (T5 α β γ δ ε) := ⟨fun x => Lay.lay x.a && (Lay.lay x.b && (Lay.lay x.c && (Lay.lay x.d && Lay.lay x.e)))⟩
end
section
variable {α β γ δ ε : Type} [Im G α] [DecidableEq α] [Lay α] [Pd G α] [Im G β] [DecidableEq β] [Lay β] [Pd G β] [Im G γ] [DecidableEq γ] [Lay γ] [Pd G γ] [Im G δ] [DecidableEq δ] [Lay δ] [Pd G δ] [Im G ε] [DecidableEq ε] [Lay ε] [Pd G ε]
instance pdList : Pd G (List α) where
  pd := fun xs => .list (xs.map (Pd.pd G))
  dep := Pd.dep G α + 1
  dp := fun {H v x} h => by
    obtain ⟨a, vs, rfl, ⟨o, g⟩, m⟩ := h
    exact .lst (.inl (.inr ⟨o, g⟩)) (dpAll m)
  lay_ok := fun x h => layAll (G := G) h
  dep_ok := fun x => Nat.succ_le_succ (depAll (G := G) x)
  eqv := fun x y => eqvAll_is x y
theorem canTup (ds : List PyData) : (PyData.tuple ds).canLay0 = PyData.canLayAll0 ds := rfl
theorem canCons (d : PyData) (ds : List PyData) : PyData.canLayAll0 (d :: ds) = (d.canLay0 && PyData.canLayAll0 ds) := rfl
theorem canNil : PyData.canLayAll0 [] = true := rfl
theorem depTup (ds : List PyData) : (PyData.tuple ds).depth = PyData.depthAll ds + 1 := rfl
theorem depCons (d : PyData) (ds : List PyData) : PyData.depthAll (d :: ds) = max d.depth (PyData.depthAll ds) := rfl
theorem depNil : PyData.depthAll [] = 0 := rfl
theorem eqvTup (ds es : List PyData) : PyData.eqv (.tuple ds) (.tuple es) = PyData.eqvAll ds es := rfl
theorem eqvCons (d e : PyData) (ds es : List PyData) : PyData.eqvAll (d :: ds) (e :: es) = (PyData.eqv d e && PyData.eqvAll ds es) := rfl
theorem eqvNil : PyData.eqvAll [] [] = true := rfl
instance pdT1 : Pd G (T1 α) where
  pd := fun x => .tuple [Pd.pd G x.a]
  dep := Pd.dep G α + 1
  dp := fun {H v x} h => by
    obtain ⟨a, u1, rfl, g, i1⟩ := h
    exact .tup (SqT.of g) (.cons (Pd.dp i1) .nil)
  lay_ok := fun x h => by rw [canTup, canCons, Pd.lay_ok x.a h]; rfl
  dep_ok := fun x => by
    rw [depTup, depCons, depNil]
    have := Pd.dep_ok (G := G) x.a
    omega
  eqv := fun x y => by
    rw [eqvTup, eqvCons, eqvNil, Pd.eqv]
    obtain ⟨a⟩ := x; obtain ⟨b⟩ := y
    simp
instance pdT2 : Pd G (α × β) where
  pd := fun x => .tuple [Pd.pd G x.1, Pd.pd G x.2]
  dep := max (Pd.dep G α) (Pd.dep G β) + 1
  dp := fun {H v x} h => by
    obtain ⟨a, u1, u2, rfl, g, i1, i2⟩ := h
    exact .tup (SqT.of g) (.cons (Pd.dp i1) (.cons (Pd.dp i2) .nil))
  lay_ok := fun x h => by
    have h : (Lay.lay x.1 && Lay.lay x.2) = true := h
    rw [Bool.and_eq_true] at h
    rw [canTup, canCons, canCons, Pd.lay_ok x.1 h.1, Pd.lay_ok x.2 h.2]; rfl
  dep_ok := fun x => by
    rw [depTup, depCons, depCons, depNil]
    have := Pd.dep_ok (G := G) x.1
    have := Pd.dep_ok (G := G) x.2
    omega
  eqv := fun x y => by
    rw [eqvTup, eqvCons, eqvCons, eqvNil, Pd.eqv, Pd.eqv]
    obtain ⟨a, b⟩ := x; obtain ⟨c, d⟩ := y
    simp
instance pdT3 : Pd G (T3 α β γ) where
  pd := fun x => .tuple [Pd.pd G x.a, Pd.pd G x.b, Pd.pd G x.c]
  dep := max (Pd.dep G α) (max (Pd.dep G β) (Pd.dep G γ)) + 1
  dp := fun {H v x} h => by
    obtain ⟨a, u1, u2, u3, rfl, g, i1, i2, i3⟩ := h
    exact .tup (SqT.of g) (.cons (Pd.dp i1) (.cons (Pd.dp i2) (.cons (Pd.dp i3) .nil)))
  lay_ok := fun x h => by
    have h : (Lay.lay x.a && (Lay.lay x.b && Lay.lay x.c)) = true := h
    simp only [Bool.and_eq_true] at h
    rw [canTup, canCons, canCons, canCons, Pd.lay_ok x.a h.1, Pd.lay_ok x.b h.2.1, Pd.lay_ok x.c h.2.2]; rfl
  dep_ok := fun x => by
    rw [depTup, depCons, depCons, depCons, depNil]
    have := Pd.dep_ok (G := G) x.a
    have := Pd.dep_ok (G := G) x.b
    have := Pd.dep_ok (G := G) x.c
    omega
  eqv := fun x y => by
    rw [eqvTup, eqvCons, eqvCons, eqvCons, eqvNil, Pd.eqv, Pd.eqv, Pd.eqv]
    obtain ⟨a, b, c⟩ := x; obtain ⟨d, e, f⟩ := y
    simp
instance pdT4 : Pd G (T4 α β γ δ) where
  pd := fun x => .tuple [Pd.pd G x.a, Pd.pd G x.b, Pd.pd G x.c, Pd.pd G x.d]
  dep := max (Pd.dep G α) (max (Pd.dep G β) (max (Pd.dep G γ) (Pd.dep G δ))) + 1
  dp := fun {H v x} h => by
    obtain ⟨a, u1, u2, u3, u4, rfl, g, i1, i2, i3, i4⟩ := h
    exact .tup (SqT.of g) (.cons (Pd.dp i1) (.cons (Pd.dp i2) (.cons (Pd.dp i3) (.cons (Pd.dp i4) .nil))))
  lay_ok := fun x h => by
    have h : (Lay.lay x.a && (Lay.lay x.b && (Lay.lay x.c && Lay.lay x.d))) = true := h
    simp only [Bool.and_eq_true] at h
    rw [canTup, canCons, canCons, canCons, canCons, Pd.lay_ok x.a h.1, Pd.lay_ok x.b h.2.1, Pd.lay_ok x.c h.2.2.1, Pd.lay_ok x.d h.2.2.2]; rfl
  dep_ok := fun x => by
    rw [depTup, depCons, depCons, depCons, depCons, depNil]
    have := Pd.dep_ok (G := G) x.a
    have := Pd.dep_ok (G := G) x.b
    have := Pd.dep_ok (G := G) x.c
    have := Pd.dep_ok (G := G) x.d
    omega
  eqv := fun x y => by
    rw [eqvTup, eqvCons, eqvCons, eqvCons, eqvCons, eqvNil, Pd.eqv, Pd.eqv, Pd.eqv, Pd.eqv]
    obtain ⟨a, b, c, d⟩ := x; obtain ⟨a', b', c', d'⟩ := y
    simp
instance pdT5 : Pd G (T5 α β γ δ ε) where
  pd := fun x => .tuple [Pd.pd G x.a, Pd.pd G x.b, Pd.pd G x.c, Pd.pd G x.d, Pd.pd G x.e]
  dep := max (Pd.dep G α) (max (Pd.dep G β) (max (Pd.dep G γ) (max (Pd.dep G δ) (Pd.dep G ε)))) + 1
  dp := fun {H v x} h => by
    obtain ⟨a, u1, u2, u3, u4, u5, rfl, g, i1, i2, i3, i4, i5⟩ := h
    exact .tup (SqT.of g) (.cons (Pd.dp i1) (.cons (Pd.dp i2) (.cons (Pd.dp i3) (.cons (Pd.dp i4) (.cons (Pd.dp i5) .nil)))))
  lay_ok := fun x h => by
    have h : (Lay.lay x.a && (Lay.lay x.b && (Lay.lay x.c && (Lay.lay x.d && Lay.lay x.e)))) = true := h
    simp only [Bool.and_eq_true] at h
    rw [canTup, canCons, canCons, canCons, canCons, canCons, Pd.lay_ok x.a h.1, Pd.lay_ok x.b h.2.1, Pd.lay_ok x.c h.2.2.1, Pd.lay_ok x.d h.2.2.2.1, Pd.lay_ok x.e h.2.2.2.2]; rfl
  dep_ok := fun x => by
    rw [depTup, depCons, depCons, depCons, depCons, depCons, depNil]
    have := Pd.dep_ok (G := G) x.a
    have := Pd.dep_ok (G := G) x.b
    have := Pd.dep_ok (G := G) x.c
    have := Pd.dep_ok (G := G) x.d
    have := Pd.dep_ok (G := G) x.e
    omega
  eqv := fun x y => by
    rw [eqvTup, eqvCons, eqvCons, eqvCons, eqvCons, eqvCons, eqvNil, Pd.eqv, Pd.eqv, Pd.eqv, Pd.eqv, Pd.eqv]
    obtain ⟨a, b, c, d, e⟩ := x; obtain ⟨a', b', c', d', e'⟩ := y
    simp
end
section
variable {α : Type} [Im G α] [DecidableEq α] [Lay α] [Pd G α] {H : Hp} {L : List (Asn G)} {σ : St} {ta tb : TE} {Q : VK} {v w : V} {x y : α}
theorem shapedP (h : Lay.lay x = true) (d : Pd.dep G α ≤ 64) : SeqAt.shaped (Pd.pd G x) = true := by
  unfold SeqAt.shaped
  rw [Pd.lay_ok x h, decide_eq_true (Nat.le_trans (Pd.dep_ok x) d)]; rfl
/-- the data of a list that one owns -/
theorem dpOwn {i : Nat} {a : Addr} {xs : List α} (hS : Sep H L) (e : L[i]? = some (lstA a xs)) : Dp G.K H (.ref a) (Pd.pd G xs) := by
  obtain ⟨vs, s, m⟩ := hS.sq e
  exact .lst s (dpAll m)
theorem dpRaw {a : Addr} {vs : List V} {xs : List α} (h : H a = some (.lst vs)) (m : DpAll G.K H vs (xs.map (Pd.pd G))) : Dp G.K H (.ref a) (Pd.pd G xs) := .lst (.inl (.inl h)) m
theorem ev_eqP (ha : Ev ta σ H v) (hb : Ev tb σ H w) (d1 : Dp G.K H v (Pd.pd G x)) (d2 : Dp G.K H w (Pd.pd G y)) (l1 : Lay.lay x = true) (l2 : Lay.lay y = true) (d : Pd.dep G α ≤ 64) :
    Ev (tOp (rEqD G.K) ta tb) σ H (.bl (decide (x = y))) := ev_op ha hb fun Q q => by
  refine ⟨_, _, d1, d2, shapedP l1 d, shapedP l2 d, ?_⟩
  rw [Pd.eqv]; exact q
theorem ev_neP (ha : Ev ta σ H v) (hb : Ev tb σ H w) (d1 : Dp G.K H v (Pd.pd G x)) (d2 : Dp G.K H w (Pd.pd G y)) (l1 : Lay.lay x = true) (l2 : Lay.lay y = true) (d : Pd.dep G α ≤ 64) :
    Ev (tOp (rNeD G.K) ta tb) σ H (.bl (!decide (x = y))) := ev_op ha hb fun Q q => by
  refine ⟨_, _, d1, d2, shapedP l1 d, shapedP l2 d, ?_⟩
  rw [Pd.eqv]; exact q
theorem r_eqP (d1 : Dp G.K H v (Pd.pd G x)) (d2 : Dp G.K H w (Pd.pd G y)) (l1 : Lay.lay x = true) (l2 : Lay.lay y = true) (d : Pd.dep G α ≤ 64) (q : Q (.bl (decide (x = y))) H) : rEqD G.K v w H Q :=
  ev_eqP (σ := []) (ta := tC v) (tb := tC w) ev_c ev_c d1 d2 l1 l2 d Q q
theorem r_neP (d1 : Dp G.K H v (Pd.pd G x)) (d2 : Dp G.K H w (Pd.pd G y)) (l1 : Lay.lay x = true) (l2 : Lay.lay y = true) (d : Pd.dep G α ≤ 64) (q : Q (.bl (!decide (x = y))) H) : rNeD G.K v w H Q :=
  ev_neP (σ := []) (ta := tC v) (tb := tC w) ev_c ev_c d1 d2 l1 l2 d Q q
end
/-! ### things of any sort, compared -/
mutual
def pdA : Any → PyData
  | .str s => .str s
  | .int i => .int i
  | .bl b => .bool b
  | .non => .none
  | .tup xs => .tuple (pdAL xs)
  | .lst xs => .list (pdAL xs)
  | .oth _ => .none
def pdAL : List Any → List PyData
  | [] => []
  | x :: xs => pdA x :: pdAL xs
end
mutual
def plA : Any → Bool
  | .tup xs => plAL xs
  | .lst xs => plAL xs
  | .oth _ => false
  | _ => true
def plAL : List Any → Bool
  | [] => true
  | x :: xs => plA x && plAL xs
end
section
variable {H : Hp}
mutual
theorem dpA : ∀ {v : V} {x : Any}, imAny H v x → plA x = true → Dp G.K H v (pdA x)
  | v, .str s, h, _ => by rw [imAny] at h; subst h; rw [pdA]; exact .str s
  | v, .int s, h, _ => by rw [imAny] at h; subst h; rw [pdA]; exact .int s
  | v, .bl s, h, _ => by rw [imAny] at h; subst h; rw [pdA]; exact .bl s
  | v, .non, h, _ => by rw [imAny] at h; subst h; rw [pdA]; exact .non
  | v, .tup xs, h, l => by
    rw [imAny] at h; rw [plA] at l; rw [pdA]
    obtain ⟨a, vs, rfl, g, m⟩ := h
    exact .tup (SqT.of g) (dpAL m l)
  | v, .lst xs, h, l => by
    rw [imAny] at h; rw [plA] at l; rw [pdA]
    obtain ⟨a, vs, rfl, ⟨o, g⟩, m⟩ := h
    exact .lst (.inl (.inr ⟨o, g⟩)) (dpAL m l)
  | v, .oth k, h, l => by rw [plA] at l; cases l
theorem dpAL : ∀ {vs : List V} {xs : List Any}, imAnyL H vs xs → plAL xs = true → DpAll G.K H vs (pdAL xs)
  | [], [], h, _ => by rw [pdAL]; exact .nil
  | v :: vs, x :: xs, h, l => by
    rw [imAnyL] at h; rw [plAL, Bool.and_eq_true] at l; rw [pdAL]
    exact .cons (dpA h.1 l.1) (dpAL h.2 l.2)
  | [], _ :: _, h, _ => by rw [imAnyL] at h; exact h.elim; all_goals simp
  | _ :: _, [], h, _ => by rw [imAnyL] at h; exact h.elim; all_goals simp
end
end
/-- x == y of things of any sort -/
def eqA (x y : Any) : R Bool := R.need (plA x = true ∧ plA y = true ∧ SeqAt.shaped (pdA x) = true ∧ SeqAt.shaped (pdA y) = true) (.ok (PyData.eqv (pdA x) (pdA y)))
section
variable {H : Hp} {σ : St} {ta tb : TE} {Q : VK} {v w : V} {x y : Any} {ρ : Type} {q : ρ → Prop} {e : Exc → Prop}
theorem wp_eqA {f : Bool → R ρ} (h : R.wp ((eqA x y).bind f) q e) : ∃ b, (plA x = true ∧ plA y = true ∧ SeqAt.shaped (pdA x) = true ∧ SeqAt.shaped (pdA y) = true ∧ b = PyData.eqv (pdA x) (pdA y)) ∧ R.wp (f b) q e := by
  unfold eqA R.need at h
  by_cases c : plA x = true ∧ plA y = true ∧ SeqAt.shaped (pdA x) = true ∧ SeqAt.shaped (pdA y) = true
  · rw [if_pos c] at h; exact ⟨_, ⟨c.1, c.2.1, c.2.2.1, c.2.2.2, rfl⟩, h⟩
  · rw [if_neg c] at h; exact h.elim
theorem ev_eqA {b : Bool} (ha : Ev ta σ H v) (hb : Ev tb σ H w) (i1 : Im.im G H v x) (i2 : Im.im G H w y) (h : plA x = true ∧ plA y = true ∧ SeqAt.shaped (pdA x) = true ∧ SeqAt.shaped (pdA y) = true ∧ b = PyData.eqv (pdA x) (pdA y)) :
    Ev (tOp (rEqD G.K) ta tb) σ H (.bl b) := ev_op ha hb fun Q q => by
  obtain ⟨h1, h2, h3, h4, rfl⟩ := h
  exact ⟨_, _, dpA i1 h1, dpA i2 h2, h3, h4, q⟩
theorem ev_neA {b : Bool} (ha : Ev ta σ H v) (hb : Ev tb σ H w) (i1 : Im.im G H v x) (i2 : Im.im G H w y) (h : plA x = true ∧ plA y = true ∧ SeqAt.shaped (pdA x) = true ∧ SeqAt.shaped (pdA y) = true ∧ b = PyData.eqv (pdA x) (pdA y)) :
    Ev (tOp (rNeD G.K) ta tb) σ H (.bl (!b)) := ev_op ha hb fun Q q => by
  obtain ⟨h1, h2, h3, h4, rfl⟩ := h
  exact ⟨_, _, dpA i1 h1, dpA i2 h2, h3, h4, q⟩
end
end Ml

/-! ### calls whose exceptions are wished for at the caller's slots: methods, instances -/
namespace L2
open PySem PySem.Spec PyProof.Rows
section
variable {X : Cx} {CX : CXT} {k : Nat} {f C : Addr} {fd : FuncData} {ps : List Str} {sp : Sp} {dvs : List V} {ds : List Value} {E : St → XK} {x m : Str} {p pos apos : Pos} {e o : Expr} {es : List Expr} {ta : TE} {t : TA}
def tMethSD (C : Addr) (m : Str) (sp : Sp) (dvs : List V) (E : St → XK) (ta : TE) (t : TA) : TE := fun σ H Q => ta σ H fun x H1 => ∃ a dx fs, x = .ref a ∧ H1 a = some (.ins C dx fs) ∧ fs.lookup m = none ∧
  t σ H1 fun vs H2 => sp (x :: (vs ++ dvs)) H2 Q (E σ)
def tMakeSD (C : Addr) (sp : Sp) (dvs : List V) (E : St → XK) (t : TA) : TE := fun σ H Q => t σ H fun vs H1 => ∀ x dx, H1 x = none → H1 dx = none → dx ≠ x →
  sp (.ref x :: (vs ++ dvs)) (upd (upd H1 dx (.own x)) x (.ins C dx [])) (fun v H2 => v = .non ∧ Q (.ref x) H2) (E σ)
theorem pe_call0SD (F : FnOk X.prog X.w X.K X.mg X.base CX k f fd ps sp) (hr : Room k X.A) (hg : Gl X x) (hm : X.mg x = some (.ref f)) (hk : PySem.W.keepIn X.K (.ref f) = true) (hb : Binds X.K fd ps ds) (hd : Vals dvs ds) (hx : ∀ σ, PassesAt CX X σ (E σ))
    (hdb : (x == ("__debug__" : Str)) = false := by decide) : PE X (.Call (.Name x p) [] [] pos) (tCallSD sp dvs E tNil) := by
  refine ⟨fun pins s σ H Q I h => ?_⟩
  refine wpAny_Call_Name_kw (ld_glob I hg hm ?_ hdb)
  exact PySem.W.callWith_K0 I.kIn hk (run_fnSD (us := []) F hr hb hd (hx σ) I .nil h)
theorem pe_methSD {pl : Sem Bool} (he : PE X o ta) (c : Cls X.K C) (hm : Meth X.K C m f) (F : FnOk X.prog X.w X.K X.mg X.base CX k f fd ps sp) (hr : Room k X.A) (hb : Binds X.K fd ps ds) (hd : Vals dvs ds) (hx : ∀ σ, PassesAt CX X σ (E σ)) (ha : PA X (e :: es) t)
    (hst : starEach (e :: es) X.env = (false, eval e X.env) :: starEach es X.env := by rfl) (hpl : (backTo pos (starEach es X.env)).any (·.1) = false := by rfl)
    (ht : eval (.Call (.Attribute o m apos) (e :: es) [] pos) X.env = (do
      let ov ← eval o X.env
      standAt apos.atName
      let (f, first) ← holding [ov] (getMethod ov m pl)
      callWith pos f first (backTo pos (starEach (e :: es) X.env)) (backToKw pos (keywordEach [] X.env))) := by rfl) :
    PE X (.Call (.Attribute o m apos) (e :: es) [] pos) (tMethSD C m sp dvs E ta t) := by
  refine ⟨fun pins s σ H Q I h => ?_⟩
  refine PySem.W.methodCall_KW (pl := pl) (thn (he.run pins s σ H _ I h) fun u s1 ⟨x, H1, I1, rx, a, dx, fs, ex, ea, l, q⟩ => ?_) ht
  subst ex
  obtain rfl : u = Value.ref a := rx
  refine getmeth_ok I1 ea c hm l ?_
  refine PySem.W.callWith_K (first := [.ref a]) (h₀ := X.base) I.ok.mod.kin hm.kp (thn (ha.run pos pins s1 σ H1 _ I1 q) fun us s2 ⟨vs, H2, I2, r, q2⟩ => ⟨I2.kIn, ?_⟩) hst hpl
  exact run_fnSD (us := .ref a :: us) (vs := .ref a :: vs) F hr hb hd (hx σ) I2 (.cons rfl r) q2
theorem pe_meth0SD {pl : Sem Bool} (he : PE X o ta) (c : Cls X.K C) (hm : Meth X.K C m f) (F : FnOk X.prog X.w X.K X.mg X.base CX k f fd ps sp) (hr : Room k X.A) (hb : Binds X.K fd ps ds) (hd : Vals dvs ds) (hx : ∀ σ, PassesAt CX X σ (E σ))
    (ht : eval (.Call (.Attribute o m apos) [] [] pos) X.env = (do
      let ov ← eval o X.env
      standAt apos.atName
      let (f, first) ← holding [ov] (getMethod ov m pl)
      callWith pos f first (backTo pos (starEach [] X.env)) (backToKw pos (keywordEach [] X.env))) := by rfl) :
    PE X (.Call (.Attribute o m apos) [] [] pos) (tMethSD C m sp dvs E ta tNil) := by
  refine ⟨fun pins s σ H Q I h => ?_⟩
  refine PySem.W.methodCall_KW (pl := pl) (thn (he.run pins s σ H _ I h) fun u s1 ⟨x, H1, I1, rx, a, dx, fs, ex, ea, l, q⟩ => ?_) ht
  subst ex
  obtain rfl : u = Value.ref a := rx
  refine getmeth_ok I1 ea c hm l ?_
  exact PySem.W.callWith_K0 (first := [.ref a]) I1.kIn hm.kp (run_fnSD (us := [.ref a]) (vs := [.ref a]) F hr hb hd (hx σ) I1 (.cons rfl .nil) q)
theorem run_makeSD {pins : List (Addr × Obj)} {σ : St} {H : Hp} {s : Shared} {Q : VK} {us : List Value} {vs : List V} (M : Mk X.K C f) (F : FnOk X.prog X.w X.K X.mg X.base CX k f fd ps sp) (hr : Room (k + 1) X.A) (hb : Binds X.K fd ps ds) (hd : Vals dvs ds)
    (hx : PassesAt CX X σ (E σ)) (I : Inv X pins σ H s) (r : Vals vs us)
    (h : ∀ x dx, H x = none → H dx = none → dx ≠ x → sp (.ref x :: (vs ++ dvs)) (upd (upd H dx (.own x)) x (.ins C dx [])) (fun v H2 => v = .non ∧ Q (.ref x) H2) (E σ)) :
    wpAny (model X.prog X.w) X.A (call (.ref C) us) (EP X pins σ Q) X.xe s := by
  have hq := h (s.heap.objs.size + 1) s.heap.objs.size (I.hok.fresh (Nat.le_succ _)) (I.hok.fresh (Nat.le_refl _)) (Nat.ne_of_lt (Nat.lt_succ_self _))
  have I2 := Inv.made (C := C) I
  have r2 : Vals (V.ref (s.heap.objs.size + 1) :: (vs ++ dvs)) (Value.ref (s.heap.objs.size + 1) :: (us ++ ds)) := .cons rfl (r.append hd)
  have hl : (Value.ref (s.heap.objs.size + 1) :: us ++ ds).length = ps.length := by
    have e := r2.length
    rw [F.len _ _ _ _ hq] at e
    exact e.symm
  refine wpAny_call (make_map (f := f) I.kIn M.makes M.init (beq_iff_eq.mp M.fn) (codeAny_mono (F.run _ X.stack _ _ ⟨Value.ref (s.heap.objs.size + 1) :: us, []⟩ (Value.ref (s.heap.objs.size + 1) :: (us ++ ds)) _ _ (E σ) (hr.make C us [])
    (I2.env0.make C us []) (hb _ (Value.ref (s.heap.objs.size + 1) :: us) I2.kIn hl) r2 hq) fun r s' hq' => ?_))
  cases r with
  | error e => exact hx pins _ _ e s' I2 hq'
  | ok fl =>
    cases fl with
    | ret u =>
      obtain ⟨v, H', I3, rv, ev, q3⟩ := I2.after hq'
      subst ev
      exact ⟨rv, ⟨V.ref (s.heap.objs.size + 1), H', I3, rfl, q3⟩⟩
    | next => exact False.elim hq'
    | brk => exact False.elim hq'
    | cont => exact False.elim hq'
theorem pe_makeSD (M : Mk X.K C f) (F : FnOk X.prog X.w X.K X.mg X.base CX k f fd ps sp) (hr : Room (k + 1) X.A) (hg : Gl X x) (hm : X.mg x = some (.ref C)) (hb : Binds X.K fd ps ds) (hd : Vals dvs ds) (hx : ∀ σ, PassesAt CX X σ (E σ))
    (ha : PA X (e :: es) t) (hdb : (x == ("__debug__" : Str)) = false := by decide) (he : starEach (e :: es) X.env = (false, eval e X.env) :: starEach es X.env := by rfl) (hpl : (backTo pos (starEach es X.env)).any (·.1) = false := by rfl) :
    PE X (.Call (.Name x p) (e :: es) [] pos) (tMakeSD C sp dvs E t) := by
  refine ⟨fun pins s σ H Q I h => ?_⟩
  refine wpAny_Call_Name_kw (ld_glob I hg hm ?_ hdb)
  refine PySem.W.callWith_K (h₀ := X.base) I.ok.mod.kin M.kp (thn (ha.run pos pins s σ H _ I h) fun us s1 ⟨vs, H1, I1, r, q⟩ => ⟨I1.kIn, ?_⟩) he hpl
  exact run_makeSD M F hr hb hd (hx σ) I1 r q
theorem pe_make0SD (M : Mk X.K C f) (F : FnOk X.prog X.w X.K X.mg X.base CX k f fd ps sp) (hr : Room (k + 1) X.A) (hg : Gl X x) (hm : X.mg x = some (.ref C)) (hb : Binds X.K fd ps ds) (hd : Vals dvs ds) (hx : ∀ σ, PassesAt CX X σ (E σ))
    (hdb : (x == ("__debug__" : Str)) = false := by decide) : PE X (.Call (.Name x p) [] [] pos) (tMakeSD C sp dvs E tNil) := by
  refine ⟨fun pins s σ H Q I h => ?_⟩
  refine wpAny_Call_Name_kw (ld_glob I hg hm ?_ hdb)
  exact PySem.W.callWith_K0 I.kIn M.kp (run_makeSD (us := []) M F hr hb hd (hx σ) I .nil h)
end
/-- list + list, either may be locked -/
def rCatR : R2 := fun x y H Q => ∃ l b xs zs, x = .ref l ∧ y = .ref b ∧ Rd H l (.lst xs) ∧ Rd H b (.lst zs) ∧ xs.length + zs.length ≤ sizeLine ∧ ∀ p, H p = none → Q (.ref p) (upd H p (.lst (xs ++ zs)))
theorem op_catR {X : Cx} : OpR X (binaryOp .Add) rCatR := by
  intro pins s σ H x y v u Q I rx ry h
  obtain ⟨l, b, xs, zs, rfl, rfl, hH, hB, hz, q⟩ := h
  cases rx
  cases ry
  obtain ⟨z, its, n, r, e⟩ := hH.ok I.hok
  obtain ⟨z2, its2, n2, r2, e2⟩ := hB.ok I.hok
  have hl := r.length
  have hl2 := r2.length
  refine PySem.P.add_list e e2 ?_ (by rw [List.size_toArray, List.size_toArray]; omega)
  have ea : its.toArray ++ its2.toArray = (its ++ its2).toArray := by simp
  rw [ea]
  exact ⟨.ref _, _, I.lnew (t' := s.toks) (r.append r2) (by rw [List.length_append]; omega), rfl, q _ I.fresh⟩
/-- len of a text, a list, a tuple -/
def rLenAny (K : PySem.W.Frag) : List V → Hp → VK → Prop := fun xs H Q => Ml.rLenS xs H Q ∨ Ml.rLenSq K xs H Q
theorem call_lenAny {X : Cx} : CallR X (.builtin "len") (rLenAny X.K) := by
  intro pins s σ H xs us Q I r h
  rcases h with h | h
  · exact Ml.call_lenS pins s σ H xs us Q I r h
  · exact Ml.call_lenSq pins s σ H xs us Q I r h
section
variable {P : Program} {w : World} {K : PySem.W.Frag} {mg : Str → Option Value} {base : Heap} {x qual : Str} {params : Arguments} {body : List Stmt} {scope : Scope} {dvs : List V} {kws : List (Str × V)} {f : Addr} {fd : FuncData}
theorem FunD.ok0 {N ps : List Str} {k : Nat} {sp : Sp} (F : FunD K x qual params body scope dvs kws f fd) (S : FnScope N ps scope) (len : ∀ vs H Q E, sp vs H Q E → vs.length = ps.length)
    (hbody : ∀ (cdv : Value) (A : Around) (outer : List Env) (s : Shared) (H : Hp) (vs : List V) (Q : VK) (E : XK), Room k (A.deeper (envOfC qual scope s.heap.objs.size f cdv)) → sp vs H Q E →
      ∃ t, PSs (cxOf CX0 P w K mg base N qual scope f cdv A outer s H E).nox body t ∧ t { nx := fun _ H' => Q .non H', rt := Q } (start N vs) H) : FnOk P w K mg base CX0 (k + 1) f fd ps sp :=
  F.ok S len fun cdv A outer s H vs Q E hr hsp => by
    obtain ⟨t, h, q⟩ := hbody cdv A outer s H vs Q E hr hsp
    exact ⟨t, h.nox, q⟩
end
end L2
namespace Ml
open PySem L2
/-! ### exceptions in plain programs -/
namespace R
variable {α β ρ : Type} {q : α → Prop} {e : Exc → Prop}
def noexc : R α → R α
  | .ok a => .ok a
  | _ => .bad
theorem wp_noexc {m : R α} {f : α → R β} {q : β → Prop} (h : wp ((noexc m).bind f) q e) : wp m (fun a => wp (f a) q e) (fun _ => False) := by
  cases m with
  | ok a => exact h
  | exc x => exact h.elim
  | bad => exact h.elim
def tryC : R α → (α → R β) → (Exc → R β) → R β
  | .ok a, k, _ => k a
  | .exc x, _, h => h x
  | .bad, _, _ => .bad
theorem wp_tryC {m : R α} {k : α → R β} {h : Exc → R β} {q : β → Prop} (w : wp (tryC m k h) q e) : wp m (fun a => wp (k a) q e) (fun x => wp (h x) q e) := by
  cases m <;> exact w
end R
/-- an except clause: known classes, those that it takes -/
def catchR {β : Type} (all subs : List Nat) (x : Exc) (a b : R β) : R β := if all.contains x.cls then (if subs.contains x.cls then a else b) else .bad
def contF {σ ρ β : Type} (k : σ → R β) (o : ρ → R β) : Fl σ ρ → R β
  | .go s => k s
  | .brk s => k s
  | .out r => o r
/-- an exception as it is wished for -/
def Eok (G : Gx) (x : Exc) (E : XK) (H : Hp) : Prop := E (.ref (G.cl x.cls)) none H
variable {G : Gx}
section
variable {σ σ' : St} {H : Hp} {L L' : List (Asn G)} {D : Ends} {Q : VK} {te ta tb : TE} {α β τ ρ : Type} {v w : V} {q : ρ → Prop} {e : Exc → Prop}
/-! ### lists that are read, one's own or locked -/
theorem imR [Im G α] {a : Addr} {xs : List α} (h : Im.im G H (.ref a) xs) : ∃ vs, Rd H a (.lst vs) ∧ imL (G := G) H vs xs := by
  obtain ⟨b, vs, e, ⟨o, h⟩, m⟩ := h
  cases e
  exact ⟨vs, .inr ⟨o, h⟩, m⟩
theorem Sep.rd [Im G α] (h : Sep H L) {i : Nat} {a : Addr} {xs : List α} (e : L[i]? = some (lstA a xs)) : ∃ vs, Rd H a (.lst vs) ∧ imL (G := G) H vs xs := by
  obtain ⟨vs, e, m⟩ := h.lst e
  exact ⟨vs, .inl e, m⟩
theorem rd_sq {K : PySem.W.Frag} {a : Addr} {vs : List V} (h : Rd H a (.lst vs)) : SqL K H a vs := .inl h
theorem rdF [Fv G α] {a : Addr} {xs : List α} (h : ∃ vs, SqL G.K H a vs ∧ imL (G := G) H vs xs) : SqL G.K H a (xs.map (Fv.enc G)) := by
  obtain ⟨vs, e, m⟩ := h
  rw [imL.flat.mp m] at e
  exact e
theorem imL_ints : ∀ (ns : List Int), imL (G := G) H (ns.map V.int) ns
  | [] => True.intro
  | n :: ns => ⟨rfl, imL_ints ns⟩
theorem read_script {a : Addr} {x : Script} (h : Im.im G H (.ref a) x) : ∃ vs, SqL G.K H a vs ∧ imL (G := G) H vs x.ns := ⟨_, sq_script h, imL_ints x.ns⟩
theorem k_catG [Im G α] {a b : Addr} {xs ys : List α} (hS : Sep H L) (h1 : ∃ vs, Rd H a (.lst vs) ∧ imL (G := G) H vs xs) (h2 : ∃ vs, Rd H b (.lst vs) ∧ imL (G := G) H vs ys) (z : xs.length + ys.length ≤ sizeLine)
    (k : ∀ p H', Sep H' (lstA p (xs ++ ys) :: L) → Q (.ref p) H') : rCatR (.ref a) (.ref b) H Q := by
  obtain ⟨vs, r1, m1⟩ := h1
  obtain ⟨ws, r2, m2⟩ := h2
  exact ⟨a, b, vs, ws, rfl, rfl, r1, r2, by rw [m1.len, m2.len]; exact z, fun p hp => k p _ (hS.newL hp (m1.app m2))⟩
theorem k_slG [Im G α] {a : Addr} {xs : List α} {lo hi : Option Int} (hS : Sep H L) (h : ∃ vs, SqL G.K H a vs ∧ imL (G := G) H vs xs)
    (k : ∀ p H', Sep H' (lstA p (cutL xs lo hi) :: L) → Q (.ref p) H') : rSlL G.K (.ref a) lo hi H Q := by
  obtain ⟨vs, h, m⟩ := h
  exact ⟨a, vs, rfl, h, fun p hp => k p _ (hS.newL hp (cutL_im m))⟩
theorem k_listG [Im G α] {a : Addr} {xs : List α} (hS : Sep H L) (h : ∃ vs, SqL G.K H a vs ∧ imL (G := G) H vs xs) (k : ∀ p H', Sep H' (lstA p xs :: L) → Q (.ref p) H') : rListSq G.K [.ref a] H Q := by
  obtain ⟨vs, h, m⟩ := h
  exact ⟨a, vs, rfl, .inl h, fun p hp => k p _ (hS.newL hp m)⟩
theorem k_ilG [Im G α] {a : Addr} {xs : List α} {R : It → Hp → Prop} (h : ∃ vs, SqL G.K H a vs ∧ imL (G := G) H vs xs) (k : R (Itl G.K a) H) : ilK G.K R (.ref a) H := by
  obtain ⟨vs, s, _⟩ := h
  exact ⟨a, rfl, ⟨vs, s⟩, k⟩
theorem ev_lenG [Im G α] {a : Addr} {xs : List α} (ha : Ev ta σ H (.ref a)) (h : ∃ vs, SqL G.K H a vs ∧ imL (G := G) H vs xs) : Ev (tCB (rLenSq G.K) (tCons ta tNil)) σ H (.int xs.length) := by
  obtain ⟨vs, s, m⟩ := h
  have := ev_lenL ha s
  rw [m.len] at this
  exact this
theorem k_lenG [Im G α] {a : Addr} {xs : List α} (h : ∃ vs, SqL G.K H a vs ∧ imL (G := G) H vs xs) (q : Q (.int xs.length) H) : rLenSq G.K [.ref a] H Q := by
  obtain ⟨vs, s, m⟩ := h
  exact ⟨a, vs, rfl, .inl s, by rw [m.len]; exact q⟩
theorem k_lstRaw {vs : List V} (hS : Sep H L) (z : vs.length ≤ sizeLine) (k : ∀ p H', Sep H' (cell p (.lst vs) :: L) → Q (.ref p) H') : lstK Q vs H := ⟨z, fun p hp => k p _ (hS.new hp rfl)⟩
theorem ty_plst [Im G α] {a : Addr} {xs : List α} (h : Im.im G H (.ref a) xs) : TyX G.K H (.ref a) (.type "list") := by
  obtain ⟨b, vs, e, ⟨o, h⟩, _⟩ := h
  cases e
  exact .base (.frz h)
theorem ev_inPl {x : Str} {ys : List Str} {a : Addr} (h : Im.im G H (.ref a) ys) (ha : Ev ta σ H (.str x)) (hb : Ev tb σ H (.ref a)) : Ev (tOp (rIn G.K false) ta tb) σ H (.bl (decide (x ∈ ys))) := ev_op ha hb fun Q q =>
  ⟨a, ys.map V.str, rfl, .inl (imPlF h), rfl, flat_str ys, by
    show Q (.bl (inV (.str x) (ys.map V.str))) H
    rw [inV_str]; exact q⟩
theorem ev_niPl {x : Str} {ys : List Str} {a : Addr} (h : Im.im G H (.ref a) ys) (ha : Ev ta σ H (.str x)) (hb : Ev tb σ H (.ref a)) : Ev (tOp (rIn G.K true) ta tb) σ H (.bl (!decide (x ∈ ys))) := ev_op ha hb fun Q q =>
  ⟨a, ys.map V.str, rfl, .inl (imPlF h), rfl, flat_str ys, by
    show Q (.bl (!inV (.str x) (ys.map V.str))) H
    rw [inV_str]; exact q⟩
/-- the rule on values alone -/
theorem ev_op2 {r : R2} {x y : V} (h : Ev (tOp r (tC x) (tC y)) [] H v) (q : Q v H) : r x y H Q := h Q q
theorem ev_cb2 {r : List V → Hp → VK → Prop} {x y : V} (h : Ev (tCB r (tCons (tC x) (tCons (tC y) tNil))) [] H v) (q : Q v H) : r [x, y] H Q := h Q q
/-! ### Any -/
theorem any_tupE {v : V} {x : Any} {xs : List Any} (h : Im.im G H v x) (e : x = .tup xs) : ∃ a vs, v = .ref a ∧ H a = some (.tup vs) ∧ imL (G := G) H vs xs := any_tup.mp (e ▸ h)
def lenA : Any → R Int
  | .str s => R.need (s.length ≤ sizeLine) (.ok s.length)
  | .tup xs => .ok xs.length
  | .lst xs => .ok xs.length
  | _ => .bad
theorem wp_lenA {x : Any} {f : Int → R ρ} (h : R.wp ((lenA x).bind f) q e) : ∃ n, lenA x = .ok n ∧ R.wp (f n) q e := by
  cases c : lenA x with
  | ok n => rw [c] at h; exact ⟨n, rfl, h⟩
  | exc y => exact absurd c (by cases x <;> simp [lenA, R.need] <;> split <;> simp)
  | bad => rw [c] at h; exact h.elim
theorem ev_lenA {x : Any} {n : Int} (ha : Ev ta σ H v) (h : Im.im G H v x) (hn : lenA x = .ok n) : Ev (tCB (rLenAny G.K) (tCons ta tNil)) σ H (.int n) := ev_cb (ea_cons ha ea_nil) fun Q q => by
  cases x with
  | str s =>
    rw [any_str] at h; subst h
    have hn : R.need (s.length ≤ sizeLine) (.ok (s.length : Int)) = .ok n := hn
    by_cases c : s.length ≤ sizeLine
    · rw [R.need_pos c] at hn; cases hn; exact .inl ⟨s, rfl, c, q⟩
    · unfold R.need at hn; rw [if_neg c] at hn; cases hn
  | tup xs =>
    rw [any_tup] at h
    obtain ⟨a, vs, rfl, g, m⟩ := h
    cases hn
    exact .inr ⟨a, vs, rfl, .inr (SqT.of g), by rw [m.len]; exact q⟩
  | lst xs =>
    rw [any_lsts] at h
    obtain ⟨a, vs, rfl, ⟨o, g⟩, m⟩ := h
    cases hn
    exact .inr ⟨a, vs, rfl, .inl (.inl (.inr ⟨o, g⟩)), by rw [m.len]; exact q⟩
  | _ => cases hn
/-! ### texts -/
def intR (a : Str) : R Int := match PySem.intText? a with
  | some n => R.need (a.length ≤ 640) (.ok n)
  | none => .bad
theorem wp_intR {a : Str} {f : Int → R ρ} (h : R.wp ((intR a).bind f) q e) : ∃ n, (PySem.intText? a = some n ∧ a.length ≤ 640) ∧ R.wp (f n) q e := by
  unfold intR at h
  cases c : PySem.intText? a with
  | some n =>
    rw [c] at h
    unfold R.need at h
    by_cases l : a.length ≤ 640
    · dsimp only at h; rw [if_pos l] at h; exact ⟨n, ⟨rfl, l⟩, h⟩
    · dsimp only at h; rw [if_neg l] at h; exact h.elim
  | none => rw [c] at h; exact h.elim
theorem ev_intS {a : Str} {n : Int} (ha : Ev ta σ H (.str a)) (h : PySem.intText? a = some n ∧ a.length ≤ 640) : Ev (tCB (fun xs H Q => ∃ a n, xs = [.str a] ∧ PySem.intText? a = some n ∧ a.length ≤ 640 ∧ Q (.int n) H) (tCons ta tNil)) σ H (.int n) :=
  ev_cb (ea_cons ha ea_nil) fun _ q => ⟨a, n, rfl, h.1, h.2, q⟩
def splitOk (a b : Str) : Prop := (b.length == 0) = false ∧ a.length + 2 ≤ sizeLine
instance (a b : Str) : Decidable (splitOk a b) := by unfold splitOk; infer_instance
theorem imL_strs : ∀ (ys : List Str), imL (G := G) H (ys.map V.str) ys
  | [] => True.intro
  | y :: ys => ⟨rfl, imL_strs ys⟩
theorem k_split {a b : Str} (hS : Sep H L) (h1 : Ev ta σ H (.str a)) (h2 : Ev tb σ H (.str b)) (h : splitOk a b) (k : ∀ p H', Sep H' (lstA p (Txt.split a b) :: L) → Q (.ref p) H') :
    tM1 (fun x xs H Q => ∃ a b, x = .str a ∧ xs = [.str b] ∧ (b.length == 0) = false ∧ a.length + 2 ≤ sizeLine ∧ rNewStrs (Txt.split a b) H Q) ta tb σ H Q :=
  c_m1 h1 (h2 _ ⟨a, b, rfl, rfl, h.1, h.2, fun p hp => k p _ (hS.newL hp (imL_strs _))⟩)
def zfOk (_ : Str) (i : Int) : Prop := PadOk i = true
instance (a : Str) (i : Int) : Decidable (zfOk a i) := by unfold zfOk; infer_instance
abbrev zfillT (a : Str) (i : Int) : Str := Txt.zfill a i
theorem k_zfill {a : Str} {i : Int} (h : zfOk a i) (q : Q (.str (zfillT a i)) H) : (fun (x : V) (xs : List V) (H : Hp) (Q : VK) => ∃ (a : Str) (i : Int), x = .str a ∧ xs = [.int i] ∧ PadOk i = true ∧ Q (.str (Txt.zfill a i)) H) (.str a) [.int i] H Q := ⟨a, i, rfl, rfl, h, q⟩
theorem tyStr {K : PySem.W.Frag} {a : Str} : tyV K "str" (.str a) H := rfl
/-! f-strings -/
section
variable {acc y : Str} {ts : List TE} {te : TE} {P : Str → Hp → Prop}
theorem f_fc (h : Ev te σ H (.str y)) (z : (acc ++ y).length ≤ sizeLine) (k : tJs ts (acc ++ y) σ H P) : tJs (te :: ts) acc σ H P := h _ ⟨y, rfl, z, k⟩
theorem f_fs (h : Ev te σ H (.str y)) (l : y.length ≤ sizeLine) (z : (acc ++ y).length ≤ sizeLine) (k : tJs ts (acc ++ y) σ H P) : tJs (tFmt te :: ts) acc σ H P := h _ (.inl ⟨y, rfl, l, y, rfl, z, k⟩)
theorem f_fi {i : Int} (h : Ev te σ H (.int i)) (l : i.natAbs.log2 < 1920) (z : (acc ++ Str.ofString (toString i)).length ≤ sizeLine) (k : tJs ts (acc ++ Str.ofString (toString i)) σ H P) : tJs (tFmt te :: ts) acc σ H P := h _ (.inr ⟨i, rfl, l, _, rfl, z, k⟩)
theorem f_je (k : P acc H) : tJs [] acc σ H P := k
end
/-! ### tuples: two as one, a part -/
theorem k_catT [Im G α] {a b : Addr} {us ws : List V} {x : α} (hS : Sep H L) (h1 : H a = some (.tup us)) (h2 : H b = some (.tup ws)) (n1 : us ≠ []) (n2 : ws ≠ []) (mk : ∀ (H' : Hp) (p : Addr), H' p = some (.tup (us ++ ws)) → Stab G H H' → Im.im G H' (.ref p) x)
    (hl : us.length + ws.length ≤ sizeLine) (k : ∀ p H', Sep H' (imA (.ref p) x :: L) → Q (.ref p) H') : rCatT G.K (.ref a) (.ref b) H Q :=
  ⟨a, b, us, ws, rfl, rfl, SqT.of h1, SqT.of h2, n1, hl, fun z => absurd z n2, fun _ p hp => k p _ ((hS.more (same_new hp)).addIm (mk _ p upd_same (.of_same (same_new hp))))⟩
theorem k_slT [Im G α] {a : Addr} {us ws : List V} {lo hi : Option Int} {x : α} (hS : Sep H L) (h1 : H a = some (.tup us)) (ew : cutV us lo hi = ws) (n : ¬ (HT.sIx us.length 0 lo = 0 ∧ HT.sIx us.length us.length hi = us.length))
    (mk : ∀ (H' : Hp) (p : Addr), H' p = some (.tup ws) → Stab G H H' → Im.im G H' (.ref p) x) (k : ∀ p H', Sep H' (imA (.ref p) x :: L) → Q (.ref p) H') : rSlT G.K (.ref a) lo hi H Q := by
  subst ew
  exact ⟨a, us, rfl, SqT.of h1, n, fun p hp => k p _ ((hS.more (same_new hp)).addIm (mk _ p upd_same (.of_same (same_new hp))))⟩
/-! ### popped -/
def popR (xs : List α) (i : Int) : R (Nat × α) := if -(2 ^ 63) ≤ i ∧ i < 2 ^ 63 then match seqIndex? i xs.length with
  | some j => match xs[j]? with
    | some x => .ok (j, x)
    | none => .bad
  | none => .bad else .bad
theorem wp_popR {xs : List α} {i : Int} {f : Nat × α → R ρ} (h : R.wp ((popR xs i).bind f) q e) : ∃ j x, ((-(2 ^ 63) ≤ i ∧ i < 2 ^ 63) ∧ seqIndex? i xs.length = some j ∧ xs[j]? = some x) ∧ R.wp (f (j, x)) q e := by
  unfold popR at h
  by_cases c : -(2 ^ 63) ≤ i ∧ i < 2 ^ 63
  · rw [if_pos c] at h
    cases d : seqIndex? i xs.length with
    | some j =>
      rw [d] at h
      dsimp only at h
      cases g : xs[j]? with
      | some x => rw [g] at h; exact ⟨j, x, ⟨c, rfl, g⟩, h⟩
      | none => rw [g] at h; exact h.elim
    | none => rw [d] at h; exact h.elim
  · rw [if_neg c] at h; exact h.elim
theorem imL.erase [Im G α] : ∀ {vs : List V} {xs : List α} (n : Nat), imL (G := G) H vs xs → imL (G := G) H (vs.eraseIdx n) (xs.eraseIdx n)
  | [], [], n, _ => by simp [imL]
  | v :: vs, x :: xs, 0, h => h.2
  | v :: vs, x :: xs, n + 1, h => ⟨h.1, imL.erase n h.2⟩
  | [], _ :: _, _, h => h.elim
  | _ :: _, [], _, h => h.elim
theorem k_popF [Fv G α] {n : Nat} {a : Addr} {xs : List α} {i : Int} {j : Nat} {x : α} (hS : Sep H L) (e : L[n]? = some (lstA a xs)) (h : (-(2 ^ 63) ≤ i ∧ i < 2 ^ 63) ∧ seqIndex? i xs.length = some j ∧ xs[j]? = some x)
    (e2 : L.set n (lstA a (xs.eraseIdx j)) = L') (k : ∀ H', Sep H' L' → Q (Fv.enc G x) H') : rPopAt (.ref a) [.int i] H Q := by
  obtain ⟨vs, h1, m⟩ := hS.lst e
  obtain ⟨u, hu, hm⟩ := m.get h.2.2
  rw [Fv.im_iff] at hm
  subst hm
  refine ⟨a, vs, i, j, _, rfl, rfl, h1, h.1.1, h.1.2, by rw [m.len]; exact h.2.1, hu, k _ ?_⟩
  subst e2
  exact hS.putL e (m.erase j)
/-! ### instances -/
theorem Sep.newI {C x dx : Addr} (h : Sep H L) (hx : H x = none) (hd : H dx = none) (ne : dx ≠ x) (n : ¬ G.fz C = some 0) : Sep (upd (upd H dx (.own x)) x (.ins C dx [])) (cell x (.ins C dx []) :: L) := by
  have h1 := h.more (same_new (o := HO.own x) hd)
  refine h1.new (o := .ins C dx []) (by rw [upd_ne (Ne.symm ne)]; exact hx) ?_
  show decide (G.fz C = some 0) = false
  exact decide_eq_false n
theorem c_fldG {K : PySem.W.Frag} {f : Str} (h : ta σ H fun x H1 => ∃ a C dx fs v, x = .ref a ∧ H1 a = some (.ins C dx fs) ∧ Cls K C ∧ NoAttr K C f ∧ fs.lookup f = some v ∧ Q v H1) : tFld K ta f σ H Q := h
theorem c_sfld {K : PySem.W.Frag} {f : Str} (h : tb σ H fun y H1 => ta σ H1 fun x H2 => ∃ a C dx fs, x = .ref a ∧ H2 a = some (.ins C dx fs) ∧ Cls K C ∧ NoAttr K C f ∧ fs.length < 1000 ∧ D.nx σ (upd H2 a (.ins C dx (putF f y fs)))) : sFld K ta tb f D σ H := h
theorem k_sfld {K : PySem.W.Frag} {i : Nat} {a C dx : Addr} {fs fs' : List (Str × V)} {f : Str} {y : V} (hS : Sep H L) (e : L[i]? = some (cell a (.ins C dx fs))) (c : Cls K C) (n : NoAttr K C f) (ef : putF f y fs = fs') (hl : fs.length < 1000)
    (np : per G (.ins C dx fs') = false) (eL : L.set i (cell a (.ins C dx fs')) = L') (k : ∀ H', Sep H' L' → D.nx σ H') :
    ∃ a' C' dx' fs'', V.ref a = .ref a' ∧ H a' = some (.ins C' dx' fs'') ∧ Cls K C' ∧ NoAttr K C' f ∧ fs''.length < 1000 ∧ D.nx σ (upd H a' (.ins C' dx' (putF f y fs''))) := by
  refine ⟨a, C, dx, fs, rfl, hS.getCell e, c, n, hl, ?_⟩
  rw [ef]
  refine k _ ?_
  subst eL
  exact hS.put e np rfl
theorem k_sfldP {K : PySem.W.Frag} {i : Nat} {a C dx : Addr} {fs fs' : List (Str × V)} {f : Str} {y : V} (hS : Sep H L) (e : L[i]? = some (cell a (.ins C dx fs))) (c : Cls K C) (n : NoAttr K C f) (ef : putF f y fs = fs') (hl : fs.length < 1000)
    (np : per G (.ins C dx fs') = true) (eL : L.eraseIdx i = L') (k : ∀ H', H' a = some (.ins C dx fs') → Stab G H H' → Sep H' L' → D.nx σ H') :
    ∃ a' C' dx' fs'', V.ref a = .ref a' ∧ H a' = some (.ins C' dx' fs'') ∧ Cls K C' ∧ NoAttr K C' f ∧ fs''.length < 1000 ∧ D.nx σ (upd H a' (.ins C' dx' (putF f y fs''))) := by
  refine ⟨a, C, dx, fs, rfl, hS.getCell e, c, n, hl, ?_⟩
  rw [ef]
  have h1 := hS.perm (pull_perm e)
  obtain ⟨fp, ⟨f1, f2, e0, ⟨e1, ho⟩, _⟩, _, h3⟩ := id h1
  subst e1
  obtain ⟨u, hu, nu⟩ := h3 a (by rw [e0]; simp)
  have eu : u = .ins C dx fs := by rw [ho] at hu; cases hu; rfl
  refine k _ upd_same (stab_put hu nu (by rw [eu]; rfl)) ?_
  subst eL
  exact h1.drop1 rfl
/-! ### calls, steps -/
theorem c_callSD {sp : Sp} {dvs : List V} {E : St → XK} {t : TA} (h : t σ H fun vs H1 => sp (vs ++ dvs) H1 Q (E σ)) : tCallSD sp dvs E t σ H Q := h
theorem c_meth {C : Addr} {m : Str} {sp : Sp} {dvs : List V} {E : XK} {t : TA} (h : ta σ H fun x H1 => ∃ a dx fs, x = .ref a ∧ H1 a = some (.ins C dx fs) ∧ fs.lookup m = none ∧ t σ H1 fun vs H2 => sp (x :: (vs ++ dvs)) H2 Q E) : tMeth C m sp dvs E ta t σ H Q := h
theorem c_methSD {C : Addr} {m : Str} {sp : Sp} {dvs : List V} {E : St → XK} {t : TA} (h : ta σ H fun x H1 => ∃ a dx fs, x = .ref a ∧ H1 a = some (.ins C dx fs) ∧ fs.lookup m = none ∧ t σ H1 fun vs H2 => sp (x :: (vs ++ dvs)) H2 Q (E σ)) : tMethSD C m sp dvs E ta t σ H Q := h
theorem c_make {C : Addr} {sp : Sp} {dvs : List V} {E : XK} {t : TA} (h : t σ H fun vs H1 => ∀ x dx, H1 x = none → H1 dx = none → dx ≠ x → sp (.ref x :: (vs ++ dvs)) (upd (upd H1 dx (.own x)) x (.ins C dx [])) (fun v H2 => v = .non ∧ Q (.ref x) H2) E) : tMake C sp dvs E t σ H Q := h
theorem c_makeSD {C : Addr} {sp : Sp} {dvs : List V} {E : St → XK} {t : TA} (h : t σ H fun vs H1 => ∀ x dx, H1 x = none → H1 dx = none → dx ≠ x → sp (.ref x :: (vs ++ dvs)) (upd (upd H1 dx (.own x)) x (.ins C dx [])) (fun v H2 => v = .non ∧ Q (.ref x) H2) (E σ)) : tMakeSD C sp dvs E t σ H Q := h
theorem c_retN (h : D.rt .non H) : tRetN D σ H := h
/-! ### except clauses -/
theorem w_only {K : PySem.W.Frag} {c : Value} {ts : Addr → Value → Option Addr → TS} {Wout : WX} {all subs : List Nat} {x : Exc} {β : Type} {A B : R β} {q : β → Prop} {e : Exc → Prop}
    (ex : all.contains x.cls = true → PySem.W.exmOne K (.ref (G.cl x.cls)) c = some (subs.contains x.cls)) (hm : R.wp (catchR all subs x A B) q e)
    (h1 : R.wp A q e → ∀ a, H a = none → ts a (.ref (G.cl x.cls)) none D σ H) (h2 : R.wp B q e → Wout (.ref (G.cl x.cls)) none σ H) : Eok G x (WE (wOnly K c ts Wout D) σ) H := by
  unfold catchR at hm
  by_cases c1 : all.contains x.cls = true
  · rw [if_pos c1] at hm
    refine ⟨_, ex c1, fun z => ?_, fun z => ?_⟩
    · rw [if_pos z] at hm; exact h1 hm
    · rw [z, if_neg Bool.false_ne_true] at hm; exact h2 hm
  · rw [if_neg c1] at hm; exact hm.elim
theorem w_as {K : PySem.W.Frag} {c : Value} {i : Nat} {ts : Addr → Value → Option Addr → TS} {Wout : WX} {all subs : List Nat} {x : Exc} {β : Type} {A B : R β} {q : β → Prop} {e : Exc → Prop}
    (ex : all.contains x.cls = true → PySem.W.exmOne K (.ref (G.cl x.cls)) c = some (subs.contains x.cls)) (hm : R.wp (catchR all subs x A B) q e)
    (h1 : R.wp A q e → ∀ a, H a = none → ts a (.ref (G.cl x.cls)) none { nx := fun σ' H' => D.nx (σ'.set i none) H', rt := D.rt, bk := fun σ' H' => D.bk (σ'.set i none) H', ct := fun σ' H' => D.ct (σ'.set i none) H' } (σ.set i (some (.ref a))) H)
    (h2 : R.wp B q e → Wout (.ref (G.cl x.cls)) none σ H) : Eok G x (WE (wAs K c i ts Wout D) σ) H := by
  unfold catchR at hm
  by_cases c1 : all.contains x.cls = true
  · rw [if_pos c1] at hm
    refine ⟨_, ex c1, fun z => ?_, fun z => ?_⟩
    · rw [if_pos z] at hm; exact h1 hm
    · rw [z, if_neg Bool.false_ne_true] at hm; exact h2 hm
  · rw [if_neg c1] at hm; exact hm.elim
theorem w_end {i : Nat} (e : σ.set i none = σ') (h : D.nx σ' H) : D.nx (σ.set i none) H := by rw [e]; exact h
/-! ### loops that are left -/
theorem k_forF {J : It} {g : TG} {tb : TS} {im : Hp → V → α → Prop} {xs : List α} {f : τ → α → R (Fl τ ρ)} {β : Type} {rest : τ → R β} {o : ρ → R β} {q : β → Prop} {e : Exc → Prop} {s : τ} (I : τ → L2.St → Hp → Prop)
    (w : ∀ s, Wk J (I s) im xs) (h0 : I s σ H) (hm : R.wp ((forF f xs s).bind (contF rest o)) q e)
    (turn : ∀ (s : τ) (x : α) (v : V) (σ : L2.St) (H : Hp) (q' : Fl τ ρ → Prop) (N B : L2.St → Hp → Prop), I s σ H → im H v x → R.wp (f s x) q' e → (∀ s' σ' H', q' (.go s') → I s' σ' H' → N σ' H') → (∀ s' σ' H', q' (.brk s') → I s' σ' H' → B σ' H') → (∀ r, q' (.out r) → R.wp (o r) q e) →
      g v σ H fun σ2 H2 => tb (loopD D N B) σ2 H2)
    (done : ∀ s σ H, R.wp (rest s) q e → I s σ H → D.nx σ H) : forK g tb D σ J H :=
  for_walkF (D := D) (I := I) (k := fun r => R.wp (contF rest o r) q e) w h0 (R.wp_bind hm) (fun s x v σ H q' N B hI hv hw h1 h2 h3 => turn s x v σ H q' N B hI hv hw h1 h2 h3) (fun s σ H h hI => done s σ H h hI)
theorem k_gT {K : PySem.W.Frag} {n : Nat} {t : TGs} {a : Addr} {us : List V} {P : St → Hp → Prop} (h : H a = some (.tup us)) (hl : us.length = n := by rfl) (k : t us σ H P) : gTup K n t (.ref a) σ H P := ⟨a, us, rfl, SqT.of h, hl, k⟩
theorem k_gC {i : Nat} {u : TGs} {us : List V} {P : St → Hp → Prop} (e : σ.set i (some v) = σ') (k : u us σ' H P) : gCons (gName i) u (v :: us) σ H P := ⟨v, us, rfl, by show u us (σ.set i (some v)) H P; rw [e]; exact k⟩
theorem k_gE {P : St → Hp → Prop} (k : P σ H) : gNil [] σ H P := ⟨rfl, k⟩
end
section
variable {X : Cx} (K : PySem.W.Frag) (hK : X.K = K := by rfl)
include hK
theorem catTK : OpR X (binaryOp .Add) (rCatT K) := by subst hK; exact op_catT
theorem sl_tupK : SlR X (rSlT K) := by subst hK; exact sl_tup
theorem lenAnyK : CallR X (.builtin "len") (rLenAny K) := by subst hK; exact call_lenAny
theorem pg_tupK {es : List Expr} {k : Nat} {pos : Pos} {t : TGs} {n : Nat} (hc : X.calm = true) (h : PGs X es t) (hn : (assignEach es X.env).length = n := by rfl) (hst : (assignEach es X.env).findIdx? (·.1) = none := by rfl) : PG X (.Tuple es k pos) (gTup K n t) := by
  subst hK; exact pg_tup hc h hn hst
end
end Ml

/-! ### an exception that is held, handed to a def that raises nothing -/
namespace L2
open PySem PySem.Spec PyProof.Rows
/-- what a def promises that gets the pinned exception -/
structure FnE (P : Program) (w : World) (K : PySem.W.Frag) (mg : Str → Option Value) (base : Heap) (k : Nat) (f : Addr) (fd : FuncData) (ps : List Str) (sp : Addr × Obj → Sp) : Prop where
  len : ∀ p vs H Q E, sp p vs H Q E → vs.length = ps.length
  run : ∀ (A : Around) (outer : List Env) (s : Shared) (H : Hp) (args : Args) (us : List Value) (vs : List V) (Q : VK) (E : XK) (p : Addr × Obj), L2H.RoomH k A → L2H.PinOk outer H s p → Env0 P w K mg base A outer s H → BindsTo s fd args (ps.zip us) → Vals vs us → sp p vs H Q E →
    codeAny (model P w) A (.call (.ref f) args) (CR CX0 outer P w H s Q E) s
theorem Fun.okE {P : Program} {w : World} {K : PySem.W.Frag} {mg : Str → Option Value} {base : Heap} {x qual : Str} {st : Stmt} {f : Addr} {fd : FuncData} {N ps : List Str} {k : Nat} {sp : Addr × Obj → Sp} (F : Fun K x qual st f fd) (S : FnScope N ps (defScope st)) (len : ∀ p vs H Q E, sp p vs H Q E → vs.length = ps.length)
    (hbody : ∀ (cdv : Value) (A : Around) (outer : List Env) (s : Shared) (H : Hp) (vs : List V) (Q : VK) (E : XK) (p : Addr × Obj), L2H.RoomH k (A.deeper (envOfC qual (defScope st) s.heap.objs.size f cdv)) → sp p vs H Q E →
      ∃ t, PSs (L2H.cxH CX0 P w K mg base N qual (defScope st) f cdv A outer s H E p).nox (defBody st) t ∧ t { nx := fun _ H' => Q .non H', rt := Q } (start N vs) H) : FnE P w K mg base (k + 1) f fd ps sp := by
  obtain ⟨oc, od, kV, doc, pm, an, cdv, ct, osl, rfl, lk, hcd⟩ := F.ex
  refine ⟨len, fun A outer s H args us vs Q E p hr hpin e0 hb r hsp => ?_⟩
  have hl := len _ _ _ _ _ hsp
  have KX : K.In s.heap := e0.mod.kin.keeps fun b o e => (e0.bs b o e).1
  have lim : s.heap.NoLimit := e0.mod.nolimit.keeps fun b o e => (e0.bs b o e).1
  have hkind : ∀ y ∈ ps.zip us, (defScope st).names.lookup y.1 = some .local ∨ ((defScope st).names.lookup y.1 = some .cell ∧ ((cellsFrom (s.heap.objs.size + 1) (defScope st).names []).lookup y.1).isSome = true) := fun ⟨n, v⟩ hy => by
    rcases S.par n (List.of_mem_zip hy).1 with q | q
    · exact .inl q
    · exact .inr ⟨q, PySem.W.cellsFrom_some _ _ _ (.inl q)⟩
  refine codeAny_call_function hr.depth (KX _ _ lk) rfl S.co S.gen rfl (PySem.W.codeRec_of KX hcd) (hb _ _ _ _ ?_)
  refine wpAny_newFunctionEnv_cells S.kind hkind fun env he s1 x => ?_
  subst he
  refine ⟨lim.keeps x.toInCall.keep, codeAny_func ?_⟩
  obtain ⟨t, ht, hq⟩ := hbody cdv A outer s H vs Q E p (hr.deeper _) hsp
  have I : Inv (L2H.cxH CX0 P w K mg base N qual (defScope st) f cdv A outer s H E p) [] (L2.start N vs) H s1 := L2H.inv_startH S hpin e0 hl r x
  refine wpAny_mono (ht.nox.run [] s1 (L2.start N vs) H _ I hq) (fun fl s' hs => ?_) fun e s' hs => hs
  have fin : ∀ {σ' : St} {H' : Hp} {v : V} {u : Value}, Inv (L2H.cxH CX0 P w K mg base N qual (defScope st) f cdv A outer s H E p) [] σ' H' s' → RelV v u → Q v H' → CE outer P w H s Q u s' :=
    fun {σ' H' v u} J rv q => ⟨v, H', J.os, J.bare, J.base, J.hok, rv, q⟩
  cases fl with
  | ret u =>
    obtain ⟨v, σ', H', J, rv, q⟩ := hs
    exact fin J rv q
  | next =>
    obtain ⟨σ', H', J, q⟩ := hs
    exact fin (v := V.non) (u := Value.none) J rfl q
  | brk =>
    obtain ⟨_, _, _, q⟩ := hs
    exact False.elim q
  | cont =>
    obtain ⟨_, _, _, q⟩ := hs
    exact False.elim q
section
variable {X : Cx} {k : Nat} {f : Addr} {fd : FuncData} {ps : List Str} {sp : Addr × Obj → Sp} {x : Str} {q pos : Pos} {e : Expr} {es : List Expr} {t : TA} {p : Addr × Obj}
/-- f(e), e the exception that the suite holds at a -/
def tCallE (a : Addr) (cls : Value) (d : Option Addr) (sp : Addr × Obj → Sp) (t : TA) : TE := fun σ H Q => t σ H fun vs H1 => ∀ oe, Zc cls d oe → (∃ vs, oe.data = .fields vs) → sp (a, oe) vs H1 Q E0
theorem c_callE {a : Addr} {cls : Value} {d : Option Addr} {σ : St} {H : Hp} {Q : VK} (h : t σ H fun vs H1 => ∀ oe, Zc cls d oe → (∃ vs, oe.data = .fields vs) → sp (a, oe) vs H1 Q E0) : tCallE a cls d sp t σ H Q := h
theorem pe_callE {a : Addr} {cls : Value} {d : Option Addr} {oe : Obj} (hp : (a, oe) ∈ X.pn) (hz : Zc cls d oe) (hf : ∃ vs, oe.data = .fields vs) (F : FnE X.prog X.w X.K X.mg X.base k f fd ps sp) (hr : L2H.RoomH k X.A) (hg : Gl X x) (hm : X.mg x = some (.ref f)) (hk : PySem.W.keepIn X.K (.ref f) = true) (hb : Binds X.K fd ps [])
    (ha : PA X (e :: es) t) (hdb : (x == ("__debug__" : Str)) = false := by decide) (he : starEach (e :: es) X.env = (false, eval e X.env) :: starEach es X.env := by rfl) (hpl : (backTo pos (starEach es X.env)).any (·.1) = false := by rfl) :
    PE X (.Call (.Name x q) (e :: es) [] pos) (tCallE a cls d sp t) := by
  refine ⟨fun pins s σ H Q I h => ?_⟩
  refine wpAny_Call_Name_kw (ld_glob I hg hm ?_ hdb)
  refine PySem.W.callWith_K (h₀ := X.base) I.ok.mod.kin hk (thn (ha.run pos pins s σ H _ I h) fun us s1 ⟨vs, H1, I1, r, q⟩ => ⟨I1.kIn, ?_⟩) he hpl
  have q : sp (a, oe) vs H1 Q E0 := q oe hz hf
  have hl : us.length = ps.length := by rw [← r.length]; exact F.len _ _ _ _ _ q
  have b := hb s1 us I1.kIn (by rw [List.append_nil]; exact hl)
  rw [List.append_nil] at b
  have P1 := I1.pin (a, oe) (List.mem_append_left _ hp)
  have hpin : L2H.PinOk X.stack H1 s1 (a, oe) := ⟨P1.1, P1.2.1, fun hm => (List.mem_cons.mp (I1.stkSub a hm)).elim P1.2.2.1 P1.2.2.2.1, P1.2.2.2.2⟩
  refine wpAny_call (codeAny_mono (F.run X.A X.stack s1 H1 ⟨us, []⟩ us vs Q E0 (a, oe) hr hpin I1.env0 b r q) fun r s' hq => ?_)
  cases r with
  | error e => exact hq.elim
  | ok fl =>
    cases fl with
    | ret u => exact I1.after hq
    | next => exact False.elim hq
    | brk => exact False.elim hq
    | cont => exact False.elim hq
end
/-- isinstance(e, c), e a pinned exception -/
def rIsEB (K : PySem.W.Frag) (D a : Addr) : List V → Hp → VK → Prop := fun xs H Q => ∃ (c : V) (cv : Value) (b : Bool), xs = [.ref a, c] ∧ ClsV c cv ∧ PySem.W.kitOne K (.ref D) cv = some b ∧ Q (.bl b) H
theorem call_isP {X : Cx} (K : PySem.W.Frag) {D : Addr} {p : Addr × Obj} (hp : p ∈ X.pn) (C : ExcC K D) (hz : Zc (.ref D) none p.2) (hf : ∃ vs, p.2.data = .fields vs) (hK : X.K = K := by rfl) : CallR X (.builtin "isinstance") (rIsEB K D p.1) := by
  subst hK
  intro pins s σ H xs us Q I r h
  obtain ⟨c, cv, b, rfl, hcv, e, q⟩ := h
  cases r with
  | cons rx rr =>
    cases rr with
    | cons rt rr =>
      cases rr
      cases rx
      have ec := hcv.eq rt
      subst ec
      have hget := (I.pin p (List.mem_append_left _ hp)).1
      obtain ⟨vs, hv⟩ := hf
      have J : PySem.W.InstAt s.heap p.1 p.2 D none := by
        obtain ⟨pa, ⟨oc, od, oda, osl⟩⟩ := p
        obtain ⟨h1, h2⟩ := hz
        dsimp only at h1 h2 hv hget
        subst h1 h2 hv
        exact ⟨hget, rfl, rfl, trivial⟩
      exact PySem.W.kia_one (PySem.W.handS_kitx_exc C.hg C.hk C.hs C.hd C.ha C.hn C.ht C.hm) I.kIn J e (fun z => nomatch z) fun tk => ⟨.bl b, H, I.kept (t' := tk) fun _ _ z => z, rfl, q⟩
/-- xs.count(x), over data -/
def rCountD (K : PySem.W.Frag) : V → List V → Hp → VK → Prop := fun x xs H Q => ∃ (a : Addr) (y : V) (d : PyData) (ds : List PyData), x = V.ref a ∧ xs = [y] ∧ Dp K H (V.ref a) (.list ds) ∧ Dp K H y d ∧
  SeqAt.shaped (.list ds) = true ∧ SeqAt.shaped d = true ∧ Q (.int ((ds.countP fun y => PyData.eqv y d : Nat) : Int)) H
theorem mt_countD {X : Cx} (hu : X.A.units + 65 < cLine) : MtR X "list.count" (rCountD X.K) := by
  intro pins s σ H x xs v us Q I rx rxs h
  obtain ⟨a, y, d, ds, rfl, rfl, hl, hy, sl, sd, q⟩ := h
  cases rx
  cases rxs with
  | cons ry rt =>
    rename_i uy ut
    cases rt
    obtain ⟨bs, r1⟩ := Dp.reads I d y uy hy ry
    have hxs : PyData.canLayAll0 ds = true := SeqAt.canLay_of_shaped sl
    have hroom : X.A.units + 1 + min (PyData.depthAll ds) d.depth < cLine := room_in_shaped sd hu
    cases hl with
    | lst hs ha =>
      obtain ⟨its, rv, hL⟩ := I.list hs
      obtain ⟨as, h4⟩ := Dp.readsAll I ds _ its ha rv
      exact PySem.SeqAt.count_list_data hL.1.isList h4 r1 (PyData.plainAll_of_canLay0 _ hxs) (PyData.plain_of_canLay0 _ (SeqAt.canLay_of_shaped sd)) hroom ⟨.int ((ds.countP fun y => PyData.eqv y d : Nat) : Int), H, I.tok _, ⟨_, rfl⟩, q⟩
end L2

namespace Ml
open PySem PySem.Spec PyProof.Rows L2
variable {G : Gx}
/-- an exception that is pinned -/
def ExB (G : Gx) (all : List Nat) (p : Addr × Obj) (x : Exc) : Prop := Zc (.ref (G.cl x.cls)) none p.2 ∧ (∃ vs, p.2.data = .fields vs) ∧ all.contains x.cls = true
theorem ev_isX {a : Addr} {σ : L2.St} {H : Hp} {D : Addr} {ta tb : TE} {c : V} {cv : Value} {b : Bool} (ha : Ev ta σ H (.ref a)) (hb : Ev tb σ H c) (hc : ClsV c cv) (e : PySem.W.kitOne G.K (.ref D) cv = some b) :
    Ev (tCB (rIsEB G.K D a) (tCons ta (tCons tb tNil))) σ H (.bl b) := ev_cb (ea_cons ha (ea_cons hb ea_nil)) fun _ q => ⟨c, cv, b, rfl, hc, e, q⟩
theorem mt_countK {X : Cx} (K : PySem.W.Frag) (hu : X.A.units + 65 < cLine) (hK : X.K = K := by rfl) : MtR X "list.count" (rCountD K) := by subst hK; exact mt_countD hu
theorem huH {k : Nat} {A : Around} (r : L2H.RoomH k A) : A.units + 65 < cLine := by have := r.un; omega
theorem hu0 {k : Nat} {A : Around} (r : Room k A) : A.units + 65 < cLine := by have := r.un; omega
theorem hotRoom {j k : Nat} {A : Around} {v : Option Value} (r : Room k A) (h : j ≤ k) : L2H.RoomH j (A.mark v) := ⟨(r.mono h).dp, (r.mono h).un⟩
section
variable {H : Hp} {σ σ' : L2.St} {D : Ends}
theorem w_asE {K : PySem.W.Frag} {c : Value} {i : Nat} {ts : Addr → Value → Option Addr → TS} {Wout : WX} {all subs : List Nat} {x : Exc} {β : Type} {A B : R β} {q : β → Prop} {e : Exc → Prop}
    (ex : all.contains x.cls = true → PySem.W.exmOne K (.ref (G.cl x.cls)) c = some (subs.contains x.cls)) (hm : R.wp (catchR all subs x A B) q e)
    (h1 : all.contains x.cls = true → R.wp A q e → ∀ a, H a = none → ts a (.ref (G.cl x.cls)) none { nx := fun σ' H' => D.nx (σ'.set i none) H', rt := D.rt, bk := fun σ' H' => D.bk (σ'.set i none) H', ct := fun σ' H' => D.ct (σ'.set i none) H' } (σ.set i (some (.ref a))) H)
    (h2 : R.wp B q e → Wout (.ref (G.cl x.cls)) none σ H) : Eok G x (WE (wAs K c i ts Wout D) σ) H := by
  unfold catchR at hm
  by_cases c1 : all.contains x.cls = true
  · rw [if_pos c1] at hm
    refine ⟨_, ex c1, fun z => ?_, fun z => ?_⟩
    · rw [if_pos z] at hm; exact h1 c1 hm
    · rw [z, if_neg Bool.false_ne_true] at hm; exact h2 hm
  · rw [if_neg c1] at hm; exact hm.elim
end
section
variable {α : Type} [Im G α] [DecidableEq α] [Lay α] [Pd G α] {H : Hp} {σ : L2.St} {Q : VK} {v w : V} {x y : α}
theorem countP_pd {xs : List α} {x : α} : (xs.map (Pd.pd G)).countP (fun y => PyData.eqv y (Pd.pd G x)) = xs.countP (fun y => decide (y = x)) := by
  rw [List.countP_map]
  congr 1
  funext y
  show PyData.eqv (Pd.pd G y) (Pd.pd G x) = _
  rw [Pd.eqv]
theorem k_count {a : Addr} {xs : List α} {x : α} (d1 : Dp G.K H (.ref a) (Pd.pd G xs)) (d2 : Dp G.K H w (Pd.pd G x)) (l1 : Lay.lay xs = true) (l2 : Lay.lay x = true) (d : Pd.dep G (List α) ≤ 64) (d0 : Pd.dep G α ≤ 64)
    (q : Q (.int ((xs.countP fun y => decide (y = x) : Nat) : Int)) H) : rCountD G.K (.ref a) [w] H Q :=
  ⟨a, w, _, _, rfl, rfl, d1, d2, shapedP (x := xs) l1 d, shapedP l2 d0, by rw [countP_pd]; exact q⟩
end
end Ml


namespace Ml
open PySem L2
/-! ### plain lemmas: loops, items, texts -/
section
variable {α β σ ρ : Type}
theorem forR_ok {f : σ → α → R σ} (I : List α → σ → Prop) : ∀ {xs : List α} {s : σ} (pre : List α), I pre s → (∀ p x q s, pre ++ xs = p ++ x :: q → I p s → ∃ s', f s x = .ok s' ∧ I (p ++ [x]) s') → ∃ s', forR f xs s = .ok s' ∧ I (pre ++ xs) s'
  | [], s, pre, h0, _ => ⟨s, rfl, by rw [List.append_nil]; exact h0⟩
  | x :: xs, s, pre, h0, hs => by
    obtain ⟨s1, e1, h1⟩ := hs pre x xs s rfl h0
    obtain ⟨s2, e2, h2⟩ := forR_ok I (xs := xs) (s := s1) (pre ++ [x]) h1 fun p y q s e => hs p y q s (by rw [← e]; simp)
    refine ⟨s2, ?_, by rw [List.append_assoc] at h2; exact h2⟩
    show (f s x).bind _ = _
    rw [e1, R.bind_ok]; exact e2
theorem forR_inv {f : σ → α → R σ} {xs : List α} {s : σ} (I : List α → σ → Prop) (h0 : I [] s) (hs : ∀ p x q s, xs = p ++ x :: q → I p s → ∃ s', f s x = .ok s' ∧ I (p ++ [x]) s') : ∃ s', forR f xs s = .ok s' ∧ I xs s' := by
  obtain ⟨s', h1, h2⟩ := forR_ok I (xs := xs) (s := s) [] h0 fun p x q s e => hs p x q s (by simpa using e)
  exact ⟨s', h1, by simpa using h2⟩
/-- an invariant that does not look at the place -/
theorem forR_keep {f : σ → α → R σ} {xs : List α} {s : σ} (I : σ → Prop) (h0 : I s) (hs : ∀ x s, x ∈ xs → I s → ∃ s', f s x = .ok s' ∧ I s') : ∃ s', forR f xs s = .ok s' ∧ I s' :=
  forR_inv (fun _ s => I s) h0 fun p x q s e h => hs x s (by rw [e]; simp) h
theorem forR_foldl {f : σ → α → R σ} {g : σ → α → σ} {xs : List α} {s : σ} (h : ∀ s x, x ∈ xs → f s x = .ok (g s x)) : forR f xs s = .ok (xs.foldl g s) := by
  induction xs generalizing s with
  | nil => rfl
  | cons x xs ih =>
    show (f s x).bind _ = _
    rw [h s x (by simp), R.bind_ok]
    exact ih fun s y hy => h s y (by simp [hy])
theorem forF_inv {f : σ → α → R (Fl σ ρ)} (I : List α → σ → Prop) : ∀ {xs : List α} {s : σ} (pre : List α), I pre s → (∀ p x q s, pre ++ xs = p ++ x :: q → I p s → ∃ s', f s x = .ok (.go s') ∧ I (p ++ [x]) s') → ∃ s', forF f xs s = .ok (.go s') ∧ I (pre ++ xs) s'
  | [], s, pre, h0, _ => ⟨s, rfl, by rw [List.append_nil]; exact h0⟩
  | x :: xs, s, pre, h0, hs => by
    obtain ⟨s1, e1, h1⟩ := hs pre x xs s rfl h0
    obtain ⟨s2, e2, h2⟩ := forF_inv I (xs := xs) (s := s1) (pre ++ [x]) h1 fun p y q s e => hs p y q s (by rw [← e]; simp)
    refine ⟨s2, ?_, by rw [List.append_assoc] at h2; exact h2⟩
    show (f s x).bind _ = _
    rw [e1, R.bind_ok]; exact e2
/-- the loop goes on to its end -/
theorem forF_keep {f : σ → α → R (Fl σ ρ)} {xs : List α} {s : σ} (I : σ → Prop) (h0 : I s) (hs : ∀ x s, x ∈ xs → I s → ∃ s', f s x = .ok (.go s') ∧ I s') : ∃ s', forF f xs s = .ok (.go s') ∧ I s' := by
  obtain ⟨s', h1, h2⟩ := forF_inv (fun _ s => I s) (xs := xs) (s := s) [] h0 fun p x q s e h => hs x s (by rw [List.nil_append] at e; rw [e]; simp) h
  exact ⟨s', h1, h2⟩
theorem compR_map {f : Unit → α → R (Unit × Option β)} {g : α → β} {xs : List α} (h : ∀ x, x ∈ xs → f () x = .ok ((), some (g x))) : compR f xs () = .ok ((), xs.map g) := by
  induction xs with
  | nil => rfl
  | cons x xs ih =>
    show (f () x).bind _ = _
    rw [h x (by simp), R.bind_ok, ih fun y hy => h y (by simp [hy])]
    rfl
theorem compR_filterMap {f : Unit → α → R (Unit × Option β)} {g : α → Option β} {xs : List α} (h : ∀ x, x ∈ xs → f () x = .ok ((), g x)) : compR f xs () = .ok ((), xs.filterMap g) := by
  induction xs with
  | nil => rfl
  | cons x xs ih =>
    show (f () x).bind _ = _
    rw [h x (by simp), R.bind_ok, ih fun y hy => h y (by simp [hy])]
    cases e : g x with
    | none => simp [e]
    | some y => simp [e]
theorem compR_all {f : Unit → α → R (Unit × Option β)} {xs : List α} (P : β → Prop) (h : ∀ x, x ∈ xs → ∃ y, f () x = .ok ((), some y) ∧ P y) : ∃ ys, compR f xs () = .ok ((), ys) ∧ ys.length = xs.length ∧ ∀ y, y ∈ ys → P y := by
  induction xs with
  | nil => exact ⟨[], rfl, rfl, by simp⟩
  | cons x xs ih =>
    obtain ⟨y, e, p⟩ := h x (by simp)
    obtain ⟨ys, e2, l, q⟩ := ih fun z hz => h z (by simp [hz])
    refine ⟨y :: ys, ?_, by simp [l], fun z hz => ?_⟩
    · show (f () x).bind _ = _
      rw [e, R.bind_ok, e2]; rfl
    · rcases List.mem_cons.mp hz with rfl | hz
      · exact p
      · exact q z hz
/-- a comprehension that carries a state -/
theorem compR_keep {f : σ → α → R (σ × Option β)} {xs : List α} {s : σ} (I : σ → Prop) (P : β → Prop) (h0 : I s) (h : ∀ s x, x ∈ xs → I s → ∃ s' y, f s x = .ok (s', some y) ∧ I s' ∧ P y) : ∃ s' ys, compR f xs s = .ok (s', ys) ∧ I s' ∧ ys.length = xs.length ∧ ∀ y, y ∈ ys → P y := by
  induction xs generalizing s with
  | nil => exact ⟨s, [], rfl, h0, rfl, by simp⟩
  | cons x xs ih =>
    obtain ⟨s1, y, e, h1, p⟩ := h s x (by simp) h0
    obtain ⟨s2, ys, e2, h2, l, q⟩ := ih h1 fun s z hz => h s z (by simp [hz])
    refine ⟨s2, y :: ys, ?_, h2, by simp [l], fun z hz => ?_⟩
    · show (f s x).bind _ = _
      rw [e, R.bind_ok, e2]; rfl
    · rcases List.mem_cons.mp hz with rfl | hz
      · exact p
      · exact q z hz
theorem idxR_mem {xs : List α} {i : Int} (h0 : 0 ≤ i) (h1 : i < xs.length) : ∃ x, idxR xs i = .ok x ∧ x ∈ xs ∧ xs[i.toNat]? = some x := by
  obtain ⟨x, h, _⟩ := atI_ok h0 h1
  exact ⟨x, idxR_ok h0 h, List.mem_of_getElem? h, h⟩
theorem ixR_ok {xs : List α} {i : Int} (h0 : 0 ≤ i) (h1 : i < xs.length) : ixR xs i = .ok i.toNat := by
  unfold ixR ixN
  rw [if_pos h0, if_pos h1]
theorem mem_set {xs : List α} {j : Nat} {v x : α} (h : x ∈ xs.set j v) : x ∈ xs ∨ x = v := by
  rcases List.mem_or_eq_of_mem_set h with h | h
  · exact .inl h
  · exact .inr h
theorem cutL_sub {xs : List α} {lo hi : Option Int} : (cutL xs lo hi).Sublist xs := (List.take_sublist _ _).trans (List.drop_sublist _ _)
theorem cutL_mem {xs : List α} {lo hi : Option Int} {x : α} (h : x ∈ cutL xs lo hi) : x ∈ xs := cutL_sub.subset h
theorem cutL_len {xs : List α} {lo hi : Option Int} : (cutL xs lo hi).length ≤ xs.length := cutL_sub.length_le
theorem sIx_nn {n d : Nat} {i : Int} (h : 0 ≤ i) : HT.sIx n d (some i) = min i.toNat n := by
  show (if i < 0 then (i + (n : Int)).toNat else min i.toNat n) = _
  rw [if_neg (by omega)]
theorem cutL_to {xs : List α} {i : Int} (h : 0 ≤ i) : cutL xs none (some i) = xs.take i.toNat := by
  unfold cutL
  rw [sIx_nn h, HT.sIx_none, List.drop_zero, Nat.sub_zero]
  by_cases c : i.toNat ≤ xs.length
  · rw [Nat.min_eq_left c]
  · rw [Nat.min_eq_right (by omega), List.take_of_length_le (Nat.le_refl _), List.take_of_length_le (by omega)]
theorem cutL_from {xs : List α} {i : Int} (h : 0 ≤ i) : cutL xs (some i) none = xs.drop i.toNat := by
  unfold cutL
  rw [sIx_nn h, HT.sIx_none]
  by_cases c : i.toNat ≤ xs.length
  · rw [Nat.min_eq_left c, List.take_of_length_le (by rw [List.length_drop]; exact Nat.le_refl _)]
  · rw [Nat.min_eq_right (by omega), List.drop_length, List.drop_of_length_le (by omega), List.take_nil]
theorem cutL_but1 {xs : List α} : cutL xs none (some (-1)) = xs.dropLast := by
  unfold cutL
  have e : HT.sIx xs.length xs.length (some (-1)) = (-1 + (xs.length : Int)).toNat := by
    show (if (-1 : Int) < 0 then (-1 + (xs.length : Int)).toNat else min (-1 : Int).toNat xs.length) = _
    rw [if_pos (by decide)]
  rw [HT.sIx_none, e, List.drop_zero, Nat.sub_zero, List.dropLast_eq_take]
  congr 1; omega
theorem rngL_mem {lo x : Int} {n : Nat} (h : x ∈ rngL lo n) : lo ≤ x ∧ x < lo + n := by
  unfold rngL at h
  obtain ⟨i, hi, rfl⟩ := List.mem_map.mp h
  have := List.mem_range.mp hi
  omega
end
/-! texts -/
theorem len_app (a b : Str) : (a ++ b).length = a.length + b.length := by
  show (a.cps ++ b.cps).size = a.cps.size + b.cps.size
  rw [Array.size_append]
theorem tl_app (a b : Str) : (a ++ b).cps.toList = a.cps.toList ++ b.cps.toList := by
  show (a.cps ++ b.cps).toList = _
  rw [Array.toList_append]
theorem len_tl (x : Str) : x.length = x.cps.toList.length := by simp [Str.length]
theorem str_ext {x y : Str} (h : x.cps.toList = y.cps.toList) : x = y := Str.ext' (Array.toList_inj.mp h)
/-- all signs below 128 -/
def Asc (x : Str) : Prop := ∀ c, c ∈ x.cps.toList → c < 128
theorem Asc.app {a b : Str} (ha : Asc a) (hb : Asc b) : Asc (a ++ b) := fun c hc => by
  rw [tl_app] at hc
  rcases List.mem_append.mp hc with h | h
  · exact ha c h
  · exact hb c h
theorem Asc.sg {c : Nat} (h : c < 128) : Asc (sg c) := fun d hd => by
  have : d = c := by simpa [Ml.sg] using hd
  omega
theorem Asc.lit {x : Str} (h : x.cps.toList.all (· < 128) = true) : Asc x := fun c hc => by
  have := List.all_eq_true.mp h c hc
  simpa using this
theorem Asc.lay {x : Str} (h : Asc x) : (Lay.lay x : Bool) = true := by
  show PyData.strOk x = true
  unfold PyData.strOk
  rw [← Array.all_toList]
  exact List.all_eq_true.mpr fun c hc => decide_eq_true (Nat.lt_trans (h c hc) (by decide))
theorem lay_all {xs : List Str} (h : ∀ x, x ∈ xs → Asc x) : layAllB xs = true := List.all_eq_true.mpr fun x hx => (h x hx).lay
theorem joinL_nil : ∀ ls : List (List Nat), TL.joinL [] ls = ls.flatten
  | [] => rfl
  | [l] => by simp [TL.joinL]
  | l :: m :: r => by
    rw [TL.joinL, joinL_nil (m :: r)]; simp
theorem join_nil (ys : List Str) : (Txt.join ("" : Str) ys).cps.toList = (ys.map fun y => y.cps.toList).flatten := by
  rw [TL.join_eq]
  have ej := TL.tl_join ("" : Str) ys
  have e0 : TL.tl ("" : Str) = [] := by decide
  rw [e0, joinL_nil] at ej
  exact ej
theorem len_join_nil (ys : List Str) : (Txt.join ("" : Str) ys).length = (ys.map (·.length)).sum := by
  rw [len_tl, join_nil, List.length_flatten, List.map_map]
  exact congrArg List.sum (List.map_congr_left fun y _ => (len_tl y).symm)
theorem sum_le {xs : List Str} {k : Nat} (h : ∀ x, x ∈ xs → x.length ≤ k) : (xs.map (·.length)).sum ≤ xs.length * k := by
  induction xs with
  | nil => simp
  | cons x xs ih =>
    have h1 := h x (by simp)
    have h2 := ih fun y hy => h y (by simp [hy])
    rw [List.map_cons, List.sum_cons, List.length_cons, Nat.succ_mul]
    omega
theorem Asc.join {ys : List Str} (h : ∀ y, y ∈ ys → Asc y) : Asc (Txt.join ("" : Str) ys) := fun c hc => by
  rw [join_nil] at hc
  obtain ⟨l, hl, hc⟩ := List.mem_flatten.mp hc
  obtain ⟨y, hy, rfl⟩ := List.mem_map.mp hl
  exact h y hy c hc
theorem upper_tl {x : Str} (h : Asc x) : (Txt.upper x).cps.toList = x.cps.toList.map PyProof.Rows.up1 := by
  rw [PyProof.Rows.upper_ascii h]; simp
theorem lower_tl {x : Str} (h : Asc x) : (Txt.lower x).cps.toList = x.cps.toList.map PyProof.Rows.lo1 := by
  rw [PyProof.Rows.lower_ascii h]; simp
theorem up1_lt {c : Nat} (h : c < 128) : PyProof.Rows.up1 c < 128 := by unfold PyProof.Rows.up1; split <;> omega
theorem lo1_lt {c : Nat} (h : c < 128) : PyProof.Rows.lo1 c < 128 := by unfold PyProof.Rows.lo1; split <;> omega
theorem Asc.upper {x : Str} (h : Asc x) : Asc (Txt.upper x) := fun c hc => by
  rw [upper_tl h] at hc
  obtain ⟨d, hd, rfl⟩ := List.mem_map.mp hc
  exact up1_lt (h d hd)
theorem Asc.lower {x : Str} (h : Asc x) : Asc (Txt.lower x) := fun c hc => by
  rw [lower_tl h] at hc
  obtain ⟨d, hd, rfl⟩ := List.mem_map.mp hc
  exact lo1_lt (h d hd)
theorem len_upper {x : Str} (h : Asc x) : (Txt.upper x).length = x.length := by rw [len_tl, upper_tl h, List.length_map, len_tl]
theorem len_lower {x : Str} (h : Asc x) : (Txt.lower x).length = x.length := by rw [len_tl, lower_tl h, List.length_map, len_tl]
theorem len_sg (c : Nat) : (sg c).length = 1 := rfl
theorem cutS_tl (z : Str) (lo hi : Option Int) : (cutS z lo hi).cps.toList = cutL z.cps.toList lo hi := by
  show ((cutS z lo hi).cps).toList = _
  unfold cutS cutL
  rw [← len_tl]
theorem cutS_asc {x : Str} {a b : Option Int} (h : Asc x) : Asc (cutS x a b) := fun c hc => h c (by
  rw [cutS_tl] at hc
  exact cutL_mem hc)
theorem cutS_len2 {x : Str} {n : Int} (h : 0 ≤ n) : (cutS x none (some n)).length + (cutS x (some n) none).length ≤ x.length := by
  rw [len_tl, len_tl, len_tl, cutS_tl, cutS_tl, cutL_to h, cutL_from h, List.length_take, List.length_drop]; omega
/-! str of a small number -/
theorem log2_small {i : Int} (h0 : -1000000000000 < i) (h1 : i < 1000000000000) : i.natAbs.log2 < 1920 := by
  have h : i.natAbs < 2 ^ 40 := by omega
  by_cases z : i.natAbs = 0
  · rw [z]; decide
  · exact Nat.lt_trans ((Nat.log2_lt z).mpr h) (by decide)
theorem tl_num (n : Nat) : (Str.ofString (toString ((n : Nat) : Int))).cps.toList = TL.numL n := TL.tl_num n
end Ml
namespace Ml
open PySem L2
/-! ### total programs: it comes to an answer with P -/
def Ok {α : Type} (m : R α) (P : α → Prop) : Prop := ∃ a, m = .ok a ∧ P a
namespace Ok
variable {α β σ ρ : Type} {P : ρ → Prop}
theorem ret {a : ρ} (h : P a) : Ok (.ok a) P := ⟨a, rfl, h⟩
theorem bind {m : R α} {f : α → R ρ} {Q : α → Prop} (h : Ok m Q) (k : ∀ a, Q a → Ok (f a) P) : Ok (m.bind f) P := by
  obtain ⟨a, e, q⟩ := h
  rw [e, R.bind_ok]; exact k a q
theorem bindE {m : R α} {f : α → R ρ} {a : α} (h : m = .ok a) (k : Ok (f a) P) : Ok (m.bind f) P := by
  rw [h, R.bind_ok]; exact k
theorem lets {a : α} {f : α → R ρ} (k : Ok (f a) P) : Ok ((R.ok a).bind f) P := k
theorem name {a : α} {f : α → R ρ} (k : ∀ y, y = a → Ok (f y) P) : Ok ((R.ok a).bind f) P := k a rfl
theorem need {p : Prop} [Decidable p] {m : R ρ} (h : p) (k : Ok m P) : Ok (R.need p m) P := by rw [R.need_pos h]; exact k
theorem ite {c : Prop} [Decidable c] {a b : R ρ} (h1 : c → Ok a P) (h2 : ¬ c → Ok b P) : Ok (if c then a else b) P := by
  by_cases h : c
  · rw [if_pos h]; exact h1 h
  · rw [if_neg h]; exact h2 h
theorem ifT {c : Prop} [Decidable c] {a b : R ρ} (h : c) (k : Ok a P) : Ok (if c then a else b) P := by rw [if_pos h]; exact k
theorem ifF {c : Prop} [Decidable c] {a b : R ρ} (h : ¬ c) (k : Ok b P) : Ok (if c then a else b) P := by rw [if_neg h]; exact k
theorem mono {Q : ρ → Prop} {m : R ρ} (h : Ok m Q) (k : ∀ a, Q a → P a) : Ok m P := by
  obtain ⟨a, e, q⟩ := h
  exact ⟨a, e, k a q⟩
theorem eq {m : R ρ} {v : ρ} (h : Ok m (· = v)) : m = .ok v := by
  obtain ⟨a, e, q⟩ := h
  rw [e, q]
theorem idx {xs : List α} {i : Int} {f : α → R ρ} (h0 : 0 ≤ i) (h1 : i < xs.length) (k : ∀ x, x ∈ xs → xs[i.toNat]? = some x → Ok (f x) P) : Ok ((idxR xs i).bind f) P := by
  obtain ⟨x, e, m, g⟩ := idxR_mem h0 h1
  rw [e, R.bind_ok]; exact k x m g
theorem ix {xs : List α} {i : Int} {f : Nat → R ρ} (h0 : 0 ≤ i) (h1 : i < xs.length) (k : Ok (f i.toNat) P) : Ok ((ixR xs i).bind f) P := by
  rw [ixR_ok h0 h1, R.bind_ok]; exact k
theorem forI {f : σ → α → R σ} {xs : List α} {s : σ} {rest : σ → R ρ} (I : List α → σ → Prop) (h0 : I [] s) (hs : ∀ p x q s, xs = p ++ x :: q → I p s → Ok (f s x) (I (p ++ [x]))) (k : ∀ s, I xs s → Ok (rest s) P) : Ok ((forR f xs s).bind rest) P :=
  bind (forR_inv I h0 hs) k
theorem forK {f : σ → α → R σ} {xs : List α} {s : σ} {rest : σ → R ρ} (I : σ → Prop) (h0 : I s) (hs : ∀ x s, x ∈ xs → I s → Ok (f s x) I) (k : ∀ s, I s → Ok (rest s) P) : Ok ((forR f xs s).bind rest) P :=
  bind (forR_keep I h0 hs) k
theorem forL {f : σ → α → R σ} (g : σ → α → σ) {xs : List α} {s : σ} {rest : σ → R ρ} (hs : ∀ x s, x ∈ xs → f s x = .ok (g s x)) (k : Ok (rest (xs.foldl g s)) P) : Ok ((forR f xs s).bind rest) P :=
  bindE (forR_foldl fun s x h => hs x s h) k
theorem forFK {τ : Type} {f : σ → α → R (Fl σ τ)} {xs : List α} {s : σ} {rest : Fl σ τ → R ρ} (I : σ → Prop) (h0 : I s) (hs : ∀ x s, x ∈ xs → I s → Ok (f s x) (fun r => ∃ s', r = .go s' ∧ I s')) (k : ∀ s, I s → Ok (rest (.go s)) P) : Ok ((forF f xs s).bind rest) P := by
  obtain ⟨s', e, h⟩ := forF_keep (f := f) (xs := xs) I h0 fun x s hx hI => by
    obtain ⟨r, e, s', rfl, h⟩ := hs x s hx hI
    exact ⟨s', e, h⟩
  exact bindE e (k s' h)
theorem forFI {τ : Type} {f : σ → α → R (Fl σ τ)} {xs : List α} {s : σ} {rest : Fl σ τ → R ρ} (I : List α → σ → Prop) (h0 : I [] s) (hs : ∀ p x q s, xs = p ++ x :: q → I p s → Ok (f s x) (fun r => ∃ s', r = .go s' ∧ I (p ++ [x]) s')) (k : ∀ s, I xs s → Ok (rest (.go s)) P) : Ok ((forF f xs s).bind rest) P := by
  obtain ⟨s', e, h⟩ := forF_inv (f := f) (xs := xs) I [] h0 fun p x q s hx hI => by
    obtain ⟨r, e, s', rfl, h⟩ := hs p x q s (by simpa using hx) hI
    exact ⟨s', e, h⟩
  exact bindE e (k s' (by simpa using h))
/-- a comprehension whose items all have Q -/
theorem comp {f : Unit → α → R (Unit × Option β)} {xs : List α} {rest : Unit × List β → R ρ} (Q : β → Prop) (h : ∀ x, x ∈ xs → Ok (f () x) (fun r => ∃ y, r.2 = some y ∧ Q y)) (k : ∀ ys, ys.length = xs.length → (∀ y, y ∈ ys → Q y) → Ok (rest ((), ys)) P) : Ok ((compR f xs ()).bind rest) P := by
  obtain ⟨ys, e, l, q⟩ := compR_all (f := f) (xs := xs) Q fun x hx => by
    obtain ⟨r, e, y, e2, hy⟩ := h x hx
    exact ⟨y, by rw [e, ← e2], hy⟩
  exact bindE e (k ys l q)
/-- .. whose items are told -/
theorem compM {f : Unit → α → R (Unit × Option β)} {xs : List α} {rest : Unit × List β → R ρ} (g : α → β) (h : ∀ x, x ∈ xs → Ok (f () x) (fun r => r.2 = some (g x))) (k : Ok (rest ((), xs.map g)) P) : Ok ((compR f xs ()).bind rest) P := by
  refine bindE (compR_map (g := g) fun x hx => ?_) k
  obtain ⟨r, e, e2⟩ := h x hx
  rw [e, ← e2]
theorem compF {f : Unit → α → R (Unit × Option β)} {xs : List α} {rest : Unit × List β → R ρ} (g : α → Option β) (h : ∀ x, x ∈ xs → Ok (f () x) (fun r => r.2 = g x)) (k : Ok (rest ((), xs.filterMap g)) P) : Ok ((compR f xs ()).bind rest) P := by
  refine bindE (compR_filterMap (g := g) fun x hx => ?_) k
  obtain ⟨r, e, e2⟩ := h x hx
  rw [e, ← e2]
/-- .. that carries a state -/
theorem compS {f : σ → α → R (σ × Option β)} {xs : List α} {s : σ} {rest : σ × List β → R ρ} (I : σ → Prop) (Q : β → Prop) (h0 : I s) (h : ∀ s x, x ∈ xs → I s → Ok (f s x) (fun r => I r.1 ∧ ∃ y, r.2 = some y ∧ Q y)) (k : ∀ s ys, I s → ys.length = xs.length → (∀ y, y ∈ ys → Q y) → Ok (rest (s, ys)) P) : Ok ((compR f xs s).bind rest) P := by
  obtain ⟨s', ys, e, hI, l, q⟩ := compR_keep (f := f) (xs := xs) I Q h0 fun s x hx hI => by
    obtain ⟨r, e, h1, y, e2, hy⟩ := h s x hx hI
    exact ⟨r.1, y, by rw [e, ← e2], h1, hy⟩
  exact bindE e (k s' ys hI l q)
end Ok
theorem pre_lt {α : Type} {xs p q : List α} {x : α} (e : xs = p ++ x :: q) : p.length < xs.length := by
  rw [e, List.length_append, List.length_cons]; omega
theorem lt_line {n m : Nat} (h : n ≤ m) (hm : m < 16777216) : n < sizeLine := Nat.lt_of_le_of_lt h hm
theorem le_line {n : Nat} (h : n ≤ 16777216) : n ≤ sizeLine := h
end Ml

namespace Ml
open PySem PySem.Spec PyProof.Rows L2
variable {G : Gx}
/-- a text, n times -/
def repS (a : Str) (n : Nat) : Str := ⟨(List.replicate n a.cps).foldl (· ++ ·) #[]⟩
theorem rep_tl (a : Str) (n : Nat) : (repS a n).cps.toList = (List.replicate n a.cps.toList).flatten := by
  have g : ∀ (n : Nat) (z : Array Nat), ((List.replicate n a.cps).foldl (· ++ ·) z).toList = z.toList ++ (List.replicate n a.cps.toList).flatten := by
    intro n
    induction n with
    | zero => intro z; simp
    | succ n ih => intro z; simp [List.replicate_succ, ih]
  show ((List.replicate n a.cps).foldl (· ++ ·) #[]).toList = _
  rw [g]; simp
theorem rep_len (a : Str) (n : Nat) : (repS a n).length = a.length * n := by
  rw [len_tl, rep_tl, len_tl]; simp [Nat.mul_comm]
def rRepS : R2 := fun x y H Q => ∃ (a : Str) (n : Int), x = .str a ∧ y = .int n ∧ -(2 ^ 62) ≤ n ∧ a.length * n.toNat ≤ sizeLine ∧ n < 2 ^ 62 ∧ Q (.str (repS a n.toNat)) H
theorem op_repS {X : Cx} : OpR X (binaryOp .Mult) rRepS := by
  intro pins s σ H x y v u Q I rx ry h
  obtain ⟨a, n, rfl, rfl, h1, h2, h3, q⟩ := h
  obtain ⟨t, rfl⟩ := rx
  obtain ⟨t2, rfl⟩ := ry
  refine PySem.P.mul_str (by rw [decide_eq_false (by omega), decide_eq_false (by omega)]; rfl) (fun z1 z2 => ?_) (fun z1 z2 => ?_) ?_
  · have hn : 0 < n := by omega
    intro z
    have h4 : (a.length : Int) * n ≤ 2 ^ 63 - 1 := by
      have e : ((a.length * n.toNat : Nat) : Int) = (a.length : Int) * n := by
        rw [Int.natCast_mul, Int.toNat_of_nonneg (by omega)]
      have := sizeLine_eq
      omega
    have := (Int.le_ediv_iff_mul_le hn).mpr h4
    omega
  · exact decide_eq_false (Nat.not_lt.mpr h2)
  · by_cases z : n < 1
    · rw [if_pos z]
      have e : n.toNat = 0 := by omega
      rw [e] at q
      exact ⟨by decide, ⟨.str Str.empty, H, I.tok _, ⟨_, rfl⟩, q⟩⟩
    · rw [if_neg z]
      by_cases c : (n == 1 || a.length == 0) = true
      · rw [if_pos c]
        have e : repS a n.toNat = a := by
          apply str_ext
          rw [rep_tl]
          rw [Bool.or_eq_true] at c
          rcases c with c | c
          · have : n = 1 := by simpa using c
            subst this; simp
          · have : a.length = 0 := by simpa using c
            have : a.cps.toList = [] := List.eq_nil_of_length_eq_zero (by rw [← len_tl]; exact this)
            rw [this]; simp
        rw [e] at q
        exact ⟨.str a, H, I, ⟨_, rfl⟩, q⟩
      · rw [if_neg c]
        exact ⟨by show (repS a n.toNat).length ≤ sizeLine; rw [rep_len]; exact h2, ⟨.str (repS a n.toNat), H, I.tok _, ⟨_, rfl⟩, q⟩⟩
theorem ev_repS {σ : L2.St} {H : Hp} {ta tb : TE} {a : Str} {n : Int} (ha : Ev ta σ H (.str a)) (hb : Ev tb σ H (.int n)) (h : a.length * n.toNat ≤ sizeLine ∧ -(2 ^ 62) ≤ n ∧ n < 2 ^ 62) : Ev (tOp rRepS ta tb) σ H (.str (repS a n.toNat)) :=
  ev_op ha hb fun Q q => ⟨a, n, rfl, rfl, h.2.1, h.1, h.2.2, q⟩
theorem r_repS {H : Hp} {a : Str} {n : Int} {Q : VK} (h : a.length * n.toNat ≤ sizeLine ∧ -(2 ^ 62) ≤ n ∧ n < 2 ^ 62) (q : Q (.str (repS a n.toNat)) H) : rRepS (.str a) (.int n) H Q := ⟨a, n, rfl, rfl, h.2.1, h.1, h.2.2, q⟩
/-- x is None, of a thing of any sort -/
def Any.isN : Any → Bool
  | .non => true
  | _ => false
theorem isN_of {H : Hp} {v : V} {x : Any} (h : Im.im G H v x) : decide (v = .non) = Any.isN x := by
  have h : imAny H v x := h
  cases x with
  | non => rw [imAny] at h; subst h; rfl
  | str s => rw [imAny] at h; subst h; rfl
  | int s => rw [imAny] at h; subst h; rfl
  | bl s => rw [imAny] at h; subst h; rfl
  | tup s => rw [imAny] at h; obtain ⟨a, vs, rfl, _⟩ := h; rfl
  | lst s => rw [imAny] at h; obtain ⟨a, vs, rfl, _⟩ := h; rfl
  | oth s => rw [imAny] at h; obtain ⟨a, o, rfl, _⟩ := h; rfl
theorem ev_isN {σ : L2.St} {H : Hp} {ta : TE} {v : V} {x : Any} (ha : Ev ta σ H v) (h : Im.im G H v x) : Ev (tIsN ta) σ H (.bl (Any.isN x)) := fun Q q => ha _ (by rw [isN_of h]; exact q)
theorem ev_notN {σ : L2.St} {H : Hp} {ta : TE} {v : V} {x : Any} (ha : Ev ta σ H v) (h : Im.im G H v x) : Ev (tNotN ta) σ H (.bl (!Any.isN x)) := fun Q q => ha _ (by rw [isN_of h]; exact q)
end Ml

namespace PySem.W
open PySem PySem.Spec PySem.Calls PyProof.Rows
theorem kit_own {K : Frag} {i j : Addr} {b : Bool} (hdct : hasDictIn K j = true) (ht : typeIn K (.ref j) = some (.type "type")) (h : subIn K (.ref i) (.ref j) = some b) (hn : b = true ∨ ¬ i = j) : kitOne K (.ref i) (.ref j) = some b := by
  obtain ⟨cd, hc, _⟩ := any_some hdct
  have e2 : ((clsIn K j).isSome && typeIn K (.ref j) == some (.type "type")) = true := by rw [hc, ht] <;> rfl
  have e3 : kitCls K (.ref i) (.ref j) = some b := by
    show (if ((clsIn K j).isSome && typeIn K (.ref j) == some (.type "type")) = true then subIn K (.ref i) (.ref j) else none) = some b
    rw [if_pos e2]; exact h
  unfold kitOne
  split
  · next q =>
    rcases hn with rfl | hn
    · rfl
    · have : Value.ref i = Value.ref j := eq_of_beq q
      exact absurd (by injection this) hn
  · exact e3
theorem kit_val {K : Frag} {i : Addr} {b : Bool} (h : subIn K (.ref i) (.type "ValueError") = some b) : kitOne K (.ref i) (.type "ValueError") = some b := by
  unfold kitOne
  split
  · next q =>
    have : Value.ref i = Value.type "ValueError" := eq_of_beq q
    cases this
  · show (if kitMeta "ValueError" = true then subIn K (.ref i) (.type "ValueError") else none) = some b
    rw [if_pos (by decide +kernel)]; exact h
end PySem.W

/-! ### a state: a list of a number, the script, a number -/
namespace Ml
open PySem PySem.Spec PyProof.Rows L2
variable {G : Gx}
inductive StV where
  | i (n : Int) | s (x : Script)
def stIm (G : Gx) (H : Hp) (v : V) : StV → Prop
  | .i n => v = .int n
  | .s s => Im.im G H v s
theorem stIm_st {H H' : Hp} {v : V} {x : StV} (h : stIm G H v x) (st : Stab G H H') : stIm G H' v x := by
  cases x with
  | i n => exact h
  | s s =>
    have h : Im.im G H v s := h
    exact (Im.st h st : Im.im G H' v s)
instance stvI : Im G StV := ⟨stIm G, fun h s => stIm_st h s⟩
def stL (x : T3 Int Script Int) : List StV := [StV.i x.a, StV.s x.b, StV.i x.c]
@[reducible] def stA (p : Addr) (x : T3 Int Script Int) : Asn G := lstA p (stL x)
theorem st_get {H : Hp} {L : List (Asn G)} {i : Nat} {p : Addr} {x : T3 Int Script Int} (hS : Sep H L) (e : L[i]? = some (stA p x)) : ∃ ad, SqL G.K H p [.int x.a, .ref ad, .int x.c] ∧ Im.im G H (.ref ad) x.b := by
  obtain ⟨vs, h, m⟩ := hS.lst e
  have hl := m.len
  cases vs with
  | nil => cases hl
  | cons v1 vs =>
    cases vs with
    | nil => cases hl
    | cons v2 vs =>
      cases vs with
      | nil => cases hl
      | cons v3 vs =>
        cases vs with
        | cons v4 vs => cases hl
        | nil =>
          obtain ⟨h1, h2, h3, _⟩ := m
          have h1 : v1 = .int x.a := h1
          have h3 : v3 = .int x.c := h3
          have h2 : Im.im G H v2 x.b := h2
          obtain ⟨ad, e2, h4⟩ := im_script h2
          subst h1 h3 e2
          exact ⟨ad, .inl (.inl h), h2⟩
theorem st_im {H : Hp} {v : V} {x : Script} (h : Im.im G H v x) : Im.im G H v (StV.s x) := h
end Ml
namespace L2
open PySem PySem.Spec PyProof.Rows
section
variable {prog : Program} {w : World} {A : Around} {E : Value → Shared → Prop} {s : Shared}
theorem cat_tupE0 {t b : Addr} {ws : List Value} {Q : Value → Shared → Prop} (ht : IsTup s.heap t #[]) (hb : IsTup s.heap b ws.toArray) (h : Q (.ref b) s) : wpAny (model prog w) A (binaryOp .Add (.ref t) (.ref b)) Q E s := by
  obtain ⟨⟨cls, dd, data, sl⟩, ho, hc, n, hd⟩ := id ht
  obtain ⟨⟨cls2, dd2, data2, sl2⟩, ho2, hc2, n2, hd2⟩ := id hb
  simp only at hc hd hc2 hd2
  subst hc hd hc2 hd2
  exact PySem.concat_meets ⟨_, ho, rfl⟩ ⟨_, ho2, rfl⟩ noFill_tuple_add seq_tuple_add PySem.F.slot_tuple_add PySem.F.entry_tuple_add (PySem.F.args_tuple_add_2 _ _)
    (tuple_addW0 t b #[] ws.toArray n n2 dd dd2 sl sl2 rfl) ⟨ho, ho2, h⟩
end
/-- t + u, of any lengths -/
def rCatE (K : PySem.W.Frag) : R2 := fun x y H Q => ∃ a b xs ys, x = .ref a ∧ y = .ref b ∧ SqT K H a xs ∧ SqT K H b ys ∧ xs.length + ys.length ≤ sizeLine ∧
  (xs = [] → Q (.ref b) H) ∧ (xs ≠ [] → ys = [] → Q (.ref a) H) ∧ (xs ≠ [] → ys ≠ [] → ∀ p, H p = none → Q (.ref p) (upd H p (.tup (xs ++ ys))))
theorem op_catE {X : Cx} : OpR X (binaryOp .Add) (rCatE X.K) := by
  intro pins s σ H x y v u Q I rx ry h
  obtain ⟨a, b, xs, ys, rfl, rfl, ha, hb, hz, q0, q1, q2⟩ := h
  by_cases hx : xs = []
  · cases rx
    cases ry
    obtain ⟨its, r1, p1, _⟩ := I.tuple ha
    obtain ⟨its2, r2, p2, _⟩ := I.tuple hb
    have e : its = [] := r1.nil_iff.mpr hx
    subst e
    exact cat_tupE0 p1 p2 ⟨.ref b, H, I, rfl, q0 hx⟩
  · exact op_catT pins s σ H (.ref a) (.ref b) v u Q I rx ry ⟨a, b, xs, ys, rfl, rfl, ha, hb, hx, hz, q1 hx, q2 hx⟩
end L2
namespace Ml
open PySem PySem.Spec PyProof.Rows L2
variable {G : Gx} {H : Hp} {L : List (Asn G)} {Q : VK}
theorem catAK {X : Cx} (K : PySem.W.Frag) (hK : X.K = K := by rfl) : OpR X (binaryOp .Add) (rCatE K) := by subst hK; exact op_catE
theorem imL_nil_iff {vs : List V} {xs : List Any} (m : imL (G := G) H vs xs) : vs = [] ↔ xs = [] := by
  have := m.len
  cases vs <;> cases xs <;> simp_all
theorem k_catA {v w : V} {xs ys : List Any} (hS : Sep H L) (h1 : Im.im G H v (Any.tup xs)) (h2 : Im.im G H w (Any.tup ys)) (hl : xs.length + ys.length ≤ sizeLine)
    (k : ∀ v' H', Sep H' (imA v' (Any.tup (xs ++ ys)) :: L) → Q v' H') : rCatE G.K v w H Q := by
  obtain ⟨a, us, rfl, g1, m1⟩ := any_tup.mp h1
  obtain ⟨b, ws, rfl, g2, m2⟩ := any_tup.mp h2
  refine ⟨a, b, us, ws, rfl, rfl, SqT.of g1, SqT.of g2, by rw [m1.len, m2.len]; exact hl, fun z => k _ _ (hS.addIm ?_), fun _ z => k _ _ (hS.addIm ?_), fun _ _ p hp => k _ _ ?_⟩
  · have := (imL_nil_iff m1).mp z
    rw [this, List.nil_append]; exact h2
  · have := (imL_nil_iff m2).mp z
    rw [this, List.append_nil]; exact h1
  · refine (hS.more (same_new hp)).addIm (any_tup.mpr ⟨p, _, rfl, upd_same, ?_⟩)
    exact (m1.app m2).st (.of_same (same_new hp))
theorem k_slA {v : V} {xs : List Any} {lo hi : Option Int} (hS : Sep H L) (h1 : Im.im G H v (Any.tup xs)) (n : ¬ (HT.sIx xs.length 0 lo = 0 ∧ HT.sIx xs.length xs.length hi = xs.length))
    (k : ∀ v' H', Sep H' (imA v' (Any.tup (cutL xs lo hi)) :: L) → Q v' H') : rSlT G.K v lo hi H Q := by
  obtain ⟨a, us, rfl, g1, m1⟩ := any_tup.mp h1
  refine ⟨a, us, rfl, SqT.of g1, by rw [m1.len]; exact n, fun p hp => k _ _ ((hS.more (same_new hp)).addIm (any_tup.mpr ⟨p, _, rfl, upd_same, ?_⟩))⟩
  exact (cutL_im m1).st (.of_same (same_new hp))
theorem tupE {v : V} {x : Any} {xs : List Any} (h : Im.im G H v x) (e : x = .tup xs) : Im.im G H v (Any.tup xs) := e ▸ h
theorem k_listA {v : V} {xs : List Any} (hS : Sep H L) (h1 : Im.im G H v (Any.tup xs)) (k : ∀ p H', Sep H' (lstA p xs :: L) → Q (.ref p) H') : rListSq G.K [v] H Q := by
  obtain ⟨a, us, rfl, g1, m1⟩ := any_tup.mp h1
  refine ⟨a, us, rfl, .inr (SqT.of g1), fun p hp => k p _ ?_⟩
  exact hS.newL hp m1
theorem imL_str : ∀ {vs : List V} {xs : List Str}, imL (G := G) H vs xs → imL (G := G) H vs (xs.map Any.str)
  | [], [], _ => True.intro
  | v :: vs, x :: xs, h => ⟨any_str.mpr h.1, imL_str h.2⟩
theorem any_lstS {v : V} {xs : List Str} (h : Im.im G H v xs) : Im.im G H v (Any.lst (xs.map Any.str)) := by
  obtain ⟨a, vs, e, g, m⟩ := h
  exact any_lsts.mpr ⟨a, vs, e, g, imL_str m⟩
theorem any_lstA {v : V} {xs : List Any} (h : Im.im G H v xs) : Im.im G H v (Any.lst xs) := by
  obtain ⟨a, vs, e, g, m⟩ := h
  exact any_lsts.mpr ⟨a, vs, e, g, m⟩
def rIsBl : R2 := fun x y H Q => ∃ c d, x = .bl c ∧ y = .bl d ∧ Q (.bl (c == d)) H
def rIsnBl : R2 := fun x y H Q => ∃ c d, x = .bl c ∧ y = .bl d ∧ Q (.bl (c != d)) H
theorem op_isB {X : Cx} : OpR X (compareOp .Is) rIsBl := by
  intro pins s σ H x y v u Q I rx ry h
  obtain ⟨c, d, rfl, rfl, q⟩ := h
  cases rx
  cases ry
  exact is_bool ⟨.bl _, H, I, rfl, q⟩
theorem op_isnB {X : Cx} : OpR X (compareOp .IsNot) rIsnBl := by
  intro pins s σ H x y v u Q I rx ry h
  obtain ⟨c, d, rfl, rfl, q⟩ := h
  cases rx
  cases ry
  exact isnot_bool ⟨.bl _, H, I, rfl, q⟩
theorem ev_isB {σ : L2.St} {ta tb : TE} {c d : Bool} (ha : Ev ta σ H (.bl c)) (hb : Ev tb σ H (.bl d)) : Ev (tOp rIsBl ta tb) σ H (.bl (c == d)) := ev_op ha hb fun _ q => ⟨c, d, rfl, rfl, q⟩
theorem ev_isnB {σ : L2.St} {ta tb : TE} {c d : Bool} (ha : Ev ta σ H (.bl c)) (hb : Ev tb σ H (.bl d)) : Ev (tOp rIsnBl ta tb) σ H (.bl (c != d)) := ev_op ha hb fun _ q => ⟨c, d, rfl, rfl, q⟩
theorem ev_powC {σ : L2.St} {ta tb : TE} {i j : Int} (ha : Ev ta σ H (.int i)) (hb : Ev tb σ H (.int j)) (h : CPow i j) : Ev (tOp (rI CPow fun i j => .int (i ^ j.toNat)) ta tb) σ H (.int (i ^ j.toNat)) := ev_op ha hb fun _ q => ⟨i, j, rfl, rfl, h, q⟩
end Ml

/-! ### dicts of one's own: got, put, popped -/
namespace Ml
open PySem PySem.Spec PyProof.Rows L2
variable {G : Gx} {κ β : Type} [Kx κ] [DecidableEq κ] [Im G β] {H : Hp} {L L' : List (Asn G)} {σ : L2.St} {Q : VK} {td ty tx : TE} {k : κ} {a : Addr} {xs : List (κ × β)} {i : Nat}
/-- d[k], k there -/
theorem ev_dget {v : V} {y : β} (hS : Sep H L) (e : L[i]? = some (dictA a xs)) (hd : Ev td σ H (.ref a)) (hy : Ev ty σ H (kV (Kx.key k))) (g : DGet H a (kV (Kx.key k)) (some v)) : Ev (tDGet td ty) σ H v :=
  fun Q q => hd _ (hy _ ⟨a, v, rfl, g, q⟩)
theorem dget_some {y : β} (hS : Sep H L) (e : L[i]? = some (dictA a xs)) (h : dget xs k = some y) : ∃ v, DGet H a (kV (Kx.key k)) (some v) ∧ Im.im G H v y := by
  obtain ⟨r, g, h1, _⟩ := dget_at hS e (k := k) h
  obtain ⟨v, rfl, m⟩ := h1 y rfl
  exact ⟨v, g, m⟩
/-- what d[k] wants: that k is there -/
def dgetR (xs : List (κ × β)) (k : κ) : R β := match dget xs k with
  | some y => .ok y
  | none => .bad
theorem wp_dget {ρ : Type} {q : ρ → Prop} {e : Exc → Prop} {f : β → R ρ} (h : R.wp ((dgetR xs k).bind f) q e) : ∃ y, dget xs k = some y ∧ R.wp (f y) q e := by
  unfold dgetR at h
  cases c : dget xs k with
  | none => rw [c] at h; exact h.elim
  | some y => rw [c] at h; exact ⟨y, rfl, h⟩
/-- d[k] = v -/
theorem k_setD {v : V} {y : β} {P : Hp → Prop} (hS : Sep H L) (e : L[i]? = some (dictA a xs)) (hv : Im.im G H v y) (hl : xs.length < sizeLine) (e2 : L.set i (dictA a (dput xs k y)) = L') (q : ∀ H', Sep H' L' → P H') : rSetD (.ref a) (kV (Kx.key k)) v H P := by
  obtain ⟨ps, h, m⟩ := hS.dict e
  refine ⟨a, _, rfl, .inl ⟨ps, Kx.key k, h, rfl, by rw [m.len]; exact hl, rfl⟩, q _ ?_⟩
  subst e2
  exact hS.putD e (m.put hv)
/-- d.get(k, z): what it tells stays -/
theorem k_dget2 {z : V} {y : β} (hS : Sep H L) (e : L[i]? = some (dictA a xs)) (hd : Ev td σ H (.ref a)) (hy : Ev ty σ H (kV (Kx.key k))) (hx : Ev tx σ H z) (hz : Im.im G H z y) (q : ∀ v, Sep H (imA v ((dget xs k).getD y) :: L) → Q v H) : tDGet2 td ty tx σ H Q := by
  refine hd _ ⟨a, rfl, isD_of hS e, hy _ (hx _ ?_)⟩
  obtain ⟨r, g, h1, h2⟩ := dget_at hS e (k := k) rfl
  refine ⟨r, g, ?_⟩
  cases c : dget xs k with
  | none =>
    rw [h2 c]
    exact q z (by rw [c]; exact hS.addIm hz)
  | some w =>
    obtain ⟨v, rfl, m⟩ := h1 w c
    exact q v (by rw [c]; exact hS.addIm m)
/-- d.pop(k), k there -/
theorem k_dpop1 {y : β} (hS : Sep H L) (e : L[i]? = some (dictA a xs)) (hd : Ev td σ H (.ref a)) (hy : Ev ty σ H (kV (Kx.key k))) (h : dget xs k = some y) (e2 : L.set i (dictA a (ddrop xs k)) = L') (q : ∀ v H', Sep H' (imA v y :: L') → Q v H') : tDPop1 td ty σ H Q := by
  obtain ⟨ps, hp, m⟩ := hS.dict e
  obtain ⟨v, hv, hm⟩ := (m.val k).1 y h
  refine hd _ ⟨a, rfl, isD_of hS e, hy _ ⟨ps, Kx.key k, v, hp, rfl, hv, q v _ ?_⟩⟩
  subst e2
  have h1 := (hS.addIm hm).putD (i := i + 1) (a := a) (xs := xs) (ys := ddrop xs k) (ps := dropK ps (Kx.key k)) (by simpa using e) (m.drop k)
  simpa using h1
/-- len(d) -/
theorem ev_lenD {ta : TE} (hS : Sep H L) (e : L[i]? = some (dictA a xs)) (ha : Ev ta σ H (.ref a)) : Ev (tCB (fun xs H Q => ∃ a kvs, xs = [V.ref a] ∧ H a = some (.dK kvs) ∧ Q (.int (kvs : List (Key × V)).length) H) (tCons ta tNil)) σ H (.int xs.length) := by
  obtain ⟨ps, hp, m⟩ := hS.dict e
  exact ev_cb (ea_cons ha ea_nil) fun _ q => ⟨a, ps, rfl, hp, by rw [m.len]; exact q⟩
end Ml

/-! ### lists of own things: one of them taken out, and put back -/
namespace Ml
open PySem PySem.Spec PyProof.Rows L2
variable {G : Gx} {β : Type} {H : Hp} {M : List (Asn G)}
def elemsE (E : Addr → β → Asn G) (l : List (Addr × β)) : List (Asn G) := l.map fun q => E q.1 q.2
def listE (E : Addr → β → Asn G) (a : Addr) (xs : List β) : Asn G := exA fun (ps : List Addr) => andA (ps.length = xs.length) (star (cell a (.lst (ps.map V.ref)) :: elemsE E (ps.zip xs)))
/-- all but the j-th -/
def listH (E : Addr → β → Asn G) (a : Addr) (ps : List Addr) (xs : List β) (j : Nat) : Asn G := star (cell a (.lst (ps.map V.ref)) :: elemsE E ((ps.zip xs).eraseIdx j))
theorem erase_map {α γ : Type} (f : α → γ) : ∀ (l : List α) (j : Nat), (l.map f).eraseIdx j = (l.eraseIdx j).map f
  | [], j => by simp
  | x :: l, 0 => rfl
  | x :: l, j + 1 => by simp only [List.map_cons, List.eraseIdx_cons_succ]; rw [erase_map f l j]
theorem perm_out {α : Type} : ∀ {l : List α} {j : Nat} {x : α}, l[j]? = some x → (x :: l.eraseIdx j).Perm l
  | [], j, x, h => by cases h
  | y :: l, 0, x, h => by
    have : y = x := by simpa using h
    subst this; exact .refl _
  | y :: l, j + 1, x, h => by
    have h2 : l[j]? = some x := by simpa using h
    exact (List.Perm.swap y x _).trans ((perm_out h2).cons y)
theorem focusE {E : Addr → β → Asn G} {a : Addr} {xs : List β} {j : Nat} {x : β} (h : Sep H (listE E a xs :: M)) (hj : xs[j]? = some x) : ∃ ps p, ps.length = xs.length ∧ ps[j]? = some p ∧ Sep H (E p x :: listH E a ps xs j :: M) := by
  obtain ⟨ps, h⟩ := Sep.ex h
  obtain ⟨hl, h⟩ := Sep.and h
  have hlt : j < xs.length := (List.getElem?_eq_some_iff.mp hj).1
  have hp : ps[j]? = some ps[j] := List.getElem?_eq_getElem (by omega)
  refine ⟨ps, ps[j], hl, hp, ?_⟩
  have h := Sep.star1 h
  have hz : (ps.zip xs)[j]? = some (ps[j], x) := by
    rw [List.getElem?_zip_eq_some]; exact ⟨hp, hj⟩
  have hz2 : (elemsE E (ps.zip xs))[j]? = some (E ps[j] x) := by unfold elemsE; rw [List.getElem?_map, hz]; rfl
  have e : (elemsE E (ps.zip xs)).eraseIdx j = elemsE E ((ps.zip xs).eraseIdx j) := by unfold elemsE; rw [erase_map]
  have P := perm_out hz2
  rw [e] at P
  have h2 : Sep H (E ps[j] x :: ((cell a (.lst (ps.map V.ref)) :: elemsE E ((ps.zip xs).eraseIdx j)) ++ M)) := by
    refine h.perm ?_
    have := (P.symm.cons (cell (G := G) a (.lst (ps.map V.ref)))).append_right M
    exact this.trans (by exact List.Perm.swap _ _ _)
  have h3 : Sep H ((cell a (.lst (ps.map V.ref)) :: elemsE E ((ps.zip xs).eraseIdx j)) ++ (E ps[j] x :: M)) := h2.perm (List.perm_middle.symm)
  exact (Sep.unstar1 h3).perm (List.Perm.swap _ _ _)
theorem unfocusE {E : Addr → β → Asn G} {a : Addr} {xs : List β} {ps : List Addr} {j : Nat} {p : Addr} {y : β} (hl : ps.length = xs.length) (hp : ps[j]? = some p) (h : Sep H (E p y :: listH E a ps xs j :: M)) : Sep H (listE E a (xs.set j y) :: M) := by
  refine Sep.exI ps (Sep.andI (by rw [List.length_set]; exact hl) (Sep.unstar1 ?_))
  have hlt : j < ps.length := (List.getElem?_eq_some_iff.mp hp).1
  have hz : (ps.zip (xs.set j y))[j]? = some (p, y) := by
    rw [List.getElem?_zip_eq_some]; exact ⟨hp, by rw [List.getElem?_set_self (by omega)]⟩
  have hz2 : (elemsE E (ps.zip (xs.set j y)))[j]? = some (E p y) := by unfold elemsE; rw [List.getElem?_map, hz]; rfl
  have e0 : (ps.zip (xs.set j y)).eraseIdx j = (ps.zip xs).eraseIdx j := by
    clear h hz hz2
    induction ps generalizing xs j with
    | nil => cases hp
    | cons q ps ih =>
      cases xs with
      | nil => cases hl
      | cons x xs =>
        cases j with
        | zero => rfl
        | succ j =>
          simp only [List.set_cons_succ, List.zip_cons_cons, List.eraseIdx_cons_succ]
          rw [ih (by simpa using hl) (by simpa using hp) (by simpa using hlt)]
  have e : (elemsE E (ps.zip (xs.set j y))).eraseIdx j = elemsE E ((ps.zip xs).eraseIdx j) := by unfold elemsE; rw [erase_map, e0]
  have P := perm_out hz2
  rw [e] at P
  have h1 : Sep H ((cell a (.lst (ps.map V.ref)) :: elemsE E ((ps.zip xs).eraseIdx j)) ++ (E p y :: M)) := Sep.star1 (h.perm (List.Perm.swap _ _ _))
  have h2 : Sep H (E p y :: ((cell a (.lst (ps.map V.ref)) :: elemsE E ((ps.zip xs).eraseIdx j)) ++ M)) := h1.perm List.perm_middle
  refine h2.perm ?_
  have := (P.cons (cell (G := G) a (.lst (ps.map V.ref)))).append_right M
  exact (List.Perm.swap _ _ _).trans this
end Ml

/-! ### dicts of own things -/
namespace Ml
open PySem PySem.Spec PyProof.Rows L2
variable {G : Gx} {κ β : Type} [Kx κ] [DecidableEq κ] {H : Hp} {M : List (Asn G)}
def refsD (kvs : List (κ × β)) (ps : List Addr) : List (Key × V) := List.zipWith (fun kv p => (Kx.key kv.1, V.ref p)) kvs ps
def dictE (E : Addr → β → Asn G) (a : Addr) (kvs : List (κ × β)) : Asn G := exA fun (ps : List Addr) => andA (ps.length = kvs.length ∧ (kvs.map (·.1)).Nodup) (star (cell a (.dK (refsD kvs ps)) :: elemsE E (ps.zip (kvs.map (·.2)))))
/-- all but the j-th -/
def dictH (E : Addr → β → Asn G) (a : Addr) (ps : List Addr) (kvs : List (κ × β)) (j : Nat) : Asn G := star (cell a (.dK (refsD kvs ps)) :: elemsE E ((ps.zip (kvs.map (·.2))).eraseIdx j))
theorem refs_val {kvs : List (κ × β)} {ps : List Addr} {j : Nat} {k : κ} {y : β} {p : Addr} (hl : ps.length = kvs.length) (hn : (kvs.map (·.1)).Nodup) (hj : kvs[j]? = some (k, y)) (hp : ps[j]? = some p) : valV (refsD kvs ps) (Kx.key k) = some (.ref p) := by
  induction kvs generalizing ps j with
  | nil => cases hj
  | cons kv kvs ih =>
    cases ps with
    | nil => cases hl
    | cons q ps =>
      cases j with
      | zero =>
        have h1 : kv = (k, y) := by simpa using hj
        have h2 : q = p := by simpa using hp
        subst h1 h2
        show valV ((Kx.key k, V.ref q) :: refsD kvs ps) (Kx.key k) = _
        unfold valV
        simp
      | succ j =>
        have hj' : kvs[j]? = some (k, y) := by simpa using hj
        have hp' : ps[j]? = some p := by simpa using hp
        rw [List.map_cons, List.nodup_cons] at hn
        have hk : ¬ kv.1 = k := fun e => hn.1 (List.mem_map.mpr ⟨(k, y), List.mem_of_getElem? hj', e.symm⟩)
        have := ih (ps := ps) (j := j) (by simpa using hl) hn.2 hj' hp'
        show valV ((Kx.key kv.1, V.ref q) :: refsD kvs ps) (Kx.key k) = _
        unfold valV at this ⊢
        have hk2 : ¬ Kx.key kv.1 = Kx.key k := fun e => hk (Kx.inj e)
        simpa [hk2] using this
theorem focusD {E : Addr → β → Asn G} {a : Addr} {kvs : List (κ × β)} {j : Nat} {k : κ} {y : β} (h : Sep H (dictE E a kvs :: M)) (hj : kvs[j]? = some (k, y)) :
    ∃ ps p, (ps.length = kvs.length ∧ (kvs.map (·.1)).Nodup) ∧ ps[j]? = some p ∧ DGet H a (kV (Kx.key k)) (some (.ref p)) ∧ Sep H (E p y :: dictH E a ps kvs j :: M) := by
  obtain ⟨ps, h⟩ := Sep.ex h
  obtain ⟨⟨hl, hn⟩, h⟩ := Sep.and h
  have hlt : j < kvs.length := (List.getElem?_eq_some_iff.mp hj).1
  have hp : ps[j]? = some ps[j] := List.getElem?_eq_getElem (by omega)
  have h := Sep.star1 h
  have hc : H a = some (.dK (refsD kvs ps)) := h.getCell (i := 0) rfl
  refine ⟨ps, ps[j], ⟨hl, hn⟩, hp, ?_, ?_⟩
  · have := DGet.k (H := H) (a := a) (kvs := refsD kvs ps) (k := Kx.key k) hc
    rw [refs_val hl hn hj hp] at this
    exact this
  have hz : (ps.zip (kvs.map (·.2)))[j]? = some (ps[j], y) := by
    rw [List.getElem?_zip_eq_some]; exact ⟨hp, by rw [List.getElem?_map, hj]; rfl⟩
  have hz2 : (elemsE E (ps.zip (kvs.map (·.2))))[j]? = some (E ps[j] y) := by unfold elemsE; rw [List.getElem?_map, hz]; rfl
  have e : (elemsE E (ps.zip (kvs.map (·.2)))).eraseIdx j = elemsE E ((ps.zip (kvs.map (·.2))).eraseIdx j) := by unfold elemsE; rw [erase_map]
  have P := perm_out hz2
  rw [e] at P
  have h2 : Sep H (E ps[j] y :: ((cell a (.dK (refsD kvs ps)) :: elemsE E ((ps.zip (kvs.map (·.2))).eraseIdx j)) ++ M)) := by
    refine h.perm ?_
    have := (P.symm.cons (cell (G := G) a (.dK (refsD kvs ps)))).append_right M
    exact this.trans (by exact List.Perm.swap _ _ _)
  have h3 : Sep H ((cell a (.dK (refsD kvs ps)) :: elemsE E ((ps.zip (kvs.map (·.2))).eraseIdx j)) ++ (E ps[j] y :: M)) := h2.perm (List.perm_middle.symm)
  exact (Sep.unstar1 h3).perm (List.Perm.swap _ _ _)
theorem zip_hole {ps : List Addr} {xs : List β} {j : Nat} {z : β} (hl : ps.length = xs.length) : (ps.zip (xs.set j z)).eraseIdx j = (ps.zip xs).eraseIdx j := by
  induction ps generalizing xs j with
  | nil => simp
  | cons q ps ih =>
    cases xs with
    | nil => cases hl
    | cons x xs =>
      cases j with
      | zero => rfl
      | succ j =>
        simp only [List.set_cons_succ, List.zip_cons_cons, List.eraseIdx_cons_succ]
        rw [ih (by simpa using hl)]
theorem put_at {kvs : List (κ × β)} {j : Nat} {k : κ} {y z : β} (hn : (kvs.map (·.1)).Nodup) (hj : kvs[j]? = some (k, y)) : dput kvs k z = kvs.set j (k, z) := by
  have hany : (kvs.any fun kv => decide (kv.1 = k)) = true := List.any_eq_true.mpr ⟨(k, y), List.mem_of_getElem? hj, by simp⟩
  unfold dput
  rw [if_pos hany]
  clear hany
  induction kvs generalizing j with
  | nil => cases hj
  | cons kv kvs ih =>
    rw [List.map_cons, List.nodup_cons] at hn
    cases j with
    | zero =>
      have h1 : kv = (k, y) := by simpa using hj
      subst h1
      have : kvs.map (fun kv => if kv.1 = k then (kv.1, z) else kv) = kvs := by
        have : ∀ q, q ∈ kvs → (if q.1 = k then (q.1, z) else q) = q := fun q hq => by
          rw [if_neg]
          intro e
          exact hn.1 (List.mem_map.mpr ⟨q, hq, e⟩)
        conv => rhs; rw [← List.map_id kvs]
        exact List.map_congr_left this
      simp [this]
    | succ j =>
      have hj' : kvs[j]? = some (k, y) := by simpa using hj
      have hk : ¬ kv.1 = k := fun e => hn.1 (List.mem_map.mpr ⟨(k, y), List.mem_of_getElem? hj', e.symm⟩)
      rw [List.map_cons, if_neg hk, List.set_cons_succ, ih hn.2 hj']
theorem unfocusD {E : Addr → β → Asn G} {a : Addr} {kvs : List (κ × β)} {ps : List Addr} {j : Nat} {k : κ} {p : Addr} {y z : β} (hl : ps.length = kvs.length ∧ (kvs.map (·.1)).Nodup) (hj : kvs[j]? = some (k, y)) (hp : ps[j]? = some p) (h : Sep H (E p z :: dictH E a ps kvs j :: M)) :
    Sep H (dictE E a (dput kvs k z) :: M) := by
  rw [put_at hl.2 hj]
  have hlt : j < kvs.length := (List.getElem?_eq_some_iff.mp hj).1
  have hget : kvs[j] = (k, y) := by rw [List.getElem?_eq_getElem hlt] at hj; exact Option.some.inj hj
  have ek : (kvs.set j (k, z)).map (·.1) = kvs.map (·.1) := by
    rw [List.map_set]
    have : (kvs.map (·.1))[j]'(by simpa using hlt) = k := by rw [List.getElem_map, hget]
    rw [← this]
    exact List.set_getElem_self _
  have er : refsD (kvs.set j (k, z)) ps = refsD kvs ps := by
    unfold refsD
    have : ∀ (l : List (κ × β)) (l' : List (κ × β)) (qs : List Addr), l.map (·.1) = l'.map (·.1) → List.zipWith (fun kv p => (Kx.key kv.1, V.ref p)) l qs = List.zipWith (fun kv p => (Kx.key kv.1, V.ref p)) l' qs := by
      intro l
      induction l with
      | nil => intro l' qs e; cases l' with
        | nil => rfl
        | cons _ _ => cases e
      | cons x l ih =>
        intro l' qs e
        cases l' with
        | nil => cases e
        | cons x' l' =>
          rw [List.map_cons, List.map_cons, List.cons.injEq] at e
          cases qs with
          | nil => rfl
          | cons q qs => rw [List.zipWith_cons_cons, List.zipWith_cons_cons, e.1, ih l' qs e.2]
    exact this _ _ ps ek
  have ev : (kvs.set j (k, z)).map (·.2) = (kvs.map (·.2)).set j z := by rw [List.map_set]
  refine Sep.exI ps (Sep.andI ⟨by rw [List.length_set]; exact hl.1, by rw [ek]; exact hl.2⟩ (Sep.unstar1 ?_))
  rw [er, ev]
  have hlx : ps.length = (kvs.map (·.2)).length := by rw [List.length_map]; exact hl.1
  have hz : (ps.zip ((kvs.map (·.2)).set j z))[j]? = some (p, z) := by
    rw [List.getElem?_zip_eq_some]; exact ⟨hp, by rw [List.getElem?_set_self (by rw [List.length_map]; exact hlt)]⟩
  have hz2 : (elemsE E (ps.zip ((kvs.map (·.2)).set j z)))[j]? = some (E p z) := by unfold elemsE; rw [List.getElem?_map, hz]; rfl
  have e0 : (ps.zip ((kvs.map (·.2)).set j z)).eraseIdx j = (ps.zip (kvs.map (·.2))).eraseIdx j := zip_hole hlx
  have e : (elemsE E (ps.zip ((kvs.map (·.2)).set j z))).eraseIdx j = elemsE E ((ps.zip (kvs.map (·.2))).eraseIdx j) := by unfold elemsE; rw [erase_map, e0]
  have P := perm_out hz2
  rw [e] at P
  have h1 : Sep H ((cell a (.dK (refsD kvs ps)) :: elemsE E ((ps.zip (kvs.map (·.2))).eraseIdx j)) ++ (E p z :: M)) := Sep.star1 (h.perm (List.Perm.swap _ _ _))
  have h2 : Sep H (E p z :: ((cell a (.dK (refsD kvs ps)) :: elemsE E ((ps.zip (kvs.map (·.2))).eraseIdx j)) ++ M)) := h1.perm List.perm_middle
  refine h2.perm ?_
  have := (P.cons (cell (G := G) a (.dK (refsD kvs ps)))).append_right M
  exact (List.Perm.swap _ _ _).trans this
end Ml

/-! ### a dict of own things: a new entry -/
namespace Ml
open PySem PySem.Spec PyProof.Rows L2
variable {G : Gx} {κ β : Type} [Kx κ] [DecidableEq κ] {H : Hp} {M : List (Asn G)}
theorem refs_new {y : β} {kvs : List (κ × β)} {ps : List Addr} {k : κ} {p : Addr} (hl : ps.length = kvs.length) (hk : ¬ k ∈ kvs.map (·.1)) : putK (refsD kvs ps) (Kx.key k) (.ref p) = refsD (kvs ++ [(k, y)]) (ps ++ [p]) := by
  have h1 : (refsD kvs ps).any (fun kv => decide (kv.1 = Kx.key k)) = false := by
    rw [Bool.eq_false_iff]
    intro z
    obtain ⟨q, hq, e⟩ := List.any_eq_true.mp z
    have e := of_decide_eq_true e
    unfold refsD at hq
    induction kvs generalizing ps with
    | nil => simp at hq
    | cons kv kvs ih =>
      cases ps with
      | nil => cases hl
      | cons r ps =>
        rw [List.zipWith_cons_cons] at hq
        rcases List.mem_cons.mp hq with rfl | hq
        · exact hk (by rw [List.map_cons]; exact List.mem_cons.mpr (.inl (Kx.inj e).symm))
        · exact ih (ps := ps) (by simpa using hl) (fun m => hk (by rw [List.map_cons]; exact List.mem_cons_of_mem _ m)) (by
            refine List.any_eq_true.mpr ⟨q, hq, by simpa using e⟩) hq
  unfold putK
  rw [h1]
  unfold refsD
  rw [List.zipWith_append hl.symm]
  rfl
theorem refs_len {kvs : List (κ × β)} {ps : List Addr} (hl : ps.length = kvs.length) : (refsD kvs ps).length = kvs.length := by
  unfold refsD
  rw [List.length_zipWith]; omega
/-- d[k] = v, v an own thing, k new -/
theorem k_newE {E : Addr → β → Asn G} {a : Addr} {kvs : List (κ × β)} {k : κ} {p : Addr} {y : β} {P : Hp → Prop} (h : Sep H (dictE E a kvs :: E p y :: M)) (hk : ¬ k ∈ kvs.map (·.1)) (hz : kvs.length < sizeLine)
    (q : ∀ H', Sep H' (dictE E a (kvs ++ [(k, y)]) :: M) → P H') : rSetD (.ref a) (kV (Kx.key k)) (.ref p) H P := by
  obtain ⟨ps, h⟩ := Sep.ex h
  obtain ⟨⟨hl, hn⟩, h⟩ := Sep.and h
  have h := Sep.star1 h
  have hc : H a = some (.dK (refsD kvs ps)) := h.getCell (i := 0) rfl
  refine ⟨a, _, rfl, .inl ⟨refsD kvs ps, Kx.key k, hc, rfl, by rw [refs_len hl]; exact hz, rfl⟩, q _ ?_⟩
  have h2 := h.put (i := 0) (a := a) (o := .dK (refsD kvs ps)) (o' := .dK (putK (refsD kvs ps) (Kx.key k) (.ref p))) rfl rfl rfl
  refine Sep.exI (ps ++ [p]) (Sep.andI ⟨by rw [List.length_append, List.length_append, hl]; rfl, ?_⟩ (Sep.unstar1 ?_))
  · rw [List.map_append, List.nodup_append]
    refine ⟨hn, by simp, fun x hx z hz => ?_⟩
    rw [List.map_singleton, List.mem_singleton] at hz
    intro e
    have hz : z = k := hz
    exact hk (by rw [← hz, ← e]; exact hx)
  · have e1 : elemsE E ((ps ++ [p]).zip ((kvs ++ [(k, y)]).map (·.2))) = elemsE E (ps.zip (kvs.map (·.2))) ++ [E p y] := by
      unfold elemsE
      rw [List.map_append, List.zip_append (by rw [List.length_map]; exact hl), List.map_append]
      rfl
    rw [e1, ← refs_new (y := y) hl hk]
    have : ((cell a (.dK (putK (refsD kvs ps) (Kx.key k) (.ref p))) :: elemsE E (ps.zip (kvs.map (·.2)))) ++ (E p y :: M)) = ((cell a (.dK (putK (refsD kvs ps) (Kx.key k) (.ref p))) :: (elemsE E (ps.zip (kvs.map (·.2))) ++ [E p y])) ++ M) := by simp
    rw [← this]
    exact h2
end Ml

/-! ### a dict beside a text or a number: never the same -/
namespace PySem.SeqAt
open AutoSeq1 (wpAny_loadPart')
open MeetsSeq MeetsSeq2 MeetsSeq3
section
variable {prog : Program} {w : World} {A : Around} {s : Shared} {E : Value → Shared → Prop}
def DictAt (s : Shared) (d : Addr) : Prop := ∃ dd es ep sl, s.heap.get? d = some ⟨.type "dict", dd, .dict es ep, sl⟩
theorem DictAt.ty {d : Addr} (h : DictAt s d) : s.TypeIs (.ref d) "dict" := by obtain ⟨dd, es, ep, sl, h⟩ := h; exact ⟨_, h, rfl⟩
theorem dict_eq_other {d : Addr} {x : Value} {T : String} (hd : s.TypeIs (.ref d) "dict") (hx : s.TypeIs x T) (hs : isSubtype (.type T) (.type "dict") = pure false) {Q : Value → Shared → Prop} (h : Q .notImplemented s) :
    wpAny (model prog w) A (call (.builtin "dict.__eq__") [.ref d, x]) Q E s := by
  refine wpAny_call_entry PySem.F.slot_dict_eq hd PySem.F.entry_dict_eq ?_ (PySem.F.args_dict_eq_2 _ _)
  show wpAny _ _ (Builtin.Dict.dictSlotArgs "__eq__" ⟨[.ref d, x], []⟩ >>= _) _ _ s
  refine wpAny_bind ?_
  unfold Builtin.Dict.dictSlotArgs
  refine wpAny_bind (PySem.wpAny_notOrdered_dict hd ?_)
  show wpAny _ _ (pure (Value.ref d, x)) _ _ s
  refine wpAny_pure ?_
  refine wpAny_bind (wpAny_isInstance (T := T) hx hs ?_)
  simp only [Bool.not_false, if_true]
  exact wpAny_bind (wpAny_rule (wpAny_pure ⟨_, rfl, h⟩))
theorem dict_ne_other {d : Addr} {x : Value} {T : String} (hd : s.TypeIs (.ref d) "dict") (hx : s.TypeIs x T) (hs : isSubtype (.type T) (.type "dict") = pure false) {Q : Value → Shared → Prop} (h : Q .notImplemented s) :
    wpAny (model prog w) A (call (.builtin "dict.__ne__") [.ref d, x]) Q E s := by
  refine wpAny_call_entry PySem.F.slot_dict_ne hd PySem.F.entry_dict_ne ?_ (PySem.F.args_dict_ne_2 _ _)
  show wpAny _ _ (Builtin.Dict.dictSlotArgs "__ne__" ⟨[.ref d, x], []⟩ >>= _) _ _ s
  refine wpAny_bind ?_
  unfold Builtin.Dict.dictSlotArgs
  refine wpAny_bind (PySem.wpAny_notOrdered_dict hd ?_)
  show wpAny _ _ (pure (Value.ref d, x)) _ _ s
  refine wpAny_pure ?_
  refine wpAny_bind (wpAny_isInstance (T := T) hx hs ?_)
  simp only [Bool.not_false, if_true]
  exact wpAny_bind (wpAny_rule (wpAny_pure ⟨_, rfl, h⟩))
theorem int_eq_dict (b : Int) (u : Tok) (l : Addr) (dd : Option Addr) (es : Array DictEntry) (ep : Nat) (sl : Array (Option Value)) :
    Meets (Builtin.«int.__eq__» ⟨[.int b u, .ref l], []⟩) (fun _ R s => s.heap.get? l = some ⟨.type "dict", dd, .dict es ep, sl⟩ ∧ R (.ok (.ret .notImplemented)) s) :=
  .of_wp fun prog w A R s h => by obtain ⟨hp, g, d, tk, os⟩ := s; obtain ⟨hl, h⟩ := h; wp_walk using wpAny_loadPart' hl, wpAny_load hl; exact ⟨_, rfl, h⟩
theorem str_eq_dict (b : Str) (u : Tok) (l : Addr) (dd : Option Addr) (es : Array DictEntry) (ep : Nat) (sl : Array (Option Value)) :
    Meets (Builtin.«str.__eq__» ⟨[.str b u, .ref l], []⟩) (fun _ R s => s.heap.get? l = some ⟨.type "dict", dd, .dict es ep, sl⟩ ∧ R (.ok (.ret .notImplemented)) s) :=
  .of_wp fun prog w A R s h => by obtain ⟨hp, g, d, tk, os⟩ := s; obtain ⟨hl, h⟩ := h; wp_walk using wpAny_loadPart' hl, wpAny_load hl; exact ⟨_, rfl, h⟩
theorem int_ne_dict (b : Int) (u : Tok) (l : Addr) (dd : Option Addr) (es : Array DictEntry) (ep : Nat) (sl : Array (Option Value)) :
    Meets (Builtin.«int.__ne__» ⟨[.int b u, .ref l], []⟩) (fun _ R s => s.heap.get? l = some ⟨.type "dict", dd, .dict es ep, sl⟩ ∧ R (.ok (.ret .notImplemented)) s) :=
  .of_wp fun prog w A R s h => by obtain ⟨hp, g, d, tk, os⟩ := s; obtain ⟨hl, h⟩ := h; wp_walk using wpAny_loadPart' hl, wpAny_load hl; exact ⟨_, rfl, h⟩
theorem str_ne_dict (b : Str) (u : Tok) (l : Addr) (dd : Option Addr) (es : Array DictEntry) (ep : Nat) (sl : Array (Option Value)) :
    Meets (Builtin.«str.__ne__» ⟨[.str b u, .ref l], []⟩) (fun _ R s => s.heap.get? l = some ⟨.type "dict", dd, .dict es ep, sl⟩ ∧ R (.ok (.ret .notImplemented)) s) :=
  .of_wp fun prog w A R s h => by obtain ⟨hp, g, d, tk, os⟩ := s; obtain ⟨hl, h⟩ := h; wp_walk using wpAny_loadPart' hl, wpAny_load hl; exact ⟨_, rfl, h⟩
theorem eq_dict_str {d : Addr} {b : Str} {u : Tok} (hd : DictAt s d) (hu : A.units < cLine) {Q : Value → Shared → Prop} (h : Q (.bool false) s) : wpAny (model prog w) A (richCompare .Eq (.ref d) (.str b u)) Q E s := by
  obtain ⟨dd, es, ep, sl, ho⟩ := id hd
  have hd := hd.ty
  exact rc_eq_decline_or (k := false) hd (typeIs_str s b u) (by decide) F.sub_str_dict F.slot_dict_eq F.slot_str_eq_refl
    (fun _ hq => dict_eq_other hd (typeIs_str s b u) F.sub_str_dict hq)
    (fun _ hq => call_meets F.slot_str_eq_refl (typeIs_str s b u) F.entry_str_eq (F.args_str_eq_2 _ _) (str_eq_dict b u d dd es ep sl) ⟨ho, hq⟩)
    (fun _ hq => wpAny_of_eq (rfl : isSame (.ref d) (.str b u) = pure false) hq) (.inr hu) h
theorem eq_dict_int {d : Addr} {b : Int} {u : Tok} (hd : DictAt s d) (hu : A.units < cLine) {Q : Value → Shared → Prop} (h : Q (.bool false) s) : wpAny (model prog w) A (richCompare .Eq (.ref d) (.int b u)) Q E s := by
  obtain ⟨dd, es, ep, sl, ho⟩ := id hd
  have hd := hd.ty
  exact rc_eq_decline_or (k := false) hd (typeIs_int s b u) (by decide) F.sub_int_dict F.slot_dict_eq F.slot_int_eq_refl
    (fun _ hq => dict_eq_other hd (typeIs_int s b u) F.sub_int_dict hq)
    (fun _ hq => call_meets F.slot_int_eq_refl (typeIs_int s b u) F.entry_int_eq (F.args_int_eq_2 _ _) (int_eq_dict b u d dd es ep sl) ⟨ho, hq⟩)
    (fun _ hq => wpAny_of_eq (rfl : isSame (.ref d) (.int b u) = pure false) hq) (.inr hu) h
theorem ne_dict_str {d : Addr} {b : Str} {u : Tok} (hd : DictAt s d) (hu : A.units < cLine) {Q : Value → Shared → Prop} (h : Q (.bool true) s) : wpAny (model prog w) A (richCompare .NotEq (.ref d) (.str b u)) Q E s := by
  obtain ⟨dd, es, ep, sl, ho⟩ := id hd
  have hd := hd.ty
  exact rc_ne_decline_or (k := false) hd (typeIs_str s b u) (by decide) F.sub_str_dict F.slot_dict_ne F.slot_str_ne_refl
    (fun _ hq => dict_ne_other hd (typeIs_str s b u) F.sub_str_dict hq)
    (fun _ hq => call_meets F.slot_str_ne_refl (typeIs_str s b u) F.entry_str_ne (F.args_str_ne_2 _ _) (str_ne_dict b u d dd es ep sl) ⟨ho, hq⟩)
    (fun _ hq => wpAny_of_eq (rfl : isSame (.ref d) (.str b u) = pure false) hq) (.inr hu) h
theorem ne_dict_int {d : Addr} {b : Int} {u : Tok} (hd : DictAt s d) (hu : A.units < cLine) {Q : Value → Shared → Prop} (h : Q (.bool true) s) : wpAny (model prog w) A (richCompare .NotEq (.ref d) (.int b u)) Q E s := by
  obtain ⟨dd, es, ep, sl, ho⟩ := id hd
  have hd := hd.ty
  exact rc_ne_decline_or (k := false) hd (typeIs_int s b u) (by decide) F.sub_int_dict F.slot_dict_ne F.slot_int_ne_refl
    (fun _ hq => dict_ne_other hd (typeIs_int s b u) F.sub_int_dict hq)
    (fun _ hq => call_meets F.slot_int_ne_refl (typeIs_int s b u) F.entry_int_ne (F.args_int_ne_2 _ _) (int_ne_dict b u d dd es ep sl) ⟨ho, hq⟩)
    (fun _ hq => wpAny_of_eq (rfl : isSame (.ref d) (.int b u) = pure false) hq) (.inr hu) h
end
end PySem.SeqAt

namespace L2
open PySem PySem.Spec PyProof.Rows
/-- a dict, beside a text or a number -/
def DqV (H : Hp) (x y : V) : Prop := (∃ a o, x = .ref a ∧ H a = some o ∧ ((∃ l, o = .dK l) ∨ ∃ l, o = .dT l)) ∧ ((∃ s, y = .str s) ∨ ∃ i, y = .int i)
def rEqX (K : PySem.W.Frag) : R2 := fun x y H Q => rEqD K x y H Q ∨ (DqV H x y ∧ Q (.bl false) H)
def rNeX (K : PySem.W.Frag) : R2 := fun x y H Q => rNeD K x y H Q ∨ (DqV H x y ∧ Q (.bl true) H)
section
variable {X : Cx} {pins : List (Addr × Obj)} {σ : St} {H : Hp} {s : Shared}
theorem dictAt {a : Addr} {o : HO} (I : Inv X pins σ H s) (e : H a = some o) (h : (∃ l, o = .dK l) ∨ ∃ l, o = .dT l) : SeqAt.DictAt s a := by
  rcases h with ⟨kvs, rfl⟩ | ⟨kvs, rfl⟩
  · obtain ⟨_, _, vs, _, o, es, ep, h1, h2, h3, _⟩ := (show ObjOk X.prog X.w H s.heap a (.dK kvs) from I.hok a _ e)
    obtain ⟨cls, dd, data, sl⟩ := o
    have h4 := h2.1
    simp only at h3 h4
    subst h3 h4
    exact ⟨_, _, _, _, h1⟩
  · obtain ⟨_, _, xs, _, o, es, ep, h1, h2, h3, _⟩ := (show ObjOk X.prog X.w H s.heap a (.dT kvs) from I.hok a _ e)
    obtain ⟨cls, dd, data, sl⟩ := o
    have h4 := h2.1
    simp only at h3 h4
    subst h3 h4
    exact ⟨_, _, _, _, h1⟩
end
theorem eqXK {X : Cx} (K : PySem.W.Frag) (hu : X.A.units + 64 < cLine) (hK : X.K = K := by rfl) : OpR X (compareOp .Eq) (rEqX K) := by
  subst hK
  intro pins s σ H x y v u Q I rx ry h
  rcases h with h | ⟨⟨⟨a, o, rfl, e, ho⟩, hy⟩, q⟩
  · exact op_eqD hu pins s σ H x y v u Q I rx ry h
  · have hd := dictAt I e ho
    obtain rfl : v = Value.ref a := rx
    rcases hy with ⟨t, rfl⟩ | ⟨t, rfl⟩
    · obtain ⟨t2, rfl⟩ := ry
      exact SeqAt.eq_dict_str hd (by omega) ⟨.bl false, H, I, rfl, q⟩
    · obtain ⟨t2, rfl⟩ := ry
      exact SeqAt.eq_dict_int hd (by omega) ⟨.bl false, H, I, rfl, q⟩
theorem neXK {X : Cx} (K : PySem.W.Frag) (hu : X.A.units + 64 < cLine) (hK : X.K = K := by rfl) : OpR X (compareOp .NotEq) (rNeX K) := by
  subst hK
  intro pins s σ H x y v u Q I rx ry h
  rcases h with h | ⟨⟨⟨a, o, rfl, e, ho⟩, hy⟩, q⟩
  · exact op_neD hu pins s σ H x y v u Q I rx ry h
  · have hd := dictAt I e ho
    obtain rfl : v = Value.ref a := rx
    rcases hy with ⟨t, rfl⟩ | ⟨t, rfl⟩
    · obtain ⟨t2, rfl⟩ := ry
      exact SeqAt.ne_dict_str hd (by omega) ⟨.bl true, H, I, rfl, q⟩
    · obtain ⟨t2, rfl⟩ := ry
      exact SeqAt.ne_dict_int hd (by omega) ⟨.bl true, H, I, rfl, q⟩
/-- tuple(row) -/
def rTupleOf (K : PySem.W.Frag) : List V → Hp → VK → Prop := fun xs H Q => ∃ p ys, xs = [.ref p] ∧ ((SqL K H p ys ∧ ∀ l, H l = none → Q (.ref l) (upd H l (.tup ys))) ∨ (SqT K H p ys ∧ Q (.ref p) H))
theorem tupleOfK {X : Cx} (K : PySem.W.Frag) (hK : X.K = K := by rfl) : CallR X (.type "tuple") (rTupleOf K) := by subst hK; exact call_tuple_of
/-- isinstance(e, c), e the exception that the suite holds -/
def rIsEd (K : PySem.W.Frag) (cls : Value) (d : Option Addr) (a : Addr) : List V → Hp → VK → Prop := fun xs H Q => ∃ D, cls = .ref D ∧ d = none ∧ ExcC K D ∧ rIsEB K D a xs H Q
theorem call_isEd {X : Cx} (K : PySem.W.Frag) {a : Addr} {cls : Value} {d : Option Addr} {oe : Obj} (hp : (a, oe) ∈ X.pn) (hz : Zc cls d oe) (hf : ∃ vs, oe.data = .fields vs) (hK : X.K = K := by rfl) : CallR X (.builtin "isinstance") (rIsEd K cls d a) := by
  intro pins s σ H xs us Q I r h
  obtain ⟨D, rfl, rfl, C, h⟩ := h
  exact call_isP K hp C hz hf hK pins s σ H xs us Q I r h
end L2
namespace Ml
open PySem PySem.Spec PyProof.Rows L2
variable {G : Gx} {H : Hp} {L : List (Asn G)} {Q : VK}
theorem ev_isXd {a : Addr} {σ : L2.St} {D : Addr} {ta tb : TE} {c : V} {cv : Value} {b : Bool} (ha : Ev ta σ H (.ref a)) (hb : Ev tb σ H c) (hc : ClsV c cv) (C : ExcC G.K D) (e : PySem.W.kitOne G.K (.ref D) cv = some b) :
    Ev (tCB (rIsEd G.K (.ref D) none a) (tCons ta (tCons tb tNil))) σ H (.bl b) := ev_cb (ea_cons ha (ea_cons hb ea_nil)) fun _ q => ⟨D, rfl, rfl, C, c, cv, b, rfl, hc, e, q⟩
theorem imL_int : ∀ {vs : List V} {xs : List Int}, imL (G := G) H vs xs → imL (G := G) H vs (xs.map Any.int)
  | [], [], _ => True.intro
  | v :: vs, x :: xs, h => ⟨any_int.mpr h.1, imL_int h.2⟩
theorem any_lstI {v : V} {xs : List Int} (h : Im.im G H v xs) : Im.im G H v (Any.lst (xs.map Any.int)) := by
  obtain ⟨a, vs, e, g, m⟩ := h
  exact any_lsts.mpr ⟨a, vs, e, g, imL_int m⟩
theorem k_tupleL {i : Nat} {a : Addr} {xs : List Any} (hS : Sep H L) (e : L[i]? = some (lstA a xs)) (k : ∀ p H', Sep H' (imA (.ref p) (Any.tup xs) :: L) → Q (.ref p) H') : rTupleOf G.K [.ref a] H Q := by
  obtain ⟨vs, h, m⟩ := hS.lst e
  exact ⟨a, vs, rfl, .inl ⟨.inl (.inl h), fun p hp => k p _ ((hS.more (same_new hp)).addIm (any_tup.mpr ⟨p, vs, rfl, upd_same, m.st (.of_same (same_new hp))⟩))⟩⟩
theorem R.need_rev {α : Type} {p : Prop} {inst : Decidable p} {k : R α} {q : α → Prop} {e : Exc → Prop} {Z : Prop} (f : p → k.wp q e → Z) (h : (@R.need α p inst k).wp q e) : Z := f (R.wp_need h).1 (R.wp_need h).2
/-! x == y, where x may be a dict -/
def dqA : Any → Any → Bool
  | .oth 1, .str _ => true
  | .oth 1, .int _ => true
  | _, _ => false
def eqX (x y : Any) : R Bool := if dqA x y = true then .ok false else eqA x y
theorem eqX_pl {x y : Any} (h : plA x = true) : eqX x y = eqA x y := by
  unfold eqX
  rw [if_neg]
  cases x with
  | oth k => rw [plA] at h; cases h
  | _ => exact Bool.false_ne_true
theorem dqA_v {v w : V} {x y : Any} (i1 : Im.im G H v x) (i2 : Im.im G H w y) (h : dqA x y = true) : DqV H v w := by
  cases x with
  | oth k =>
    rw [any_oth] at i1
    obtain ⟨a, o, rfl, e, kd, _⟩ := i1
    have hk : k = 1 := by
      by_cases z : k = 1
      · exact z
      · exfalso
        cases y <;> simp [dqA, z] at h
    subst hk
    refine ⟨⟨a, o, rfl, e, ?_⟩, ?_⟩
    · cases o with
      | dK l => exact .inl ⟨l, rfl⟩
      | dT l => exact .inr ⟨l, rfl⟩
      | frz o x => cases x <;> cases kd
      | _ => cases kd
    · cases y with
      | str s => rw [any_str] at i2; exact .inl ⟨s, i2⟩
      | int s => rw [any_int] at i2; exact .inr ⟨s, i2⟩
      | _ => simp [dqA] at h
  | _ => simp [dqA] at h
section
variable {σ : L2.St} {ta tb : TE} {v w : V} {x y : Any} {ρ : Type} {q : ρ → Prop} {e : Exc → Prop}
def EqXf (x y : Any) (b : Bool) : Prop := (dqA x y = true ∧ b = false) ∨ (plA x = true ∧ plA y = true ∧ SeqAt.shaped (pdA x) = true ∧ SeqAt.shaped (pdA y) = true ∧ b = PyData.eqv (pdA x) (pdA y))
theorem wp_eqX {f : Bool → R ρ} (h : R.wp ((eqX x y).bind f) q e) : ∃ b, EqXf x y b ∧ R.wp (f b) q e := by
  unfold eqX at h
  by_cases c : dqA x y = true
  · rw [if_pos c] at h; exact ⟨false, .inl ⟨c, rfl⟩, h⟩
  · rw [if_neg c] at h
    obtain ⟨b, h1, h2⟩ := wp_eqA h
    exact ⟨b, .inr h1, h2⟩
theorem ev_eqX {b : Bool} (ha : Ev ta σ H v) (hb : Ev tb σ H w) (i1 : Im.im G H v x) (i2 : Im.im G H w y) (h : EqXf x y b) : Ev (tOp (rEqX G.K) ta tb) σ H (.bl b) := ev_op ha hb fun Q q => by
  rcases h with ⟨h, rfl⟩ | ⟨h1, h2, h3, h4, rfl⟩
  · exact .inr ⟨dqA_v i1 i2 h, q⟩
  · exact .inl ⟨_, _, dpA i1 h1, dpA i2 h2, h3, h4, q⟩
theorem ev_neX {b : Bool} (ha : Ev ta σ H v) (hb : Ev tb σ H w) (i1 : Im.im G H v x) (i2 : Im.im G H w y) (h : EqXf x y b) : Ev (tOp (rNeX G.K) ta tb) σ H (.bl (!b)) := ev_op ha hb fun Q q => by
  rcases h with ⟨h, rfl⟩ | ⟨h1, h2, h3, h4, rfl⟩
  · exact .inr ⟨dqA_v i1 i2 h, q⟩
  · exact .inl ⟨_, _, dpA i1 h1, dpA i2 h2, h3, h4, q⟩
end
end Ml

namespace Lw
open PySem L2 Ml
structure Letter where
  sender : Str
  title : Str
  body : Str
  day : Int
  answers : Str
  deriving DecidableEq
def m_is_sign (v_sign : Nat) : R Bool :=
R.ok ((decide (v_sign ∈ (("abcdefghijklmnopqrstuvwxyz" : Str)).cps.toList)) || (decide (v_sign ∈ (("0123456789" : Str)).cps.toList)))
def m_is_word (v_thing : Any) : R Bool :=
(if (!(v_thing.is "str")) = true then R.ok true else (
(lenA v_thing).bind fun n2 =>
R.ok (!(decide (1 ≤ n2) && decide (n2 ≤ 20))))).bind fun b1 =>
if b1 = true then (
R.ok (false)) else (
(Any.asStr v_thing).bind fun s4 =>
R.need (((s4).cps.toList).length ≤ sizeLine) <|
(compR (fun (_ : Unit) (x9 : Nat) =>
(m_is_sign x9).bind fun r12 =>
R.ok ((), some (r12))) ((s4).cps.toList) ()).bind fun (t13 : Unit × List Bool) =>
R.ok (t13.2.all id))
def m_words_of (v_text : Str) : R ((List Str)) :=
R.need ((v_text).length ≤ 5592405) <|
R.need ((Txt.lower v_text).length + ((" " : Str)).length ≤ sizeLine) <|
(forR (fun (s4 : (List Str) × Str) (x5 : Nat) =>
(m_is_sign x5).bind fun r8 =>
(if r8 = true then (
R.need ((s4.2).length + (sg (x5)).length ≤ sizeLine) <|
(R.ok (s4.2 ++ (sg (x5)) : Str)).bind fun y11 =>
R.ok (s4.1, y11)) else (
(if (!decide (s4.2 = ("" : Str))) = true then (
R.need (s4.1.length < sizeLine) <|
R.ok (s4.1 ++ [s4.2], ("" : Str))) else (
R.ok (s4.1, s4.2))).bind fun (s12 : (List Str) × Str) =>
R.ok (s12.1, s12.2))).bind fun (s9 : (List Str) × Str) =>
R.ok (s9.1, s9.2)) (((Txt.lower v_text) ++ (" " : Str)).cps.toList) (([] : (List Str)), ("" : Str))).bind fun (s4 : (List Str) × Str) =>
R.ok (s4.1)
def m_each_once (v_row : (List Str)) : R ((List Str)) :=
(forR (fun (s2 : (List (Str × Bool))) (x3 : Str) =>
R.need (s2.length < sizeLine) <|
R.ok (if dhas s2 x3 then s2 else dput s2 x3 true)) (v_row) (([] : (List (Str × Bool))))).bind fun (s2 : (List (Str × Bool))) =>
R.ok (s2.map (·.1))
def m_is_text (v_thing : Any) (v_most : Int) : R Bool :=
(if (v_thing.is "str") = true then (
(lenA v_thing).bind fun n2 =>
R.ok (decide (n2 ≤ v_most))) else R.ok false).bind fun b1 =>
R.ok (b1)
def m_is_day (v_thing : Any) : R Bool :=
(if (v_thing.is "int") = true then (
(if (!(v_thing.is "bool")) = true then (
(Any.asInt v_thing).bind fun s3 =>
R.ok (decide (0 ≤ s3) && decide (s3 ≤ 9999))) else R.ok false).bind fun b2 =>
R.ok (b2)) else R.ok false).bind fun b1 =>
R.ok (b1)
def m_Letter___init__ (v_sender : Any) (v_title : Any) (v_body : Any) (v_day : Any) (v_answers : Any) : R Letter :=
(R.noexc (m_is_word v_sender)).bind fun r1 =>
(if (!r1) = true then R.ok true else (
(R.noexc (m_is_text v_title 60)).bind fun r3 =>
(if (!r3) = true then R.ok true else (
(Any.asStr v_title).bind fun s5 =>
R.ok (decide (10 ∈ (s5).cps.toList)))).bind fun b4 =>
R.ok (b4))).bind fun b2 =>
if b2 = true then (
.exc ⟨2, 0⟩) else (
(R.noexc (m_is_text v_body 400)).bind fun r9 =>
(if (!r9) = true then R.ok true else (
(R.noexc (m_is_day v_day)).bind fun r11 =>
R.ok (!r11))).bind fun b10 =>
if b10 = true then (
.exc ⟨2, 0⟩) else (
(eqX v_answers (Any.str ("" : Str))).bind fun b13 =>
(if (!b13) = true then (
(R.noexc (m_is_word v_answers)).bind fun r15 =>
R.ok (!r15)) else R.ok false).bind fun b14 =>
if b14 = true then (
.exc ⟨2, 0⟩) else (
(Any.asStr v_sender).bind fun s17 =>
(Any.asStr v_title).bind fun s20 =>
(Any.asStr v_body).bind fun s23 =>
(Any.asInt v_day).bind fun s26 =>
(Any.asStr v_answers).bind fun s29 =>
R.ok ((⟨s17, s20, s23, s26, s29⟩ : Letter)))))
def m_Letter_parts (v_self : Letter) : R ((T5 Str Str Str Int Str)) :=
R.ok ((⟨v_self.sender, v_self.title, v_self.body, v_self.day, v_self.answers⟩ : T5 _ _ _ _ _))
def m_Letter_words (v_self : Letter) : R ((List Str)) :=
(m_words_of v_self.title).bind fun r3 =>
(m_words_of v_self.body).bind fun r7 =>
R.need (r3.length + r7.length ≤ sizeLine) <|
(m_each_once (r3 ++ r7)).bind fun r11 =>
R.ok (r11)
def m_letter_of (v_thing : Any) : R Letter :=
(if (!(v_thing.is "tuple")) = true then R.ok true else (
(lenA v_thing).bind fun n2 =>
R.ok (!decide (n2 = 5)))).bind fun b1 =>
if b1 = true then (
.exc ⟨2, 0⟩) else (
(Any.asTup v_thing).bind fun xs4 =>
(idxR xs4 (0)).bind fun x6 =>
(Any.asTup v_thing).bind fun xs15 =>
(idxR xs15 (1)).bind fun x17 =>
(Any.asTup v_thing).bind fun xs26 =>
(idxR xs26 (2)).bind fun x28 =>
(Any.asTup v_thing).bind fun xs37 =>
(idxR xs37 (3)).bind fun x39 =>
(Any.asTup v_thing).bind fun xs48 =>
(idxR xs48 (4)).bind fun x50 =>
(m_Letter___init__ x6 x17 x28 x39 x50).bind fun r66 =>
R.ok (r66))
def m_law_row (v_law_script : Script) (v_law_many : Int) : R ((List Int)) :=
R.need (-(2 ^ 62) ≤ v_law_many ∧ v_law_many < 2 ^ 62) <|
(forR (fun (s3 : (List Int) × Int) (x4 : Int) =>
(if (decide (0 < (v_law_script.ns.length : Int))) = true then (
R.need (0 < (v_law_script.ns.length : Int)) <|
(idxR v_law_script.ns (x4 % (v_law_script.ns.length : Int))).bind fun x10 =>
R.ok (x10)) else (
R.ok (0))).bind fun (s8 : Int) =>
(R.ok ((((s3.2 * 48271) + s8) + x4) % 2147483647 : Int)).bind fun y11 =>
R.need (mulOk (y11) (y11)) <|
R.need (s3.1.length < sizeLine) <|
R.ok (s3.1 ++ [((y11 * y11) + (16807 * y11)) % 2147483629], y11)) (rngL 0 (v_law_many).toNat) (([] : (List Int)), 7)).bind fun (s3 : (List Int) × Int) =>
R.ok (s3.1)
def m_law_word (v_law_base : Int) (v_law_turn : Int) : R Str :=
(compR (fun (_ : Unit) (x2 : Int) =>
R.need (mulOk (v_law_base / 99991) (x2)) <|
(idxR (("abcdefghijklmnopqrstuvwxyz0123456789" : Str)).cps.toList ((((v_law_base / 64) + (7 * x2)) + ((v_law_base / 99991) * x2)) % 36)).bind fun c6 =>
R.ok ((), some (sg (c6)))) (rngL 0 20) ()).bind fun (t7 : Unit × List Str) =>
if ((decide ((v_law_base % 3) = 0)) && (decide (v_law_turn < 20))) = true then (
R.need (((cutL t7.2 none (some (1 + v_law_turn))).map (·.length)).sum + (cutL t7.2 none (some (1 + v_law_turn))).length * (("" : Str)).length ≤ 16777216) <|
R.ok (Txt.join ("" : Str) (cutL t7.2 none (some (1 + v_law_turn))))) else (
if ((decide ((v_law_base % 3) < 2)) || (decide (35 < v_law_turn))) = true then (
R.need (((cutL t7.2 none (some (1 + ((v_law_base / 3) % 16)))).map (·.length)).sum + (cutL t7.2 none (some (1 + ((v_law_base / 3) % 16)))).length * (("" : Str)).length ≤ 16777216) <|
R.need ((Txt.join ("" : Str) (cutL t7.2 none (some (1 + ((v_law_base / 3) % 16))))).length + (("x" : Str)).length ≤ sizeLine) <|
R.need ((v_law_turn : Int).natAbs.log2 < 1920) <|
R.need (((Txt.join ("" : Str) (cutL t7.2 none (some (1 + ((v_law_base / 3) % 16))))) ++ ("x" : Str)).length + (Str.ofString (toString (v_law_turn : Int))).length ≤ sizeLine) <|
R.ok (((Txt.join ("" : Str) (cutL t7.2 none (some (1 + ((v_law_base / 3) % 16))))) ++ ("x" : Str)) ++ (Str.ofString (toString (v_law_turn : Int))))) else (
(R.ok (1 + ((v_law_base / 3) % 20) : Int)).bind fun y17 =>
R.need (0 < y17) <|
(R.ok ((v_law_base / 61) % y17 : Int)).bind fun y19 =>
(idxR (("abcdefghijklmnopqrstuvwxyz0123456789" : Str)).cps.toList (((v_law_base / 2311) + v_law_turn) % 36)).bind fun c20 =>
(ixR t7.2 (y19)).bind fun j21 =>
R.need (((cutL (t7.2.set j21 (sg (c20))) none (some (y17))).map (·.length)).sum + (cutL (t7.2.set j21 (sg (c20))) none (some (y17))).length * (("" : Str)).length ≤ 16777216) <|
R.ok (Txt.join ("" : Str) (cutL (t7.2.set j21 (sg (c20))) none (some (y17))))))
def m_law_signs (v_law_number : Int) (v_law_many : Int) : R Str :=
(R.ok ((" !\"#$&'()*+,-./0123456789:;<=>?@ABCDEFGHIJKLMNOPQRSTUVWXYZ[\\]^_`" : Str) : Str)).bind fun y1 =>
R.need ((y1).length + (("abcdefghijklmnopqrstuvwxyz{|}~" : Str)).length ≤ sizeLine) <|
(R.ok (y1 ++ ("abcdefghijklmnopqrstuvwxyz{|}~" : Str) : Str)).bind fun y3 =>
R.need (-(2 ^ 62) ≤ v_law_many ∧ v_law_many < 2 ^ 62) <|
(forR (fun (s5 : Int × Str) (x6 : Int) =>
(R.ok (((s5.1 * 48271) + 11) % 2147483647 : Int)).bind fun y9 =>
(if (decide (((y9 / 7) % 3) = 0)) = true then (
R.need ((s5.2).length + ((" " : Str)).length ≤ sizeLine) <|
(R.ok (s5.2 ++ (" " : Str) : Str)).bind fun y12 =>
R.ok (y12)) else (
(if (decide (((y9 / 7) % 3) = 1)) = true then (
(idxR (("abcdeABCD012" : Str)).cps.toList ((y9 / 64) % 12)).bind fun c14 =>
R.need ((s5.2).length + (sg (c14)).length ≤ sizeLine) <|
(R.ok (s5.2 ++ (sg (c14)) : Str)).bind fun y16 =>
R.ok (y16)) else (
R.need ((y3).length ≤ sizeLine) <|
(idxR (y3).cps.toList ((y9 / 64) % 94)).bind fun c18 =>
R.need ((s5.2).length + (sg (c18)).length ≤ sizeLine) <|
(R.ok (s5.2 ++ (sg (c18)) : Str)).bind fun y20 =>
R.ok (y20))).bind fun (s13 : Str) =>
R.ok (s13))).bind fun (s10 : Str) =>
R.ok (y9, s10)) (rngL 0 (v_law_many).toNat) (v_law_number, ("" : Str))).bind fun (s5 : Int × Str) =>
R.ok (s5.2)
def m_law_parts (v_law_row_here : (List Int)) (v_law_base : Int) : R ((T5 Str Str Str Int Str)) :=
(idxR v_law_row_here (0)).bind fun x1 =>
(idxR v_law_row_here (1)).bind fun x2 =>
(m_law_signs x1 (x2 % 61)).bind fun r3 =>
(idxR v_law_row_here (2)).bind fun x4 =>
(idxR v_law_row_here (3)).bind fun x5 =>
(idxR v_law_row_here (4)).bind fun x7 =>
(idxR ([20, 20, 401]) (x7 % 3)).bind fun x8 =>
R.need (0 < x8) <|
(m_law_signs x4 (x5 % x8)).bind fun r10 =>
(idxR v_law_row_here (5)).bind fun x11 =>
(if (decide ((x11 % 4) = 0)) = true then (
(idxR v_law_row_here (6)).bind fun x14 =>
R.need ((r10).length ≤ sizeLine) <|
R.need (0 < (((r10).length : Int) + 1)) <|
(R.ok (x14 % (((r10).length : Int) + 1) : Int)).bind fun y17 =>
R.need ((r10).length ≤ sizeLine) <|
(idxR v_law_row_here (6)).bind fun x19 =>
(idxR (("\n\t" : Str)).cps.toList ((x19 / 512) % 2)).bind fun c20 =>
R.need ((cutS r10 none (some (y17))).length + (sg (c20)).length ≤ sizeLine) <|
R.need ((r10).length ≤ sizeLine) <|
R.need (((cutS r10 none (some (y17))) ++ (sg (c20))).length + (cutS r10 (some (y17)) none).length ≤ sizeLine) <|
R.need ((((cutS r10 none (some (y17))) ++ (sg (c20))) ++ (cutS r10 (some (y17)) none)).length ≤ sizeLine) <|
(R.ok (cutS (((cutS r10 none (some (y17))) ++ (sg (c20))) ++ (cutS r10 (some (y17)) none)) none (some (400)) : Str)).bind fun y25 =>
R.ok (y25)) else (
R.ok (r10))).bind fun (s12 : Str) =>
(idxR v_law_row_here (5)).bind fun x26 =>
(if (decide ((x26 % 8) = 4)) = true then (
R.need ((r3).length ≤ sizeLine) <|
R.need ((r3).length ≤ sizeLine) <|
R.need ((cutS r3 none (some (20))).length + (cutS r3 none (some (20))).length ≤ sizeLine) <|
(R.ok ((cutS r3 none (some (20))) ++ (cutS r3 none (some (20))) : Str)).bind fun y31 =>
R.need ((y31).length + ((" " : Str)).length ≤ sizeLine) <|
R.need ((y31 ++ (" " : Str)).length + (s12).length ≤ sizeLine) <|
R.need (((y31 ++ (" " : Str)) ++ s12).length ≤ sizeLine) <|
(R.ok (cutS ((y31 ++ (" " : Str)) ++ s12) none (some (400)) : Str)).bind fun y35 =>
R.ok (y31, y35)) else (
R.ok (r3, s12))).bind fun (s27 : Str × Str) =>
(idxR v_law_row_here (5)).bind fun x36 =>
(if (decide ((x36 % 8) = 1)) = true then (
R.need ((s27.1).length ≤ sizeLine) <|
R.need ((cutS s27.1 none (some (30))).length + (("\t" : Str)).length ≤ sizeLine) <|
R.need ((s27.1).length ≤ sizeLine) <|
R.need (((cutS s27.1 none (some (30))) ++ ("\t" : Str)).length + (cutS s27.1 (some (30)) (some (59))).length ≤ sizeLine) <|
(R.ok (((cutS s27.1 none (some (30))) ++ ("\t" : Str)) ++ (cutS s27.1 (some (30)) (some (59))) : Str)).bind fun y42 =>
R.ok (y42)) else (
R.ok (s27.1))).bind fun (s37 : Str) =>
(idxR v_law_row_here (7)).bind fun x43 =>
(idxR v_law_row_here (7)).bind fun x44 =>
(idxR v_law_row_here (8)).bind fun x46 =>
(idxR ([x43 % 10000, x44 % 10, 0, 9999]) (x46 % 4)).bind fun x47 =>
(idxR v_law_row_here (9)).bind fun x48 =>
(if (decide ((x48 % 2) = 0)) = true then (
(idxR v_law_row_here (9)).bind fun x50 =>
(m_law_word v_law_base ((x50 / 2) % 9)).bind fun r51 =>
R.ok (r51)) else (
R.ok (("" : Str)))).bind fun (s49 : Str) =>
(idxR v_law_row_here (10)).bind fun x52 =>
(m_law_word v_law_base (9 + (x52 % 9))).bind fun r53 =>
R.ok ((⟨r53, s37, s27.2, x47, s49⟩ : T5 _ _ _ _ _))
def m_law_of_one_class (v_law_e : Exc) : R Bool :=
(R.ok ([([1] : List Nat).contains v_law_e.cls, ([2] : List Nat).contains v_law_e.cls, ([3] : List Nat).contains v_law_e.cls, ([4] : List Nat).contains v_law_e.cls] : (List Bool))).bind fun y2 =>
R.need (y2.length + ([([5] : List Nat).contains v_law_e.cls, ([6] : List Nat).contains v_law_e.cls]).length ≤ sizeLine) <|
(R.ok (y2 ++ ([([5] : List Nat).contains v_law_e.cls, ([6] : List Nat).contains v_law_e.cls]) : (List Bool))).bind fun y6 =>
(if (([0, 1, 2, 3, 4, 5, 6] : List Nat).contains v_law_e.cls) = true then (
R.need (Lay.lay (y6 : (List Bool)) = true) <|
R.need (Lay.lay (true : Bool) = true) <|
R.ok (decide (((y6.countP fun y => decide (y = true) : Nat) : Int) = 1))) else R.ok false).bind fun b7 =>
R.ok (b7)
def m_law_odd_word (v_law_number : Int) (v_law_word_here : Str) : R Any :=
(idxR ((" AZ_-.,\n\t~`{\x40[/:" : Str)).cps.toList ((v_law_number / 8) % 16)).bind fun c1 =>
R.need ((v_law_word_here).length ≤ sizeLine) <|
R.need (0 < ((v_law_word_here).length : Int)) <|
(R.ok ((v_law_number / 128) % ((v_law_word_here).length : Int) : Int)).bind fun y4 =>
R.need ((v_law_word_here).length + (("abcdefghijklmnopqrstu" : Str)).length ≤ sizeLine) <|
R.need ((v_law_word_here ++ ("abcdefghijklmnopqrstu" : Str)).length ≤ sizeLine) <|
(R.ok (cutS (v_law_word_here ++ ("abcdefghijklmnopqrstu" : Str)) none (some (21)) : Str)).bind fun y7 =>
R.need ((v_law_word_here).length ≤ sizeLine) <|
R.need ((cutS v_law_word_here none (some (y4))).length + (sg (c1)).length ≤ sizeLine) <|
R.need ((v_law_word_here).length ≤ sizeLine) <|
R.need (((cutS v_law_word_here none (some (y4))) ++ (sg (c1))).length + (cutS v_law_word_here (some (y4 + 1)) none).length ≤ sizeLine) <|
(R.ok (((cutS v_law_word_here none (some (y4))) ++ (sg (c1))) ++ (cutS v_law_word_here (some (y4 + 1)) none) : Str)).bind fun y12 =>
(idxR ([(Any.str ("" : Str)), (Any.str y7), (Any.str y12), Any.non, (Any.int 7), (Any.bl true), (Any.lst (([v_law_word_here]).map Any.str)), (Any.tup [(Any.str v_law_word_here)]), (Any.oth 1)]) (v_law_number % 9)).bind fun x19 =>
R.ok (x19)
def m_law_odd_title (v_law_number : Int) (v_law_title : Str) : R Any :=
R.need ((v_law_title).length ≤ sizeLine) <|
R.need (0 < (((v_law_title).length : Int) + 1)) <|
(R.ok ((v_law_number / 4) % (((v_law_title).length : Int) + 1) : Int)).bind fun y3 =>
R.need ((("x" : Str)).length * (61 : Int).toNat ≤ sizeLine ∧ -(2 ^ 62) ≤ (61 : Int) ∧ (61 : Int) < 2 ^ 62) <|
R.need ((v_law_title).length + (repS ("x" : Str) (61 : Int).toNat).length ≤ sizeLine) <|
R.need ((v_law_title ++ (repS ("x" : Str) (61 : Int).toNat)).length ≤ sizeLine) <|
R.need ((("y" : Str)).length * ((v_law_number / 64) % 3 : Int).toNat ≤ sizeLine ∧ -(2 ^ 62) ≤ ((v_law_number / 64) % 3 : Int) ∧ ((v_law_number / 64) % 3 : Int) < 2 ^ 62) <|
R.need ((cutS (v_law_title ++ (repS ("x" : Str) (61 : Int).toNat)) none (some (61))).length + (repS ("y" : Str) ((v_law_number / 64) % 3 : Int).toNat).length ≤ sizeLine) <|
(R.ok ((cutS (v_law_title ++ (repS ("x" : Str) (61 : Int).toNat)) none (some (61))) ++ (repS ("y" : Str) ((v_law_number / 64) % 3 : Int).toNat) : Str)).bind fun y9 =>
R.need ((v_law_title).length ≤ sizeLine) <|
R.need ((cutS v_law_title none (some (y3))).length ≤ sizeLine) <|
R.need ((cutS (cutS v_law_title none (some (y3))) none (some (59))).length + (("\n" : Str)).length ≤ sizeLine) <|
R.need ((v_law_title).length ≤ sizeLine) <|
R.need ((cutS v_law_title (some (y3)) none).length ≤ sizeLine) <|
R.need (((cutS (cutS v_law_title none (some (y3))) none (some (59))) ++ ("\n" : Str)).length + (cutS (cutS v_law_title (some (y3)) none) none (some (10))).length ≤ sizeLine) <|
(R.ok (((cutS (cutS v_law_title none (some (y3))) none (some (59))) ++ ("\n" : Str)) ++ (cutS (cutS v_law_title (some (y3)) none) none (some (10))) : Str)).bind fun y16 =>
(idxR ([(Any.str y9), (Any.str y16), Any.non, (Any.int 5), (Any.lst (([] : (List Str)).map Any.str)), (Any.tup [(Any.str ("x" : Str))]), (Any.oth 1), (Any.lst (([("x" : Str)]).map Any.str))]) (v_law_number % 8)).bind fun x25 =>
R.ok (x25)
def m_law_odd_parts (v_law_number : Int) (v_law_parts_here : (T5 Str Str Str Int Str)) : R Any :=
(R.ok (v_law_number % 5 : Int)).bind fun y1 =>
(R.ok (v_law_number / 5 : Int)).bind fun y2 =>
if (decide (y1 = 0)) = true then (
(m_law_odd_word y2 v_law_parts_here.a).bind fun r15 =>
R.ok ((Any.tup [(⟨(⟨r15⟩ : T1 _).a, (⟨v_law_parts_here.b, v_law_parts_here.c, v_law_parts_here.d, v_law_parts_here.e⟩ : T4 _ _ _ _).a, (⟨v_law_parts_here.b, v_law_parts_here.c, v_law_parts_here.d, v_law_parts_here.e⟩ : T4 _ _ _ _).b, (⟨v_law_parts_here.b, v_law_parts_here.c, v_law_parts_here.d, v_law_parts_here.e⟩ : T4 _ _ _ _).c, (⟨v_law_parts_here.b, v_law_parts_here.c, v_law_parts_here.d, v_law_parts_here.e⟩ : T4 _ _ _ _).d⟩ : T5 _ _ _ _ _).a, (Any.str ((⟨(⟨r15⟩ : T1 _).a, (⟨v_law_parts_here.b, v_law_parts_here.c, v_law_parts_here.d, v_law_parts_here.e⟩ : T4 _ _ _ _).a, (⟨v_law_parts_here.b, v_law_parts_here.c, v_law_parts_here.d, v_law_parts_here.e⟩ : T4 _ _ _ _).b, (⟨v_law_parts_here.b, v_law_parts_here.c, v_law_parts_here.d, v_law_parts_here.e⟩ : T4 _ _ _ _).c, (⟨v_law_parts_here.b, v_law_parts_here.c, v_law_parts_here.d, v_law_parts_here.e⟩ : T4 _ _ _ _).d⟩ : T5 _ _ _ _ _).b)), (Any.str ((⟨(⟨r15⟩ : T1 _).a, (⟨v_law_parts_here.b, v_law_parts_here.c, v_law_parts_here.d, v_law_parts_here.e⟩ : T4 _ _ _ _).a, (⟨v_law_parts_here.b, v_law_parts_here.c, v_law_parts_here.d, v_law_parts_here.e⟩ : T4 _ _ _ _).b, (⟨v_law_parts_here.b, v_law_parts_here.c, v_law_parts_here.d, v_law_parts_here.e⟩ : T4 _ _ _ _).c, (⟨v_law_parts_here.b, v_law_parts_here.c, v_law_parts_here.d, v_law_parts_here.e⟩ : T4 _ _ _ _).d⟩ : T5 _ _ _ _ _).c)), (Any.int ((⟨(⟨r15⟩ : T1 _).a, (⟨v_law_parts_here.b, v_law_parts_here.c, v_law_parts_here.d, v_law_parts_here.e⟩ : T4 _ _ _ _).a, (⟨v_law_parts_here.b, v_law_parts_here.c, v_law_parts_here.d, v_law_parts_here.e⟩ : T4 _ _ _ _).b, (⟨v_law_parts_here.b, v_law_parts_here.c, v_law_parts_here.d, v_law_parts_here.e⟩ : T4 _ _ _ _).c, (⟨v_law_parts_here.b, v_law_parts_here.c, v_law_parts_here.d, v_law_parts_here.e⟩ : T4 _ _ _ _).d⟩ : T5 _ _ _ _ _).d)), (Any.str ((⟨(⟨r15⟩ : T1 _).a, (⟨v_law_parts_here.b, v_law_parts_here.c, v_law_parts_here.d, v_law_parts_here.e⟩ : T4 _ _ _ _).a, (⟨v_law_parts_here.b, v_law_parts_here.c, v_law_parts_here.d, v_law_parts_here.e⟩ : T4 _ _ _ _).b, (⟨v_law_parts_here.b, v_law_parts_here.c, v_law_parts_here.d, v_law_parts_here.e⟩ : T4 _ _ _ _).c, (⟨v_law_parts_here.b, v_law_parts_here.c, v_law_parts_here.d, v_law_parts_here.e⟩ : T4 _ _ _ _).d⟩ : T5 _ _ _ _ _).e))]))) else (
if (decide (y1 = 1)) = true then (
(m_law_odd_title y2 v_law_parts_here.b).bind fun r84 =>
R.ok ((Any.tup [(Any.str ((⟨((⟨v_law_parts_here.a⟩ : T1 _).a, (⟨r84⟩ : T1 _).a).1, ((⟨v_law_parts_here.a⟩ : T1 _).a, (⟨r84⟩ : T1 _).a).2, (⟨v_law_parts_here.c, v_law_parts_here.d, v_law_parts_here.e⟩ : T3 _ _ _).a, (⟨v_law_parts_here.c, v_law_parts_here.d, v_law_parts_here.e⟩ : T3 _ _ _).b, (⟨v_law_parts_here.c, v_law_parts_here.d, v_law_parts_here.e⟩ : T3 _ _ _).c⟩ : T5 _ _ _ _ _).a)), (⟨((⟨v_law_parts_here.a⟩ : T1 _).a, (⟨r84⟩ : T1 _).a).1, ((⟨v_law_parts_here.a⟩ : T1 _).a, (⟨r84⟩ : T1 _).a).2, (⟨v_law_parts_here.c, v_law_parts_here.d, v_law_parts_here.e⟩ : T3 _ _ _).a, (⟨v_law_parts_here.c, v_law_parts_here.d, v_law_parts_here.e⟩ : T3 _ _ _).b, (⟨v_law_parts_here.c, v_law_parts_here.d, v_law_parts_here.e⟩ : T3 _ _ _).c⟩ : T5 _ _ _ _ _).b, (Any.str ((⟨((⟨v_law_parts_here.a⟩ : T1 _).a, (⟨r84⟩ : T1 _).a).1, ((⟨v_law_parts_here.a⟩ : T1 _).a, (⟨r84⟩ : T1 _).a).2, (⟨v_law_parts_here.c, v_law_parts_here.d, v_law_parts_here.e⟩ : T3 _ _ _).a, (⟨v_law_parts_here.c, v_law_parts_here.d, v_law_parts_here.e⟩ : T3 _ _ _).b, (⟨v_law_parts_here.c, v_law_parts_here.d, v_law_parts_here.e⟩ : T3 _ _ _).c⟩ : T5 _ _ _ _ _).c)), (Any.int ((⟨((⟨v_law_parts_here.a⟩ : T1 _).a, (⟨r84⟩ : T1 _).a).1, ((⟨v_law_parts_here.a⟩ : T1 _).a, (⟨r84⟩ : T1 _).a).2, (⟨v_law_parts_here.c, v_law_parts_here.d, v_law_parts_here.e⟩ : T3 _ _ _).a, (⟨v_law_parts_here.c, v_law_parts_here.d, v_law_parts_here.e⟩ : T3 _ _ _).b, (⟨v_law_parts_here.c, v_law_parts_here.d, v_law_parts_here.e⟩ : T3 _ _ _).c⟩ : T5 _ _ _ _ _).d)), (Any.str ((⟨((⟨v_law_parts_here.a⟩ : T1 _).a, (⟨r84⟩ : T1 _).a).1, ((⟨v_law_parts_here.a⟩ : T1 _).a, (⟨r84⟩ : T1 _).a).2, (⟨v_law_parts_here.c, v_law_parts_here.d, v_law_parts_here.e⟩ : T3 _ _ _).a, (⟨v_law_parts_here.c, v_law_parts_here.d, v_law_parts_here.e⟩ : T3 _ _ _).b, (⟨v_law_parts_here.c, v_law_parts_here.d, v_law_parts_here.e⟩ : T3 _ _ _).c⟩ : T5 _ _ _ _ _).e))]))) else (
if (decide (y1 = 2)) = true then (
R.need ((("z" : Str)).length * (401 : Int).toNat ≤ sizeLine ∧ -(2 ^ 62) ≤ (401 : Int) ∧ (401 : Int) < 2 ^ 62) <|
R.need ((v_law_parts_here.c).length + (repS ("z" : Str) (401 : Int).toNat).length ≤ sizeLine) <|
R.need ((v_law_parts_here.c ++ (repS ("z" : Str) (401 : Int).toNat)).length ≤ sizeLine) <|
(R.ok (cutS (v_law_parts_here.c ++ (repS ("z" : Str) (401 : Int).toNat)) none (some (401)) : Str)).bind fun y151 =>
R.need ((("q" : Str)).length * (500 : Int).toNat ≤ sizeLine ∧ -(2 ^ 62) ≤ (500 : Int) ∧ (500 : Int) < 2 ^ 62) <|
(idxR ([(Any.str y151), Any.non, (Any.int 9), (Any.str (repS ("q" : Str) (500 : Int).toNat)), (Any.lst (([] : (List Str)).map Any.str)), (Any.tup [(Any.str ("x" : Str))]), (Any.oth 1), (Any.lst (([("x" : Str)]).map Any.str))]) (y2 % 8)).bind fun x174 =>
R.ok ((Any.tup [(Any.str ((⟨(⟨(v_law_parts_here.a, v_law_parts_here.b).1, (v_law_parts_here.a, v_law_parts_here.b).2, (⟨x174⟩ : T1 _).a⟩ : T3 _ _ _).a, (⟨(v_law_parts_here.a, v_law_parts_here.b).1, (v_law_parts_here.a, v_law_parts_here.b).2, (⟨x174⟩ : T1 _).a⟩ : T3 _ _ _).b, (⟨(v_law_parts_here.a, v_law_parts_here.b).1, (v_law_parts_here.a, v_law_parts_here.b).2, (⟨x174⟩ : T1 _).a⟩ : T3 _ _ _).c, (v_law_parts_here.d, v_law_parts_here.e).1, (v_law_parts_here.d, v_law_parts_here.e).2⟩ : T5 _ _ _ _ _).a)), (Any.str ((⟨(⟨(v_law_parts_here.a, v_law_parts_here.b).1, (v_law_parts_here.a, v_law_parts_here.b).2, (⟨x174⟩ : T1 _).a⟩ : T3 _ _ _).a, (⟨(v_law_parts_here.a, v_law_parts_here.b).1, (v_law_parts_here.a, v_law_parts_here.b).2, (⟨x174⟩ : T1 _).a⟩ : T3 _ _ _).b, (⟨(v_law_parts_here.a, v_law_parts_here.b).1, (v_law_parts_here.a, v_law_parts_here.b).2, (⟨x174⟩ : T1 _).a⟩ : T3 _ _ _).c, (v_law_parts_here.d, v_law_parts_here.e).1, (v_law_parts_here.d, v_law_parts_here.e).2⟩ : T5 _ _ _ _ _).b)), (⟨(⟨(v_law_parts_here.a, v_law_parts_here.b).1, (v_law_parts_here.a, v_law_parts_here.b).2, (⟨x174⟩ : T1 _).a⟩ : T3 _ _ _).a, (⟨(v_law_parts_here.a, v_law_parts_here.b).1, (v_law_parts_here.a, v_law_parts_here.b).2, (⟨x174⟩ : T1 _).a⟩ : T3 _ _ _).b, (⟨(v_law_parts_here.a, v_law_parts_here.b).1, (v_law_parts_here.a, v_law_parts_here.b).2, (⟨x174⟩ : T1 _).a⟩ : T3 _ _ _).c, (v_law_parts_here.d, v_law_parts_here.e).1, (v_law_parts_here.d, v_law_parts_here.e).2⟩ : T5 _ _ _ _ _).c, (Any.int ((⟨(⟨(v_law_parts_here.a, v_law_parts_here.b).1, (v_law_parts_here.a, v_law_parts_here.b).2, (⟨x174⟩ : T1 _).a⟩ : T3 _ _ _).a, (⟨(v_law_parts_here.a, v_law_parts_here.b).1, (v_law_parts_here.a, v_law_parts_here.b).2, (⟨x174⟩ : T1 _).a⟩ : T3 _ _ _).b, (⟨(v_law_parts_here.a, v_law_parts_here.b).1, (v_law_parts_here.a, v_law_parts_here.b).2, (⟨x174⟩ : T1 _).a⟩ : T3 _ _ _).c, (v_law_parts_here.d, v_law_parts_here.e).1, (v_law_parts_here.d, v_law_parts_here.e).2⟩ : T5 _ _ _ _ _).d)), (Any.str ((⟨(⟨(v_law_parts_here.a, v_law_parts_here.b).1, (v_law_parts_here.a, v_law_parts_here.b).2, (⟨x174⟩ : T1 _).a⟩ : T3 _ _ _).a, (⟨(v_law_parts_here.a, v_law_parts_here.b).1, (v_law_parts_here.a, v_law_parts_here.b).2, (⟨x174⟩ : T1 _).a⟩ : T3 _ _ _).b, (⟨(v_law_parts_here.a, v_law_parts_here.b).1, (v_law_parts_here.a, v_law_parts_here.b).2, (⟨x174⟩ : T1 _).a⟩ : T3 _ _ _).c, (v_law_parts_here.d, v_law_parts_here.e).1, (v_law_parts_here.d, v_law_parts_here.e).2⟩ : T5 _ _ _ _ _).e))]))) else (
if (decide (y1 = 3)) = true then (
(R.ok ([(Any.int (-1)), (Any.int 10000), (Any.bl true), (Any.str ("7" : Str)), Any.non, (Any.int ((-1) - ((y2 / 6) % 999))), (Any.int (10000 + y2)), (Any.lst (([7]).map Any.int)), (Any.tup [(Any.int 7)]), (Any.oth 1), (Any.lst ([] : (List Any)))] : (List Any))).bind fun y242 =>
(idxR y242 (y2 % 11)).bind fun x256 =>
R.ok ((Any.tup [(Any.str ((⟨(⟨(⟨v_law_parts_here.a, v_law_parts_here.b, v_law_parts_here.c⟩ : T3 _ _ _).a, (⟨v_law_parts_here.a, v_law_parts_here.b, v_law_parts_here.c⟩ : T3 _ _ _).b, (⟨v_law_parts_here.a, v_law_parts_here.b, v_law_parts_here.c⟩ : T3 _ _ _).c, (⟨x256⟩ : T1 _).a⟩ : T4 _ _ _ _).a, (⟨(⟨v_law_parts_here.a, v_law_parts_here.b, v_law_parts_here.c⟩ : T3 _ _ _).a, (⟨v_law_parts_here.a, v_law_parts_here.b, v_law_parts_here.c⟩ : T3 _ _ _).b, (⟨v_law_parts_here.a, v_law_parts_here.b, v_law_parts_here.c⟩ : T3 _ _ _).c, (⟨x256⟩ : T1 _).a⟩ : T4 _ _ _ _).b, (⟨(⟨v_law_parts_here.a, v_law_parts_here.b, v_law_parts_here.c⟩ : T3 _ _ _).a, (⟨v_law_parts_here.a, v_law_parts_here.b, v_law_parts_here.c⟩ : T3 _ _ _).b, (⟨v_law_parts_here.a, v_law_parts_here.b, v_law_parts_here.c⟩ : T3 _ _ _).c, (⟨x256⟩ : T1 _).a⟩ : T4 _ _ _ _).c, (⟨(⟨v_law_parts_here.a, v_law_parts_here.b, v_law_parts_here.c⟩ : T3 _ _ _).a, (⟨v_law_parts_here.a, v_law_parts_here.b, v_law_parts_here.c⟩ : T3 _ _ _).b, (⟨v_law_parts_here.a, v_law_parts_here.b, v_law_parts_here.c⟩ : T3 _ _ _).c, (⟨x256⟩ : T1 _).a⟩ : T4 _ _ _ _).d, (⟨v_law_parts_here.e⟩ : T1 _).a⟩ : T5 _ _ _ _ _).a)), (Any.str ((⟨(⟨(⟨v_law_parts_here.a, v_law_parts_here.b, v_law_parts_here.c⟩ : T3 _ _ _).a, (⟨v_law_parts_here.a, v_law_parts_here.b, v_law_parts_here.c⟩ : T3 _ _ _).b, (⟨v_law_parts_here.a, v_law_parts_here.b, v_law_parts_here.c⟩ : T3 _ _ _).c, (⟨x256⟩ : T1 _).a⟩ : T4 _ _ _ _).a, (⟨(⟨v_law_parts_here.a, v_law_parts_here.b, v_law_parts_here.c⟩ : T3 _ _ _).a, (⟨v_law_parts_here.a, v_law_parts_here.b, v_law_parts_here.c⟩ : T3 _ _ _).b, (⟨v_law_parts_here.a, v_law_parts_here.b, v_law_parts_here.c⟩ : T3 _ _ _).c, (⟨x256⟩ : T1 _).a⟩ : T4 _ _ _ _).b, (⟨(⟨v_law_parts_here.a, v_law_parts_here.b, v_law_parts_here.c⟩ : T3 _ _ _).a, (⟨v_law_parts_here.a, v_law_parts_here.b, v_law_parts_here.c⟩ : T3 _ _ _).b, (⟨v_law_parts_here.a, v_law_parts_here.b, v_law_parts_here.c⟩ : T3 _ _ _).c, (⟨x256⟩ : T1 _).a⟩ : T4 _ _ _ _).c, (⟨(⟨v_law_parts_here.a, v_law_parts_here.b, v_law_parts_here.c⟩ : T3 _ _ _).a, (⟨v_law_parts_here.a, v_law_parts_here.b, v_law_parts_here.c⟩ : T3 _ _ _).b, (⟨v_law_parts_here.a, v_law_parts_here.b, v_law_parts_here.c⟩ : T3 _ _ _).c, (⟨x256⟩ : T1 _).a⟩ : T4 _ _ _ _).d, (⟨v_law_parts_here.e⟩ : T1 _).a⟩ : T5 _ _ _ _ _).b)), (Any.str ((⟨(⟨(⟨v_law_parts_here.a, v_law_parts_here.b, v_law_parts_here.c⟩ : T3 _ _ _).a, (⟨v_law_parts_here.a, v_law_parts_here.b, v_law_parts_here.c⟩ : T3 _ _ _).b, (⟨v_law_parts_here.a, v_law_parts_here.b, v_law_parts_here.c⟩ : T3 _ _ _).c, (⟨x256⟩ : T1 _).a⟩ : T4 _ _ _ _).a, (⟨(⟨v_law_parts_here.a, v_law_parts_here.b, v_law_parts_here.c⟩ : T3 _ _ _).a, (⟨v_law_parts_here.a, v_law_parts_here.b, v_law_parts_here.c⟩ : T3 _ _ _).b, (⟨v_law_parts_here.a, v_law_parts_here.b, v_law_parts_here.c⟩ : T3 _ _ _).c, (⟨x256⟩ : T1 _).a⟩ : T4 _ _ _ _).b, (⟨(⟨v_law_parts_here.a, v_law_parts_here.b, v_law_parts_here.c⟩ : T3 _ _ _).a, (⟨v_law_parts_here.a, v_law_parts_here.b, v_law_parts_here.c⟩ : T3 _ _ _).b, (⟨v_law_parts_here.a, v_law_parts_here.b, v_law_parts_here.c⟩ : T3 _ _ _).c, (⟨x256⟩ : T1 _).a⟩ : T4 _ _ _ _).c, (⟨(⟨v_law_parts_here.a, v_law_parts_here.b, v_law_parts_here.c⟩ : T3 _ _ _).a, (⟨v_law_parts_here.a, v_law_parts_here.b, v_law_parts_here.c⟩ : T3 _ _ _).b, (⟨v_law_parts_here.a, v_law_parts_here.b, v_law_parts_here.c⟩ : T3 _ _ _).c, (⟨x256⟩ : T1 _).a⟩ : T4 _ _ _ _).d, (⟨v_law_parts_here.e⟩ : T1 _).a⟩ : T5 _ _ _ _ _).c)), (⟨(⟨(⟨v_law_parts_here.a, v_law_parts_here.b, v_law_parts_here.c⟩ : T3 _ _ _).a, (⟨v_law_parts_here.a, v_law_parts_here.b, v_law_parts_here.c⟩ : T3 _ _ _).b, (⟨v_law_parts_here.a, v_law_parts_here.b, v_law_parts_here.c⟩ : T3 _ _ _).c, (⟨x256⟩ : T1 _).a⟩ : T4 _ _ _ _).a, (⟨(⟨v_law_parts_here.a, v_law_parts_here.b, v_law_parts_here.c⟩ : T3 _ _ _).a, (⟨v_law_parts_here.a, v_law_parts_here.b, v_law_parts_here.c⟩ : T3 _ _ _).b, (⟨v_law_parts_here.a, v_law_parts_here.b, v_law_parts_here.c⟩ : T3 _ _ _).c, (⟨x256⟩ : T1 _).a⟩ : T4 _ _ _ _).b, (⟨(⟨v_law_parts_here.a, v_law_parts_here.b, v_law_parts_here.c⟩ : T3 _ _ _).a, (⟨v_law_parts_here.a, v_law_parts_here.b, v_law_parts_here.c⟩ : T3 _ _ _).b, (⟨v_law_parts_here.a, v_law_parts_here.b, v_law_parts_here.c⟩ : T3 _ _ _).c, (⟨x256⟩ : T1 _).a⟩ : T4 _ _ _ _).c, (⟨(⟨v_law_parts_here.a, v_law_parts_here.b, v_law_parts_here.c⟩ : T3 _ _ _).a, (⟨v_law_parts_here.a, v_law_parts_here.b, v_law_parts_here.c⟩ : T3 _ _ _).b, (⟨v_law_parts_here.a, v_law_parts_here.b, v_law_parts_here.c⟩ : T3 _ _ _).c, (⟨x256⟩ : T1 _).a⟩ : T4 _ _ _ _).d, (⟨v_law_parts_here.e⟩ : T1 _).a⟩ : T5 _ _ _ _ _).d, (Any.str ((⟨(⟨(⟨v_law_parts_here.a, v_law_parts_here.b, v_law_parts_here.c⟩ : T3 _ _ _).a, (⟨v_law_parts_here.a, v_law_parts_here.b, v_law_parts_here.c⟩ : T3 _ _ _).b, (⟨v_law_parts_here.a, v_law_parts_here.b, v_law_parts_here.c⟩ : T3 _ _ _).c, (⟨x256⟩ : T1 _).a⟩ : T4 _ _ _ _).a, (⟨(⟨v_law_parts_here.a, v_law_parts_here.b, v_law_parts_here.c⟩ : T3 _ _ _).a, (⟨v_law_parts_here.a, v_law_parts_here.b, v_law_parts_here.c⟩ : T3 _ _ _).b, (⟨v_law_parts_here.a, v_law_parts_here.b, v_law_parts_here.c⟩ : T3 _ _ _).c, (⟨x256⟩ : T1 _).a⟩ : T4 _ _ _ _).b, (⟨(⟨v_law_parts_here.a, v_law_parts_here.b, v_law_parts_here.c⟩ : T3 _ _ _).a, (⟨v_law_parts_here.a, v_law_parts_here.b, v_law_parts_here.c⟩ : T3 _ _ _).b, (⟨v_law_parts_here.a, v_law_parts_here.b, v_law_parts_here.c⟩ : T3 _ _ _).c, (⟨x256⟩ : T1 _).a⟩ : T4 _ _ _ _).c, (⟨(⟨v_law_parts_here.a, v_law_parts_here.b, v_law_parts_here.c⟩ : T3 _ _ _).a, (⟨v_law_parts_here.a, v_law_parts_here.b, v_law_parts_here.c⟩ : T3 _ _ _).b, (⟨v_law_parts_here.a, v_law_parts_here.b, v_law_parts_here.c⟩ : T3 _ _ _).c, (⟨x256⟩ : T1 _).a⟩ : T4 _ _ _ _).d, (⟨v_law_parts_here.e⟩ : T1 _).a⟩ : T5 _ _ _ _ _).e))]))) else (
(m_law_odd_word y2 ("abc" : Str)).bind fun r317 =>
(eqX r317 (Any.str ("" : Str))).bind fun b320 =>
(if b320 = true then (
R.ok ((Any.str ("a b" : Str)))) else (
R.ok (r317))).bind fun (s321 : Any) =>
R.ok ((Any.tup [(Any.str ((⟨(⟨v_law_parts_here.a, v_law_parts_here.b, v_law_parts_here.c, v_law_parts_here.d⟩ : T4 _ _ _ _).a, (⟨v_law_parts_here.a, v_law_parts_here.b, v_law_parts_here.c, v_law_parts_here.d⟩ : T4 _ _ _ _).b, (⟨v_law_parts_here.a, v_law_parts_here.b, v_law_parts_here.c, v_law_parts_here.d⟩ : T4 _ _ _ _).c, (⟨v_law_parts_here.a, v_law_parts_here.b, v_law_parts_here.c, v_law_parts_here.d⟩ : T4 _ _ _ _).d, (⟨s321⟩ : T1 _).a⟩ : T5 _ _ _ _ _).a)), (Any.str ((⟨(⟨v_law_parts_here.a, v_law_parts_here.b, v_law_parts_here.c, v_law_parts_here.d⟩ : T4 _ _ _ _).a, (⟨v_law_parts_here.a, v_law_parts_here.b, v_law_parts_here.c, v_law_parts_here.d⟩ : T4 _ _ _ _).b, (⟨v_law_parts_here.a, v_law_parts_here.b, v_law_parts_here.c, v_law_parts_here.d⟩ : T4 _ _ _ _).c, (⟨v_law_parts_here.a, v_law_parts_here.b, v_law_parts_here.c, v_law_parts_here.d⟩ : T4 _ _ _ _).d, (⟨s321⟩ : T1 _).a⟩ : T5 _ _ _ _ _).b)), (Any.str ((⟨(⟨v_law_parts_here.a, v_law_parts_here.b, v_law_parts_here.c, v_law_parts_here.d⟩ : T4 _ _ _ _).a, (⟨v_law_parts_here.a, v_law_parts_here.b, v_law_parts_here.c, v_law_parts_here.d⟩ : T4 _ _ _ _).b, (⟨v_law_parts_here.a, v_law_parts_here.b, v_law_parts_here.c, v_law_parts_here.d⟩ : T4 _ _ _ _).c, (⟨v_law_parts_here.a, v_law_parts_here.b, v_law_parts_here.c, v_law_parts_here.d⟩ : T4 _ _ _ _).d, (⟨s321⟩ : T1 _).a⟩ : T5 _ _ _ _ _).c)), (Any.int ((⟨(⟨v_law_parts_here.a, v_law_parts_here.b, v_law_parts_here.c, v_law_parts_here.d⟩ : T4 _ _ _ _).a, (⟨v_law_parts_here.a, v_law_parts_here.b, v_law_parts_here.c, v_law_parts_here.d⟩ : T4 _ _ _ _).b, (⟨v_law_parts_here.a, v_law_parts_here.b, v_law_parts_here.c, v_law_parts_here.d⟩ : T4 _ _ _ _).c, (⟨v_law_parts_here.a, v_law_parts_here.b, v_law_parts_here.c, v_law_parts_here.d⟩ : T4 _ _ _ _).d, (⟨s321⟩ : T1 _).a⟩ : T5 _ _ _ _ _).d)), (⟨(⟨v_law_parts_here.a, v_law_parts_here.b, v_law_parts_here.c, v_law_parts_here.d⟩ : T4 _ _ _ _).a, (⟨v_law_parts_here.a, v_law_parts_here.b, v_law_parts_here.c, v_law_parts_here.d⟩ : T4 _ _ _ _).b, (⟨v_law_parts_here.a, v_law_parts_here.b, v_law_parts_here.c, v_law_parts_here.d⟩ : T4 _ _ _ _).c, (⟨v_law_parts_here.a, v_law_parts_here.b, v_law_parts_here.c, v_law_parts_here.d⟩ : T4 _ _ _ _).d, (⟨s321⟩ : T1 _).a⟩ : T5 _ _ _ _ _).e]))))))
def m_law_refused (v_law_parts_here : Any) (v_law_way : Int) : R Bool :=
if (decide (v_law_way = 0)) = true then (
(Any.asTup v_law_parts_here).bind fun xs2 =>
(idxR xs2 (0)).bind fun x4 =>
(Any.asTup v_law_parts_here).bind fun xs13 =>
(idxR xs13 (1)).bind fun x15 =>
(Any.asTup v_law_parts_here).bind fun xs24 =>
(idxR xs24 (2)).bind fun x26 =>
(Any.asTup v_law_parts_here).bind fun xs35 =>
(idxR xs35 (3)).bind fun x37 =>
(Any.asTup v_law_parts_here).bind fun xs46 =>
(idxR xs46 (4)).bind fun x48 =>
R.tryC (m_Letter___init__ x4 x15 x26 x37 x48) (fun r64 =>
R.ok (false)) (fun x =>
catchR [0, 1, 2, 3, 4, 5, 6] [0, 1, 2, 3, 4, 5, 6] x (
(if (([2] : List Nat).contains x.cls) = true then (
(m_law_of_one_class x).bind fun r67 =>
R.ok (r67)) else R.ok false).bind fun b66 =>
R.ok (b66)) (.bad))) else (
R.tryC (m_letter_of v_law_parts_here) (fun r68 =>
R.ok (false)) (fun x =>
catchR [0, 1, 2, 3, 4, 5, 6] [0, 1, 2, 3, 4, 5, 6] x (
(if (([2] : List Nat).contains x.cls) = true then (
(m_law_of_one_class x).bind fun r72 =>
R.ok (r72)) else R.ok false).bind fun b71 =>
R.ok (b71)) (.bad)))
def m_law (v_law_script : Script) : R Bool :=
(m_law_row v_law_script 16).bind fun r1 =>
(idxR r1 (11)).bind fun x3 =>
(m_law_parts r1 x3).bind fun r4 =>
(idxR r1 (12)).bind fun x7 =>
(m_law_odd_parts x7 r4).bind fun r8 =>
(idxR r1 (13)).bind fun x11 =>
(if (decide ((x11 % 3) = 0)) = true then (
(idxR r1 (14)).bind fun x18 =>
(m_law_odd_parts x18 r4).bind fun r19 =>
(Any.asTup r8).bind fun xs23 =>
(forR (fun (s25 : (List Any)) (x26 : Int) =>
(Any.asTup r8).bind fun xs29 =>
(idxR xs29 (x26)).bind fun x31 =>
(Any.asTup (Any.tup [(Any.str r4.a), (Any.str r4.b), (Any.str r4.c), (Any.int r4.d), (Any.str r4.e)])).bind fun xs51 =>
(idxR xs51 (x26)).bind fun x53 =>
(eqX x31 x53).bind fun b62 =>
(if b62 = true then (
(Any.asTup r19).bind fun xs64 =>
(idxR xs64 (x26)).bind fun x66 =>
(ixR s25 (x26)).bind fun j76 =>
R.ok (s25.set j76 x66)) else (
R.ok (s25))).bind fun (s63 : (List Any)) =>
R.ok (s63)) (rngL 0 5) (xs23)).bind fun (s25 : (List Any)) =>
R.ok ((Any.tup s25))) else (
R.ok (r8))).bind fun (s12 : Any) =>
(m_law_refused s12 0).bind fun r80 =>
(if (!r80) = true then R.ok true else (
(m_law_refused s12 1).bind fun r82 =>
R.ok (!r82))).bind fun b81 =>
if b81 = true then (
R.ok (false)) else (
(idxR r1 (15)).bind fun x84 =>
if (decide ((x84 % 5) = 0)) = true then (
R.need (([(Any.str r4.a), (Any.str r4.b), (Any.str r4.c), (Any.int r4.d), (Any.str r4.e)]).length + ([(Any.str ((⟨("" : Str)⟩ : T1 _).a))]).length ≤ sizeLine) <|
(R.ok ([Any.non, (Any.oth 0), (Any.tup [(Any.str ((⟨r4.a, r4.b, r4.c, r4.d⟩ : T4 _ _ _ _).a)), (Any.str ((⟨r4.a, r4.b, r4.c, r4.d⟩ : T4 _ _ _ _).b)), (Any.str ((⟨r4.a, r4.b, r4.c, r4.d⟩ : T4 _ _ _ _).c)), (Any.int ((⟨r4.a, r4.b, r4.c, r4.d⟩ : T4 _ _ _ _).d))]), (Any.tup ([(Any.str r4.a), (Any.str r4.b), (Any.str r4.c), (Any.int r4.d), (Any.str r4.e)] ++ [(Any.str ((⟨("" : Str)⟩ : T1 _).a))])), (Any.tup []), (Any.str ("abcde" : Str)), (Any.int 5)] : (List Any))).bind fun y142 =>
(idxR r1 (15)).bind fun x143 =>
(idxR y142 ((x143 / 5) % 7)).bind fun x144 =>
(m_law_refused x144 1).bind fun r152 =>
if (!r152) = true then (
R.ok (false)) else (
(m_letter_of (Any.tup [(Any.str r4.a), (Any.str r4.b), (Any.str r4.c), (Any.int r4.d), (Any.str r4.e)])).bind fun r165 =>
(m_Letter_parts r165).bind fun r170 =>
R.need (Lay.lay (r170 : (T5 Str Str Str Int Str)) = true) <|
R.need (Lay.lay (r4 : (T5 Str Str Str Int Str)) = true) <|
(if (decide ((r170 : (T5 Str Str Str Int Str)) = r4)) = true then (
(m_law_refused (Any.tup [(Any.str r4.a), (Any.str r4.b), (Any.str r4.c), (Any.int r4.d), (Any.str r4.e)]) 0).bind fun r187 =>
R.ok (!r187)) else R.ok false).bind fun b175 =>
R.ok (b175))) else (
(m_letter_of (Any.tup [(Any.str r4.a), (Any.str r4.b), (Any.str r4.c), (Any.int r4.d), (Any.str r4.e)])).bind fun r199 =>
(m_Letter_parts r199).bind fun r204 =>
R.need (Lay.lay (r204 : (T5 Str Str Str Int Str)) = true) <|
R.need (Lay.lay (r4 : (T5 Str Str Str Int Str)) = true) <|
(if (decide ((r204 : (T5 Str Str Str Int Str)) = r4)) = true then (
(m_law_refused (Any.tup [(Any.str r4.a), (Any.str r4.b), (Any.str r4.c), (Any.int r4.d), (Any.str r4.e)]) 0).bind fun r221 =>
R.ok (!r221)) else R.ok false).bind fun b209 =>
R.ok (b209)))
end Lw

namespace Lw
open PySem L2 Ml
/-! the signs of words -/
theorem alph_len : ("abcdefghijklmnopqrstuvwxyz0123456789" : Str).cps.toList.length = 36 := by decide +kernel
theorem alph_asc : Asc ("abcdefghijklmnopqrstuvwxyz0123456789" : Str) := Asc.lit (by decide +kernel)
def wsg (c : Nat) : Bool := (97 ≤ c && c ≤ 122) || (48 ≤ c && c ≤ 57)
theorem wsg_lt {c : Nat} (h : wsg c = true) : c < 128 := by
  unfold wsg at h
  simp at h
  omega
theorem alph_wsg : ∀ c, c ∈ ("abcdefghijklmnopqrstuvwxyz0123456789" : Str).cps.toList → wsg c = true := by
  have : ("abcdefghijklmnopqrstuvwxyz0123456789" : Str).cps.toList.all wsg = true := by decide +kernel
  exact fun c hc => List.all_eq_true.mp this c hc
theorem alph_at {ρ : Type} {P : ρ → Prop} {i : Int} {f : Nat → R ρ} (k : ∀ c, wsg c = true → Ok (f c) P) : Ok ((idxR ("abcdefghijklmnopqrstuvwxyz0123456789" : Str).cps.toList (i % 36)).bind f) P :=
  .idx (Int.emod_nonneg _ (by decide)) (by rw [alph_len]; exact Int.emod_lt_of_pos _ (by decide)) fun c m _ => k c (alph_wsg c m)
/-- word signs alone -/
def Wsg (x : Str) : Prop := ∀ c, c ∈ x.cps.toList → wsg c = true
theorem Wsg.asc {x : Str} (h : Wsg x) : Asc x := fun c hc => wsg_lt (h c hc)
theorem Wsg.app {a b : Str} (ha : Wsg a) (hb : Wsg b) : Wsg (a ++ b) := fun c hc => by
  rw [tl_app] at hc
  rcases List.mem_append.mp hc with h | h
  · exact ha c h
  · exact hb c h
theorem Wsg.sg {c : Nat} (h : wsg c = true) : Wsg (sg c) := fun d hd => by
  have : d = c := by simpa [Ml.sg] using hd
  rw [this]; exact h
theorem Wsg.lit {x : Str} (h : x.cps.toList.all wsg = true) : Wsg x := fun c hc => List.all_eq_true.mp h c hc
theorem Wsg.join {ys : List Str} (h : ∀ y, y ∈ ys → Wsg y) : Wsg (Txt.join ("" : Str) ys) := fun c hc => by
  rw [join_nil] at hc
  obtain ⟨l, hl, hc⟩ := List.mem_flatten.mp hc
  obtain ⟨y, hy, rfl⟩ := List.mem_map.mp hl
  exact h y hy c hc
theorem num_wd {i : Int} (h0 : 0 ≤ i) (h1 : i < 1000000) : Wsg (Str.ofString (toString i)) ∧ (Str.ofString (toString i)).length ≤ 6 ∧ 1 ≤ (Str.ofString (toString i)).length := by
  obtain ⟨n, rfl⟩ : ∃ n : Nat, i = (n : Int) := ⟨i.toNat, by omega⟩
  have hd := TL.numL_digits n
  refine ⟨fun c hc => ?_, ?_, ?_⟩
  · rw [tl_num] at hc
    have h2 : 48 ≤ c ∧ c ≤ 57 := hd c hc
    unfold wsg
    simp; omega
  · rw [len_tl, tl_num]
    exact TL.numL_len (n := n) (k := 6) (by decide) (by omega)
  · rw [len_tl, tl_num]
    have := TL.numL_ne n
    cases e : TL.numL n with
    | nil => exact absurd e this
    | cons a l => simp

/-! the numbers drawn -/
theorem m_law_row_ok (s : Script) {n : Int} (h0 : 0 ≤ n) (h1 : n ≤ 1000) : Ok (m_law_row s n) fun r => r.length = n.toNat ∧ ∀ x, x ∈ r → 0 ≤ x ∧ x < 2147483629 := by
  unfold m_law_row
  refine .need (by omega) ?_
  refine .forI (fun pre (s : List Int × Int) => s.1.length = pre.length ∧ (∀ x, x ∈ s.1 → 0 ≤ x ∧ x < 2147483629) ∧ 0 ≤ s.2 ∧ s.2 < 2147483647) ⟨rfl, by simp, by decide, by decide⟩ ?_ ?_
  · rintro p x q ⟨l, m⟩ ep ⟨hl, hx, hm0, hm1⟩
    have hp := pre_lt ep
    rw [rngL_len] at hp
    refine .bind (Q := fun _ => True) (.ite (fun c => ?_) fun _ => .ret trivial) fun c _ => .lets ?_
    · have c := of_decide_eq_true c
      exact .need c (.idx (Int.emod_nonneg _ (by omega)) (Int.emod_lt_of_pos _ c) fun _ _ _ => .ret trivial)
    · dsimp only
      have hy0 : 0 ≤ (m * 48271 + c + x) % 2147483647 := Int.emod_nonneg _ (by decide)
      have hy1 : (m * 48271 + c + x) % 2147483647 < 2147483647 := Int.emod_lt_of_pos _ (by decide)
      generalize (m * 48271 + c + x) % 2147483647 = y at *
      have hl' : l.length = p.length := hl
      refine .need (show mulOk y y from .inl ⟨by omega, by omega⟩) (.need (lt_line (m := 1000) (by omega) (by decide)) (.ret ⟨by simp [hl'], fun z hz => ?_, hy0, hy1⟩))
      rcases List.mem_append.mp hz with h | h
      · exact hx z h
      · rw [List.mem_singleton.mp h]
        exact ⟨Int.emod_nonneg _ (by decide), Int.emod_lt_of_pos _ (by decide)⟩
  · rintro ⟨l, m⟩ ⟨hl, hx, _⟩
    exact .ret ⟨by rw [hl, rngL_len], hx⟩

/-! a word -/
theorem joins20 {zs : List Str} (hz : ∀ z, z ∈ zs → Wsg z ∧ z.length = 1) (hl : zs.length ≤ 20) : Wsg (Txt.join ("" : Str) zs) ∧ (Txt.join ("" : Str) zs).length = zs.length ∧ (zs.map (·.length)).sum + zs.length * ("" : Str).length ≤ 16777216 := by
  have h1 : (zs.map (·.length)).sum = zs.length := by
    clear hl
    induction zs with
    | nil => rfl
    | cons x xs ih =>
      rw [List.map_cons, List.sum_cons, ih fun z m => hz z (by simp [m]), (hz x (by simp)).2, List.length_cons]; omega
  have e0 : ("" : Str).length = 0 := by decide
  rw [e0]
  exact ⟨.join fun z m => (hz z m).1, by rw [len_join_nil, h1], by omega⟩
/-- a word of 1 to 20 signs, where the number is small -/
theorem m_law_word_ok {b t : Int} (hb : 0 ≤ b ∧ b < 2147483647) (ht : 0 ≤ t ∧ t < 1000) : Ok (m_law_word b t) fun z => Wsg z ∧ 1 ≤ z.length ∧ z.length ≤ 20 := by
  unfold m_law_word
  refine .comp (fun y => Wsg y ∧ y.length = 1) (fun x hx => ?_) fun ys hl hy => ?_
  · have hx' := rngL_mem hx
    exact .need (show mulOk (b / 99991) x from .inr ⟨by omega, by omega⟩) (alph_at fun c hc => .ret ⟨_, rfl, Wsg.sg hc, rfl⟩)
  · rw [rngL_len] at hl
    dsimp only
    have cut : ∀ (i : Int) (zs : List Str), (∀ z, z ∈ zs → Wsg z ∧ z.length = 1) → zs.length = 20 → 1 ≤ i → i ≤ 20 → (∀ z, z ∈ cutL zs none (some i) → Wsg z ∧ z.length = 1) ∧ (cutL zs none (some i)).length = i.toNat := fun i zs hz hl h1 h2 =>
      ⟨fun z m => hz z (cutL_mem m), by rw [cutL_to (by omega), List.length_take]; omega⟩
    refine .ite (fun c1 => ?_) fun c1 => .ite (fun c2 => ?_) fun c2 => ?_
    · simp at c1
      obtain ⟨h1, h2⟩ := cut (1 + t) ys hy hl (by omega) (by omega)
      obtain ⟨j1, j2, j3⟩ := joins20 h1 (by omega)
      exact .need j3 (.ret ⟨j1, by omega, by omega⟩)
    · obtain ⟨h1, h2⟩ := cut (1 + b / 3 % 16) ys hy hl (by omega) (by omega)
      obtain ⟨j1, j2, j3⟩ := joins20 h1 (by omega)
      obtain ⟨n1, n2, n3⟩ := num_wd (i := t) ht.1 (by omega)
      have n4 : (Str.ofString (toString t)).length ≤ 3 := by
        obtain ⟨n, rfl⟩ : ∃ n : Nat, t = (n : Int) := ⟨t.toNat, by omega⟩
        rw [len_tl, tl_num]
        exact TL.numL_len (n := n) (k := 3) (by decide) (by omega)
      have ex : ("x" : Str).length = 1 := by decide
      refine .need j3 (.need (le_line (by rw [ex]; omega)) (.need (log2_small (by omega) (by omega)) (.need (le_line (by rw [len_app, ex]; omega)) (.ret ⟨(j1.app (.lit (by decide +kernel))).app n1, by rw [len_app, len_app, ex]; omega, by rw [len_app, len_app, ex]; omega⟩))))
    · refine .lets (.need (by omega) (.lets (alph_at fun c hc => .ix (Int.emod_nonneg _ (by omega)) (by rw [hl]; have := Int.emod_lt_of_pos (b / 61) (show 0 < 1 + b / 3 % 20 by omega); omega) ?_)))
      have hy' : ∀ z, z ∈ ys.set (b / 61 % (1 + b / 3 % 20)).toNat (sg c) → Wsg z ∧ z.length = 1 := fun z m => by
        rcases mem_set m with h | rfl
        · exact hy z h
        · exact ⟨Wsg.sg hc, rfl⟩
      obtain ⟨h1, h2⟩ := cut (1 + b / 3 % 20) _ hy' (by rw [List.length_set]; exact hl) (by omega) (by omega)
      obtain ⟨j1, j2, j3⟩ := joins20 h1 (by omega)
      exact .need j3 (.ret ⟨j1, by omega, by omega⟩)

/-! signs of words -/
theorem is_sign_eq (c : Nat) : m_is_sign c = .ok (wsg c) := by
  unfold m_is_sign
  congr 1
  have h1 : (("abcdefghijklmnopqrstuvwxyz" : Str)).cps.toList = (List.range 26).map (97 + ·) := by decide +kernel
  have h2 : (("0123456789" : Str)).cps.toList = (List.range 10).map (48 + ·) := by decide +kernel
  rw [h1, h2]
  unfold wsg
  rw [Bool.eq_iff_iff]
  simp only [Bool.or_eq_true, decide_eq_true_eq, List.mem_map, List.mem_range, Bool.and_eq_true]
  constructor
  · rintro (⟨a, h, rfl⟩ | ⟨a, h, rfl⟩) <;> omega
  · rintro (h | h)
    · exact .inl ⟨c - 97, by omega, by omega⟩
    · exact .inr ⟨c - 48, by omega, by omega⟩

/-! words and letters, as they are told apart -/
theorem pdA_str (s : Str) : pdA (.str s) = .str s := by rw [pdA]
theorem pdA_int (s : Int) : pdA (.int s) = .int s := by rw [pdA]
theorem plA_str (s : Str) : plA (.str s) = true := by rw [plA] <;> (intro _ h; cases h)
theorem plA_int (s : Int) : plA (.int s) = true := by rw [plA] <;> (intro _ h; cases h)
theorem shaped_str {s : Str} (h : Asc s) : SeqAt.shaped (.str s) = true := by
  have h1 : (PyData.str s).canLay0 = true := h.lay
  unfold SeqAt.shaped
  rw [h1]; rfl
theorem eqA_str {a b : Str} (ha : Asc a) (hb : Asc b) : eqX (.str a) (.str b) = .ok (decide (a = b)) := by
  rw [eqX_pl (by first | exact plA_str _ | assumption)]; unfold eqA
  rw [R.need_pos (by rw [plA_str, plA_str, pdA_str, pdA_str]; exact ⟨rfl, rfl, shaped_str ha, shaped_str hb⟩), pdA_str, pdA_str]
  exact congrArg R.ok (str_beq a b)
theorem asc_empty : Asc ("" : Str) := Asc.lit (by decide +kernel)
def isWord (s : Str) : Bool := (decide (1 ≤ s.length) && decide (s.length ≤ 20)) && s.cps.toList.all wsg
theorem isWord_iff {s : Str} : isWord s = true ↔ Wsg s ∧ 1 ≤ s.length ∧ s.length ≤ 20 := by
  unfold isWord
  simp only [Bool.and_eq_true, decide_eq_true_eq, List.all_eq_true]
  exact ⟨fun ⟨⟨a, b⟩, c⟩ => ⟨c, a, b⟩, fun ⟨c, a, b⟩ => ⟨⟨a, b⟩, c⟩⟩
theorem is_word_str {s : Str} (hl : s.length ≤ sizeLine) : m_is_word (.str s) = .ok (isWord s) := by
  unfold m_is_word
  have e1 : (Any.str s).is "str" = true := rfl
  rw [e1]
  have e2 : lenA (.str s) = .ok (s.length : Int) := R.need_pos hl _
  show ((lenA (.str s)).bind _).bind _ = _
  rw [e2, R.bind_ok, R.bind_ok]
  by_cases c : 1 ≤ s.length ∧ s.length ≤ 20
  · have c1 : (decide ((1 : Int) ≤ (s.length : Int)) && decide ((s.length : Int) ≤ 20)) = true := by simp; omega
    rw [c1]
    rw [if_neg (by decide)]
    show (R.need _ _) = _
    rw [R.need_pos (by rw [← len_tl]; exact hl), compR_map (g := wsg) fun x _ => by rw [is_sign_eq]; rfl]
    rw [R.bind_ok]
    congr 1
    unfold isWord
    have c2 : (decide (1 ≤ s.length) && decide (s.length ≤ 20)) = true := by simp; exact c
    rw [c2]
    simp [List.all_map]
  · have c1 : (decide ((1 : Int) ≤ (s.length : Int)) && decide ((s.length : Int) ≤ 20)) = false := by
      rw [Bool.and_eq_false_iff]; simp; omega
    rw [c1]
    have c2 : isWord s = false := by
      unfold isWord
      have : (decide (1 ≤ s.length) && decide (s.length ≤ 20)) = false := by rw [Bool.and_eq_false_iff]; simp; omega
      rw [this]; rfl
    rw [c2]; rfl
theorem is_text_str {s : Str} {n : Int} (hl : s.length ≤ sizeLine) : m_is_text (.str s) n = .ok (decide ((s.length : Int) ≤ n)) := by
  unfold m_is_text
  have e2 : lenA (.str s) = .ok (s.length : Int) := R.need_pos hl _
  have e1 : (Any.str s).is "str" = true := rfl
  rw [e1, if_pos rfl, e2]; rfl
theorem is_day_int {n : Int} : m_is_day (.int n) = .ok (decide (0 ≤ n) && decide (n ≤ 9999)) := by
  unfold m_is_day
  have e1 : (Any.int n).is "int" = true := rfl
  have e2 : (Any.int n).is "bool" = false := rfl
  rw [e1, e2]; rfl
structure GoodL (a b c : Str) (d : Int) (e : Str) : Prop where
  ga : isWord a = true
  gb : b.length ≤ 60
  bn : ¬ 10 ∈ b.cps.toList
  gc : c.length ≤ 400
  d0 : 0 ≤ d
  d1 : d ≤ 9999
  ge : e = ("" : Str) ∨ isWord e = true
theorem e_asc {e : Str} (h : e = ("" : Str) ∨ isWord e = true) : Asc e ∧ e.length ≤ 20 := by
  rcases h with rfl | h
  · exact ⟨asc_empty, by decide⟩
  · exact ⟨(isWord_iff.mp h).1.asc, (isWord_iff.mp h).2.2⟩
theorem Letter_ok {a b c e : Str} {d : Int} (h : GoodL a b c d e) : m_Letter___init__ (.str a) (.str b) (.str c) (.int d) (.str e) = .ok ⟨a, b, c, d, e⟩ := by
  unfold m_Letter___init__
  have ha := isWord_iff.mp h.ga
  have he := e_asc h.ge
  have b60 := h.gb
  have c400 := h.gc
  rw [is_word_str (le_line (by omega)), is_text_str (le_line (by omega)), is_text_str (le_line (by omega)), is_day_int, eqA_str he.1 asc_empty, is_word_str (s := e) (le_line (by omega)), h.ga]
  have e1 : decide ((b.length : Int) ≤ 60) = true := by simp; omega
  have e2 : decide ((c.length : Int) ≤ 400) = true := by simp; omega
  have e3 : (decide (0 ≤ d) && decide (d ≤ 9999)) = true := by simp; exact ⟨h.d0, h.d1⟩
  have e4 : decide (10 ∈ b.cps.toList) = false := by simp only [decide_eq_false_iff_not]; exact h.bn
  rw [e1, e2, e3]
  simp only [R.noexc, R.bind_ok, Any.asStr, Any.asInt, e4]
  simp only [Bool.not_true, Bool.false_eq_true, if_false, R.bind_ok]
  rcases h.ge with rfl | h5
  · simp
  · rw [h5]
    by_cases z : e = ("" : Str) <;> simp [z]

/-! the parts that are drawn -/
/-- signs that may be printed -/
def Prt (x : Str) : Prop := ∀ c, c ∈ x.cps.toList → 32 ≤ c ∧ c < 127
theorem Prt.asc {x : Str} (h : Prt x) : Asc x := fun c hc => by have := h c hc; omega
theorem Prt.app {a b : Str} (ha : Prt a) (hb : Prt b) : Prt (a ++ b) := fun c hc => by
  rw [tl_app] at hc
  rcases List.mem_append.mp hc with h | h
  · exact ha c h
  · exact hb c h
theorem Prt.sg {c : Nat} (h : 32 ≤ c ∧ c < 127) : Prt (sg c) := fun d hd => by
  have : d = c := by simpa [Ml.sg] using hd
  rw [this]; exact h
theorem Prt.lit {x : Str} (h : x.cps.toList.all (fun c => decide (32 ≤ c ∧ c < 127)) = true) : Prt x := fun c hc => by simpa using List.all_eq_true.mp h c hc
theorem cutS_mem {x : Str} {a b : Option Int} {c : Nat} (h : c ∈ (cutS x a b).cps.toList) : c ∈ x.cps.toList := by
  rw [cutS_tl] at h; exact cutL_mem h
theorem Prt.cut {x : Str} {a b : Option Int} (h : Prt x) : Prt (cutS x a b) := fun c hc => h c (cutS_mem hc)
theorem cutS_len {x : Str} {a b : Option Int} : (cutS x a b).length ≤ x.length := by rw [len_tl, cutS_tl, len_tl]; exact cutL_len
theorem cutS_to_len {x : Str} {n : Int} (h : 0 ≤ n) : (cutS x none (some n)).length ≤ n.toNat := by
  rw [len_tl, cutS_tl, cutL_to h, List.length_take]; omega
theorem law_signs_prt {a n : Int} (h0 : 0 ≤ n) (h1 : n ≤ 401) : Ok (m_law_signs a n) fun t => Prt t ∧ t.length ≤ n.toNat := by
  unfold m_law_signs
  have el : ((" !\"#$&'()*+,-./0123456789:;<=>?@ABCDEFGHIJKLMNOPQRSTUVWXYZ[\\]^_`" : Str) ++ ("abcdefghijklmnopqrstuvwxyz{|}~" : Str)).cps.toList.length = 94 := by decide +kernel
  have ea : Prt ((" !\"#$&'()*+,-./0123456789:;<=>?@ABCDEFGHIJKLMNOPQRSTUVWXYZ[\\]^_`" : Str) ++ ("abcdefghijklmnopqrstuvwxyz{|}~" : Str)) := Prt.lit (by decide +kernel)
  refine .lets (.need (by decide +kernel) (.lets (.need (by omega) ?_)))
  generalize ((" !\"#$&'()*+,-./0123456789:;<=>?@ABCDEFGHIJKLMNOPQRSTUVWXYZ[\\]^_`" : Str) ++ ("abcdefghijklmnopqrstuvwxyz{|}~" : Str)) = al at *
  refine .forI (fun pre (s : Int × Str) => Prt s.2 ∧ s.2.length = pre.length) (by dsimp only; exact ⟨Prt.lit (by decide +kernel), by decide +kernel⟩) ?_ ?_
  · rintro p x q ⟨y, z⟩ ep ⟨hz, hn⟩
    have hp := pre_lt ep
    rw [rngL_len] at hp
    dsimp only at hz hn
    refine .lets (.bind (Q := fun z => Prt z ∧ z.length = (p ++ [x]).length) ?_ fun s hs => .ret hs)
    generalize (y * 48271 + 11) % 2147483647 = w
    have e1 : (" " : Str).length = 1 := by decide
    refine .ite (fun _ => .need (le_line (by dsimp only; rw [e1]; omega)) (.lets (.ret ⟨hz.app (Prt.lit (by decide +kernel)), by rw [len_app, e1, hn, List.length_append]; rfl⟩))) fun _ => ?_
    refine .bind (Q := fun z => Prt z ∧ z.length = (p ++ [x]).length) (.ite (fun _ => ?_) fun _ => ?_) fun s hs => .ret hs
    · have l12 : ("abcdeABCD012" : Str).cps.toList.length = 12 := by decide +kernel
      refine .idx (Int.emod_nonneg _ (by decide)) (by rw [l12]; exact Int.emod_lt_of_pos _ (by decide)) fun c hc _ => ?_
      have ha : Prt ("abcdeABCD012" : Str) := Prt.lit (by decide +kernel)
      exact .need (le_line (by dsimp only; rw [len_sg]; omega)) (.lets (.ret ⟨hz.app (Prt.sg (ha c hc)), by rw [len_app, len_sg, hn, List.length_append]; rfl⟩))
    · refine .need (le_line (by rw [len_tl, el]; decide)) (.idx (Int.emod_nonneg _ (by decide)) (by rw [el]; exact Int.emod_lt_of_pos _ (by decide)) fun c hc _ => ?_)
      exact .need (le_line (by dsimp only; rw [len_sg]; omega)) (.lets (.ret ⟨hz.app (Prt.sg (ea c hc)), by rw [len_app, len_sg, hn, List.length_append]; rfl⟩))
  · rintro ⟨y, z⟩ ⟨hz, hn⟩
    exact .ret ⟨hz, by dsimp only at hn ⊢; rw [hn, rngL_len]; exact Nat.le_refl _⟩

/-! the parts of k04 -/
theorem law_parts_ok {r : List Int} {b : Int} (hl : r.length = 16) (hx : ∀ x, x ∈ r → 0 ≤ x ∧ x < 2147483629) (hb : 0 ≤ b ∧ b < 2147483647) : Ok (m_law_parts r b) fun p => GoodL p.a p.b p.c p.d p.e ∧ Asc p.b ∧ Asc p.c := by
  unfold m_law_parts
  have at_ : ∀ {ρ : Type} {P : ρ → Prop} {i : Int} {f : Int → R ρ}, 0 ≤ i → i < 16 → (∀ x : Int, 0 ≤ x ∧ x < 2147483629 → Ok (f x) P) → Ok ((idxR r i).bind f) P := fun h0 h1 k => .idx h0 (by rw [hl]; exact h1) fun x m _ => k x (hx x m)
  refine at_ (by decide) (by decide) fun x1 h1 => at_ (by decide) (by decide) fun x2 h2 => ?_
  refine .bind (law_signs_prt (Int.emod_nonneg _ (by decide)) (by omega)) fun t ht => ?_
  have ht60 : t.length ≤ 60 := by have := ht.2; omega
  refine at_ (by decide) (by decide) fun x4 h4 => at_ (by decide) (by decide) fun x5 h5 => at_ (by decide) (by decide) fun x7 h7 => ?_
  refine .idx (Int.emod_nonneg _ (by decide)) (Int.emod_lt_of_pos _ (by decide)) fun x8 m8 _ => ?_
  have h8 : 0 < x8 ∧ x8 ≤ 401 := by simp at m8; omega
  refine .need h8.1 (.bind (law_signs_prt (Int.emod_nonneg _ (by omega)) (by have := Int.emod_lt_of_pos x5 h8.1; omega)) fun y hy => ?_)
  have hy400 : y.length ≤ 400 := by have := hy.2; have := Int.emod_lt_of_pos x5 h8.1; omega
  refine at_ (by decide) (by decide) fun x11 h11 => ?_
  refine .bind (Q := fun y => Asc y ∧ y.length ≤ 400) (.ite (fun _ => ?_) fun _ => .ret ⟨hy.1.asc, hy400⟩) fun y1 hy1 => ?_
  · refine at_ (by decide) (by decide) fun x14 _ => .need (le_line (by omega)) (.need (by omega) (.lets (.need (le_line (by omega)) (at_ (by decide) (by decide) fun x19 _ => ?_))))
    have h0 := Int.emod_nonneg x14 (show ((y.length : Int) + 1) ≠ 0 by omega)
    generalize x14 % ((y.length : Int) + 1) = n at *
    have l2 : ("\n\t" : Str).cps.toList.length = 2 := by decide +kernel
    have ha : Asc ("\n\t" : Str) := Asc.lit (by decide +kernel)
    refine .idx (Int.emod_nonneg _ (by decide)) (by rw [l2]; exact Int.emod_lt_of_pos _ (by decide)) fun c hc _ => ?_
    have c1 : (cutS y none (some n)).length + (cutS y (some n) none).length ≤ y.length := cutS_len2 h0
    refine .need (le_line (by rw [len_sg]; omega)) (.need (le_line (by omega)) (.need (le_line (by rw [len_app, len_sg]; omega)) (.need (le_line (by rw [len_app, len_app, len_sg]; omega)) (.lets (.ret ⟨cutS_asc (((cutS_asc hy.1.asc).app (Asc.sg (ha c hc))).app (cutS_asc hy.1.asc)), cutS_to_len (by decide)⟩)))))
  · refine at_ (by decide) (by decide) fun x26 h26 => ?_
    refine .bind (Q := fun s => (Prt s.1 ∧ s.1.length ≤ 60) ∧ Asc s.2 ∧ s.2.length ≤ 400) (.ite (fun _ => ?_) fun _ => .ret ⟨⟨ht.1, ht60⟩, hy1.1, hy1.2⟩) fun s hs => ?_
    · have c20 : (cutS t none (some 20)).length ≤ 20 := cutS_to_len (n := 20) (by decide)
      have e1 : (" " : Str).length = 1 := by decide
      have y400 := hy1.2
      refine .need (le_line (by omega)) (.need (le_line (by omega)) (.need (le_line (by omega)) (.lets (.need (le_line (by rw [len_app, e1]; omega)) (.need (le_line (by rw [len_app, len_app, e1]; omega)) (.need (le_line (by rw [len_app, len_app, len_app, e1]; omega)) (.lets (.ret ⟨⟨ht.1.cut.app ht.1.cut, by rw [len_app]; omega⟩, ?_, cutS_to_len (by decide)⟩))))))))
      exact cutS_asc (((ht.1.cut.app ht.1.cut).asc.app (Asc.lit (by decide +kernel))).app hy1.1)
    · obtain ⟨⟨p1, p2⟩, a1, a2⟩ := hs
      refine at_ (by decide) (by decide) fun x36 h36 => ?_
      refine .bind (Q := fun z => Asc z ∧ (¬ 10 ∈ z.cps.toList) ∧ z.length ≤ 60) (.ite (fun _ => ?_) fun _ => .ret ⟨p1.asc, fun h => by have := p1 10 h; omega, p2⟩) fun z hz => ?_
      · have e1 : ("\t" : Str).length = 1 := by decide
        have l1 : (cutS s.1 none (some 30)).length ≤ 30 := cutS_to_len (n := 30) (by decide)
        have l2 : (cutS s.1 (some 30) (some 59)).length ≤ 29 := by
          rw [len_tl, cutS_tl]
          unfold cutL
          rw [sIx_nn (by decide), sIx_nn (by decide), List.length_take]
          omega
        refine .need (le_line (by omega)) (.need (le_line (by rw [e1]; omega)) (.need (le_line (by omega)) (.need (le_line (by rw [len_app, e1]; omega)) (.lets (.ret ⟨(p1.cut.asc.app (Asc.lit (by decide +kernel))).app p1.cut.asc, fun h => ?_, by rw [len_app, len_app, e1]; omega⟩)))))
        rw [tl_app, tl_app] at h
        rcases List.mem_append.mp h with h | h
        · rcases List.mem_append.mp h with h | h
          · have := p1.cut 10 h; omega
          · exact absurd h (by decide +kernel)
        · have := p1.cut 10 h; omega
      · refine at_ (by decide) (by decide) fun x43 h43 => at_ (by decide) (by decide) fun x44 h44 => at_ (by decide) (by decide) fun x46 h46 => ?_
        refine .idx (Int.emod_nonneg _ (by decide)) (Int.emod_lt_of_pos _ (by decide)) fun d md _ => ?_
        have hd : 0 ≤ d ∧ d ≤ 9999 := by simp at md; omega
        refine at_ (by decide) (by decide) fun x48 h48 => ?_
        refine .bind (Q := fun e => e = ("" : Str) ∨ isWord e = true) (.ite (fun _ => at_ (by decide) (by decide) fun x50 h50 => .bind (m_law_word_ok hb (by omega)) fun w hw => .ret (.inr (isWord_iff.mpr hw))) fun _ => .ret (.inl rfl)) fun e he => ?_
        refine at_ (by decide) (by decide) fun x52 h52 => .bind (m_law_word_ok hb (by omega)) fun w hw => .ret ⟨⟨isWord_iff.mpr hw, hz.2.2, hz.2.1, a2, hd.1, hd.2, he⟩, hz.1, a1⟩

theorem repS_asc {a : Str} {n : Nat} (h : Asc a) : Asc (repS a n) := fun c hc => by
  rw [rep_tl] at hc
  obtain ⟨l, hl, hcl⟩ := List.mem_flatten.mp hc
  rw [List.eq_of_mem_replicate hl] at hcl
  exact h c hcl

/-! k05: letters that are refused -/
theorem isw_no {x : Any} (h : x.is "str" = false) : m_is_word x = .ok false := by
  unfold m_is_word
  rw [h]; rfl
theorem ist_no {x : Any} {n : Int} (h : x.is "str" = false) : m_is_text x n = .ok false := by
  unfold m_is_text
  rw [h]; rfl
theorem eqA_texts {x : Any} {s : Str} (hp : plA x = true) (hx : SeqAt.shaped (pdA x) = true) (hs : Asc s) (hn : ∀ t, x ≠ .str t) : eqX x (.str s) = .ok false := by
  rw [eqX_pl (by first | exact plA_str _ | assumption)]; unfold eqA
  rw [R.need_pos (by rw [plA_str, pdA_str]; exact ⟨hp, rfl, hx, shaped_str hs⟩), pdA_str]
  congr 1
  cases x with
  | str t => exact absurd rfl (hn t)
  | int t => rw [pdA_int]; rfl
  | bl t => rw [pdA]; rfl
  | non => rw [pdA]; rfl
  | tup t => rw [pdA]; rfl
  | lst t => rw [pdA]; rfl
  | oth t => rw [pdA]; rfl
theorem eqA_any {x y : Any} (hp : plA x = true) (hx : SeqAt.shaped (pdA x) = true) (hq : plA y = true) (hy : SeqAt.shaped (pdA y) = true) : ∃ b, eqX x y = .ok b := by
  exact ⟨PyData.eqv (pdA x) (pdA y), by rw [eqX_pl hp]; exact R.need_pos ⟨hp, hq, hx, hy⟩ _⟩
/-- plain data -/
def Pln (x : Any) : Prop := plA x = true ∧ SeqAt.shaped (pdA x) = true
theorem pln_str {s : Str} (h : Asc s) : Pln (.str s) := ⟨plA_str s, by rw [pdA_str]; exact shaped_str h⟩
theorem pln_int (i : Int) : Pln (.int i) := ⟨plA_int i, by rw [pdA_int]; rfl⟩
theorem pln_bl (i : Bool) : Pln (.bl i) := ⟨by rw [plA] <;> (intro _ h; cases h), by rw [pdA]; rfl⟩
theorem pln_non : Pln .non := ⟨by rw [plA] <;> (intro _ h; cases h), by rw [pdA]; rfl⟩
theorem lay1 {w : Str} (h : Asc w) : (PyData.list [.str w]).canLay0 = true ∧ (PyData.tuple [.str w]).canLay0 = true := by
  have q1 : (PyData.str w).canLay0 = true := h.lay
  constructor <;>
  · simp only [PyData.canLay0, PyData.canLayAll0] at q1 ⊢
    simp only [q1, Bool.and_self]
theorem pln_lst1 {w : Str} (h : Asc w) : Pln (.lst ([w].map Any.str)) := by
  have e1 : [w].map Any.str = [Any.str w] := rfl
  rw [e1]
  refine ⟨by rw [plA, plAL, plAL, plA_str]; rfl, ?_⟩
  rw [pdA, pdAL, pdAL, pdA_str]
  unfold SeqAt.shaped
  rw [(lay1 h).1]; rfl
theorem pln_tup1 {w : Str} (h : Asc w) : Pln (.tup [.str w]) := by
  refine ⟨by rw [plA, plAL, plAL, plA_str]; rfl, ?_⟩
  rw [pdA, pdAL, pdAL, pdA_str]
  unfold SeqAt.shaped
  rw [(lay1 h).2]; rfl
theorem pln_lst0 : Pln (.lst []) := ⟨by rw [plA, plAL], by rw [pdA, pdAL]; rfl⟩
theorem pln_lstI : Pln (.lst ([7].map Any.int)) := by
  have e1 : ([7] : List Int).map Any.int = [Any.int 7] := rfl
  rw [e1]
  exact ⟨by rw [plA, plAL, plAL, plA_int]; rfl, by rw [pdA, pdAL, pdAL, pdA_int]; rfl⟩
theorem pln_tupI : Pln (.tup [.int 7]) := ⟨by rw [plA, plAL, plAL, plA_int]; rfl, by rw [pdA, pdAL, pdAL, pdA_int]; rfl⟩
/-- it may be compared with a text, and with a number -/
def Cmp (x : Any) : Prop := Pln x ∨ x = .oth 1
theorem cmp_str {x : Any} {s : Str} (h : Cmp x) (hs : Asc s) : ∃ b, eqX x (.str s) = .ok b := by
  rcases h with h | rfl
  · exact eqA_any h.1 h.2 (pln_str hs).1 (pln_str hs).2
  · exact ⟨false, rfl⟩
theorem cmp_int {x : Any} {i : Int} (h : Cmp x) : ∃ b, eqX x (.int i) = .ok b := by
  rcases h with h | rfl
  · exact eqA_any h.1 h.2 (pln_int i).1 (pln_int i).2
  · exact ⟨false, rfl⟩
theorem isWord_long {s : Str} (h : 20 < s.length) : isWord s = false := by
  rw [Bool.eq_false_iff]
  intro z
  have := (isWord_iff.mp z).2.2
  omega
theorem isWord_sign {s : Str} {c : Nat} (hc : c ∈ s.cps.toList) (h : wsg c = false) : isWord s = false := by
  rw [Bool.eq_false_iff]
  intro z
  have := (isWord_iff.mp z).1 c hc
  rw [h] at this; cases this
theorem word_true {s : Str} (h : isWord s = true) : m_is_word (.str s) = .ok true := by
  have := (isWord_iff.mp h).2.2
  rw [is_word_str (le_line (by omega)), h]
/-- what is wrong at a place -/
def Bad : Nat → Any → Prop
  | 0, x => m_is_word x = .ok false
  | 1, x => m_is_text x 60 = .ok false ∨ ∃ s, x = .str s ∧ s.length ≤ 60 ∧ 10 ∈ s.cps.toList
  | 2, x => m_is_text x 400 = .ok false
  | 3, x => m_is_day x = .ok false
  | 4, x => eqX x (.str ("" : Str)) = .ok false ∧ m_is_word x = .ok false
  | _, _ => False
section
variable {a b c e : Str} {d : Int} (G : GoodL a b c d e)
include G
theorem init_bad {x0 x1 x2 x3 x4 : Any} (h0 : x0 = .str a ∨ Bad 0 x0) (h1 : x1 = .str b ∨ Bad 1 x1) (h2 : x2 = .str c ∨ Bad 2 x2) (h3 : x3 = .int d ∨ Bad 3 x3) (h4 : x4 = .str e ∨ Bad 4 x4)
    (hb : Bad 0 x0 ∨ Bad 1 x1 ∨ Bad 2 x2 ∨ Bad 3 x3 ∨ Bad 4 x4) : m_Letter___init__ x0 x1 x2 x3 x4 = .exc ⟨2, 0⟩ := by
  have b60 := G.gb
  have c400 := G.gc
  by_cases n0 : Bad 0 x0
  · have n0 : m_is_word x0 = .ok false := n0
    unfold m_Letter___init__
    rw [n0]; rfl
  obtain rfl := h0.resolve_right n0
  by_cases n1 : Bad 1 x1
  · rcases n1 with n1 | ⟨s, rfl, sl, sn⟩
    · unfold m_Letter___init__
      rw [word_true G.ga, n1]; rfl
    · unfold m_Letter___init__
      rw [word_true G.ga, is_text_str (le_line (by omega)), decide_eq_true (show (s.length : Int) ≤ 60 by omega)]
      simp only [R.noexc, R.bind_ok, Any.asStr, Bool.not_true, Bool.false_eq_true, if_false, decide_eq_true sn, if_true]
  obtain rfl := h1.resolve_right n1
  have e1 : decide ((b.length : Int) ≤ 60) = true := by simp; omega
  have e2 : decide ((c.length : Int) ≤ 400) = true := by simp; omega
  have e3 : (decide (0 ≤ d) && decide (d ≤ 9999)) = true := by simp; exact ⟨G.d0, G.d1⟩
  have e4 : decide (10 ∈ b.cps.toList) = false := by simp only [decide_eq_false_iff_not]; exact G.bn
  by_cases n2 : Bad 2 x2
  · have n2 : m_is_text x2 400 = .ok false := n2
    unfold m_Letter___init__
    rw [word_true G.ga, is_text_str (le_line (by omega)), n2, e1]
    simp only [R.noexc, R.bind_ok, Any.asStr, Bool.not_true, Bool.false_eq_true, if_false, e4, Bool.not_false, if_true]
  obtain rfl := h2.resolve_right n2
  by_cases n3 : Bad 3 x3
  · have n3 : m_is_day x3 = .ok false := n3
    unfold m_Letter___init__
    rw [word_true G.ga, is_text_str (le_line (by omega)), is_text_str (le_line (by omega)), n3, e1, e2]
    simp only [R.noexc, R.bind_ok, Any.asStr, Bool.not_true, Bool.false_eq_true, if_false, e4, Bool.not_false, if_true]
  obtain rfl := h3.resolve_right n3
  by_cases n4 : Bad 4 x4
  · have n4 : eqX x4 (.str ("" : Str)) = .ok false ∧ m_is_word x4 = .ok false := n4
    unfold m_Letter___init__
    rw [word_true G.ga, is_text_str (le_line (by omega)), is_text_str (le_line (by omega)), is_day_int, e1, e2, e3, n4.1, n4.2]
    simp only [R.noexc, R.bind_ok, Any.asStr, Bool.not_true, Bool.false_eq_true, if_false, e4, Bool.not_false, if_true]
  · rcases hb with h | h | h | h | h <;> contradiction
end
theorem one_class : m_law_of_one_class ⟨2, 0⟩ = .ok true := by rfl
theorem refused_init {x0 x1 x2 x3 x4 : Any} (h : m_Letter___init__ x0 x1 x2 x3 x4 = .exc ⟨2, 0⟩) (n : Int) : m_law_refused (.tup [x0, x1, x2, x3, x4]) n = .ok true := by
  unfold m_law_refused
  by_cases c : n = 0
  · rw [if_pos (decide_eq_true c)]
    show R.tryC (m_Letter___init__ x0 x1 x2 x3 x4) _ _ = _
    rw [h]; rfl
  · rw [if_neg (by rw [decide_eq_false c]; exact Bool.false_ne_true)]
    have e : m_letter_of (.tup [x0, x1, x2, x3, x4]) = .exc ⟨2, 0⟩ := by
      unfold m_letter_of
      show (m_Letter___init__ x0 x1 x2 x3 x4).bind _ = _
      rw [h]; rfl
    rw [e]; rfl
theorem refused_of {x : Any} (h : m_letter_of x = .exc ⟨2, 0⟩) : m_law_refused x 1 = .ok true := by
  unfold m_law_refused
  rw [if_neg (by decide), h]; rfl
theorem letter_no {x : Any} (h : x.is "tuple" = false) : m_letter_of x = .exc ⟨2, 0⟩ := by unfold m_letter_of; rw [h]; rfl
theorem letter_len {xs : List Any} (h : xs.length ≠ 5) : m_letter_of (.tup xs) = .exc ⟨2, 0⟩ := by
  unfold m_letter_of
  have e1 : (Any.tup xs).is "tuple" = true := rfl
  have e2 : lenA (.tup xs) = .ok (xs.length : Int) := rfl
  have e3 : decide ((xs.length : Int) = 5) = false := decide_eq_false (by omega)
  rw [e1, e2]
  show (if (!decide ((xs.length : Int) = 5)) = true then _ else _) = _
  rw [e3]; rfl

/-! things put otherwise -/
theorem day_no {i : Int} (h : i < 0 ∨ 9999 < i) : m_is_day (.int i) = .ok false := by
  rw [is_day_int]
  have h1 : (decide (0 ≤ i) && decide (i ≤ 9999)) = false := by rw [Bool.and_eq_false_iff]; simp; omega
  rw [h1]
theorem day_other {x : Any} (h : x.is "int" = false ∨ x.is "bool" = true) : m_is_day x = .ok false := by
  unfold m_is_day
  rcases h with h | h
  · rw [h]; rfl
  · rw [h]
    cases x.is "int" <;> rfl
/-- no word; and whether it is the text without signs is told -/
def NoW (x : Any) : Prop := Cmp x ∧ m_is_word x = .ok false ∧ ∃ b, eqX x (.str ("" : Str)) = .ok b ∧ (b = true → x = .str ("" : Str))
theorem noW_str {s : Str} (ha : Asc s) (hl : s.length ≤ 10000) (h : isWord s = false) : NoW (.str s) :=
  ⟨.inl (pln_str ha), by rw [is_word_str (le_line (by omega)), h], _, eqA_str ha asc_empty, fun z => by rw [of_decide_eq_true z]⟩
theorem noW_odd {x : Any} (h : x.is "str" = false) (hp : Pln x) : NoW x :=
  ⟨.inl hp, isw_no h, _, eqA_texts hp.1 hp.2 asc_empty (fun t e => by subst e; cases h), fun z => absurd z Bool.false_ne_true⟩
theorem noW_dict : NoW (.oth 1) := ⟨.inr rfl, isw_no rfl, false, rfl, fun z => absurd z Bool.false_ne_true⟩
theorem odd_word {n : Int} {w : Str} (hw : isWord w = true) : Ok (m_law_odd_word n w) NoW := by
  unfold m_law_odd_word
  obtain ⟨g1, g2, g3⟩ := isWord_iff.mp hw
  have l16 : (" AZ_-.,\n\t~`{\x40[/:" : Str).cps.toList.length = 16 := by decide +kernel
  have a16 : (" AZ_-.,\n\t~`{\x40[/:" : Str).cps.toList.all (fun c => decide (c < 128) && !wsg c) = true := by decide +kernel
  refine .idx (Int.emod_nonneg _ (by decide)) (by rw [l16]; exact Int.emod_lt_of_pos _ (by decide)) fun o ho _ => ?_
  have hc := List.all_eq_true.mp a16 o ho
  rw [Bool.and_eq_true] at hc
  have ho1 : o < 128 := of_decide_eq_true hc.1
  have ho2 : wsg o = false := by simpa using hc.2
  clear hc a16 l16 ho
  refine .need (le_line (by omega)) (.need (by omega) (.lets ?_))
  have y0 := Int.emod_nonneg (n / 128) (show (w.length : Int) ≠ 0 by omega)
  generalize n / 128 % (w.length : Int) = y at *
  have aU : Asc ("abcdefghijklmnopqrstu" : Str) := Asc.lit (by decide +kernel)
  have lU : ("abcdefghijklmnopqrstu" : Str).length = 21 := by decide +kernel
  generalize ("abcdefghijklmnopqrstu" : Str) = U at *
  have c1 : (cutS w none (some y)).length ≤ w.length := cutS_len
  have c2 : (cutS w (some (y + 1)) none).length ≤ w.length := cutS_len
  have lf : (cutS (w ++ U) none (some 21)).length = 21 := by
    rw [len_tl, cutS_tl, cutL_to (by decide), List.length_take, tl_app, List.length_append, ← len_tl, ← len_tl]
    have : (21 : Int).toNat = 21 := rfl
    omega
  refine .need (le_line (by omega)) (.need (le_line (by rw [len_app]; omega)) (.lets (.need (le_line (by omega)) (.need (le_line (by rw [len_sg]; omega)) (.need (le_line (by omega)) (.need (le_line (by rw [len_app, len_sg]; omega)) (.lets ?_)))))))
  refine .idx (Int.emod_nonneg _ (by decide)) (Int.emod_lt_of_pos _ (by decide)) fun x hx _ => .ret ?_
  have wa := g1.asc
  simp only [List.mem_cons, List.not_mem_nil, or_false] at hx
  rcases hx with rfl | rfl | rfl | rfl | rfl | rfl | rfl | rfl | rfl
  · exact noW_str asc_empty (by decide) (by decide +kernel)
  · exact noW_str (cutS_asc (wa.app aU)) (by omega) (isWord_long (by omega))
  · exact noW_str (((cutS_asc wa).app (Asc.sg ho1)).app (cutS_asc wa)) (by rw [len_app, len_app, len_sg]; omega) (isWord_sign (c := o) (by rw [tl_app, tl_app]; exact List.mem_append_left _ (List.mem_append_right _ (by simp [Ml.sg]))) ho2)
  · exact noW_odd rfl pln_non
  · exact noW_odd rfl (pln_int 7)
  · exact noW_odd rfl (pln_bl true)
  · exact noW_odd rfl (pln_lst1 wa)
  · exact noW_odd rfl (pln_tup1 wa)
  · exact noW_dict
theorem len_x : ("x" : Str).length = 1 ∧ ("y" : Str).length = 1 ∧ ("z" : Str).length = 1 ∧ ("q" : Str).length = 1 ∧ ("\n" : Str).length = 1 := by decide +kernel
theorem asc_x : Asc ("x" : Str) ∧ Asc ("y" : Str) ∧ Asc ("z" : Str) ∧ Asc ("q" : Str) ∧ Asc ("\n" : Str) ∧ Asc ("7" : Str) := ⟨Asc.lit (by decide +kernel), Asc.lit (by decide +kernel), Asc.lit (by decide +kernel), Asc.lit (by decide +kernel), Asc.lit (by decide +kernel), Asc.lit (by decide +kernel)⟩
theorem text_no {s : Str} {n : Int} (hl : s.length ≤ 10000) (h : n < s.length) : m_is_text (.str s) n = .ok false := by
  rw [is_text_str (le_line (by omega)), decide_eq_false (by omega)]
theorem odd_title {n : Int} {b : Str} (hb : Asc b) (hl : b.length ≤ 60) : Ok (m_law_odd_title n b) fun x => Cmp x ∧ Bad 1 x := by
  unfold m_law_odd_title
  obtain ⟨lx, ly, _, _, ln⟩ := len_x
  obtain ⟨ax, ay, _, _, an, _⟩ := asc_x
  refine .need (le_line (by omega)) (.need (by omega) (.lets ?_))
  have y0 := Int.emod_nonneg (n / 4) (show ((b.length : Int) + 1) ≠ 0 by omega)
  generalize n / 4 % ((b.length : Int) + 1) = y at *
  have r0 := Int.emod_nonneg (n / 64) (show (3 : Int) ≠ 0 by decide)
  have r1 := Int.emod_lt_of_pos (n / 64) (show (0 : Int) < 3 by decide)
  generalize n / 64 % 3 = r at *
  have lX : (repS ("x" : Str) (61 : Int).toNat).length = 61 := by rw [rep_len, lx]; rfl
  have lY : (repS ("y" : Str) r.toNat).length = r.toNat := by rw [rep_len, ly]; omega
  have aX : Asc (repS ("x" : Str) (61 : Int).toNat) := repS_asc ax
  have aY : Asc (repS ("y" : Str) r.toNat) := repS_asc ay
  have lf : (cutS (b ++ repS ("x" : Str) (61 : Int).toNat) none (some 61)).length = 61 := by
    rw [len_tl, cutS_tl, cutL_to (by decide), List.length_take, tl_app, List.length_append, ← len_tl, ← len_tl, lX]
    have : (61 : Int).toNat = 61 := rfl
    omega
  refine .need ⟨le_line (by rw [lx]; decide), by decide, by decide⟩ (.need (le_line (by rw [lX]; omega)) (.need (le_line (by rw [len_app, lX]; omega)) (.need ⟨le_line (by rw [ly]; omega), by omega, by omega⟩ (.need (le_line (by rw [lf, lY]; omega)) (.lets ?_)))))
  have c1 : (cutS b none (some y)).length ≤ b.length := cutS_len
  have c2 : (cutS b (some y) none).length ≤ b.length := cutS_len
  have c3 : (cutS (cutS b none (some y)) none (some 59)).length ≤ (cutS b none (some y)).length := cutS_len
  have c4 : (cutS (cutS b (some y) none) none (some 10)).length ≤ (cutS b (some y) none).length := cutS_len
  refine .need (le_line (by omega)) (.need (le_line (by omega)) (.need (le_line (by rw [ln]; omega)) (.need (le_line (by omega)) (.need (le_line (by omega)) (.need (le_line (by rw [len_app, ln]; omega)) (.lets ?_))))))
  refine .idx (Int.emod_nonneg _ (by decide)) (Int.emod_lt_of_pos _ (by decide)) fun x hx _ => .ret ?_
  simp only [List.mem_cons, List.not_mem_nil, or_false] at hx
  rcases hx with rfl | rfl | rfl | rfl | rfl | rfl | rfl | rfl
  · exact ⟨.inl (pln_str ((cutS_asc (hb.app aX)).app aY)), .inl (text_no (by rw [len_app, lf, lY]; omega) (by rw [len_app, lf, lY]; omega))⟩
  · have aL : Asc ((cutS (cutS b none (some y)) none (some 59) ++ ("\n" : Str)) ++ cutS (cutS b (some y) none) none (some 10)) := ((cutS_asc (cutS_asc hb)).app an).app (cutS_asc (cutS_asc hb))
    have lL : ((cutS (cutS b none (some y)) none (some 59) ++ ("\n" : Str)) ++ cutS (cutS b (some y) none) none (some 10)).length ≤ 10000 := by rw [len_app, len_app, ln]; omega
    have nL : 10 ∈ ((cutS (cutS b none (some y)) none (some 59) ++ ("\n" : Str)) ++ cutS (cutS b (some y) none) none (some 10)).cps.toList := by
      rw [tl_app, tl_app]; exact List.mem_append_left _ (List.mem_append_right _ (by decide +kernel))
    generalize ((cutS (cutS b none (some y)) none (some 59) ++ ("\n" : Str)) ++ cutS (cutS b (some y) none) none (some 10)) = L at *
    refine ⟨.inl (pln_str aL), ?_⟩
    by_cases z : L.length ≤ 60
    · exact .inr ⟨L, rfl, z, nL⟩
    · exact .inl (text_no lL (by omega))
  · exact ⟨.inl pln_non, .inl (ist_no rfl)⟩
  · exact ⟨.inl (pln_int 5), .inl (ist_no rfl)⟩
  · exact ⟨.inl pln_lst0, .inl (ist_no rfl)⟩
  · exact ⟨.inl (pln_tup1 ax), .inl (ist_no rfl)⟩
  · exact ⟨.inr rfl, .inl (ist_no rfl)⟩
  · exact ⟨.inl (pln_lst1 ax), .inl (ist_no rfl)⟩
def lst5 (f : Nat → Any) : List Any := [f 0, f 1, f 2, f 3, f 4]
def orig (p : T5 Str Str Str Int Str) : Nat → Any
  | 0 => .str p.a
  | 1 => .str p.b
  | 2 => .str p.c
  | 3 => .int p.d
  | _ => .str p.e
def put5 (f : Nat → Any) (k : Nat) (x : Any) : Nat → Any := fun j => if j = k then x else f j
theorem isWord_abc : isWord ("abc" : Str) = true := by decide +kernel
theorem odd_parts {n : Int} (h0 : 0 ≤ n) {p : T5 Str Str Str Int Str} (G : GoodL p.a p.b p.c p.d p.e) (hb : Asc p.b) (hc : Asc p.c) :
    Ok (m_law_odd_parts n p) fun r => ∃ k x, k < 5 ∧ r = .tup (lst5 (put5 (orig p) k x)) ∧ Cmp x ∧ Bad k x := by
  unfold m_law_odd_parts
  obtain ⟨lx, ly, lz, lq, ln⟩ := len_x
  obtain ⟨ax, ay, az, aq, an, a7⟩ := asc_x
  obtain ⟨a, b, c, d, e⟩ := p
  dsimp only at G hb hc ⊢
  have b60 := G.gb
  have c400 := G.gc
  refine .lets (.lets (.ite (fun _ => .bind (odd_word G.ga) fun x hx => .ret ⟨0, x, by decide, rfl, hx.1, hx.2.1⟩) fun _ => .ite (fun _ => .bind (odd_title hb b60) fun x hx => .ret ⟨1, x, by decide, rfl, hx.1, hx.2⟩) fun _ => .ite (fun _ => ?_) fun _ => .ite (fun _ => ?_) fun _ => ?_))
  · have lZ : (repS ("z" : Str) (401 : Int).toNat).length = 401 := by rw [rep_len, lz]; rfl
    have lQ : (repS ("q" : Str) (500 : Int).toNat).length = 500 := by rw [rep_len, lq]; rfl
    have aZ : Asc (repS ("z" : Str) (401 : Int).toNat) := repS_asc az
    have aQ : Asc (repS ("q" : Str) (500 : Int).toNat) := repS_asc aq
    have lf : (cutS (c ++ repS ("z" : Str) (401 : Int).toNat) none (some 401)).length = 401 := by
      rw [len_tl, cutS_tl, cutL_to (by decide), List.length_take, tl_app, List.length_append, ← len_tl, ← len_tl, lZ]
      have : (401 : Int).toNat = 401 := rfl
      omega
    refine .need ⟨le_line (by rw [lz]; decide), by decide, by decide⟩ (.need (le_line (by rw [lZ]; omega)) (.need (le_line (by rw [len_app, lZ]; omega)) (.lets (.need ⟨le_line (by rw [lq]; decide), by decide, by decide⟩ ?_))))
    refine .idx (Int.emod_nonneg _ (by decide)) (Int.emod_lt_of_pos _ (by decide)) fun x hx _ => .ret ⟨2, x, by decide, rfl, ?_⟩
    show Cmp x ∧ m_is_text x 400 = .ok false
    simp only [List.mem_cons, List.not_mem_nil, or_false] at hx
    rcases hx with rfl | rfl | rfl | rfl | rfl | rfl | rfl | rfl
    · exact ⟨.inl (pln_str (cutS_asc (hc.app aZ))), text_no (by rw [lf]; decide) (by rw [lf]; decide)⟩
    · exact ⟨.inl pln_non, ist_no rfl⟩
    · exact ⟨.inl (pln_int 9), ist_no rfl⟩
    · exact ⟨.inl (pln_str aQ), text_no (by rw [lQ]; decide) (by rw [lQ]; decide)⟩
    · exact ⟨.inl pln_lst0, ist_no rfl⟩
    · exact ⟨.inl (pln_tup1 ax), ist_no rfl⟩
    · exact ⟨.inr rfl, ist_no rfl⟩
    · exact ⟨.inl (pln_lst1 ax), ist_no rfl⟩
  · have z1 := Int.emod_nonneg (n / 5 / 6) (show (999 : Int) ≠ 0 by decide)
    refine .lets (.idx (Int.emod_nonneg _ (by decide)) (Int.emod_lt_of_pos _ (by decide)) fun x hx _ => .ret ⟨3, x, by decide, rfl, ?_⟩)
    show Cmp x ∧ m_is_day x = .ok false
    simp only [List.mem_cons, List.not_mem_nil, or_false] at hx
    rcases hx with rfl | rfl | rfl | rfl | rfl | rfl | rfl | rfl | rfl | rfl | rfl
    · exact ⟨.inl (pln_int _), day_no (by omega)⟩
    · exact ⟨.inl (pln_int _), day_no (by omega)⟩
    · exact ⟨.inl (pln_bl _), day_other (.inr rfl)⟩
    · exact ⟨.inl (pln_str a7), day_other (.inl rfl)⟩
    · exact ⟨.inl pln_non, day_other (.inl rfl)⟩
    · exact ⟨.inl (pln_int _), day_no (by omega)⟩
    · exact ⟨.inl (pln_int _), day_no (by omega)⟩
    · exact ⟨.inl pln_lstI, day_other (.inl rfl)⟩
    · exact ⟨.inl pln_tupI, day_other (.inl rfl)⟩
    · exact ⟨.inr rfl, day_other (.inl rfl)⟩
    · exact ⟨.inl pln_lst0, day_other (.inl rfl)⟩
  · refine .bind (odd_word isWord_abc) fun x hx => ?_
    obtain ⟨h1, h2, bb, h3, h4⟩ := hx
    have aab : Asc ("a b" : Str) := Asc.lit (by decide +kernel)
    refine .bindE h3 (.bind (Q := fun y => Cmp y ∧ Bad 4 y) (.ite (fun _ => .ret ⟨.inl (pln_str aab), ?_, ?_⟩) fun z => .ret ⟨h1, ?_, h2⟩) fun y hy => .ret ⟨4, y, by decide, rfl, hy⟩)
    · rw [eqA_str aab asc_empty]; decide +kernel
    · rw [is_word_str (by decide)]; decide +kernel
    · rw [h3]
      congr 1
      simpa using z

/-! two put otherwise; the law -/
theorem idx5 {f : Nat → Any} {i : Nat} (h : i < 5) : idxR (lst5 f) (i : Int) = .ok (f i) := by
  have : i = 0 ∨ i = 1 ∨ i = 2 ∨ i = 3 ∨ i = 4 := by omega
  rcases this with rfl | rfl | rfl | rfl | rfl <;> exact idxR_ok (by decide) rfl
theorem ix5 {f : Nat → Any} {i : Nat} (h : i < 5) : ixR (lst5 f) (i : Int) = .ok i := ixR_ok (by omega) (by show (i : Int) < 5; omega)
theorem set5 {f : Nat → Any} {i : Nat} {v : Any} (h : i < 5) : (lst5 f).set i v = lst5 (put5 f i v) := by
  have : i = 0 ∨ i = 1 ∨ i = 2 ∨ i = 3 ∨ i = 4 := by omega
  rcases this with rfl | rfl | rfl | rfl | rfl <;> rfl
theorem lst5_congr {f g : Nat → Any} (h : ∀ j, j < 5 → f j = g j) : lst5 f = lst5 g := by
  unfold lst5
  rw [h 0 (by decide), h 1 (by decide), h 2 (by decide), h 3 (by decide), h 4 (by decide)]
/-- at some place something is wrong -/
def Wrong (p : T5 Str Str Str Int Str) (x : Any) : Prop := ∃ f : Nat → Any, x = .tup (lst5 f) ∧ (∀ j, j < 5 → f j = orig p j ∨ Bad j (f j)) ∧ ∃ j, j < 5 ∧ Bad j (f j)
theorem wrong_one {p : T5 Str Str Str Int Str} {k : Nat} {x : Any} (hk : k < 5) (hx : Bad k x) : Wrong p (.tup (lst5 (put5 (orig p) k x))) := by
  refine ⟨_, rfl, fun j _ => ?_, k, hk, ?_⟩
  · unfold put5
    by_cases c : j = k
    · rw [if_pos c]; subst c; exact .inr hx
    · rw [if_neg c]; exact .inl rfl
  · unfold put5
    rw [if_pos rfl]; exact hx
theorem wrong_refused {p : T5 Str Str Str Int Str} (G : GoodL p.a p.b p.c p.d p.e) {x : Any} (h : Wrong p x) (n : Int) : m_law_refused x n = .ok true := by
  obtain ⟨f, rfl, h1, j, hj, h2⟩ := h
  refine refused_init (init_bad G (h1 0 (by decide)) (h1 1 (by decide)) (h1 2 (by decide)) (h1 3 (by decide)) (h1 4 (by decide)) ?_) n
  have : j = 0 ∨ j = 1 ∨ j = 2 ∨ j = 3 ∨ j = 4 := by omega
  rcases this with rfl | rfl | rfl | rfl | rfl
  · exact .inl h2
  · exact .inr (.inl h2)
  · exact .inr (.inr (.inl h2))
  · exact .inr (.inr (.inr (.inl h2)))
  · exact .inr (.inr (.inr (.inr h2)))
theorem eqA_int_self (i : Int) : eqX (.int i) (.int i) = .ok true := by
  rw [eqX_pl (plA_int _)]
  show R.need _ _ = _
  rw [R.need_pos (by rw [plA_int, pdA_int]; exact ⟨rfl, rfl, rfl, rfl⟩), pdA_int]
  congr 1
  show (i == i) = true
  simp
theorem orig_self {p : T5 Str Str Str Int Str} (G : GoodL p.a p.b p.c p.d p.e) (hb : Asc p.b) (hc : Asc p.c) (j : Nat) : eqX (orig p j) (orig p j) = .ok true := by
  have s : ∀ {t : Str}, Asc t → eqX (.str t) (.str t) = .ok true := fun h => by rw [eqA_str h h]; simp
  match j with
  | 0 => exact s (isWord_iff.mp G.ga).1.asc
  | 1 => exact s hb
  | 2 => exact s hc
  | 3 => exact eqA_int_self _
  | _ + 4 => exact s (e_asc G.ge).1
theorem orig_cmp {p : T5 Str Str Str Int Str} (G : GoodL p.a p.b p.c p.d p.e) (hb : Asc p.b) (hc : Asc p.c) {x : Any} (h : Cmp x) (j : Nat) : ∃ b, eqX x (orig p j) = .ok b := by
  match j with
  | 0 => exact cmp_str h (isWord_iff.mp G.ga).1.asc
  | 1 => exact cmp_str h hb
  | 2 => exact cmp_str h hc
  | 3 => exact cmp_int h
  | _ + 4 => exact cmp_str h (e_asc G.ge).1
theorem rng_pre {n : Nat} {pre q : List Int} {x : Int} (e : rngL 0 n = pre ++ x :: q) : x = (pre.length : Int) ∧ pre.length < n := by
  have h1 : pre.length < (rngL 0 n).length := pre_lt e
  rw [rngL_len] at h1
  refine ⟨?_, h1⟩
  have h2 : (rngL 0 n)[pre.length]? = some x := by rw [e]; simp
  unfold rngL at h2
  rw [List.getElem?_map, List.getElem?_range h1] at h2
  simp at h2
  omega
theorem law_ok (s : Script) (_ : s.ns.length ≤ 63) : m_law s = .ok true := by
  unfold m_law
  refine Ok.eq ?_
  refine .bind (m_law_row_ok s (by decide) (by decide)) fun r hr => ?_
  obtain ⟨hl, hx⟩ := hr
  have hl : r.length = 16 := hl
  have at_ : ∀ {ρ : Type} {P : ρ → Prop} {i : Int} {f : Int → R ρ}, 0 ≤ i → i < 16 → (∀ x : Int, 0 ≤ x ∧ x < 2147483629 → Ok (f x) P) → Ok ((idxR r i).bind f) P := fun h0 h1 k => .idx h0 (by rw [hl]; exact h1) fun x m _ => k x (hx x m)
  refine at_ (by decide) (by decide) fun x3 h3 => .bind (law_parts_ok hl hx ⟨h3.1, by omega⟩) fun p hp => ?_
  obtain ⟨G, hb, hc⟩ := hp
  refine at_ (by decide) (by decide) fun x7 h7 => .bind (odd_parts h7.1 G hb hc) fun y hy => ?_
  obtain ⟨k, x, hk, rfl, cx, bx⟩ := hy
  refine at_ (by decide) (by decide) fun x11 h11 => .bind (Q := Wrong p) (.ite (fun _ => ?_) fun _ => .ret (wrong_one hk bx)) fun w hw => ?_
  · refine at_ (by decide) (by decide) fun x18 h18 => .bind (odd_parts h18.1 G hb hc) fun y2 hy2 => ?_
    obtain ⟨k2, x2, hk2, rfl, cx2, bx2⟩ := hy2
    obtain ⟨bb, hbb⟩ := orig_cmp G hb hc cx k
    let B : Nat → Bool := fun j => if j = k then bb else true
    have hB : ∀ j, eqX (put5 (orig p) k x j) (orig p j) = .ok (B j) := fun j => by
      show eqX (if j = k then x else orig p j) (orig p j) = .ok (if j = k then bb else true)
      by_cases c : j = k
      · rw [if_pos c, if_pos c, c]; exact hbb
      · rw [if_neg c, if_neg c]; exact orig_self G hb hc j
    let g : Nat → Any := fun j => if B j = true then put5 (orig p) k2 x2 j else put5 (orig p) k x j
    refine .bindE rfl (.forI (fun pre (s : List Any) => s = lst5 (fun j => if j < pre.length then g j else put5 (orig p) k x j)) rfl ?_ ?_)
    · rintro pre i q s ep rfl
      obtain ⟨rfl, hi⟩ := rng_pre ep
      refine .bindE rfl (.bindE (idx5 hi) (.bindE rfl ?_))
      refine .bindE (show idxR (lst5 (orig p)) (pre.length : Int) = .ok (orig p pre.length) from idx5 hi) (.bindE (hB pre.length) ?_)
      refine .bind (Q := fun s => s = lst5 (fun j => if j < pre.length + 1 then g j else put5 (orig p) k x j)) (.ite (fun z => ?_) fun z => .ret ?_) fun s hs => .ret (by rw [List.length_append]; exact hs)
      · refine .bindE rfl (.bindE (idx5 hi) (.bindE (ix5 hi) (.ret ?_)))
        rw [set5 hi]
        refine lst5_congr fun j _ => ?_
        show (if j = pre.length then _ else if j < pre.length then _ else _) = _
        by_cases c : j = pre.length
        · subst c
          rw [if_pos rfl, if_pos (by omega)]
          show _ = (if B pre.length = true then _ else _)
          rw [if_pos z]
        · rw [if_neg c]
          by_cases c2 : j < pre.length
          · rw [if_pos c2, if_pos (by omega)]
          · rw [if_neg c2, if_neg (by omega)]
      · refine lst5_congr fun j _ => ?_
        by_cases c : j = pre.length
        · subst c
          rw [if_neg (by omega), if_pos (by omega)]
          show _ = (if B pre.length = true then _ else _)
          rw [if_neg z]
        · by_cases c2 : j < pre.length
          · rw [if_pos c2, if_pos (by omega)]
          · rw [if_neg c2, if_neg (by omega)]
    · rintro s rfl
      refine .ret ?_
      have e1 : lst5 (fun j => if j < (rngL 0 5).length then g j else put5 (orig p) k x j) = lst5 g := lst5_congr fun j hj => by rw [rngL_len, if_pos hj]
      rw [e1]
      by_cases c : bb = true
      · have e2 : lst5 g = lst5 (put5 (orig p) k2 x2) := lst5_congr fun j _ => by
          show (if (if j = k then bb else true) = true then _ else _) = _
          by_cases z : j = k
          · rw [if_pos z, if_pos c]
          · rw [if_neg z, if_pos rfl]
        rw [e2]; exact wrong_one hk2 bx2
      · refine ⟨g, rfl, fun j _ => ?_, k, hk, ?_⟩
        · show (if (if j = k then bb else true) = true then put5 (orig p) k2 x2 j else put5 (orig p) k x j) = _ ∨ Bad j (if (if j = k then bb else true) = true then put5 (orig p) k2 x2 j else put5 (orig p) k x j)
          by_cases z : j = k
          · rw [if_pos z, if_neg c]
            subst z
            unfold put5
            rw [if_pos rfl]; exact .inr bx
          · rw [if_neg z, if_pos rfl]
            unfold put5
            by_cases z2 : j = k2
            · rw [if_pos z2]; subst z2; exact .inr bx2
            · rw [if_neg z2]; exact .inl rfl
        · show Bad k (if (if k = k then bb else true) = true then put5 (orig p) k2 x2 k else put5 (orig p) k x k)
          rw [if_pos rfl, if_neg c]
          unfold put5
          rw [if_pos rfl]; exact bx
  · refine .bindE (wrong_refused G hw 0) (.bind (Q := fun b => b = false) (.ifF (by decide) (.bindE (wrong_refused G hw 1) (.ret rfl))) fun b hb1 => ?_)
    subst hb1
    obtain ⟨a, b, c, d, e⟩ := p
    dsimp only at G hb hc ⊢
    have ha := (isWord_iff.mp G.ga).1.asc
    have he := (e_asc G.ge).1
    have lp : (Lay.lay (⟨a, b, c, d, e⟩ : T5 Str Str Str Int Str) : Bool) = true := by
      show (Lay.lay a && (Lay.lay b && (Lay.lay c && (Lay.lay d && Lay.lay e)))) = true
      rw [ha.lay, hb.lay, hc.lay, he.lay]; rfl
    have eI := Letter_ok G
    have eO : m_letter_of (Any.tup [Any.str a, Any.str b, Any.str c, Any.int d, Any.str e]) = .ok ⟨a, b, c, d, e⟩ := by
      unfold m_letter_of
      show (m_Letter___init__ (.str a) (.str b) (.str c) (.int d) (.str e)).bind _ = _
      rw [eI]; rfl
    have eP : m_Letter_parts (⟨a, b, c, d, e⟩ : Letter) = .ok ⟨a, b, c, d, e⟩ := rfl
    have eR : m_law_refused (Any.tup [Any.str a, Any.str b, Any.str c, Any.int d, Any.str e]) 0 = .ok false := by
      unfold m_law_refused
      rw [if_pos (by decide)]
      show R.tryC (m_Letter___init__ (.str a) (.str b) (.str c) (.int d) (.str e)) _ _ = _
      rw [eI]; rfl
    have fin : Ok ((m_letter_of (Any.tup [Any.str a, Any.str b, Any.str c, Any.int d, Any.str e])).bind fun r165 => (m_Letter_parts r165).bind fun r170 => R.need (Lay.lay (r170 : (T5 Str Str Str Int Str)) = true) <| R.need (Lay.lay ((⟨a, b, c, d, e⟩ : T5 Str Str Str Int Str)) = true) <|
        (if (decide ((r170 : (T5 Str Str Str Int Str)) = ⟨a, b, c, d, e⟩)) = true then ((m_law_refused (Any.tup [Any.str a, Any.str b, Any.str c, Any.int d, Any.str e]) 0).bind fun r187 => R.ok (!r187)) else R.ok false).bind fun b175 => R.ok (b175)) (· = true) :=
      .bindE eO (.bindE eP (.need lp (.need lp (.bind (Q := fun z => z = true) (.ifT (by simp) (.bindE eR (.ret rfl))) fun z hz => .ret hz))))
    refine .ifF (by decide) (at_ (by decide) (by decide) fun x84 h84 => .ite (fun _ => ?_) fun _ => fin)
    refine .need (le_line (by show 5 + 1 ≤ _; decide)) (.lets (at_ (by decide) (by decide) fun x143 h143 => .idx (Int.emod_nonneg _ (by decide)) (Int.emod_lt_of_pos _ (by decide)) fun x hx _ => ?_))
    have hxx : m_letter_of x = .exc ⟨2, 0⟩ := by
      simp only [List.mem_cons, List.not_mem_nil, or_false] at hx
      rcases hx with rfl | rfl | rfl | rfl | rfl | rfl | rfl
      · exact letter_no rfl
      · exact letter_no rfl
      · exact letter_len (by show 4 ≠ 5; decide)
      · exact letter_len (by show 6 ≠ 5; decide)
      · exact letter_len (by show 0 ≠ 5; decide)
      · exact letter_no rfl
      · exact letter_no rfl
    exact .bindE (refused_of hxx) (.ifF (by decide) fin)

end Lw

namespace Lw
open PySem PySem.Spec PyProof.Rows L2 Ml
instance imLetterI {G : Gx} : Im G Letter := ⟨fun H v x => ∃ a dx, v = .ref a ∧ G.fz (G.cl 7) = some 5 ∧ H a = some (.ins (G.cl 7) dx [("sender", (.str (x.sender))), ("title", (.str (x.title))), ("body", (.str (x.body))), ("day", (.int (x.day))), ("answers", (.str (x.answers)))]),
  fun ⟨a, dx, e, z, h⟩ s => ⟨a, dx, e, z, s.1 a _ h (by show decide (G.fz (G.cl 7) = some 5) = true; rw [z]; rfl)⟩⟩
instance {G : Gx} : IsRef G Letter := ⟨fun h => by obtain ⟨a, _, e, _⟩ := h; exact ⟨a, e⟩⟩
theorem im_Letter {G : Gx} {H : Hp} {a : Addr} {x : Letter} (h : Im.im G H (.ref a) x) : ∃ dx, H a = some (.ins (G.cl 7) dx [("sender", (.str (x.sender))), ("title", (.str (x.title))), ("body", (.str (x.body))), ("day", (.int (x.day))), ("answers", (.str (x.answers)))]) := by
  obtain ⟨b, dx, e, _, h⟩ := h; cases e; exact ⟨dx, h⟩
theorem mk_Letter {G : Gx} {H : Hp} {a dx : Addr} {f_sender : Str} {f_title : Str} {f_body : Str} {f_day : Int} {f_answers : Str} (z : G.fz (G.cl 7) = some 5) (h : H a = some (.ins (G.cl 7) dx [("sender", (.str (f_sender))), ("title", (.str (f_title))), ("body", (.str (f_body))), ("day", (.int (f_day))), ("answers", (.str (f_answers)))])) : Im.im G H (.ref a) (⟨f_sender, f_title, f_body, f_day, f_answers⟩ : Letter) := ⟨a, dx, rfl, z, h⟩
def top (i : Nat) : Stmt := PySem.Challenge.pw_mailroom_k05_letters_refused.main.body.getD i (.Pass ⟨0, 0, 0, 0⟩)
abbrev s_is_sign : Stmt := top 13
abbrev s_is_word : Stmt := top 14
abbrev s_words_of : Stmt := top 15
abbrev s_each_once : Stmt := top 16
abbrev s_is_text : Stmt := top 21
abbrev s_is_day : Stmt := top 22
abbrev s_Letter___init__ : Stmt := inClass (top 23) 0
abbrev s_Letter_parts : Stmt := inClass (top 23) 1
abbrev s_Letter_words : Stmt := inClass (top 23) 3
abbrev s_letter_of : Stmt := top 24
abbrev s_law_row : Stmt := top 26
abbrev s_law_word : Stmt := top 27
abbrev s_law_signs : Stmt := top 28
abbrev s_law_parts : Stmt := top 29
abbrev s_law_of_one_class : Stmt := top 30
abbrev s_law_odd_word : Stmt := top 31
abbrev s_law_odd_title : Stmt := top 32
abbrev s_law_odd_parts : Stmt := top 33
abbrev s_law_refused : Stmt := top 34
abbrev s_law : Stmt := top 35
structure Txt (G : Gx) (mg : Str → Option Value) where
  a_is_sign : Addr
  fd_is_sign : FuncData
  F_is_sign : Fun G.K "is_sign" "is_sign" s_is_sign a_is_sign fd_is_sign
  b_is_sign : Binds G.K fd_is_sign ["sign"] []
  kp_is_sign : PySem.W.keepIn G.K (.ref a_is_sign) = true
  g_is_sign : mg "is_sign" = some (.ref a_is_sign)
  a_is_word : Addr
  fd_is_word : FuncData
  F_is_word : Fun G.K "is_word" "is_word" s_is_word a_is_word fd_is_word
  b_is_word : Binds G.K fd_is_word ["thing"] []
  kp_is_word : PySem.W.keepIn G.K (.ref a_is_word) = true
  g_is_word : mg "is_word" = some (.ref a_is_word)
  a_words_of : Addr
  fd_words_of : FuncData
  F_words_of : Fun G.K "words_of" "words_of" s_words_of a_words_of fd_words_of
  b_words_of : Binds G.K fd_words_of ["text"] []
  kp_words_of : PySem.W.keepIn G.K (.ref a_words_of) = true
  g_words_of : mg "words_of" = some (.ref a_words_of)
  a_each_once : Addr
  fd_each_once : FuncData
  F_each_once : Fun G.K "each_once" "each_once" s_each_once a_each_once fd_each_once
  b_each_once : Binds G.K fd_each_once ["row"] []
  kp_each_once : PySem.W.keepIn G.K (.ref a_each_once) = true
  g_each_once : mg "each_once" = some (.ref a_each_once)
  a_is_text : Addr
  fd_is_text : FuncData
  F_is_text : Fun G.K "is_text" "is_text" s_is_text a_is_text fd_is_text
  b_is_text : Binds G.K fd_is_text ["thing", "most"] []
  kp_is_text : PySem.W.keepIn G.K (.ref a_is_text) = true
  g_is_text : mg "is_text" = some (.ref a_is_text)
  a_is_day : Addr
  fd_is_day : FuncData
  F_is_day : Fun G.K "is_day" "is_day" s_is_day a_is_day fd_is_day
  b_is_day : Binds G.K fd_is_day ["thing"] []
  kp_is_day : PySem.W.keepIn G.K (.ref a_is_day) = true
  g_is_day : mg "is_day" = some (.ref a_is_day)
  a_Letter___init__ : Addr
  fd_Letter___init__ : FuncData
  F_Letter___init__ : FunD G.K "__init__" "Letter.__init__" (defArgs s_Letter___init__) (defBody s_Letter___init__) (defScope s_Letter___init__) [.str ("" : Str)] [] a_Letter___init__ fd_Letter___init__
  b_Letter___init__ : Binds G.K fd_Letter___init__ ["self", "sender", "title", "body", "day", "answers"] []
  kp_Letter___init__ : PySem.W.keepIn G.K (.ref a_Letter___init__) = true
  k_Letter : Mk G.K (G.cl 7) a_Letter___init__
  a_Letter_parts : Addr
  fd_Letter_parts : FuncData
  F_Letter_parts : Fun G.K "parts" "Letter.parts" s_Letter_parts a_Letter_parts fd_Letter_parts
  b_Letter_parts : Binds G.K fd_Letter_parts ["self"] []
  kp_Letter_parts : PySem.W.keepIn G.K (.ref a_Letter_parts) = true
  m_Letter_parts : Meth G.K (G.cl 7) "parts" a_Letter_parts
  a_Letter_words : Addr
  fd_Letter_words : FuncData
  F_Letter_words : Fun G.K "words" "Letter.words" s_Letter_words a_Letter_words fd_Letter_words
  b_Letter_words : Binds G.K fd_Letter_words ["self"] []
  kp_Letter_words : PySem.W.keepIn G.K (.ref a_Letter_words) = true
  m_Letter_words : Meth G.K (G.cl 7) "words" a_Letter_words
  a_letter_of : Addr
  fd_letter_of : FuncData
  F_letter_of : Fun G.K "letter_of" "letter_of" s_letter_of a_letter_of fd_letter_of
  b_letter_of : Binds G.K fd_letter_of ["thing"] []
  kp_letter_of : PySem.W.keepIn G.K (.ref a_letter_of) = true
  g_letter_of : mg "letter_of" = some (.ref a_letter_of)
  a_law_row : Addr
  fd_law_row : FuncData
  F_law_row : Fun G.K "_law_row" "_law_row" s_law_row a_law_row fd_law_row
  b_law_row : Binds G.K fd_law_row ["_law_script", "_law_many"] []
  kp_law_row : PySem.W.keepIn G.K (.ref a_law_row) = true
  g_law_row : mg "_law_row" = some (.ref a_law_row)
  a_law_word : Addr
  fd_law_word : FuncData
  F_law_word : Fun G.K "_law_word" "_law_word" s_law_word a_law_word fd_law_word
  b_law_word : Binds G.K fd_law_word ["_law_base", "_law_turn"] []
  kp_law_word : PySem.W.keepIn G.K (.ref a_law_word) = true
  g_law_word : mg "_law_word" = some (.ref a_law_word)
  a_law_signs : Addr
  fd_law_signs : FuncData
  F_law_signs : Fun G.K "_law_signs" "_law_signs" s_law_signs a_law_signs fd_law_signs
  b_law_signs : Binds G.K fd_law_signs ["_law_number", "_law_many"] []
  kp_law_signs : PySem.W.keepIn G.K (.ref a_law_signs) = true
  g_law_signs : mg "_law_signs" = some (.ref a_law_signs)
  a_law_parts : Addr
  fd_law_parts : FuncData
  F_law_parts : Fun G.K "_law_parts" "_law_parts" s_law_parts a_law_parts fd_law_parts
  b_law_parts : Binds G.K fd_law_parts ["_law_row_here", "_law_base"] []
  kp_law_parts : PySem.W.keepIn G.K (.ref a_law_parts) = true
  g_law_parts : mg "_law_parts" = some (.ref a_law_parts)
  a_law_of_one_class : Addr
  fd_law_of_one_class : FuncData
  F_law_of_one_class : Fun G.K "_law_of_one_class" "_law_of_one_class" s_law_of_one_class a_law_of_one_class fd_law_of_one_class
  b_law_of_one_class : Binds G.K fd_law_of_one_class ["_law_e"] []
  kp_law_of_one_class : PySem.W.keepIn G.K (.ref a_law_of_one_class) = true
  g_law_of_one_class : mg "_law_of_one_class" = some (.ref a_law_of_one_class)
  a_law_odd_word : Addr
  fd_law_odd_word : FuncData
  F_law_odd_word : Fun G.K "_law_odd_word" "_law_odd_word" s_law_odd_word a_law_odd_word fd_law_odd_word
  b_law_odd_word : Binds G.K fd_law_odd_word ["_law_number", "_law_word_here"] []
  kp_law_odd_word : PySem.W.keepIn G.K (.ref a_law_odd_word) = true
  g_law_odd_word : mg "_law_odd_word" = some (.ref a_law_odd_word)
  a_law_odd_title : Addr
  fd_law_odd_title : FuncData
  F_law_odd_title : Fun G.K "_law_odd_title" "_law_odd_title" s_law_odd_title a_law_odd_title fd_law_odd_title
  b_law_odd_title : Binds G.K fd_law_odd_title ["_law_number", "_law_title"] []
  kp_law_odd_title : PySem.W.keepIn G.K (.ref a_law_odd_title) = true
  g_law_odd_title : mg "_law_odd_title" = some (.ref a_law_odd_title)
  a_law_odd_parts : Addr
  fd_law_odd_parts : FuncData
  F_law_odd_parts : Fun G.K "_law_odd_parts" "_law_odd_parts" s_law_odd_parts a_law_odd_parts fd_law_odd_parts
  b_law_odd_parts : Binds G.K fd_law_odd_parts ["_law_number", "_law_parts_here"] []
  kp_law_odd_parts : PySem.W.keepIn G.K (.ref a_law_odd_parts) = true
  g_law_odd_parts : mg "_law_odd_parts" = some (.ref a_law_odd_parts)
  a_law_refused : Addr
  fd_law_refused : FuncData
  F_law_refused : Fun G.K "_law_refused" "_law_refused" s_law_refused a_law_refused fd_law_refused
  b_law_refused : Binds G.K fd_law_refused ["_law_parts_here", "_law_way"] []
  kp_law_refused : PySem.W.keepIn G.K (.ref a_law_refused) = true
  g_law_refused : mg "_law_refused" = some (.ref a_law_refused)
  a_law : Addr
  fd_law : FuncData
  F_law : Fun G.K "law" "law" s_law a_law fd_law
  b_law : Binds G.K fd_law ["_law_script"] []
  kp_law : PySem.W.keepIn G.K (.ref a_law) = true
  g_law : mg "law" = some (.ref a_law)
  g_MailError : mg "MailError" = some (.ref (G.cl 0))
  ex_MailError : ∀ {i : Nat}, ([0, 1, 2, 3, 4, 5, 6] : List Nat).contains i = true → PySem.W.exmOne G.K (.ref (G.cl i)) (.ref (G.cl 0)) = some (([0, 1, 2, 3, 4, 5, 6] : List Nat).contains i)
  g_NoWord : mg "NoWord" = some (.ref (G.cl 1))
  g_NoLetter : mg "NoLetter" = some (.ref (G.cl 2))
  x_NoLetter : PySem.W.excIn G.K (G.cl 2) [.type "ValueError", .type "Exception", .type "BaseException", .type "object"] "ValueError.__new__" = true
  kp_NoLetter : PySem.W.keepIn G.K (.ref (G.cl 2)) = true
  r_NoLetter : ∀ {X : Cx}, X.K = G.K → Raises X (.ref (G.cl 2))
  g_NoRule : mg "NoRule" = some (.ref (G.cl 3))
  g_NoName : mg "NoName" = some (.ref (G.cl 4))
  g_NoParcel : mg "NoParcel" = some (.ref (G.cl 5))
  g_NoRow : mg "NoRow" = some (.ref (G.cl 6))
  g_Letter : mg "Letter" = some (.ref (G.cl 7))
  cl_Letter : Cls G.K (G.cl 7)
  n_Letter_sender : NoAttr G.K (G.cl 7) "sender"
  n_Letter_title : NoAttr G.K (G.cl 7) "title"
  n_Letter_body : NoAttr G.K (G.cl 7) "body"
  n_Letter_day : NoAttr G.K (G.cl 7) "day"
  n_Letter_answers : NoAttr G.K (G.cl 7) "answers"
  fz_Letter : G.fz (G.cl 7) = some 5
  ec_ : ∀ {i : Nat}, ([0, 1, 2, 3, 4, 5, 6] : List Nat).contains i = true → ExcC G.K (G.cl i)
  ki_NoLetter : ∀ {i : Nat}, ([0, 1, 2, 3, 4, 5, 6] : List Nat).contains i = true → PySem.W.kitOne G.K (.ref (G.cl i)) (.ref (G.cl 2)) = some (([2] : List Nat).contains i)
  ki_NoName : ∀ {i : Nat}, ([0, 1, 2, 3, 4, 5, 6] : List Nat).contains i = true → PySem.W.kitOne G.K (.ref (G.cl i)) (.ref (G.cl 4)) = some (([4] : List Nat).contains i)
  ki_NoParcel : ∀ {i : Nat}, ([0, 1, 2, 3, 4, 5, 6] : List Nat).contains i = true → PySem.W.kitOne G.K (.ref (G.cl i)) (.ref (G.cl 5)) = some (([5] : List Nat).contains i)
  ki_NoRow : ∀ {i : Nat}, ([0, 1, 2, 3, 4, 5, 6] : List Nat).contains i = true → PySem.W.kitOne G.K (.ref (G.cl i)) (.ref (G.cl 6)) = some (([6] : List Nat).contains i)
  ki_NoRule : ∀ {i : Nat}, ([0, 1, 2, 3, 4, 5, 6] : List Nat).contains i = true → PySem.W.kitOne G.K (.ref (G.cl i)) (.ref (G.cl 3)) = some (([3] : List Nat).contains i)
  ki_NoWord : ∀ {i : Nat}, ([0, 1, 2, 3, 4, 5, 6] : List Nat).contains i = true → PySem.W.kitOne G.K (.ref (G.cl i)) (.ref (G.cl 1)) = some (([1] : List Nat).contains i)
  ki_ValueError : ∀ {i : Nat}, ([0, 1, 2, 3, 4, 5, 6] : List Nat).contains i = true → PySem.W.kitOne G.K (.ref (G.cl i)) (.type "ValueError") = some (([0, 1, 2, 3, 4, 5, 6] : List Nat).contains i)
  z_ValueError : mg "ValueError" = none
  z_all : mg "all" = none
  z_bool : mg "bool" = none
  z_int : mg "int" = none
  z_isinstance : mg "isinstance" = none
  z_len : mg "len" = none
  z_list : mg "list" = none
  z_range : mg "range" = none
  z_str : mg "str" = none
  z_tuple : mg "tuple" = none
  t_FIGURES : Tok
  c_FIGURES : mg "FIGURES" = some (.str ("0123456789" : Str) t_FIGURES)
  t_MOST_BODY : Tok
  c_MOST_BODY : mg "MOST_BODY" = some (.int 400 t_MOST_BODY)
  t_MOST_DAY : Tok
  c_MOST_DAY : mg "MOST_DAY" = some (.int 9999 t_MOST_DAY)
  t_MOST_SIGNS : Tok
  c_MOST_SIGNS : mg "MOST_SIGNS" = some (.int 20 t_MOST_SIGNS)
  t_MOST_TITLE : Tok
  c_MOST_TITLE : mg "MOST_TITLE" = some (.int 60 t_MOST_TITLE)
  t_SMALL : Tok
  c_SMALL : mg "SMALL" = some (.str ("abcdefghijklmnopqrstuvwxyz" : Str) t_SMALL)
section
variable {P : Program} {w : World} {G : Gx} {mg : Str → Option Value} {base : Heap}
def sp_is_sign (G : Gx) : Sp := fun vs H Q E => ∃ (v_sign : Nat) (F : Asn G), vs = [(.str (sg (v_sign)))] ∧ Sep H ([F] : List (Asn G)) ∧ R.wp (m_is_sign v_sign) (fun r => ∀ H', Sep H' ([F] : List (Asn G)) → Q (.bl (r)) H') (fun _ => False)
abbrev N_is_sign : List Str := ["sign"]
theorem sc_is_sign : FnScope N_is_sign ["sign"] (defScope s_is_sign) := ⟨rfl, rfl, rfl, by decide +kernel, rfl, by decide +kernel, by decide +kernel⟩
theorem ok_is_sign (T : Txt G mg) : FnOk P w G.K mg base CX0 1 T.a_is_sign T.fd_is_sign ["sign"] (sp_is_sign G) := by
  have nd := sc_is_sign.nd
  refine Fun.ok T.F_is_sign sc_is_sign (fun vs H Q E h => ?_) (fun cdv A outer s H vs Q E hr h => ?_)
  · obtain ⟨v_sign, F, rfl, _⟩ := h; rfl
  · obtain ⟨v_sign, F, rfl, hS, hm⟩ := h
    refine ⟨_, (pss_one (ps_ret (pe_or (pe_cmpR op_inSg (pv 0) (pe_glob (v := .str ("abcdefghijklmnopqrstuvwxyz" : Str)) rfl T.c_SMALL ⟨_, rfl⟩) (by rfl)) (pe_one (pe_cmpR op_inSg (pv 0) (pe_glob (v := .str ("0123456789" : Str)) rfl T.c_FIGURES ⟨_, rfl⟩) (by rfl)))))), ?_⟩
    unfold m_is_sign at hm
    refine c_ret ?_
    refine ev_to (ev_orV (ev_inSg (c := v_sign) (ev_var rfl) ev_c) fun _ => (ev_inSg (c := v_sign) (ev_var rfl) ev_c)) ?_
    exact hm _ (hS.sel [0] (by decide) rfl)
def sp_is_word (G : Gx) : Sp := fun vs H Q E => ∃ (a_v_thing : V) (v_thing : Any) (F : Asn G), vs = [a_v_thing] ∧ Im.im G H a_v_thing v_thing ∧ Sep H ([F] : List (Asn G)) ∧ R.wp (m_is_word v_thing) (fun r => ∀ H', Sep H' ([F] : List (Asn G)) → Q (.bl (r)) H') (fun _ => False)
abbrev N_is_word : List Str := ["thing", "sign"]
theorem sc_is_word : FnScope N_is_word ["thing"] (defScope s_is_word) := ⟨rfl, rfl, rfl, by decide +kernel, rfl, by decide +kernel, by decide +kernel⟩
theorem ok_is_word (T : Txt G mg) : FnOk P w G.K mg base CX0 2 T.a_is_word T.fd_is_word ["thing"] (sp_is_word G) := by
  have nd := sc_is_word.nd
  refine Fun.ok T.F_is_word sc_is_word (fun vs H Q E h => ?_) (fun cdv A outer s H vs Q E hr h => ?_)
  · obtain ⟨a_v_thing, v_thing, F, rfl, _⟩ := h; rfl
  · obtain ⟨a_v_thing, v_thing, F, rfl, him_v_thing, hS, hm⟩ := h
    have hS := hS.addIm him_v_thing
    refine ⟨_, (pss_cons (ps_if (PW.pt (pw_or (pt_not (pt_val (pe_callB (isiK G.K) (by rfl) T.z_isinstance (by decide +kernel) (pa_cons (pv 0) (pa_cons (pe_bltn (v := .ty "str") (by rfl) T.z_str (by decide +kernel) rfl) pa_nil))))) (pw_or1 (pt_not (pt_chain op_le op_le pe_int (pe_callB (lenAnyK G.K) (by rfl) T.z_len PySem.boot_len (pa_cons (pv 0) pa_nil)) (pe_glob (v := .int 20) rfl T.c_MOST_SIGNS ⟨_, rfl⟩)))))) (pss_one (ps_ret pe_bl)) pss_nil)
      (pss_one (ps_ret (pe_callB (allK G.K rfl) (by rfl) T.z_all (by decide +kernel) (pa_cons (pe_fz (pe_lc (own := [("sign", 1)]) (g := gName 1) rfl nd (pi_str (pv 0)) (blkOk_by (own := [("sign", 1)]) (N := N_is_word) (sc := defScope s_is_word) (by decide +kernel)) (fun _ _ _ _ _ => pg_name (i := 1) nd rfl (Or.inl rfl)) (fun _ _ _ _ _ => pts_nil) (fun _ _ _ _ _ => (pe_call (ok_is_sign T) (hr.mono (by decide)) rfl T.g_is_sign T.kp_is_sign T.b_is_sign .nil pass0 (pa_cons (pv 1) pa_nil))))) pa_nil))))), ?_⟩
    unfold m_is_word at hm
    refine f_seq ?_
    refine f_if ?_
    refine f_or ?_
    refine et_to (et_not (et_B (ev_isAny (ev_var rfl) ev_c (hS.im (i := 0) rfl) (by decide)))) ?_
    refine orK_J hm hS (fun hb q hm nx => ?_) (fun b1 H hm hS => ?_)
    ·
      obtain ⟨n2, hn2, hm⟩ := wp_lenA hm
      refine et_to (et_not (et_test (ev_chainB (a := decide (1 ≤ n2)) (b := decide (n2 ≤ 20)) ev_c (ev_lenA (ev_var rfl) (hS.im (i := 0) rfl) hn2) (fun _ => ev_c) (fun Q q => r_I0 Q q) (fun _ Q q => r_I0 Q q)))) ?_
      exact nx _ _ hm (hS.sel [0, 1] (by decide) rfl)
    ·
      obtain ⟨hy, hn⟩ := R.wp_if hm
      refine ifK_2 (fun hb3 => ?_) (fun hb3 => ?_)
      · have hm := hy hb3
        refine c_ret ?_
        refine ev_to ev_c ?_
        exact hm _ (hS.sel [1] (by decide) rfl)
      · have hm := hn (by rw [hb3]; decide)
        refine st_nx ?_
        refine sq_nx ?_
        refine c_ret ?_
        refine c_cb ?_
        refine c_cons ?_
        refine c_fz ?_
        refine c_lc ?_
        refine c_is ?_
        obtain ⟨s4, hs5, hm⟩ := Ml.wp_asStr hm
        have hv6 := v_str (hS.im (i := 0) rfl) hs5
        subst hv6
        refine ev_to (ev_var rfl) ?_
        refine k_is ?_
        obtain ⟨h7, hm⟩ := R.wp_need hm
        refine lc_sep (β := Bool) (fun (_ : Unit) => ([imA (.str (s4)) (v_thing : Any), F] : List (Asn G))) (s := ()) (im := (fun _ v (c : Nat) => v = .str (sg c))) hS (fun _ _ _ => wk_str) h7 hm (fun p8 _ ys11 x9 v10 H q Nx hS hx hm kS kN => ?_) (fun p8 t H hm hS => ?_)
        ·
          cases hx
          refine c_gLc (σ' := [some (.str (s4)), some (.str (sg (x9)))]) rfl rfl ?_
          refine c_yes ?_
          refine c_call ?_
          refine ea_to (ea_cons (ev_var rfl) ea_nil) ?_
          refine ⟨x9, star [lstA p8 (ys11 : List Bool), imA (.str (s4)) (v_thing : Any), F], rfl, Sep.unstar (M := []) (hS.sel [0, 1, 2] (by decide) rfl : Sep H (([] ++ [lstA p8 (ys11 : List Bool), imA (.str (s4)) (v_thing : Any), F] : List (Asn G)))), R.wp_mono (R.wp_bind hm) (fun r12 hm H hS => ?_) (fun _ z => z)⟩
          have hS : Sep H ([lstA p8 (ys11 : List Bool), imA (.str (s4)) (v_thing : Any), F] : List (Asn G)) := Sep.star (M := []) hS
          exact kS () _ _ _ hm rfl (hS.sel [0, 1, 2] (by decide) rfl)
        · revert hm hS; generalize t = t13; intro hm hS
          refine fz_no ?_
          refine c_nil ?_
          refine ⟨_, _, rfl, (hS.sqF (i := 0) rfl), ?_⟩
          exact hm _ (hS.sel [2] (by decide) rfl)
def sp_words_of (G : Gx) : Sp := fun vs H Q E => ∃ (v_text : Str) (F : Asn G), vs = [(.str (v_text))] ∧ Sep H ([F] : List (Asn G)) ∧ R.wp (m_words_of v_text) (fun r => ∀ p H', Sep H' ([lstA p (r : (List Str)), F] : List (Asn G)) → Q (.ref p) H') (fun _ => False)
abbrev N_words_of : List Str := ["text", "found", "run", "sign"]
theorem sc_words_of : FnScope N_words_of ["text"] (defScope s_words_of) := ⟨rfl, rfl, rfl, by decide +kernel, rfl, by decide +kernel, by decide +kernel⟩
theorem ok_words_of (T : Txt G mg) : FnOk P w G.K mg base CX0 2 T.a_words_of T.fd_words_of ["text"] (sp_words_of G) := by
  have nd := sc_words_of.nd
  refine Fun.ok T.F_words_of sc_words_of (fun vs H Q E h => ?_) (fun cdv A outer s H vs Q E hr h => ?_)
  · obtain ⟨v_text, F, rfl, _⟩ := h; rfl
  · obtain ⟨v_text, F, rfl, hS, hm⟩ := h
    refine ⟨_, (pss_cons (ps_set (i := 1) nd rfl (Or.inl rfl) (pe_fz (pe_lst pa_nil)))
      (pss_cons (ps_set (i := 2) nd rfl (Or.inl rfl) pe_str)
      (pss_cons (ps_for PassesOwn.never rfl (pi_str (pe_op op_catS (pe_m0 PySem.F.slot_str_lower PySem.F.type_str_lower mt_lower (pv 0)) pe_str)) (pg_name (i := 3) nd rfl (Or.inl rfl)) (pss_one (ps_if (pt_val (pe_call (ok_is_sign T) (hr.mono (by decide)) rfl T.g_is_sign T.kp_is_sign T.b_is_sign .nil pass0 (pa_cons (pv 3) pa_nil))) (pss_one (ps_aug (i := 2) nd rfl (Or.inl rfl) (pv 3) ip_catS)) (pss_one (ps_if (pt_cmpR op_ne (pv 2) pe_str (nomark _)) (pss_cons (ps_expr (pe_bmK G.K PySem.F.plainAttrs_list PySem.F.slot_list_append PySem.F.type_list_append mt_append (pe_fz (pv 1)) (pa_cons (pv 2) pa_nil)))
      (pss_one (ps_set (i := 2) nd rfl (Or.inl rfl) pe_str))) pss_nil)))))
      (pss_one (ps_ret (pe_fz (pv 1))))))), ?_⟩
    unfold m_words_of at hm
    refine f_seq ?_
    refine c_asg ?_
    refine c_fz ?_
    refine c_lst ?_
    refine ea_to ea_nil ?_
    refine k_lst (α := Str) (vs := []) (xs := ([] : (List Str))) hS True.intro (by show 0 ≤ sizeLine; decide) fun p1 H hS => ?_
    refine fz_no ?_
    refine c_set (σ' := [some (.str (v_text)), some (.ref p1), none, none]) rfl ?_
    refine sq_nx ?_
    refine f_seq ?_
    refine c_asg ?_
    refine ev_to ev_c ?_
    refine c_set (σ' := [some (.str (v_text)), some (.ref p1), some (.str (("" : Str))), none]) rfl ?_
    refine sq_nx ?_
    refine f_seq ?_
    refine c_for ?_
    refine c_is ?_
    obtain ⟨h2, hm⟩ := R.wp_need hm
    obtain ⟨h3, hm⟩ := R.wp_need hm
    refine ev_to (ev_catS (ev_m0 (ev_var rfl) fun _ q => ⟨_, rfl, rfl, h2, q⟩) ev_c h3) ?_
    refine k_is ?_
    refine k_for (τ := (List Str) × Str) (fun (s4 : (List Str) × Str) (σ : L2.St) (H : Hp) => ∃ (w7 : Option V), σ = [some (.str (v_text)), some (.ref p1), some (.str (s4.2)), w7] ∧ Sep H ([lstA p1 (s4.1 : (List Str)), F] : List (Asn G))) (im := (fun _ v (c : Nat) => v = .str (sg c))) (s := (([] : (List Str)), ("" : Str))) (fun _ => wk_str) ⟨_, rfl, hS.sel [0, 1] (by decide) rfl⟩ hm (fun s4 x5 v6 σ H q N hI hx hm nx => ?_) (fun s4 σ H hm hI => ?_)
    ·
      obtain ⟨w7, rfl, hS⟩ := hI
      cases hx
      refine c_gN (σ' := [some (.str (v_text)), some (.ref p1), some (.str (s4.2)), some (.str (sg (x5)))]) rfl ?_
      refine f_if ?_
      refine f_B ?_
      refine c_call ?_
      refine ea_to (ea_cons (ev_var rfl) ea_nil) ?_
      refine ⟨x5, star [lstA p1 (s4.1 : (List Str)), F], rfl, Sep.unstar (M := []) (hS.sel [0, 1] (by decide) rfl : Sep H (([] ++ [lstA p1 (s4.1 : (List Str)), F] : List (Asn G)))), R.wp_mono (R.wp_bind hm) (fun r8 hm H hS => ?_) (fun _ z => z)⟩
      have hS : Sep H ([lstA p1 (s4.1 : (List Str)), F] : List (Asn G)) := Sep.star (M := []) hS
      refine f_bl ?_
      refine ifK_J (τ := (List Str) × Str) (fun (s9 : (List Str) × Str) (σ : L2.St) (H : Hp) => σ = [some (.str (v_text)), some (.ref p1), some (.str (s9.2)), some (.str (sg (x5)))] ∧ Sep H ([lstA p1 (s9.1 : (List Str)), F] : List (Asn G))) hm (fun hb q hm nx => ?_) (fun hb q hm nx => ?_) (fun s9 σ H hm hI => ?_)
      ·
        refine c_aug rfl ?_
        refine ev_to (ev_var rfl) ?_
        obtain ⟨h10, hm⟩ := R.wp_need hm
        refine ⟨_, _, rfl, rfl, h10, ?_⟩
        obtain ⟨y11, hy11, hm⟩ := wp_let hm
        refine n_is (w := (.str (y11))) (by rw [hy11]) ?_
        refine c_set (σ' := [some (.str (v_text)), some (.ref p1), some (.str (y11)), some (.str (sg (x5)))]) rfl ?_
        exact nx _ _ _ hm ⟨rfl, hS.sel [0, 1] (by decide) rfl⟩
      ·
        refine f_if ?_
        refine et_to (et_test (ev_neS (ev_var rfl) ev_c)) ?_
        refine ifK_J (τ := (List Str) × Str) (fun (s12 : (List Str) × Str) (σ : L2.St) (H : Hp) => σ = [some (.str (v_text)), some (.ref p1), some (.str (s12.2)), some (.str (sg (x5)))] ∧ Sep H ([lstA p1 (s12.1 : (List Str)), F] : List (Asn G))) hm (fun hb q hm nx => ?_) (fun hb q hm nx => ?_) (fun s12 σ H hm hI => ?_)
        ·
          refine f_seq ?_
          refine c_drop ?_
          refine c_bm ?_
          refine ev_to (ev_fz (ev_var rfl)) ⟨tyL hS (i := 0) rfl, ?_⟩
          refine ea_to (ea_cons (ev_var rfl) ea_nil) ?_
          obtain ⟨h13, hm⟩ := R.wp_need hm
          refine k_append (x := s4.2) hS (i := 0) rfl rfl h13 rfl fun H hS => ?_
          refine sq_nx ?_
          refine c_asg ?_
          refine ev_to ev_c ?_
          refine c_set (σ' := [some (.str (v_text)), some (.ref p1), some (.str (("" : Str))), some (.str (sg (x5)))]) rfl ?_
          exact nx _ _ _ hm ⟨rfl, hS.sel [0, 1] (by decide) rfl⟩
        ·
          refine st_nx ?_
          exact nx _ _ _ hm ⟨rfl, hS.sel [0, 1] (by decide) rfl⟩
        · obtain ⟨rfl, hS⟩ := hI
          exact nx _ _ _ hm ⟨rfl, hS.sel [0, 1] (by decide) rfl⟩
      · obtain ⟨rfl, hS⟩ := hI
        exact nx _ _ _ hm ⟨_, rfl, hS.sel [0, 1] (by decide) rfl⟩
    · obtain ⟨w7, rfl, hS⟩ := hI
      refine sq_nx ?_
      refine c_ret ?_
      refine ev_to (ev_fz (ev_var rfl)) ?_
      exact hm _ _ (hS.sel [0, 1] (by decide) rfl)
def sp_each_once (G : Gx) : Sp := fun vs H Q E => ∃ (a_v_row : Addr) (v_row : (List Str)) (F : Asn G), vs = [.ref a_v_row] ∧ Sep H ([lstA a_v_row (v_row : (List Str)), F] : List (Asn G)) ∧ R.wp (m_each_once v_row) (fun r => ∀ p H', Sep H' ([lstA p (r : (List Str)), lstA a_v_row (v_row : (List Str)), F] : List (Asn G)) → Q (.ref p) H') (fun _ => False)
abbrev N_each_once : List Str := ["row", "found", "one"]
theorem sc_each_once : FnScope N_each_once ["row"] (defScope s_each_once) := ⟨rfl, rfl, rfl, by decide +kernel, rfl, by decide +kernel, by decide +kernel⟩
theorem ok_each_once (T : Txt G mg) : FnOk P w G.K mg base CX0 1 T.a_each_once T.fd_each_once ["row"] (sp_each_once G) := by
  have nd := sc_each_once.nd
  refine Fun.ok T.F_each_once sc_each_once (fun vs H Q E h => ?_) (fun cdv A outer s H vs Q E hr h => ?_)
  · obtain ⟨a_v_row, v_row, F, rfl, _⟩ := h; rfl
  · obtain ⟨a_v_row, v_row, F, rfl, hS, hm⟩ := h
    refine ⟨_, (pss_cons (ps_set (i := 1) nd rfl (Or.inl rfl) pe_dnewK)
      (pss_cons (ps_for PassesOwn.never rfl (pi_listK G.K (pe_fz (pv 0))) (pg_name (i := 2) nd rfl (Or.inl rfl)) (pss_one (ps_expr (pe_dsetd (pv 1) (pv 2) pe_bl m2))))
      (pss_one (ps_ret (pe_fz (pe_callTy (call_lstD rfl) (by rfl) T.z_list (by decide +kernel) (pa_cons (pv 1) pa_nil))))))), ?_⟩
    unfold m_each_once at hm
    refine f_seq ?_
    refine c_asg ?_
    refine k_dnew (κ := Str) (β := Bool) hS fun p1 H hS => ?_
    refine c_set (σ' := [some (.ref a_v_row), some (.ref p1), none]) rfl ?_
    refine sq_nx ?_
    refine f_seq ?_
    refine c_for ?_
    refine c_il ?_
    refine ev_to (ev_fz (ev_var rfl)) ?_
    refine k_il hS (i := 1) rfl ?_
    refine k_for (τ := (List (Str × Bool))) (fun (s2 : (List (Str × Bool))) (σ : L2.St) (H : Hp) => ∃ (w5 : Option V), σ = [some (.ref a_v_row), some (.ref p1), w5] ∧ Sep H ([dictA p1 (s2 : (List (Str × Bool))), lstA a_v_row (v_row : (List Str)), F] : List (Asn G))) (im := (Im.im G)) (s := (([] : (List (Str × Bool))))) (fun _ => wk_list fun _ _ ⟨_, _, h⟩ => h.sq (i := 1) rfl) ⟨_, rfl, hS.sel [0, 1, 2] (by decide) rfl⟩ hm (fun s2 x3 v4 σ H q N hI hx hm nx => ?_) (fun s2 σ H hm hI => ?_)
    ·
      obtain ⟨w5, rfl, hS⟩ := hI
      cases hx
      refine c_gN (σ' := [some (.ref a_v_row), some (.ref p1), some (.str (x3))]) rfl ?_
      refine c_drop ?_
      obtain ⟨h6, hm⟩ := R.wp_need hm
      refine k_dsetd (k := x3) (y := true) hS (i := 0) rfl (ev_var rfl) (ev_var rfl) ev_c rfl h6 rfl fun v7 H hS => ?_
      exact nx _ _ _ hm ⟨_, rfl, hS.sel [0, 1, 2] (by decide) rfl⟩
    · obtain ⟨w5, rfl, hS⟩ := hI
      refine sq_nx ?_
      refine c_ret ?_
      refine c_fz ?_
      refine c_cb ?_
      refine ea_to (ea_cons (ev_var rfl) ea_nil) ?_
      refine k_listD (fun _ => rfl) hS (i := 0) rfl fun p8 H hS => ?_
      refine fz_no ?_
      exact hm _ _ (hS.sel [0, 2, 3] (by decide) rfl)
def sp_is_text (G : Gx) : Sp := fun vs H Q E => ∃ (a_v_thing : V) (v_thing : Any) (v_most : Int) (F : Asn G), vs = [a_v_thing, (.int (v_most))] ∧ Im.im G H a_v_thing v_thing ∧ Sep H ([F] : List (Asn G)) ∧ R.wp (m_is_text v_thing v_most) (fun r => ∀ H', Sep H' ([F] : List (Asn G)) → Q (.bl (r)) H') (fun _ => False)
abbrev N_is_text : List Str := ["thing", "most"]
theorem sc_is_text : FnScope N_is_text ["thing", "most"] (defScope s_is_text) := ⟨rfl, rfl, rfl, by decide +kernel, rfl, by decide +kernel, by decide +kernel⟩
theorem ok_is_text (T : Txt G mg) : FnOk P w G.K mg base CX0 1 T.a_is_text T.fd_is_text ["thing", "most"] (sp_is_text G) := by
  have nd := sc_is_text.nd
  refine Fun.ok T.F_is_text sc_is_text (fun vs H Q E h => ?_) (fun cdv A outer s H vs Q E hr h => ?_)
  · obtain ⟨a_v_thing, v_thing, v_most, F, rfl, _⟩ := h; rfl
  · obtain ⟨a_v_thing, v_thing, v_most, F, rfl, him_v_thing, hS, hm⟩ := h
    have hS := hS.addIm him_v_thing
    refine ⟨_, (pss_one (ps_ret (pe_and (pe_callB (isiK G.K) (by rfl) T.z_isinstance (by decide +kernel) (pa_cons (pv 0) (pa_cons (pe_bltn (v := .ty "str") (by rfl) T.z_str (by decide +kernel) rfl) pa_nil))) (pe_one (pe_cmpR op_le (pe_callB (lenAnyK G.K) (by rfl) T.z_len PySem.boot_len (pa_cons (pv 0) pa_nil)) (pv 1) (nomark _)))))), ?_⟩
    unfold m_is_text at hm
    refine c_ret ?_
    refine f_andV ?_
    refine ev_to (ev_isAny (ev_var rfl) ev_c (hS.im (i := 0) rfl) (by decide)) ?_
    refine andVK_J hm hS (fun hb q hm nx => ?_) (fun b1 H hm hS => ?_)
    ·
      obtain ⟨n2, hn2, hm⟩ := wp_lenA hm
      refine ev_to (ev_i0 (ev_lenA (ev_var rfl) (hS.im (i := 0) rfl) hn2) (ev_var rfl)) ?_
      exact nx _ _ hm (hS.sel [0, 1] (by decide) rfl)
    ·
      exact hm _ (hS.sel [1] (by decide) rfl)
def sp_is_day (G : Gx) : Sp := fun vs H Q E => ∃ (a_v_thing : V) (v_thing : Any) (F : Asn G), vs = [a_v_thing] ∧ Im.im G H a_v_thing v_thing ∧ Sep H ([F] : List (Asn G)) ∧ R.wp (m_is_day v_thing) (fun r => ∀ H', Sep H' ([F] : List (Asn G)) → Q (.bl (r)) H') (fun _ => False)
abbrev N_is_day : List Str := ["thing"]
theorem sc_is_day : FnScope N_is_day ["thing"] (defScope s_is_day) := ⟨rfl, rfl, rfl, by decide +kernel, rfl, by decide +kernel, by decide +kernel⟩
theorem ok_is_day (T : Txt G mg) : FnOk P w G.K mg base CX0 1 T.a_is_day T.fd_is_day ["thing"] (sp_is_day G) := by
  have nd := sc_is_day.nd
  refine Fun.ok T.F_is_day sc_is_day (fun vs H Q E h => ?_) (fun cdv A outer s H vs Q E hr h => ?_)
  · obtain ⟨a_v_thing, v_thing, F, rfl, _⟩ := h; rfl
  · obtain ⟨a_v_thing, v_thing, F, rfl, him_v_thing, hS, hm⟩ := h
    have hS := hS.addIm him_v_thing
    refine ⟨_, (pss_one (ps_ret (pe_and (pe_callB (isiK G.K) (by rfl) T.z_isinstance (by decide +kernel) (pa_cons (pv 0) (pa_cons (pe_bltn (v := .ty "int") (by rfl) T.z_int (by decide +kernel) rfl) pa_nil))) (pe_and (pe_not (pe_callB (isiK G.K) (by rfl) T.z_isinstance (by decide +kernel) (pa_cons (pv 0) (pa_cons (pe_bltn (v := .ty "bool") (by rfl) T.z_bool (by decide +kernel) rfl) pa_nil)))) (pe_one (pe_chain op_le op_le pe_int (pv 0) (pe_glob (v := .int 9999) rfl T.c_MOST_DAY ⟨_, rfl⟩))))))), ?_⟩
    unfold m_is_day at hm
    refine c_ret ?_
    refine f_andV ?_
    refine ev_to (ev_isAny (ev_var rfl) ev_c (hS.im (i := 0) rfl) (by decide)) ?_
    refine andVK_J hm hS (fun hb q hm nx => ?_) (fun b1 H hm hS => ?_)
    ·
      refine f_andV ?_
      refine ev_to (ev_notV (ev_isAny (ev_var rfl) ev_c (hS.im (i := 0) rfl) (by decide))) ?_
      refine andVK_J hm hS (fun hb q hm nx => ?_) (fun b2 H hm hS => ?_)
      ·
        obtain ⟨s3, hs4, hm⟩ := Ml.wp_asInt hm
        have hv5 := v_int (hS.im (i := 0) rfl) hs4
        subst hv5
        refine ev_to (ev_chainB (a := decide (0 ≤ s3)) (b := decide (s3 ≤ 9999)) ev_c (ev_var rfl) (fun _ => ev_c) (fun Q q => r_I0 Q q) (fun _ Q q => r_I0 Q q)) ?_
        -- changed: im_v_thing
        exact nx _ _ hm (hS.sel [0, 1] (by decide) rfl)
      ·
        exact nx _ _ hm (hS.sel [0, 1] (by decide) rfl)
    ·
      exact hm _ (hS.sel [1] (by decide) rfl)
def sp_Letter___init__ (G : Gx) : Sp := fun vs H Q E => ∃ (a_v_self d_v_self : Addr) (a_v_sender : V) (v_sender : Any) (a_v_title : V) (v_title : Any) (a_v_body : V) (v_body : Any) (a_v_day : V) (v_day : Any) (a_v_answers : V) (v_answers : Any) (F : Asn G), vs = [.ref a_v_self, a_v_sender, a_v_title, a_v_body, a_v_day, a_v_answers] ∧ Im.im G H a_v_sender v_sender ∧ Im.im G H a_v_title v_title ∧ Im.im G H a_v_body v_body ∧ Im.im G H a_v_day v_day ∧ Im.im G H a_v_answers v_answers ∧ Sep H ([cell a_v_self (.ins (G.cl 7) d_v_self []), F] : List (Asn G)) ∧ R.wp (m_Letter___init__ v_sender v_title v_body v_day v_answers) (fun r => ∀ H', Sep H' ([imA (.ref a_v_self) (r : Letter), F] : List (Asn G)) → Q .non H') (fun x => ∀ H', Sep H' ([F] : List (Asn G)) → Eok G x E H')
abbrev N_Letter___init__ : List Str := ["self", "sender", "title", "body", "day", "answers"]
theorem sc_Letter___init__ : FnScope N_Letter___init__ ["self", "sender", "title", "body", "day", "answers"] (defScope s_Letter___init__) := ⟨rfl, rfl, rfl, by decide +kernel, rfl, by decide +kernel, by decide +kernel⟩
theorem ok_Letter___init__ (T : Txt G mg) : FnOk P w G.K mg base (L2.CX P w) 3 T.a_Letter___init__ T.fd_Letter___init__ ["self", "sender", "title", "body", "day", "answers"] (sp_Letter___init__ G) := by
  have nd := sc_Letter___init__.nd
  refine FunD.ok T.F_Letter___init__ sc_Letter___init__ (fun vs H Q E h => ?_) (fun cdv A outer s H vs Q E hr h => ?_)
  · obtain ⟨a_v_self, d_v_self, a_v_sender, v_sender, a_v_title, v_title, a_v_body, v_body, a_v_day, v_day, a_v_answers, v_answers, F, rfl, _⟩ := h; rfl
  · obtain ⟨a_v_self, d_v_self, a_v_sender, v_sender, a_v_title, v_title, a_v_body, v_body, a_v_day, v_day, a_v_answers, v_answers, F, rfl, him_v_sender, him_v_title, him_v_body, him_v_day, him_v_answers, hS, hm⟩ := h
    have hS := hS.addIm him_v_sender
    have hS := hS.addIm him_v_title
    have hS := hS.addIm him_v_body
    have hS := hS.addIm him_v_day
    have hS := hS.addIm him_v_answers
    refine ⟨_, (pss_cons (ps_if (PW.pt (pw_or (pt_not (pt_val (pe_call (ok_is_word T) (hr.mono (by decide)) rfl T.g_is_word T.kp_is_word T.b_is_word .nil pass0 (pa_cons (pv 1) pa_nil)))) (pw_or (pt_not (pt_val (pe_call (ok_is_text T) (hr.mono (by decide)) rfl T.g_is_text T.kp_is_text T.b_is_text .nil pass0 (pa_cons (pv 2) (pa_cons (pe_glob (v := .int 60) rfl T.c_MOST_TITLE ⟨_, rfl⟩) pa_nil))))) (pw_or1 (pt_cmpR op_inSg pe_str (pv 2) (by rfl)))))) (pss_one (ps_raise rfl (takes_of rfl rfl rfl rfl) (pmk_own PySem.F.excBase_ValueError T.x_NoLetter T.g_NoLetter T.kp_NoLetter (T.r_NoLetter rfl) rfl))) pss_nil)
      (pss_cons (ps_if (PW.pt (pw_or (pt_not (pt_val (pe_call (ok_is_text T) (hr.mono (by decide)) rfl T.g_is_text T.kp_is_text T.b_is_text .nil pass0 (pa_cons (pv 3) (pa_cons (pe_glob (v := .int 400) rfl T.c_MOST_BODY ⟨_, rfl⟩) pa_nil))))) (pw_or1 (pt_not (pt_val (pe_call (ok_is_day T) (hr.mono (by decide)) rfl T.g_is_day T.kp_is_day T.b_is_day .nil pass0 (pa_cons (pv 4) pa_nil))))))) (pss_one (ps_raise rfl (takes_of rfl rfl rfl rfl) (pmk_own PySem.F.excBase_ValueError T.x_NoLetter T.g_NoLetter T.kp_NoLetter (T.r_NoLetter rfl) rfl))) pss_nil)
      (pss_cons (ps_if (PW.pt (pw_and (pt_cmpR (neXK G.K hr.units) (pv 5) pe_str (nomark _)) (pw_and1 (pt_not (pt_val (pe_call (ok_is_word T) (hr.mono (by decide)) rfl T.g_is_word T.kp_is_word T.b_is_word .nil pass0 (pa_cons (pv 5) pa_nil))))))) (pss_one (ps_raise rfl (takes_of rfl rfl rfl rfl) (pmk_own PySem.F.excBase_ValueError T.x_NoLetter T.g_NoLetter T.kp_NoLetter (T.r_NoLetter rfl) rfl))) pss_nil)
      (pss_cons (ps_fld (pv 0) (pv 1) rfl)
      (pss_cons (ps_fld (pv 0) (pv 2) rfl)
      (pss_cons (ps_fld (pv 0) (pv 3) rfl)
      (pss_cons (ps_fld (pv 0) (pv 4) rfl)
      (pss_one (ps_fld (pv 0) (pv 5) rfl))))))))), ?_⟩
    unfold m_Letter___init__ at hm
    refine f_seq ?_
    refine f_if ?_
    refine f_or ?_
    refine f_not ?_
    refine f_B ?_
    refine c_call ?_
    refine ea_to (ea_cons (ev_var rfl) ea_nil) ?_
    refine ⟨a_v_sender, (v_sender : Any), star [imA a_v_answers (v_answers : Any), imA a_v_day (v_day : Any), imA a_v_body (v_body : Any), imA a_v_title (v_title : Any), imA a_v_sender (v_sender : Any), cell a_v_self (.ins (G.cl 7) d_v_self []), F], rfl, (hS.im (i := 4) rfl), Sep.unstar (M := []) (hS.sel [0, 1, 2, 3, 4, 5, 6] (by decide) rfl : Sep H (([] ++ [imA a_v_answers (v_answers : Any), imA a_v_day (v_day : Any), imA a_v_body (v_body : Any), imA a_v_title (v_title : Any), imA a_v_sender (v_sender : Any), cell a_v_self (.ins (G.cl 7) d_v_self []), F] : List (Asn G)))), R.wp_mono (R.wp_noexc hm) (fun r1 hm H hS => ?_) (fun _ z => z)⟩
    have hS : Sep H ([imA a_v_answers (v_answers : Any), imA a_v_day (v_day : Any), imA a_v_body (v_body : Any), imA a_v_title (v_title : Any), imA a_v_sender (v_sender : Any), cell a_v_self (.ins (G.cl 7) d_v_self []), F] : List (Asn G)) := Sep.star (M := []) hS
    refine f_bl ?_
    refine f_nK ?_
    refine orK_J hm hS (fun hb q hm nx => ?_) (fun b2 H hm hS => ?_)
    ·
      refine f_or ?_
      refine f_not ?_
      refine f_B ?_
      refine c_call ?_
      refine ea_to (ea_cons (ev_var rfl) (ea_cons ev_c ea_nil)) ?_
      refine ⟨a_v_title, (v_title : Any), 60, star [imA a_v_answers (v_answers : Any), imA a_v_day (v_day : Any), imA a_v_body (v_body : Any), imA a_v_title (v_title : Any), imA a_v_sender (v_sender : Any), cell a_v_self (.ins (G.cl 7) d_v_self []), F], rfl, (hS.im (i := 3) rfl), Sep.unstar (M := []) (hS.sel [0, 1, 2, 3, 4, 5, 6] (by decide) rfl : Sep H (([] ++ [imA a_v_answers (v_answers : Any), imA a_v_day (v_day : Any), imA a_v_body (v_body : Any), imA a_v_title (v_title : Any), imA a_v_sender (v_sender : Any), cell a_v_self (.ins (G.cl 7) d_v_self []), F] : List (Asn G)))), R.wp_mono (R.wp_noexc hm) (fun r3 hm H hS => ?_) (fun _ z => z)⟩
      have hS : Sep H ([imA a_v_answers (v_answers : Any), imA a_v_day (v_day : Any), imA a_v_body (v_body : Any), imA a_v_title (v_title : Any), imA a_v_sender (v_sender : Any), cell a_v_self (.ins (G.cl 7) d_v_self []), F] : List (Asn G)) := Sep.star (M := []) hS
      refine f_bl ?_
      refine f_nK ?_
      refine orK_J hm hS (fun hb q hm nx => ?_) (fun b4 H hm hS => ?_)
      ·
        obtain ⟨s5, hs6, hm⟩ := Ml.wp_asStr hm
        have hv7 := v_str (hS.im (i := 3) rfl) hs6
        subst hv7
        refine et_to (et_test (ev_inSg (c := 10) ev_c (ev_var rfl))) ?_
        -- changed: im_v_title
        exact nx _ _ hm (hS.sel [0, 1, 2, 3, 4, 5, 6] (by decide) rfl)
      ·
        exact nx _ _ hm (hS.sel [0, 1, 2, 3, 4, 5, 6] (by decide) rfl)
    ·
      obtain ⟨hy, hn⟩ := R.wp_if hm
      refine ifK_2 (fun hb8 => ?_) (fun hb8 => ?_)
      · have hm := hy hb8
        exact hm _ (hS.sel [6] (by decide) rfl)
      · have hm := hn (by rw [hb8]; decide)
        refine st_nx ?_
        refine sq_nx ?_
        refine f_seq ?_
        refine f_if ?_
        refine f_or ?_
        refine f_not ?_
        refine f_B ?_
        refine c_call ?_
        refine ea_to (ea_cons (ev_var rfl) (ea_cons ev_c ea_nil)) ?_
        refine ⟨a_v_body, (v_body : Any), 400, star [imA a_v_answers (v_answers : Any), imA a_v_day (v_day : Any), imA a_v_body (v_body : Any), imA a_v_title (v_title : Any), imA a_v_sender (v_sender : Any), cell a_v_self (.ins (G.cl 7) d_v_self []), F], rfl, (hS.im (i := 2) rfl), Sep.unstar (M := []) (hS.sel [0, 1, 2, 3, 4, 5, 6] (by decide) rfl : Sep H (([] ++ [imA a_v_answers (v_answers : Any), imA a_v_day (v_day : Any), imA a_v_body (v_body : Any), imA a_v_title (v_title : Any), imA a_v_sender (v_sender : Any), cell a_v_self (.ins (G.cl 7) d_v_self []), F] : List (Asn G)))), R.wp_mono (R.wp_noexc hm) (fun r9 hm H hS => ?_) (fun _ z => z)⟩
        have hS : Sep H ([imA a_v_answers (v_answers : Any), imA a_v_day (v_day : Any), imA a_v_body (v_body : Any), imA a_v_title (v_title : Any), imA a_v_sender (v_sender : Any), cell a_v_self (.ins (G.cl 7) d_v_self []), F] : List (Asn G)) := Sep.star (M := []) hS
        refine f_bl ?_
        refine f_nK ?_
        refine orK_J hm hS (fun hb q hm nx => ?_) (fun b10 H hm hS => ?_)
        ·
          refine f_not ?_
          refine f_B ?_
          refine c_call ?_
          refine ea_to (ea_cons (ev_var rfl) ea_nil) ?_
          refine ⟨a_v_day, (v_day : Any), star [imA a_v_answers (v_answers : Any), imA a_v_day (v_day : Any), imA a_v_body (v_body : Any), imA a_v_title (v_title : Any), imA a_v_sender (v_sender : Any), cell a_v_self (.ins (G.cl 7) d_v_self []), F], rfl, (hS.im (i := 1) rfl), Sep.unstar (M := []) (hS.sel [0, 1, 2, 3, 4, 5, 6] (by decide) rfl : Sep H (([] ++ [imA a_v_answers (v_answers : Any), imA a_v_day (v_day : Any), imA a_v_body (v_body : Any), imA a_v_title (v_title : Any), imA a_v_sender (v_sender : Any), cell a_v_self (.ins (G.cl 7) d_v_self []), F] : List (Asn G)))), R.wp_mono (R.wp_noexc hm) (fun r11 hm H hS => ?_) (fun _ z => z)⟩
          have hS : Sep H ([imA a_v_answers (v_answers : Any), imA a_v_day (v_day : Any), imA a_v_body (v_body : Any), imA a_v_title (v_title : Any), imA a_v_sender (v_sender : Any), cell a_v_self (.ins (G.cl 7) d_v_self []), F] : List (Asn G)) := Sep.star (M := []) hS
          refine f_bl ?_
          refine f_nK ?_
          exact nx _ _ hm (hS.sel [0, 1, 2, 3, 4, 5, 6] (by decide) rfl)
        ·
          obtain ⟨hy, hn⟩ := R.wp_if hm
          refine ifK_2 (fun hb12 => ?_) (fun hb12 => ?_)
          · have hm := hy hb12
            exact hm _ (hS.sel [6] (by decide) rfl)
          · have hm := hn (by rw [hb12]; decide)
            refine st_nx ?_
            refine sq_nx ?_
            refine f_seq ?_
            refine f_if ?_
            refine f_and ?_
            obtain ⟨b13, hb13, hm⟩ := wp_eqX hm
            refine et_to (et_test (ev_neX (ev_var rfl) ev_c (hS.im (i := 0) rfl) (any_str.mpr rfl) hb13)) ?_
            refine andK_J hm hS (fun hb q hm nx => ?_) (fun b14 H hm hS => ?_)
            ·
              refine f_not ?_
              refine f_B ?_
              refine c_call ?_
              refine ea_to (ea_cons (ev_var rfl) ea_nil) ?_
              refine ⟨a_v_answers, (v_answers : Any), star [imA a_v_answers (v_answers : Any), imA a_v_day (v_day : Any), imA a_v_body (v_body : Any), imA a_v_title (v_title : Any), imA a_v_sender (v_sender : Any), cell a_v_self (.ins (G.cl 7) d_v_self []), F], rfl, (hS.im (i := 0) rfl), Sep.unstar (M := []) (hS.sel [0, 1, 2, 3, 4, 5, 6] (by decide) rfl : Sep H (([] ++ [imA a_v_answers (v_answers : Any), imA a_v_day (v_day : Any), imA a_v_body (v_body : Any), imA a_v_title (v_title : Any), imA a_v_sender (v_sender : Any), cell a_v_self (.ins (G.cl 7) d_v_self []), F] : List (Asn G)))), R.wp_mono (R.wp_noexc hm) (fun r15 hm H hS => ?_) (fun _ z => z)⟩
              have hS : Sep H ([imA a_v_answers (v_answers : Any), imA a_v_day (v_day : Any), imA a_v_body (v_body : Any), imA a_v_title (v_title : Any), imA a_v_sender (v_sender : Any), cell a_v_self (.ins (G.cl 7) d_v_self []), F] : List (Asn G)) := Sep.star (M := []) hS
              refine f_bl ?_
              refine f_nK ?_
              exact nx _ _ hm (hS.sel [0, 1, 2, 3, 4, 5, 6] (by decide) rfl)
            ·
              obtain ⟨hy, hn⟩ := R.wp_if hm
              refine ifK_2 (fun hb16 => ?_) (fun hb16 => ?_)
              · have hm := hy hb16
                exact hm _ (hS.sel [6] (by decide) rfl)
              · have hm := hn (by rw [hb16]; decide)
                refine st_nx ?_
                refine sq_nx ?_
                refine f_seq ?_
                refine c_sfld ?_
                refine ev_to (ev_var rfl) ?_
                obtain ⟨s17, hs18, hm⟩ := Ml.wp_asStr hm
                have hv19 := v_str (hS.im (i := 4) rfl) hs18
                subst hv19
                refine ev_to (ev_var rfl) ?_
                refine k_sfld (fs' := [("sender", (.str (s17)))]) hS (i := 5) rfl T.cl_Letter T.n_Letter_sender rfl (by show 0 < 1000; decide) (by show decide (G.fz (G.cl 7) = some 1) = false; rw [T.fz_Letter]; rfl) rfl fun H hS => ?_
                have hS : Sep H ([imA a_v_answers (v_answers : Any), imA a_v_day (v_day : Any), imA a_v_body (v_body : Any), imA a_v_title (v_title : Any), imA (.str (s17)) (v_sender : Any), cell a_v_self (.ins (G.cl 7) d_v_self [("sender", (.str (s17)))]), F] : List (Asn G)) := hS
                refine sq_nx ?_
                refine f_seq ?_
                refine c_sfld ?_
                refine ev_to (ev_var rfl) ?_
                obtain ⟨s20, hs21, hm⟩ := Ml.wp_asStr hm
                have hv22 := v_str (hS.im (i := 3) rfl) hs21
                subst hv22
                refine ev_to (ev_var rfl) ?_
                refine k_sfld (fs' := [("sender", (.str (s17))), ("title", (.str (s20)))]) hS (i := 5) rfl T.cl_Letter T.n_Letter_title rfl (by show 1 < 1000; decide) (by show decide (G.fz (G.cl 7) = some 2) = false; rw [T.fz_Letter]; rfl) rfl fun H hS => ?_
                have hS : Sep H ([imA a_v_answers (v_answers : Any), imA a_v_day (v_day : Any), imA a_v_body (v_body : Any), imA (.str (s20)) (v_title : Any), imA (.str (s17)) (v_sender : Any), cell a_v_self (.ins (G.cl 7) d_v_self [("sender", (.str (s17))), ("title", (.str (s20)))]), F] : List (Asn G)) := hS
                refine sq_nx ?_
                refine f_seq ?_
                refine c_sfld ?_
                refine ev_to (ev_var rfl) ?_
                obtain ⟨s23, hs24, hm⟩ := Ml.wp_asStr hm
                have hv25 := v_str (hS.im (i := 2) rfl) hs24
                subst hv25
                refine ev_to (ev_var rfl) ?_
                refine k_sfld (fs' := [("sender", (.str (s17))), ("title", (.str (s20))), ("body", (.str (s23)))]) hS (i := 5) rfl T.cl_Letter T.n_Letter_body rfl (by show 2 < 1000; decide) (by show decide (G.fz (G.cl 7) = some 3) = false; rw [T.fz_Letter]; rfl) rfl fun H hS => ?_
                have hS : Sep H ([imA a_v_answers (v_answers : Any), imA a_v_day (v_day : Any), imA (.str (s23)) (v_body : Any), imA (.str (s20)) (v_title : Any), imA (.str (s17)) (v_sender : Any), cell a_v_self (.ins (G.cl 7) d_v_self [("sender", (.str (s17))), ("title", (.str (s20))), ("body", (.str (s23)))]), F] : List (Asn G)) := hS
                refine sq_nx ?_
                refine f_seq ?_
                refine c_sfld ?_
                refine ev_to (ev_var rfl) ?_
                obtain ⟨s26, hs27, hm⟩ := Ml.wp_asInt hm
                have hv28 := v_int (hS.im (i := 1) rfl) hs27
                subst hv28
                refine ev_to (ev_var rfl) ?_
                refine k_sfld (fs' := [("sender", (.str (s17))), ("title", (.str (s20))), ("body", (.str (s23))), ("day", (.int (s26)))]) hS (i := 5) rfl T.cl_Letter T.n_Letter_day rfl (by show 3 < 1000; decide) (by show decide (G.fz (G.cl 7) = some 4) = false; rw [T.fz_Letter]; rfl) rfl fun H hS => ?_
                have hS : Sep H ([imA a_v_answers (v_answers : Any), imA (.int (s26)) (v_day : Any), imA (.str (s23)) (v_body : Any), imA (.str (s20)) (v_title : Any), imA (.str (s17)) (v_sender : Any), cell a_v_self (.ins (G.cl 7) d_v_self [("sender", (.str (s17))), ("title", (.str (s20))), ("body", (.str (s23))), ("day", (.int (s26)))]), F] : List (Asn G)) := hS
                refine sq_nx ?_
                refine c_sfld ?_
                refine ev_to (ev_var rfl) ?_
                obtain ⟨s29, hs30, hm⟩ := Ml.wp_asStr hm
                have hv31 := v_str (hS.im (i := 0) rfl) hs30
                subst hv31
                refine ev_to (ev_var rfl) ?_
                refine k_sfldP (fs' := [("sender", (.str (s17))), ("title", (.str (s20))), ("body", (.str (s23))), ("day", (.int (s26))), ("answers", (.str (s29)))]) hS (i := 5) rfl T.cl_Letter T.n_Letter_answers rfl (by show 4 < 1000; decide) (by show decide (G.fz (G.cl 7) = some 5) = true; rw [T.fz_Letter]; rfl) rfl fun H hO hT hS => ?_
                have hS : Sep H ([imA (.str (s29)) (v_answers : Any), imA (.int (s26)) (v_day : Any), imA (.str (s23)) (v_body : Any), imA (.str (s20)) (v_title : Any), imA (.str (s17)) (v_sender : Any), F] : List (Asn G)) := hS
                have hS := hS.addIm (v := (.ref a_v_self)) (x := (⟨s17, s20, s23, s26, s29⟩ : Letter)) (mk_Letter T.fz_Letter hO)
                exact hm _ (hS.sel [0, 6] (by decide) rfl)
def sp_Letter_parts (G : Gx) : Sp := fun vs H Q E => ∃ (a_v_self : Addr) (v_self : Letter) (F : Asn G), vs = [(.ref a_v_self)] ∧ Im.im G H (.ref a_v_self) v_self ∧ Sep H ([F] : List (Asn G)) ∧ R.wp (m_Letter_parts v_self) (fun r => ∀ (p : Addr) H', Sep H' ([imA (.ref p) (r : (T5 Str Str Str Int Str)), F] : List (Asn G)) → Q (.ref p) H') (fun _ => False)
abbrev N_Letter_parts : List Str := ["self"]
theorem sc_Letter_parts : FnScope N_Letter_parts ["self"] (defScope s_Letter_parts) := ⟨rfl, rfl, rfl, by decide +kernel, rfl, by decide +kernel, by decide +kernel⟩
theorem ok_Letter_parts (T : Txt G mg) : FnOk P w G.K mg base CX0 1 T.a_Letter_parts T.fd_Letter_parts ["self"] (sp_Letter_parts G) := by
  have nd := sc_Letter_parts.nd
  refine Fun.ok T.F_Letter_parts sc_Letter_parts (fun vs H Q E h => ?_) (fun cdv A outer s H vs Q E hr h => ?_)
  · obtain ⟨a_v_self, v_self, F, rfl, _⟩ := h; rfl
  · obtain ⟨a_v_self, v_self, F, rfl, him_v_self, hS, hm⟩ := h
    have hS := hS.addIm him_v_self
    refine ⟨_, (pss_one (ps_ret (pe_tup (pa_cons (pe_fld (pv 0) rfl) (pa_cons (pe_fld (pv 0) rfl) (pa_cons (pe_fld (pv 0) rfl) (pa_cons (pe_fld (pv 0) rfl) (pa_cons (pe_fld (pv 0) rfl) pa_nil)))))))), ?_⟩
    unfold m_Letter_parts at hm
    refine c_ret ?_
    refine c_tup ?_
    obtain ⟨d1, hO2⟩ := im_Letter (hS.im (i := 0) rfl)
    obtain ⟨d3, hO4⟩ := im_Letter (hS.im (i := 0) rfl)
    obtain ⟨d5, hO6⟩ := im_Letter (hS.im (i := 0) rfl)
    obtain ⟨d7, hO8⟩ := im_Letter (hS.im (i := 0) rfl)
    obtain ⟨d9, hO10⟩ := im_Letter (hS.im (i := 0) rfl)
    refine ea_to (ea_cons (ev_fld (ev_var rfl) hO2 T.cl_Letter T.n_Letter_sender rfl) (ea_cons (ev_fld (ev_var rfl) hO4 T.cl_Letter T.n_Letter_title rfl) (ea_cons (ev_fld (ev_var rfl) hO6 T.cl_Letter T.n_Letter_body rfl) (ea_cons (ev_fld (ev_var rfl) hO8 T.cl_Letter T.n_Letter_day rfl) (ea_cons (ev_fld (ev_var rfl) hO10 T.cl_Letter T.n_Letter_answers rfl) ea_nil))))) ?_
    refine k_tupP (x := ((⟨v_self.sender, v_self.title, v_self.body, v_self.day, v_self.answers⟩ : T5 _ _ _ _ _) : (T5 Str Str Str Int Str))) hS (fun H' p h s => mk5 rfl rfl rfl rfl rfl h s) (by show 5 ≤ sizeLine; decide) fun p11 H hS => ?_
    exact hm _ _ (hS.sel [0, 2] (by decide) rfl)
def sp_Letter_words (G : Gx) : Sp := fun vs H Q E => ∃ (a_v_self : Addr) (v_self : Letter) (F : Asn G), vs = [(.ref a_v_self)] ∧ Im.im G H (.ref a_v_self) v_self ∧ Sep H ([F] : List (Asn G)) ∧ R.wp (m_Letter_words v_self) (fun r => ∀ p H', Sep H' ([lstA p (r : (List Str)), F] : List (Asn G)) → Q (.ref p) H') (fun _ => False)
abbrev N_Letter_words : List Str := ["self"]
theorem sc_Letter_words : FnScope N_Letter_words ["self"] (defScope s_Letter_words) := ⟨rfl, rfl, rfl, by decide +kernel, rfl, by decide +kernel, by decide +kernel⟩
theorem ok_Letter_words (T : Txt G mg) : FnOk P w G.K mg base CX0 3 T.a_Letter_words T.fd_Letter_words ["self"] (sp_Letter_words G) := by
  have nd := sc_Letter_words.nd
  refine Fun.ok T.F_Letter_words sc_Letter_words (fun vs H Q E h => ?_) (fun cdv A outer s H vs Q E hr h => ?_)
  · obtain ⟨a_v_self, v_self, F, rfl, _⟩ := h; rfl
  · obtain ⟨a_v_self, v_self, F, rfl, him_v_self, hS, hm⟩ := h
    have hS := hS.addIm him_v_self
    refine ⟨_, (pss_one (ps_ret (pe_fz (pe_call (ok_each_once T) (hr.mono (by decide)) rfl T.g_each_once T.kp_each_once T.b_each_once .nil pass0 (pa_cons (pe_fz (pe_op op_cat (pe_fz (pe_call (ok_words_of T) (hr.mono (by decide)) rfl T.g_words_of T.kp_words_of T.b_words_of .nil pass0 (pa_cons (pe_fld (pv 0) rfl) pa_nil))) (pe_fz (pe_call (ok_words_of T) (hr.mono (by decide)) rfl T.g_words_of T.kp_words_of T.b_words_of .nil pass0 (pa_cons (pe_fld (pv 0) rfl) pa_nil))))) pa_nil))))), ?_⟩
    unfold m_Letter_words at hm
    refine c_ret ?_
    refine c_fz ?_
    refine c_call ?_
    refine c_cons ?_
    refine c_fz ?_
    refine c_op ?_
    refine c_fz ?_
    refine c_call ?_
    obtain ⟨d1, hO2⟩ := im_Letter (hS.im (i := 0) rfl)
    refine ea_to (ea_cons (ev_fld (ev_var rfl) hO2 T.cl_Letter T.n_Letter_title rfl) ea_nil) ?_
    refine ⟨v_self.title, star [imA (.ref a_v_self) (v_self : Letter), F], rfl, Sep.unstar (M := []) (hS.sel [0, 1] (by decide) rfl : Sep H (([] ++ [imA (.ref a_v_self) (v_self : Letter), F] : List (Asn G)))), R.wp_mono (R.wp_bind hm) (fun r3 hm p4 H hS => ?_) (fun _ z => z)⟩
    have hS : Sep H ([lstA p4 (r3 : (List Str)), imA (.ref a_v_self) (v_self : Letter), F] : List (Asn G)) := Sep.star (M := [lstA p4 (r3 : (List Str))]) hS
    refine fz_no ?_
    refine c_fz ?_
    refine c_call ?_
    obtain ⟨d5, hO6⟩ := im_Letter (hS.im (i := 1) rfl)
    refine ea_to (ea_cons (ev_fld (ev_var rfl) hO6 T.cl_Letter T.n_Letter_body rfl) ea_nil) ?_
    refine ⟨v_self.body, star [lstA p4 (r3 : (List Str)), imA (.ref a_v_self) (v_self : Letter), F], rfl, Sep.unstar (M := []) (hS.sel [0, 1, 2] (by decide) rfl : Sep H (([] ++ [lstA p4 (r3 : (List Str)), imA (.ref a_v_self) (v_self : Letter), F] : List (Asn G)))), R.wp_mono (R.wp_bind hm) (fun r7 hm p8 H hS => ?_) (fun _ z => z)⟩
    have hS : Sep H ([lstA p8 (r7 : (List Str)), lstA p4 (r3 : (List Str)), imA (.ref a_v_self) (v_self : Letter), F] : List (Asn G)) := Sep.star (M := [lstA p8 (r7 : (List Str))]) hS
    refine fz_no ?_
    obtain ⟨h9, hm⟩ := R.wp_need hm
    refine k_cat hS (i := 1) (j := 0) rfl rfl h9 fun p10 H hS => ?_
    refine fz_no ?_
    refine c_nil ?_
    refine ⟨p10, (r3 ++ r7 : (List Str)), star [lstA p8 (r7 : (List Str)), lstA p4 (r3 : (List Str)), imA (.ref a_v_self) (v_self : Letter), F], rfl, Sep.unstar (M := [lstA p10 (r3 ++ r7 : (List Str))]) (hS.sel [0, 1, 2, 3, 4] (by decide) rfl : Sep H (([lstA p10 (r3 ++ r7 : (List Str))] ++ [lstA p8 (r7 : (List Str)), lstA p4 (r3 : (List Str)), imA (.ref a_v_self) (v_self : Letter), F] : List (Asn G)))), R.wp_mono (R.wp_bind hm) (fun r11 hm p12 H hS => ?_) (fun _ z => z)⟩
    have hS : Sep H ([lstA p12 (r11 : (List Str)), lstA p10 (r3 ++ r7 : (List Str)), lstA p8 (r7 : (List Str)), lstA p4 (r3 : (List Str)), imA (.ref a_v_self) (v_self : Letter), F] : List (Asn G)) := Sep.star (M := [lstA p12 (r11 : (List Str)), lstA p10 (r3 ++ r7 : (List Str))]) hS
    refine fz_no ?_
    exact hm _ _ (hS.sel [0, 5] (by decide) rfl)
def sp_letter_of (G : Gx) : Sp := fun vs H Q E => ∃ (a_v_thing : V) (v_thing : Any) (F : Asn G), vs = [a_v_thing] ∧ Im.im G H a_v_thing v_thing ∧ Sep H ([F] : List (Asn G)) ∧ R.wp (m_letter_of v_thing) (fun r => ∀ (p : Addr) H', Sep H' ([imA (.ref p) (r : Letter), F] : List (Asn G)) → Q (.ref p) H') (fun x => ∀ H', Sep H' ([F] : List (Asn G)) → Eok G x E H')
abbrev N_letter_of : List Str := ["thing"]
theorem sc_letter_of : FnScope N_letter_of ["thing"] (defScope s_letter_of) := ⟨rfl, rfl, rfl, by decide +kernel, rfl, by decide +kernel, by decide +kernel⟩
theorem ok_letter_of (T : Txt G mg) : FnOk P w G.K mg base (L2.CX P w) 5 T.a_letter_of T.fd_letter_of ["thing"] (sp_letter_of G) := by
  have nd := sc_letter_of.nd
  refine Fun.okX T.F_letter_of sc_letter_of (fun vs H Q E h => ?_) (fun cdv A outer s H vs Q E hr h => ?_)
  · obtain ⟨a_v_thing, v_thing, F, rfl, _⟩ := h; rfl
  · obtain ⟨a_v_thing, v_thing, F, rfl, him_v_thing, hS, hm⟩ := h
    have hS := hS.addIm him_v_thing
    refine ⟨_, (pss_cons (ps_if (PW.pt (pw_or (pt_not (pt_val (pe_callB (isiK G.K) (by rfl) T.z_isinstance (by decide +kernel) (pa_cons (pv 0) (pa_cons (pe_bltn (v := .ty "tuple") (by rfl) T.z_tuple (by decide +kernel) rfl) pa_nil))))) (pw_or1 (pt_cmpR op_ne (pe_callB (lenAnyK G.K) (by rfl) T.z_len PySem.boot_len (pa_cons (pv 0) pa_nil)) pe_int (nomark _))))) (pss_one (ps_raise rfl (takes_of rfl rfl rfl rfl) (pmk_own PySem.F.excBase_ValueError T.x_NoLetter T.g_NoLetter T.kp_NoLetter (T.r_NoLetter rfl) rfl))) pss_nil)
      (pss_one (ps_ret (pe_make T.k_Letter (ok_Letter___init__ T) (hr.mono (by decide)) rfl T.g_Letter T.b_Letter___init__ .nil (passes_call (takes_of rfl rfl rfl rfl) (fun _ _ _ _ h => h)) (pa_cons (pe_ix (ix_tupK G.K) (pv 0) pe_int (fun _ _ => rfl)) (pa_cons (pe_ix (ix_tupK G.K) (pv 0) pe_int (fun _ _ => rfl)) (pa_cons (pe_ix (ix_tupK G.K) (pv 0) pe_int (fun _ _ => rfl)) (pa_cons (pe_ix (ix_tupK G.K) (pv 0) pe_int (fun _ _ => rfl)) (pa_cons (pe_ix (ix_tupK G.K) (pv 0) pe_int (fun _ _ => rfl)) pa_nil))))))))), ?_⟩
    unfold m_letter_of at hm
    refine f_seq ?_
    refine f_if ?_
    refine f_or ?_
    refine et_to (et_not (et_B (ev_isAny (ev_var rfl) ev_c (hS.im (i := 0) rfl) (by decide)))) ?_
    refine orK_J hm hS (fun hb q hm nx => ?_) (fun b1 H hm hS => ?_)
    ·
      obtain ⟨n2, hn2, hm⟩ := wp_lenA hm
      refine et_to (et_test (ev_neI (ev_lenA (ev_var rfl) (hS.im (i := 0) rfl) hn2) ev_c)) ?_
      exact nx _ _ hm (hS.sel [0, 1] (by decide) rfl)
    ·
      obtain ⟨hy, hn⟩ := R.wp_if hm
      refine ifK_2 (fun hb3 => ?_) (fun hb3 => ?_)
      · have hm := hy hb3
        exact hm _ (hS.sel [1] (by decide) rfl)
      · have hm := hn (by rw [hb3]; decide)
        refine st_nx ?_
        refine sq_nx ?_
        refine c_ret ?_
        refine c_make ?_
        obtain ⟨xs4, h5, hm⟩ := Ml.wp_asTup hm
        obtain ⟨x6, hx6, hm⟩ := wp_idx hm
        obtain ⟨a7, vs8, he9, hg10, hM11⟩ := any_tupE (hS.im (i := 0) rfl) h5
        obtain ⟨u12, hu13, hi14⟩ := atI_im hM11 hx6
        obtain ⟨xs15, h16, hm⟩ := Ml.wp_asTup hm
        obtain ⟨x17, hx17, hm⟩ := wp_idx hm
        obtain ⟨a18, vs19, he20, hg21, hM22⟩ := any_tupE (hS.im (i := 0) rfl) h16
        obtain ⟨u23, hu24, hi25⟩ := atI_im hM22 hx17
        obtain ⟨xs26, h27, hm⟩ := Ml.wp_asTup hm
        obtain ⟨x28, hx28, hm⟩ := wp_idx hm
        obtain ⟨a29, vs30, he31, hg32, hM33⟩ := any_tupE (hS.im (i := 0) rfl) h27
        obtain ⟨u34, hu35, hi36⟩ := atI_im hM33 hx28
        obtain ⟨xs37, h38, hm⟩ := Ml.wp_asTup hm
        obtain ⟨x39, hx39, hm⟩ := wp_idx hm
        obtain ⟨a40, vs41, he42, hg43, hM44⟩ := any_tupE (hS.im (i := 0) rfl) h38
        obtain ⟨u45, hu46, hi47⟩ := atI_im hM44 hx39
        obtain ⟨xs48, h49, hm⟩ := Ml.wp_asTup hm
        obtain ⟨x50, hx50, hm⟩ := wp_idx hm
        obtain ⟨a51, vs52, he53, hg54, hM55⟩ := any_tupE (hS.im (i := 0) rfl) h49
        obtain ⟨u56, hu57, hi58⟩ := atI_im hM55 hx50
        refine ea_to (ea_cons (ev_ixT (ev_is (ev_var rfl) he9) ev_c hg10 hu13) (ea_cons (ev_ixT (ev_is (ev_var rfl) he20) ev_c hg21 hu24) (ea_cons (ev_ixT (ev_is (ev_var rfl) he31) ev_c hg32 hu35) (ea_cons (ev_ixT (ev_is (ev_var rfl) he42) ev_c hg43 hu46) (ea_cons (ev_ixT (ev_is (ev_var rfl) he53) ev_c hg54 hu57) ea_nil))))) ?_
        have hS := hS.addIm (v := u12) (x := (x6 : Any)) hi14
        have hS := hS.addIm (v := u23) (x := (x17 : Any)) hi25
        have hS := hS.addIm (v := u34) (x := (x28 : Any)) hi36
        have hS := hS.addIm (v := u45) (x := (x39 : Any)) hi47
        have hS := hS.addIm (v := u56) (x := (x50 : Any)) hi58
        intro p64 d65 np nd ne
        have hS := hS.newI (C := G.cl 7) np nd ne (by rw [T.fz_Letter]; decide)
        refine ⟨p64, d65, u12, (x6 : Any), u23, (x17 : Any), u34, (x28 : Any), u45, (x39 : Any), u56, (x50 : Any), star [imA u56 (x50 : Any), imA u45 (x39 : Any), imA u34 (x28 : Any), imA u23 (x17 : Any), imA u12 (x6 : Any), imA a_v_thing (v_thing : Any), F], rfl, (hS.im (i := 5) rfl), (hS.im (i := 4) rfl), (hS.im (i := 3) rfl), (hS.im (i := 2) rfl), (hS.im (i := 1) rfl), Sep.unstar (M := [cell p64 (.ins (G.cl 7) d65 [])]) (hS.sel [0, 1, 2, 3, 4, 5, 6, 7] (by decide) rfl : Sep _ (([cell p64 (.ins (G.cl 7) d65 [])] ++ [imA u56 (x50 : Any), imA u45 (x39 : Any), imA u34 (x28 : Any), imA u23 (x17 : Any), imA u12 (x6 : Any), imA a_v_thing (v_thing : Any), F] : List (Asn G)))), R.wp_mono (R.wp_bind hm) (fun r66 hm H hS => ⟨rfl, ?_⟩) (fun x hx H hS => ?_)⟩
        ·
          have hS : Sep H ([imA (.ref p64) (r66 : Letter), imA u56 (x50 : Any), imA u45 (x39 : Any), imA u34 (x28 : Any), imA u23 (x17 : Any), imA u12 (x6 : Any), imA a_v_thing (v_thing : Any), F] : List (Asn G)) := Sep.star (M := [imA (.ref p64) (r66 : Letter)]) hS
          exact hm _ _ (hS.sel [0, 7] (by decide) rfl)
        ·
          have hS : Sep H ([imA u56 (x50 : Any), imA u45 (x39 : Any), imA u34 (x28 : Any), imA u23 (x17 : Any), imA u12 (x6 : Any), imA a_v_thing (v_thing : Any), F] : List (Asn G)) := Sep.star (M := []) hS
          exact hx _ (hS.sel [6] (by decide) rfl)
def sp_law_row (G : Gx) : Sp := fun vs H Q E => ∃ (a_v_law_script : V) (v_law_script : Script) (v_law_many : Int) (F : Asn G), vs = [a_v_law_script, (.int (v_law_many))] ∧ Im.im G H a_v_law_script v_law_script ∧ Sep H ([F] : List (Asn G)) ∧ R.wp (m_law_row v_law_script v_law_many) (fun r => ∀ p H', Sep H' ([lstA p (r : (List Int)), F] : List (Asn G)) → Q (.ref p) H') (fun _ => False)
abbrev N_law_row : List Str := ["_law_script", "_law_many", "_law_found", "_law_more", "_law_k", "_law_cell"]
theorem sc_law_row : FnScope N_law_row ["_law_script", "_law_many"] (defScope s_law_row) := ⟨rfl, rfl, rfl, by decide +kernel, rfl, by decide +kernel, by decide +kernel⟩
theorem ok_law_row (T : Txt G mg) : FnOk P w G.K mg base CX0 1 T.a_law_row T.fd_law_row ["_law_script", "_law_many"] (sp_law_row G) := by
  have nd := sc_law_row.nd
  refine Fun.ok T.F_law_row sc_law_row (fun vs H Q E h => ?_) (fun cdv A outer s H vs Q E hr h => ?_)
  · obtain ⟨a_v_law_script, v_law_script, v_law_many, F, rfl, _⟩ := h; rfl
  · obtain ⟨a_v_law_script, v_law_script, v_law_many, F, rfl, him_v_law_script, hS, hm⟩ := h
    obtain ⟨ad_v_law_script, rfl, _⟩ := im_script him_v_law_script
    have hS := hS.addIm him_v_law_script
    refine ⟨_, (pss_cons (ps_set (i := 2) nd rfl (Or.inl rfl) (pe_fz (pe_lst pa_nil)))
      (pss_cons (ps_set (i := 3) nd rfl (Or.inl rfl) pe_int)
      (pss_cons (ps_for PassesOwn.never rfl (pi_range1 rfl T.z_range (pa_cons (pv 1) pa_nil)) (pg_name (i := 4) nd rfl (Or.inl rfl)) (pss_cons (ps_set (i := 5) nd rfl (Or.inl rfl) pe_int)
      (pss_cons (ps_if (pt_cmpR op_gt (pe_callB (lenSqK G.K) (by rfl) T.z_len PySem.boot_len (pa_cons (pv 0) pa_nil)) pe_int (nomark _)) (pss_one (ps_set (i := 5) nd rfl (Or.inl rfl) (pe_ix (ix_listK G.K) (pv 0) (pe_op op_mod (pv 4) (pe_callB (lenSqK G.K) (by rfl) T.z_len PySem.boot_len (pa_cons (pv 0) pa_nil))) (fun _ _ => rfl)))) pss_nil)
      (pss_cons (ps_set (i := 3) nd rfl (Or.inl rfl) (pe_op op_mod (pe_op op_add (pe_op op_add (pe_op op_mul (pv 3) pe_int) (pv 5)) (pv 4)) pe_int))
      (pss_one (ps_expr (pe_bmK G.K PySem.F.plainAttrs_list PySem.F.slot_list_append PySem.F.type_list_append mt_append (pe_fz (pv 2)) (pa_cons (pe_op op_mod (pe_op op_add (pe_op op_mul (pv 3) (pv 3)) (pe_op op_mul pe_int (pv 3))) pe_int) pa_nil))))))))
      (pss_one (ps_ret (pe_fz (pv 2))))))), ?_⟩
    unfold m_law_row at hm
    refine f_seq ?_
    refine c_asg ?_
    refine c_fz ?_
    refine c_lst ?_
    refine ea_to ea_nil ?_
    refine k_lst (α := Int) (vs := []) (xs := ([] : (List Int))) hS True.intro (by show 0 ≤ sizeLine; decide) fun p1 H hS => ?_
    refine fz_no ?_
    refine c_set (σ' := [some (.ref ad_v_law_script), some (.int (v_law_many)), some (.ref p1), none, none, none]) rfl ?_
    refine sq_nx ?_
    refine f_seq ?_
    refine c_asg ?_
    refine ev_to ev_c ?_
    refine c_set (σ' := [some (.ref ad_v_law_script), some (.int (v_law_many)), some (.ref p1), some (.int (7)), none, none]) rfl ?_
    refine sq_nx ?_
    refine f_seq ?_
    refine c_for ?_
    refine c_rng1 ?_
    refine ea_to (ea_cons (ev_var rfl) ea_nil) ?_
    obtain ⟨h2, hm⟩ := R.wp_need hm
    refine k_rng1 h2.1 h2.2 ?_
    refine k_for (τ := (List Int) × Int) (fun (s3 : (List Int) × Int) (σ : L2.St) (H : Hp) => ∃ (w6 w7 : Option V), σ = [some (.ref ad_v_law_script), some (.int (v_law_many)), some (.ref p1), some (.int (s3.2)), w6, w7] ∧ Sep H ([lstA p1 (s3.1 : (List Int)), imA (.ref ad_v_law_script) v_law_script, F] : List (Asn G))) (im := (fun _ v (x : Int) => v = .int x)) (s := (([] : (List Int)), 7)) (fun _ => wk_range) ⟨_, _, rfl, hS.sel [0, 1, 2] (by decide) rfl⟩ hm (fun s3 x4 v5 σ H q N hI hx hm nx => ?_) (fun s3 σ H hm hI => ?_)
    ·
      obtain ⟨w6, w7, rfl, hS⟩ := hI
      cases hx
      refine c_gN (σ' := [some (.ref ad_v_law_script), some (.int (v_law_many)), some (.ref p1), some (.int (s3.2)), some (.int (x4)), w7]) rfl ?_
      refine f_seq ?_
      refine c_asg ?_
      refine ev_to ev_c ?_
      refine c_set (σ' := [some (.ref ad_v_law_script), some (.int (v_law_many)), some (.ref p1), some (.int (s3.2)), some (.int (x4)), some (.int (0))]) rfl ?_
      refine sq_nx ?_
      refine f_seq ?_
      refine f_if ?_
      refine et_to (et_test (ev_i0 (ev_lenLm (ev_var rfl) (sq_script (hS.im (i := 1) rfl))) ev_c)) ?_
      refine ifK_J (τ := Int) (fun (s8 : Int) (σ : L2.St) (H : Hp) => σ = [some (.ref ad_v_law_script), some (.int (v_law_many)), some (.ref p1), some (.int (s3.2)), some (.int (x4)), some (.int (s8))] ∧ Sep H ([lstA p1 (s3.1 : (List Int)), imA (.ref ad_v_law_script) v_law_script, F] : List (Asn G))) hm (fun hb q hm nx => ?_) (fun hb q hm nx => ?_) (fun s8 σ H hm hI => ?_)
      ·
        refine c_asg ?_
        obtain ⟨h9, hm⟩ := R.wp_need hm
        obtain ⟨x10, hx10, hm⟩ := wp_idx hm
        refine ev_to (ev_ixSq (ev_var rfl) (ev_mod (ev_var rfl) (ev_lenLm (ev_var rfl) (sq_script (hS.im (i := 1) rfl))) h9) (sq_script (hS.im (i := 1) rfl)) (atI_map hx10)) ?_
        refine c_set (σ' := [some (.ref ad_v_law_script), some (.int (v_law_many)), some (.ref p1), some (.int (s3.2)), some (.int (x4)), some (.int (x10))]) rfl ?_
        exact nx _ _ _ hm ⟨rfl, hS.sel [0, 1, 2] (by decide) rfl⟩
      ·
        refine st_nx ?_
        exact nx _ _ _ hm ⟨rfl, hS.sel [0, 1, 2] (by decide) rfl⟩
      · obtain ⟨rfl, hS⟩ := hI
        refine sq_nx ?_
        refine f_seq ?_
        refine c_asg ?_
        refine ev_to (ev_mod (ev_add (ev_add (ev_mul (ev_var rfl) ev_c (.inr (by constructor <;> decide))) (ev_var rfl)) (ev_var rfl)) ev_c (by decide)) ?_
        obtain ⟨y11, hy11, hm⟩ := wp_let hm
        refine n_is (w := (.int (y11))) (by rw [hy11]) ?_
        refine c_set (σ' := [some (.ref ad_v_law_script), some (.int (v_law_many)), some (.ref p1), some (.int (y11)), some (.int (x4)), some (.int (s8))]) rfl ?_
        refine sq_nx ?_
        refine c_drop ?_
        refine c_bm ?_
        refine ev_to (ev_fz (ev_var rfl)) ⟨tyL hS (i := 0) rfl, ?_⟩
        obtain ⟨h12, hm⟩ := R.wp_need hm
        refine ea_to (ea_cons (ev_mod (ev_add (ev_mul (ev_var rfl) (ev_var rfl) h12) (ev_mul ev_c (ev_var rfl) (.inl (by constructor <;> decide)))) ev_c (by decide)) ea_nil) ?_
        obtain ⟨h13, hm⟩ := R.wp_need hm
        refine k_append (x := ((y11 * y11) + (16807 * y11)) % 2147483629) hS (i := 0) rfl rfl h13 rfl fun H hS => ?_
        exact nx _ _ _ hm ⟨_, _, rfl, hS.sel [0, 1, 2] (by decide) rfl⟩
    · obtain ⟨w6, w7, rfl, hS⟩ := hI
      refine sq_nx ?_
      refine c_ret ?_
      refine ev_to (ev_fz (ev_var rfl)) ?_
      exact hm _ _ (hS.sel [0, 2] (by decide) rfl)
def sp_law_word (G : Gx) : Sp := fun vs H Q E => ∃ (v_law_base : Int) (v_law_turn : Int) (F : Asn G), vs = [(.int (v_law_base)), (.int (v_law_turn))] ∧ Sep H ([F] : List (Asn G)) ∧ R.wp (m_law_word v_law_base v_law_turn) (fun r => ∀ H', Sep H' ([F] : List (Asn G)) → Q (.str (r)) H') (fun _ => False)
abbrev N_law_word : List Str := ["_law_base", "_law_turn", "_law_some", "_law_k", "_law_signs_here", "_law_size", "_law_at"]
theorem sc_law_word : FnScope N_law_word ["_law_base", "_law_turn"] (defScope s_law_word) := ⟨rfl, rfl, rfl, by decide +kernel, rfl, by decide +kernel, by decide +kernel⟩
theorem ok_law_word (T : Txt G mg) : FnOk P w G.K mg base CX0 1 T.a_law_word T.fd_law_word ["_law_base", "_law_turn"] (sp_law_word G) := by
  have nd := sc_law_word.nd
  refine Fun.ok T.F_law_word sc_law_word (fun vs H Q E h => ?_) (fun cdv A outer s H vs Q E hr h => ?_)
  · obtain ⟨v_law_base, v_law_turn, F, rfl, _⟩ := h; rfl
  · obtain ⟨v_law_base, v_law_turn, F, rfl, hS, hm⟩ := h
    refine ⟨_, (pss_cons (ps_set (i := 2) nd rfl (Or.inr rfl) pe_str)
      (pss_cons (ps_setLc (i := 4) (own := [("_law_k", 3)]) (g := gName 3) rfl nd rfl rfl (sw_true rfl rfl rfl (by decide +kernel)) (pi_range1 rfl T.z_range (pa_cons pe_int pa_nil)) (blkOk_by (own := [("_law_k", 3)]) (N := N_law_word) (sc := defScope s_law_word) (by decide +kernel)) (fun _ _ _ _ _ => pg_name (i := 3) nd rfl (Or.inl rfl)) (fun _ _ _ _ _ => pts_nil) (fun _ _ _ _ _ => (pe_ix ix_str (pv 2) (pe_op op_mod (pe_op op_add (pe_op op_add (pe_op op_fdiv (pv 0) pe_int) (pe_op op_mul pe_int (pv 3))) (pe_op op_mul (pe_op op_fdiv (pv 0) pe_int) (pv 3))) pe_int) (fun _ _ => rfl))))
      (pss_cons (ps_if (PW.pt (pw_and (pt_cmpR op_eq (pe_op op_mod (pv 0) pe_int) pe_int (nomark _)) (pw_and1 (pt_cmpR op_lt (pv 1) pe_int (nomark _))))) (pss_one (ps_ret (pe_m1 PySem.F.slot_str_join PySem.F.type_str_join (joinK G.K) pe_str (pe_fz (pe_slice (sl_listK G.K) (pe_fz (pv 4)) po_none (po_some (pe_op op_add pe_int (pv 1)))))))) pss_nil)
      (pss_cons (ps_if (PW.pt (pw_or (pt_cmpR op_lt (pe_op op_mod (pv 0) pe_int) pe_int (nomark _)) (pw_or1 (pt_cmpR op_gt (pv 1) pe_int (nomark _))))) (pss_one (ps_ret (pe_op op_catS (pe_op op_catS (pe_m1 PySem.F.slot_str_join PySem.F.type_str_join (joinK G.K) pe_str (pe_fz (pe_slice (sl_listK G.K) (pe_fz (pv 4)) po_none (po_some (pe_op op_add pe_int (pe_op op_mod (pe_op op_fdiv (pv 0) pe_int) pe_int)))))) pe_str) (pe_callTy call_str_int (by rfl) T.z_str (by decide +kernel) (pa_cons (pv 1) pa_nil))))) pss_nil)
      (pss_cons (ps_set (i := 5) nd rfl (Or.inl rfl) (pe_op op_add pe_int (pe_op op_mod (pe_op op_fdiv (pv 0) pe_int) pe_int)))
      (pss_cons (ps_set (i := 6) nd rfl (Or.inl rfl) (pe_op op_mod (pe_op op_fdiv (pv 0) pe_int) (pv 5)))
      (pss_cons (ps_asg (pe_ix ix_str (pv 2) (pe_op op_mod (pe_op op_add (pe_op op_fdiv (pv 0) pe_int) (pv 1)) pe_int) (fun _ _ => rfl)) (pg_sub (pe_fz (pv 4)) (pv 6) set_list))
      (pss_one (ps_ret (pe_m1 PySem.F.slot_str_join PySem.F.type_str_join (joinK G.K) pe_str (pe_fz (pe_slice (sl_listK G.K) (pe_fz (pv 4)) po_none (po_some (pv 5)))))))))))))), ?_⟩
    unfold m_law_word at hm
    refine f_seq ?_
    refine c_asg ?_
    refine ev_to ev_c ?_
    refine c_set (σ' := [some (.int (v_law_base)), some (.int (v_law_turn)), some (.str (("abcdefghijklmnopqrstuvwxyz0123456789" : Str))), none, none, none, none]) rfl ?_
    refine sq_nx ?_
    refine f_seq ?_
    refine c_asg ?_
    refine c_lc ?_
    refine c_rng1 ?_
    refine ea_to (ea_cons ev_c ea_nil) ?_
    refine k_rng1 (by decide) (by decide) ?_
    refine lc_sep (β := Str) (fun (_ : Unit) => ([F] : List (Asn G))) (s := ()) (im := (fun _ v (x : Int) => v = .int x)) hS (fun _ _ _ => wk_range) (by rw [rngL_len]; decide) hm (fun p1 _ ys4 x2 v3 H q Nx hS hx hm kS kN => ?_) (fun p1 t H hm hS => ?_)
    ·
      cases hx
      refine c_gLc (σ' := [some (.int (v_law_base)), some (.int (v_law_turn)), some (.str (("abcdefghijklmnopqrstuvwxyz0123456789" : Str))), some (.int (x2)), none, none, none]) rfl rfl ?_
      refine c_yes ?_
      obtain ⟨h5, hm⟩ := R.wp_need hm
      obtain ⟨c6, hc6, hm⟩ := wp_idx hm
      refine ev_to (ev_ixS (ev_var rfl) (ev_mod (ev_add (ev_add (ev_fdiv (ev_var rfl) ev_c ⟨by decide, by decide⟩) (ev_mul ev_c (ev_var rfl) (.inl (by constructor <;> decide)))) (ev_mul (ev_fdiv (ev_var rfl) ev_c ⟨by decide, by decide⟩) (ev_var rfl) h5)) ev_c (by decide)) (by decide +kernel) hc6) ?_
      exact kS () _ _ _ hm rfl (hS.sel [0, 1] (by decide) rfl)
    · revert hm hS; generalize t = t7; intro hm hS
      refine c_set (σ' := [some (.int (v_law_base)), some (.int (v_law_turn)), some (.str (("abcdefghijklmnopqrstuvwxyz0123456789" : Str))), none, some (.ref p1), none, none]) rfl ?_
      refine sq_nx ?_
      refine f_seq ?_
      refine f_if ?_
      refine et_to (et_and (et_test (ev_eqI (ev_mod (ev_var rfl) ev_c (by decide)) ev_c)) fun _ => (et_test (ev_i0 (ev_var rfl) ev_c))) ?_
      obtain ⟨hy, hn⟩ := R.wp_if hm
      refine ifK_2 (fun hb8 => ?_) (fun hb8 => ?_)
      · have hm := hy hb8
        refine c_ret ?_
        refine c_m1 ev_c ?_
        refine c_fz ?_
        refine c_sl ?_
        refine ev_to (ev_fz (ev_var rfl)) ?_
        refine eo_to eo_no ?_
        refine eo_to (eo_some (ev_add ev_c (ev_var rfl))) ?_
        refine k_slG hS (hS.sq (i := 0) rfl) fun p9 H hS => ?_
        refine fz_no ?_
        obtain ⟨h10, hm⟩ := R.wp_need hm
        refine ⟨_, _, _, rfl, rfl, .inl (hS.sqF (i := 0) rfl), h10, ?_⟩
        exact hm _ (hS.sel [2] (by decide) rfl)
      · have hm := hn (by rw [hb8]; decide)
        refine st_nx ?_
        refine sq_nx ?_
        refine f_seq ?_
        refine f_if ?_
        refine et_to (et_or (et_test (ev_i0 (ev_mod (ev_var rfl) ev_c (by decide)) ev_c)) fun _ => (et_test (ev_i0 (ev_var rfl) ev_c))) ?_
        obtain ⟨hy, hn⟩ := R.wp_if hm
        refine ifK_2 (fun hb11 => ?_) (fun hb11 => ?_)
        · have hm := hy hb11
          refine c_ret ?_
          refine c_op ?_
          refine c_op ?_
          refine c_m1 ev_c ?_
          refine c_fz ?_
          refine c_sl ?_
          refine ev_to (ev_fz (ev_var rfl)) ?_
          refine eo_to eo_no ?_
          refine eo_to (eo_some (ev_add ev_c (ev_mod (ev_fdiv (ev_var rfl) ev_c ⟨by decide, by decide⟩) ev_c (by decide)))) ?_
          refine k_slG hS (hS.sq (i := 0) rfl) fun p12 H hS => ?_
          refine fz_no ?_
          obtain ⟨h13, hm⟩ := R.wp_need hm
          refine ⟨_, _, _, rfl, rfl, .inl (hS.sqF (i := 0) rfl), h13, ?_⟩
          refine ev_to ev_c ?_
          obtain ⟨h14, hm⟩ := R.wp_need hm
          refine r_catS h14 _ ?_
          obtain ⟨h15, hm⟩ := R.wp_need hm
          refine ev_to (ev_cb (ea_cons (ev_var rfl) ea_nil) fun _ q => ⟨_, rfl, h15, q⟩) ?_
          revert hm; refine R.need_rev fun h16 hm => ?_
          refine r_catS h16 _ ?_
          exact hm _ (hS.sel [2] (by decide) rfl)
        · have hm := hn (by rw [hb11]; decide)
          refine st_nx ?_
          refine sq_nx ?_
          refine f_seq ?_
          refine c_asg ?_
          refine ev_to (ev_add ev_c (ev_mod (ev_fdiv (ev_var rfl) ev_c ⟨by decide, by decide⟩) ev_c (by decide))) ?_
          obtain ⟨y17, hy17, hm⟩ := wp_let hm
          refine n_is (w := (.int (y17))) (by rw [hy17]) ?_
          refine c_set (σ' := [some (.int (v_law_base)), some (.int (v_law_turn)), some (.str (("abcdefghijklmnopqrstuvwxyz0123456789" : Str))), none, some (.ref p1), some (.int (y17)), none]) rfl ?_
          refine sq_nx ?_
          refine f_seq ?_
          refine c_asg ?_
          obtain ⟨h18, hm⟩ := R.wp_need hm
          refine ev_to (ev_mod (ev_fdiv (ev_var rfl) ev_c ⟨by decide, by decide⟩) (ev_var rfl) h18) ?_
          obtain ⟨y19, hy19, hm⟩ := wp_let hm
          refine n_is (w := (.int (y19))) (by rw [hy19]) ?_
          refine c_set (σ' := [some (.int (v_law_base)), some (.int (v_law_turn)), some (.str (("abcdefghijklmnopqrstuvwxyz0123456789" : Str))), none, some (.ref p1), some (.int (y17)), some (.int (y19))]) rfl ?_
          refine sq_nx ?_
          refine f_seq ?_
          refine c_asgS ?_
          obtain ⟨c20, hc20, hm⟩ := wp_idx hm
          refine ev_to (ev_ixS (ev_var rfl) (ev_mod (ev_add (ev_fdiv (ev_var rfl) ev_c ⟨by decide, by decide⟩) (ev_var rfl)) ev_c (by decide)) (by decide +kernel) hc20) ?_
          obtain ⟨j21, hj21, hm⟩ := wp_ix hm
          refine ev_to (ev_fz (ev_var rfl)) ?_
          refine ev_to (ev_var rfl) ?_
          refine k_setL (x := sg (c20)) hS (n := 0) rfl rfl j21 hj21 rfl fun H hS => ?_
          refine sq_nx ?_
          refine c_ret ?_
          refine c_m1 ev_c ?_
          refine c_fz ?_
          refine c_sl ?_
          refine ev_to (ev_fz (ev_var rfl)) ?_
          refine eo_to eo_no ?_
          refine eo_to (eo_some (ev_var rfl)) ?_
          refine k_slG hS (hS.sq (i := 0) rfl) fun p22 H hS => ?_
          refine fz_no ?_
          obtain ⟨h23, hm⟩ := R.wp_need hm
          refine ⟨_, _, _, rfl, rfl, .inl (hS.sqF (i := 0) rfl), h23, ?_⟩
          exact hm _ (hS.sel [2] (by decide) rfl)
def sp_law_signs (G : Gx) : Sp := fun vs H Q E => ∃ (v_law_number : Int) (v_law_many : Int) (F : Asn G), vs = [(.int (v_law_number)), (.int (v_law_many))] ∧ Sep H ([F] : List (Asn G)) ∧ R.wp (m_law_signs v_law_number v_law_many) (fun r => ∀ H', Sep H' ([F] : List (Asn G)) → Q (.str (r)) H') (fun _ => False)
abbrev N_law_signs : List Str := ["_law_number", "_law_many", "_law_some", "_law_found", "_law_k"]
theorem sc_law_signs : FnScope N_law_signs ["_law_number", "_law_many"] (defScope s_law_signs) := ⟨rfl, rfl, rfl, by decide +kernel, rfl, by decide +kernel, by decide +kernel⟩
theorem ok_law_signs (T : Txt G mg) : FnOk P w G.K mg base CX0 1 T.a_law_signs T.fd_law_signs ["_law_number", "_law_many"] (sp_law_signs G) := by
  have nd := sc_law_signs.nd
  refine Fun.ok T.F_law_signs sc_law_signs (fun vs H Q E h => ?_) (fun cdv A outer s H vs Q E hr h => ?_)
  · obtain ⟨v_law_number, v_law_many, F, rfl, _⟩ := h; rfl
  · obtain ⟨v_law_number, v_law_many, F, rfl, hS, hm⟩ := h
    refine ⟨_, (pss_cons (ps_set (i := 2) nd rfl (Or.inl rfl) pe_str)
      (pss_cons (ps_set (i := 2) nd rfl (Or.inl rfl) (pe_op op_catS (pv 2) pe_str))
      (pss_cons (ps_set (i := 3) nd rfl (Or.inl rfl) pe_str)
      (pss_cons (ps_for PassesOwn.never rfl (pi_range1 rfl T.z_range (pa_cons (pv 1) pa_nil)) (pg_name (i := 4) nd rfl (Or.inl rfl)) (pss_cons (ps_set (i := 0) nd rfl (Or.inl rfl) (pe_op op_mod (pe_op op_add (pe_op op_mul (pv 0) pe_int) pe_int) pe_int))
      (pss_one (ps_if (pt_cmpR op_eq (pe_op op_mod (pe_op op_fdiv (pv 0) pe_int) pe_int) pe_int (nomark _)) (pss_one (ps_aug (i := 3) nd rfl (Or.inl rfl) pe_str ip_catS)) (pss_one (ps_if (pt_cmpR op_eq (pe_op op_mod (pe_op op_fdiv (pv 0) pe_int) pe_int) pe_int (nomark _)) (pss_one (ps_aug (i := 3) nd rfl (Or.inl rfl) (pe_ix ix_str pe_str (pe_op op_mod (pe_op op_fdiv (pv 0) pe_int) pe_int) (fun _ _ => rfl)) ip_catS)) (pss_one (ps_aug (i := 3) nd rfl (Or.inl rfl) (pe_ix ix_str (pv 2) (pe_op op_mod (pe_op op_fdiv (pv 0) pe_int) pe_int) (fun _ _ => rfl)) ip_catS))))))))
      (pss_one (ps_ret (pv 3))))))), ?_⟩
    unfold m_law_signs at hm
    refine f_seq ?_
    refine c_asg ?_
    refine ev_to ev_c ?_
    obtain ⟨y1, hy1, hm⟩ := wp_let hm
    refine n_is (w := (.str (y1))) (by rw [hy1]) ?_
    refine c_set (σ' := [some (.int (v_law_number)), some (.int (v_law_many)), some (.str (y1)), none, none]) rfl ?_
    refine sq_nx ?_
    refine f_seq ?_
    refine c_asg ?_
    obtain ⟨h2, hm⟩ := R.wp_need hm
    refine ev_to (ev_catS (ev_var rfl) ev_c h2) ?_
    obtain ⟨y3, hy3, hm⟩ := wp_let hm
    refine n_is (w := (.str (y3))) (by rw [hy3]) ?_
    refine c_set (σ' := [some (.int (v_law_number)), some (.int (v_law_many)), some (.str (y3)), none, none]) rfl ?_
    refine sq_nx ?_
    refine f_seq ?_
    refine c_asg ?_
    refine ev_to ev_c ?_
    refine c_set (σ' := [some (.int (v_law_number)), some (.int (v_law_many)), some (.str (y3)), some (.str (("" : Str))), none]) rfl ?_
    refine sq_nx ?_
    refine f_seq ?_
    refine c_for ?_
    refine c_rng1 ?_
    refine ea_to (ea_cons (ev_var rfl) ea_nil) ?_
    obtain ⟨h4, hm⟩ := R.wp_need hm
    refine k_rng1 h4.1 h4.2 ?_
    refine k_for (τ := Int × Str) (fun (s5 : Int × Str) (σ : L2.St) (H : Hp) => ∃ (w8 : Option V), σ = [some (.int (s5.1)), some (.int (v_law_many)), some (.str (y3)), some (.str (s5.2)), w8] ∧ Sep H ([F] : List (Asn G))) (im := (fun _ v (x : Int) => v = .int x)) (s := (v_law_number, ("" : Str))) (fun _ => wk_range) ⟨_, rfl, hS.sel [0] (by decide) rfl⟩ hm (fun s5 x6 v7 σ H q N hI hx hm nx => ?_) (fun s5 σ H hm hI => ?_)
    ·
      obtain ⟨w8, rfl, hS⟩ := hI
      cases hx
      refine c_gN (σ' := [some (.int (s5.1)), some (.int (v_law_many)), some (.str (y3)), some (.str (s5.2)), some (.int (x6))]) rfl ?_
      refine f_seq ?_
      refine c_asg ?_
      refine ev_to (ev_mod (ev_add (ev_mul (ev_var rfl) ev_c (.inr (by constructor <;> decide))) ev_c) ev_c (by decide)) ?_
      obtain ⟨y9, hy9, hm⟩ := wp_let hm
      refine n_is (w := (.int (y9))) (by rw [hy9]) ?_
      refine c_set (σ' := [some (.int (y9)), some (.int (v_law_many)), some (.str (y3)), some (.str (s5.2)), some (.int (x6))]) rfl ?_
      refine sq_nx ?_
      refine f_if ?_
      refine et_to (et_test (ev_eqI (ev_mod (ev_fdiv (ev_var rfl) ev_c ⟨by decide, by decide⟩) ev_c (by decide)) ev_c)) ?_
      refine ifK_J (τ := Str) (fun (s10 : Str) (σ : L2.St) (H : Hp) => σ = [some (.int (y9)), some (.int (v_law_many)), some (.str (y3)), some (.str (s10)), some (.int (x6))] ∧ Sep H ([F] : List (Asn G))) hm (fun hb q hm nx => ?_) (fun hb q hm nx => ?_) (fun s10 σ H hm hI => ?_)
      ·
        refine c_aug rfl ?_
        refine ev_to ev_c ?_
        obtain ⟨h11, hm⟩ := R.wp_need hm
        refine ⟨_, _, rfl, rfl, h11, ?_⟩
        obtain ⟨y12, hy12, hm⟩ := wp_let hm
        refine n_is (w := (.str (y12))) (by rw [hy12]) ?_
        refine c_set (σ' := [some (.int (y9)), some (.int (v_law_many)), some (.str (y3)), some (.str (y12)), some (.int (x6))]) rfl ?_
        exact nx _ _ _ hm ⟨rfl, hS.sel [0] (by decide) rfl⟩
      ·
        refine f_if ?_
        refine et_to (et_test (ev_eqI (ev_mod (ev_fdiv (ev_var rfl) ev_c ⟨by decide, by decide⟩) ev_c (by decide)) ev_c)) ?_
        refine ifK_J (τ := Str) (fun (s13 : Str) (σ : L2.St) (H : Hp) => σ = [some (.int (y9)), some (.int (v_law_many)), some (.str (y3)), some (.str (s13)), some (.int (x6))] ∧ Sep H ([F] : List (Asn G))) hm (fun hb q hm nx => ?_) (fun hb q hm nx => ?_) (fun s13 σ H hm hI => ?_)
        ·
          refine c_aug rfl ?_
          obtain ⟨c14, hc14, hm⟩ := wp_idx hm
          refine ev_to (ev_ixS ev_c (ev_mod (ev_fdiv (ev_var rfl) ev_c ⟨by decide, by decide⟩) ev_c (by decide)) (by decide +kernel) hc14) ?_
          obtain ⟨h15, hm⟩ := R.wp_need hm
          refine ⟨_, _, rfl, rfl, h15, ?_⟩
          obtain ⟨y16, hy16, hm⟩ := wp_let hm
          refine n_is (w := (.str (y16))) (by rw [hy16]) ?_
          refine c_set (σ' := [some (.int (y9)), some (.int (v_law_many)), some (.str (y3)), some (.str (y16)), some (.int (x6))]) rfl ?_
          exact nx _ _ _ hm ⟨rfl, hS.sel [0] (by decide) rfl⟩
        ·
          refine c_aug rfl ?_
          obtain ⟨h17, hm⟩ := R.wp_need hm
          obtain ⟨c18, hc18, hm⟩ := wp_idx hm
          refine ev_to (ev_ixS (ev_var rfl) (ev_mod (ev_fdiv (ev_var rfl) ev_c ⟨by decide, by decide⟩) ev_c (by decide)) h17 hc18) ?_
          obtain ⟨h19, hm⟩ := R.wp_need hm
          refine ⟨_, _, rfl, rfl, h19, ?_⟩
          obtain ⟨y20, hy20, hm⟩ := wp_let hm
          refine n_is (w := (.str (y20))) (by rw [hy20]) ?_
          refine c_set (σ' := [some (.int (y9)), some (.int (v_law_many)), some (.str (y3)), some (.str (y20)), some (.int (x6))]) rfl ?_
          exact nx _ _ _ hm ⟨rfl, hS.sel [0] (by decide) rfl⟩
        · obtain ⟨rfl, hS⟩ := hI
          exact nx _ _ _ hm ⟨rfl, hS.sel [0] (by decide) rfl⟩
      · obtain ⟨rfl, hS⟩ := hI
        exact nx _ _ _ hm ⟨_, rfl, hS.sel [0] (by decide) rfl⟩
    · obtain ⟨w8, rfl, hS⟩ := hI
      refine sq_nx ?_
      refine c_ret ?_
      refine ev_to (ev_var rfl) ?_
      exact hm _ (hS.sel [0] (by decide) rfl)
def sp_law_parts (G : Gx) : Sp := fun vs H Q E => ∃ (a_v_law_row_here : Addr) (v_law_row_here : (List Int)) (v_law_base : Int) (F : Asn G), vs = [.ref a_v_law_row_here, (.int (v_law_base))] ∧ Sep H ([lstA a_v_law_row_here (v_law_row_here : (List Int)), F] : List (Asn G)) ∧ R.wp (m_law_parts v_law_row_here v_law_base) (fun r => ∀ (p : Addr) H', Sep H' ([imA (.ref p) (r : (T5 Str Str Str Int Str)), lstA a_v_law_row_here (v_law_row_here : (List Int)), F] : List (Asn G)) → Q (.ref p) H') (fun _ => False)
abbrev N_law_parts : List Str := ["_law_row_here", "_law_base", "_law_title", "_law_body", "_law_at", "_law_day", "_law_answers"]
theorem sc_law_parts : FnScope N_law_parts ["_law_row_here", "_law_base"] (defScope s_law_parts) := ⟨rfl, rfl, rfl, by decide +kernel, rfl, by decide +kernel, by decide +kernel⟩
theorem ok_law_parts (T : Txt G mg) : FnOk P w G.K mg base CX0 2 T.a_law_parts T.fd_law_parts ["_law_row_here", "_law_base"] (sp_law_parts G) := by
  have nd := sc_law_parts.nd
  refine Fun.ok T.F_law_parts sc_law_parts (fun vs H Q E h => ?_) (fun cdv A outer s H vs Q E hr h => ?_)
  · obtain ⟨a_v_law_row_here, v_law_row_here, v_law_base, F, rfl, _⟩ := h; rfl
  · obtain ⟨a_v_law_row_here, v_law_row_here, v_law_base, F, rfl, hS, hm⟩ := h
    refine ⟨_, (pss_cons (ps_set (i := 2) nd rfl (Or.inl rfl) (pe_call (ok_law_signs T) (hr.mono (by decide)) rfl T.g_law_signs T.kp_law_signs T.b_law_signs .nil pass0 (pa_cons (pe_ix (ix_listK G.K) (pe_fz (pv 0)) pe_int (fun _ _ => rfl)) (pa_cons (pe_op op_mod (pe_ix (ix_listK G.K) (pe_fz (pv 0)) pe_int (fun _ _ => rfl)) pe_int) pa_nil))))
      (pss_cons (ps_set (i := 3) nd rfl (Or.inl rfl) (pe_call (ok_law_signs T) (hr.mono (by decide)) rfl T.g_law_signs T.kp_law_signs T.b_law_signs .nil pass0 (pa_cons (pe_ix (ix_listK G.K) (pe_fz (pv 0)) pe_int (fun _ _ => rfl)) (pa_cons (pe_op op_mod (pe_ix (ix_listK G.K) (pe_fz (pv 0)) pe_int (fun _ _ => rfl)) (pe_ix (ix_listK G.K) (pe_fz (pe_lst (pa_cons pe_int (pa_cons pe_int (pa_cons pe_int pa_nil))))) (pe_op op_mod (pe_ix (ix_listK G.K) (pe_fz (pv 0)) pe_int (fun _ _ => rfl)) pe_int) (fun _ _ => rfl))) pa_nil))))
      (pss_cons (ps_if (pt_cmpR op_eq (pe_op op_mod (pe_ix (ix_listK G.K) (pe_fz (pv 0)) pe_int (fun _ _ => rfl)) pe_int) pe_int (nomark _)) (pss_cons (ps_set (i := 4) nd rfl (Or.inl rfl) (pe_op op_mod (pe_ix (ix_listK G.K) (pe_fz (pv 0)) pe_int (fun _ _ => rfl)) (pe_op op_add (pe_callB call_lenS (by rfl) T.z_len PySem.boot_len (pa_cons (pv 3) pa_nil)) pe_int)))
      (pss_one (ps_set (i := 3) nd rfl (Or.inl rfl) (pe_slice sl_str (pe_op op_catS (pe_op op_catS (pe_slice sl_str (pv 3) po_none (po_some (pv 4))) (pe_ix ix_str pe_str (pe_op op_mod (pe_op op_fdiv (pe_ix (ix_listK G.K) (pe_fz (pv 0)) pe_int (fun _ _ => rfl)) pe_int) pe_int) (fun _ _ => rfl))) (pe_slice sl_str (pv 3) (po_some (pv 4)) po_none)) po_none (po_some pe_int))))) pss_nil)
      (pss_cons (ps_if (pt_cmpR op_eq (pe_op op_mod (pe_ix (ix_listK G.K) (pe_fz (pv 0)) pe_int (fun _ _ => rfl)) pe_int) pe_int (nomark _)) (pss_cons (ps_set (i := 2) nd rfl (Or.inl rfl) (pe_op op_catS (pe_slice sl_str (pv 2) po_none (po_some pe_int)) (pe_slice sl_str (pv 2) po_none (po_some pe_int))))
      (pss_one (ps_set (i := 3) nd rfl (Or.inl rfl) (pe_slice sl_str (pe_op op_catS (pe_op op_catS (pv 2) pe_str) (pv 3)) po_none (po_some pe_int))))) pss_nil)
      (pss_cons (ps_if (pt_cmpR op_eq (pe_op op_mod (pe_ix (ix_listK G.K) (pe_fz (pv 0)) pe_int (fun _ _ => rfl)) pe_int) pe_int (nomark _)) (pss_one (ps_set (i := 2) nd rfl (Or.inl rfl) (pe_op op_catS (pe_op op_catS (pe_slice sl_str (pv 2) po_none (po_some pe_int)) pe_str) (pe_slice sl_str (pv 2) (po_some pe_int) (po_some pe_int))))) pss_nil)
      (pss_cons (ps_set (i := 5) nd rfl (Or.inl rfl) (pe_ix (ix_listK G.K) (pe_fz (pe_lst (pa_cons (pe_op op_mod (pe_ix (ix_listK G.K) (pe_fz (pv 0)) pe_int (fun _ _ => rfl)) pe_int) (pa_cons (pe_op op_mod (pe_ix (ix_listK G.K) (pe_fz (pv 0)) pe_int (fun _ _ => rfl)) pe_int) (pa_cons pe_int (pa_cons pe_int pa_nil)))))) (pe_op op_mod (pe_ix (ix_listK G.K) (pe_fz (pv 0)) pe_int (fun _ _ => rfl)) pe_int) (fun _ _ => rfl)))
      (pss_cons (ps_set (i := 6) nd rfl (Or.inl rfl) pe_str)
      (pss_cons (ps_if (pt_cmpR op_eq (pe_op op_mod (pe_ix (ix_listK G.K) (pe_fz (pv 0)) pe_int (fun _ _ => rfl)) pe_int) pe_int (nomark _)) (pss_one (ps_set (i := 6) nd rfl (Or.inl rfl) (pe_call (ok_law_word T) (hr.mono (by decide)) rfl T.g_law_word T.kp_law_word T.b_law_word .nil pass0 (pa_cons (pv 1) (pa_cons (pe_op op_mod (pe_op op_fdiv (pe_ix (ix_listK G.K) (pe_fz (pv 0)) pe_int (fun _ _ => rfl)) pe_int) pe_int) pa_nil))))) pss_nil)
      (pss_one (ps_ret (pe_tup (pa_cons (pe_call (ok_law_word T) (hr.mono (by decide)) rfl T.g_law_word T.kp_law_word T.b_law_word .nil pass0 (pa_cons (pv 1) (pa_cons (pe_op op_add pe_int (pe_op op_mod (pe_ix (ix_listK G.K) (pe_fz (pv 0)) pe_int (fun _ _ => rfl)) pe_int)) pa_nil))) (pa_cons (pv 2) (pa_cons (pv 3) (pa_cons (pv 5) (pa_cons (pv 6) pa_nil)))))))))))))))), ?_⟩
    unfold m_law_parts at hm
    refine f_seq ?_
    refine c_asg ?_
    refine c_call ?_
    obtain ⟨x1, hx1, hm⟩ := wp_idx hm
    obtain ⟨x2, hx2, hm⟩ := wp_idx hm
    refine ea_to (ea_cons (ev_ixSq (ev_fz (ev_var rfl)) ev_c (hS.sqF (i := 0) rfl) (atI_map hx1)) (ea_cons (ev_mod (ev_ixSq (ev_fz (ev_var rfl)) ev_c (hS.sqF (i := 0) rfl) (atI_map hx2)) ev_c (by decide)) ea_nil)) ?_
    refine ⟨x1, (x2 % 61), star [lstA a_v_law_row_here (v_law_row_here : (List Int)), F], rfl, Sep.unstar (M := []) (hS.sel [0, 1] (by decide) rfl : Sep H (([] ++ [lstA a_v_law_row_here (v_law_row_here : (List Int)), F] : List (Asn G)))), R.wp_mono (R.wp_bind hm) (fun r3 hm H hS => ?_) (fun _ z => z)⟩
    have hS : Sep H ([lstA a_v_law_row_here (v_law_row_here : (List Int)), F] : List (Asn G)) := Sep.star (M := []) hS
    refine c_set (σ' := [some (.ref a_v_law_row_here), some (.int (v_law_base)), some (.str (r3)), none, none, none, none]) rfl ?_
    refine sq_nx ?_
    refine f_seq ?_
    refine c_asg ?_
    refine c_call ?_
    refine c_cons ?_
    obtain ⟨x4, hx4, hm⟩ := wp_idx hm
    refine ev_to (ev_ixSq (ev_fz (ev_var rfl)) ev_c (hS.sqF (i := 0) rfl) (atI_map hx4)) ?_
    refine c_cons ?_
    refine c_op ?_
    obtain ⟨x5, hx5, hm⟩ := wp_idx hm
    refine ev_to (ev_ixSq (ev_fz (ev_var rfl)) ev_c (hS.sqF (i := 0) rfl) (atI_map hx5)) ?_
    refine c_op ?_
    refine c_fz ?_
    refine c_lst ?_
    refine ea_to (ea_cons ev_c (ea_cons ev_c (ea_cons ev_c ea_nil))) ?_
    refine k_lst (α := Int) (vs := [(.int (20)), (.int (20)), (.int (401))]) (xs := [20, 20, 401]) hS ⟨rfl, ⟨rfl, ⟨rfl, True.intro⟩⟩⟩ (by show 3 ≤ sizeLine; decide) fun p6 H hS => ?_
    refine fz_no ?_
    obtain ⟨x7, hx7, hm⟩ := wp_idx hm
    refine ev_to (ev_mod (ev_ixSq (ev_fz (ev_var rfl)) ev_c (hS.sqF (i := 1) rfl) (atI_map hx7)) ev_c (by decide)) ?_
    obtain ⟨x8, hx8, hm⟩ := wp_idx hm
    refine r_ixSq (hS.sqF (i := 0) rfl) (atI_map hx8) _ ?_
    obtain ⟨h9, hm⟩ := R.wp_need hm
    refine r_mod h9 ?_
    refine c_nil ?_
    refine ⟨x4, (x5 % x8), star [lstA p6 ([20, 20, 401] : (List Int)), lstA a_v_law_row_here (v_law_row_here : (List Int)), F], rfl, Sep.unstar (M := []) (hS.sel [0, 1, 2] (by decide) rfl : Sep H (([] ++ [lstA p6 ([20, 20, 401] : (List Int)), lstA a_v_law_row_here (v_law_row_here : (List Int)), F] : List (Asn G)))), R.wp_mono (R.wp_bind hm) (fun r10 hm H hS => ?_) (fun _ z => z)⟩
    have hS : Sep H ([lstA p6 ([20, 20, 401] : (List Int)), lstA a_v_law_row_here (v_law_row_here : (List Int)), F] : List (Asn G)) := Sep.star (M := []) hS
    refine c_set (σ' := [some (.ref a_v_law_row_here), some (.int (v_law_base)), some (.str (r3)), some (.str (r10)), none, none, none]) rfl ?_
    refine sq_nx ?_
    refine f_seq ?_
    refine f_if ?_
    obtain ⟨x11, hx11, hm⟩ := wp_idx hm
    refine et_to (et_test (ev_eqI (ev_mod (ev_ixSq (ev_fz (ev_var rfl)) ev_c (hS.sqF (i := 1) rfl) (atI_map hx11)) ev_c (by decide)) ev_c)) ?_
    refine ifK_J (τ := Str) (fun (s12 : Str) (σ : L2.St) (H : Hp) => ∃ (w13 : Option V), σ = [some (.ref a_v_law_row_here), some (.int (v_law_base)), some (.str (r3)), some (.str (s12)), w13, none, none] ∧ Sep H ([lstA p6 ([20, 20, 401] : (List Int)), lstA a_v_law_row_here (v_law_row_here : (List Int)), F] : List (Asn G))) hm (fun hb q hm nx => ?_) (fun hb q hm nx => ?_) (fun s12 σ H hm hI => ?_)
    ·
      refine f_seq ?_
      refine c_asg ?_
      obtain ⟨x14, hx14, hm⟩ := wp_idx hm
      obtain ⟨h15, hm⟩ := R.wp_need hm
      obtain ⟨h16, hm⟩ := R.wp_need hm
      refine ev_to (ev_mod (ev_ixSq (ev_fz (ev_var rfl)) ev_c (hS.sqF (i := 1) rfl) (atI_map hx14)) (ev_add (ev_lenS (ev_var rfl) h15) ev_c) h16) ?_
      obtain ⟨y17, hy17, hm⟩ := wp_let hm
      refine n_is (w := (.int (y17))) (by rw [hy17]) ?_
      refine c_set (σ' := [some (.ref a_v_law_row_here), some (.int (v_law_base)), some (.str (r3)), some (.str (r10)), some (.int (y17)), none, none]) rfl ?_
      refine sq_nx ?_
      refine c_asg ?_
      obtain ⟨h18, hm⟩ := R.wp_need hm
      obtain ⟨x19, hx19, hm⟩ := wp_idx hm
      obtain ⟨c20, hc20, hm⟩ := wp_idx hm
      obtain ⟨h21, hm⟩ := R.wp_need hm
      obtain ⟨h22, hm⟩ := R.wp_need hm
      obtain ⟨h23, hm⟩ := R.wp_need hm
      obtain ⟨h24, hm⟩ := R.wp_need hm
      refine ev_to (ev_slS (ev_catS (ev_catS (ev_slS (ev_var rfl) eo_no (eo_some (ev_var rfl)) h18) (ev_ixS ev_c (ev_mod (ev_fdiv (ev_ixSq (ev_fz (ev_var rfl)) ev_c (hS.sqF (i := 1) rfl) (atI_map hx19)) ev_c ⟨by decide, by decide⟩) ev_c (by decide)) (by decide +kernel) hc20) h21) (ev_slS (ev_var rfl) (eo_some (ev_var rfl)) eo_no h22) h23) eo_no (eo_some ev_c) h24) ?_
      obtain ⟨y25, hy25, hm⟩ := wp_let hm
      refine n_is (w := (.str (y25))) (by rw [hy25]) ?_
      refine c_set (σ' := [some (.ref a_v_law_row_here), some (.int (v_law_base)), some (.str (r3)), some (.str (y25)), some (.int (y17)), none, none]) rfl ?_
      exact nx _ _ _ hm ⟨_, rfl, hS.sel [0, 1, 2] (by decide) rfl⟩
    ·
      refine st_nx ?_
      exact nx _ _ _ hm ⟨_, rfl, hS.sel [0, 1, 2] (by decide) rfl⟩
    · obtain ⟨w13, rfl, hS⟩ := hI
      refine sq_nx ?_
      refine f_seq ?_
      refine f_if ?_
      obtain ⟨x26, hx26, hm⟩ := wp_idx hm
      refine et_to (et_test (ev_eqI (ev_mod (ev_ixSq (ev_fz (ev_var rfl)) ev_c (hS.sqF (i := 1) rfl) (atI_map hx26)) ev_c (by decide)) ev_c)) ?_
      refine ifK_J (τ := Str × Str) (fun (s27 : Str × Str) (σ : L2.St) (H : Hp) => σ = [some (.ref a_v_law_row_here), some (.int (v_law_base)), some (.str (s27.1)), some (.str (s27.2)), w13, none, none] ∧ Sep H ([lstA p6 ([20, 20, 401] : (List Int)), lstA a_v_law_row_here (v_law_row_here : (List Int)), F] : List (Asn G))) hm (fun hb q hm nx => ?_) (fun hb q hm nx => ?_) (fun s27 σ H hm hI => ?_)
      ·
        refine f_seq ?_
        refine c_asg ?_
        obtain ⟨h28, hm⟩ := R.wp_need hm
        obtain ⟨h29, hm⟩ := R.wp_need hm
        obtain ⟨h30, hm⟩ := R.wp_need hm
        refine ev_to (ev_catS (ev_slS (ev_var rfl) eo_no (eo_some ev_c) h28) (ev_slS (ev_var rfl) eo_no (eo_some ev_c) h29) h30) ?_
        obtain ⟨y31, hy31, hm⟩ := wp_let hm
        refine n_is (w := (.str (y31))) (by rw [hy31]) ?_
        refine c_set (σ' := [some (.ref a_v_law_row_here), some (.int (v_law_base)), some (.str (y31)), some (.str (s12)), w13, none, none]) rfl ?_
        refine sq_nx ?_
        refine c_asg ?_
        obtain ⟨h32, hm⟩ := R.wp_need hm
        revert hm; refine R.need_rev fun h33 hm => ?_
        revert hm; refine R.need_rev fun h34 hm => ?_
        refine ev_to (ev_slS (ev_catS (ev_catS (ev_var rfl) ev_c h32) (ev_var rfl) h33) eo_no (eo_some ev_c) h34) ?_
        obtain ⟨y35, hy35, hm⟩ := wp_let hm
        refine n_is (w := (.str (y35))) (by rw [hy35]) ?_
        refine c_set (σ' := [some (.ref a_v_law_row_here), some (.int (v_law_base)), some (.str (y31)), some (.str (y35)), w13, none, none]) rfl ?_
        exact nx _ _ _ hm ⟨rfl, hS.sel [0, 1, 2] (by decide) rfl⟩
      ·
        refine st_nx ?_
        exact nx _ _ _ hm ⟨rfl, hS.sel [0, 1, 2] (by decide) rfl⟩
      · obtain ⟨rfl, hS⟩ := hI
        refine sq_nx ?_
        refine f_seq ?_
        refine f_if ?_
        obtain ⟨x36, hx36, hm⟩ := wp_idx hm
        refine et_to (et_test (ev_eqI (ev_mod (ev_ixSq (ev_fz (ev_var rfl)) ev_c (hS.sqF (i := 1) rfl) (atI_map hx36)) ev_c (by decide)) ev_c)) ?_
        refine ifK_J (τ := Str) (fun (s37 : Str) (σ : L2.St) (H : Hp) => σ = [some (.ref a_v_law_row_here), some (.int (v_law_base)), some (.str (s37)), some (.str (s27.2)), w13, none, none] ∧ Sep H ([lstA p6 ([20, 20, 401] : (List Int)), lstA a_v_law_row_here (v_law_row_here : (List Int)), F] : List (Asn G))) hm (fun hb q hm nx => ?_) (fun hb q hm nx => ?_) (fun s37 σ H hm hI => ?_)
        ·
          refine c_asg ?_
          obtain ⟨h38, hm⟩ := R.wp_need hm
          obtain ⟨h39, hm⟩ := R.wp_need hm
          obtain ⟨h40, hm⟩ := R.wp_need hm
          revert hm; refine R.need_rev fun h41 hm => ?_
          refine ev_to (ev_catS (ev_catS (ev_slS (ev_var rfl) eo_no (eo_some ev_c) h38) ev_c h39) (ev_slS (ev_var rfl) (eo_some ev_c) (eo_some ev_c) h40) h41) ?_
          obtain ⟨y42, hy42, hm⟩ := wp_let hm
          refine n_is (w := (.str (y42))) (by rw [hy42]) ?_
          refine c_set (σ' := [some (.ref a_v_law_row_here), some (.int (v_law_base)), some (.str (y42)), some (.str (s27.2)), w13, none, none]) rfl ?_
          exact nx _ _ _ hm ⟨rfl, hS.sel [0, 1, 2] (by decide) rfl⟩
        ·
          refine st_nx ?_
          exact nx _ _ _ hm ⟨rfl, hS.sel [0, 1, 2] (by decide) rfl⟩
        · obtain ⟨rfl, hS⟩ := hI
          refine sq_nx ?_
          refine f_seq ?_
          refine c_asg ?_
          refine c_op ?_
          refine c_fz ?_
          refine c_lst ?_
          obtain ⟨x43, hx43, hm⟩ := wp_idx hm
          obtain ⟨x44, hx44, hm⟩ := wp_idx hm
          refine ea_to (ea_cons (ev_mod (ev_ixSq (ev_fz (ev_var rfl)) ev_c (hS.sqF (i := 1) rfl) (atI_map hx43)) ev_c (by decide)) (ea_cons (ev_mod (ev_ixSq (ev_fz (ev_var rfl)) ev_c (hS.sqF (i := 1) rfl) (atI_map hx44)) ev_c (by decide)) (ea_cons ev_c (ea_cons ev_c ea_nil)))) ?_
          refine k_lst (α := Int) (vs := [(.int (x43 % 10000)), (.int (x44 % 10)), (.int (0)), (.int (9999))]) (xs := [x43 % 10000, x44 % 10, 0, 9999]) hS ⟨rfl, ⟨rfl, ⟨rfl, ⟨rfl, True.intro⟩⟩⟩⟩ (by show 4 ≤ sizeLine; decide) fun p45 H hS => ?_
          refine fz_no ?_
          obtain ⟨x46, hx46, hm⟩ := wp_idx hm
          refine ev_to (ev_mod (ev_ixSq (ev_fz (ev_var rfl)) ev_c (hS.sqF (i := 2) rfl) (atI_map hx46)) ev_c (by decide)) ?_
          obtain ⟨x47, hx47, hm⟩ := wp_idx hm
          refine r_ixSq (hS.sqF (i := 0) rfl) (atI_map hx47) _ ?_
          refine c_set (σ' := [some (.ref a_v_law_row_here), some (.int (v_law_base)), some (.str (s37)), some (.str (s27.2)), w13, some (.int (x47)), none]) rfl ?_
          refine sq_nx ?_
          refine f_seq ?_
          refine c_asg ?_
          refine ev_to ev_c ?_
          refine c_set (σ' := [some (.ref a_v_law_row_here), some (.int (v_law_base)), some (.str (s37)), some (.str (s27.2)), w13, some (.int (x47)), some (.str (("" : Str)))]) rfl ?_
          refine sq_nx ?_
          refine f_seq ?_
          refine f_if ?_
          obtain ⟨x48, hx48, hm⟩ := wp_idx hm
          refine et_to (et_test (ev_eqI (ev_mod (ev_ixSq (ev_fz (ev_var rfl)) ev_c (hS.sqF (i := 2) rfl) (atI_map hx48)) ev_c (by decide)) ev_c)) ?_
          refine ifK_J (τ := Str) (fun (s49 : Str) (σ : L2.St) (H : Hp) => σ = [some (.ref a_v_law_row_here), some (.int (v_law_base)), some (.str (s37)), some (.str (s27.2)), w13, some (.int (x47)), some (.str (s49))] ∧ Sep H ([lstA p45 ([x43 % 10000, x44 % 10, 0, 9999] : (List Int)), lstA p6 ([20, 20, 401] : (List Int)), lstA a_v_law_row_here (v_law_row_here : (List Int)), F] : List (Asn G))) hm (fun hb q hm nx => ?_) (fun hb q hm nx => ?_) (fun s49 σ H hm hI => ?_)
          ·
            refine c_asg ?_
            refine c_call ?_
            obtain ⟨x50, hx50, hm⟩ := wp_idx hm
            refine ea_to (ea_cons (ev_var rfl) (ea_cons (ev_mod (ev_fdiv (ev_ixSq (ev_fz (ev_var rfl)) ev_c (hS.sqF (i := 2) rfl) (atI_map hx50)) ev_c ⟨by decide, by decide⟩) ev_c (by decide)) ea_nil)) ?_
            refine ⟨v_law_base, ((x50 / 2) % 9), star [lstA p45 ([x43 % 10000, x44 % 10, 0, 9999] : (List Int)), lstA p6 ([20, 20, 401] : (List Int)), lstA a_v_law_row_here (v_law_row_here : (List Int)), F], rfl, Sep.unstar (M := []) (hS.sel [0, 1, 2, 3] (by decide) rfl : Sep H (([] ++ [lstA p45 ([x43 % 10000, x44 % 10, 0, 9999] : (List Int)), lstA p6 ([20, 20, 401] : (List Int)), lstA a_v_law_row_here (v_law_row_here : (List Int)), F] : List (Asn G)))), R.wp_mono (R.wp_bind hm) (fun r51 hm H hS => ?_) (fun _ z => z)⟩
            have hS : Sep H ([lstA p45 ([x43 % 10000, x44 % 10, 0, 9999] : (List Int)), lstA p6 ([20, 20, 401] : (List Int)), lstA a_v_law_row_here (v_law_row_here : (List Int)), F] : List (Asn G)) := Sep.star (M := []) hS
            refine c_set (σ' := [some (.ref a_v_law_row_here), some (.int (v_law_base)), some (.str (s37)), some (.str (s27.2)), w13, some (.int (x47)), some (.str (r51))]) rfl ?_
            exact nx _ _ _ hm ⟨rfl, hS.sel [0, 1, 2, 3] (by decide) rfl⟩
          ·
            refine st_nx ?_
            exact nx _ _ _ hm ⟨rfl, hS.sel [0, 1, 2, 3] (by decide) rfl⟩
          · obtain ⟨rfl, hS⟩ := hI
            refine sq_nx ?_
            refine c_ret ?_
            refine c_tup ?_
            refine c_cons ?_
            refine c_call ?_
            obtain ⟨x52, hx52, hm⟩ := wp_idx hm
            refine ea_to (ea_cons (ev_var rfl) (ea_cons (ev_add ev_c (ev_mod (ev_ixSq (ev_fz (ev_var rfl)) ev_c (hS.sqF (i := 2) rfl) (atI_map hx52)) ev_c (by decide))) ea_nil)) ?_
            refine ⟨v_law_base, (9 + (x52 % 9)), star [lstA p45 ([x43 % 10000, x44 % 10, 0, 9999] : (List Int)), lstA p6 ([20, 20, 401] : (List Int)), lstA a_v_law_row_here (v_law_row_here : (List Int)), F], rfl, Sep.unstar (M := []) (hS.sel [0, 1, 2, 3] (by decide) rfl : Sep H (([] ++ [lstA p45 ([x43 % 10000, x44 % 10, 0, 9999] : (List Int)), lstA p6 ([20, 20, 401] : (List Int)), lstA a_v_law_row_here (v_law_row_here : (List Int)), F] : List (Asn G)))), R.wp_mono (R.wp_bind hm) (fun r53 hm H hS => ?_) (fun _ z => z)⟩
            have hS : Sep H ([lstA p45 ([x43 % 10000, x44 % 10, 0, 9999] : (List Int)), lstA p6 ([20, 20, 401] : (List Int)), lstA a_v_law_row_here (v_law_row_here : (List Int)), F] : List (Asn G)) := Sep.star (M := []) hS
            refine c_cons ?_
            refine ev_to (ev_var rfl) ?_
            refine c_cons ?_
            refine ev_to (ev_var rfl) ?_
            refine c_cons ?_
            refine ev_to (ev_var rfl) ?_
            refine c_cons ?_
            refine ev_to (ev_var rfl) ?_
            refine c_nil ?_
            refine k_tupP (x := ((⟨r53, s37, s27.2, x47, s49⟩ : T5 _ _ _ _ _) : (T5 Str Str Str Int Str))) hS (fun H' p h s => mk5 rfl rfl rfl rfl rfl h s) (by show 5 ≤ sizeLine; decide) fun p54 H hS => ?_
            exact hm _ _ (hS.sel [0, 3, 4] (by decide) rfl)
def sp_law_of_one_class (G : Gx) (p : Addr × Obj) : Sp := fun vs H Q E => ∃ (v_law_e : Exc) (F : Asn G), vs = [.ref p.1] ∧ ExB G [0, 1, 2, 3, 4, 5, 6] p v_law_e ∧ Sep H ([F] : List (Asn G)) ∧ R.wp (m_law_of_one_class v_law_e) (fun r => ∀ H', Sep H' ([F] : List (Asn G)) → Q (.bl (r)) H') (fun _ => False)
abbrev N_law_of_one_class : List Str := ["_law_e", "_law_found"]
theorem sc_law_of_one_class : FnScope N_law_of_one_class ["_law_e"] (defScope s_law_of_one_class) := ⟨rfl, rfl, rfl, by decide +kernel, rfl, by decide +kernel, by decide +kernel⟩
theorem ok_law_of_one_class (T : Txt G mg) : FnE P w G.K mg base 1 T.a_law_of_one_class T.fd_law_of_one_class ["_law_e"] (sp_law_of_one_class G) := by
  have nd := sc_law_of_one_class.nd
  refine Fun.okE T.F_law_of_one_class sc_law_of_one_class (fun p vs H Q E h => ?_) (fun cdv A outer s H vs Q E p hr h => ?_)
  · obtain ⟨v_law_e, F, rfl, _⟩ := h; rfl
  · obtain ⟨v_law_e, F, rfl, him_v_law_e, hS, hm⟩ := h
    refine ⟨_, (pss_cons (ps_set (i := 1) nd rfl (Or.inl rfl) (pe_fz (pe_lst (pa_cons (pe_callB (call_isP G.K (p := p) (by show _ ∈ [_]; exact List.mem_singleton.mpr rfl) (T.ec_ him_v_law_e.2.2) him_v_law_e.1 him_v_law_e.2.1) (by rfl) T.z_isinstance (by decide +kernel) (pa_cons (pv 0) (pa_cons (pe_glob (v := .ref (G.cl 1)) rfl T.g_NoWord rfl) pa_nil))) (pa_cons (pe_callB (call_isP G.K (p := p) (by show _ ∈ [_]; exact List.mem_singleton.mpr rfl) (T.ec_ him_v_law_e.2.2) him_v_law_e.1 him_v_law_e.2.1) (by rfl) T.z_isinstance (by decide +kernel) (pa_cons (pv 0) (pa_cons (pe_glob (v := .ref (G.cl 2)) rfl T.g_NoLetter rfl) pa_nil))) (pa_cons (pe_callB (call_isP G.K (p := p) (by show _ ∈ [_]; exact List.mem_singleton.mpr rfl) (T.ec_ him_v_law_e.2.2) him_v_law_e.1 him_v_law_e.2.1) (by rfl) T.z_isinstance (by decide +kernel) (pa_cons (pv 0) (pa_cons (pe_glob (v := .ref (G.cl 3)) rfl T.g_NoRule rfl) pa_nil))) (pa_cons (pe_callB (call_isP G.K (p := p) (by show _ ∈ [_]; exact List.mem_singleton.mpr rfl) (T.ec_ him_v_law_e.2.2) him_v_law_e.1 him_v_law_e.2.1) (by rfl) T.z_isinstance (by decide +kernel) (pa_cons (pv 0) (pa_cons (pe_glob (v := .ref (G.cl 4)) rfl T.g_NoName rfl) pa_nil))) pa_nil)))))))
      (pss_cons (ps_set (i := 1) nd rfl (Or.inl rfl) (pe_fz (pe_op op_cat (pe_fz (pv 1)) (pe_fz (pe_lst (pa_cons (pe_callB (call_isP G.K (p := p) (by show _ ∈ [_]; exact List.mem_singleton.mpr rfl) (T.ec_ him_v_law_e.2.2) him_v_law_e.1 him_v_law_e.2.1) (by rfl) T.z_isinstance (by decide +kernel) (pa_cons (pv 0) (pa_cons (pe_glob (v := .ref (G.cl 5)) rfl T.g_NoParcel rfl) pa_nil))) (pa_cons (pe_callB (call_isP G.K (p := p) (by show _ ∈ [_]; exact List.mem_singleton.mpr rfl) (T.ec_ him_v_law_e.2.2) him_v_law_e.1 him_v_law_e.2.1) (by rfl) T.z_isinstance (by decide +kernel) (pa_cons (pv 0) (pa_cons (pe_glob (v := .ref (G.cl 6)) rfl T.g_NoRow rfl) pa_nil))) pa_nil)))))))
      (pss_one (ps_ret (pe_and (pe_callB (call_isP G.K (p := p) (by show _ ∈ [_]; exact List.mem_singleton.mpr rfl) (T.ec_ him_v_law_e.2.2) him_v_law_e.1 him_v_law_e.2.1) (by rfl) T.z_isinstance (by decide +kernel) (pa_cons (pv 0) (pa_cons (pe_bltn (v := .ty "ValueError") (by rfl) T.z_ValueError (by decide +kernel) rfl) pa_nil))) (pe_one (pe_cmpR op_eq (pe_bmK G.K PySem.F.plainAttrs_list PySem.F.slot_list_count PySem.F.type_list_count (mt_countK G.K (huH hr)) (pe_fz (pv 1)) (pa_cons pe_bl pa_nil)) pe_int (nomark _)))))))), ?_⟩
    unfold m_law_of_one_class at hm
    refine f_seq ?_
    refine c_asg ?_
    refine c_fz ?_
    refine c_lst ?_
    refine ea_to (ea_cons (ev_isX (ev_var rfl) ev_c (.own _) (T.ki_NoWord him_v_law_e.2.2)) (ea_cons (ev_isX (ev_var rfl) ev_c (.own _) (T.ki_NoLetter him_v_law_e.2.2)) (ea_cons (ev_isX (ev_var rfl) ev_c (.own _) (T.ki_NoRule him_v_law_e.2.2)) (ea_cons (ev_isX (ev_var rfl) ev_c (.own _) (T.ki_NoName him_v_law_e.2.2)) ea_nil)))) ?_
    refine k_lst (α := Bool) (vs := [(.bl (([1] : List Nat).contains v_law_e.cls)), (.bl (([2] : List Nat).contains v_law_e.cls)), (.bl (([3] : List Nat).contains v_law_e.cls)), (.bl (([4] : List Nat).contains v_law_e.cls))]) (xs := [([1] : List Nat).contains v_law_e.cls, ([2] : List Nat).contains v_law_e.cls, ([3] : List Nat).contains v_law_e.cls, ([4] : List Nat).contains v_law_e.cls]) hS ⟨rfl, ⟨rfl, ⟨rfl, ⟨rfl, True.intro⟩⟩⟩⟩ (by show 4 ≤ sizeLine; decide) fun p1 H hS => ?_
    refine fz_no ?_
    obtain ⟨y2, hy2, hm⟩ := wp_let hm
    have hS : Sep H ([lstA p1 (y2 : (List Bool)), F] : List (Asn G)) := by rw [← hy2]; exact hS
    refine c_set (σ' := [some (.ref p.1), some (.ref p1)]) rfl ?_
    refine sq_nx ?_
    refine f_seq ?_
    refine c_asg ?_
    refine c_fz ?_
    refine c_op ?_
    refine ev_to (ev_fz (ev_var rfl)) ?_
    refine c_fz ?_
    refine c_lst ?_
    refine ea_to (ea_cons (ev_isX (ev_var rfl) ev_c (.own _) (T.ki_NoParcel him_v_law_e.2.2)) (ea_cons (ev_isX (ev_var rfl) ev_c (.own _) (T.ki_NoRow him_v_law_e.2.2)) ea_nil)) ?_
    refine k_lst (α := Bool) (vs := [(.bl (([5] : List Nat).contains v_law_e.cls)), (.bl (([6] : List Nat).contains v_law_e.cls))]) (xs := [([5] : List Nat).contains v_law_e.cls, ([6] : List Nat).contains v_law_e.cls]) hS ⟨rfl, ⟨rfl, True.intro⟩⟩ (by show 2 ≤ sizeLine; decide) fun p3 H hS => ?_
    refine fz_no ?_
    obtain ⟨h4, hm⟩ := R.wp_need hm
    refine k_cat hS (i := 1) (j := 0) rfl rfl h4 fun p5 H hS => ?_
    refine fz_no ?_
    obtain ⟨y6, hy6, hm⟩ := wp_let hm
    have hS : Sep H ([lstA p5 (y6 : (List Bool)), lstA p3 ([([5] : List Nat).contains v_law_e.cls, ([6] : List Nat).contains v_law_e.cls] : (List Bool)), lstA p1 (y2 : (List Bool)), F] : List (Asn G)) := by rw [← hy6]; exact hS
    refine c_set (σ' := [some (.ref p.1), some (.ref p5)]) rfl ?_
    refine sq_nx ?_
    refine c_ret ?_
    refine f_andV ?_
    refine ev_to (ev_isX (ev_var rfl) ev_c (.ty _) (T.ki_ValueError him_v_law_e.2.2)) ?_
    refine andVK_J hm hS (fun hb q hm nx => ?_) (fun b7 H hm hS => ?_)
    ·
      refine c_op ?_
      refine c_bm ?_
      refine ev_to (ev_fz (ev_var rfl)) ⟨tyL hS (i := 0) rfl, ?_⟩
      refine ea_to (ea_cons ev_c ea_nil) ?_
      obtain ⟨h8, hm⟩ := R.wp_need hm
      obtain ⟨h9, hm⟩ := R.wp_need hm
      refine k_count (xs := (y6 : (List Bool))) (x := true) (dpOwn hS (i := 0) rfl) (.bl _) h8 h9 (Nat.le_of_ble_eq_true rfl) (Nat.le_of_ble_eq_true rfl) ?_
      refine ev_to ev_c ?_
      refine ev_op2 (ev_eqI ev_c ev_c) ?_
      exact nx _ _ hm (hS.sel [0, 1, 2, 3] (by decide) rfl)
    ·
      exact hm _ (hS.sel [3] (by decide) rfl)
def sp_law_odd_word (G : Gx) : Sp := fun vs H Q E => ∃ (v_law_number : Int) (v_law_word_here : Str) (F : Asn G), vs = [(.int (v_law_number)), (.str (v_law_word_here))] ∧ Sep H ([F] : List (Asn G)) ∧ R.wp (m_law_odd_word v_law_number v_law_word_here) (fun r => ∀ (p : V) H', Sep H' ([imA p (r : Any), F] : List (Asn G)) → Q p H') (fun _ => False)
abbrev N_law_odd_word : List Str := ["_law_number", "_law_word_here", "_law_other", "_law_at", "_law_far", "_law_odd"]
theorem sc_law_odd_word : FnScope N_law_odd_word ["_law_number", "_law_word_here"] (defScope s_law_odd_word) := ⟨rfl, rfl, rfl, by decide +kernel, rfl, by decide +kernel, by decide +kernel⟩
theorem ok_law_odd_word (T : Txt G mg) : FnOk P w G.K mg base CX0 1 T.a_law_odd_word T.fd_law_odd_word ["_law_number", "_law_word_here"] (sp_law_odd_word G) := by
  have nd := sc_law_odd_word.nd
  refine Fun.ok T.F_law_odd_word sc_law_odd_word (fun vs H Q E h => ?_) (fun cdv A outer s H vs Q E hr h => ?_)
  · obtain ⟨v_law_number, v_law_word_here, F, rfl, _⟩ := h; rfl
  · obtain ⟨v_law_number, v_law_word_here, F, rfl, hS, hm⟩ := h
    refine ⟨_, (pss_cons (ps_set (i := 2) nd rfl (Or.inl rfl) (pe_ix ix_str pe_str (pe_op op_mod (pe_op op_fdiv (pv 0) pe_int) pe_int) (fun _ _ => rfl)))
      (pss_cons (ps_set (i := 3) nd rfl (Or.inl rfl) (pe_op op_mod (pe_op op_fdiv (pv 0) pe_int) (pe_callB call_lenS (by rfl) T.z_len PySem.boot_len (pa_cons (pv 1) pa_nil))))
      (pss_cons (ps_set (i := 4) nd rfl (Or.inl rfl) (pe_slice sl_str (pe_op op_catS (pv 1) pe_str) po_none (po_some pe_int)))
      (pss_cons (ps_set (i := 5) nd rfl (Or.inl rfl) (pe_op op_catS (pe_op op_catS (pe_slice sl_str (pv 1) po_none (po_some (pv 3))) (pv 2)) (pe_slice sl_str (pv 1) (po_some (pe_op op_add (pv 3) pe_int)) po_none)))
      (pss_one (ps_ret (pe_ix (ix_listK G.K) (pe_fz (pe_lst (pa_cons pe_str (pa_cons (pv 4) (pa_cons (pv 5) (pa_cons pe_non (pa_cons pe_int (pa_cons pe_bl (pa_cons (pe_fz (pe_lst (pa_cons (pv 1) pa_nil))) (pa_cons (pe_tup (pa_cons (pv 1) pa_nil)) (pa_cons pe_dnewK pa_nil))))))))))) (pe_op op_mod (pv 0) pe_int) (fun _ _ => rfl)))))))), ?_⟩
    unfold m_law_odd_word at hm
    refine f_seq ?_
    refine c_asg ?_
    obtain ⟨c1, hc1, hm⟩ := wp_idx hm
    refine ev_to (ev_ixS ev_c (ev_mod (ev_fdiv (ev_var rfl) ev_c ⟨by decide, by decide⟩) ev_c (by decide)) (by decide +kernel) hc1) ?_
    refine c_set (σ' := [some (.int (v_law_number)), some (.str (v_law_word_here)), some (.str (sg (c1))), none, none, none]) rfl ?_
    refine sq_nx ?_
    refine f_seq ?_
    refine c_asg ?_
    obtain ⟨h2, hm⟩ := R.wp_need hm
    obtain ⟨h3, hm⟩ := R.wp_need hm
    refine ev_to (ev_mod (ev_fdiv (ev_var rfl) ev_c ⟨by decide, by decide⟩) (ev_lenS (ev_var rfl) h2) h3) ?_
    obtain ⟨y4, hy4, hm⟩ := wp_let hm
    refine n_is (w := (.int (y4))) (by rw [hy4]) ?_
    refine c_set (σ' := [some (.int (v_law_number)), some (.str (v_law_word_here)), some (.str (sg (c1))), some (.int (y4)), none, none]) rfl ?_
    refine sq_nx ?_
    refine f_seq ?_
    refine c_asg ?_
    obtain ⟨h5, hm⟩ := R.wp_need hm
    revert hm; refine R.need_rev fun h6 hm => ?_
    refine ev_to (ev_slS (ev_catS (ev_var rfl) ev_c h5) eo_no (eo_some ev_c) h6) ?_
    obtain ⟨y7, hy7, hm⟩ := wp_let hm
    refine n_is (w := (.str (y7))) (by rw [hy7]) ?_
    refine c_set (σ' := [some (.int (v_law_number)), some (.str (v_law_word_here)), some (.str (sg (c1))), some (.int (y4)), some (.str (y7)), none]) rfl ?_
    refine sq_nx ?_
    refine f_seq ?_
    refine c_asg ?_
    obtain ⟨h8, hm⟩ := R.wp_need hm
    obtain ⟨h9, hm⟩ := R.wp_need hm
    obtain ⟨h10, hm⟩ := R.wp_need hm
    obtain ⟨h11, hm⟩ := R.wp_need hm
    refine ev_to (ev_catS (ev_catS (ev_slS (ev_var rfl) eo_no (eo_some (ev_var rfl)) h8) (ev_var rfl) h9) (ev_slS (ev_var rfl) (eo_some (ev_add (ev_var rfl) ev_c)) eo_no h10) h11) ?_
    obtain ⟨y12, hy12, hm⟩ := wp_let hm
    refine n_is (w := (.str (y12))) (by rw [hy12]) ?_
    refine c_set (σ' := [some (.int (v_law_number)), some (.str (v_law_word_here)), some (.str (sg (c1))), some (.int (y4)), some (.str (y7)), some (.str (y12))]) rfl ?_
    refine sq_nx ?_
    refine c_ret ?_
    refine c_op ?_
    refine c_fz ?_
    refine c_lst ?_
    refine c_cons ?_
    refine ev_to ev_c ?_
    refine c_cons ?_
    refine ev_to (ev_var rfl) ?_
    refine c_cons ?_
    refine ev_to (ev_var rfl) ?_
    refine c_cons ?_
    refine ev_to ev_c ?_
    refine c_cons ?_
    refine ev_to ev_c ?_
    refine c_cons ?_
    refine ev_to ev_c ?_
    refine c_cons ?_
    refine c_fz ?_
    refine c_lst ?_
    refine ea_to (ea_cons (ev_var rfl) ea_nil) ?_
    refine k_lst (α := Str) (vs := [(.str (v_law_word_here))]) (xs := [v_law_word_here]) hS ⟨rfl, True.intro⟩ (by show 1 ≤ sizeLine; decide) fun p13 H hS => ?_
    refine fz_yes (xs := ([v_law_word_here] : (List Str))) hS (i := 0) rfl fun H hS => ?_
    have hS : Sep H ([imA (.ref p13) ([v_law_word_here] : (List Str)), F] : List (Asn G)) := hS
    refine c_cons ?_
    refine c_tup ?_
    refine ea_to (ea_cons (ev_var rfl) ea_nil) ?_
    refine k_tupA (vs := [(.str (v_law_word_here))]) (xs := [(Any.str v_law_word_here)]) hS ⟨(any_str.mpr rfl), True.intro⟩ (by show 1 ≤ sizeLine; decide) fun p15 H hS => ?_
    refine c_cons ?_
    refine k_dnew (κ := Str) (β := Bool) hS fun p17 H hS => ?_
    refine c_nil ?_
    refine k_lst (α := Any) (vs := [(.str (("" : Str))), (.str (y7)), (.str (y12)), .non, (.int (7)), (.bl (true)), (.ref p13), (.ref p15), (.ref p17)]) (xs := [(Any.str ("" : Str)), (Any.str y7), (Any.str y12), Any.non, (Any.int 7), (Any.bl true), (Any.lst (([v_law_word_here]).map Any.str)), (Any.tup [(Any.str v_law_word_here)]), (Any.oth 1)]) hS ⟨(any_str.mpr rfl), ⟨(any_str.mpr rfl), ⟨(any_str.mpr rfl), ⟨(any_non.mpr rfl), ⟨(any_int.mpr rfl), ⟨(any_bl.mpr rfl), ⟨(any_lstS (hS.im (i := 2) rfl)), ⟨(hS.im (i := 1) rfl), ⟨(any_dict hS (i := 0) rfl), True.intro⟩⟩⟩⟩⟩⟩⟩⟩⟩ (by show 9 ≤ sizeLine; decide) fun p18 H hS => ?_
    refine fz_no ?_
    refine ev_to (ev_mod (ev_var rfl) ev_c (by decide)) ?_
    obtain ⟨x19, hx19, hm⟩ := wp_idx hm
    obtain ⟨vs20, hq21, hM22⟩ := hS.sq (i := 0) rfl
    obtain ⟨u23, hu24, hi25⟩ := atI_im hM22 hx19
    refine r_ixSq hq21 hu24 _ ?_
    have hS := hS.addIm (v := u23) (x := (x19 : Any)) hi25
    exact hm _ _ (hS.sel [0, 5] (by decide) rfl)
def sp_law_odd_title (G : Gx) : Sp := fun vs H Q E => ∃ (v_law_number : Int) (v_law_title : Str) (F : Asn G), vs = [(.int (v_law_number)), (.str (v_law_title))] ∧ Sep H ([F] : List (Asn G)) ∧ R.wp (m_law_odd_title v_law_number v_law_title) (fun r => ∀ (p : V) H', Sep H' ([imA p (r : Any), F] : List (Asn G)) → Q p H') (fun _ => False)
abbrev N_law_odd_title : List Str := ["_law_number", "_law_title", "_law_at", "_law_far", "_law_lined"]
theorem sc_law_odd_title : FnScope N_law_odd_title ["_law_number", "_law_title"] (defScope s_law_odd_title) := ⟨rfl, rfl, rfl, by decide +kernel, rfl, by decide +kernel, by decide +kernel⟩
theorem ok_law_odd_title (T : Txt G mg) : FnOk P w G.K mg base CX0 1 T.a_law_odd_title T.fd_law_odd_title ["_law_number", "_law_title"] (sp_law_odd_title G) := by
  have nd := sc_law_odd_title.nd
  refine Fun.ok T.F_law_odd_title sc_law_odd_title (fun vs H Q E h => ?_) (fun cdv A outer s H vs Q E hr h => ?_)
  · obtain ⟨v_law_number, v_law_title, F, rfl, _⟩ := h; rfl
  · obtain ⟨v_law_number, v_law_title, F, rfl, hS, hm⟩ := h
    refine ⟨_, (pss_cons (ps_set (i := 2) nd rfl (Or.inl rfl) (pe_op op_mod (pe_op op_fdiv (pv 0) pe_int) (pe_op op_add (pe_callB call_lenS (by rfl) T.z_len PySem.boot_len (pa_cons (pv 1) pa_nil)) pe_int)))
      (pss_cons (ps_set (i := 3) nd rfl (Or.inl rfl) (pe_op op_catS (pe_slice sl_str (pe_op op_catS (pv 1) (pe_op op_repS pe_str pe_int)) po_none (po_some pe_int)) (pe_op op_repS pe_str (pe_op op_mod (pe_op op_fdiv (pv 0) pe_int) pe_int))))
      (pss_cons (ps_set (i := 4) nd rfl (Or.inl rfl) (pe_op op_catS (pe_op op_catS (pe_slice sl_str (pe_slice sl_str (pv 1) po_none (po_some (pv 2))) po_none (po_some pe_int)) pe_str) (pe_slice sl_str (pe_slice sl_str (pv 1) (po_some (pv 2)) po_none) po_none (po_some pe_int))))
      (pss_one (ps_ret (pe_ix (ix_listK G.K) (pe_fz (pe_lst (pa_cons (pv 3) (pa_cons (pv 4) (pa_cons pe_non (pa_cons pe_int (pa_cons (pe_fz (pe_lst pa_nil)) (pa_cons (pe_tup (pa_cons pe_str pa_nil)) (pa_cons pe_dnewK (pa_cons (pe_fz (pe_lst (pa_cons pe_str pa_nil))) pa_nil)))))))))) (pe_op op_mod (pv 0) pe_int) (fun _ _ => rfl))))))), ?_⟩
    unfold m_law_odd_title at hm
    refine f_seq ?_
    refine c_asg ?_
    obtain ⟨h1, hm⟩ := R.wp_need hm
    obtain ⟨h2, hm⟩ := R.wp_need hm
    refine ev_to (ev_mod (ev_fdiv (ev_var rfl) ev_c ⟨by decide, by decide⟩) (ev_add (ev_lenS (ev_var rfl) h1) ev_c) h2) ?_
    obtain ⟨y3, hy3, hm⟩ := wp_let hm
    refine n_is (w := (.int (y3))) (by rw [hy3]) ?_
    refine c_set (σ' := [some (.int (v_law_number)), some (.str (v_law_title)), some (.int (y3)), none, none]) rfl ?_
    refine sq_nx ?_
    refine f_seq ?_
    refine c_asg ?_
    obtain ⟨h4, hm⟩ := R.wp_need hm
    obtain ⟨h5, hm⟩ := R.wp_need hm
    revert hm; refine R.need_rev fun h6 hm => ?_
    obtain ⟨h7, hm⟩ := R.wp_need hm
    revert hm; refine R.need_rev fun h8 hm => ?_
    refine ev_to (ev_catS (ev_slS (ev_catS (ev_var rfl) (ev_repS ev_c ev_c h4) h5) eo_no (eo_some ev_c) h6) (ev_repS ev_c (ev_mod (ev_fdiv (ev_var rfl) ev_c ⟨by decide, by decide⟩) ev_c (by decide)) h7) h8) ?_
    obtain ⟨y9, hy9, hm⟩ := wp_let hm
    refine n_is (w := (.str (y9))) (by rw [hy9]) ?_
    refine c_set (σ' := [some (.int (v_law_number)), some (.str (v_law_title)), some (.int (y3)), some (.str (y9)), none]) rfl ?_
    refine sq_nx ?_
    refine f_seq ?_
    refine c_asg ?_
    obtain ⟨h10, hm⟩ := R.wp_need hm
    obtain ⟨h11, hm⟩ := R.wp_need hm
    obtain ⟨h12, hm⟩ := R.wp_need hm
    obtain ⟨h13, hm⟩ := R.wp_need hm
    obtain ⟨h14, hm⟩ := R.wp_need hm
    revert hm; refine R.need_rev fun h15 hm => ?_
    refine ev_to (ev_catS (ev_catS (ev_slS (ev_slS (ev_var rfl) eo_no (eo_some (ev_var rfl)) h10) eo_no (eo_some ev_c) h11) ev_c h12) (ev_slS (ev_slS (ev_var rfl) (eo_some (ev_var rfl)) eo_no h13) eo_no (eo_some ev_c) h14) h15) ?_
    obtain ⟨y16, hy16, hm⟩ := wp_let hm
    refine n_is (w := (.str (y16))) (by rw [hy16]) ?_
    refine c_set (σ' := [some (.int (v_law_number)), some (.str (v_law_title)), some (.int (y3)), some (.str (y9)), some (.str (y16))]) rfl ?_
    refine sq_nx ?_
    refine c_ret ?_
    refine c_op ?_
    refine c_fz ?_
    refine c_lst ?_
    refine c_cons ?_
    refine ev_to (ev_var rfl) ?_
    refine c_cons ?_
    refine ev_to (ev_var rfl) ?_
    refine c_cons ?_
    refine ev_to ev_c ?_
    refine c_cons ?_
    refine ev_to ev_c ?_
    refine c_cons ?_
    refine c_fz ?_
    refine c_lst ?_
    refine ea_to ea_nil ?_
    refine k_lst (α := Str) (vs := []) (xs := ([] : (List Str))) hS True.intro (by show 0 ≤ sizeLine; decide) fun p17 H hS => ?_
    refine fz_yes (xs := (([] : (List Str)) : (List Str))) hS (i := 0) rfl fun H hS => ?_
    have hS : Sep H ([imA (.ref p17) (([] : (List Str)) : (List Str)), F] : List (Asn G)) := hS
    refine c_cons ?_
    refine c_tup ?_
    refine ea_to (ea_cons ev_c ea_nil) ?_
    refine k_tupA (vs := [(.str (("x" : Str)))]) (xs := [(Any.str ("x" : Str))]) hS ⟨(any_str.mpr rfl), True.intro⟩ (by show 1 ≤ sizeLine; decide) fun p19 H hS => ?_
    refine c_cons ?_
    refine k_dnew (κ := Str) (β := Bool) hS fun p21 H hS => ?_
    refine c_cons ?_
    refine c_fz ?_
    refine c_lst ?_
    refine ea_to (ea_cons ev_c ea_nil) ?_
    refine k_lst (α := Str) (vs := [(.str (("x" : Str)))]) (xs := [("x" : Str)]) hS ⟨rfl, True.intro⟩ (by show 1 ≤ sizeLine; decide) fun p22 H hS => ?_
    refine fz_yes (xs := ([("x" : Str)] : (List Str))) hS (i := 0) rfl fun H hS => ?_
    have hS : Sep H ([imA (.ref p22) ([("x" : Str)] : (List Str)), dictA p21 (([] : (List (Str × Bool))) : (List (Str × Bool))), imA (.ref p19) ((Any.tup [(Any.str ("x" : Str))]) : Any), imA (.ref p17) (([] : (List Str)) : (List Str)), F] : List (Asn G)) := hS
    refine c_nil ?_
    refine k_lst (α := Any) (vs := [(.str (y9)), (.str (y16)), .non, (.int (5)), (.ref p17), (.ref p19), (.ref p21), (.ref p22)]) (xs := [(Any.str y9), (Any.str y16), Any.non, (Any.int 5), (Any.lst (([] : (List Str)).map Any.str)), (Any.tup [(Any.str ("x" : Str))]), (Any.oth 1), (Any.lst (([("x" : Str)]).map Any.str))]) hS ⟨(any_str.mpr rfl), ⟨(any_str.mpr rfl), ⟨(any_non.mpr rfl), ⟨(any_int.mpr rfl), ⟨(any_lstS (hS.im (i := 3) rfl)), ⟨(hS.im (i := 2) rfl), ⟨(any_dict hS (i := 1) rfl), ⟨(any_lstS (hS.im (i := 0) rfl)), True.intro⟩⟩⟩⟩⟩⟩⟩⟩ (by show 8 ≤ sizeLine; decide) fun p24 H hS => ?_
    refine fz_no ?_
    refine ev_to (ev_mod (ev_var rfl) ev_c (by decide)) ?_
    obtain ⟨x25, hx25, hm⟩ := wp_idx hm
    obtain ⟨vs26, hq27, hM28⟩ := hS.sq (i := 0) rfl
    obtain ⟨u29, hu30, hi31⟩ := atI_im hM28 hx25
    refine r_ixSq hq27 hu30 _ ?_
    have hS := hS.addIm (v := u29) (x := (x25 : Any)) hi31
    exact hm _ _ (hS.sel [0, 6] (by decide) rfl)
def sp_law_odd_parts (G : Gx) : Sp := fun vs H Q E => ∃ (v_law_number : Int) (a_v_law_parts_here : Addr) (v_law_parts_here : (T5 Str Str Str Int Str)) (F : Asn G), vs = [(.int (v_law_number)), (.ref a_v_law_parts_here)] ∧ Im.im G H (.ref a_v_law_parts_here) v_law_parts_here ∧ Sep H ([F] : List (Asn G)) ∧ R.wp (m_law_odd_parts v_law_number v_law_parts_here) (fun r => ∀ (p : V) H', Sep H' ([imA p (r : Any), F] : List (Asn G)) → Q p H') (fun _ => False)
abbrev N_law_odd_parts : List Str := ["_law_number", "_law_parts_here", "_law_which", "_law_more", "_law_far", "_law_days", "_law_odd"]
theorem sc_law_odd_parts : FnScope N_law_odd_parts ["_law_number", "_law_parts_here"] (defScope s_law_odd_parts) := ⟨rfl, rfl, rfl, by decide +kernel, rfl, by decide +kernel, by decide +kernel⟩
theorem ok_law_odd_parts (T : Txt G mg) : FnOk P w G.K mg base CX0 2 T.a_law_odd_parts T.fd_law_odd_parts ["_law_number", "_law_parts_here"] (sp_law_odd_parts G) := by
  have nd := sc_law_odd_parts.nd
  refine Fun.ok T.F_law_odd_parts sc_law_odd_parts (fun vs H Q E h => ?_) (fun cdv A outer s H vs Q E hr h => ?_)
  · obtain ⟨v_law_number, a_v_law_parts_here, v_law_parts_here, F, rfl, _⟩ := h; rfl
  · obtain ⟨v_law_number, a_v_law_parts_here, v_law_parts_here, F, rfl, him_v_law_parts_here, hS, hm⟩ := h
    have hS := hS.addIm him_v_law_parts_here
    refine ⟨_, (pss_cons (ps_set (i := 2) nd rfl (Or.inl rfl) (pe_op op_mod (pv 0) pe_int))
      (pss_cons (ps_set (i := 3) nd rfl (Or.inl rfl) (pe_op op_fdiv (pv 0) pe_int))
      (pss_cons (ps_if (pt_cmpR op_eq (pv 2) pe_int (nomark _)) (pss_one (ps_ret (pe_op (catTK G.K) (pe_tup (pa_cons (pe_call (ok_law_odd_word T) (hr.mono (by decide)) rfl T.g_law_odd_word T.kp_law_odd_word T.b_law_odd_word .nil pass0 (pa_cons (pv 3) (pa_cons (pe_ix (ix_tupK G.K) (pv 1) pe_int (fun _ _ => rfl)) pa_nil))) pa_nil)) (pe_slice (sl_tupK G.K) (pv 1) (po_some pe_int) po_none)))) pss_nil)
      (pss_cons (ps_if (pt_cmpR op_eq (pv 2) pe_int (nomark _)) (pss_one (ps_ret (pe_op (catTK G.K) (pe_op (catTK G.K) (pe_slice (sl_tupK G.K) (pv 1) po_none (po_some pe_int)) (pe_tup (pa_cons (pe_call (ok_law_odd_title T) (hr.mono (by decide)) rfl T.g_law_odd_title T.kp_law_odd_title T.b_law_odd_title .nil pass0 (pa_cons (pv 3) (pa_cons (pe_ix (ix_tupK G.K) (pv 1) pe_int (fun _ _ => rfl)) pa_nil))) pa_nil))) (pe_slice (sl_tupK G.K) (pv 1) (po_some pe_int) po_none)))) pss_nil)
      (pss_cons (ps_if (pt_cmpR op_eq (pv 2) pe_int (nomark _)) (pss_cons (ps_set (i := 4) nd rfl (Or.inl rfl) (pe_slice sl_str (pe_op op_catS (pe_ix (ix_tupK G.K) (pv 1) pe_int (fun _ _ => rfl)) (pe_op op_repS pe_str pe_int)) po_none (po_some pe_int)))
      (pss_one (ps_ret (pe_op (catTK G.K) (pe_op (catTK G.K) (pe_slice (sl_tupK G.K) (pv 1) po_none (po_some pe_int)) (pe_tup (pa_cons (pe_ix (ix_listK G.K) (pe_fz (pe_lst (pa_cons (pv 4) (pa_cons pe_non (pa_cons pe_int (pa_cons (pe_op op_repS pe_str pe_int) (pa_cons (pe_fz (pe_lst pa_nil)) (pa_cons (pe_tup (pa_cons pe_str pa_nil)) (pa_cons pe_dnewK (pa_cons (pe_fz (pe_lst (pa_cons pe_str pa_nil))) pa_nil)))))))))) (pe_op op_mod (pv 3) pe_int) (fun _ _ => rfl)) pa_nil))) (pe_slice (sl_tupK G.K) (pv 1) (po_some pe_int) po_none))))) pss_nil)
      (pss_cons (ps_if (pt_cmpR op_eq (pv 2) pe_int (nomark _)) (pss_cons (ps_set (i := 5) nd rfl (Or.inl rfl) (pe_fz (pe_lst (pa_cons (pe_un un_neg pe_int) (pa_cons pe_int (pa_cons pe_bl (pa_cons pe_str (pa_cons pe_non (pa_cons (pe_op op_sub (pe_un un_neg pe_int) (pe_op op_mod (pe_op op_fdiv (pv 3) pe_int) pe_int)) (pa_cons (pe_op op_add pe_int (pv 3)) (pa_cons (pe_fz (pe_lst (pa_cons pe_int pa_nil))) (pa_cons (pe_tup (pa_cons pe_int pa_nil)) (pa_cons pe_dnewK (pa_cons (pe_fz (pe_lst pa_nil)) pa_nil))))))))))))))
      (pss_one (ps_ret (pe_op (catTK G.K) (pe_op (catTK G.K) (pe_slice (sl_tupK G.K) (pv 1) po_none (po_some pe_int)) (pe_tup (pa_cons (pe_ix (ix_listK G.K) (pe_fz (pv 5)) (pe_op op_mod (pv 3) pe_int) (fun _ _ => rfl)) pa_nil))) (pe_slice (sl_tupK G.K) (pv 1) (po_some pe_int) po_none))))) pss_nil)
      (pss_cons (ps_set (i := 6) nd rfl (Or.inl rfl) (pe_call (ok_law_odd_word T) (hr.mono (by decide)) rfl T.g_law_odd_word T.kp_law_odd_word T.b_law_odd_word .nil pass0 (pa_cons (pv 3) (pa_cons pe_str pa_nil))))
      (pss_cons (ps_if (pt_cmpR (eqXK G.K hr.units) (pv 6) pe_str (nomark _)) (pss_one (ps_set (i := 6) nd rfl (Or.inl rfl) pe_str)) pss_nil)
      (pss_one (ps_ret (pe_op (catTK G.K) (pe_slice (sl_tupK G.K) (pv 1) po_none (po_some pe_int)) (pe_tup (pa_cons (pv 6) pa_nil))))))))))))), ?_⟩
    unfold m_law_odd_parts at hm
    refine f_seq ?_
    refine c_asg ?_
    refine ev_to (ev_mod (ev_var rfl) ev_c (by decide)) ?_
    obtain ⟨y1, hy1, hm⟩ := wp_let hm
    refine n_is (w := (.int (y1))) (by rw [hy1]) ?_
    refine c_set (σ' := [some (.int (v_law_number)), some (.ref a_v_law_parts_here), some (.int (y1)), none, none, none, none]) rfl ?_
    refine sq_nx ?_
    refine f_seq ?_
    refine c_asg ?_
    refine ev_to (ev_fdiv (ev_var rfl) ev_c ⟨by decide, by decide⟩) ?_
    obtain ⟨y2, hy2, hm⟩ := wp_let hm
    refine n_is (w := (.int (y2))) (by rw [hy2]) ?_
    refine c_set (σ' := [some (.int (v_law_number)), some (.ref a_v_law_parts_here), some (.int (y1)), some (.int (y2)), none, none, none]) rfl ?_
    refine sq_nx ?_
    refine f_seq ?_
    refine f_if ?_
    refine et_to (et_test (ev_eqI (ev_var rfl) ev_c)) ?_
    obtain ⟨hy, hn⟩ := R.wp_if hm
    refine ifK_2 (fun hb3 => ?_) (fun hb3 => ?_)
    · have hm := hy hb3
      refine c_ret ?_
      refine c_op ?_
      refine c_tup ?_
      refine c_cons ?_
      refine c_call ?_
      obtain ⟨u4, u5, u6, u7, u8, hT14, h9, h10, h11, h12, h13⟩ := im5 (hS.im (i := 0) rfl)
      obtain rfl : u4 = (.str (v_law_parts_here.a)) := h9
      obtain rfl : u5 = (.str (v_law_parts_here.b)) := h10
      obtain rfl : u6 = (.str (v_law_parts_here.c)) := h11
      obtain rfl : u7 = (.int (v_law_parts_here.d)) := h12
      obtain rfl : u8 = (.str (v_law_parts_here.e)) := h13
      refine ea_to (ea_cons (ev_var rfl) (ea_cons (ev_ixT (ev_var rfl) ev_c hT14 rfl) ea_nil)) ?_
      refine ⟨y2, v_law_parts_here.a, star [imA (.ref a_v_law_parts_here) (v_law_parts_here : (T5 Str Str Str Int Str)), F], rfl, Sep.unstar (M := []) (hS.sel [0, 1] (by decide) rfl : Sep H (([] ++ [imA (.ref a_v_law_parts_here) (v_law_parts_here : (T5 Str Str Str Int Str)), F] : List (Asn G)))), R.wp_mono (R.wp_bind hm) (fun r15 hm p16 H hS => ?_) (fun _ z => z)⟩
      have hS : Sep H ([imA p16 (r15 : Any), imA (.ref a_v_law_parts_here) (v_law_parts_here : (T5 Str Str Str Int Str)), F] : List (Asn G)) := Sep.star (M := [imA p16 (r15 : Any)]) hS
      refine c_nil ?_
      refine k_tupP (x := ((⟨r15⟩ : T1 _) : (T1 Any))) hS (fun H' p h s => mk1 (hS.im (i := 0) rfl) h s) (by show 1 ≤ sizeLine; decide) fun p18 H hS => ?_
      refine c_sl ?_
      refine ev_to (ev_var rfl) ?_
      obtain ⟨u20, u21, u22, u23, u24, hT30, h25, h26, h27, h28, h29⟩ := im5 (hS.im (i := 2) rfl)
      obtain rfl : u20 = (.str (v_law_parts_here.a)) := h25
      obtain rfl : u21 = (.str (v_law_parts_here.b)) := h26
      obtain rfl : u22 = (.str (v_law_parts_here.c)) := h27
      obtain rfl : u23 = (.int (v_law_parts_here.d)) := h28
      obtain rfl : u24 = (.str (v_law_parts_here.e)) := h29
      refine eo_to (eo_some ev_c) ?_
      refine eo_to eo_no ?_
      refine k_slT (x := ((⟨v_law_parts_here.b, v_law_parts_here.c, v_law_parts_here.d, v_law_parts_here.e⟩ : T4 _ _ _ _) : (T4 Str Str Int Str))) hS hT30 rfl (by show ¬ (HT.sIx 5 0 (some (1)) = 0 ∧ HT.sIx 5 5 none = 5); decide) (fun H' p h s => mk4 rfl rfl rfl rfl h s) fun p31 H hS => ?_
      obtain ⟨u33, hT35, h34⟩ := im1 (hS.im (i := 1) rfl)
      obtain ⟨u36, u37, u38, u39, hT44, h40, h41, h42, h43⟩ := im4 (hS.im (i := 0) rfl)
      obtain rfl : u36 = (.str ((⟨v_law_parts_here.b, v_law_parts_here.c, v_law_parts_here.d, v_law_parts_here.e⟩ : T4 _ _ _ _).a)) := h40
      obtain rfl : u37 = (.str ((⟨v_law_parts_here.b, v_law_parts_here.c, v_law_parts_here.d, v_law_parts_here.e⟩ : T4 _ _ _ _).b)) := h41
      obtain rfl : u38 = (.int ((⟨v_law_parts_here.b, v_law_parts_here.c, v_law_parts_here.d, v_law_parts_here.e⟩ : T4 _ _ _ _).c)) := h42
      obtain rfl : u39 = (.str ((⟨v_law_parts_here.b, v_law_parts_here.c, v_law_parts_here.d, v_law_parts_here.e⟩ : T4 _ _ _ _).d)) := h43
      refine k_catT (x := ((⟨(⟨r15⟩ : T1 _).a, (⟨v_law_parts_here.b, v_law_parts_here.c, v_law_parts_here.d, v_law_parts_here.e⟩ : T4 _ _ _ _).a, (⟨v_law_parts_here.b, v_law_parts_here.c, v_law_parts_here.d, v_law_parts_here.e⟩ : T4 _ _ _ _).b, (⟨v_law_parts_here.b, v_law_parts_here.c, v_law_parts_here.d, v_law_parts_here.e⟩ : T4 _ _ _ _).c, (⟨v_law_parts_here.b, v_law_parts_here.c, v_law_parts_here.d, v_law_parts_here.e⟩ : T4 _ _ _ _).d⟩ : T5 _ _ _ _ _) : (T5 Any Str Str Int Str))) hS hT35 hT44 (fun z => nomatch z) (fun z => nomatch z) (fun H' p h s => mk5 h34 rfl rfl rfl rfl h s) (by show 5 ≤ sizeLine; decide) fun p45 H hS => ?_
      obtain ⟨u47, u48, u49, u50, u51, hT57, h52, h53, h54, h55, h56⟩ := im5 (hS.im (i := 0) rfl)
      obtain rfl : u48 = (.str ((⟨(⟨r15⟩ : T1 _).a, (⟨v_law_parts_here.b, v_law_parts_here.c, v_law_parts_here.d, v_law_parts_here.e⟩ : T4 _ _ _ _).a, (⟨v_law_parts_here.b, v_law_parts_here.c, v_law_parts_here.d, v_law_parts_here.e⟩ : T4 _ _ _ _).b, (⟨v_law_parts_here.b, v_law_parts_here.c, v_law_parts_here.d, v_law_parts_here.e⟩ : T4 _ _ _ _).c, (⟨v_law_parts_here.b, v_law_parts_here.c, v_law_parts_here.d, v_law_parts_here.e⟩ : T4 _ _ _ _).d⟩ : T5 _ _ _ _ _).b)) := h53
      obtain rfl : u49 = (.str ((⟨(⟨r15⟩ : T1 _).a, (⟨v_law_parts_here.b, v_law_parts_here.c, v_law_parts_here.d, v_law_parts_here.e⟩ : T4 _ _ _ _).a, (⟨v_law_parts_here.b, v_law_parts_here.c, v_law_parts_here.d, v_law_parts_here.e⟩ : T4 _ _ _ _).b, (⟨v_law_parts_here.b, v_law_parts_here.c, v_law_parts_here.d, v_law_parts_here.e⟩ : T4 _ _ _ _).c, (⟨v_law_parts_here.b, v_law_parts_here.c, v_law_parts_here.d, v_law_parts_here.e⟩ : T4 _ _ _ _).d⟩ : T5 _ _ _ _ _).c)) := h54
      obtain rfl : u50 = (.int ((⟨(⟨r15⟩ : T1 _).a, (⟨v_law_parts_here.b, v_law_parts_here.c, v_law_parts_here.d, v_law_parts_here.e⟩ : T4 _ _ _ _).a, (⟨v_law_parts_here.b, v_law_parts_here.c, v_law_parts_here.d, v_law_parts_here.e⟩ : T4 _ _ _ _).b, (⟨v_law_parts_here.b, v_law_parts_here.c, v_law_parts_here.d, v_law_parts_here.e⟩ : T4 _ _ _ _).c, (⟨v_law_parts_here.b, v_law_parts_here.c, v_law_parts_here.d, v_law_parts_here.e⟩ : T4 _ _ _ _).d⟩ : T5 _ _ _ _ _).d)) := h55
      obtain rfl : u51 = (.str ((⟨(⟨r15⟩ : T1 _).a, (⟨v_law_parts_here.b, v_law_parts_here.c, v_law_parts_here.d, v_law_parts_here.e⟩ : T4 _ _ _ _).a, (⟨v_law_parts_here.b, v_law_parts_here.c, v_law_parts_here.d, v_law_parts_here.e⟩ : T4 _ _ _ _).b, (⟨v_law_parts_here.b, v_law_parts_here.c, v_law_parts_here.d, v_law_parts_here.e⟩ : T4 _ _ _ _).c, (⟨v_law_parts_here.b, v_law_parts_here.c, v_law_parts_here.d, v_law_parts_here.e⟩ : T4 _ _ _ _).d⟩ : T5 _ _ _ _ _).e)) := h56
      have hS := hS.addIm (v := (.ref p45)) (x := ((Any.tup [(⟨(⟨r15⟩ : T1 _).a, (⟨v_law_parts_here.b, v_law_parts_here.c, v_law_parts_here.d, v_law_parts_here.e⟩ : T4 _ _ _ _).a, (⟨v_law_parts_here.b, v_law_parts_here.c, v_law_parts_here.d, v_law_parts_here.e⟩ : T4 _ _ _ _).b, (⟨v_law_parts_here.b, v_law_parts_here.c, v_law_parts_here.d, v_law_parts_here.e⟩ : T4 _ _ _ _).c, (⟨v_law_parts_here.b, v_law_parts_here.c, v_law_parts_here.d, v_law_parts_here.e⟩ : T4 _ _ _ _).d⟩ : T5 _ _ _ _ _).a, (Any.str ((⟨(⟨r15⟩ : T1 _).a, (⟨v_law_parts_here.b, v_law_parts_here.c, v_law_parts_here.d, v_law_parts_here.e⟩ : T4 _ _ _ _).a, (⟨v_law_parts_here.b, v_law_parts_here.c, v_law_parts_here.d, v_law_parts_here.e⟩ : T4 _ _ _ _).b, (⟨v_law_parts_here.b, v_law_parts_here.c, v_law_parts_here.d, v_law_parts_here.e⟩ : T4 _ _ _ _).c, (⟨v_law_parts_here.b, v_law_parts_here.c, v_law_parts_here.d, v_law_parts_here.e⟩ : T4 _ _ _ _).d⟩ : T5 _ _ _ _ _).b)), (Any.str ((⟨(⟨r15⟩ : T1 _).a, (⟨v_law_parts_here.b, v_law_parts_here.c, v_law_parts_here.d, v_law_parts_here.e⟩ : T4 _ _ _ _).a, (⟨v_law_parts_here.b, v_law_parts_here.c, v_law_parts_here.d, v_law_parts_here.e⟩ : T4 _ _ _ _).b, (⟨v_law_parts_here.b, v_law_parts_here.c, v_law_parts_here.d, v_law_parts_here.e⟩ : T4 _ _ _ _).c, (⟨v_law_parts_here.b, v_law_parts_here.c, v_law_parts_here.d, v_law_parts_here.e⟩ : T4 _ _ _ _).d⟩ : T5 _ _ _ _ _).c)), (Any.int ((⟨(⟨r15⟩ : T1 _).a, (⟨v_law_parts_here.b, v_law_parts_here.c, v_law_parts_here.d, v_law_parts_here.e⟩ : T4 _ _ _ _).a, (⟨v_law_parts_here.b, v_law_parts_here.c, v_law_parts_here.d, v_law_parts_here.e⟩ : T4 _ _ _ _).b, (⟨v_law_parts_here.b, v_law_parts_here.c, v_law_parts_here.d, v_law_parts_here.e⟩ : T4 _ _ _ _).c, (⟨v_law_parts_here.b, v_law_parts_here.c, v_law_parts_here.d, v_law_parts_here.e⟩ : T4 _ _ _ _).d⟩ : T5 _ _ _ _ _).d)), (Any.str ((⟨(⟨r15⟩ : T1 _).a, (⟨v_law_parts_here.b, v_law_parts_here.c, v_law_parts_here.d, v_law_parts_here.e⟩ : T4 _ _ _ _).a, (⟨v_law_parts_here.b, v_law_parts_here.c, v_law_parts_here.d, v_law_parts_here.e⟩ : T4 _ _ _ _).b, (⟨v_law_parts_here.b, v_law_parts_here.c, v_law_parts_here.d, v_law_parts_here.e⟩ : T4 _ _ _ _).c, (⟨v_law_parts_here.b, v_law_parts_here.c, v_law_parts_here.d, v_law_parts_here.e⟩ : T4 _ _ _ _).d⟩ : T5 _ _ _ _ _).e))]) : Any)) ((any_tup (xs := [(⟨(⟨r15⟩ : T1 _).a, (⟨v_law_parts_here.b, v_law_parts_here.c, v_law_parts_here.d, v_law_parts_here.e⟩ : T4 _ _ _ _).a, (⟨v_law_parts_here.b, v_law_parts_here.c, v_law_parts_here.d, v_law_parts_here.e⟩ : T4 _ _ _ _).b, (⟨v_law_parts_here.b, v_law_parts_here.c, v_law_parts_here.d, v_law_parts_here.e⟩ : T4 _ _ _ _).c, (⟨v_law_parts_here.b, v_law_parts_here.c, v_law_parts_here.d, v_law_parts_here.e⟩ : T4 _ _ _ _).d⟩ : T5 _ _ _ _ _).a, (Any.str ((⟨(⟨r15⟩ : T1 _).a, (⟨v_law_parts_here.b, v_law_parts_here.c, v_law_parts_here.d, v_law_parts_here.e⟩ : T4 _ _ _ _).a, (⟨v_law_parts_here.b, v_law_parts_here.c, v_law_parts_here.d, v_law_parts_here.e⟩ : T4 _ _ _ _).b, (⟨v_law_parts_here.b, v_law_parts_here.c, v_law_parts_here.d, v_law_parts_here.e⟩ : T4 _ _ _ _).c, (⟨v_law_parts_here.b, v_law_parts_here.c, v_law_parts_here.d, v_law_parts_here.e⟩ : T4 _ _ _ _).d⟩ : T5 _ _ _ _ _).b)), (Any.str ((⟨(⟨r15⟩ : T1 _).a, (⟨v_law_parts_here.b, v_law_parts_here.c, v_law_parts_here.d, v_law_parts_here.e⟩ : T4 _ _ _ _).a, (⟨v_law_parts_here.b, v_law_parts_here.c, v_law_parts_here.d, v_law_parts_here.e⟩ : T4 _ _ _ _).b, (⟨v_law_parts_here.b, v_law_parts_here.c, v_law_parts_here.d, v_law_parts_here.e⟩ : T4 _ _ _ _).c, (⟨v_law_parts_here.b, v_law_parts_here.c, v_law_parts_here.d, v_law_parts_here.e⟩ : T4 _ _ _ _).d⟩ : T5 _ _ _ _ _).c)), (Any.int ((⟨(⟨r15⟩ : T1 _).a, (⟨v_law_parts_here.b, v_law_parts_here.c, v_law_parts_here.d, v_law_parts_here.e⟩ : T4 _ _ _ _).a, (⟨v_law_parts_here.b, v_law_parts_here.c, v_law_parts_here.d, v_law_parts_here.e⟩ : T4 _ _ _ _).b, (⟨v_law_parts_here.b, v_law_parts_here.c, v_law_parts_here.d, v_law_parts_here.e⟩ : T4 _ _ _ _).c, (⟨v_law_parts_here.b, v_law_parts_here.c, v_law_parts_here.d, v_law_parts_here.e⟩ : T4 _ _ _ _).d⟩ : T5 _ _ _ _ _).d)), (Any.str ((⟨(⟨r15⟩ : T1 _).a, (⟨v_law_parts_here.b, v_law_parts_here.c, v_law_parts_here.d, v_law_parts_here.e⟩ : T4 _ _ _ _).a, (⟨v_law_parts_here.b, v_law_parts_here.c, v_law_parts_here.d, v_law_parts_here.e⟩ : T4 _ _ _ _).b, (⟨v_law_parts_here.b, v_law_parts_here.c, v_law_parts_here.d, v_law_parts_here.e⟩ : T4 _ _ _ _).c, (⟨v_law_parts_here.b, v_law_parts_here.c, v_law_parts_here.d, v_law_parts_here.e⟩ : T4 _ _ _ _).d⟩ : T5 _ _ _ _ _).e))])).mpr ⟨_, _, rfl, hT57, ⟨h52, ⟨(any_str.mpr rfl), ⟨(any_str.mpr rfl), ⟨(any_int.mpr rfl), ⟨(any_str.mpr rfl), True.intro⟩⟩⟩⟩⟩⟩)
      exact hm _ _ (hS.sel [0, 6] (by decide) rfl)
    · have hm := hn (by rw [hb3]; decide)
      refine st_nx ?_
      refine sq_nx ?_
      refine f_seq ?_
      refine f_if ?_
      refine et_to (et_test (ev_eqI (ev_var rfl) ev_c)) ?_
      obtain ⟨hy, hn⟩ := R.wp_if hm
      refine ifK_2 (fun hb59 => ?_) (fun hb59 => ?_)
      · have hm := hy hb59
        refine c_ret ?_
        refine c_op ?_
        refine c_op ?_
        refine c_sl ?_
        refine ev_to (ev_var rfl) ?_
        obtain ⟨u60, u61, u62, u63, u64, hT70, h65, h66, h67, h68, h69⟩ := im5 (hS.im (i := 0) rfl)
        obtain rfl : u60 = (.str (v_law_parts_here.a)) := h65
        obtain rfl : u61 = (.str (v_law_parts_here.b)) := h66
        obtain rfl : u62 = (.str (v_law_parts_here.c)) := h67
        obtain rfl : u63 = (.int (v_law_parts_here.d)) := h68
        obtain rfl : u64 = (.str (v_law_parts_here.e)) := h69
        refine eo_to eo_no ?_
        refine eo_to (eo_some ev_c) ?_
        refine k_slT (x := ((⟨v_law_parts_here.a⟩ : T1 _) : (T1 Str))) hS hT70 rfl (by show ¬ (HT.sIx 5 0 none = 0 ∧ HT.sIx 5 5 (some (1)) = 5); decide) (fun H' p h s => mk1 rfl h s) fun p71 H hS => ?_
        refine c_tup ?_
        refine c_cons ?_
        refine c_call ?_
        obtain ⟨u73, u74, u75, u76, u77, hT83, h78, h79, h80, h81, h82⟩ := im5 (hS.im (i := 1) rfl)
        obtain rfl : u73 = (.str (v_law_parts_here.a)) := h78
        obtain rfl : u74 = (.str (v_law_parts_here.b)) := h79
        obtain rfl : u75 = (.str (v_law_parts_here.c)) := h80
        obtain rfl : u76 = (.int (v_law_parts_here.d)) := h81
        obtain rfl : u77 = (.str (v_law_parts_here.e)) := h82
        refine ea_to (ea_cons (ev_var rfl) (ea_cons (ev_ixT (ev_var rfl) ev_c hT83 rfl) ea_nil)) ?_
        refine ⟨y2, v_law_parts_here.b, star [imA (.ref p71) ((⟨v_law_parts_here.a⟩ : T1 _) : (T1 Str)), imA (.ref a_v_law_parts_here) (v_law_parts_here : (T5 Str Str Str Int Str)), F], rfl, Sep.unstar (M := []) (hS.sel [0, 1, 2] (by decide) rfl : Sep H (([] ++ [imA (.ref p71) ((⟨v_law_parts_here.a⟩ : T1 _) : (T1 Str)), imA (.ref a_v_law_parts_here) (v_law_parts_here : (T5 Str Str Str Int Str)), F] : List (Asn G)))), R.wp_mono (R.wp_bind hm) (fun r84 hm p85 H hS => ?_) (fun _ z => z)⟩
        have hS : Sep H ([imA p85 (r84 : Any), imA (.ref p71) ((⟨v_law_parts_here.a⟩ : T1 _) : (T1 Str)), imA (.ref a_v_law_parts_here) (v_law_parts_here : (T5 Str Str Str Int Str)), F] : List (Asn G)) := Sep.star (M := [imA p85 (r84 : Any)]) hS
        refine c_nil ?_
        refine k_tupP (x := ((⟨r84⟩ : T1 _) : (T1 Any))) hS (fun H' p h s => mk1 (hS.im (i := 0) rfl) h s) (by show 1 ≤ sizeLine; decide) fun p87 H hS => ?_
        obtain ⟨u89, hT91, h90⟩ := im1 (hS.im (i := 2) rfl)
        obtain rfl : u89 = (.str ((⟨v_law_parts_here.a⟩ : T1 _).a)) := h90
        obtain ⟨u92, hT94, h93⟩ := im1 (hS.im (i := 0) rfl)
        refine k_catT (x := (((⟨v_law_parts_here.a⟩ : T1 _).a, (⟨r84⟩ : T1 _).a) : (Str × Any))) hS hT91 hT94 (fun z => nomatch z) (fun z => nomatch z) (fun H' p h s => mk2 rfl h93 h s) (by show 2 ≤ sizeLine; decide) fun p95 H hS => ?_
        refine c_sl ?_
        refine ev_to (ev_var rfl) ?_
        obtain ⟨u97, u98, u99, u100, u101, hT107, h102, h103, h104, h105, h106⟩ := im5 (hS.im (i := 4) rfl)
        obtain rfl : u97 = (.str (v_law_parts_here.a)) := h102
        obtain rfl : u98 = (.str (v_law_parts_here.b)) := h103
        obtain rfl : u99 = (.str (v_law_parts_here.c)) := h104
        obtain rfl : u100 = (.int (v_law_parts_here.d)) := h105
        obtain rfl : u101 = (.str (v_law_parts_here.e)) := h106
        refine eo_to (eo_some ev_c) ?_
        refine eo_to eo_no ?_
        refine k_slT (x := ((⟨v_law_parts_here.c, v_law_parts_here.d, v_law_parts_here.e⟩ : T3 _ _ _) : (T3 Str Int Str))) hS hT107 rfl (by show ¬ (HT.sIx 5 0 (some (2)) = 0 ∧ HT.sIx 5 5 none = 5); decide) (fun H' p h s => mk3 rfl rfl rfl h s) fun p108 H hS => ?_
        obtain ⟨u110, u111, hT114, h112, h113⟩ := im2 (hS.im (i := 1) rfl)
        obtain rfl : u110 = (.str (((⟨v_law_parts_here.a⟩ : T1 _).a, (⟨r84⟩ : T1 _).a).1)) := h112
        obtain ⟨u115, u116, u117, hT121, h118, h119, h120⟩ := im3 (hS.im (i := 0) rfl)
        obtain rfl : u115 = (.str ((⟨v_law_parts_here.c, v_law_parts_here.d, v_law_parts_here.e⟩ : T3 _ _ _).a)) := h118
        obtain rfl : u116 = (.int ((⟨v_law_parts_here.c, v_law_parts_here.d, v_law_parts_here.e⟩ : T3 _ _ _).b)) := h119
        obtain rfl : u117 = (.str ((⟨v_law_parts_here.c, v_law_parts_here.d, v_law_parts_here.e⟩ : T3 _ _ _).c)) := h120
        refine k_catT (x := ((⟨((⟨v_law_parts_here.a⟩ : T1 _).a, (⟨r84⟩ : T1 _).a).1, ((⟨v_law_parts_here.a⟩ : T1 _).a, (⟨r84⟩ : T1 _).a).2, (⟨v_law_parts_here.c, v_law_parts_here.d, v_law_parts_here.e⟩ : T3 _ _ _).a, (⟨v_law_parts_here.c, v_law_parts_here.d, v_law_parts_here.e⟩ : T3 _ _ _).b, (⟨v_law_parts_here.c, v_law_parts_here.d, v_law_parts_here.e⟩ : T3 _ _ _).c⟩ : T5 _ _ _ _ _) : (T5 Str Any Str Int Str))) hS hT114 hT121 (fun z => nomatch z) (fun z => nomatch z) (fun H' p h s => mk5 rfl h113 rfl rfl rfl h s) (by show 5 ≤ sizeLine; decide) fun p122 H hS => ?_
        obtain ⟨u124, u125, u126, u127, u128, hT134, h129, h130, h131, h132, h133⟩ := im5 (hS.im (i := 0) rfl)
        obtain rfl : u124 = (.str ((⟨((⟨v_law_parts_here.a⟩ : T1 _).a, (⟨r84⟩ : T1 _).a).1, ((⟨v_law_parts_here.a⟩ : T1 _).a, (⟨r84⟩ : T1 _).a).2, (⟨v_law_parts_here.c, v_law_parts_here.d, v_law_parts_here.e⟩ : T3 _ _ _).a, (⟨v_law_parts_here.c, v_law_parts_here.d, v_law_parts_here.e⟩ : T3 _ _ _).b, (⟨v_law_parts_here.c, v_law_parts_here.d, v_law_parts_here.e⟩ : T3 _ _ _).c⟩ : T5 _ _ _ _ _).a)) := h129
        obtain rfl : u126 = (.str ((⟨((⟨v_law_parts_here.a⟩ : T1 _).a, (⟨r84⟩ : T1 _).a).1, ((⟨v_law_parts_here.a⟩ : T1 _).a, (⟨r84⟩ : T1 _).a).2, (⟨v_law_parts_here.c, v_law_parts_here.d, v_law_parts_here.e⟩ : T3 _ _ _).a, (⟨v_law_parts_here.c, v_law_parts_here.d, v_law_parts_here.e⟩ : T3 _ _ _).b, (⟨v_law_parts_here.c, v_law_parts_here.d, v_law_parts_here.e⟩ : T3 _ _ _).c⟩ : T5 _ _ _ _ _).c)) := h131
        obtain rfl : u127 = (.int ((⟨((⟨v_law_parts_here.a⟩ : T1 _).a, (⟨r84⟩ : T1 _).a).1, ((⟨v_law_parts_here.a⟩ : T1 _).a, (⟨r84⟩ : T1 _).a).2, (⟨v_law_parts_here.c, v_law_parts_here.d, v_law_parts_here.e⟩ : T3 _ _ _).a, (⟨v_law_parts_here.c, v_law_parts_here.d, v_law_parts_here.e⟩ : T3 _ _ _).b, (⟨v_law_parts_here.c, v_law_parts_here.d, v_law_parts_here.e⟩ : T3 _ _ _).c⟩ : T5 _ _ _ _ _).d)) := h132
        obtain rfl : u128 = (.str ((⟨((⟨v_law_parts_here.a⟩ : T1 _).a, (⟨r84⟩ : T1 _).a).1, ((⟨v_law_parts_here.a⟩ : T1 _).a, (⟨r84⟩ : T1 _).a).2, (⟨v_law_parts_here.c, v_law_parts_here.d, v_law_parts_here.e⟩ : T3 _ _ _).a, (⟨v_law_parts_here.c, v_law_parts_here.d, v_law_parts_here.e⟩ : T3 _ _ _).b, (⟨v_law_parts_here.c, v_law_parts_here.d, v_law_parts_here.e⟩ : T3 _ _ _).c⟩ : T5 _ _ _ _ _).e)) := h133
        have hS := hS.addIm (v := (.ref p122)) (x := ((Any.tup [(Any.str ((⟨((⟨v_law_parts_here.a⟩ : T1 _).a, (⟨r84⟩ : T1 _).a).1, ((⟨v_law_parts_here.a⟩ : T1 _).a, (⟨r84⟩ : T1 _).a).2, (⟨v_law_parts_here.c, v_law_parts_here.d, v_law_parts_here.e⟩ : T3 _ _ _).a, (⟨v_law_parts_here.c, v_law_parts_here.d, v_law_parts_here.e⟩ : T3 _ _ _).b, (⟨v_law_parts_here.c, v_law_parts_here.d, v_law_parts_here.e⟩ : T3 _ _ _).c⟩ : T5 _ _ _ _ _).a)), (⟨((⟨v_law_parts_here.a⟩ : T1 _).a, (⟨r84⟩ : T1 _).a).1, ((⟨v_law_parts_here.a⟩ : T1 _).a, (⟨r84⟩ : T1 _).a).2, (⟨v_law_parts_here.c, v_law_parts_here.d, v_law_parts_here.e⟩ : T3 _ _ _).a, (⟨v_law_parts_here.c, v_law_parts_here.d, v_law_parts_here.e⟩ : T3 _ _ _).b, (⟨v_law_parts_here.c, v_law_parts_here.d, v_law_parts_here.e⟩ : T3 _ _ _).c⟩ : T5 _ _ _ _ _).b, (Any.str ((⟨((⟨v_law_parts_here.a⟩ : T1 _).a, (⟨r84⟩ : T1 _).a).1, ((⟨v_law_parts_here.a⟩ : T1 _).a, (⟨r84⟩ : T1 _).a).2, (⟨v_law_parts_here.c, v_law_parts_here.d, v_law_parts_here.e⟩ : T3 _ _ _).a, (⟨v_law_parts_here.c, v_law_parts_here.d, v_law_parts_here.e⟩ : T3 _ _ _).b, (⟨v_law_parts_here.c, v_law_parts_here.d, v_law_parts_here.e⟩ : T3 _ _ _).c⟩ : T5 _ _ _ _ _).c)), (Any.int ((⟨((⟨v_law_parts_here.a⟩ : T1 _).a, (⟨r84⟩ : T1 _).a).1, ((⟨v_law_parts_here.a⟩ : T1 _).a, (⟨r84⟩ : T1 _).a).2, (⟨v_law_parts_here.c, v_law_parts_here.d, v_law_parts_here.e⟩ : T3 _ _ _).a, (⟨v_law_parts_here.c, v_law_parts_here.d, v_law_parts_here.e⟩ : T3 _ _ _).b, (⟨v_law_parts_here.c, v_law_parts_here.d, v_law_parts_here.e⟩ : T3 _ _ _).c⟩ : T5 _ _ _ _ _).d)), (Any.str ((⟨((⟨v_law_parts_here.a⟩ : T1 _).a, (⟨r84⟩ : T1 _).a).1, ((⟨v_law_parts_here.a⟩ : T1 _).a, (⟨r84⟩ : T1 _).a).2, (⟨v_law_parts_here.c, v_law_parts_here.d, v_law_parts_here.e⟩ : T3 _ _ _).a, (⟨v_law_parts_here.c, v_law_parts_here.d, v_law_parts_here.e⟩ : T3 _ _ _).b, (⟨v_law_parts_here.c, v_law_parts_here.d, v_law_parts_here.e⟩ : T3 _ _ _).c⟩ : T5 _ _ _ _ _).e))]) : Any)) ((any_tup (xs := [(Any.str ((⟨((⟨v_law_parts_here.a⟩ : T1 _).a, (⟨r84⟩ : T1 _).a).1, ((⟨v_law_parts_here.a⟩ : T1 _).a, (⟨r84⟩ : T1 _).a).2, (⟨v_law_parts_here.c, v_law_parts_here.d, v_law_parts_here.e⟩ : T3 _ _ _).a, (⟨v_law_parts_here.c, v_law_parts_here.d, v_law_parts_here.e⟩ : T3 _ _ _).b, (⟨v_law_parts_here.c, v_law_parts_here.d, v_law_parts_here.e⟩ : T3 _ _ _).c⟩ : T5 _ _ _ _ _).a)), (⟨((⟨v_law_parts_here.a⟩ : T1 _).a, (⟨r84⟩ : T1 _).a).1, ((⟨v_law_parts_here.a⟩ : T1 _).a, (⟨r84⟩ : T1 _).a).2, (⟨v_law_parts_here.c, v_law_parts_here.d, v_law_parts_here.e⟩ : T3 _ _ _).a, (⟨v_law_parts_here.c, v_law_parts_here.d, v_law_parts_here.e⟩ : T3 _ _ _).b, (⟨v_law_parts_here.c, v_law_parts_here.d, v_law_parts_here.e⟩ : T3 _ _ _).c⟩ : T5 _ _ _ _ _).b, (Any.str ((⟨((⟨v_law_parts_here.a⟩ : T1 _).a, (⟨r84⟩ : T1 _).a).1, ((⟨v_law_parts_here.a⟩ : T1 _).a, (⟨r84⟩ : T1 _).a).2, (⟨v_law_parts_here.c, v_law_parts_here.d, v_law_parts_here.e⟩ : T3 _ _ _).a, (⟨v_law_parts_here.c, v_law_parts_here.d, v_law_parts_here.e⟩ : T3 _ _ _).b, (⟨v_law_parts_here.c, v_law_parts_here.d, v_law_parts_here.e⟩ : T3 _ _ _).c⟩ : T5 _ _ _ _ _).c)), (Any.int ((⟨((⟨v_law_parts_here.a⟩ : T1 _).a, (⟨r84⟩ : T1 _).a).1, ((⟨v_law_parts_here.a⟩ : T1 _).a, (⟨r84⟩ : T1 _).a).2, (⟨v_law_parts_here.c, v_law_parts_here.d, v_law_parts_here.e⟩ : T3 _ _ _).a, (⟨v_law_parts_here.c, v_law_parts_here.d, v_law_parts_here.e⟩ : T3 _ _ _).b, (⟨v_law_parts_here.c, v_law_parts_here.d, v_law_parts_here.e⟩ : T3 _ _ _).c⟩ : T5 _ _ _ _ _).d)), (Any.str ((⟨((⟨v_law_parts_here.a⟩ : T1 _).a, (⟨r84⟩ : T1 _).a).1, ((⟨v_law_parts_here.a⟩ : T1 _).a, (⟨r84⟩ : T1 _).a).2, (⟨v_law_parts_here.c, v_law_parts_here.d, v_law_parts_here.e⟩ : T3 _ _ _).a, (⟨v_law_parts_here.c, v_law_parts_here.d, v_law_parts_here.e⟩ : T3 _ _ _).b, (⟨v_law_parts_here.c, v_law_parts_here.d, v_law_parts_here.e⟩ : T3 _ _ _).c⟩ : T5 _ _ _ _ _).e))])).mpr ⟨_, _, rfl, hT134, ⟨(any_str.mpr rfl), ⟨h130, ⟨(any_str.mpr rfl), ⟨(any_int.mpr rfl), ⟨(any_str.mpr rfl), True.intro⟩⟩⟩⟩⟩⟩)
        exact hm _ _ (hS.sel [0, 8] (by decide) rfl)
      · have hm := hn (by rw [hb59]; decide)
        refine st_nx ?_
        refine sq_nx ?_
        refine f_seq ?_
        refine f_if ?_
        refine et_to (et_test (ev_eqI (ev_var rfl) ev_c)) ?_
        obtain ⟨hy, hn⟩ := R.wp_if hm
        refine ifK_2 (fun hb136 => ?_) (fun hb136 => ?_)
        · have hm := hy hb136
          refine f_seq ?_
          refine c_asg ?_
          obtain ⟨u137, u138, u139, u140, u141, hT147, h142, h143, h144, h145, h146⟩ := im5 (hS.im (i := 0) rfl)
          obtain rfl : u137 = (.str (v_law_parts_here.a)) := h142
          obtain rfl : u138 = (.str (v_law_parts_here.b)) := h143
          obtain rfl : u139 = (.str (v_law_parts_here.c)) := h144
          obtain rfl : u140 = (.int (v_law_parts_here.d)) := h145
          obtain rfl : u141 = (.str (v_law_parts_here.e)) := h146
          obtain ⟨h148, hm⟩ := R.wp_need hm
          obtain ⟨h149, hm⟩ := R.wp_need hm
          revert hm; refine R.need_rev fun h150 hm => ?_
          refine ev_to (ev_slS (ev_catS (ev_ixT (ev_var rfl) ev_c hT147 rfl) (ev_repS ev_c ev_c h148) h149) eo_no (eo_some ev_c) h150) ?_
          obtain ⟨y151, hy151, hm⟩ := wp_let hm
          refine n_is (w := (.str (y151))) (by rw [hy151]) ?_
          refine c_set (σ' := [some (.int (v_law_number)), some (.ref a_v_law_parts_here), some (.int (y1)), some (.int (y2)), some (.str (y151)), none, none]) rfl ?_
          refine sq_nx ?_
          refine c_ret ?_
          refine c_op ?_
          refine c_op ?_
          refine c_sl ?_
          refine ev_to (ev_var rfl) ?_
          obtain ⟨u152, u153, u154, u155, u156, hT162, h157, h158, h159, h160, h161⟩ := im5 (hS.im (i := 0) rfl)
          obtain rfl : u152 = (.str (v_law_parts_here.a)) := h157
          obtain rfl : u153 = (.str (v_law_parts_here.b)) := h158
          obtain rfl : u154 = (.str (v_law_parts_here.c)) := h159
          obtain rfl : u155 = (.int (v_law_parts_here.d)) := h160
          obtain rfl : u156 = (.str (v_law_parts_here.e)) := h161
          refine eo_to eo_no ?_
          refine eo_to (eo_some ev_c) ?_
          refine k_slT (x := ((v_law_parts_here.a, v_law_parts_here.b) : (Str × Str))) hS hT162 rfl (by show ¬ (HT.sIx 5 0 none = 0 ∧ HT.sIx 5 5 (some (2)) = 5); decide) (fun H' p h s => mk2 rfl rfl h s) fun p163 H hS => ?_
          refine c_tup ?_
          refine c_cons ?_
          refine c_op ?_
          refine c_fz ?_
          refine c_lst ?_
          refine c_cons ?_
          refine ev_to (ev_var rfl) ?_
          refine c_cons ?_
          refine ev_to ev_c ?_
          refine c_cons ?_
          refine ev_to ev_c ?_
          refine c_cons ?_
          obtain ⟨h165, hm⟩ := R.wp_need hm
          refine ev_to (ev_repS ev_c ev_c h165) ?_
          refine c_cons ?_
          refine c_fz ?_
          refine c_lst ?_
          refine ea_to ea_nil ?_
          refine k_lst (α := Str) (vs := []) (xs := ([] : (List Str))) hS True.intro (by show 0 ≤ sizeLine; decide) fun p166 H hS => ?_
          refine fz_yes (xs := (([] : (List Str)) : (List Str))) hS (i := 0) rfl fun H hS => ?_
          have hS : Sep H ([imA (.ref p166) (([] : (List Str)) : (List Str)), imA (.ref p163) ((v_law_parts_here.a, v_law_parts_here.b) : (Str × Str)), imA (.ref a_v_law_parts_here) (v_law_parts_here : (T5 Str Str Str Int Str)), F] : List (Asn G)) := hS
          refine c_cons ?_
          refine c_tup ?_
          refine ea_to (ea_cons ev_c ea_nil) ?_
          refine k_tupA (vs := [(.str (("x" : Str)))]) (xs := [(Any.str ("x" : Str))]) hS ⟨(any_str.mpr rfl), True.intro⟩ (by show 1 ≤ sizeLine; decide) fun p168 H hS => ?_
          refine c_cons ?_
          refine k_dnew (κ := Str) (β := Bool) hS fun p170 H hS => ?_
          refine c_cons ?_
          refine c_fz ?_
          refine c_lst ?_
          refine ea_to (ea_cons ev_c ea_nil) ?_
          refine k_lst (α := Str) (vs := [(.str (("x" : Str)))]) (xs := [("x" : Str)]) hS ⟨rfl, True.intro⟩ (by show 1 ≤ sizeLine; decide) fun p171 H hS => ?_
          refine fz_yes (xs := ([("x" : Str)] : (List Str))) hS (i := 0) rfl fun H hS => ?_
          have hS : Sep H ([imA (.ref p171) ([("x" : Str)] : (List Str)), dictA p170 (([] : (List (Str × Bool))) : (List (Str × Bool))), imA (.ref p168) ((Any.tup [(Any.str ("x" : Str))]) : Any), imA (.ref p166) (([] : (List Str)) : (List Str)), imA (.ref p163) ((v_law_parts_here.a, v_law_parts_here.b) : (Str × Str)), imA (.ref a_v_law_parts_here) (v_law_parts_here : (T5 Str Str Str Int Str)), F] : List (Asn G)) := hS
          refine c_nil ?_
          refine k_lst (α := Any) (vs := [(.str (y151)), .non, (.int (9)), (.str (repS ("q" : Str) (500 : Int).toNat)), (.ref p166), (.ref p168), (.ref p170), (.ref p171)]) (xs := [(Any.str y151), Any.non, (Any.int 9), (Any.str (repS ("q" : Str) (500 : Int).toNat)), (Any.lst (([] : (List Str)).map Any.str)), (Any.tup [(Any.str ("x" : Str))]), (Any.oth 1), (Any.lst (([("x" : Str)]).map Any.str))]) hS ⟨(any_str.mpr rfl), ⟨(any_non.mpr rfl), ⟨(any_int.mpr rfl), ⟨(any_str.mpr rfl), ⟨(any_lstS (hS.im (i := 3) rfl)), ⟨(hS.im (i := 2) rfl), ⟨(any_dict hS (i := 1) rfl), ⟨(any_lstS (hS.im (i := 0) rfl)), True.intro⟩⟩⟩⟩⟩⟩⟩⟩ (by show 8 ≤ sizeLine; decide) fun p173 H hS => ?_
          refine fz_no ?_
          refine ev_to (ev_mod (ev_var rfl) ev_c (by decide)) ?_
          obtain ⟨x174, hx174, hm⟩ := wp_idx hm
          obtain ⟨vs175, hq176, hM177⟩ := hS.sq (i := 0) rfl
          obtain ⟨u178, hu179, hi180⟩ := atI_im hM177 hx174
          refine r_ixSq hq176 hu179 _ ?_
          have hS := hS.addIm (v := u178) (x := (x174 : Any)) hi180
          refine c_nil ?_
          refine k_tupP (x := ((⟨x174⟩ : T1 _) : (T1 Any))) hS (fun H' p h s => mk1 (hS.im (i := 0) rfl) h s) (by show 1 ≤ sizeLine; decide) fun p182 H hS => ?_
          obtain ⟨u184, u185, hT188, h186, h187⟩ := im2 (hS.im (i := 7) rfl)
          obtain rfl : u184 = (.str ((v_law_parts_here.a, v_law_parts_here.b).1)) := h186
          obtain rfl : u185 = (.str ((v_law_parts_here.a, v_law_parts_here.b).2)) := h187
          obtain ⟨u189, hT191, h190⟩ := im1 (hS.im (i := 0) rfl)
          refine k_catT (x := ((⟨(v_law_parts_here.a, v_law_parts_here.b).1, (v_law_parts_here.a, v_law_parts_here.b).2, (⟨x174⟩ : T1 _).a⟩ : T3 _ _ _) : (T3 Str Str Any))) hS hT188 hT191 (fun z => nomatch z) (fun z => nomatch z) (fun H' p h s => mk3 rfl rfl h190 h s) (by show 3 ≤ sizeLine; decide) fun p192 H hS => ?_
          refine c_sl ?_
          refine ev_to (ev_var rfl) ?_
          obtain ⟨u194, u195, u196, u197, u198, hT204, h199, h200, h201, h202, h203⟩ := im5 (hS.im (i := 9) rfl)
          obtain rfl : u194 = (.str (v_law_parts_here.a)) := h199
          obtain rfl : u195 = (.str (v_law_parts_here.b)) := h200
          obtain rfl : u196 = (.str (v_law_parts_here.c)) := h201
          obtain rfl : u197 = (.int (v_law_parts_here.d)) := h202
          obtain rfl : u198 = (.str (v_law_parts_here.e)) := h203
          refine eo_to (eo_some ev_c) ?_
          refine eo_to eo_no ?_
          refine k_slT (x := ((v_law_parts_here.d, v_law_parts_here.e) : (Int × Str))) hS hT204 rfl (by show ¬ (HT.sIx 5 0 (some (3)) = 0 ∧ HT.sIx 5 5 none = 5); decide) (fun H' p h s => mk2 rfl rfl h s) fun p205 H hS => ?_
          obtain ⟨u207, u208, u209, hT213, h210, h211, h212⟩ := im3 (hS.im (i := 1) rfl)
          obtain rfl : u207 = (.str ((⟨(v_law_parts_here.a, v_law_parts_here.b).1, (v_law_parts_here.a, v_law_parts_here.b).2, (⟨x174⟩ : T1 _).a⟩ : T3 _ _ _).a)) := h210
          obtain rfl : u208 = (.str ((⟨(v_law_parts_here.a, v_law_parts_here.b).1, (v_law_parts_here.a, v_law_parts_here.b).2, (⟨x174⟩ : T1 _).a⟩ : T3 _ _ _).b)) := h211
          obtain ⟨u214, u215, hT218, h216, h217⟩ := im2 (hS.im (i := 0) rfl)
          obtain rfl : u214 = (.int ((v_law_parts_here.d, v_law_parts_here.e).1)) := h216
          obtain rfl : u215 = (.str ((v_law_parts_here.d, v_law_parts_here.e).2)) := h217
          refine k_catT (x := ((⟨(⟨(v_law_parts_here.a, v_law_parts_here.b).1, (v_law_parts_here.a, v_law_parts_here.b).2, (⟨x174⟩ : T1 _).a⟩ : T3 _ _ _).a, (⟨(v_law_parts_here.a, v_law_parts_here.b).1, (v_law_parts_here.a, v_law_parts_here.b).2, (⟨x174⟩ : T1 _).a⟩ : T3 _ _ _).b, (⟨(v_law_parts_here.a, v_law_parts_here.b).1, (v_law_parts_here.a, v_law_parts_here.b).2, (⟨x174⟩ : T1 _).a⟩ : T3 _ _ _).c, (v_law_parts_here.d, v_law_parts_here.e).1, (v_law_parts_here.d, v_law_parts_here.e).2⟩ : T5 _ _ _ _ _) : (T5 Str Str Any Int Str))) hS hT213 hT218 (fun z => nomatch z) (fun z => nomatch z) (fun H' p h s => mk5 rfl rfl h212 rfl rfl h s) (by show 5 ≤ sizeLine; decide) fun p219 H hS => ?_
          obtain ⟨u221, u222, u223, u224, u225, hT231, h226, h227, h228, h229, h230⟩ := im5 (hS.im (i := 0) rfl)
          obtain rfl : u221 = (.str ((⟨(⟨(v_law_parts_here.a, v_law_parts_here.b).1, (v_law_parts_here.a, v_law_parts_here.b).2, (⟨x174⟩ : T1 _).a⟩ : T3 _ _ _).a, (⟨(v_law_parts_here.a, v_law_parts_here.b).1, (v_law_parts_here.a, v_law_parts_here.b).2, (⟨x174⟩ : T1 _).a⟩ : T3 _ _ _).b, (⟨(v_law_parts_here.a, v_law_parts_here.b).1, (v_law_parts_here.a, v_law_parts_here.b).2, (⟨x174⟩ : T1 _).a⟩ : T3 _ _ _).c, (v_law_parts_here.d, v_law_parts_here.e).1, (v_law_parts_here.d, v_law_parts_here.e).2⟩ : T5 _ _ _ _ _).a)) := h226
          obtain rfl : u222 = (.str ((⟨(⟨(v_law_parts_here.a, v_law_parts_here.b).1, (v_law_parts_here.a, v_law_parts_here.b).2, (⟨x174⟩ : T1 _).a⟩ : T3 _ _ _).a, (⟨(v_law_parts_here.a, v_law_parts_here.b).1, (v_law_parts_here.a, v_law_parts_here.b).2, (⟨x174⟩ : T1 _).a⟩ : T3 _ _ _).b, (⟨(v_law_parts_here.a, v_law_parts_here.b).1, (v_law_parts_here.a, v_law_parts_here.b).2, (⟨x174⟩ : T1 _).a⟩ : T3 _ _ _).c, (v_law_parts_here.d, v_law_parts_here.e).1, (v_law_parts_here.d, v_law_parts_here.e).2⟩ : T5 _ _ _ _ _).b)) := h227
          obtain rfl : u224 = (.int ((⟨(⟨(v_law_parts_here.a, v_law_parts_here.b).1, (v_law_parts_here.a, v_law_parts_here.b).2, (⟨x174⟩ : T1 _).a⟩ : T3 _ _ _).a, (⟨(v_law_parts_here.a, v_law_parts_here.b).1, (v_law_parts_here.a, v_law_parts_here.b).2, (⟨x174⟩ : T1 _).a⟩ : T3 _ _ _).b, (⟨(v_law_parts_here.a, v_law_parts_here.b).1, (v_law_parts_here.a, v_law_parts_here.b).2, (⟨x174⟩ : T1 _).a⟩ : T3 _ _ _).c, (v_law_parts_here.d, v_law_parts_here.e).1, (v_law_parts_here.d, v_law_parts_here.e).2⟩ : T5 _ _ _ _ _).d)) := h229
          obtain rfl : u225 = (.str ((⟨(⟨(v_law_parts_here.a, v_law_parts_here.b).1, (v_law_parts_here.a, v_law_parts_here.b).2, (⟨x174⟩ : T1 _).a⟩ : T3 _ _ _).a, (⟨(v_law_parts_here.a, v_law_parts_here.b).1, (v_law_parts_here.a, v_law_parts_here.b).2, (⟨x174⟩ : T1 _).a⟩ : T3 _ _ _).b, (⟨(v_law_parts_here.a, v_law_parts_here.b).1, (v_law_parts_here.a, v_law_parts_here.b).2, (⟨x174⟩ : T1 _).a⟩ : T3 _ _ _).c, (v_law_parts_here.d, v_law_parts_here.e).1, (v_law_parts_here.d, v_law_parts_here.e).2⟩ : T5 _ _ _ _ _).e)) := h230
          have hS := hS.addIm (v := (.ref p219)) (x := ((Any.tup [(Any.str ((⟨(⟨(v_law_parts_here.a, v_law_parts_here.b).1, (v_law_parts_here.a, v_law_parts_here.b).2, (⟨x174⟩ : T1 _).a⟩ : T3 _ _ _).a, (⟨(v_law_parts_here.a, v_law_parts_here.b).1, (v_law_parts_here.a, v_law_parts_here.b).2, (⟨x174⟩ : T1 _).a⟩ : T3 _ _ _).b, (⟨(v_law_parts_here.a, v_law_parts_here.b).1, (v_law_parts_here.a, v_law_parts_here.b).2, (⟨x174⟩ : T1 _).a⟩ : T3 _ _ _).c, (v_law_parts_here.d, v_law_parts_here.e).1, (v_law_parts_here.d, v_law_parts_here.e).2⟩ : T5 _ _ _ _ _).a)), (Any.str ((⟨(⟨(v_law_parts_here.a, v_law_parts_here.b).1, (v_law_parts_here.a, v_law_parts_here.b).2, (⟨x174⟩ : T1 _).a⟩ : T3 _ _ _).a, (⟨(v_law_parts_here.a, v_law_parts_here.b).1, (v_law_parts_here.a, v_law_parts_here.b).2, (⟨x174⟩ : T1 _).a⟩ : T3 _ _ _).b, (⟨(v_law_parts_here.a, v_law_parts_here.b).1, (v_law_parts_here.a, v_law_parts_here.b).2, (⟨x174⟩ : T1 _).a⟩ : T3 _ _ _).c, (v_law_parts_here.d, v_law_parts_here.e).1, (v_law_parts_here.d, v_law_parts_here.e).2⟩ : T5 _ _ _ _ _).b)), (⟨(⟨(v_law_parts_here.a, v_law_parts_here.b).1, (v_law_parts_here.a, v_law_parts_here.b).2, (⟨x174⟩ : T1 _).a⟩ : T3 _ _ _).a, (⟨(v_law_parts_here.a, v_law_parts_here.b).1, (v_law_parts_here.a, v_law_parts_here.b).2, (⟨x174⟩ : T1 _).a⟩ : T3 _ _ _).b, (⟨(v_law_parts_here.a, v_law_parts_here.b).1, (v_law_parts_here.a, v_law_parts_here.b).2, (⟨x174⟩ : T1 _).a⟩ : T3 _ _ _).c, (v_law_parts_here.d, v_law_parts_here.e).1, (v_law_parts_here.d, v_law_parts_here.e).2⟩ : T5 _ _ _ _ _).c, (Any.int ((⟨(⟨(v_law_parts_here.a, v_law_parts_here.b).1, (v_law_parts_here.a, v_law_parts_here.b).2, (⟨x174⟩ : T1 _).a⟩ : T3 _ _ _).a, (⟨(v_law_parts_here.a, v_law_parts_here.b).1, (v_law_parts_here.a, v_law_parts_here.b).2, (⟨x174⟩ : T1 _).a⟩ : T3 _ _ _).b, (⟨(v_law_parts_here.a, v_law_parts_here.b).1, (v_law_parts_here.a, v_law_parts_here.b).2, (⟨x174⟩ : T1 _).a⟩ : T3 _ _ _).c, (v_law_parts_here.d, v_law_parts_here.e).1, (v_law_parts_here.d, v_law_parts_here.e).2⟩ : T5 _ _ _ _ _).d)), (Any.str ((⟨(⟨(v_law_parts_here.a, v_law_parts_here.b).1, (v_law_parts_here.a, v_law_parts_here.b).2, (⟨x174⟩ : T1 _).a⟩ : T3 _ _ _).a, (⟨(v_law_parts_here.a, v_law_parts_here.b).1, (v_law_parts_here.a, v_law_parts_here.b).2, (⟨x174⟩ : T1 _).a⟩ : T3 _ _ _).b, (⟨(v_law_parts_here.a, v_law_parts_here.b).1, (v_law_parts_here.a, v_law_parts_here.b).2, (⟨x174⟩ : T1 _).a⟩ : T3 _ _ _).c, (v_law_parts_here.d, v_law_parts_here.e).1, (v_law_parts_here.d, v_law_parts_here.e).2⟩ : T5 _ _ _ _ _).e))]) : Any)) ((any_tup (xs := [(Any.str ((⟨(⟨(v_law_parts_here.a, v_law_parts_here.b).1, (v_law_parts_here.a, v_law_parts_here.b).2, (⟨x174⟩ : T1 _).a⟩ : T3 _ _ _).a, (⟨(v_law_parts_here.a, v_law_parts_here.b).1, (v_law_parts_here.a, v_law_parts_here.b).2, (⟨x174⟩ : T1 _).a⟩ : T3 _ _ _).b, (⟨(v_law_parts_here.a, v_law_parts_here.b).1, (v_law_parts_here.a, v_law_parts_here.b).2, (⟨x174⟩ : T1 _).a⟩ : T3 _ _ _).c, (v_law_parts_here.d, v_law_parts_here.e).1, (v_law_parts_here.d, v_law_parts_here.e).2⟩ : T5 _ _ _ _ _).a)), (Any.str ((⟨(⟨(v_law_parts_here.a, v_law_parts_here.b).1, (v_law_parts_here.a, v_law_parts_here.b).2, (⟨x174⟩ : T1 _).a⟩ : T3 _ _ _).a, (⟨(v_law_parts_here.a, v_law_parts_here.b).1, (v_law_parts_here.a, v_law_parts_here.b).2, (⟨x174⟩ : T1 _).a⟩ : T3 _ _ _).b, (⟨(v_law_parts_here.a, v_law_parts_here.b).1, (v_law_parts_here.a, v_law_parts_here.b).2, (⟨x174⟩ : T1 _).a⟩ : T3 _ _ _).c, (v_law_parts_here.d, v_law_parts_here.e).1, (v_law_parts_here.d, v_law_parts_here.e).2⟩ : T5 _ _ _ _ _).b)), (⟨(⟨(v_law_parts_here.a, v_law_parts_here.b).1, (v_law_parts_here.a, v_law_parts_here.b).2, (⟨x174⟩ : T1 _).a⟩ : T3 _ _ _).a, (⟨(v_law_parts_here.a, v_law_parts_here.b).1, (v_law_parts_here.a, v_law_parts_here.b).2, (⟨x174⟩ : T1 _).a⟩ : T3 _ _ _).b, (⟨(v_law_parts_here.a, v_law_parts_here.b).1, (v_law_parts_here.a, v_law_parts_here.b).2, (⟨x174⟩ : T1 _).a⟩ : T3 _ _ _).c, (v_law_parts_here.d, v_law_parts_here.e).1, (v_law_parts_here.d, v_law_parts_here.e).2⟩ : T5 _ _ _ _ _).c, (Any.int ((⟨(⟨(v_law_parts_here.a, v_law_parts_here.b).1, (v_law_parts_here.a, v_law_parts_here.b).2, (⟨x174⟩ : T1 _).a⟩ : T3 _ _ _).a, (⟨(v_law_parts_here.a, v_law_parts_here.b).1, (v_law_parts_here.a, v_law_parts_here.b).2, (⟨x174⟩ : T1 _).a⟩ : T3 _ _ _).b, (⟨(v_law_parts_here.a, v_law_parts_here.b).1, (v_law_parts_here.a, v_law_parts_here.b).2, (⟨x174⟩ : T1 _).a⟩ : T3 _ _ _).c, (v_law_parts_here.d, v_law_parts_here.e).1, (v_law_parts_here.d, v_law_parts_here.e).2⟩ : T5 _ _ _ _ _).d)), (Any.str ((⟨(⟨(v_law_parts_here.a, v_law_parts_here.b).1, (v_law_parts_here.a, v_law_parts_here.b).2, (⟨x174⟩ : T1 _).a⟩ : T3 _ _ _).a, (⟨(v_law_parts_here.a, v_law_parts_here.b).1, (v_law_parts_here.a, v_law_parts_here.b).2, (⟨x174⟩ : T1 _).a⟩ : T3 _ _ _).b, (⟨(v_law_parts_here.a, v_law_parts_here.b).1, (v_law_parts_here.a, v_law_parts_here.b).2, (⟨x174⟩ : T1 _).a⟩ : T3 _ _ _).c, (v_law_parts_here.d, v_law_parts_here.e).1, (v_law_parts_here.d, v_law_parts_here.e).2⟩ : T5 _ _ _ _ _).e))])).mpr ⟨_, _, rfl, hT231, ⟨(any_str.mpr rfl), ⟨(any_str.mpr rfl), ⟨h228, ⟨(any_int.mpr rfl), ⟨(any_str.mpr rfl), True.intro⟩⟩⟩⟩⟩⟩)
          exact hm _ _ (hS.sel [0, 13] (by decide) rfl)
        · have hm := hn (by rw [hb136]; decide)
          refine st_nx ?_
          refine sq_nx ?_
          refine f_seq ?_
          refine f_if ?_
          refine et_to (et_test (ev_eqI (ev_var rfl) ev_c)) ?_
          obtain ⟨hy, hn⟩ := R.wp_if hm
          refine ifK_2 (fun hb233 => ?_) (fun hb233 => ?_)
          · have hm := hy hb233
            refine f_seq ?_
            refine c_asg ?_
            refine c_fz ?_
            refine c_lst ?_
            refine c_cons ?_
            refine ev_to (ev_un ev_c fun _ q => ⟨_, rfl, q⟩) ?_
            refine c_cons ?_
            refine ev_to ev_c ?_
            refine c_cons ?_
            refine ev_to ev_c ?_
            refine c_cons ?_
            refine ev_to ev_c ?_
            refine c_cons ?_
            refine ev_to ev_c ?_
            refine c_cons ?_
            refine ev_to (ev_sub (ev_un ev_c fun _ q => ⟨_, rfl, q⟩) (ev_mod (ev_fdiv (ev_var rfl) ev_c ⟨by decide, by decide⟩) ev_c (by decide))) ?_
            refine c_cons ?_
            refine ev_to (ev_add ev_c (ev_var rfl)) ?_
            refine c_cons ?_
            refine c_fz ?_
            refine c_lst ?_
            refine ea_to (ea_cons ev_c ea_nil) ?_
            refine k_lst (α := Int) (vs := [(.int (7))]) (xs := [7]) hS ⟨rfl, True.intro⟩ (by show 1 ≤ sizeLine; decide) fun p234 H hS => ?_
            refine fz_yes (xs := ([7] : (List Int))) hS (i := 0) rfl fun H hS => ?_
            have hS : Sep H ([imA (.ref p234) ([7] : (List Int)), imA (.ref a_v_law_parts_here) (v_law_parts_here : (T5 Str Str Str Int Str)), F] : List (Asn G)) := hS
            refine c_cons ?_
            refine c_tup ?_
            refine ea_to (ea_cons ev_c ea_nil) ?_
            refine k_tupA (vs := [(.int (7))]) (xs := [(Any.int 7)]) hS ⟨(any_int.mpr rfl), True.intro⟩ (by show 1 ≤ sizeLine; decide) fun p236 H hS => ?_
            refine c_cons ?_
            refine k_dnew (κ := Str) (β := Bool) hS fun p238 H hS => ?_
            refine c_cons ?_
            refine c_fz ?_
            refine c_lst ?_
            refine ea_to ea_nil ?_
            refine k_lst (α := Any) (vs := []) (xs := ([] : (List Any))) hS True.intro (by show 0 ≤ sizeLine; decide) fun p239 H hS => ?_
            refine fz_yes (xs := (([] : (List Any)) : (List Any))) hS (i := 0) rfl fun H hS => ?_
            have hS : Sep H ([imA (.ref p239) (([] : (List Any)) : (List Any)), dictA p238 (([] : (List (Str × Bool))) : (List (Str × Bool))), imA (.ref p236) ((Any.tup [(Any.int 7)]) : Any), imA (.ref p234) ([7] : (List Int)), imA (.ref a_v_law_parts_here) (v_law_parts_here : (T5 Str Str Str Int Str)), F] : List (Asn G)) := hS
            refine c_nil ?_
            refine k_lst (α := Any) (vs := [(.int (-1)), (.int (10000)), (.bl (true)), (.str (("7" : Str))), .non, (.int ((-1) - ((y2 / 6) % 999))), (.int (10000 + y2)), (.ref p234), (.ref p236), (.ref p238), (.ref p239)]) (xs := [(Any.int (-1)), (Any.int 10000), (Any.bl true), (Any.str ("7" : Str)), Any.non, (Any.int ((-1) - ((y2 / 6) % 999))), (Any.int (10000 + y2)), (Any.lst (([7]).map Any.int)), (Any.tup [(Any.int 7)]), (Any.oth 1), (Any.lst ([] : (List Any)))]) hS ⟨(any_int.mpr rfl), ⟨(any_int.mpr rfl), ⟨(any_bl.mpr rfl), ⟨(any_str.mpr rfl), ⟨(any_non.mpr rfl), ⟨(any_int.mpr rfl), ⟨(any_int.mpr rfl), ⟨(any_lstI (hS.im (i := 3) rfl)), ⟨(hS.im (i := 2) rfl), ⟨(any_dict hS (i := 1) rfl), ⟨(any_lstA (hS.im (i := 0) rfl)), True.intro⟩⟩⟩⟩⟩⟩⟩⟩⟩⟩⟩ (by show 11 ≤ sizeLine; decide) fun p241 H hS => ?_
            refine fz_no ?_
            obtain ⟨y242, hy242, hm⟩ := wp_let hm
            have hS : Sep H ([lstA p241 (y242 : (List Any)), imA (.ref p239) (([] : (List Any)) : (List Any)), dictA p238 (([] : (List (Str × Bool))) : (List (Str × Bool))), imA (.ref p236) ((Any.tup [(Any.int 7)]) : Any), imA (.ref p234) ([7] : (List Int)), imA (.ref a_v_law_parts_here) (v_law_parts_here : (T5 Str Str Str Int Str)), F] : List (Asn G)) := by rw [← hy242]; exact hS
            refine c_set (σ' := [some (.int (v_law_number)), some (.ref a_v_law_parts_here), some (.int (y1)), some (.int (y2)), none, some (.ref p241), none]) rfl ?_
            refine sq_nx ?_
            refine c_ret ?_
            refine c_op ?_
            refine c_op ?_
            refine c_sl ?_
            refine ev_to (ev_var rfl) ?_
            obtain ⟨u243, u244, u245, u246, u247, hT253, h248, h249, h250, h251, h252⟩ := im5 (hS.im (i := 5) rfl)
            obtain rfl : u243 = (.str (v_law_parts_here.a)) := h248
            obtain rfl : u244 = (.str (v_law_parts_here.b)) := h249
            obtain rfl : u245 = (.str (v_law_parts_here.c)) := h250
            obtain rfl : u246 = (.int (v_law_parts_here.d)) := h251
            obtain rfl : u247 = (.str (v_law_parts_here.e)) := h252
            refine eo_to eo_no ?_
            refine eo_to (eo_some ev_c) ?_
            refine k_slT (x := ((⟨v_law_parts_here.a, v_law_parts_here.b, v_law_parts_here.c⟩ : T3 _ _ _) : (T3 Str Str Str))) hS hT253 rfl (by show ¬ (HT.sIx 5 0 none = 0 ∧ HT.sIx 5 5 (some (3)) = 5); decide) (fun H' p h s => mk3 rfl rfl rfl h s) fun p254 H hS => ?_
            refine c_tup ?_
            obtain ⟨x256, hx256, hm⟩ := wp_idx hm
            obtain ⟨vs257, hq258, hM259⟩ := hS.sq (i := 1) rfl
            obtain ⟨u260, hu261, hi262⟩ := atI_im hM259 hx256
            refine ea_to (ea_cons (ev_ixSq (ev_fz (ev_var rfl)) (ev_mod (ev_var rfl) ev_c (by decide)) hq258 hu261) ea_nil) ?_
            have hS := hS.addIm (v := u260) (x := (x256 : Any)) hi262
            refine k_tupP (x := ((⟨x256⟩ : T1 _) : (T1 Any))) hS (fun H' p h s => mk1 (hS.im (i := 0) rfl) h s) (by show 1 ≤ sizeLine; decide) fun p264 H hS => ?_
            obtain ⟨u266, u267, u268, hT272, h269, h270, h271⟩ := im3 (hS.im (i := 2) rfl)
            obtain rfl : u266 = (.str ((⟨v_law_parts_here.a, v_law_parts_here.b, v_law_parts_here.c⟩ : T3 _ _ _).a)) := h269
            obtain rfl : u267 = (.str ((⟨v_law_parts_here.a, v_law_parts_here.b, v_law_parts_here.c⟩ : T3 _ _ _).b)) := h270
            obtain rfl : u268 = (.str ((⟨v_law_parts_here.a, v_law_parts_here.b, v_law_parts_here.c⟩ : T3 _ _ _).c)) := h271
            obtain ⟨u273, hT275, h274⟩ := im1 (hS.im (i := 0) rfl)
            refine k_catT (x := ((⟨(⟨v_law_parts_here.a, v_law_parts_here.b, v_law_parts_here.c⟩ : T3 _ _ _).a, (⟨v_law_parts_here.a, v_law_parts_here.b, v_law_parts_here.c⟩ : T3 _ _ _).b, (⟨v_law_parts_here.a, v_law_parts_here.b, v_law_parts_here.c⟩ : T3 _ _ _).c, (⟨x256⟩ : T1 _).a⟩ : T4 _ _ _ _) : (T4 Str Str Str Any))) hS hT272 hT275 (fun z => nomatch z) (fun z => nomatch z) (fun H' p h s => mk4 rfl rfl rfl h274 h s) (by show 4 ≤ sizeLine; decide) fun p276 H hS => ?_
            refine c_sl ?_
            refine ev_to (ev_var rfl) ?_
            obtain ⟨u278, u279, u280, u281, u282, hT288, h283, h284, h285, h286, h287⟩ := im5 (hS.im (i := 9) rfl)
            obtain rfl : u278 = (.str (v_law_parts_here.a)) := h283
            obtain rfl : u279 = (.str (v_law_parts_here.b)) := h284
            obtain rfl : u280 = (.str (v_law_parts_here.c)) := h285
            obtain rfl : u281 = (.int (v_law_parts_here.d)) := h286
            obtain rfl : u282 = (.str (v_law_parts_here.e)) := h287
            refine eo_to (eo_some ev_c) ?_
            refine eo_to eo_no ?_
            refine k_slT (x := ((⟨v_law_parts_here.e⟩ : T1 _) : (T1 Str))) hS hT288 rfl (by show ¬ (HT.sIx 5 0 (some (4)) = 0 ∧ HT.sIx 5 5 none = 5); decide) (fun H' p h s => mk1 rfl h s) fun p289 H hS => ?_
            obtain ⟨u291, u292, u293, u294, hT299, h295, h296, h297, h298⟩ := im4 (hS.im (i := 1) rfl)
            obtain rfl : u291 = (.str ((⟨(⟨v_law_parts_here.a, v_law_parts_here.b, v_law_parts_here.c⟩ : T3 _ _ _).a, (⟨v_law_parts_here.a, v_law_parts_here.b, v_law_parts_here.c⟩ : T3 _ _ _).b, (⟨v_law_parts_here.a, v_law_parts_here.b, v_law_parts_here.c⟩ : T3 _ _ _).c, (⟨x256⟩ : T1 _).a⟩ : T4 _ _ _ _).a)) := h295
            obtain rfl : u292 = (.str ((⟨(⟨v_law_parts_here.a, v_law_parts_here.b, v_law_parts_here.c⟩ : T3 _ _ _).a, (⟨v_law_parts_here.a, v_law_parts_here.b, v_law_parts_here.c⟩ : T3 _ _ _).b, (⟨v_law_parts_here.a, v_law_parts_here.b, v_law_parts_here.c⟩ : T3 _ _ _).c, (⟨x256⟩ : T1 _).a⟩ : T4 _ _ _ _).b)) := h296
            obtain rfl : u293 = (.str ((⟨(⟨v_law_parts_here.a, v_law_parts_here.b, v_law_parts_here.c⟩ : T3 _ _ _).a, (⟨v_law_parts_here.a, v_law_parts_here.b, v_law_parts_here.c⟩ : T3 _ _ _).b, (⟨v_law_parts_here.a, v_law_parts_here.b, v_law_parts_here.c⟩ : T3 _ _ _).c, (⟨x256⟩ : T1 _).a⟩ : T4 _ _ _ _).c)) := h297
            obtain ⟨u300, hT302, h301⟩ := im1 (hS.im (i := 0) rfl)
            obtain rfl : u300 = (.str ((⟨v_law_parts_here.e⟩ : T1 _).a)) := h301
            refine k_catT (x := ((⟨(⟨(⟨v_law_parts_here.a, v_law_parts_here.b, v_law_parts_here.c⟩ : T3 _ _ _).a, (⟨v_law_parts_here.a, v_law_parts_here.b, v_law_parts_here.c⟩ : T3 _ _ _).b, (⟨v_law_parts_here.a, v_law_parts_here.b, v_law_parts_here.c⟩ : T3 _ _ _).c, (⟨x256⟩ : T1 _).a⟩ : T4 _ _ _ _).a, (⟨(⟨v_law_parts_here.a, v_law_parts_here.b, v_law_parts_here.c⟩ : T3 _ _ _).a, (⟨v_law_parts_here.a, v_law_parts_here.b, v_law_parts_here.c⟩ : T3 _ _ _).b, (⟨v_law_parts_here.a, v_law_parts_here.b, v_law_parts_here.c⟩ : T3 _ _ _).c, (⟨x256⟩ : T1 _).a⟩ : T4 _ _ _ _).b, (⟨(⟨v_law_parts_here.a, v_law_parts_here.b, v_law_parts_here.c⟩ : T3 _ _ _).a, (⟨v_law_parts_here.a, v_law_parts_here.b, v_law_parts_here.c⟩ : T3 _ _ _).b, (⟨v_law_parts_here.a, v_law_parts_here.b, v_law_parts_here.c⟩ : T3 _ _ _).c, (⟨x256⟩ : T1 _).a⟩ : T4 _ _ _ _).c, (⟨(⟨v_law_parts_here.a, v_law_parts_here.b, v_law_parts_here.c⟩ : T3 _ _ _).a, (⟨v_law_parts_here.a, v_law_parts_here.b, v_law_parts_here.c⟩ : T3 _ _ _).b, (⟨v_law_parts_here.a, v_law_parts_here.b, v_law_parts_here.c⟩ : T3 _ _ _).c, (⟨x256⟩ : T1 _).a⟩ : T4 _ _ _ _).d, (⟨v_law_parts_here.e⟩ : T1 _).a⟩ : T5 _ _ _ _ _) : (T5 Str Str Str Any Str))) hS hT299 hT302 (fun z => nomatch z) (fun z => nomatch z) (fun H' p h s => mk5 rfl rfl rfl h298 rfl h s) (by show 5 ≤ sizeLine; decide) fun p303 H hS => ?_
            obtain ⟨u305, u306, u307, u308, u309, hT315, h310, h311, h312, h313, h314⟩ := im5 (hS.im (i := 0) rfl)
            obtain rfl : u305 = (.str ((⟨(⟨(⟨v_law_parts_here.a, v_law_parts_here.b, v_law_parts_here.c⟩ : T3 _ _ _).a, (⟨v_law_parts_here.a, v_law_parts_here.b, v_law_parts_here.c⟩ : T3 _ _ _).b, (⟨v_law_parts_here.a, v_law_parts_here.b, v_law_parts_here.c⟩ : T3 _ _ _).c, (⟨x256⟩ : T1 _).a⟩ : T4 _ _ _ _).a, (⟨(⟨v_law_parts_here.a, v_law_parts_here.b, v_law_parts_here.c⟩ : T3 _ _ _).a, (⟨v_law_parts_here.a, v_law_parts_here.b, v_law_parts_here.c⟩ : T3 _ _ _).b, (⟨v_law_parts_here.a, v_law_parts_here.b, v_law_parts_here.c⟩ : T3 _ _ _).c, (⟨x256⟩ : T1 _).a⟩ : T4 _ _ _ _).b, (⟨(⟨v_law_parts_here.a, v_law_parts_here.b, v_law_parts_here.c⟩ : T3 _ _ _).a, (⟨v_law_parts_here.a, v_law_parts_here.b, v_law_parts_here.c⟩ : T3 _ _ _).b, (⟨v_law_parts_here.a, v_law_parts_here.b, v_law_parts_here.c⟩ : T3 _ _ _).c, (⟨x256⟩ : T1 _).a⟩ : T4 _ _ _ _).c, (⟨(⟨v_law_parts_here.a, v_law_parts_here.b, v_law_parts_here.c⟩ : T3 _ _ _).a, (⟨v_law_parts_here.a, v_law_parts_here.b, v_law_parts_here.c⟩ : T3 _ _ _).b, (⟨v_law_parts_here.a, v_law_parts_here.b, v_law_parts_here.c⟩ : T3 _ _ _).c, (⟨x256⟩ : T1 _).a⟩ : T4 _ _ _ _).d, (⟨v_law_parts_here.e⟩ : T1 _).a⟩ : T5 _ _ _ _ _).a)) := h310
            obtain rfl : u306 = (.str ((⟨(⟨(⟨v_law_parts_here.a, v_law_parts_here.b, v_law_parts_here.c⟩ : T3 _ _ _).a, (⟨v_law_parts_here.a, v_law_parts_here.b, v_law_parts_here.c⟩ : T3 _ _ _).b, (⟨v_law_parts_here.a, v_law_parts_here.b, v_law_parts_here.c⟩ : T3 _ _ _).c, (⟨x256⟩ : T1 _).a⟩ : T4 _ _ _ _).a, (⟨(⟨v_law_parts_here.a, v_law_parts_here.b, v_law_parts_here.c⟩ : T3 _ _ _).a, (⟨v_law_parts_here.a, v_law_parts_here.b, v_law_parts_here.c⟩ : T3 _ _ _).b, (⟨v_law_parts_here.a, v_law_parts_here.b, v_law_parts_here.c⟩ : T3 _ _ _).c, (⟨x256⟩ : T1 _).a⟩ : T4 _ _ _ _).b, (⟨(⟨v_law_parts_here.a, v_law_parts_here.b, v_law_parts_here.c⟩ : T3 _ _ _).a, (⟨v_law_parts_here.a, v_law_parts_here.b, v_law_parts_here.c⟩ : T3 _ _ _).b, (⟨v_law_parts_here.a, v_law_parts_here.b, v_law_parts_here.c⟩ : T3 _ _ _).c, (⟨x256⟩ : T1 _).a⟩ : T4 _ _ _ _).c, (⟨(⟨v_law_parts_here.a, v_law_parts_here.b, v_law_parts_here.c⟩ : T3 _ _ _).a, (⟨v_law_parts_here.a, v_law_parts_here.b, v_law_parts_here.c⟩ : T3 _ _ _).b, (⟨v_law_parts_here.a, v_law_parts_here.b, v_law_parts_here.c⟩ : T3 _ _ _).c, (⟨x256⟩ : T1 _).a⟩ : T4 _ _ _ _).d, (⟨v_law_parts_here.e⟩ : T1 _).a⟩ : T5 _ _ _ _ _).b)) := h311
            obtain rfl : u307 = (.str ((⟨(⟨(⟨v_law_parts_here.a, v_law_parts_here.b, v_law_parts_here.c⟩ : T3 _ _ _).a, (⟨v_law_parts_here.a, v_law_parts_here.b, v_law_parts_here.c⟩ : T3 _ _ _).b, (⟨v_law_parts_here.a, v_law_parts_here.b, v_law_parts_here.c⟩ : T3 _ _ _).c, (⟨x256⟩ : T1 _).a⟩ : T4 _ _ _ _).a, (⟨(⟨v_law_parts_here.a, v_law_parts_here.b, v_law_parts_here.c⟩ : T3 _ _ _).a, (⟨v_law_parts_here.a, v_law_parts_here.b, v_law_parts_here.c⟩ : T3 _ _ _).b, (⟨v_law_parts_here.a, v_law_parts_here.b, v_law_parts_here.c⟩ : T3 _ _ _).c, (⟨x256⟩ : T1 _).a⟩ : T4 _ _ _ _).b, (⟨(⟨v_law_parts_here.a, v_law_parts_here.b, v_law_parts_here.c⟩ : T3 _ _ _).a, (⟨v_law_parts_here.a, v_law_parts_here.b, v_law_parts_here.c⟩ : T3 _ _ _).b, (⟨v_law_parts_here.a, v_law_parts_here.b, v_law_parts_here.c⟩ : T3 _ _ _).c, (⟨x256⟩ : T1 _).a⟩ : T4 _ _ _ _).c, (⟨(⟨v_law_parts_here.a, v_law_parts_here.b, v_law_parts_here.c⟩ : T3 _ _ _).a, (⟨v_law_parts_here.a, v_law_parts_here.b, v_law_parts_here.c⟩ : T3 _ _ _).b, (⟨v_law_parts_here.a, v_law_parts_here.b, v_law_parts_here.c⟩ : T3 _ _ _).c, (⟨x256⟩ : T1 _).a⟩ : T4 _ _ _ _).d, (⟨v_law_parts_here.e⟩ : T1 _).a⟩ : T5 _ _ _ _ _).c)) := h312
            obtain rfl : u309 = (.str ((⟨(⟨(⟨v_law_parts_here.a, v_law_parts_here.b, v_law_parts_here.c⟩ : T3 _ _ _).a, (⟨v_law_parts_here.a, v_law_parts_here.b, v_law_parts_here.c⟩ : T3 _ _ _).b, (⟨v_law_parts_here.a, v_law_parts_here.b, v_law_parts_here.c⟩ : T3 _ _ _).c, (⟨x256⟩ : T1 _).a⟩ : T4 _ _ _ _).a, (⟨(⟨v_law_parts_here.a, v_law_parts_here.b, v_law_parts_here.c⟩ : T3 _ _ _).a, (⟨v_law_parts_here.a, v_law_parts_here.b, v_law_parts_here.c⟩ : T3 _ _ _).b, (⟨v_law_parts_here.a, v_law_parts_here.b, v_law_parts_here.c⟩ : T3 _ _ _).c, (⟨x256⟩ : T1 _).a⟩ : T4 _ _ _ _).b, (⟨(⟨v_law_parts_here.a, v_law_parts_here.b, v_law_parts_here.c⟩ : T3 _ _ _).a, (⟨v_law_parts_here.a, v_law_parts_here.b, v_law_parts_here.c⟩ : T3 _ _ _).b, (⟨v_law_parts_here.a, v_law_parts_here.b, v_law_parts_here.c⟩ : T3 _ _ _).c, (⟨x256⟩ : T1 _).a⟩ : T4 _ _ _ _).c, (⟨(⟨v_law_parts_here.a, v_law_parts_here.b, v_law_parts_here.c⟩ : T3 _ _ _).a, (⟨v_law_parts_here.a, v_law_parts_here.b, v_law_parts_here.c⟩ : T3 _ _ _).b, (⟨v_law_parts_here.a, v_law_parts_here.b, v_law_parts_here.c⟩ : T3 _ _ _).c, (⟨x256⟩ : T1 _).a⟩ : T4 _ _ _ _).d, (⟨v_law_parts_here.e⟩ : T1 _).a⟩ : T5 _ _ _ _ _).e)) := h314
            have hS := hS.addIm (v := (.ref p303)) (x := ((Any.tup [(Any.str ((⟨(⟨(⟨v_law_parts_here.a, v_law_parts_here.b, v_law_parts_here.c⟩ : T3 _ _ _).a, (⟨v_law_parts_here.a, v_law_parts_here.b, v_law_parts_here.c⟩ : T3 _ _ _).b, (⟨v_law_parts_here.a, v_law_parts_here.b, v_law_parts_here.c⟩ : T3 _ _ _).c, (⟨x256⟩ : T1 _).a⟩ : T4 _ _ _ _).a, (⟨(⟨v_law_parts_here.a, v_law_parts_here.b, v_law_parts_here.c⟩ : T3 _ _ _).a, (⟨v_law_parts_here.a, v_law_parts_here.b, v_law_parts_here.c⟩ : T3 _ _ _).b, (⟨v_law_parts_here.a, v_law_parts_here.b, v_law_parts_here.c⟩ : T3 _ _ _).c, (⟨x256⟩ : T1 _).a⟩ : T4 _ _ _ _).b, (⟨(⟨v_law_parts_here.a, v_law_parts_here.b, v_law_parts_here.c⟩ : T3 _ _ _).a, (⟨v_law_parts_here.a, v_law_parts_here.b, v_law_parts_here.c⟩ : T3 _ _ _).b, (⟨v_law_parts_here.a, v_law_parts_here.b, v_law_parts_here.c⟩ : T3 _ _ _).c, (⟨x256⟩ : T1 _).a⟩ : T4 _ _ _ _).c, (⟨(⟨v_law_parts_here.a, v_law_parts_here.b, v_law_parts_here.c⟩ : T3 _ _ _).a, (⟨v_law_parts_here.a, v_law_parts_here.b, v_law_parts_here.c⟩ : T3 _ _ _).b, (⟨v_law_parts_here.a, v_law_parts_here.b, v_law_parts_here.c⟩ : T3 _ _ _).c, (⟨x256⟩ : T1 _).a⟩ : T4 _ _ _ _).d, (⟨v_law_parts_here.e⟩ : T1 _).a⟩ : T5 _ _ _ _ _).a)), (Any.str ((⟨(⟨(⟨v_law_parts_here.a, v_law_parts_here.b, v_law_parts_here.c⟩ : T3 _ _ _).a, (⟨v_law_parts_here.a, v_law_parts_here.b, v_law_parts_here.c⟩ : T3 _ _ _).b, (⟨v_law_parts_here.a, v_law_parts_here.b, v_law_parts_here.c⟩ : T3 _ _ _).c, (⟨x256⟩ : T1 _).a⟩ : T4 _ _ _ _).a, (⟨(⟨v_law_parts_here.a, v_law_parts_here.b, v_law_parts_here.c⟩ : T3 _ _ _).a, (⟨v_law_parts_here.a, v_law_parts_here.b, v_law_parts_here.c⟩ : T3 _ _ _).b, (⟨v_law_parts_here.a, v_law_parts_here.b, v_law_parts_here.c⟩ : T3 _ _ _).c, (⟨x256⟩ : T1 _).a⟩ : T4 _ _ _ _).b, (⟨(⟨v_law_parts_here.a, v_law_parts_here.b, v_law_parts_here.c⟩ : T3 _ _ _).a, (⟨v_law_parts_here.a, v_law_parts_here.b, v_law_parts_here.c⟩ : T3 _ _ _).b, (⟨v_law_parts_here.a, v_law_parts_here.b, v_law_parts_here.c⟩ : T3 _ _ _).c, (⟨x256⟩ : T1 _).a⟩ : T4 _ _ _ _).c, (⟨(⟨v_law_parts_here.a, v_law_parts_here.b, v_law_parts_here.c⟩ : T3 _ _ _).a, (⟨v_law_parts_here.a, v_law_parts_here.b, v_law_parts_here.c⟩ : T3 _ _ _).b, (⟨v_law_parts_here.a, v_law_parts_here.b, v_law_parts_here.c⟩ : T3 _ _ _).c, (⟨x256⟩ : T1 _).a⟩ : T4 _ _ _ _).d, (⟨v_law_parts_here.e⟩ : T1 _).a⟩ : T5 _ _ _ _ _).b)), (Any.str ((⟨(⟨(⟨v_law_parts_here.a, v_law_parts_here.b, v_law_parts_here.c⟩ : T3 _ _ _).a, (⟨v_law_parts_here.a, v_law_parts_here.b, v_law_parts_here.c⟩ : T3 _ _ _).b, (⟨v_law_parts_here.a, v_law_parts_here.b, v_law_parts_here.c⟩ : T3 _ _ _).c, (⟨x256⟩ : T1 _).a⟩ : T4 _ _ _ _).a, (⟨(⟨v_law_parts_here.a, v_law_parts_here.b, v_law_parts_here.c⟩ : T3 _ _ _).a, (⟨v_law_parts_here.a, v_law_parts_here.b, v_law_parts_here.c⟩ : T3 _ _ _).b, (⟨v_law_parts_here.a, v_law_parts_here.b, v_law_parts_here.c⟩ : T3 _ _ _).c, (⟨x256⟩ : T1 _).a⟩ : T4 _ _ _ _).b, (⟨(⟨v_law_parts_here.a, v_law_parts_here.b, v_law_parts_here.c⟩ : T3 _ _ _).a, (⟨v_law_parts_here.a, v_law_parts_here.b, v_law_parts_here.c⟩ : T3 _ _ _).b, (⟨v_law_parts_here.a, v_law_parts_here.b, v_law_parts_here.c⟩ : T3 _ _ _).c, (⟨x256⟩ : T1 _).a⟩ : T4 _ _ _ _).c, (⟨(⟨v_law_parts_here.a, v_law_parts_here.b, v_law_parts_here.c⟩ : T3 _ _ _).a, (⟨v_law_parts_here.a, v_law_parts_here.b, v_law_parts_here.c⟩ : T3 _ _ _).b, (⟨v_law_parts_here.a, v_law_parts_here.b, v_law_parts_here.c⟩ : T3 _ _ _).c, (⟨x256⟩ : T1 _).a⟩ : T4 _ _ _ _).d, (⟨v_law_parts_here.e⟩ : T1 _).a⟩ : T5 _ _ _ _ _).c)), (⟨(⟨(⟨v_law_parts_here.a, v_law_parts_here.b, v_law_parts_here.c⟩ : T3 _ _ _).a, (⟨v_law_parts_here.a, v_law_parts_here.b, v_law_parts_here.c⟩ : T3 _ _ _).b, (⟨v_law_parts_here.a, v_law_parts_here.b, v_law_parts_here.c⟩ : T3 _ _ _).c, (⟨x256⟩ : T1 _).a⟩ : T4 _ _ _ _).a, (⟨(⟨v_law_parts_here.a, v_law_parts_here.b, v_law_parts_here.c⟩ : T3 _ _ _).a, (⟨v_law_parts_here.a, v_law_parts_here.b, v_law_parts_here.c⟩ : T3 _ _ _).b, (⟨v_law_parts_here.a, v_law_parts_here.b, v_law_parts_here.c⟩ : T3 _ _ _).c, (⟨x256⟩ : T1 _).a⟩ : T4 _ _ _ _).b, (⟨(⟨v_law_parts_here.a, v_law_parts_here.b, v_law_parts_here.c⟩ : T3 _ _ _).a, (⟨v_law_parts_here.a, v_law_parts_here.b, v_law_parts_here.c⟩ : T3 _ _ _).b, (⟨v_law_parts_here.a, v_law_parts_here.b, v_law_parts_here.c⟩ : T3 _ _ _).c, (⟨x256⟩ : T1 _).a⟩ : T4 _ _ _ _).c, (⟨(⟨v_law_parts_here.a, v_law_parts_here.b, v_law_parts_here.c⟩ : T3 _ _ _).a, (⟨v_law_parts_here.a, v_law_parts_here.b, v_law_parts_here.c⟩ : T3 _ _ _).b, (⟨v_law_parts_here.a, v_law_parts_here.b, v_law_parts_here.c⟩ : T3 _ _ _).c, (⟨x256⟩ : T1 _).a⟩ : T4 _ _ _ _).d, (⟨v_law_parts_here.e⟩ : T1 _).a⟩ : T5 _ _ _ _ _).d, (Any.str ((⟨(⟨(⟨v_law_parts_here.a, v_law_parts_here.b, v_law_parts_here.c⟩ : T3 _ _ _).a, (⟨v_law_parts_here.a, v_law_parts_here.b, v_law_parts_here.c⟩ : T3 _ _ _).b, (⟨v_law_parts_here.a, v_law_parts_here.b, v_law_parts_here.c⟩ : T3 _ _ _).c, (⟨x256⟩ : T1 _).a⟩ : T4 _ _ _ _).a, (⟨(⟨v_law_parts_here.a, v_law_parts_here.b, v_law_parts_here.c⟩ : T3 _ _ _).a, (⟨v_law_parts_here.a, v_law_parts_here.b, v_law_parts_here.c⟩ : T3 _ _ _).b, (⟨v_law_parts_here.a, v_law_parts_here.b, v_law_parts_here.c⟩ : T3 _ _ _).c, (⟨x256⟩ : T1 _).a⟩ : T4 _ _ _ _).b, (⟨(⟨v_law_parts_here.a, v_law_parts_here.b, v_law_parts_here.c⟩ : T3 _ _ _).a, (⟨v_law_parts_here.a, v_law_parts_here.b, v_law_parts_here.c⟩ : T3 _ _ _).b, (⟨v_law_parts_here.a, v_law_parts_here.b, v_law_parts_here.c⟩ : T3 _ _ _).c, (⟨x256⟩ : T1 _).a⟩ : T4 _ _ _ _).c, (⟨(⟨v_law_parts_here.a, v_law_parts_here.b, v_law_parts_here.c⟩ : T3 _ _ _).a, (⟨v_law_parts_here.a, v_law_parts_here.b, v_law_parts_here.c⟩ : T3 _ _ _).b, (⟨v_law_parts_here.a, v_law_parts_here.b, v_law_parts_here.c⟩ : T3 _ _ _).c, (⟨x256⟩ : T1 _).a⟩ : T4 _ _ _ _).d, (⟨v_law_parts_here.e⟩ : T1 _).a⟩ : T5 _ _ _ _ _).e))]) : Any)) ((any_tup (xs := [(Any.str ((⟨(⟨(⟨v_law_parts_here.a, v_law_parts_here.b, v_law_parts_here.c⟩ : T3 _ _ _).a, (⟨v_law_parts_here.a, v_law_parts_here.b, v_law_parts_here.c⟩ : T3 _ _ _).b, (⟨v_law_parts_here.a, v_law_parts_here.b, v_law_parts_here.c⟩ : T3 _ _ _).c, (⟨x256⟩ : T1 _).a⟩ : T4 _ _ _ _).a, (⟨(⟨v_law_parts_here.a, v_law_parts_here.b, v_law_parts_here.c⟩ : T3 _ _ _).a, (⟨v_law_parts_here.a, v_law_parts_here.b, v_law_parts_here.c⟩ : T3 _ _ _).b, (⟨v_law_parts_here.a, v_law_parts_here.b, v_law_parts_here.c⟩ : T3 _ _ _).c, (⟨x256⟩ : T1 _).a⟩ : T4 _ _ _ _).b, (⟨(⟨v_law_parts_here.a, v_law_parts_here.b, v_law_parts_here.c⟩ : T3 _ _ _).a, (⟨v_law_parts_here.a, v_law_parts_here.b, v_law_parts_here.c⟩ : T3 _ _ _).b, (⟨v_law_parts_here.a, v_law_parts_here.b, v_law_parts_here.c⟩ : T3 _ _ _).c, (⟨x256⟩ : T1 _).a⟩ : T4 _ _ _ _).c, (⟨(⟨v_law_parts_here.a, v_law_parts_here.b, v_law_parts_here.c⟩ : T3 _ _ _).a, (⟨v_law_parts_here.a, v_law_parts_here.b, v_law_parts_here.c⟩ : T3 _ _ _).b, (⟨v_law_parts_here.a, v_law_parts_here.b, v_law_parts_here.c⟩ : T3 _ _ _).c, (⟨x256⟩ : T1 _).a⟩ : T4 _ _ _ _).d, (⟨v_law_parts_here.e⟩ : T1 _).a⟩ : T5 _ _ _ _ _).a)), (Any.str ((⟨(⟨(⟨v_law_parts_here.a, v_law_parts_here.b, v_law_parts_here.c⟩ : T3 _ _ _).a, (⟨v_law_parts_here.a, v_law_parts_here.b, v_law_parts_here.c⟩ : T3 _ _ _).b, (⟨v_law_parts_here.a, v_law_parts_here.b, v_law_parts_here.c⟩ : T3 _ _ _).c, (⟨x256⟩ : T1 _).a⟩ : T4 _ _ _ _).a, (⟨(⟨v_law_parts_here.a, v_law_parts_here.b, v_law_parts_here.c⟩ : T3 _ _ _).a, (⟨v_law_parts_here.a, v_law_parts_here.b, v_law_parts_here.c⟩ : T3 _ _ _).b, (⟨v_law_parts_here.a, v_law_parts_here.b, v_law_parts_here.c⟩ : T3 _ _ _).c, (⟨x256⟩ : T1 _).a⟩ : T4 _ _ _ _).b, (⟨(⟨v_law_parts_here.a, v_law_parts_here.b, v_law_parts_here.c⟩ : T3 _ _ _).a, (⟨v_law_parts_here.a, v_law_parts_here.b, v_law_parts_here.c⟩ : T3 _ _ _).b, (⟨v_law_parts_here.a, v_law_parts_here.b, v_law_parts_here.c⟩ : T3 _ _ _).c, (⟨x256⟩ : T1 _).a⟩ : T4 _ _ _ _).c, (⟨(⟨v_law_parts_here.a, v_law_parts_here.b, v_law_parts_here.c⟩ : T3 _ _ _).a, (⟨v_law_parts_here.a, v_law_parts_here.b, v_law_parts_here.c⟩ : T3 _ _ _).b, (⟨v_law_parts_here.a, v_law_parts_here.b, v_law_parts_here.c⟩ : T3 _ _ _).c, (⟨x256⟩ : T1 _).a⟩ : T4 _ _ _ _).d, (⟨v_law_parts_here.e⟩ : T1 _).a⟩ : T5 _ _ _ _ _).b)), (Any.str ((⟨(⟨(⟨v_law_parts_here.a, v_law_parts_here.b, v_law_parts_here.c⟩ : T3 _ _ _).a, (⟨v_law_parts_here.a, v_law_parts_here.b, v_law_parts_here.c⟩ : T3 _ _ _).b, (⟨v_law_parts_here.a, v_law_parts_here.b, v_law_parts_here.c⟩ : T3 _ _ _).c, (⟨x256⟩ : T1 _).a⟩ : T4 _ _ _ _).a, (⟨(⟨v_law_parts_here.a, v_law_parts_here.b, v_law_parts_here.c⟩ : T3 _ _ _).a, (⟨v_law_parts_here.a, v_law_parts_here.b, v_law_parts_here.c⟩ : T3 _ _ _).b, (⟨v_law_parts_here.a, v_law_parts_here.b, v_law_parts_here.c⟩ : T3 _ _ _).c, (⟨x256⟩ : T1 _).a⟩ : T4 _ _ _ _).b, (⟨(⟨v_law_parts_here.a, v_law_parts_here.b, v_law_parts_here.c⟩ : T3 _ _ _).a, (⟨v_law_parts_here.a, v_law_parts_here.b, v_law_parts_here.c⟩ : T3 _ _ _).b, (⟨v_law_parts_here.a, v_law_parts_here.b, v_law_parts_here.c⟩ : T3 _ _ _).c, (⟨x256⟩ : T1 _).a⟩ : T4 _ _ _ _).c, (⟨(⟨v_law_parts_here.a, v_law_parts_here.b, v_law_parts_here.c⟩ : T3 _ _ _).a, (⟨v_law_parts_here.a, v_law_parts_here.b, v_law_parts_here.c⟩ : T3 _ _ _).b, (⟨v_law_parts_here.a, v_law_parts_here.b, v_law_parts_here.c⟩ : T3 _ _ _).c, (⟨x256⟩ : T1 _).a⟩ : T4 _ _ _ _).d, (⟨v_law_parts_here.e⟩ : T1 _).a⟩ : T5 _ _ _ _ _).c)), (⟨(⟨(⟨v_law_parts_here.a, v_law_parts_here.b, v_law_parts_here.c⟩ : T3 _ _ _).a, (⟨v_law_parts_here.a, v_law_parts_here.b, v_law_parts_here.c⟩ : T3 _ _ _).b, (⟨v_law_parts_here.a, v_law_parts_here.b, v_law_parts_here.c⟩ : T3 _ _ _).c, (⟨x256⟩ : T1 _).a⟩ : T4 _ _ _ _).a, (⟨(⟨v_law_parts_here.a, v_law_parts_here.b, v_law_parts_here.c⟩ : T3 _ _ _).a, (⟨v_law_parts_here.a, v_law_parts_here.b, v_law_parts_here.c⟩ : T3 _ _ _).b, (⟨v_law_parts_here.a, v_law_parts_here.b, v_law_parts_here.c⟩ : T3 _ _ _).c, (⟨x256⟩ : T1 _).a⟩ : T4 _ _ _ _).b, (⟨(⟨v_law_parts_here.a, v_law_parts_here.b, v_law_parts_here.c⟩ : T3 _ _ _).a, (⟨v_law_parts_here.a, v_law_parts_here.b, v_law_parts_here.c⟩ : T3 _ _ _).b, (⟨v_law_parts_here.a, v_law_parts_here.b, v_law_parts_here.c⟩ : T3 _ _ _).c, (⟨x256⟩ : T1 _).a⟩ : T4 _ _ _ _).c, (⟨(⟨v_law_parts_here.a, v_law_parts_here.b, v_law_parts_here.c⟩ : T3 _ _ _).a, (⟨v_law_parts_here.a, v_law_parts_here.b, v_law_parts_here.c⟩ : T3 _ _ _).b, (⟨v_law_parts_here.a, v_law_parts_here.b, v_law_parts_here.c⟩ : T3 _ _ _).c, (⟨x256⟩ : T1 _).a⟩ : T4 _ _ _ _).d, (⟨v_law_parts_here.e⟩ : T1 _).a⟩ : T5 _ _ _ _ _).d, (Any.str ((⟨(⟨(⟨v_law_parts_here.a, v_law_parts_here.b, v_law_parts_here.c⟩ : T3 _ _ _).a, (⟨v_law_parts_here.a, v_law_parts_here.b, v_law_parts_here.c⟩ : T3 _ _ _).b, (⟨v_law_parts_here.a, v_law_parts_here.b, v_law_parts_here.c⟩ : T3 _ _ _).c, (⟨x256⟩ : T1 _).a⟩ : T4 _ _ _ _).a, (⟨(⟨v_law_parts_here.a, v_law_parts_here.b, v_law_parts_here.c⟩ : T3 _ _ _).a, (⟨v_law_parts_here.a, v_law_parts_here.b, v_law_parts_here.c⟩ : T3 _ _ _).b, (⟨v_law_parts_here.a, v_law_parts_here.b, v_law_parts_here.c⟩ : T3 _ _ _).c, (⟨x256⟩ : T1 _).a⟩ : T4 _ _ _ _).b, (⟨(⟨v_law_parts_here.a, v_law_parts_here.b, v_law_parts_here.c⟩ : T3 _ _ _).a, (⟨v_law_parts_here.a, v_law_parts_here.b, v_law_parts_here.c⟩ : T3 _ _ _).b, (⟨v_law_parts_here.a, v_law_parts_here.b, v_law_parts_here.c⟩ : T3 _ _ _).c, (⟨x256⟩ : T1 _).a⟩ : T4 _ _ _ _).c, (⟨(⟨v_law_parts_here.a, v_law_parts_here.b, v_law_parts_here.c⟩ : T3 _ _ _).a, (⟨v_law_parts_here.a, v_law_parts_here.b, v_law_parts_here.c⟩ : T3 _ _ _).b, (⟨v_law_parts_here.a, v_law_parts_here.b, v_law_parts_here.c⟩ : T3 _ _ _).c, (⟨x256⟩ : T1 _).a⟩ : T4 _ _ _ _).d, (⟨v_law_parts_here.e⟩ : T1 _).a⟩ : T5 _ _ _ _ _).e))])).mpr ⟨_, _, rfl, hT315, ⟨(any_str.mpr rfl), ⟨(any_str.mpr rfl), ⟨(any_str.mpr rfl), ⟨h313, ⟨(any_str.mpr rfl), True.intro⟩⟩⟩⟩⟩⟩)
            exact hm _ _ (hS.sel [0, 13] (by decide) rfl)
          · have hm := hn (by rw [hb233]; decide)
            refine st_nx ?_
            refine sq_nx ?_
            refine f_seq ?_
            refine c_asg ?_
            refine c_call ?_
            refine ea_to (ea_cons (ev_var rfl) (ea_cons ev_c ea_nil)) ?_
            refine ⟨y2, ("abc" : Str), star [imA (.ref a_v_law_parts_here) (v_law_parts_here : (T5 Str Str Str Int Str)), F], rfl, Sep.unstar (M := []) (hS.sel [0, 1] (by decide) rfl : Sep H (([] ++ [imA (.ref a_v_law_parts_here) (v_law_parts_here : (T5 Str Str Str Int Str)), F] : List (Asn G)))), R.wp_mono (R.wp_bind hm) (fun r317 hm p318 H hS => ?_) (fun _ z => z)⟩
            have hS : Sep H ([imA p318 (r317 : Any), imA (.ref a_v_law_parts_here) (v_law_parts_here : (T5 Str Str Str Int Str)), F] : List (Asn G)) := Sep.star (M := [imA p318 (r317 : Any)]) hS
            refine c_set (σ' := [some (.int (v_law_number)), some (.ref a_v_law_parts_here), some (.int (y1)), some (.int (y2)), none, none, some p318]) rfl ?_
            refine sq_nx ?_
            refine f_seq ?_
            refine f_if ?_
            obtain ⟨b320, hb320, hm⟩ := wp_eqX hm
            refine et_to (et_test (ev_eqX (ev_var rfl) ev_c (hS.im (i := 0) rfl) (any_str.mpr rfl) hb320)) ?_
            refine ifK_J (τ := Any) (fun (s321 : Any) (σ : L2.St) (H : Hp) => ∃ (a322 : V), σ = [some (.int (v_law_number)), some (.ref a_v_law_parts_here), some (.int (y1)), some (.int (y2)), none, none, some a322] ∧ Sep H ([imA a322 (s321 : Any), imA p318 (r317 : Any), imA (.ref a_v_law_parts_here) (v_law_parts_here : (T5 Str Str Str Int Str)), F] : List (Asn G))) hm (fun hb q hm nx => ?_) (fun hb q hm nx => ?_) (fun s321 σ H hm hI => ?_)
            ·
              refine c_asg ?_
              refine ev_to ev_c ?_
              have hS := hS.addIm (v := (.str (("a b" : Str)))) (x := ((Any.str ("a b" : Str)) : Any)) (any_str.mpr rfl)
              refine c_set (σ' := [some (.int (v_law_number)), some (.ref a_v_law_parts_here), some (.int (y1)), some (.int (y2)), none, none, some (.str (("a b" : Str)))]) rfl ?_
              exact nx _ _ _ hm ⟨_, rfl, hS.sel [0, 1, 2, 3] (by decide) rfl⟩
            ·
              refine st_nx ?_
              have hS := hS.addIm (hS.im (i := 0) rfl)
              exact nx _ _ _ hm ⟨_, rfl, hS.sel [1, 0, 2, 3] (by decide) rfl⟩
            · obtain ⟨a322, rfl, hS⟩ := hI
              refine sq_nx ?_
              refine c_ret ?_
              refine c_op ?_
              refine c_sl ?_
              refine ev_to (ev_var rfl) ?_
              obtain ⟨u326, u327, u328, u329, u330, hT336, h331, h332, h333, h334, h335⟩ := im5 (hS.im (i := 2) rfl)
              obtain rfl : u326 = (.str (v_law_parts_here.a)) := h331
              obtain rfl : u327 = (.str (v_law_parts_here.b)) := h332
              obtain rfl : u328 = (.str (v_law_parts_here.c)) := h333
              obtain rfl : u329 = (.int (v_law_parts_here.d)) := h334
              obtain rfl : u330 = (.str (v_law_parts_here.e)) := h335
              refine eo_to eo_no ?_
              refine eo_to (eo_some ev_c) ?_
              refine k_slT (x := ((⟨v_law_parts_here.a, v_law_parts_here.b, v_law_parts_here.c, v_law_parts_here.d⟩ : T4 _ _ _ _) : (T4 Str Str Str Int))) hS hT336 rfl (by show ¬ (HT.sIx 5 0 none = 0 ∧ HT.sIx 5 5 (some (4)) = 5); decide) (fun H' p h s => mk4 rfl rfl rfl rfl h s) fun p337 H hS => ?_
              refine c_tup ?_
              refine ea_to (ea_cons (ev_var rfl) ea_nil) ?_
              refine k_tupP (x := ((⟨s321⟩ : T1 _) : (T1 Any))) hS (fun H' p h s => mk1 (hS.im (i := 1) rfl) h s) (by show 1 ≤ sizeLine; decide) fun p339 H hS => ?_
              obtain ⟨u341, u342, u343, u344, hT349, h345, h346, h347, h348⟩ := im4 (hS.im (i := 1) rfl)
              obtain rfl : u341 = (.str ((⟨v_law_parts_here.a, v_law_parts_here.b, v_law_parts_here.c, v_law_parts_here.d⟩ : T4 _ _ _ _).a)) := h345
              obtain rfl : u342 = (.str ((⟨v_law_parts_here.a, v_law_parts_here.b, v_law_parts_here.c, v_law_parts_here.d⟩ : T4 _ _ _ _).b)) := h346
              obtain rfl : u343 = (.str ((⟨v_law_parts_here.a, v_law_parts_here.b, v_law_parts_here.c, v_law_parts_here.d⟩ : T4 _ _ _ _).c)) := h347
              obtain rfl : u344 = (.int ((⟨v_law_parts_here.a, v_law_parts_here.b, v_law_parts_here.c, v_law_parts_here.d⟩ : T4 _ _ _ _).d)) := h348
              obtain ⟨u350, hT352, h351⟩ := im1 (hS.im (i := 0) rfl)
              refine k_catT (x := ((⟨(⟨v_law_parts_here.a, v_law_parts_here.b, v_law_parts_here.c, v_law_parts_here.d⟩ : T4 _ _ _ _).a, (⟨v_law_parts_here.a, v_law_parts_here.b, v_law_parts_here.c, v_law_parts_here.d⟩ : T4 _ _ _ _).b, (⟨v_law_parts_here.a, v_law_parts_here.b, v_law_parts_here.c, v_law_parts_here.d⟩ : T4 _ _ _ _).c, (⟨v_law_parts_here.a, v_law_parts_here.b, v_law_parts_here.c, v_law_parts_here.d⟩ : T4 _ _ _ _).d, (⟨s321⟩ : T1 _).a⟩ : T5 _ _ _ _ _) : (T5 Str Str Str Int Any))) hS hT349 hT352 (fun z => nomatch z) (fun z => nomatch z) (fun H' p h s => mk5 rfl rfl rfl rfl h351 h s) (by show 5 ≤ sizeLine; decide) fun p353 H hS => ?_
              obtain ⟨u355, u356, u357, u358, u359, hT365, h360, h361, h362, h363, h364⟩ := im5 (hS.im (i := 0) rfl)
              obtain rfl : u355 = (.str ((⟨(⟨v_law_parts_here.a, v_law_parts_here.b, v_law_parts_here.c, v_law_parts_here.d⟩ : T4 _ _ _ _).a, (⟨v_law_parts_here.a, v_law_parts_here.b, v_law_parts_here.c, v_law_parts_here.d⟩ : T4 _ _ _ _).b, (⟨v_law_parts_here.a, v_law_parts_here.b, v_law_parts_here.c, v_law_parts_here.d⟩ : T4 _ _ _ _).c, (⟨v_law_parts_here.a, v_law_parts_here.b, v_law_parts_here.c, v_law_parts_here.d⟩ : T4 _ _ _ _).d, (⟨s321⟩ : T1 _).a⟩ : T5 _ _ _ _ _).a)) := h360
              obtain rfl : u356 = (.str ((⟨(⟨v_law_parts_here.a, v_law_parts_here.b, v_law_parts_here.c, v_law_parts_here.d⟩ : T4 _ _ _ _).a, (⟨v_law_parts_here.a, v_law_parts_here.b, v_law_parts_here.c, v_law_parts_here.d⟩ : T4 _ _ _ _).b, (⟨v_law_parts_here.a, v_law_parts_here.b, v_law_parts_here.c, v_law_parts_here.d⟩ : T4 _ _ _ _).c, (⟨v_law_parts_here.a, v_law_parts_here.b, v_law_parts_here.c, v_law_parts_here.d⟩ : T4 _ _ _ _).d, (⟨s321⟩ : T1 _).a⟩ : T5 _ _ _ _ _).b)) := h361
              obtain rfl : u357 = (.str ((⟨(⟨v_law_parts_here.a, v_law_parts_here.b, v_law_parts_here.c, v_law_parts_here.d⟩ : T4 _ _ _ _).a, (⟨v_law_parts_here.a, v_law_parts_here.b, v_law_parts_here.c, v_law_parts_here.d⟩ : T4 _ _ _ _).b, (⟨v_law_parts_here.a, v_law_parts_here.b, v_law_parts_here.c, v_law_parts_here.d⟩ : T4 _ _ _ _).c, (⟨v_law_parts_here.a, v_law_parts_here.b, v_law_parts_here.c, v_law_parts_here.d⟩ : T4 _ _ _ _).d, (⟨s321⟩ : T1 _).a⟩ : T5 _ _ _ _ _).c)) := h362
              obtain rfl : u358 = (.int ((⟨(⟨v_law_parts_here.a, v_law_parts_here.b, v_law_parts_here.c, v_law_parts_here.d⟩ : T4 _ _ _ _).a, (⟨v_law_parts_here.a, v_law_parts_here.b, v_law_parts_here.c, v_law_parts_here.d⟩ : T4 _ _ _ _).b, (⟨v_law_parts_here.a, v_law_parts_here.b, v_law_parts_here.c, v_law_parts_here.d⟩ : T4 _ _ _ _).c, (⟨v_law_parts_here.a, v_law_parts_here.b, v_law_parts_here.c, v_law_parts_here.d⟩ : T4 _ _ _ _).d, (⟨s321⟩ : T1 _).a⟩ : T5 _ _ _ _ _).d)) := h363
              have hS := hS.addIm (v := (.ref p353)) (x := ((Any.tup [(Any.str ((⟨(⟨v_law_parts_here.a, v_law_parts_here.b, v_law_parts_here.c, v_law_parts_here.d⟩ : T4 _ _ _ _).a, (⟨v_law_parts_here.a, v_law_parts_here.b, v_law_parts_here.c, v_law_parts_here.d⟩ : T4 _ _ _ _).b, (⟨v_law_parts_here.a, v_law_parts_here.b, v_law_parts_here.c, v_law_parts_here.d⟩ : T4 _ _ _ _).c, (⟨v_law_parts_here.a, v_law_parts_here.b, v_law_parts_here.c, v_law_parts_here.d⟩ : T4 _ _ _ _).d, (⟨s321⟩ : T1 _).a⟩ : T5 _ _ _ _ _).a)), (Any.str ((⟨(⟨v_law_parts_here.a, v_law_parts_here.b, v_law_parts_here.c, v_law_parts_here.d⟩ : T4 _ _ _ _).a, (⟨v_law_parts_here.a, v_law_parts_here.b, v_law_parts_here.c, v_law_parts_here.d⟩ : T4 _ _ _ _).b, (⟨v_law_parts_here.a, v_law_parts_here.b, v_law_parts_here.c, v_law_parts_here.d⟩ : T4 _ _ _ _).c, (⟨v_law_parts_here.a, v_law_parts_here.b, v_law_parts_here.c, v_law_parts_here.d⟩ : T4 _ _ _ _).d, (⟨s321⟩ : T1 _).a⟩ : T5 _ _ _ _ _).b)), (Any.str ((⟨(⟨v_law_parts_here.a, v_law_parts_here.b, v_law_parts_here.c, v_law_parts_here.d⟩ : T4 _ _ _ _).a, (⟨v_law_parts_here.a, v_law_parts_here.b, v_law_parts_here.c, v_law_parts_here.d⟩ : T4 _ _ _ _).b, (⟨v_law_parts_here.a, v_law_parts_here.b, v_law_parts_here.c, v_law_parts_here.d⟩ : T4 _ _ _ _).c, (⟨v_law_parts_here.a, v_law_parts_here.b, v_law_parts_here.c, v_law_parts_here.d⟩ : T4 _ _ _ _).d, (⟨s321⟩ : T1 _).a⟩ : T5 _ _ _ _ _).c)), (Any.int ((⟨(⟨v_law_parts_here.a, v_law_parts_here.b, v_law_parts_here.c, v_law_parts_here.d⟩ : T4 _ _ _ _).a, (⟨v_law_parts_here.a, v_law_parts_here.b, v_law_parts_here.c, v_law_parts_here.d⟩ : T4 _ _ _ _).b, (⟨v_law_parts_here.a, v_law_parts_here.b, v_law_parts_here.c, v_law_parts_here.d⟩ : T4 _ _ _ _).c, (⟨v_law_parts_here.a, v_law_parts_here.b, v_law_parts_here.c, v_law_parts_here.d⟩ : T4 _ _ _ _).d, (⟨s321⟩ : T1 _).a⟩ : T5 _ _ _ _ _).d)), (⟨(⟨v_law_parts_here.a, v_law_parts_here.b, v_law_parts_here.c, v_law_parts_here.d⟩ : T4 _ _ _ _).a, (⟨v_law_parts_here.a, v_law_parts_here.b, v_law_parts_here.c, v_law_parts_here.d⟩ : T4 _ _ _ _).b, (⟨v_law_parts_here.a, v_law_parts_here.b, v_law_parts_here.c, v_law_parts_here.d⟩ : T4 _ _ _ _).c, (⟨v_law_parts_here.a, v_law_parts_here.b, v_law_parts_here.c, v_law_parts_here.d⟩ : T4 _ _ _ _).d, (⟨s321⟩ : T1 _).a⟩ : T5 _ _ _ _ _).e]) : Any)) ((any_tup (xs := [(Any.str ((⟨(⟨v_law_parts_here.a, v_law_parts_here.b, v_law_parts_here.c, v_law_parts_here.d⟩ : T4 _ _ _ _).a, (⟨v_law_parts_here.a, v_law_parts_here.b, v_law_parts_here.c, v_law_parts_here.d⟩ : T4 _ _ _ _).b, (⟨v_law_parts_here.a, v_law_parts_here.b, v_law_parts_here.c, v_law_parts_here.d⟩ : T4 _ _ _ _).c, (⟨v_law_parts_here.a, v_law_parts_here.b, v_law_parts_here.c, v_law_parts_here.d⟩ : T4 _ _ _ _).d, (⟨s321⟩ : T1 _).a⟩ : T5 _ _ _ _ _).a)), (Any.str ((⟨(⟨v_law_parts_here.a, v_law_parts_here.b, v_law_parts_here.c, v_law_parts_here.d⟩ : T4 _ _ _ _).a, (⟨v_law_parts_here.a, v_law_parts_here.b, v_law_parts_here.c, v_law_parts_here.d⟩ : T4 _ _ _ _).b, (⟨v_law_parts_here.a, v_law_parts_here.b, v_law_parts_here.c, v_law_parts_here.d⟩ : T4 _ _ _ _).c, (⟨v_law_parts_here.a, v_law_parts_here.b, v_law_parts_here.c, v_law_parts_here.d⟩ : T4 _ _ _ _).d, (⟨s321⟩ : T1 _).a⟩ : T5 _ _ _ _ _).b)), (Any.str ((⟨(⟨v_law_parts_here.a, v_law_parts_here.b, v_law_parts_here.c, v_law_parts_here.d⟩ : T4 _ _ _ _).a, (⟨v_law_parts_here.a, v_law_parts_here.b, v_law_parts_here.c, v_law_parts_here.d⟩ : T4 _ _ _ _).b, (⟨v_law_parts_here.a, v_law_parts_here.b, v_law_parts_here.c, v_law_parts_here.d⟩ : T4 _ _ _ _).c, (⟨v_law_parts_here.a, v_law_parts_here.b, v_law_parts_here.c, v_law_parts_here.d⟩ : T4 _ _ _ _).d, (⟨s321⟩ : T1 _).a⟩ : T5 _ _ _ _ _).c)), (Any.int ((⟨(⟨v_law_parts_here.a, v_law_parts_here.b, v_law_parts_here.c, v_law_parts_here.d⟩ : T4 _ _ _ _).a, (⟨v_law_parts_here.a, v_law_parts_here.b, v_law_parts_here.c, v_law_parts_here.d⟩ : T4 _ _ _ _).b, (⟨v_law_parts_here.a, v_law_parts_here.b, v_law_parts_here.c, v_law_parts_here.d⟩ : T4 _ _ _ _).c, (⟨v_law_parts_here.a, v_law_parts_here.b, v_law_parts_here.c, v_law_parts_here.d⟩ : T4 _ _ _ _).d, (⟨s321⟩ : T1 _).a⟩ : T5 _ _ _ _ _).d)), (⟨(⟨v_law_parts_here.a, v_law_parts_here.b, v_law_parts_here.c, v_law_parts_here.d⟩ : T4 _ _ _ _).a, (⟨v_law_parts_here.a, v_law_parts_here.b, v_law_parts_here.c, v_law_parts_here.d⟩ : T4 _ _ _ _).b, (⟨v_law_parts_here.a, v_law_parts_here.b, v_law_parts_here.c, v_law_parts_here.d⟩ : T4 _ _ _ _).c, (⟨v_law_parts_here.a, v_law_parts_here.b, v_law_parts_here.c, v_law_parts_here.d⟩ : T4 _ _ _ _).d, (⟨s321⟩ : T1 _).a⟩ : T5 _ _ _ _ _).e])).mpr ⟨_, _, rfl, hT365, ⟨(any_str.mpr rfl), ⟨(any_str.mpr rfl), ⟨(any_str.mpr rfl), ⟨(any_int.mpr rfl), ⟨h364, True.intro⟩⟩⟩⟩⟩⟩)
              exact hm _ _ (hS.sel [0, 7] (by decide) rfl)
def sp_law_refused (G : Gx) : Sp := fun vs H Q E => ∃ (a_v_law_parts_here : V) (v_law_parts_here : Any) (v_law_way : Int) (F : Asn G), vs = [a_v_law_parts_here, (.int (v_law_way))] ∧ Im.im G H a_v_law_parts_here v_law_parts_here ∧ Sep H ([F] : List (Asn G)) ∧ R.wp (m_law_refused v_law_parts_here v_law_way) (fun r => ∀ H', Sep H' ([F] : List (Asn G)) → Q (.bl (r)) H') (fun _ => False)
abbrev N_law_refused : List Str := ["_law_parts_here", "_law_way", "_law_e"]
theorem sc_law_refused : FnScope N_law_refused ["_law_parts_here", "_law_way"] (defScope s_law_refused) := ⟨rfl, rfl, rfl, by decide +kernel, rfl, by decide +kernel, by decide +kernel⟩
theorem ok_law_refused (T : Txt G mg) : FnOk P w G.K mg base CX0 6 T.a_law_refused T.fd_law_refused ["_law_parts_here", "_law_way"] (sp_law_refused G) := by
  have nd := sc_law_refused.nd
  refine Fun.ok T.F_law_refused sc_law_refused (fun vs H Q E h => ?_) (fun cdv A outer s H vs Q E hr h => ?_)
  · obtain ⟨a_v_law_parts_here, v_law_parts_here, v_law_way, F, rfl, _⟩ := h; rfl
  · obtain ⟨a_v_law_parts_here, v_law_parts_here, v_law_way, F, rfl, him_v_law_parts_here, hS, hm⟩ := h
    have hS := hS.addIm him_v_law_parts_here
    refine ⟨_, (pss_cons (ps_try_as (i := 2) rfl rfl nd rfl rfl ⟨rfl, by decide, .inl T.g_MailError⟩ takes0 (fun W pn xe tk po => (pss_one (ps_if (pt_cmpR op_eq (pv 1) pe_int (nomark _)) (pss_one (ps_expr (pe_makeSD T.k_Letter (ok_Letter___init__ T) (hr.mono (by decide)) rfl T.g_Letter T.b_Letter___init__ .nil (fun σ => passAt tk σ) (pa_cons (pe_ix (ix_tupK G.K) (pv 0) pe_int (fun _ _ => rfl)) (pa_cons (pe_ix (ix_tupK G.K) (pv 0) pe_int (fun _ _ => rfl)) (pa_cons (pe_ix (ix_tupK G.K) (pv 0) pe_int (fun _ _ => rfl)) (pa_cons (pe_ix (ix_tupK G.K) (pv 0) pe_int (fun _ _ => rfl)) (pa_cons (pe_ix (ix_tupK G.K) (pv 0) pe_int (fun _ _ => rfl)) pa_nil)))))))) (pss_one (ps_expr (pe_callSD (ok_letter_of T) (hr.mono (by decide)) rfl T.g_letter_of T.kp_letter_of T.b_letter_of .nil (fun σ => passAt tk σ) (pa_cons (pv 0) pa_nil))))))) (fun a oe cls d pn hz hf => (pss_one (ps_ret (pe_and (pe_callB (call_isEd G.K List.mem_cons_self hz hf) (by rfl) T.z_isinstance (by decide +kernel) (pa_cons (pv 2) (pa_cons (pe_glob (v := .ref (G.cl 2)) rfl T.g_NoLetter rfl) pa_nil))) (pe_one (pe_callE List.mem_cons_self hz hf (ok_law_of_one_class T) (hotRoom hr (by decide)) rfl T.g_law_of_one_class T.kp_law_of_one_class T.b_law_of_one_class (pa_cons (pv 2) pa_nil))))))))
      (pss_one (ps_ret pe_bl))), ?_⟩
    unfold m_law_refused at hm
    refine f_seq ?_
    refine f_if ?_
    refine et_to (et_test (ev_eqI (ev_var rfl) ev_c)) ?_
    obtain ⟨hy, hn⟩ := R.wp_if hm
    refine ifK_2 (fun hb1 => ?_) (fun hb1 => ?_)
    · have hm := hy hb1
      refine c_drop ?_
      refine c_makeSD ?_
      obtain ⟨xs2, h3, hm⟩ := Ml.wp_asTup hm
      obtain ⟨x4, hx4, hm⟩ := wp_idx hm
      obtain ⟨a5, vs6, he7, hg8, hM9⟩ := any_tupE (hS.im (i := 0) rfl) h3
      obtain ⟨u10, hu11, hi12⟩ := atI_im hM9 hx4
      obtain ⟨xs13, h14, hm⟩ := Ml.wp_asTup hm
      obtain ⟨x15, hx15, hm⟩ := wp_idx hm
      obtain ⟨a16, vs17, he18, hg19, hM20⟩ := any_tupE (hS.im (i := 0) rfl) h14
      obtain ⟨u21, hu22, hi23⟩ := atI_im hM20 hx15
      obtain ⟨xs24, h25, hm⟩ := Ml.wp_asTup hm
      obtain ⟨x26, hx26, hm⟩ := wp_idx hm
      obtain ⟨a27, vs28, he29, hg30, hM31⟩ := any_tupE (hS.im (i := 0) rfl) h25
      obtain ⟨u32, hu33, hi34⟩ := atI_im hM31 hx26
      obtain ⟨xs35, h36, hm⟩ := Ml.wp_asTup hm
      obtain ⟨x37, hx37, hm⟩ := wp_idx hm
      obtain ⟨a38, vs39, he40, hg41, hM42⟩ := any_tupE (hS.im (i := 0) rfl) h36
      obtain ⟨u43, hu44, hi45⟩ := atI_im hM42 hx37
      obtain ⟨xs46, h47, hm⟩ := Ml.wp_asTup hm
      obtain ⟨x48, hx48, hm⟩ := wp_idx hm
      obtain ⟨a49, vs50, he51, hg52, hM53⟩ := any_tupE (hS.im (i := 0) rfl) h47
      obtain ⟨u54, hu55, hi56⟩ := atI_im hM53 hx48
      refine ea_to (ea_cons (ev_ixT (ev_is (ev_var rfl) he7) ev_c hg8 hu11) (ea_cons (ev_ixT (ev_is (ev_var rfl) he18) ev_c hg19 hu22) (ea_cons (ev_ixT (ev_is (ev_var rfl) he29) ev_c hg30 hu33) (ea_cons (ev_ixT (ev_is (ev_var rfl) he40) ev_c hg41 hu44) (ea_cons (ev_ixT (ev_is (ev_var rfl) he51) ev_c hg52 hu55) ea_nil))))) ?_
      have hS := hS.addIm (v := u10) (x := (x4 : Any)) hi12
      have hS := hS.addIm (v := u21) (x := (x15 : Any)) hi23
      have hS := hS.addIm (v := u32) (x := (x26 : Any)) hi34
      have hS := hS.addIm (v := u43) (x := (x37 : Any)) hi45
      have hS := hS.addIm (v := u54) (x := (x48 : Any)) hi56
      intro p62 d63 np nd ne
      have hS := hS.newI (C := G.cl 7) np nd ne (by rw [T.fz_Letter]; decide)
      refine ⟨p62, d63, u10, (x4 : Any), u21, (x15 : Any), u32, (x26 : Any), u43, (x37 : Any), u54, (x48 : Any), star [imA u54 (x48 : Any), imA u43 (x37 : Any), imA u32 (x26 : Any), imA u21 (x15 : Any), imA u10 (x4 : Any), imA a_v_law_parts_here (v_law_parts_here : Any), F], rfl, (hS.im (i := 5) rfl), (hS.im (i := 4) rfl), (hS.im (i := 3) rfl), (hS.im (i := 2) rfl), (hS.im (i := 1) rfl), Sep.unstar (M := [cell p62 (.ins (G.cl 7) d63 [])]) (hS.sel [0, 1, 2, 3, 4, 5, 6, 7] (by decide) rfl : Sep _ (([cell p62 (.ins (G.cl 7) d63 [])] ++ [imA u54 (x48 : Any), imA u43 (x37 : Any), imA u32 (x26 : Any), imA u21 (x15 : Any), imA u10 (x4 : Any), imA a_v_law_parts_here (v_law_parts_here : Any), F] : List (Asn G)))), R.wp_mono (R.wp_tryC hm) (fun r64 hm H hS => ⟨rfl, ?_⟩) (fun x hx H hS => ?_)⟩
      ·
        have hS : Sep H ([imA (.ref p62) (r64 : Letter), imA u54 (x48 : Any), imA u43 (x37 : Any), imA u32 (x26 : Any), imA u21 (x15 : Any), imA u10 (x4 : Any), imA a_v_law_parts_here (v_law_parts_here : Any), F] : List (Asn G)) := Sep.star (M := [imA (.ref p62) (r64 : Letter)]) hS
        refine sq_nx ?_
        refine c_ret ?_
        refine ev_to ev_c ?_
        exact hm _ (hS.sel [7] (by decide) rfl)
      ·
        have hS : Sep H ([imA u54 (x48 : Any), imA u43 (x37 : Any), imA u32 (x26 : Any), imA u21 (x15 : Any), imA u10 (x4 : Any), imA a_v_law_parts_here (v_law_parts_here : Any), F] : List (Asn G)) := Sep.star (M := []) hS
        refine w_asE (fun z => T.ex_MailError z) hx (fun hcx hm ea na => ?_) (fun hm => ?_)
        ·
          refine c_ret ?_
          refine f_andV ?_
          refine ev_to (ev_isXd (ev_var rfl) ev_c (.own _) (T.ec_ hcx) (T.ki_NoLetter hcx)) ?_
          refine andVK_J hm hS (fun hb q hm nx => ?_) (fun b66 H hm hS => ?_)
          ·
            refine c_callE ?_
            refine ea_to (ea_cons (ev_var rfl) ea_nil) ?_
            intro oe hz hf
            refine ⟨x, star [imA u54 (x48 : Any), imA u43 (x37 : Any), imA u32 (x26 : Any), imA u21 (x15 : Any), imA u10 (x4 : Any), imA a_v_law_parts_here (v_law_parts_here : Any), F], rfl, ⟨hz, hf, hcx⟩, Sep.unstar (M := []) (hS.sel [0, 1, 2, 3, 4, 5, 6] (by decide) rfl : Sep H (([] ++ [imA u54 (x48 : Any), imA u43 (x37 : Any), imA u32 (x26 : Any), imA u21 (x15 : Any), imA u10 (x4 : Any), imA a_v_law_parts_here (v_law_parts_here : Any), F] : List (Asn G)))), R.wp_mono (R.wp_bind hm) (fun r67 hm H hS => ?_) (fun _ z => z)⟩
            have hS : Sep H ([imA u54 (x48 : Any), imA u43 (x37 : Any), imA u32 (x26 : Any), imA u21 (x15 : Any), imA u10 (x4 : Any), imA a_v_law_parts_here (v_law_parts_here : Any), F] : List (Asn G)) := Sep.star (M := []) hS
            exact nx _ _ hm (hS.sel [0, 1, 2, 3, 4, 5, 6] (by decide) rfl)
          ·
            exact hm _ (hS.sel [6] (by decide) rfl)
        ·
          exact hm.elim
    · have hm := hn (by rw [hb1]; decide)
      refine c_drop ?_
      refine c_callSD ?_
      refine ea_to (ea_cons (ev_var rfl) ea_nil) ?_
      refine ⟨a_v_law_parts_here, (v_law_parts_here : Any), star [imA a_v_law_parts_here (v_law_parts_here : Any), F], rfl, (hS.im (i := 0) rfl), Sep.unstar (M := []) (hS.sel [0, 1] (by decide) rfl : Sep H (([] ++ [imA a_v_law_parts_here (v_law_parts_here : Any), F] : List (Asn G)))), R.wp_mono (R.wp_tryC hm) (fun r68 hm p69 H hS => ?_) (fun x hx H hS => ?_)⟩
      ·
        have hS : Sep H ([imA (.ref p69) (r68 : Letter), imA a_v_law_parts_here (v_law_parts_here : Any), F] : List (Asn G)) := Sep.star (M := [imA (.ref p69) (r68 : Letter)]) hS
        refine sq_nx ?_
        refine c_ret ?_
        refine ev_to ev_c ?_
        exact hm _ (hS.sel [2] (by decide) rfl)
      ·
        have hS : Sep H ([imA a_v_law_parts_here (v_law_parts_here : Any), F] : List (Asn G)) := Sep.star (M := []) hS
        refine w_asE (fun z => T.ex_MailError z) hx (fun hcx hm ea na => ?_) (fun hm => ?_)
        ·
          refine c_ret ?_
          refine f_andV ?_
          refine ev_to (ev_isXd (ev_var rfl) ev_c (.own _) (T.ec_ hcx) (T.ki_NoLetter hcx)) ?_
          refine andVK_J hm hS (fun hb q hm nx => ?_) (fun b71 H hm hS => ?_)
          ·
            refine c_callE ?_
            refine ea_to (ea_cons (ev_var rfl) ea_nil) ?_
            intro oe hz hf
            refine ⟨x, star [imA a_v_law_parts_here (v_law_parts_here : Any), F], rfl, ⟨hz, hf, hcx⟩, Sep.unstar (M := []) (hS.sel [0, 1] (by decide) rfl : Sep H (([] ++ [imA a_v_law_parts_here (v_law_parts_here : Any), F] : List (Asn G)))), R.wp_mono (R.wp_bind hm) (fun r72 hm H hS => ?_) (fun _ z => z)⟩
            have hS : Sep H ([imA a_v_law_parts_here (v_law_parts_here : Any), F] : List (Asn G)) := Sep.star (M := []) hS
            exact nx _ _ hm (hS.sel [0, 1] (by decide) rfl)
          ·
            exact hm _ (hS.sel [1] (by decide) rfl)
        ·
          exact hm.elim
def sp_law (G : Gx) : Sp := fun vs H Q E => ∃ (a_v_law_script : V) (v_law_script : Script) (F : Asn G), vs = [a_v_law_script] ∧ Im.im G H a_v_law_script v_law_script ∧ Sep H ([F] : List (Asn G)) ∧ R.wp (m_law v_law_script) (fun r => ∀ H', Sep H' ([F] : List (Asn G)) → Q (.bl (r)) H') (fun _ => False)
abbrev N_law : List Str := ["_law_script", "_law_row_here", "_law_parts_here", "_law_odd", "_law_other", "_law_some", "_law_k", "_law_things"]
theorem sc_law : FnScope N_law ["_law_script"] (defScope s_law) := ⟨rfl, rfl, rfl, by decide +kernel, rfl, by decide +kernel, by decide +kernel⟩
theorem ok_law (T : Txt G mg) : FnOk P w G.K mg base CX0 7 T.a_law T.fd_law ["_law_script"] (sp_law G) := by
  have nd := sc_law.nd
  refine Fun.ok T.F_law sc_law (fun vs H Q E h => ?_) (fun cdv A outer s H vs Q E hr h => ?_)
  · obtain ⟨a_v_law_script, v_law_script, F, rfl, _⟩ := h; rfl
  · obtain ⟨a_v_law_script, v_law_script, F, rfl, him_v_law_script, hS, hm⟩ := h
    obtain ⟨ad_v_law_script, rfl, _⟩ := im_script him_v_law_script
    have hS := hS.addIm him_v_law_script
    refine ⟨_, (pss_cons (ps_set (i := 1) nd rfl (Or.inl rfl) (pe_fz (pe_call (ok_law_row T) (hr.mono (by decide)) rfl T.g_law_row T.kp_law_row T.b_law_row .nil pass0 (pa_cons (pv 0) (pa_cons pe_int pa_nil)))))
      (pss_cons (ps_set (i := 2) nd rfl (Or.inl rfl) (pe_call (ok_law_parts T) (hr.mono (by decide)) rfl T.g_law_parts T.kp_law_parts T.b_law_parts .nil pass0 (pa_cons (pe_fz (pv 1)) (pa_cons (pe_ix (ix_listK G.K) (pe_fz (pv 1)) pe_int (fun _ _ => rfl)) pa_nil))))
      (pss_cons (ps_set (i := 3) nd rfl (Or.inl rfl) (pe_call (ok_law_odd_parts T) (hr.mono (by decide)) rfl T.g_law_odd_parts T.kp_law_odd_parts T.b_law_odd_parts .nil pass0 (pa_cons (pe_ix (ix_listK G.K) (pe_fz (pv 1)) pe_int (fun _ _ => rfl)) (pa_cons (pv 2) pa_nil))))
      (pss_cons (ps_if (pt_cmpR op_eq (pe_op op_mod (pe_ix (ix_listK G.K) (pe_fz (pv 1)) pe_int (fun _ _ => rfl)) pe_int) pe_int (nomark _)) (pss_cons (ps_set (i := 4) nd rfl (Or.inl rfl) (pe_call (ok_law_odd_parts T) (hr.mono (by decide)) rfl T.g_law_odd_parts T.kp_law_odd_parts T.b_law_odd_parts .nil pass0 (pa_cons (pe_ix (ix_listK G.K) (pe_fz (pv 1)) pe_int (fun _ _ => rfl)) (pa_cons (pv 2) pa_nil))))
      (pss_cons (ps_set (i := 5) nd rfl (Or.inl rfl) (pe_fz (pe_callTy (listSqK G.K) (by rfl) T.z_list (by decide +kernel) (pa_cons (pv 3) pa_nil))))
      (pss_cons (ps_for PassesOwn.never rfl (pi_range1 rfl T.z_range (pa_cons pe_int pa_nil)) (pg_name (i := 6) nd rfl (Or.inl rfl)) (pss_one (ps_if (pt_cmpR (eqXK G.K hr.units) (pe_ix (ix_tupK G.K) (pv 3) (pv 6) (fun _ _ => rfl)) (pe_ix (ix_tupK G.K) (pv 2) (pv 6) (fun _ _ => rfl)) (nomark _)) (pss_one (ps_asg (pe_ix (ix_tupK G.K) (pv 4) (pv 6) (fun _ _ => rfl)) (pg_sub (pe_fz (pv 5)) (pv 6) set_list))) pss_nil)))
      (pss_one (ps_set (i := 3) nd rfl (Or.inl rfl) (pe_callTy (tupleOfK G.K) (by rfl) T.z_tuple (by decide +kernel) (pa_cons (pe_fz (pv 5)) pa_nil))))))) pss_nil)
      (pss_cons (ps_if (PW.pt (pw_or (pt_not (pt_val (pe_call (ok_law_refused T) (hr.mono (by decide)) rfl T.g_law_refused T.kp_law_refused T.b_law_refused .nil pass0 (pa_cons (pv 3) (pa_cons pe_int pa_nil))))) (pw_or1 (pt_not (pt_val (pe_call (ok_law_refused T) (hr.mono (by decide)) rfl T.g_law_refused T.kp_law_refused T.b_law_refused .nil pass0 (pa_cons (pv 3) (pa_cons pe_int pa_nil)))))))) (pss_one (ps_ret pe_bl)) pss_nil)
      (pss_cons (ps_if (pt_cmpR op_eq (pe_op op_mod (pe_ix (ix_listK G.K) (pe_fz (pv 1)) pe_int (fun _ _ => rfl)) pe_int) pe_int (nomark _)) (pss_cons (ps_set (i := 7) nd rfl (Or.inl rfl) (pe_fz (pe_lst (pa_cons pe_non (pa_cons (pe_fz (pe_callTy (listSqK G.K) (by rfl) T.z_list (by decide +kernel) (pa_cons (pv 2) pa_nil))) (pa_cons (pe_slice (sl_tupK G.K) (pv 2) po_none (po_some pe_int)) (pa_cons (pe_op (catAK G.K) (pv 2) (pe_tup (pa_cons pe_str pa_nil))) (pa_cons (pe_tup pa_nil) (pa_cons pe_str (pa_cons pe_int pa_nil))))))))))
      (pss_one (ps_if (pt_not (pt_val (pe_call (ok_law_refused T) (hr.mono (by decide)) rfl T.g_law_refused T.kp_law_refused T.b_law_refused .nil pass0 (pa_cons (pe_ix (ix_listK G.K) (pe_fz (pv 7)) (pe_op op_mod (pe_op op_fdiv (pe_ix (ix_listK G.K) (pe_fz (pv 1)) pe_int (fun _ _ => rfl)) pe_int) pe_int) (fun _ _ => rfl)) (pa_cons pe_int pa_nil))))) (pss_one (ps_ret pe_bl)) pss_nil))) pss_nil)
      (pss_one (ps_ret (pe_and (pe_cmpR (eqDK G.K hr.units) (pe_meth0 (pe_call (ok_letter_of T) (hr.mono (by decide)) rfl T.g_letter_of T.kp_letter_of T.b_letter_of .nil passL (pa_cons (pv 2) pa_nil)) T.cl_Letter T.m_Letter_parts (ok_Letter_parts T) (hr.mono (by decide)) T.b_Letter_parts .nil pass0) (pv 2) (nomark _)) (pe_one (pe_not (pe_call (ok_law_refused T) (hr.mono (by decide)) rfl T.g_law_refused T.kp_law_refused T.b_law_refused .nil pass0 (pa_cons (pv 2) (pa_cons pe_int pa_nil)))))))))))))), ?_⟩
    unfold m_law at hm
    refine f_seq ?_
    refine c_asg ?_
    refine c_fz ?_
    refine c_call ?_
    refine ea_to (ea_cons (ev_var rfl) (ea_cons ev_c ea_nil)) ?_
    refine ⟨_, v_law_script, 16, star [imA (.ref ad_v_law_script) v_law_script, F], rfl, (hS.im (i := 0) rfl), Sep.unstar (M := []) (hS.sel [0, 1] (by decide) rfl : Sep H (([] ++ [imA (.ref ad_v_law_script) v_law_script, F] : List (Asn G)))), R.wp_mono (R.wp_bind hm) (fun r1 hm p2 H hS => ?_) (fun _ z => z)⟩
    have hS : Sep H ([lstA p2 (r1 : (List Int)), imA (.ref ad_v_law_script) v_law_script, F] : List (Asn G)) := Sep.star (M := [lstA p2 (r1 : (List Int))]) hS
    refine fz_no ?_
    refine c_set (σ' := [some (.ref ad_v_law_script), some (.ref p2), none, none, none, none, none, none]) rfl ?_
    refine sq_nx ?_
    refine f_seq ?_
    refine c_asg ?_
    refine c_call ?_
    obtain ⟨x3, hx3, hm⟩ := wp_idx hm
    refine ea_to (ea_cons (ev_fz (ev_var rfl)) (ea_cons (ev_ixSq (ev_fz (ev_var rfl)) ev_c (hS.sqF (i := 0) rfl) (atI_map hx3)) ea_nil)) ?_
    refine ⟨p2, (r1 : (List Int)), x3, star [imA (.ref ad_v_law_script) v_law_script, F], rfl, Sep.unstar (M := [lstA p2 (r1 : (List Int))]) (hS.sel [0, 1, 2] (by decide) rfl : Sep H (([lstA p2 (r1 : (List Int))] ++ [imA (.ref ad_v_law_script) v_law_script, F] : List (Asn G)))), R.wp_mono (R.wp_bind hm) (fun r4 hm p5 H hS => ?_) (fun _ z => z)⟩
    have hS : Sep H ([imA (.ref p5) (r4 : (T5 Str Str Str Int Str)), lstA p2 (r1 : (List Int)), imA (.ref ad_v_law_script) v_law_script, F] : List (Asn G)) := Sep.star (M := [imA (.ref p5) (r4 : (T5 Str Str Str Int Str)), lstA p2 (r1 : (List Int))]) hS
    refine c_set (σ' := [some (.ref ad_v_law_script), some (.ref p2), some (.ref p5), none, none, none, none, none]) rfl ?_
    refine sq_nx ?_
    refine f_seq ?_
    refine c_asg ?_
    refine c_call ?_
    obtain ⟨x7, hx7, hm⟩ := wp_idx hm
    refine ea_to (ea_cons (ev_ixSq (ev_fz (ev_var rfl)) ev_c (hS.sqF (i := 1) rfl) (atI_map hx7)) (ea_cons (ev_var rfl) ea_nil)) ?_
    refine ⟨x7, p5, (r4 : (T5 Str Str Str Int Str)), star [imA (.ref p5) (r4 : (T5 Str Str Str Int Str)), lstA p2 (r1 : (List Int)), imA (.ref ad_v_law_script) v_law_script, F], rfl, (hS.im (i := 0) rfl), Sep.unstar (M := []) (hS.sel [0, 1, 2, 3] (by decide) rfl : Sep H (([] ++ [imA (.ref p5) (r4 : (T5 Str Str Str Int Str)), lstA p2 (r1 : (List Int)), imA (.ref ad_v_law_script) v_law_script, F] : List (Asn G)))), R.wp_mono (R.wp_bind hm) (fun r8 hm p9 H hS => ?_) (fun _ z => z)⟩
    have hS : Sep H ([imA p9 (r8 : Any), imA (.ref p5) (r4 : (T5 Str Str Str Int Str)), lstA p2 (r1 : (List Int)), imA (.ref ad_v_law_script) v_law_script, F] : List (Asn G)) := Sep.star (M := [imA p9 (r8 : Any)]) hS
    refine c_set (σ' := [some (.ref ad_v_law_script), some (.ref p2), some (.ref p5), some p9, none, none, none, none]) rfl ?_
    refine sq_nx ?_
    refine f_seq ?_
    refine f_if ?_
    obtain ⟨x11, hx11, hm⟩ := wp_idx hm
    refine et_to (et_test (ev_eqI (ev_mod (ev_ixSq (ev_fz (ev_var rfl)) ev_c (hS.sqF (i := 2) rfl) (atI_map hx11)) ev_c (by decide)) ev_c)) ?_
    refine ifK_J (τ := Any) (fun (s12 : Any) (σ : L2.St) (H : Hp) => ∃ (w13 w14 w15 : Option V), ∃ (a16 : V), σ = [some (.ref ad_v_law_script), some (.ref p2), some (.ref p5), some a16, w13, w14, w15, none] ∧ Sep H ([imA a16 (s12 : Any), imA p9 (r8 : Any), imA (.ref p5) (r4 : (T5 Str Str Str Int Str)), lstA p2 (r1 : (List Int)), imA (.ref ad_v_law_script) v_law_script, F] : List (Asn G))) hm (fun hb q hm nx => ?_) (fun hb q hm nx => ?_) (fun s12 σ H hm hI => ?_)
    ·
      refine f_seq ?_
      refine c_asg ?_
      refine c_call ?_
      obtain ⟨x18, hx18, hm⟩ := wp_idx hm
      refine ea_to (ea_cons (ev_ixSq (ev_fz (ev_var rfl)) ev_c (hS.sqF (i := 2) rfl) (atI_map hx18)) (ea_cons (ev_var rfl) ea_nil)) ?_
      refine ⟨x18, p5, (r4 : (T5 Str Str Str Int Str)), star [imA p9 (r8 : Any), imA (.ref p5) (r4 : (T5 Str Str Str Int Str)), lstA p2 (r1 : (List Int)), imA (.ref ad_v_law_script) v_law_script, F], rfl, (hS.im (i := 1) rfl), Sep.unstar (M := []) (hS.sel [0, 1, 2, 3, 4] (by decide) rfl : Sep H (([] ++ [imA p9 (r8 : Any), imA (.ref p5) (r4 : (T5 Str Str Str Int Str)), lstA p2 (r1 : (List Int)), imA (.ref ad_v_law_script) v_law_script, F] : List (Asn G)))), R.wp_mono (R.wp_bind hm) (fun r19 hm p20 H hS => ?_) (fun _ z => z)⟩
      have hS : Sep H ([imA p20 (r19 : Any), imA p9 (r8 : Any), imA (.ref p5) (r4 : (T5 Str Str Str Int Str)), lstA p2 (r1 : (List Int)), imA (.ref ad_v_law_script) v_law_script, F] : List (Asn G)) := Sep.star (M := [imA p20 (r19 : Any)]) hS
      refine c_set (σ' := [some (.ref ad_v_law_script), some (.ref p2), some (.ref p5), some p9, some p20, none, none, none]) rfl ?_
      refine sq_nx ?_
      refine f_seq ?_
      refine c_asg ?_
      refine c_fz ?_
      refine c_cb ?_
      refine ea_to (ea_cons (ev_var rfl) ea_nil) ?_
      obtain ⟨xs23, h24, hm⟩ := Ml.wp_asTup hm
      refine k_listA (xs := xs23) hS (tupE (hS.im (i := 1) rfl) h24) fun p22 H hS => ?_
      refine fz_no ?_
      refine c_set (σ' := [some (.ref ad_v_law_script), some (.ref p2), some (.ref p5), some p9, some p20, some (.ref p22), none, none]) rfl ?_
      refine sq_nx ?_
      refine f_seq ?_
      refine c_for ?_
      refine c_rng1 ?_
      refine ea_to (ea_cons ev_c ea_nil) ?_
      refine k_rng1 (by decide) (by decide) ?_
      refine k_for (τ := (List Any)) (fun (s25 : (List Any)) (σ : L2.St) (H : Hp) => ∃ (w28 : Option V), σ = [some (.ref ad_v_law_script), some (.ref p2), some (.ref p5), some p9, some p20, some (.ref p22), w28, none] ∧ Sep H ([lstA p22 (s25 : (List Any)), imA p20 (r19 : Any), imA p9 (r8 : Any), imA (.ref p5) (r4 : (T5 Str Str Str Int Str)), lstA p2 (r1 : (List Int)), imA (.ref ad_v_law_script) v_law_script, F] : List (Asn G))) (im := (fun _ v (x : Int) => v = .int x)) (s := (xs23)) (fun _ => wk_range) ⟨_, rfl, hS.sel [0, 1, 2, 3, 4, 5, 6] (by decide) rfl⟩ hm (fun s25 x26 v27 σ H q N hI hx hm nx => ?_) (fun s25 σ H hm hI => ?_)
      ·
        obtain ⟨w28, rfl, hS⟩ := hI
        cases hx
        refine c_gN (σ' := [some (.ref ad_v_law_script), some (.ref p2), some (.ref p5), some p9, some p20, some (.ref p22), some (.int (x26)), none]) rfl ?_
        refine f_if ?_
        obtain ⟨xs29, h30, hm⟩ := Ml.wp_asTup hm
        obtain ⟨x31, hx31, hm⟩ := wp_idx hm
        obtain ⟨a32, vs33, he34, hg35, hM36⟩ := any_tupE (hS.im (i := 2) rfl) h30
        obtain ⟨u37, hu38, hi39⟩ := atI_im hM36 hx31
        obtain ⟨u40, u41, u42, u43, u44, hT50, h45, h46, h47, h48, h49⟩ := im5 (hS.im (i := 3) rfl)
        obtain rfl : u40 = (.str (r4.a)) := h45
        obtain rfl : u41 = (.str (r4.b)) := h46
        obtain rfl : u42 = (.str (r4.c)) := h47
        obtain rfl : u43 = (.int (r4.d)) := h48
        obtain rfl : u44 = (.str (r4.e)) := h49
        obtain ⟨xs51, h52, hm⟩ := Ml.wp_asTup hm
        obtain ⟨x53, hx53, hm⟩ := wp_idx hm
        obtain ⟨a54, vs55, he56, hg57, hM58⟩ := any_tupE ((any_tup (xs := [(Any.str r4.a), (Any.str r4.b), (Any.str r4.c), (Any.int r4.d), (Any.str r4.e)])).mpr ⟨_, _, rfl, hT50, ⟨(any_str.mpr rfl), ⟨(any_str.mpr rfl), ⟨(any_str.mpr rfl), ⟨(any_int.mpr rfl), ⟨(any_str.mpr rfl), True.intro⟩⟩⟩⟩⟩⟩) h52
        obtain ⟨u59, hu60, hi61⟩ := atI_im hM58 hx53
        obtain ⟨b62, hb62, hm⟩ := wp_eqX hm
        refine et_to (et_test (ev_eqX (ev_ixT (ev_is (ev_var rfl) he34) (ev_var rfl) hg35 hu38) (ev_ixT (ev_is (ev_var rfl) he56) (ev_var rfl) hg57 hu60) hi39 hi61 hb62)) ?_
        refine ifK_J (τ := (List Any)) (fun (s63 : (List Any)) (σ : L2.St) (H : Hp) => σ = [some (.ref ad_v_law_script), some (.ref p2), some (.ref p5), some p9, some p20, some (.ref p22), some (.int (x26)), none] ∧ Sep H ([lstA p22 (s63 : (List Any)), imA p20 (r19 : Any), imA p9 (r8 : Any), imA (.ref p5) (r4 : (T5 Str Str Str Int Str)), lstA p2 (r1 : (List Int)), imA (.ref ad_v_law_script) v_law_script, F] : List (Asn G))) hm (fun hb q hm nx => ?_) (fun hb q hm nx => ?_) (fun s63 σ H hm hI => ?_)
        ·
          refine c_asgS ?_
          obtain ⟨xs64, h65, hm⟩ := Ml.wp_asTup hm
          obtain ⟨x66, hx66, hm⟩ := wp_idx hm
          obtain ⟨a67, vs68, he69, hg70, hM71⟩ := any_tupE (hS.im (i := 1) rfl) h65
          obtain ⟨u72, hu73, hi74⟩ := atI_im hM71 hx66
          refine ev_to (ev_ixT (ev_is (ev_var rfl) he69) (ev_var rfl) hg70 hu73) ?_
          have hS := hS.addIm (v := u72) (x := (x66 : Any)) hi74
          obtain ⟨j76, hj76, hm⟩ := wp_ix hm
          refine ev_to (ev_fz (ev_var rfl)) ?_
          refine ev_to (ev_var rfl) ?_
          refine k_setL (x := x66) hS (n := 1) rfl (hS.im (i := 0) rfl) j76 hj76 rfl fun H hS => ?_
          exact nx _ _ _ hm ⟨rfl, hS.sel [1, 2, 3, 4, 5, 6, 7] (by decide) rfl⟩
        ·
          refine st_nx ?_
          exact nx _ _ _ hm ⟨rfl, hS.sel [0, 1, 2, 3, 4, 5, 6] (by decide) rfl⟩
        · obtain ⟨rfl, hS⟩ := hI
          exact nx _ _ _ hm ⟨_, rfl, hS.sel [0, 1, 2, 3, 4, 5, 6] (by decide) rfl⟩
      · obtain ⟨w28, rfl, hS⟩ := hI
        refine sq_nx ?_
        refine c_asg ?_
        refine c_cb ?_
        refine ea_to (ea_cons (ev_fz (ev_var rfl)) ea_nil) ?_
        refine k_tupleL hS (i := 0) rfl fun p77 H hS => ?_
        refine c_set (σ' := [some (.ref ad_v_law_script), some (.ref p2), some (.ref p5), some (.ref p77), some p20, some (.ref p22), w28, none]) rfl ?_
        exact nx _ _ _ hm ⟨_, _, _, _, rfl, hS.sel [0, 3, 4, 5, 6, 7] (by decide) rfl⟩
    ·
      refine st_nx ?_
      have hS := hS.addIm (hS.im (i := 0) rfl)
      exact nx _ _ _ hm ⟨_, _, _, _, rfl, hS.sel [1, 0, 2, 3, 4, 5] (by decide) rfl⟩
    · obtain ⟨w13, w14, w15, a16, rfl, hS⟩ := hI
      refine sq_nx ?_
      refine f_seq ?_
      refine f_if ?_
      refine f_or ?_
      refine f_not ?_
      refine f_B ?_
      refine c_call ?_
      refine ea_to (ea_cons (ev_var rfl) (ea_cons ev_c ea_nil)) ?_
      refine ⟨a16, (s12 : Any), 0, star [imA a16 (s12 : Any), imA p9 (r8 : Any), imA (.ref p5) (r4 : (T5 Str Str Str Int Str)), lstA p2 (r1 : (List Int)), imA (.ref ad_v_law_script) v_law_script, F], rfl, (hS.im (i := 0) rfl), Sep.unstar (M := []) (hS.sel [0, 1, 2, 3, 4, 5] (by decide) rfl : Sep H (([] ++ [imA a16 (s12 : Any), imA p9 (r8 : Any), imA (.ref p5) (r4 : (T5 Str Str Str Int Str)), lstA p2 (r1 : (List Int)), imA (.ref ad_v_law_script) v_law_script, F] : List (Asn G)))), R.wp_mono (R.wp_bind hm) (fun r80 hm H hS => ?_) (fun _ z => z)⟩
      have hS : Sep H ([imA a16 (s12 : Any), imA p9 (r8 : Any), imA (.ref p5) (r4 : (T5 Str Str Str Int Str)), lstA p2 (r1 : (List Int)), imA (.ref ad_v_law_script) v_law_script, F] : List (Asn G)) := Sep.star (M := []) hS
      refine f_bl ?_
      refine f_nK ?_
      refine orK_J hm hS (fun hb q hm nx => ?_) (fun b81 H hm hS => ?_)
      ·
        refine f_not ?_
        refine f_B ?_
        refine c_call ?_
        refine ea_to (ea_cons (ev_var rfl) (ea_cons ev_c ea_nil)) ?_
        refine ⟨a16, (s12 : Any), 1, star [imA a16 (s12 : Any), imA p9 (r8 : Any), imA (.ref p5) (r4 : (T5 Str Str Str Int Str)), lstA p2 (r1 : (List Int)), imA (.ref ad_v_law_script) v_law_script, F], rfl, (hS.im (i := 0) rfl), Sep.unstar (M := []) (hS.sel [0, 1, 2, 3, 4, 5] (by decide) rfl : Sep H (([] ++ [imA a16 (s12 : Any), imA p9 (r8 : Any), imA (.ref p5) (r4 : (T5 Str Str Str Int Str)), lstA p2 (r1 : (List Int)), imA (.ref ad_v_law_script) v_law_script, F] : List (Asn G)))), R.wp_mono (R.wp_bind hm) (fun r82 hm H hS => ?_) (fun _ z => z)⟩
        have hS : Sep H ([imA a16 (s12 : Any), imA p9 (r8 : Any), imA (.ref p5) (r4 : (T5 Str Str Str Int Str)), lstA p2 (r1 : (List Int)), imA (.ref ad_v_law_script) v_law_script, F] : List (Asn G)) := Sep.star (M := []) hS
        refine f_bl ?_
        refine f_nK ?_
        exact nx _ _ hm (hS.sel [0, 1, 2, 3, 4, 5] (by decide) rfl)
      ·
        obtain ⟨hy, hn⟩ := R.wp_if hm
        refine ifK_2 (fun hb83 => ?_) (fun hb83 => ?_)
        · have hm := hy hb83
          refine c_ret ?_
          refine ev_to ev_c ?_
          exact hm _ (hS.sel [5] (by decide) rfl)
        · have hm := hn (by rw [hb83]; decide)
          refine st_nx ?_
          refine sq_nx ?_
          refine f_seq ?_
          refine f_if ?_
          obtain ⟨x84, hx84, hm⟩ := wp_idx hm
          refine et_to (et_test (ev_eqI (ev_mod (ev_ixSq (ev_fz (ev_var rfl)) ev_c (hS.sqF (i := 3) rfl) (atI_map hx84)) ev_c (by decide)) ev_c)) ?_
          obtain ⟨hy, hn⟩ := R.wp_if hm
          refine ifK_2 (fun hb85 => ?_) (fun hb85 => ?_)
          · have hm := hy hb85
            refine f_seq ?_
            refine c_asg ?_
            refine c_fz ?_
            refine c_lst ?_
            refine c_cons ?_
            refine ev_to ev_c ?_
            refine c_cons ?_
            refine c_fz ?_
            refine c_cb ?_
            refine ea_to (ea_cons (ev_var rfl) ea_nil) ?_
            obtain ⟨u87, u88, u89, u90, u91, hT97, h92, h93, h94, h95, h96⟩ := im5 (hS.im (i := 2) rfl)
            obtain rfl : u87 = (.str (r4.a)) := h92
            obtain rfl : u88 = (.str (r4.b)) := h93
            obtain rfl : u89 = (.str (r4.c)) := h94
            obtain rfl : u90 = (.int (r4.d)) := h95
            obtain rfl : u91 = (.str (r4.e)) := h96
            refine k_listA (xs := [(Any.str r4.a), (Any.str r4.b), (Any.str r4.c), (Any.int r4.d), (Any.str r4.e)]) hS ((any_tup (xs := [(Any.str r4.a), (Any.str r4.b), (Any.str r4.c), (Any.int r4.d), (Any.str r4.e)])).mpr ⟨_, _, rfl, hT97, ⟨(any_str.mpr rfl), ⟨(any_str.mpr rfl), ⟨(any_str.mpr rfl), ⟨(any_int.mpr rfl), ⟨(any_str.mpr rfl), True.intro⟩⟩⟩⟩⟩⟩) fun p86 H hS => ?_
            refine fz_no ?_
            refine c_cons ?_
            refine c_sl ?_
            refine ev_to (ev_var rfl) ?_
            obtain ⟨u98, u99, u100, u101, u102, hT108, h103, h104, h105, h106, h107⟩ := im5 (hS.im (i := 3) rfl)
            obtain rfl : u98 = (.str (r4.a)) := h103
            obtain rfl : u99 = (.str (r4.b)) := h104
            obtain rfl : u100 = (.str (r4.c)) := h105
            obtain rfl : u101 = (.int (r4.d)) := h106
            obtain rfl : u102 = (.str (r4.e)) := h107
            refine eo_to eo_no ?_
            refine eo_to (eo_some ev_c) ?_
            refine k_slT (x := ((⟨r4.a, r4.b, r4.c, r4.d⟩ : T4 _ _ _ _) : (T4 Str Str Str Int))) hS hT108 rfl (by show ¬ (HT.sIx 5 0 none = 0 ∧ HT.sIx 5 5 (some (4)) = 5); decide) (fun H' p h s => mk4 rfl rfl rfl rfl h s) fun p109 H hS => ?_
            refine c_cons ?_
            refine c_op ?_
            refine ev_to (ev_var rfl) ?_
            refine c_tup ?_
            refine ea_to (ea_cons ev_c ea_nil) ?_
            refine k_tupP (x := ((⟨("" : Str)⟩ : T1 _) : (T1 Str))) hS (fun H' p h s => mk1 rfl h s) (by show 1 ≤ sizeLine; decide) fun p111 H hS => ?_
            obtain ⟨u113, u114, u115, u116, u117, hT123, h118, h119, h120, h121, h122⟩ := im5 (hS.im (i := 5) rfl)
            obtain rfl : u113 = (.str (r4.a)) := h118
            obtain rfl : u114 = (.str (r4.b)) := h119
            obtain rfl : u115 = (.str (r4.c)) := h120
            obtain rfl : u116 = (.int (r4.d)) := h121
            obtain rfl : u117 = (.str (r4.e)) := h122
            obtain ⟨u124, hT126, h125⟩ := im1 (hS.im (i := 0) rfl)
            obtain rfl : u124 = (.str ((⟨("" : Str)⟩ : T1 _).a)) := h125
            obtain ⟨h127, hm⟩ := R.wp_need hm
            refine k_catA (xs := [(Any.str r4.a), (Any.str r4.b), (Any.str r4.c), (Any.int r4.d), (Any.str r4.e)]) (ys := [(Any.str ((⟨("" : Str)⟩ : T1 _).a))]) hS ((any_tup (xs := [(Any.str r4.a), (Any.str r4.b), (Any.str r4.c), (Any.int r4.d), (Any.str r4.e)])).mpr ⟨_, _, rfl, hT123, ⟨(any_str.mpr rfl), ⟨(any_str.mpr rfl), ⟨(any_str.mpr rfl), ⟨(any_int.mpr rfl), ⟨(any_str.mpr rfl), True.intro⟩⟩⟩⟩⟩⟩) ((any_tup (xs := [(Any.str ((⟨("" : Str)⟩ : T1 _).a))])).mpr ⟨_, _, rfl, hT126, ⟨(any_str.mpr rfl), True.intro⟩⟩) h127 fun p128 H hS => ?_
            refine c_cons ?_
            refine c_tup ?_
            refine ea_to ea_nil ?_
            refine k_tupA (vs := []) (xs := []) hS True.intro (by show 0 ≤ sizeLine; decide) fun p130 H hS => ?_
            refine c_cons ?_
            refine ev_to ev_c ?_
            refine c_cons ?_
            refine ev_to ev_c ?_
            refine c_nil ?_
            obtain ⟨u133, u134, u135, u136, hT141, h137, h138, h139, h140⟩ := im4 (hS.im (i := 3) rfl)
            obtain rfl : u133 = (.str ((⟨r4.a, r4.b, r4.c, r4.d⟩ : T4 _ _ _ _).a)) := h137
            obtain rfl : u134 = (.str ((⟨r4.a, r4.b, r4.c, r4.d⟩ : T4 _ _ _ _).b)) := h138
            obtain rfl : u135 = (.str ((⟨r4.a, r4.b, r4.c, r4.d⟩ : T4 _ _ _ _).c)) := h139
            obtain rfl : u136 = (.int ((⟨r4.a, r4.b, r4.c, r4.d⟩ : T4 _ _ _ _).d)) := h140
            refine k_lst (α := Any) (vs := [.non, (.ref p86), (.ref p109), p128, (.ref p130), (.str (("abcde" : Str))), (.int (5))]) (xs := [Any.non, (Any.oth 0), (Any.tup [(Any.str ((⟨r4.a, r4.b, r4.c, r4.d⟩ : T4 _ _ _ _).a)), (Any.str ((⟨r4.a, r4.b, r4.c, r4.d⟩ : T4 _ _ _ _).b)), (Any.str ((⟨r4.a, r4.b, r4.c, r4.d⟩ : T4 _ _ _ _).c)), (Any.int ((⟨r4.a, r4.b, r4.c, r4.d⟩ : T4 _ _ _ _).d))]), (Any.tup ([(Any.str r4.a), (Any.str r4.b), (Any.str r4.c), (Any.int r4.d), (Any.str r4.e)] ++ [(Any.str ((⟨("" : Str)⟩ : T1 _).a))])), (Any.tup []), (Any.str ("abcde" : Str)), (Any.int 5)]) hS ⟨(any_non.mpr rfl), ⟨(any_lst hS (i := 4) rfl), ⟨((any_tup (xs := [(Any.str ((⟨r4.a, r4.b, r4.c, r4.d⟩ : T4 _ _ _ _).a)), (Any.str ((⟨r4.a, r4.b, r4.c, r4.d⟩ : T4 _ _ _ _).b)), (Any.str ((⟨r4.a, r4.b, r4.c, r4.d⟩ : T4 _ _ _ _).c)), (Any.int ((⟨r4.a, r4.b, r4.c, r4.d⟩ : T4 _ _ _ _).d))])).mpr ⟨_, _, rfl, hT141, ⟨(any_str.mpr rfl), ⟨(any_str.mpr rfl), ⟨(any_str.mpr rfl), ⟨(any_int.mpr rfl), True.intro⟩⟩⟩⟩⟩), ⟨(hS.im (i := 1) rfl), ⟨(hS.im (i := 0) rfl), ⟨(any_str.mpr rfl), ⟨(any_int.mpr rfl), True.intro⟩⟩⟩⟩⟩⟩⟩ (by show 7 ≤ sizeLine; decide) fun p132 H hS => ?_
            refine fz_no ?_
            obtain ⟨y142, hy142, hm⟩ := wp_let hm
            have hS : Sep H ([lstA p132 (y142 : (List Any)), imA (.ref p130) ((Any.tup []) : Any), imA p128 ((Any.tup ([(Any.str r4.a), (Any.str r4.b), (Any.str r4.c), (Any.int r4.d), (Any.str r4.e)] ++ [(Any.str ((⟨("" : Str)⟩ : T1 _).a))])) : Any), imA (.ref p111) ((⟨("" : Str)⟩ : T1 _) : (T1 Str)), imA (.ref p109) ((⟨r4.a, r4.b, r4.c, r4.d⟩ : T4 _ _ _ _) : (T4 Str Str Str Int)), lstA p86 ([(Any.str r4.a), (Any.str r4.b), (Any.str r4.c), (Any.int r4.d), (Any.str r4.e)] : (List Any)), imA a16 (s12 : Any), imA p9 (r8 : Any), imA (.ref p5) (r4 : (T5 Str Str Str Int Str)), lstA p2 (r1 : (List Int)), imA (.ref ad_v_law_script) v_law_script, F] : List (Asn G)) := by rw [← hy142]; exact hS
            refine c_set (σ' := [some (.ref ad_v_law_script), some (.ref p2), some (.ref p5), some a16, w13, w14, w15, some (.ref p132)]) rfl ?_
            refine sq_nx ?_
            refine f_if ?_
            refine f_not ?_
            refine f_B ?_
            refine c_call ?_
            obtain ⟨x143, hx143, hm⟩ := wp_idx hm
            obtain ⟨x144, hx144, hm⟩ := wp_idx hm
            obtain ⟨vs145, hq146, hM147⟩ := hS.sq (i := 0) rfl
            obtain ⟨u148, hu149, hi150⟩ := atI_im hM147 hx144
            refine ea_to (ea_cons (ev_ixSq (ev_fz (ev_var rfl)) (ev_mod (ev_fdiv (ev_ixSq (ev_fz (ev_var rfl)) ev_c (hS.sqF (i := 9) rfl) (atI_map hx143)) ev_c ⟨by decide, by decide⟩) ev_c (by decide)) hq146 hu149) (ea_cons ev_c ea_nil)) ?_
            have hS := hS.addIm (v := u148) (x := (x144 : Any)) hi150
            refine ⟨u148, (x144 : Any), 1, star [imA u148 (x144 : Any), lstA p132 (y142 : (List Any)), imA (.ref p130) ((Any.tup []) : Any), imA p128 ((Any.tup ([(Any.str r4.a), (Any.str r4.b), (Any.str r4.c), (Any.int r4.d), (Any.str r4.e)] ++ [(Any.str ((⟨("" : Str)⟩ : T1 _).a))])) : Any), imA (.ref p111) ((⟨("" : Str)⟩ : T1 _) : (T1 Str)), imA (.ref p109) ((⟨r4.a, r4.b, r4.c, r4.d⟩ : T4 _ _ _ _) : (T4 Str Str Str Int)), lstA p86 ([(Any.str r4.a), (Any.str r4.b), (Any.str r4.c), (Any.int r4.d), (Any.str r4.e)] : (List Any)), imA a16 (s12 : Any), imA p9 (r8 : Any), imA (.ref p5) (r4 : (T5 Str Str Str Int Str)), lstA p2 (r1 : (List Int)), imA (.ref ad_v_law_script) v_law_script, F], rfl, (hS.im (i := 0) rfl), Sep.unstar (M := []) (hS.sel [0, 1, 2, 3, 4, 5, 6, 7, 8, 9, 10, 11, 12] (by decide) rfl : Sep H (([] ++ [imA u148 (x144 : Any), lstA p132 (y142 : (List Any)), imA (.ref p130) ((Any.tup []) : Any), imA p128 ((Any.tup ([(Any.str r4.a), (Any.str r4.b), (Any.str r4.c), (Any.int r4.d), (Any.str r4.e)] ++ [(Any.str ((⟨("" : Str)⟩ : T1 _).a))])) : Any), imA (.ref p111) ((⟨("" : Str)⟩ : T1 _) : (T1 Str)), imA (.ref p109) ((⟨r4.a, r4.b, r4.c, r4.d⟩ : T4 _ _ _ _) : (T4 Str Str Str Int)), lstA p86 ([(Any.str r4.a), (Any.str r4.b), (Any.str r4.c), (Any.int r4.d), (Any.str r4.e)] : (List Any)), imA a16 (s12 : Any), imA p9 (r8 : Any), imA (.ref p5) (r4 : (T5 Str Str Str Int Str)), lstA p2 (r1 : (List Int)), imA (.ref ad_v_law_script) v_law_script, F] : List (Asn G)))), R.wp_mono (R.wp_bind hm) (fun r152 hm H hS => ?_) (fun _ z => z)⟩
            have hS : Sep H ([imA u148 (x144 : Any), lstA p132 (y142 : (List Any)), imA (.ref p130) ((Any.tup []) : Any), imA p128 ((Any.tup ([(Any.str r4.a), (Any.str r4.b), (Any.str r4.c), (Any.int r4.d), (Any.str r4.e)] ++ [(Any.str ((⟨("" : Str)⟩ : T1 _).a))])) : Any), imA (.ref p111) ((⟨("" : Str)⟩ : T1 _) : (T1 Str)), imA (.ref p109) ((⟨r4.a, r4.b, r4.c, r4.d⟩ : T4 _ _ _ _) : (T4 Str Str Str Int)), lstA p86 ([(Any.str r4.a), (Any.str r4.b), (Any.str r4.c), (Any.int r4.d), (Any.str r4.e)] : (List Any)), imA a16 (s12 : Any), imA p9 (r8 : Any), imA (.ref p5) (r4 : (T5 Str Str Str Int Str)), lstA p2 (r1 : (List Int)), imA (.ref ad_v_law_script) v_law_script, F] : List (Asn G)) := Sep.star (M := []) hS
            refine f_bl ?_
            refine f_nK ?_
            obtain ⟨hy, hn⟩ := R.wp_if hm
            refine ifK_2 (fun hb153 => ?_) (fun hb153 => ?_)
            · have hm := hy hb153
              refine c_ret ?_
              refine ev_to ev_c ?_
              exact hm _ (hS.sel [12] (by decide) rfl)
            · have hm := hn (by rw [hb153]; decide)
              refine st_nx ?_
              refine sq_nx ?_
              refine c_ret ?_
              refine f_andV ?_
              refine c_op ?_
              refine c_meth ?_
              refine c_call ?_
              refine ea_to (ea_cons (ev_var rfl) ea_nil) ?_
              obtain ⟨u154, u155, u156, u157, u158, hT164, h159, h160, h161, h162, h163⟩ := im5 (hS.im (i := 9) rfl)
              obtain rfl : u154 = (.str (r4.a)) := h159
              obtain rfl : u155 = (.str (r4.b)) := h160
              obtain rfl : u156 = (.str (r4.c)) := h161
              obtain rfl : u157 = (.int (r4.d)) := h162
              obtain rfl : u158 = (.str (r4.e)) := h163
              refine ⟨(.ref p5), ((Any.tup [(Any.str r4.a), (Any.str r4.b), (Any.str r4.c), (Any.int r4.d), (Any.str r4.e)]) : Any), star [imA u148 (x144 : Any), lstA p132 (y142 : (List Any)), imA (.ref p130) ((Any.tup []) : Any), imA p128 ((Any.tup ([(Any.str r4.a), (Any.str r4.b), (Any.str r4.c), (Any.int r4.d), (Any.str r4.e)] ++ [(Any.str ((⟨("" : Str)⟩ : T1 _).a))])) : Any), imA (.ref p111) ((⟨("" : Str)⟩ : T1 _) : (T1 Str)), imA (.ref p109) ((⟨r4.a, r4.b, r4.c, r4.d⟩ : T4 _ _ _ _) : (T4 Str Str Str Int)), lstA p86 ([(Any.str r4.a), (Any.str r4.b), (Any.str r4.c), (Any.int r4.d), (Any.str r4.e)] : (List Any)), imA a16 (s12 : Any), imA p9 (r8 : Any), imA (.ref p5) (r4 : (T5 Str Str Str Int Str)), lstA p2 (r1 : (List Int)), imA (.ref ad_v_law_script) v_law_script, F], rfl, ((any_tup (xs := [(Any.str r4.a), (Any.str r4.b), (Any.str r4.c), (Any.int r4.d), (Any.str r4.e)])).mpr ⟨_, _, rfl, hT164, ⟨(any_str.mpr rfl), ⟨(any_str.mpr rfl), ⟨(any_str.mpr rfl), ⟨(any_int.mpr rfl), ⟨(any_str.mpr rfl), True.intro⟩⟩⟩⟩⟩⟩), Sep.unstar (M := []) (hS.sel [0, 1, 2, 3, 4, 5, 6, 7, 8, 9, 10, 11, 12] (by decide) rfl : Sep H (([] ++ [imA u148 (x144 : Any), lstA p132 (y142 : (List Any)), imA (.ref p130) ((Any.tup []) : Any), imA p128 ((Any.tup ([(Any.str r4.a), (Any.str r4.b), (Any.str r4.c), (Any.int r4.d), (Any.str r4.e)] ++ [(Any.str ((⟨("" : Str)⟩ : T1 _).a))])) : Any), imA (.ref p111) ((⟨("" : Str)⟩ : T1 _) : (T1 Str)), imA (.ref p109) ((⟨r4.a, r4.b, r4.c, r4.d⟩ : T4 _ _ _ _) : (T4 Str Str Str Int)), lstA p86 ([(Any.str r4.a), (Any.str r4.b), (Any.str r4.c), (Any.int r4.d), (Any.str r4.e)] : (List Any)), imA a16 (s12 : Any), imA p9 (r8 : Any), imA (.ref p5) (r4 : (T5 Str Str Str Int Str)), lstA p2 (r1 : (List Int)), imA (.ref ad_v_law_script) v_law_script, F] : List (Asn G)))), R.wp_mono (R.wp_bind hm) (fun r165 hm p166 H hS => ?_) (fun _ z => z.elim)⟩
              have hS : Sep H ([imA (.ref p166) (r165 : Letter), imA u148 (x144 : Any), lstA p132 (y142 : (List Any)), imA (.ref p130) ((Any.tup []) : Any), imA p128 ((Any.tup ([(Any.str r4.a), (Any.str r4.b), (Any.str r4.c), (Any.int r4.d), (Any.str r4.e)] ++ [(Any.str ((⟨("" : Str)⟩ : T1 _).a))])) : Any), imA (.ref p111) ((⟨("" : Str)⟩ : T1 _) : (T1 Str)), imA (.ref p109) ((⟨r4.a, r4.b, r4.c, r4.d⟩ : T4 _ _ _ _) : (T4 Str Str Str Int)), lstA p86 ([(Any.str r4.a), (Any.str r4.b), (Any.str r4.c), (Any.int r4.d), (Any.str r4.e)] : (List Any)), imA a16 (s12 : Any), imA p9 (r8 : Any), imA (.ref p5) (r4 : (T5 Str Str Str Int Str)), lstA p2 (r1 : (List Int)), imA (.ref ad_v_law_script) v_law_script, F] : List (Asn G)) := Sep.star (M := [imA (.ref p166) (r165 : Letter)]) hS
              obtain ⟨d168, hO169⟩ := im_Letter (hS.im (i := 0) rfl)
              refine ⟨_, _, _, rfl, hO169, rfl, ?_⟩
              refine ea_to ea_nil ?_
              refine ⟨p166, (r165 : Letter), star [imA (.ref p166) (r165 : Letter), imA u148 (x144 : Any), lstA p132 (y142 : (List Any)), imA (.ref p130) ((Any.tup []) : Any), imA p128 ((Any.tup ([(Any.str r4.a), (Any.str r4.b), (Any.str r4.c), (Any.int r4.d), (Any.str r4.e)] ++ [(Any.str ((⟨("" : Str)⟩ : T1 _).a))])) : Any), imA (.ref p111) ((⟨("" : Str)⟩ : T1 _) : (T1 Str)), imA (.ref p109) ((⟨r4.a, r4.b, r4.c, r4.d⟩ : T4 _ _ _ _) : (T4 Str Str Str Int)), lstA p86 ([(Any.str r4.a), (Any.str r4.b), (Any.str r4.c), (Any.int r4.d), (Any.str r4.e)] : (List Any)), imA a16 (s12 : Any), imA p9 (r8 : Any), imA (.ref p5) (r4 : (T5 Str Str Str Int Str)), lstA p2 (r1 : (List Int)), imA (.ref ad_v_law_script) v_law_script, F], rfl, (hS.im (i := 0) rfl), Sep.unstar (M := []) (hS.sel [0, 1, 2, 3, 4, 5, 6, 7, 8, 9, 10, 11, 12, 13] (by decide) rfl : Sep H (([] ++ [imA (.ref p166) (r165 : Letter), imA u148 (x144 : Any), lstA p132 (y142 : (List Any)), imA (.ref p130) ((Any.tup []) : Any), imA p128 ((Any.tup ([(Any.str r4.a), (Any.str r4.b), (Any.str r4.c), (Any.int r4.d), (Any.str r4.e)] ++ [(Any.str ((⟨("" : Str)⟩ : T1 _).a))])) : Any), imA (.ref p111) ((⟨("" : Str)⟩ : T1 _) : (T1 Str)), imA (.ref p109) ((⟨r4.a, r4.b, r4.c, r4.d⟩ : T4 _ _ _ _) : (T4 Str Str Str Int)), lstA p86 ([(Any.str r4.a), (Any.str r4.b), (Any.str r4.c), (Any.int r4.d), (Any.str r4.e)] : (List Any)), imA a16 (s12 : Any), imA p9 (r8 : Any), imA (.ref p5) (r4 : (T5 Str Str Str Int Str)), lstA p2 (r1 : (List Int)), imA (.ref ad_v_law_script) v_law_script, F] : List (Asn G)))), R.wp_mono (R.wp_bind hm) (fun r170 hm p171 H hS => ?_) (fun _ z => z)⟩
              have hS : Sep H ([imA (.ref p171) (r170 : (T5 Str Str Str Int Str)), imA (.ref p166) (r165 : Letter), imA u148 (x144 : Any), lstA p132 (y142 : (List Any)), imA (.ref p130) ((Any.tup []) : Any), imA p128 ((Any.tup ([(Any.str r4.a), (Any.str r4.b), (Any.str r4.c), (Any.int r4.d), (Any.str r4.e)] ++ [(Any.str ((⟨("" : Str)⟩ : T1 _).a))])) : Any), imA (.ref p111) ((⟨("" : Str)⟩ : T1 _) : (T1 Str)), imA (.ref p109) ((⟨r4.a, r4.b, r4.c, r4.d⟩ : T4 _ _ _ _) : (T4 Str Str Str Int)), lstA p86 ([(Any.str r4.a), (Any.str r4.b), (Any.str r4.c), (Any.int r4.d), (Any.str r4.e)] : (List Any)), imA a16 (s12 : Any), imA p9 (r8 : Any), imA (.ref p5) (r4 : (T5 Str Str Str Int Str)), lstA p2 (r1 : (List Int)), imA (.ref ad_v_law_script) v_law_script, F] : List (Asn G)) := Sep.star (M := [imA (.ref p171) (r170 : (T5 Str Str Str Int Str))]) hS
              refine ev_to (ev_var rfl) ?_
              obtain ⟨h173, hm⟩ := R.wp_need hm
              obtain ⟨h174, hm⟩ := R.wp_need hm
              refine ev_op2 (ev_eqP (G := G) (x := (r170 : (T5 Str Str Str Int Str))) (y := r4) ev_c ev_c (Pd.dp (hS.im (i := 0) rfl)) (Pd.dp (hS.im (i := 11) rfl)) h173 h174 (Nat.le_of_ble_eq_true rfl)) ?_
              refine andVK_J hm hS (fun hb q hm nx => ?_) (fun b175 H hm hS => ?_)
              ·
                refine f_notV ?_
                refine c_call ?_
                refine ea_to (ea_cons (ev_var rfl) (ea_cons ev_c ea_nil)) ?_
                obtain ⟨u176, u177, u178, u179, u180, hT186, h181, h182, h183, h184, h185⟩ := im5 (hS.im (i := 11) rfl)
                obtain rfl : u176 = (.str (r4.a)) := h181
                obtain rfl : u177 = (.str (r4.b)) := h182
                obtain rfl : u178 = (.str (r4.c)) := h183
                obtain rfl : u179 = (.int (r4.d)) := h184
                obtain rfl : u180 = (.str (r4.e)) := h185
                refine ⟨(.ref p5), ((Any.tup [(Any.str r4.a), (Any.str r4.b), (Any.str r4.c), (Any.int r4.d), (Any.str r4.e)]) : Any), 0, star [imA (.ref p171) (r170 : (T5 Str Str Str Int Str)), imA (.ref p166) (r165 : Letter), imA u148 (x144 : Any), lstA p132 (y142 : (List Any)), imA (.ref p130) ((Any.tup []) : Any), imA p128 ((Any.tup ([(Any.str r4.a), (Any.str r4.b), (Any.str r4.c), (Any.int r4.d), (Any.str r4.e)] ++ [(Any.str ((⟨("" : Str)⟩ : T1 _).a))])) : Any), imA (.ref p111) ((⟨("" : Str)⟩ : T1 _) : (T1 Str)), imA (.ref p109) ((⟨r4.a, r4.b, r4.c, r4.d⟩ : T4 _ _ _ _) : (T4 Str Str Str Int)), lstA p86 ([(Any.str r4.a), (Any.str r4.b), (Any.str r4.c), (Any.int r4.d), (Any.str r4.e)] : (List Any)), imA a16 (s12 : Any), imA p9 (r8 : Any), imA (.ref p5) (r4 : (T5 Str Str Str Int Str)), lstA p2 (r1 : (List Int)), imA (.ref ad_v_law_script) v_law_script, F], rfl, ((any_tup (xs := [(Any.str r4.a), (Any.str r4.b), (Any.str r4.c), (Any.int r4.d), (Any.str r4.e)])).mpr ⟨_, _, rfl, hT186, ⟨(any_str.mpr rfl), ⟨(any_str.mpr rfl), ⟨(any_str.mpr rfl), ⟨(any_int.mpr rfl), ⟨(any_str.mpr rfl), True.intro⟩⟩⟩⟩⟩⟩), Sep.unstar (M := []) (hS.sel [0, 1, 2, 3, 4, 5, 6, 7, 8, 9, 10, 11, 12, 13, 14] (by decide) rfl : Sep H (([] ++ [imA (.ref p171) (r170 : (T5 Str Str Str Int Str)), imA (.ref p166) (r165 : Letter), imA u148 (x144 : Any), lstA p132 (y142 : (List Any)), imA (.ref p130) ((Any.tup []) : Any), imA p128 ((Any.tup ([(Any.str r4.a), (Any.str r4.b), (Any.str r4.c), (Any.int r4.d), (Any.str r4.e)] ++ [(Any.str ((⟨("" : Str)⟩ : T1 _).a))])) : Any), imA (.ref p111) ((⟨("" : Str)⟩ : T1 _) : (T1 Str)), imA (.ref p109) ((⟨r4.a, r4.b, r4.c, r4.d⟩ : T4 _ _ _ _) : (T4 Str Str Str Int)), lstA p86 ([(Any.str r4.a), (Any.str r4.b), (Any.str r4.c), (Any.int r4.d), (Any.str r4.e)] : (List Any)), imA a16 (s12 : Any), imA p9 (r8 : Any), imA (.ref p5) (r4 : (T5 Str Str Str Int Str)), lstA p2 (r1 : (List Int)), imA (.ref ad_v_law_script) v_law_script, F] : List (Asn G)))), R.wp_mono (R.wp_bind hm) (fun r187 hm H hS => ?_) (fun _ z => z)⟩
                have hS : Sep H ([imA (.ref p171) (r170 : (T5 Str Str Str Int Str)), imA (.ref p166) (r165 : Letter), imA u148 (x144 : Any), lstA p132 (y142 : (List Any)), imA (.ref p130) ((Any.tup []) : Any), imA p128 ((Any.tup ([(Any.str r4.a), (Any.str r4.b), (Any.str r4.c), (Any.int r4.d), (Any.str r4.e)] ++ [(Any.str ((⟨("" : Str)⟩ : T1 _).a))])) : Any), imA (.ref p111) ((⟨("" : Str)⟩ : T1 _) : (T1 Str)), imA (.ref p109) ((⟨r4.a, r4.b, r4.c, r4.d⟩ : T4 _ _ _ _) : (T4 Str Str Str Int)), lstA p86 ([(Any.str r4.a), (Any.str r4.b), (Any.str r4.c), (Any.int r4.d), (Any.str r4.e)] : (List Any)), imA a16 (s12 : Any), imA p9 (r8 : Any), imA (.ref p5) (r4 : (T5 Str Str Str Int Str)), lstA p2 (r1 : (List Int)), imA (.ref ad_v_law_script) v_law_script, F] : List (Asn G)) := Sep.star (M := []) hS
                refine f_nV ?_
                exact nx _ _ hm (hS.sel [0, 1, 2, 3, 4, 5, 6, 7, 8, 9, 10, 11, 12, 13, 14] (by decide) rfl)
              ·
                exact hm _ (hS.sel [14] (by decide) rfl)
          · have hm := hn (by rw [hb85]; decide)
            refine st_nx ?_
            refine sq_nx ?_
            refine c_ret ?_
            refine f_andV ?_
            refine c_op ?_
            refine c_meth ?_
            refine c_call ?_
            refine ea_to (ea_cons (ev_var rfl) ea_nil) ?_
            obtain ⟨u188, u189, u190, u191, u192, hT198, h193, h194, h195, h196, h197⟩ := im5 (hS.im (i := 2) rfl)
            obtain rfl : u188 = (.str (r4.a)) := h193
            obtain rfl : u189 = (.str (r4.b)) := h194
            obtain rfl : u190 = (.str (r4.c)) := h195
            obtain rfl : u191 = (.int (r4.d)) := h196
            obtain rfl : u192 = (.str (r4.e)) := h197
            refine ⟨(.ref p5), ((Any.tup [(Any.str r4.a), (Any.str r4.b), (Any.str r4.c), (Any.int r4.d), (Any.str r4.e)]) : Any), star [imA a16 (s12 : Any), imA p9 (r8 : Any), imA (.ref p5) (r4 : (T5 Str Str Str Int Str)), lstA p2 (r1 : (List Int)), imA (.ref ad_v_law_script) v_law_script, F], rfl, ((any_tup (xs := [(Any.str r4.a), (Any.str r4.b), (Any.str r4.c), (Any.int r4.d), (Any.str r4.e)])).mpr ⟨_, _, rfl, hT198, ⟨(any_str.mpr rfl), ⟨(any_str.mpr rfl), ⟨(any_str.mpr rfl), ⟨(any_int.mpr rfl), ⟨(any_str.mpr rfl), True.intro⟩⟩⟩⟩⟩⟩), Sep.unstar (M := []) (hS.sel [0, 1, 2, 3, 4, 5] (by decide) rfl : Sep H (([] ++ [imA a16 (s12 : Any), imA p9 (r8 : Any), imA (.ref p5) (r4 : (T5 Str Str Str Int Str)), lstA p2 (r1 : (List Int)), imA (.ref ad_v_law_script) v_law_script, F] : List (Asn G)))), R.wp_mono (R.wp_bind hm) (fun r199 hm p200 H hS => ?_) (fun _ z => z.elim)⟩
            have hS : Sep H ([imA (.ref p200) (r199 : Letter), imA a16 (s12 : Any), imA p9 (r8 : Any), imA (.ref p5) (r4 : (T5 Str Str Str Int Str)), lstA p2 (r1 : (List Int)), imA (.ref ad_v_law_script) v_law_script, F] : List (Asn G)) := Sep.star (M := [imA (.ref p200) (r199 : Letter)]) hS
            obtain ⟨d202, hO203⟩ := im_Letter (hS.im (i := 0) rfl)
            refine ⟨_, _, _, rfl, hO203, rfl, ?_⟩
            refine ea_to ea_nil ?_
            refine ⟨p200, (r199 : Letter), star [imA (.ref p200) (r199 : Letter), imA a16 (s12 : Any), imA p9 (r8 : Any), imA (.ref p5) (r4 : (T5 Str Str Str Int Str)), lstA p2 (r1 : (List Int)), imA (.ref ad_v_law_script) v_law_script, F], rfl, (hS.im (i := 0) rfl), Sep.unstar (M := []) (hS.sel [0, 1, 2, 3, 4, 5, 6] (by decide) rfl : Sep H (([] ++ [imA (.ref p200) (r199 : Letter), imA a16 (s12 : Any), imA p9 (r8 : Any), imA (.ref p5) (r4 : (T5 Str Str Str Int Str)), lstA p2 (r1 : (List Int)), imA (.ref ad_v_law_script) v_law_script, F] : List (Asn G)))), R.wp_mono (R.wp_bind hm) (fun r204 hm p205 H hS => ?_) (fun _ z => z)⟩
            have hS : Sep H ([imA (.ref p205) (r204 : (T5 Str Str Str Int Str)), imA (.ref p200) (r199 : Letter), imA a16 (s12 : Any), imA p9 (r8 : Any), imA (.ref p5) (r4 : (T5 Str Str Str Int Str)), lstA p2 (r1 : (List Int)), imA (.ref ad_v_law_script) v_law_script, F] : List (Asn G)) := Sep.star (M := [imA (.ref p205) (r204 : (T5 Str Str Str Int Str))]) hS
            refine ev_to (ev_var rfl) ?_
            obtain ⟨h207, hm⟩ := R.wp_need hm
            obtain ⟨h208, hm⟩ := R.wp_need hm
            refine ev_op2 (ev_eqP (G := G) (x := (r204 : (T5 Str Str Str Int Str))) (y := r4) ev_c ev_c (Pd.dp (hS.im (i := 0) rfl)) (Pd.dp (hS.im (i := 4) rfl)) h207 h208 (Nat.le_of_ble_eq_true rfl)) ?_
            refine andVK_J hm hS (fun hb q hm nx => ?_) (fun b209 H hm hS => ?_)
            ·
              refine f_notV ?_
              refine c_call ?_
              refine ea_to (ea_cons (ev_var rfl) (ea_cons ev_c ea_nil)) ?_
              obtain ⟨u210, u211, u212, u213, u214, hT220, h215, h216, h217, h218, h219⟩ := im5 (hS.im (i := 4) rfl)
              obtain rfl : u210 = (.str (r4.a)) := h215
              obtain rfl : u211 = (.str (r4.b)) := h216
              obtain rfl : u212 = (.str (r4.c)) := h217
              obtain rfl : u213 = (.int (r4.d)) := h218
              obtain rfl : u214 = (.str (r4.e)) := h219
              refine ⟨(.ref p5), ((Any.tup [(Any.str r4.a), (Any.str r4.b), (Any.str r4.c), (Any.int r4.d), (Any.str r4.e)]) : Any), 0, star [imA (.ref p205) (r204 : (T5 Str Str Str Int Str)), imA (.ref p200) (r199 : Letter), imA a16 (s12 : Any), imA p9 (r8 : Any), imA (.ref p5) (r4 : (T5 Str Str Str Int Str)), lstA p2 (r1 : (List Int)), imA (.ref ad_v_law_script) v_law_script, F], rfl, ((any_tup (xs := [(Any.str r4.a), (Any.str r4.b), (Any.str r4.c), (Any.int r4.d), (Any.str r4.e)])).mpr ⟨_, _, rfl, hT220, ⟨(any_str.mpr rfl), ⟨(any_str.mpr rfl), ⟨(any_str.mpr rfl), ⟨(any_int.mpr rfl), ⟨(any_str.mpr rfl), True.intro⟩⟩⟩⟩⟩⟩), Sep.unstar (M := []) (hS.sel [0, 1, 2, 3, 4, 5, 6, 7] (by decide) rfl : Sep H (([] ++ [imA (.ref p205) (r204 : (T5 Str Str Str Int Str)), imA (.ref p200) (r199 : Letter), imA a16 (s12 : Any), imA p9 (r8 : Any), imA (.ref p5) (r4 : (T5 Str Str Str Int Str)), lstA p2 (r1 : (List Int)), imA (.ref ad_v_law_script) v_law_script, F] : List (Asn G)))), R.wp_mono (R.wp_bind hm) (fun r221 hm H hS => ?_) (fun _ z => z)⟩
              have hS : Sep H ([imA (.ref p205) (r204 : (T5 Str Str Str Int Str)), imA (.ref p200) (r199 : Letter), imA a16 (s12 : Any), imA p9 (r8 : Any), imA (.ref p5) (r4 : (T5 Str Str Str Int Str)), lstA p2 (r1 : (List Int)), imA (.ref ad_v_law_script) v_law_script, F] : List (Asn G)) := Sep.star (M := []) hS
              refine f_nV ?_
              exact nx _ _ hm (hS.sel [0, 1, 2, 3, 4, 5, 6, 7] (by decide) rfl)
            ·
              exact hm _ (hS.sel [7] (by decide) rfl)
end
end Lw

namespace Lw
open PySem PySem.Spec PyProof.Rows L2 Ml
def sp_top (K : PySem.W.Frag) : Sp := fun vs H Q E => ∃ (a : Addr) (ns : List Int), vs = [.ref a] ∧ SqL K H a (ns.map V.int) ∧ Only H ∧ ns.length ≤ 63 ∧ ∀ H', Q (.bl true) H'
theorem all_mk {l : PySem.W.OpenLaw} {w : World} {K : PySem.W.Frag} {h : Heap} {mg : Str → Option Value} {fa : Addr} (X : K.In h) (H : h.Ns mainGlobals mg) (hfa : mg "law" = some (.ref fa))
    {c0 : Addr}
    {c1 : Addr}
    {c2 : Addr}
    {c3 : Addr}
    {c4 : Addr}
    {c5 : Addr}
    {c6 : Addr}
    {c7 : Addr}
    {f0 : Addr} {od0 an0 : Option Addr} {sl0 : Array (Option Value)} {oc0 kV0 dc0 pm0 cd0 ct0 : Value}
    {f1 : Addr} {od1 an1 : Option Addr} {sl1 : Array (Option Value)} {oc1 kV1 dc1 pm1 cd1 ct1 : Value}
    {f2 : Addr} {od2 an2 : Option Addr} {sl2 : Array (Option Value)} {oc2 kV2 dc2 pm2 cd2 ct2 : Value}
    {f3 : Addr} {od3 an3 : Option Addr} {sl3 : Array (Option Value)} {oc3 kV3 dc3 pm3 cd3 ct3 : Value}
    {f4 : Addr} {od4 an4 : Option Addr} {sl4 : Array (Option Value)} {oc4 kV4 dc4 pm4 cd4 ct4 : Value}
    {f5 : Addr} {od5 an5 : Option Addr} {sl5 : Array (Option Value)} {oc5 kV5 dc5 pm5 cd5 ct5 : Value}
    {f6 : Addr} {od6 an6 : Option Addr} {sl6 : Array (Option Value)} {oc6 kV6 dc6 pm6 cd6 ct6 : Value}
    {T6 : Addr} {Tn6 : Nat}
    {Tk6_0 : Tok}
    {To6c : Value} {To6d : Option Addr} {To6s : Array (Option Value)}
    {f7 : Addr} {od7 an7 : Option Addr} {sl7 : Array (Option Value)} {oc7 kV7 dc7 pm7 cd7 ct7 : Value}
    {f8 : Addr} {od8 an8 : Option Addr} {sl8 : Array (Option Value)} {oc8 kV8 dc8 pm8 cd8 ct8 : Value}
    {f9 : Addr} {od9 an9 : Option Addr} {sl9 : Array (Option Value)} {oc9 kV9 dc9 pm9 cd9 ct9 : Value}
    {f10 : Addr} {od10 an10 : Option Addr} {sl10 : Array (Option Value)} {oc10 kV10 dc10 pm10 cd10 ct10 : Value}
    {f11 : Addr} {od11 an11 : Option Addr} {sl11 : Array (Option Value)} {oc11 kV11 dc11 pm11 cd11 ct11 : Value}
    {f12 : Addr} {od12 an12 : Option Addr} {sl12 : Array (Option Value)} {oc12 kV12 dc12 pm12 cd12 ct12 : Value}
    {f13 : Addr} {od13 an13 : Option Addr} {sl13 : Array (Option Value)} {oc13 kV13 dc13 pm13 cd13 ct13 : Value}
    {f14 : Addr} {od14 an14 : Option Addr} {sl14 : Array (Option Value)} {oc14 kV14 dc14 pm14 cd14 ct14 : Value}
    {f15 : Addr} {od15 an15 : Option Addr} {sl15 : Array (Option Value)} {oc15 kV15 dc15 pm15 cd15 ct15 : Value}
    {f16 : Addr} {od16 an16 : Option Addr} {sl16 : Array (Option Value)} {oc16 kV16 dc16 pm16 cd16 ct16 : Value}
    {f17 : Addr} {od17 an17 : Option Addr} {sl17 : Array (Option Value)} {oc17 kV17 dc17 pm17 cd17 ct17 : Value}
    {f18 : Addr} {od18 an18 : Option Addr} {sl18 : Array (Option Value)} {oc18 kV18 dc18 pm18 cd18 ct18 : Value}
    {f19 : Addr} {od19 an19 : Option Addr} {sl19 : Array (Option Value)} {oc19 kV19 dc19 pm19 cd19 ct19 : Value}
    {t_FIGURES : Tok}
    {t_MOST_BODY : Tok}
    {t_MOST_DAY : Tok}
    {t_MOST_SIGNS : Tok}
    {t_MOST_TITLE : Tok}
    {t_SMALL : Tok}
    (ac0 : PySem.W.nsIn K mainGlobals "MailError" = some (some (.ref c0)))
    (ac1 : PySem.W.nsIn K mainGlobals "NoWord" = some (some (.ref c1)))
    (ac2 : PySem.W.nsIn K mainGlobals "NoLetter" = some (some (.ref c2)))
    (ac3 : PySem.W.nsIn K mainGlobals "NoRule" = some (some (.ref c3)))
    (ac4 : PySem.W.nsIn K mainGlobals "NoName" = some (some (.ref c4)))
    (ac5 : PySem.W.nsIn K mainGlobals "NoParcel" = some (some (.ref c5)))
    (ac6 : PySem.W.nsIn K mainGlobals "NoRow" = some (some (.ref c6)))
    (ac7 : PySem.W.nsIn K mainGlobals "Letter" = some (some (.ref c7)))
    (a0 : PySem.W.nsIn K mainGlobals "is_sign" = some (some (.ref f0)))
    (l0 : K.lookup f0 = some ⟨oc0, od0, .func (PySem.W.fnOf "is_sign" "is_sign" (defArgs s_is_sign) (defBody s_is_sign) (defScope s_is_sign) .none kV0 dc0 pm0 an0 cd0 ct0), sl0⟩)
    (cc0 : PySem.W.codeIn K cd0 "is_sign" = true)
    (k0 : PySem.W.keepIn K (.ref f0) = true)
    (a1 : PySem.W.nsIn K mainGlobals "is_word" = some (some (.ref f1)))
    (l1 : K.lookup f1 = some ⟨oc1, od1, .func (PySem.W.fnOf "is_word" "is_word" (defArgs s_is_word) (defBody s_is_word) (defScope s_is_word) .none kV1 dc1 pm1 an1 cd1 ct1), sl1⟩)
    (cc1 : PySem.W.codeIn K cd1 "is_word" = true)
    (k1 : PySem.W.keepIn K (.ref f1) = true)
    (a2 : PySem.W.nsIn K mainGlobals "words_of" = some (some (.ref f2)))
    (l2 : K.lookup f2 = some ⟨oc2, od2, .func (PySem.W.fnOf "words_of" "words_of" (defArgs s_words_of) (defBody s_words_of) (defScope s_words_of) .none kV2 dc2 pm2 an2 cd2 ct2), sl2⟩)
    (cc2 : PySem.W.codeIn K cd2 "words_of" = true)
    (k2 : PySem.W.keepIn K (.ref f2) = true)
    (a3 : PySem.W.nsIn K mainGlobals "each_once" = some (some (.ref f3)))
    (l3 : K.lookup f3 = some ⟨oc3, od3, .func (PySem.W.fnOf "each_once" "each_once" (defArgs s_each_once) (defBody s_each_once) (defScope s_each_once) .none kV3 dc3 pm3 an3 cd3 ct3), sl3⟩)
    (cc3 : PySem.W.codeIn K cd3 "each_once" = true)
    (k3 : PySem.W.keepIn K (.ref f3) = true)
    (a4 : PySem.W.nsIn K mainGlobals "is_text" = some (some (.ref f4)))
    (l4 : K.lookup f4 = some ⟨oc4, od4, .func (PySem.W.fnOf "is_text" "is_text" (defArgs s_is_text) (defBody s_is_text) (defScope s_is_text) .none kV4 dc4 pm4 an4 cd4 ct4), sl4⟩)
    (cc4 : PySem.W.codeIn K cd4 "is_text" = true)
    (k4 : PySem.W.keepIn K (.ref f4) = true)
    (a5 : PySem.W.nsIn K mainGlobals "is_day" = some (some (.ref f5)))
    (l5 : K.lookup f5 = some ⟨oc5, od5, .func (PySem.W.fnOf "is_day" "is_day" (defArgs s_is_day) (defBody s_is_day) (defScope s_is_day) .none kV5 dc5 pm5 an5 cd5 ct5), sl5⟩)
    (cc5 : PySem.W.codeIn K cd5 "is_day" = true)
    (k5 : PySem.W.keepIn K (.ref f5) = true)
    (a6 : PySem.W.findIn K (.ref c7) "__init__" = some (some (.ref f6)))
    (i6 : PySem.W.isFn K (.ref f6) = true)
    (l6 : K.lookup f6 = some ⟨oc6, od6, .func (PySem.W.fnOf "__init__" "Letter.__init__" (defArgs s_Letter___init__) (defBody s_Letter___init__) (defScope s_Letter___init__) (.ref T6) kV6 dc6 pm6 an6 cd6 ct6), sl6⟩)
    (cc6 : PySem.W.codeIn K cd6 "Letter.__init__" = true)
    (k6 : PySem.W.keepIn K (.ref f6) = true)
    (T6l : K.lookup T6 = some ⟨To6c, To6d, .seq #[.str ("" : Str) Tk6_0] Tn6, To6s⟩)
    (mk7 : PySem.W.makesIn K c7 = true)
    (kc7 : PySem.W.keepIn K (.ref c7) = true)
    (a7 : PySem.W.findIn K (.ref c7) "parts" = some (some (.ref f7)))
    (i7 : PySem.W.isFn K (.ref f7) = true)
    (l7 : K.lookup f7 = some ⟨oc7, od7, .func (PySem.W.fnOf "parts" "Letter.parts" (defArgs s_Letter_parts) (defBody s_Letter_parts) (defScope s_Letter_parts) .none kV7 dc7 pm7 an7 cd7 ct7), sl7⟩)
    (cc7 : PySem.W.codeIn K cd7 "Letter.parts" = true)
    (k7 : PySem.W.keepIn K (.ref f7) = true)
    (a8 : PySem.W.findIn K (.ref c7) "words" = some (some (.ref f8)))
    (i8 : PySem.W.isFn K (.ref f8) = true)
    (l8 : K.lookup f8 = some ⟨oc8, od8, .func (PySem.W.fnOf "words" "Letter.words" (defArgs s_Letter_words) (defBody s_Letter_words) (defScope s_Letter_words) .none kV8 dc8 pm8 an8 cd8 ct8), sl8⟩)
    (cc8 : PySem.W.codeIn K cd8 "Letter.words" = true)
    (k8 : PySem.W.keepIn K (.ref f8) = true)
    (a9 : PySem.W.nsIn K mainGlobals "letter_of" = some (some (.ref f9)))
    (l9 : K.lookup f9 = some ⟨oc9, od9, .func (PySem.W.fnOf "letter_of" "letter_of" (defArgs s_letter_of) (defBody s_letter_of) (defScope s_letter_of) .none kV9 dc9 pm9 an9 cd9 ct9), sl9⟩)
    (cc9 : PySem.W.codeIn K cd9 "letter_of" = true)
    (k9 : PySem.W.keepIn K (.ref f9) = true)
    (a10 : PySem.W.nsIn K mainGlobals "_law_row" = some (some (.ref f10)))
    (l10 : K.lookup f10 = some ⟨oc10, od10, .func (PySem.W.fnOf "_law_row" "_law_row" (defArgs s_law_row) (defBody s_law_row) (defScope s_law_row) .none kV10 dc10 pm10 an10 cd10 ct10), sl10⟩)
    (cc10 : PySem.W.codeIn K cd10 "_law_row" = true)
    (k10 : PySem.W.keepIn K (.ref f10) = true)
    (a11 : PySem.W.nsIn K mainGlobals "_law_word" = some (some (.ref f11)))
    (l11 : K.lookup f11 = some ⟨oc11, od11, .func (PySem.W.fnOf "_law_word" "_law_word" (defArgs s_law_word) (defBody s_law_word) (defScope s_law_word) .none kV11 dc11 pm11 an11 cd11 ct11), sl11⟩)
    (cc11 : PySem.W.codeIn K cd11 "_law_word" = true)
    (k11 : PySem.W.keepIn K (.ref f11) = true)
    (a12 : PySem.W.nsIn K mainGlobals "_law_signs" = some (some (.ref f12)))
    (l12 : K.lookup f12 = some ⟨oc12, od12, .func (PySem.W.fnOf "_law_signs" "_law_signs" (defArgs s_law_signs) (defBody s_law_signs) (defScope s_law_signs) .none kV12 dc12 pm12 an12 cd12 ct12), sl12⟩)
    (cc12 : PySem.W.codeIn K cd12 "_law_signs" = true)
    (k12 : PySem.W.keepIn K (.ref f12) = true)
    (a13 : PySem.W.nsIn K mainGlobals "_law_parts" = some (some (.ref f13)))
    (l13 : K.lookup f13 = some ⟨oc13, od13, .func (PySem.W.fnOf "_law_parts" "_law_parts" (defArgs s_law_parts) (defBody s_law_parts) (defScope s_law_parts) .none kV13 dc13 pm13 an13 cd13 ct13), sl13⟩)
    (cc13 : PySem.W.codeIn K cd13 "_law_parts" = true)
    (k13 : PySem.W.keepIn K (.ref f13) = true)
    (a14 : PySem.W.nsIn K mainGlobals "_law_of_one_class" = some (some (.ref f14)))
    (l14 : K.lookup f14 = some ⟨oc14, od14, .func (PySem.W.fnOf "_law_of_one_class" "_law_of_one_class" (defArgs s_law_of_one_class) (defBody s_law_of_one_class) (defScope s_law_of_one_class) .none kV14 dc14 pm14 an14 cd14 ct14), sl14⟩)
    (cc14 : PySem.W.codeIn K cd14 "_law_of_one_class" = true)
    (k14 : PySem.W.keepIn K (.ref f14) = true)
    (a15 : PySem.W.nsIn K mainGlobals "_law_odd_word" = some (some (.ref f15)))
    (l15 : K.lookup f15 = some ⟨oc15, od15, .func (PySem.W.fnOf "_law_odd_word" "_law_odd_word" (defArgs s_law_odd_word) (defBody s_law_odd_word) (defScope s_law_odd_word) .none kV15 dc15 pm15 an15 cd15 ct15), sl15⟩)
    (cc15 : PySem.W.codeIn K cd15 "_law_odd_word" = true)
    (k15 : PySem.W.keepIn K (.ref f15) = true)
    (a16 : PySem.W.nsIn K mainGlobals "_law_odd_title" = some (some (.ref f16)))
    (l16 : K.lookup f16 = some ⟨oc16, od16, .func (PySem.W.fnOf "_law_odd_title" "_law_odd_title" (defArgs s_law_odd_title) (defBody s_law_odd_title) (defScope s_law_odd_title) .none kV16 dc16 pm16 an16 cd16 ct16), sl16⟩)
    (cc16 : PySem.W.codeIn K cd16 "_law_odd_title" = true)
    (k16 : PySem.W.keepIn K (.ref f16) = true)
    (a17 : PySem.W.nsIn K mainGlobals "_law_odd_parts" = some (some (.ref f17)))
    (l17 : K.lookup f17 = some ⟨oc17, od17, .func (PySem.W.fnOf "_law_odd_parts" "_law_odd_parts" (defArgs s_law_odd_parts) (defBody s_law_odd_parts) (defScope s_law_odd_parts) .none kV17 dc17 pm17 an17 cd17 ct17), sl17⟩)
    (cc17 : PySem.W.codeIn K cd17 "_law_odd_parts" = true)
    (k17 : PySem.W.keepIn K (.ref f17) = true)
    (a18 : PySem.W.nsIn K mainGlobals "_law_refused" = some (some (.ref f18)))
    (l18 : K.lookup f18 = some ⟨oc18, od18, .func (PySem.W.fnOf "_law_refused" "_law_refused" (defArgs s_law_refused) (defBody s_law_refused) (defScope s_law_refused) .none kV18 dc18 pm18 an18 cd18 ct18), sl18⟩)
    (cc18 : PySem.W.codeIn K cd18 "_law_refused" = true)
    (k18 : PySem.W.keepIn K (.ref f18) = true)
    (a19 : PySem.W.nsIn K mainGlobals "law" = some (some (.ref f19)))
    (l19 : K.lookup f19 = some ⟨oc19, od19, .func (PySem.W.fnOf "law" "law" (defArgs s_law) (defBody s_law) (defScope s_law) .none kV19 dc19 pm19 an19 cd19 ct19), sl19⟩)
    (cc19 : PySem.W.codeIn K cd19 "law" = true)
    (k19 : PySem.W.keepIn K (.ref f19) = true)
    (bE0 : PySem.W.subIn K (.ref c0) (.type "BaseException") = some true)
    (tE0 : PySem.W.typeIn K (.ref c0) = some (.type "type"))
    (hE0 : PySem.W.hasDictIn K c0 = true)
    (s0_0 : PySem.W.subIn K (.ref c0) (.ref c0) = some true)
    (s1_0 : PySem.W.subIn K (.ref c1) (.ref c0) = some true)
    (s2_0 : PySem.W.subIn K (.ref c2) (.ref c0) = some true)
    (s3_0 : PySem.W.subIn K (.ref c3) (.ref c0) = some true)
    (s4_0 : PySem.W.subIn K (.ref c4) (.ref c0) = some true)
    (s5_0 : PySem.W.subIn K (.ref c5) (.ref c0) = some true)
    (s6_0 : PySem.W.subIn K (.ref c6) (.ref c0) = some true)
    (xE2 : PySem.W.excIn K c2 [.type "ValueError", .type "Exception", .type "BaseException", .type "object"] "ValueError.__new__" = true)
    (kE2 : PySem.W.keepIn K (.ref c2) = true)
    (bE2 : PySem.W.subIn K (.ref c2) (.type "BaseException") = some true)
    (tE2 : PySem.W.typeIn K (.ref c2) = some (.type "type"))
    (pg7 : PySem.W.plainGet K c7 Str.empty = true)
    (hd7 : PySem.W.hasDictIn K c7 = true)
    (po7 : PySem.W.plainOver K c7 = true)
    (sa7 : PySem.W.findIn K (.ref c7) "__setattr__" = some (some (.builtin "object.__setattr__")))
    (nf7_0 : PySem.W.findIn K (.ref c7) "sender" = some none)
    (nf7_1 : PySem.W.findIn K (.ref c7) "title" = some none)
    (nf7_2 : PySem.W.findIn K (.ref c7) "body" = some none)
    (nf7_3 : PySem.W.findIn K (.ref c7) "day" = some none)
    (nf7_4 : PySem.W.findIn K (.ref c7) "answers" = some none)
    (ea0 : PySem.W.findIn K (.ref c0) "__getattribute__" = some (some (.builtin "BaseException.__getattribute__")))
    (eb0 : PySem.W.findIn K (.ref c0) "__getattr__" = some none)
    (ed0 : PySem.W.findIn K (.ref c0) "__class__" = some (some (.builtin "object.__class__")))
    (eh0 : PySem.W.mroIn K c0 (.type "object") = some true)
    (ea1 : PySem.W.findIn K (.ref c1) "__getattribute__" = some (some (.builtin "BaseException.__getattribute__")))
    (eb1 : PySem.W.findIn K (.ref c1) "__getattr__" = some none)
    (bE1 : PySem.W.subIn K (.ref c1) (.type "BaseException") = some true)
    (tE1 : PySem.W.typeIn K (.ref c1) = some (.type "type"))
    (hE1 : PySem.W.hasDictIn K c1 = true)
    (ed1 : PySem.W.findIn K (.ref c1) "__class__" = some (some (.builtin "object.__class__")))
    (eh1 : PySem.W.mroIn K c1 (.type "object") = some true)
    (ea2 : PySem.W.findIn K (.ref c2) "__getattribute__" = some (some (.builtin "BaseException.__getattribute__")))
    (eb2 : PySem.W.findIn K (.ref c2) "__getattr__" = some none)
    (hE2 : PySem.W.hasDictIn K c2 = true)
    (ed2 : PySem.W.findIn K (.ref c2) "__class__" = some (some (.builtin "object.__class__")))
    (eh2 : PySem.W.mroIn K c2 (.type "object") = some true)
    (ea3 : PySem.W.findIn K (.ref c3) "__getattribute__" = some (some (.builtin "BaseException.__getattribute__")))
    (eb3 : PySem.W.findIn K (.ref c3) "__getattr__" = some none)
    (bE3 : PySem.W.subIn K (.ref c3) (.type "BaseException") = some true)
    (tE3 : PySem.W.typeIn K (.ref c3) = some (.type "type"))
    (hE3 : PySem.W.hasDictIn K c3 = true)
    (ed3 : PySem.W.findIn K (.ref c3) "__class__" = some (some (.builtin "object.__class__")))
    (eh3 : PySem.W.mroIn K c3 (.type "object") = some true)
    (ea4 : PySem.W.findIn K (.ref c4) "__getattribute__" = some (some (.builtin "BaseException.__getattribute__")))
    (eb4 : PySem.W.findIn K (.ref c4) "__getattr__" = some none)
    (bE4 : PySem.W.subIn K (.ref c4) (.type "BaseException") = some true)
    (tE4 : PySem.W.typeIn K (.ref c4) = some (.type "type"))
    (hE4 : PySem.W.hasDictIn K c4 = true)
    (ed4 : PySem.W.findIn K (.ref c4) "__class__" = some (some (.builtin "object.__class__")))
    (eh4 : PySem.W.mroIn K c4 (.type "object") = some true)
    (ea5 : PySem.W.findIn K (.ref c5) "__getattribute__" = some (some (.builtin "BaseException.__getattribute__")))
    (eb5 : PySem.W.findIn K (.ref c5) "__getattr__" = some none)
    (bE5 : PySem.W.subIn K (.ref c5) (.type "BaseException") = some true)
    (tE5 : PySem.W.typeIn K (.ref c5) = some (.type "type"))
    (hE5 : PySem.W.hasDictIn K c5 = true)
    (ed5 : PySem.W.findIn K (.ref c5) "__class__" = some (some (.builtin "object.__class__")))
    (eh5 : PySem.W.mroIn K c5 (.type "object") = some true)
    (ea6 : PySem.W.findIn K (.ref c6) "__getattribute__" = some (some (.builtin "BaseException.__getattribute__")))
    (eb6 : PySem.W.findIn K (.ref c6) "__getattr__" = some none)
    (bE6 : PySem.W.subIn K (.ref c6) (.type "BaseException") = some true)
    (tE6 : PySem.W.typeIn K (.ref c6) = some (.type "type"))
    (hE6 : PySem.W.hasDictIn K c6 = true)
    (ed6 : PySem.W.findIn K (.ref c6) "__class__" = some (some (.builtin "object.__class__")))
    (eh6 : PySem.W.mroIn K c6 (.type "object") = some true)
    (ee : PySem.W.specialIn K (.builtin "object.__class__") "__get__" = some (some (.builtin "getset_descriptor.__get__")))
    (ef : PySem.W.takesIn K (.builtin "object.__class__") = some true)
    (sk0_2 : PySem.W.subIn K (.ref c0) (.ref c2) = some false)
    (nk0_2 : ¬ c0 = c2)
    (sk1_2 : PySem.W.subIn K (.ref c1) (.ref c2) = some false)
    (nk1_2 : ¬ c1 = c2)
    (sk2_2 : PySem.W.subIn K (.ref c2) (.ref c2) = some true)
    (sk3_2 : PySem.W.subIn K (.ref c3) (.ref c2) = some false)
    (nk3_2 : ¬ c3 = c2)
    (sk4_2 : PySem.W.subIn K (.ref c4) (.ref c2) = some false)
    (nk4_2 : ¬ c4 = c2)
    (sk5_2 : PySem.W.subIn K (.ref c5) (.ref c2) = some false)
    (nk5_2 : ¬ c5 = c2)
    (sk6_2 : PySem.W.subIn K (.ref c6) (.ref c2) = some false)
    (nk6_2 : ¬ c6 = c2)
    (sk0_4 : PySem.W.subIn K (.ref c0) (.ref c4) = some false)
    (nk0_4 : ¬ c0 = c4)
    (sk1_4 : PySem.W.subIn K (.ref c1) (.ref c4) = some false)
    (nk1_4 : ¬ c1 = c4)
    (sk2_4 : PySem.W.subIn K (.ref c2) (.ref c4) = some false)
    (nk2_4 : ¬ c2 = c4)
    (sk3_4 : PySem.W.subIn K (.ref c3) (.ref c4) = some false)
    (nk3_4 : ¬ c3 = c4)
    (sk4_4 : PySem.W.subIn K (.ref c4) (.ref c4) = some true)
    (sk5_4 : PySem.W.subIn K (.ref c5) (.ref c4) = some false)
    (nk5_4 : ¬ c5 = c4)
    (sk6_4 : PySem.W.subIn K (.ref c6) (.ref c4) = some false)
    (nk6_4 : ¬ c6 = c4)
    (sk0_5 : PySem.W.subIn K (.ref c0) (.ref c5) = some false)
    (nk0_5 : ¬ c0 = c5)
    (sk1_5 : PySem.W.subIn K (.ref c1) (.ref c5) = some false)
    (nk1_5 : ¬ c1 = c5)
    (sk2_5 : PySem.W.subIn K (.ref c2) (.ref c5) = some false)
    (nk2_5 : ¬ c2 = c5)
    (sk3_5 : PySem.W.subIn K (.ref c3) (.ref c5) = some false)
    (nk3_5 : ¬ c3 = c5)
    (sk4_5 : PySem.W.subIn K (.ref c4) (.ref c5) = some false)
    (nk4_5 : ¬ c4 = c5)
    (sk5_5 : PySem.W.subIn K (.ref c5) (.ref c5) = some true)
    (sk6_5 : PySem.W.subIn K (.ref c6) (.ref c5) = some false)
    (nk6_5 : ¬ c6 = c5)
    (sk0_6 : PySem.W.subIn K (.ref c0) (.ref c6) = some false)
    (nk0_6 : ¬ c0 = c6)
    (sk1_6 : PySem.W.subIn K (.ref c1) (.ref c6) = some false)
    (nk1_6 : ¬ c1 = c6)
    (sk2_6 : PySem.W.subIn K (.ref c2) (.ref c6) = some false)
    (nk2_6 : ¬ c2 = c6)
    (sk3_6 : PySem.W.subIn K (.ref c3) (.ref c6) = some false)
    (nk3_6 : ¬ c3 = c6)
    (sk4_6 : PySem.W.subIn K (.ref c4) (.ref c6) = some false)
    (nk4_6 : ¬ c4 = c6)
    (sk5_6 : PySem.W.subIn K (.ref c5) (.ref c6) = some false)
    (nk5_6 : ¬ c5 = c6)
    (sk6_6 : PySem.W.subIn K (.ref c6) (.ref c6) = some true)
    (sk0_3 : PySem.W.subIn K (.ref c0) (.ref c3) = some false)
    (nk0_3 : ¬ c0 = c3)
    (sk1_3 : PySem.W.subIn K (.ref c1) (.ref c3) = some false)
    (nk1_3 : ¬ c1 = c3)
    (sk2_3 : PySem.W.subIn K (.ref c2) (.ref c3) = some false)
    (nk2_3 : ¬ c2 = c3)
    (sk3_3 : PySem.W.subIn K (.ref c3) (.ref c3) = some true)
    (sk4_3 : PySem.W.subIn K (.ref c4) (.ref c3) = some false)
    (nk4_3 : ¬ c4 = c3)
    (sk5_3 : PySem.W.subIn K (.ref c5) (.ref c3) = some false)
    (nk5_3 : ¬ c5 = c3)
    (sk6_3 : PySem.W.subIn K (.ref c6) (.ref c3) = some false)
    (nk6_3 : ¬ c6 = c3)
    (sk0_1 : PySem.W.subIn K (.ref c0) (.ref c1) = some false)
    (nk0_1 : ¬ c0 = c1)
    (sk1_1 : PySem.W.subIn K (.ref c1) (.ref c1) = some true)
    (sk2_1 : PySem.W.subIn K (.ref c2) (.ref c1) = some false)
    (nk2_1 : ¬ c2 = c1)
    (sk3_1 : PySem.W.subIn K (.ref c3) (.ref c1) = some false)
    (nk3_1 : ¬ c3 = c1)
    (sk4_1 : PySem.W.subIn K (.ref c4) (.ref c1) = some false)
    (nk4_1 : ¬ c4 = c1)
    (sk5_1 : PySem.W.subIn K (.ref c5) (.ref c1) = some false)
    (nk5_1 : ¬ c5 = c1)
    (sk6_1 : PySem.W.subIn K (.ref c6) (.ref c1) = some false)
    (nk6_1 : ¬ c6 = c1)
    (kv0 : PySem.W.subIn K (.ref c0) (.type "ValueError") = some true)
    (kv1 : PySem.W.subIn K (.ref c1) (.type "ValueError") = some true)
    (kv2 : PySem.W.subIn K (.ref c2) (.type "ValueError") = some true)
    (kv3 : PySem.W.subIn K (.ref c3) (.type "ValueError") = some true)
    (kv4 : PySem.W.subIn K (.ref c4) (.type "ValueError") = some true)
    (kv5 : PySem.W.subIn K (.ref c5) (.type "ValueError") = some true)
    (kv6 : PySem.W.subIn K (.ref c6) (.type "ValueError") = some true)
    (z_ValueError : PySem.W.nsIn K mainGlobals "ValueError" = some none)
    (z_all : PySem.W.nsIn K mainGlobals "all" = some none)
    (z_bool : PySem.W.nsIn K mainGlobals "bool" = some none)
    (z_int : PySem.W.nsIn K mainGlobals "int" = some none)
    (z_isinstance : PySem.W.nsIn K mainGlobals "isinstance" = some none)
    (z_len : PySem.W.nsIn K mainGlobals "len" = some none)
    (z_list : PySem.W.nsIn K mainGlobals "list" = some none)
    (z_range : PySem.W.nsIn K mainGlobals "range" = some none)
    (z_str : PySem.W.nsIn K mainGlobals "str" = some none)
    (z_tuple : PySem.W.nsIn K mainGlobals "tuple" = some none)
    (v_FIGURES : PySem.W.nsIn K mainGlobals "FIGURES" = some (some (.str ("0123456789" : Str) t_FIGURES)))
    (v_MOST_BODY : PySem.W.nsIn K mainGlobals "MOST_BODY" = some (some (.int 400 t_MOST_BODY)))
    (v_MOST_DAY : PySem.W.nsIn K mainGlobals "MOST_DAY" = some (some (.int 9999 t_MOST_DAY)))
    (v_MOST_SIGNS : PySem.W.nsIn K mainGlobals "MOST_SIGNS" = some (some (.int 20 t_MOST_SIGNS)))
    (v_MOST_TITLE : PySem.W.nsIn K mainGlobals "MOST_TITLE" = some (some (.int 60 t_MOST_TITLE)))
    (v_SMALL : PySem.W.nsIn K mainGlobals "SMALL" = some (some (.str ("abcdefghijklmnopqrstuvwxyz" : Str) t_SMALL)))
    : ∃ fd : FuncData, (∀ (s : Shared) (v : Value), BindsTo s fd ⟨[v], []⟩ [("_law_script", v)]) ∧ ∀ base : Heap, K.In base → base.Ns mainGlobals mg → FnOk l.prog w K mg base CX0 7 fa fd ["_law_script"] (sp_top K) := by
  have e := hfa.symm.trans (PySem.W.mg_of X H a19)
  cases e
  have F0 := fun_mk (st := s_is_sign) l0 cc0 k0
  have b0 := F0.binds (ps := ["sign"]) fun _ _ _ _ _ _ us hl => match us, hl with | [_], _ => rfl
  have F1 := fun_mk (st := s_is_word) l1 cc1 k1
  have b1 := F1.binds (ps := ["thing"]) fun _ _ _ _ _ _ us hl => match us, hl with | [_], _ => rfl
  have F2 := fun_mk (st := s_words_of) l2 cc2 k2
  have b2 := F2.binds (ps := ["text"]) fun _ _ _ _ _ _ us hl => match us, hl with | [_], _ => rfl
  have F3 := fun_mk (st := s_each_once) l3 cc3 k3
  have b3 := F3.binds (ps := ["row"]) fun _ _ _ _ _ _ us hl => match us, hl with | [_], _ => rfl
  have F4 := fun_mk (st := s_is_text) l4 cc4 k4
  have b4 := F4.binds (ps := ["thing", "most"]) fun _ _ _ _ _ _ us hl => match us, hl with | [_, _], _ => rfl
  have F5 := fun_mk (st := s_is_day) l5 cc5 k5
  have b5 := F5.binds (ps := ["thing"]) fun _ _ _ _ _ _ us hl => match us, hl with | [_], _ => rfl
  have F6 : FunD K "__init__" "Letter.__init__" (defArgs s_Letter___init__) (defBody s_Letter___init__) (defScope s_Letter___init__) [.str ("" : Str)] [] f6 _ := ⟨⟨oc6, od6, .ref T6, kV6, dc6, pm6, an6, cd6, ct6, sl6, rfl, l6, cc6, .inr ⟨by simp, T6, _, [.str ("" : Str) Tk6_0], Tn6, rfl, T6l, rfl, (Paired.cons ⟨_, rfl⟩ Paired.nil)⟩, .inl rfl⟩, k6⟩
  have b6 : Binds K (PySem.W.fnOf "__init__" "Letter.__init__" (defArgs s_Letter___init__) (defBody s_Letter___init__) (defScope s_Letter___init__) (.ref T6) kV6 dc6 pm6 an6 cd6 ct6) ["self", "sender", "title", "body", "day", "answers"] [] := by
    obtain ⟨ds, hv, hb⟩ := F6.binds1 (ps := ["self", "sender", "title", "body", "day", "answers"]) 6 1 (by simp) rfl (fun _ _ _ _ _ _ _ us its hl hi => match us, its, hl, hi with | [_, _, _, _, _, _], [_], _, _ => ⟨_, rfl, rfl⟩)
    cases hv; exact hb
  have F7 := fun_mk (st := s_Letter_parts) l7 cc7 k7
  have b7 := F7.binds (ps := ["self"]) fun _ _ _ _ _ _ us hl => match us, hl with | [_], _ => rfl
  have F8 := fun_mk (st := s_Letter_words) l8 cc8 k8
  have b8 := F8.binds (ps := ["self"]) fun _ _ _ _ _ _ us hl => match us, hl with | [_], _ => rfl
  have F9 := fun_mk (st := s_letter_of) l9 cc9 k9
  have b9 := F9.binds (ps := ["thing"]) fun _ _ _ _ _ _ us hl => match us, hl with | [_], _ => rfl
  have F10 := fun_mk (st := s_law_row) l10 cc10 k10
  have b10 := F10.binds (ps := ["_law_script", "_law_many"]) fun _ _ _ _ _ _ us hl => match us, hl with | [_, _], _ => rfl
  have F11 := fun_mk (st := s_law_word) l11 cc11 k11
  have b11 := F11.binds (ps := ["_law_base", "_law_turn"]) fun _ _ _ _ _ _ us hl => match us, hl with | [_, _], _ => rfl
  have F12 := fun_mk (st := s_law_signs) l12 cc12 k12
  have b12 := F12.binds (ps := ["_law_number", "_law_many"]) fun _ _ _ _ _ _ us hl => match us, hl with | [_, _], _ => rfl
  have F13 := fun_mk (st := s_law_parts) l13 cc13 k13
  have b13 := F13.binds (ps := ["_law_row_here", "_law_base"]) fun _ _ _ _ _ _ us hl => match us, hl with | [_, _], _ => rfl
  have F14 := fun_mk (st := s_law_of_one_class) l14 cc14 k14
  have b14 := F14.binds (ps := ["_law_e"]) fun _ _ _ _ _ _ us hl => match us, hl with | [_], _ => rfl
  have F15 := fun_mk (st := s_law_odd_word) l15 cc15 k15
  have b15 := F15.binds (ps := ["_law_number", "_law_word_here"]) fun _ _ _ _ _ _ us hl => match us, hl with | [_, _], _ => rfl
  have F16 := fun_mk (st := s_law_odd_title) l16 cc16 k16
  have b16 := F16.binds (ps := ["_law_number", "_law_title"]) fun _ _ _ _ _ _ us hl => match us, hl with | [_, _], _ => rfl
  have F17 := fun_mk (st := s_law_odd_parts) l17 cc17 k17
  have b17 := F17.binds (ps := ["_law_number", "_law_parts_here"]) fun _ _ _ _ _ _ us hl => match us, hl with | [_, _], _ => rfl
  have F18 := fun_mk (st := s_law_refused) l18 cc18 k18
  have b18 := F18.binds (ps := ["_law_parts_here", "_law_way"]) fun _ _ _ _ _ _ us hl => match us, hl with | [_, _], _ => rfl
  have F19 := fun_mk (st := s_law) l19 cc19 k19
  have b19 := F19.binds (ps := ["_law_script"]) fun _ _ _ _ _ _ us hl => match us, hl with | [_], _ => rfl
  let G : Gx := ⟨K, fun a => if a = c7 then some 5 else none, fun i => ([c0, c1, c2, c3, c4, c5, c6, c7] : List Addr).getD i 0⟩
  have hfz7 : G.fz (G.cl 7) = some 5 := by show (if c7 = c7 then some 5 else none) = some 5; rw [if_pos rfl]
  let T : Txt G mg := {
    a_is_sign := f0,
    fd_is_sign := _,
    F_is_sign := F0,
    b_is_sign := b0,
    kp_is_sign := k0,
    g_is_sign := PySem.W.mg_of X H a0,
    a_is_word := f1,
    fd_is_word := _,
    F_is_word := F1,
    b_is_word := b1,
    kp_is_word := k1,
    g_is_word := PySem.W.mg_of X H a1,
    a_words_of := f2,
    fd_words_of := _,
    F_words_of := F2,
    b_words_of := b2,
    kp_words_of := k2,
    g_words_of := PySem.W.mg_of X H a2,
    a_each_once := f3,
    fd_each_once := _,
    F_each_once := F3,
    b_each_once := b3,
    kp_each_once := k3,
    g_each_once := PySem.W.mg_of X H a3,
    a_is_text := f4,
    fd_is_text := _,
    F_is_text := F4,
    b_is_text := b4,
    kp_is_text := k4,
    g_is_text := PySem.W.mg_of X H a4,
    a_is_day := f5,
    fd_is_day := _,
    F_is_day := F5,
    b_is_day := b5,
    kp_is_day := k5,
    g_is_day := PySem.W.mg_of X H a5,
    a_Letter___init__ := f6,
    fd_Letter___init__ := _,
    F_Letter___init__ := F6,
    b_Letter___init__ := b6,
    kp_Letter___init__ := k6,
    k_Letter := ⟨mk7, a6, i6, kc7⟩,
    a_Letter_parts := f7,
    fd_Letter_parts := _,
    F_Letter_parts := F7,
    b_Letter_parts := b7,
    kp_Letter_parts := k7,
    m_Letter_parts := ⟨a7, i7, k7⟩,
    a_Letter_words := f8,
    fd_Letter_words := _,
    F_Letter_words := F8,
    b_Letter_words := b8,
    kp_Letter_words := k8,
    m_Letter_words := ⟨a8, i8, k8⟩,
    a_letter_of := f9,
    fd_letter_of := _,
    F_letter_of := F9,
    b_letter_of := b9,
    kp_letter_of := k9,
    g_letter_of := PySem.W.mg_of X H a9,
    a_law_row := f10,
    fd_law_row := _,
    F_law_row := F10,
    b_law_row := b10,
    kp_law_row := k10,
    g_law_row := PySem.W.mg_of X H a10,
    a_law_word := f11,
    fd_law_word := _,
    F_law_word := F11,
    b_law_word := b11,
    kp_law_word := k11,
    g_law_word := PySem.W.mg_of X H a11,
    a_law_signs := f12,
    fd_law_signs := _,
    F_law_signs := F12,
    b_law_signs := b12,
    kp_law_signs := k12,
    g_law_signs := PySem.W.mg_of X H a12,
    a_law_parts := f13,
    fd_law_parts := _,
    F_law_parts := F13,
    b_law_parts := b13,
    kp_law_parts := k13,
    g_law_parts := PySem.W.mg_of X H a13,
    a_law_of_one_class := f14,
    fd_law_of_one_class := _,
    F_law_of_one_class := F14,
    b_law_of_one_class := b14,
    kp_law_of_one_class := k14,
    g_law_of_one_class := PySem.W.mg_of X H a14,
    a_law_odd_word := f15,
    fd_law_odd_word := _,
    F_law_odd_word := F15,
    b_law_odd_word := b15,
    kp_law_odd_word := k15,
    g_law_odd_word := PySem.W.mg_of X H a15,
    a_law_odd_title := f16,
    fd_law_odd_title := _,
    F_law_odd_title := F16,
    b_law_odd_title := b16,
    kp_law_odd_title := k16,
    g_law_odd_title := PySem.W.mg_of X H a16,
    a_law_odd_parts := f17,
    fd_law_odd_parts := _,
    F_law_odd_parts := F17,
    b_law_odd_parts := b17,
    kp_law_odd_parts := k17,
    g_law_odd_parts := PySem.W.mg_of X H a17,
    a_law_refused := f18,
    fd_law_refused := _,
    F_law_refused := F18,
    b_law_refused := b18,
    kp_law_refused := k18,
    g_law_refused := PySem.W.mg_of X H a18,
    a_law := fa,
    fd_law := _,
    F_law := F19,
    b_law := b19,
    kp_law := k19,
    g_law := PySem.W.mg_of X H a19,
    g_MailError := PySem.W.mg_of X H ac0,
    ex_MailError := by
          intro i hi
          have hi : i ∈ [0, 1, 2, 3, 4, 5, 6] := by simpa using hi
          simp only [List.mem_cons, List.not_mem_nil, or_false] at hi
          rcases hi with rfl | rfl | rfl | rfl | rfl | rfl | rfl
          · exact PySem.W.exm_ref bE0 hE0 tE0 s0_0
          · exact PySem.W.exm_ref bE0 hE0 tE0 s1_0
          · exact PySem.W.exm_ref bE0 hE0 tE0 s2_0
          · exact PySem.W.exm_ref bE0 hE0 tE0 s3_0
          · exact PySem.W.exm_ref bE0 hE0 tE0 s4_0
          · exact PySem.W.exm_ref bE0 hE0 tE0 s5_0
          · exact PySem.W.exm_ref bE0 hE0 tE0 s6_0,
    g_NoWord := PySem.W.mg_of X H ac1,
    g_NoLetter := PySem.W.mg_of X H ac2,
    x_NoLetter := xE2,
    kp_NoLetter := kE2,
    r_NoLetter := fun {Y} hY => raises_own (by rw [hY]; exact bE2) (by rw [hY]; exact tE2),
    g_NoRule := PySem.W.mg_of X H ac3,
    g_NoName := PySem.W.mg_of X H ac4,
    g_NoParcel := PySem.W.mg_of X H ac5,
    g_NoRow := PySem.W.mg_of X H ac6,
    g_Letter := PySem.W.mg_of X H ac7,
    cl_Letter := ⟨pg7, hd7, po7, sa7⟩,
    n_Letter_sender := nf7_0,
    n_Letter_title := nf7_1,
    n_Letter_body := nf7_2,
    n_Letter_day := nf7_3,
    n_Letter_answers := nf7_4,
    fz_Letter := hfz7,
    ec_ := by
      intro i hi
      have hi : i ∈ [0, 1, 2, 3, 4, 5, 6] := by simpa using hi
      simp only [List.mem_cons, List.not_mem_nil, or_false] at hi
      rcases hi with rfl | rfl | rfl | rfl | rfl | rfl | rfl
      · exact ⟨ea0, eb0, bE0, hE0, ed0, ee, ef, eh0⟩
      · exact ⟨ea1, eb1, bE1, hE1, ed1, ee, ef, eh1⟩
      · exact ⟨ea2, eb2, bE2, hE2, ed2, ee, ef, eh2⟩
      · exact ⟨ea3, eb3, bE3, hE3, ed3, ee, ef, eh3⟩
      · exact ⟨ea4, eb4, bE4, hE4, ed4, ee, ef, eh4⟩
      · exact ⟨ea5, eb5, bE5, hE5, ed5, ee, ef, eh5⟩
      · exact ⟨ea6, eb6, bE6, hE6, ed6, ee, ef, eh6⟩,
    ki_NoLetter := by
      intro i hi
      have hi : i ∈ [0, 1, 2, 3, 4, 5, 6] := by simpa using hi
      simp only [List.mem_cons, List.not_mem_nil, or_false] at hi
      rcases hi with rfl | rfl | rfl | rfl | rfl | rfl | rfl
      · exact PySem.W.kit_own hE2 tE2 sk0_2 (.inr nk0_2)
      · exact PySem.W.kit_own hE2 tE2 sk1_2 (.inr nk1_2)
      · exact PySem.W.kit_own hE2 tE2 sk2_2 (.inl rfl)
      · exact PySem.W.kit_own hE2 tE2 sk3_2 (.inr nk3_2)
      · exact PySem.W.kit_own hE2 tE2 sk4_2 (.inr nk4_2)
      · exact PySem.W.kit_own hE2 tE2 sk5_2 (.inr nk5_2)
      · exact PySem.W.kit_own hE2 tE2 sk6_2 (.inr nk6_2),
    ki_NoName := by
      intro i hi
      have hi : i ∈ [0, 1, 2, 3, 4, 5, 6] := by simpa using hi
      simp only [List.mem_cons, List.not_mem_nil, or_false] at hi
      rcases hi with rfl | rfl | rfl | rfl | rfl | rfl | rfl
      · exact PySem.W.kit_own hE4 tE4 sk0_4 (.inr nk0_4)
      · exact PySem.W.kit_own hE4 tE4 sk1_4 (.inr nk1_4)
      · exact PySem.W.kit_own hE4 tE4 sk2_4 (.inr nk2_4)
      · exact PySem.W.kit_own hE4 tE4 sk3_4 (.inr nk3_4)
      · exact PySem.W.kit_own hE4 tE4 sk4_4 (.inl rfl)
      · exact PySem.W.kit_own hE4 tE4 sk5_4 (.inr nk5_4)
      · exact PySem.W.kit_own hE4 tE4 sk6_4 (.inr nk6_4),
    ki_NoParcel := by
      intro i hi
      have hi : i ∈ [0, 1, 2, 3, 4, 5, 6] := by simpa using hi
      simp only [List.mem_cons, List.not_mem_nil, or_false] at hi
      rcases hi with rfl | rfl | rfl | rfl | rfl | rfl | rfl
      · exact PySem.W.kit_own hE5 tE5 sk0_5 (.inr nk0_5)
      · exact PySem.W.kit_own hE5 tE5 sk1_5 (.inr nk1_5)
      · exact PySem.W.kit_own hE5 tE5 sk2_5 (.inr nk2_5)
      · exact PySem.W.kit_own hE5 tE5 sk3_5 (.inr nk3_5)
      · exact PySem.W.kit_own hE5 tE5 sk4_5 (.inr nk4_5)
      · exact PySem.W.kit_own hE5 tE5 sk5_5 (.inl rfl)
      · exact PySem.W.kit_own hE5 tE5 sk6_5 (.inr nk6_5),
    ki_NoRow := by
      intro i hi
      have hi : i ∈ [0, 1, 2, 3, 4, 5, 6] := by simpa using hi
      simp only [List.mem_cons, List.not_mem_nil, or_false] at hi
      rcases hi with rfl | rfl | rfl | rfl | rfl | rfl | rfl
      · exact PySem.W.kit_own hE6 tE6 sk0_6 (.inr nk0_6)
      · exact PySem.W.kit_own hE6 tE6 sk1_6 (.inr nk1_6)
      · exact PySem.W.kit_own hE6 tE6 sk2_6 (.inr nk2_6)
      · exact PySem.W.kit_own hE6 tE6 sk3_6 (.inr nk3_6)
      · exact PySem.W.kit_own hE6 tE6 sk4_6 (.inr nk4_6)
      · exact PySem.W.kit_own hE6 tE6 sk5_6 (.inr nk5_6)
      · exact PySem.W.kit_own hE6 tE6 sk6_6 (.inl rfl),
    ki_NoRule := by
      intro i hi
      have hi : i ∈ [0, 1, 2, 3, 4, 5, 6] := by simpa using hi
      simp only [List.mem_cons, List.not_mem_nil, or_false] at hi
      rcases hi with rfl | rfl | rfl | rfl | rfl | rfl | rfl
      · exact PySem.W.kit_own hE3 tE3 sk0_3 (.inr nk0_3)
      · exact PySem.W.kit_own hE3 tE3 sk1_3 (.inr nk1_3)
      · exact PySem.W.kit_own hE3 tE3 sk2_3 (.inr nk2_3)
      · exact PySem.W.kit_own hE3 tE3 sk3_3 (.inl rfl)
      · exact PySem.W.kit_own hE3 tE3 sk4_3 (.inr nk4_3)
      · exact PySem.W.kit_own hE3 tE3 sk5_3 (.inr nk5_3)
      · exact PySem.W.kit_own hE3 tE3 sk6_3 (.inr nk6_3),
    ki_NoWord := by
      intro i hi
      have hi : i ∈ [0, 1, 2, 3, 4, 5, 6] := by simpa using hi
      simp only [List.mem_cons, List.not_mem_nil, or_false] at hi
      rcases hi with rfl | rfl | rfl | rfl | rfl | rfl | rfl
      · exact PySem.W.kit_own hE1 tE1 sk0_1 (.inr nk0_1)
      · exact PySem.W.kit_own hE1 tE1 sk1_1 (.inl rfl)
      · exact PySem.W.kit_own hE1 tE1 sk2_1 (.inr nk2_1)
      · exact PySem.W.kit_own hE1 tE1 sk3_1 (.inr nk3_1)
      · exact PySem.W.kit_own hE1 tE1 sk4_1 (.inr nk4_1)
      · exact PySem.W.kit_own hE1 tE1 sk5_1 (.inr nk5_1)
      · exact PySem.W.kit_own hE1 tE1 sk6_1 (.inr nk6_1),
    ki_ValueError := by
      intro i hi
      have hi : i ∈ [0, 1, 2, 3, 4, 5, 6] := by simpa using hi
      simp only [List.mem_cons, List.not_mem_nil, or_false] at hi
      rcases hi with rfl | rfl | rfl | rfl | rfl | rfl | rfl
      · exact PySem.W.kit_val kv0
      · exact PySem.W.kit_val kv1
      · exact PySem.W.kit_val kv2
      · exact PySem.W.kit_val kv3
      · exact PySem.W.kit_val kv4
      · exact PySem.W.kit_val kv5
      · exact PySem.W.kit_val kv6,
    z_ValueError := PySem.W.mg_none_of X H z_ValueError,
    z_all := PySem.W.mg_none_of X H z_all,
    z_bool := PySem.W.mg_none_of X H z_bool,
    z_int := PySem.W.mg_none_of X H z_int,
    z_isinstance := PySem.W.mg_none_of X H z_isinstance,
    z_len := PySem.W.mg_none_of X H z_len,
    z_list := PySem.W.mg_none_of X H z_list,
    z_range := PySem.W.mg_none_of X H z_range,
    z_str := PySem.W.mg_none_of X H z_str,
    z_tuple := PySem.W.mg_none_of X H z_tuple,
    t_FIGURES := t_FIGURES,
    c_FIGURES := PySem.W.mg_of X H v_FIGURES,
    t_MOST_BODY := t_MOST_BODY,
    c_MOST_BODY := PySem.W.mg_of X H v_MOST_BODY,
    t_MOST_DAY := t_MOST_DAY,
    c_MOST_DAY := PySem.W.mg_of X H v_MOST_DAY,
    t_MOST_SIGNS := t_MOST_SIGNS,
    c_MOST_SIGNS := PySem.W.mg_of X H v_MOST_SIGNS,
    t_MOST_TITLE := t_MOST_TITLE,
    c_MOST_TITLE := PySem.W.mg_of X H v_MOST_TITLE,
    t_SMALL := t_SMALL,
    c_SMALL := PySem.W.mg_of X H v_SMALL }
  refine ⟨T.fd_law, fun s v => .of_eq rfl, fun base _ _ => ((ok_law T : FnOk l.prog w K mg base CX0 7 fa T.fd_law ["_law_script"] (sp_law G)).imp fun vs H Q E hh => ?_)⟩
  obtain ⟨a, ns, rfl, hs, ho, hl, hq⟩ := hh
  exact ⟨.ref a, ⟨ns⟩, star [], rfl, im_of_only (G := G) ho hs, Sep.unstar (M := []) (Sep.nil H), R.wp_of (law_ok ⟨ns⟩ hl) fun H' _ => hq H'⟩
theorem walk {l : PySem.W.OpenLaw} {q : Program} {loose : List Str} {XP : (Str → Option Value) → Heap → Prop} {YP : World → Heap → Prop} {d : DefRec} {K : Params → PySem.W.Frag} (hn : l.most = some 63) (hdf : d.params.defaults = [])
    (hY : ∀ (w : World) (h : Heap), YP w h → (K w.params).In h)
    (F : ∀ (w : World) (mg : Str → Option Value) (fa : Addr) (h : Heap), (K w.params).In h → h.Ns mainGlobals mg → mg d.name = some (.ref fa) →
      ∃ fd : FuncData, (∀ (s : Shared) (u : Value), BindsTo s fd ⟨[u], []⟩ [("_law_script", u)]) ∧ ∀ base : Heap, (K w.params).In base → base.Ns mainGlobals mg → FnOk l.prog w (K w.params) mg base CX0 7 fa fd ["_law_script"] (sp_top (K w.params))) :
    PySem.W.WalkO q loose XP YP l.row.toRowW d [] (fun f vs => PySem.call f vs) :=
  L2.walk_of (n := 63) (k := 7) (x := "_law_script") (CX := fun _ => CX0) (sp := fun w => sp_top (K w.params)) hn (by decide) hdf ⟨rfl, by decide, by decide⟩ hY F
    (fun w H a ns hl hO hS => ⟨a, ns, rfl, hS, hO, hl, fun _ => rfl⟩) fun _ _ _ _ _ z => z
end Lw
open PySem PySem.W PyProof.Rows
set_option maxRecDepth 100000 in
set_option maxHeartbeats 0 in
theorem PySem.Challenge.cw_mailroom_k05_letters_refused_holds : PySem.Challenge.rw_mailroom_k05_letters_refused.Holds := by
  w_on; o_law; k_head; (case hw => w_witness2)
  k_fill
  refine Lw.walk (l := PySem.Challenge.rw_mailroom_k05_letters_refused) rfl rfl (fun w h Y => PySem.W.kIn_of Y) ?F
  case F =>
    intro w mg fa h KX G hmg
    refine' Lw.all_mk KX G hmg ?ac0 ?ac1 ?ac2 ?ac3 ?ac4 ?ac5 ?ac6 ?ac7 ?a0 ?l0 ?cc0 ?k0 ?a1 ?l1 ?cc1 ?k1 ?a2 ?l2 ?cc2 ?k2 ?a3 ?l3 ?cc3 ?k3 ?a4 ?l4 ?cc4 ?k4 ?a5 ?l5 ?cc5 ?k5 ?a6 ?i6 ?l6 ?cc6 ?k6 ?T6l ?mk7 ?kc7 ?a7 ?i7 ?l7 ?cc7 ?k7 ?a8 ?i8 ?l8 ?cc8 ?k8 ?a9 ?l9 ?cc9 ?k9 ?a10 ?l10 ?cc10 ?k10 ?a11 ?l11 ?cc11 ?k11 ?a12 ?l12 ?cc12 ?k12 ?a13 ?l13 ?cc13 ?k13 ?a14 ?l14 ?cc14 ?k14 ?a15 ?l15 ?cc15 ?k15 ?a16 ?l16 ?cc16 ?k16 ?a17 ?l17 ?cc17 ?k17 ?a18 ?l18 ?cc18 ?k18 ?a19 ?l19 ?cc19 ?k19 ?bE0 ?tE0 ?hE0 ?s0_0 ?s1_0 ?s2_0 ?s3_0 ?s4_0 ?s5_0 ?s6_0 ?xE2 ?kE2 ?bE2 ?tE2 ?pg7 ?hd7 ?po7 ?sa7 ?nf7_0 ?nf7_1 ?nf7_2 ?nf7_3 ?nf7_4 ?ea0 ?eb0 ?ed0 ?eh0 ?ea1 ?eb1 ?bE1 ?tE1 ?hE1 ?ed1 ?eh1 ?ea2 ?eb2 ?hE2 ?ed2 ?eh2 ?ea3 ?eb3 ?bE3 ?tE3 ?hE3 ?ed3 ?eh3 ?ea4 ?eb4 ?bE4 ?tE4 ?hE4 ?ed4 ?eh4 ?ea5 ?eb5 ?bE5 ?tE5 ?hE5 ?ed5 ?eh5 ?ea6 ?eb6 ?bE6 ?tE6 ?hE6 ?ed6 ?eh6 ?ee ?ef ?sk0_2 ?nk0_2 ?sk1_2 ?nk1_2 ?sk2_2 ?sk3_2 ?nk3_2 ?sk4_2 ?nk4_2 ?sk5_2 ?nk5_2 ?sk6_2 ?nk6_2 ?sk0_4 ?nk0_4 ?sk1_4 ?nk1_4 ?sk2_4 ?nk2_4 ?sk3_4 ?nk3_4 ?sk4_4 ?sk5_4 ?nk5_4 ?sk6_4 ?nk6_4 ?sk0_5 ?nk0_5 ?sk1_5 ?nk1_5 ?sk2_5 ?nk2_5 ?sk3_5 ?nk3_5 ?sk4_5 ?nk4_5 ?sk5_5 ?sk6_5 ?nk6_5 ?sk0_6 ?nk0_6 ?sk1_6 ?nk1_6 ?sk2_6 ?nk2_6 ?sk3_6 ?nk3_6 ?sk4_6 ?nk4_6 ?sk5_6 ?nk5_6 ?sk6_6 ?sk0_3 ?nk0_3 ?sk1_3 ?nk1_3 ?sk2_3 ?nk2_3 ?sk3_3 ?sk4_3 ?nk4_3 ?sk5_3 ?nk5_3 ?sk6_3 ?nk6_3 ?sk0_1 ?nk0_1 ?sk1_1 ?sk2_1 ?nk2_1 ?sk3_1 ?nk3_1 ?sk4_1 ?nk4_1 ?sk5_1 ?nk5_1 ?sk6_1 ?nk6_1 ?kv0 ?kv1 ?kv2 ?kv3 ?kv4 ?kv5 ?kv6 ?z_ValueError ?z_all ?z_bool ?z_int ?z_isinstance ?z_len ?z_list ?z_range ?z_str ?z_tuple ?v_FIGURES ?v_MOST_BODY ?v_MOST_DAY ?v_MOST_SIGNS ?v_MOST_TITLE ?v_SMALL
    (case ac0 => k_is)
    (case ac1 => k_is)
    (case ac2 => k_is)
    (case ac3 => k_is)
    (case ac4 => k_is)
    (case ac5 => k_is)
    (case ac6 => k_is)
    (case ac7 => k_is)
    (case a0 => k_is)
    (case l0 => k_is)
    (case cc0 => k_is)
    (case k0 => k_is)
    (case a1 => k_is)
    (case l1 => k_is)
    (case cc1 => k_is)
    (case k1 => k_is)
    (case a2 => k_is)
    (case l2 => k_is)
    (case cc2 => k_is)
    (case k2 => k_is)
    (case a3 => k_is)
    (case l3 => k_is)
    (case cc3 => k_is)
    (case k3 => k_is)
    (case a4 => k_is)
    (case l4 => k_is)
    (case cc4 => k_is)
    (case k4 => k_is)
    (case a5 => k_is)
    (case l5 => k_is)
    (case cc5 => k_is)
    (case k5 => k_is)
    (case a6 => k_is)
    (case i6 => k_is)
    (case l6 => k_is)
    (case cc6 => k_is)
    (case k6 => k_is)
    (case T6l => k_is)
    (case mk7 => k_is)
    (case kc7 => k_is)
    (case a7 => k_is)
    (case i7 => k_is)
    (case l7 => k_is)
    (case cc7 => k_is)
    (case k7 => k_is)
    (case a8 => k_is)
    (case i8 => k_is)
    (case l8 => k_is)
    (case cc8 => k_is)
    (case k8 => k_is)
    (case a9 => k_is)
    (case l9 => k_is)
    (case cc9 => k_is)
    (case k9 => k_is)
    (case a10 => k_is)
    (case l10 => k_is)
    (case cc10 => k_is)
    (case k10 => k_is)
    (case a11 => k_is)
    (case l11 => k_is)
    (case cc11 => k_is)
    (case k11 => k_is)
    (case a12 => k_is)
    (case l12 => k_is)
    (case cc12 => k_is)
    (case k12 => k_is)
    (case a13 => k_is)
    (case l13 => k_is)
    (case cc13 => k_is)
    (case k13 => k_is)
    (case a14 => k_is)
    (case l14 => k_is)
    (case cc14 => k_is)
    (case k14 => k_is)
    (case a15 => k_is)
    (case l15 => k_is)
    (case cc15 => k_is)
    (case k15 => k_is)
    (case a16 => k_is)
    (case l16 => k_is)
    (case cc16 => k_is)
    (case k16 => k_is)
    (case a17 => k_is)
    (case l17 => k_is)
    (case cc17 => k_is)
    (case k17 => k_is)
    (case a18 => k_is)
    (case l18 => k_is)
    (case cc18 => k_is)
    (case k18 => k_is)
    (case a19 => k_is)
    (case l19 => k_is)
    (case cc19 => k_is)
    (case k19 => k_is)
    (case bE0 => k_is)
    (case tE0 => k_is)
    (case hE0 => k_is)
    (case s0_0 => k_is)
    (case s1_0 => k_is)
    (case s2_0 => k_is)
    (case s3_0 => k_is)
    (case s4_0 => k_is)
    (case s5_0 => k_is)
    (case s6_0 => k_is)
    (case xE2 => first | k_exc | k_is)
    (case kE2 => k_is)
    (case bE2 => k_is)
    (case tE2 => k_is)
    (case pg7 => k_is)
    (case hd7 => k_is)
    (case po7 => k_is)
    (case sa7 => k_is)
    (case nf7_0 => k_is)
    (case nf7_1 => k_is)
    (case nf7_2 => k_is)
    (case nf7_3 => k_is)
    (case nf7_4 => k_is)
    (case ea0 => k_is)
    (case eb0 => k_is)
    (case ed0 => k_is)
    (case eh0 => k_is)
    (case ea1 => k_is)
    (case eb1 => k_is)
    (case bE1 => k_is)
    (case tE1 => k_is)
    (case hE1 => k_is)
    (case ed1 => k_is)
    (case eh1 => k_is)
    (case ea2 => k_is)
    (case eb2 => k_is)
    (case hE2 => k_is)
    (case ed2 => k_is)
    (case eh2 => k_is)
    (case ea3 => k_is)
    (case eb3 => k_is)
    (case bE3 => k_is)
    (case tE3 => k_is)
    (case hE3 => k_is)
    (case ed3 => k_is)
    (case eh3 => k_is)
    (case ea4 => k_is)
    (case eb4 => k_is)
    (case bE4 => k_is)
    (case tE4 => k_is)
    (case hE4 => k_is)
    (case ed4 => k_is)
    (case eh4 => k_is)
    (case ea5 => k_is)
    (case eb5 => k_is)
    (case bE5 => k_is)
    (case tE5 => k_is)
    (case hE5 => k_is)
    (case ed5 => k_is)
    (case eh5 => k_is)
    (case ea6 => k_is)
    (case eb6 => k_is)
    (case bE6 => k_is)
    (case tE6 => k_is)
    (case hE6 => k_is)
    (case ed6 => k_is)
    (case eh6 => k_is)
    (case ee => k_is)
    (case ef => k_is)
    (case sk0_2 => k_is)
    (case nk0_2 => decide)
    (case sk1_2 => k_is)
    (case nk1_2 => decide)
    (case sk2_2 => k_is)
    (case sk3_2 => k_is)
    (case nk3_2 => decide)
    (case sk4_2 => k_is)
    (case nk4_2 => decide)
    (case sk5_2 => k_is)
    (case nk5_2 => decide)
    (case sk6_2 => k_is)
    (case nk6_2 => decide)
    (case sk0_4 => k_is)
    (case nk0_4 => decide)
    (case sk1_4 => k_is)
    (case nk1_4 => decide)
    (case sk2_4 => k_is)
    (case nk2_4 => decide)
    (case sk3_4 => k_is)
    (case nk3_4 => decide)
    (case sk4_4 => k_is)
    (case sk5_4 => k_is)
    (case nk5_4 => decide)
    (case sk6_4 => k_is)
    (case nk6_4 => decide)
    (case sk0_5 => k_is)
    (case nk0_5 => decide)
    (case sk1_5 => k_is)
    (case nk1_5 => decide)
    (case sk2_5 => k_is)
    (case nk2_5 => decide)
    (case sk3_5 => k_is)
    (case nk3_5 => decide)
    (case sk4_5 => k_is)
    (case nk4_5 => decide)
    (case sk5_5 => k_is)
    (case sk6_5 => k_is)
    (case nk6_5 => decide)
    (case sk0_6 => k_is)
    (case nk0_6 => decide)
    (case sk1_6 => k_is)
    (case nk1_6 => decide)
    (case sk2_6 => k_is)
    (case nk2_6 => decide)
    (case sk3_6 => k_is)
    (case nk3_6 => decide)
    (case sk4_6 => k_is)
    (case nk4_6 => decide)
    (case sk5_6 => k_is)
    (case nk5_6 => decide)
    (case sk6_6 => k_is)
    (case sk0_3 => k_is)
    (case nk0_3 => decide)
    (case sk1_3 => k_is)
    (case nk1_3 => decide)
    (case sk2_3 => k_is)
    (case nk2_3 => decide)
    (case sk3_3 => k_is)
    (case sk4_3 => k_is)
    (case nk4_3 => decide)
    (case sk5_3 => k_is)
    (case nk5_3 => decide)
    (case sk6_3 => k_is)
    (case nk6_3 => decide)
    (case sk0_1 => k_is)
    (case nk0_1 => decide)
    (case sk1_1 => k_is)
    (case sk2_1 => k_is)
    (case nk2_1 => decide)
    (case sk3_1 => k_is)
    (case nk3_1 => decide)
    (case sk4_1 => k_is)
    (case nk4_1 => decide)
    (case sk5_1 => k_is)
    (case nk5_1 => decide)
    (case sk6_1 => k_is)
    (case nk6_1 => decide)
    (case kv0 => k_is)
    (case kv1 => k_is)
    (case kv2 => k_is)
    (case kv3 => k_is)
    (case kv4 => k_is)
    (case kv5 => k_is)
    (case kv6 => k_is)
    (case z_ValueError => k_is)
    (case z_all => k_is)
    (case z_bool => k_is)
    (case z_int => k_is)
    (case z_isinstance => k_is)
    (case z_len => k_is)
    (case z_list => k_is)
    (case z_range => k_is)
    (case z_str => k_is)
    (case z_tuple => k_is)
    (case v_FIGURES => k_is)
    (case v_MOST_BODY => k_is)
    (case v_MOST_DAY => k_is)
    (case v_MOST_SIGNS => k_is)
    (case v_MOST_TITLE => k_is)
    (case v_SMALL => k_is)

