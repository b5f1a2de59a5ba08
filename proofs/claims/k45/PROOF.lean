import PyProof.Rows.All
import Wide.All
import OpenK.AllK
import Wide.FinOn
import HandS.ForMost
import HandS.ForExc
import HandS.SetKeys
import HandS.IsInst
import HandS.Flow
import HandS.Style
import HandS.CallSlots
import HandS.TryMany
import HandS.StrMore
import HandS.Strs
import HandS.TupLe
import HandS.TupAny
import HandS.More
import HandS.Conv
import HandS.Replace
import HandS.FStr
import HandS.ExcIs
import HandS.RaiseMore
import HandS.Defaults
import HandS.DictTup
import HandS.TupSets
import HandS.SortOrd
import HandS.SortKw
import HandS.Lambda
import PyProof.Rows.StrCase
import HandS.TryOnly
import KE.DataFind
import HandS.HotCalls
import HandS.Small
import HandS.WordsDict
import KE.KEqDict
import PyProof.NeKinds
import PyProof.FactsAll.dict_1
import PyProof.FactsAll.dict_2
import PyProof.FactsAll.str
import PyProof.FactsAll.int
import PyProof.FactsAll.subtypes
import HandS.SetTxt0
import HandS.SetFor
import KE.SortData
import KE.DataCmp
import HandS.Iter
import PySem.Challenge.RW_mailroom_k45_registers_kept
set_option Elab.async false
set_option linter.all false
set_option maxRecDepth 100000
set_option maxHeartbeats 4000000
namespace Ml
open PySem L2
/-! ### the assertions: what stands where, and who owns it -/
structure Gx where
  K : PySem.W.Frag
  fz : Addr → Option Nat
  cl : Nat → Addr

/-- what never changes once it stands -/
def per (G : Gx) : HO → Bool
  | .tup _ => true
  | .frz _ (.lst _) => true
  | .ins C _ fs => decide (G.fz C = some fs.length)
  | _ => false

/-- what sort of thing it is -/
def kindOf : HO → Nat
  | .lst _ => 0
  | .frz _ (.lst _) => 0
  | .dK _ => 1
  | .frz _ (.dK _) => 1
  | .dT _ => 6
  | .frz _ (.dT _) => 6
  | .tup _ => 2
  | .set _ _ => 3
  | .ins _ _ _ => 4
  | _ => 5
/-- all that never changes stands on, and nothing becomes another sort of thing -/
def Stab (G : Gx) (H H' : Hp) : Prop := (∀ a o, H a = some o → per G o = true → H' a = some o) ∧ ∀ a o, H a = some o → ∃ o', H' a = some o' ∧ kindOf o' = kindOf o
theorem Stab.refl {G : Gx} (H : Hp) : Stab G H H := ⟨fun _ _ h _ => h, fun _ o h => ⟨o, h, rfl⟩⟩
theorem Stab.trans {G : Gx} {H H1 H2 : Hp} (a : Stab G H H1) (b : Stab G H1 H2) : Stab G H H2 := ⟨fun x o h p => b.1 x o (a.1 x o h p) p, fun x o h => by
  obtain ⟨o1, h1, k1⟩ := a.2 x o h
  obtain ⟨o2, h2, k2⟩ := b.2 x o1 h1
  exact ⟨o2, h2, k2.trans k1⟩⟩
theorem Stab.of_same {G : Gx} {H H' : Hp} (s : Same H H') : Stab G H H' := ⟨fun a o h _ => s a o h, fun a o h => ⟨o, s a o h, rfl⟩⟩
theorem stab_put {G : Gx} {H : Hp} {a : Addr} {o o' : HO} (e : H a = some o) (n : per G o = false) (kd : kindOf o' = kindOf o) : Stab G H (upd H a o') := ⟨fun b x hb pb => by
  by_cases z : b = a
  · subst z; rw [e] at hb; cases hb; rw [n] at pb; cases pb
  · rw [upd_ne z]; exact hb, fun b x hb => by
  by_cases z : b = a
  · subst z; rw [e] at hb; cases hb; exact ⟨o', upd_same, kd⟩
  · exact ⟨x, by rw [upd_ne z]; exact hb, rfl⟩⟩

structure Asn (G : Gx) where
  sat : Hp → List Addr → Prop
  loc : ∀ H H' fp, sat H fp → (∀ a, a ∈ fp → H' a = H a) → Stab G H H' → sat H' fp

variable {G : Gx}

def satL (H : Hp) : List (Asn G) → List Addr → Prop
  | [], fp => fp = []
  | A :: L, fp => ∃ f1 f2, fp = f1 ++ f2 ∧ A.sat H f1 ∧ satL H L f2

theorem satL.loc {H H' : Hp} : ∀ {L : List (Asn G)} {fp : List Addr}, satL H L fp → (∀ a, a ∈ fp → H' a = H a) → Stab G H H' → satL H' L fp
  | [], fp, h, _, _ => h
  | A :: L, fp, ⟨f1, f2, e, h1, h2⟩, k, s => ⟨f1, f2, e, A.loc H H' f1 h1 (fun a m => k a (by rw [e]; exact List.mem_append_left _ m)) s,
      satL.loc h2 (fun a m => k a (by rw [e]; exact List.mem_append_right _ m)) s⟩

theorem satL.perm {H : Hp} {L L' : List (Asn G)} (p : L.Perm L') : ∀ {fp : List Addr}, satL H L fp → ∃ fp', fp'.Perm fp ∧ satL H L' fp' := by
  induction p with
  | nil => intro fp h; exact ⟨fp, .refl _, h⟩
  | cons x _ ih =>
    rintro fp ⟨f1, f2, e, h1, h2⟩
    obtain ⟨g, pg, hg⟩ := ih h2
    exact ⟨f1 ++ g, by rw [e]; exact List.Perm.append_left f1 pg, f1, g, rfl, h1, hg⟩
  | swap x y l =>
    rintro fp ⟨f1, f2, e, h1, g1, g2, e2, k1, k2⟩
    refine ⟨g1 ++ (f1 ++ g2), ?_, g1, f1 ++ g2, rfl, k1, f1, g2, rfl, h1, k2⟩
    rw [e, e2, ← List.append_assoc, ← List.append_assoc]
    exact List.Perm.append_right g2 List.perm_append_comm
  | trans _ _ ih1 ih2 =>
    intro fp h
    obtain ⟨g, pg, hg⟩ := ih1 h
    obtain ⟨k, pk, hk⟩ := ih2 hg
    exact ⟨k, pk.trans pg, hk⟩

theorem satL.append {H : Hp} : ∀ {L L' : List (Asn G)} {fp : List Addr}, satL H (L ++ L') fp ↔ ∃ f1 f2, fp = f1 ++ f2 ∧ satL H L f1 ∧ satL H L' f2
  | [], L', fp => ⟨fun h => ⟨[], fp, rfl, rfl, h⟩, fun ⟨f1, f2, e, h1, h2⟩ => by
      have h1' : f1 = [] := h1
      subst h1'; subst e; exact h2⟩
  | A :: L, L', fp => by
    constructor
    · rintro ⟨f1, f2, e, h1, h2⟩
      obtain ⟨g1, g2, e2, k1, k2⟩ := satL.append.mp h2
      exact ⟨f1 ++ g1, g2, by rw [e, e2, List.append_assoc], ⟨f1, g1, rfl, h1, k1⟩, k2⟩
    · rintro ⟨f1, f2, e, ⟨g1, g2, e2, h1, h2⟩, h3⟩
      exact ⟨g1, g2 ++ f2, by rw [e, e2, List.append_assoc], h1, satL.append.mpr ⟨g2, f2, rfl, h2, h3⟩⟩

/-- the assertions hold, each of its own part of the heap -/
def Sep (H : Hp) (L : List (Asn G)) : Prop := ∃ fp, satL H L fp ∧ fp.Nodup ∧ ∀ a, a ∈ fp → ∃ o, H a = some o ∧ per G o = false

theorem Sep.perm {H : Hp} {L L' : List (Asn G)} (h : Sep H L) (p : L.Perm L') : Sep H L' := by
  obtain ⟨fp, h1, h2, h3⟩ := h
  obtain ⟨g, pg, hg⟩ := satL.perm p h1
  exact ⟨g, hg, pg.nodup_iff.mpr h2, fun a m => h3 a (pg.mem_iff.mp m)⟩
theorem Sep.nil (H : Hp) : Sep H ([] : List (Asn G)) := ⟨[], rfl, List.nodup_nil, fun a m => absurd m (by simp)⟩
theorem Sep.left {H : Hp} {L L' : List (Asn G)} (h : Sep H (L ++ L')) : Sep H L := by
  obtain ⟨fp, h1, h2, h3⟩ := h
  obtain ⟨f1, f2, e, k1, k2⟩ := satL.append.mp h1
  subst e
  exact ⟨f1, k1, (List.nodup_append.mp h2).1, fun a m => h3 a (List.mem_append_left _ m)⟩
theorem Sep.tail {H : Hp} {A : Asn G} {L : List (Asn G)} (h : Sep H (A :: L)) : Sep H L := by
  have p : (A :: L).Perm (L ++ [A]) := (List.perm_append_singleton A L).symm
  exact (h.perm p).left
/-- old things stand, new ones may come -/
theorem Sep.more {H H' : Hp} {L : List (Asn G)} (h : Sep H L) (s : Same H H') : Sep H' L := by
  obtain ⟨fp, h1, h2, h3⟩ := h
  exact ⟨fp, h1.loc (fun a m => by obtain ⟨o, e, _⟩ := h3 a m; rw [e]; exact s a o e) (.of_same s), h2, fun a m => by
    obtain ⟨o, e, n⟩ := h3 a m; exact ⟨o, s a o e, n⟩⟩
theorem satL.at {H : Hp} {A : Asn G} : ∀ {L : List (Asn G)} {fp : List Addr} {i : Nat}, satL H L fp → L[i]? = some A → ∃ fp, A.sat H fp
  | [], _, _, _, e => by simp at e
  | B :: L, _, 0, ⟨f1, _, _, k1, _⟩, e => ⟨f1, by
      have : B = A := Option.some.inj e
      subst this; exact k1⟩
  | B :: L, _, i + 1, ⟨_, f2, _, _, k2⟩, e => satL.at (L := L) (i := i) k2 (by simpa using e)
theorem Sep.at {H : Hp} {L : List (Asn G)} (h : Sep H L) {i : Nat} {A : Asn G} (e : L[i]? = some A) : ∃ fp, A.sat H fp := by
  obtain ⟨fp, h1, _, _⟩ := h
  exact satL.at h1 e
/-- the i-th one ahead -/
theorem pull_perm {α : Type} : ∀ {L : List α} {i : Nat} {A : α}, L[i]? = some A → L.Perm (A :: L.eraseIdx i)
  | [], _, _, e => by simp at e
  | B :: L, 0, A, e => by
    have : B = A := Option.some.inj e
    subst this
    exact .refl _
  | B :: L, i + 1, A, e => by
    have ih := pull_perm (L := L) (i := i) (A := A) (by simpa using e)
    exact (List.Perm.cons B ih).trans (List.Perm.swap A B _)
theorem set_perm {α : Type} : ∀ {L : List α} {i : Nat} {A B : α}, L[i]? = some A → (B :: L.eraseIdx i).Perm (L.set i B)
  | [], _, _, _, e => by simp at e
  | C :: L, 0, A, B, e => .refl _
  | C :: L, i + 1, A, B, e => by
    have ih := set_perm (L := L) (i := i) (A := A) (B := B) (by simpa using e)
    exact (List.Perm.swap C B _).trans (List.Perm.cons C ih)
/-- chosen ones, in a chosen order -/
def pick {α : Type} (L : List α) (is : List Nat) : List α := is.filterMap fun i => L[i]?
theorem pick_perm {α : Type} : ∀ (is : List Nat) (L : List α), is.Nodup → ∃ R, L.Perm (pick L is ++ R)
  | [], L, _ => ⟨L, .refl _⟩
  | i :: is, L, nd => by
    obtain ⟨n1, n2⟩ := List.nodup_cons.mp nd
    cases e : L[i]? with
    | none =>
      obtain ⟨R, p⟩ := pick_perm is L n2
      refine ⟨R, ?_⟩
      have : pick L (i :: is) = pick L is := by unfold pick; rw [List.filterMap_cons, e]
      rw [this]; exact p
    | some A =>
      -- the others by their places without i
      have key : ∀ (js : List Nat), i ∉ js → pick L js = pick (L.eraseIdx i) (js.map fun j => if j < i then j else j - 1) := by
        intro js hj
        unfold pick
        rw [List.filterMap_map]
        have gen : ∀ js : List Nat, i ∉ js → js.filterMap (fun i => L[i]?) = js.filterMap ((fun j => (L.eraseIdx i)[j]?) ∘ fun j => if j < i then j else j - 1) := by
          intro js
          induction js with
          | nil => intro _; rfl
          | cons j js ih =>
            intro hm
            have hji : j ≠ i := fun z => hm (by rw [z]; exact List.mem_cons_self)
            have ih' := ih fun z => hm (List.mem_cons_of_mem _ z)
            have ej : L[j]? = ((fun j => (L.eraseIdx i)[j]?) ∘ fun j => if j < i then j else j - 1) j := by
              show L[j]? = (L.eraseIdx i)[if j < i then j else j - 1]?
              rw [List.getElem?_eraseIdx]
              by_cases c : j < i
              · rw [if_pos c, if_pos c]
              · rw [if_neg c, if_neg (by omega)]
                congr 1; omega
            rw [List.filterMap_cons, List.filterMap_cons, ih', ej]
        exact gen js hj
      have nd2 : (is.map fun j => if j < i then j else j - 1).Nodup := by
        refine List.pairwise_map.mpr (List.Pairwise.imp_of_mem ?_ n2)
        intro a b ha hb hab z
        have ha' : a ≠ i := fun q => n1 (q ▸ ha)
        have hb' : b ≠ i := fun q => n1 (q ▸ hb)
        split at z <;> split at z <;> omega
      obtain ⟨R, p⟩ := pick_perm (is.map fun j => if j < i then j else j - 1) (L.eraseIdx i) nd2
      refine ⟨R, ?_⟩
      have e2 : pick L (i :: is) = A :: pick L is := by unfold pick; rw [List.filterMap_cons, e]
      rw [e2, key is n1]
      exact (pull_perm e).trans (List.Perm.cons A p)
termination_by is => is.length
theorem Sep.sel {H : Hp} {L L' : List (Asn G)} (h : Sep H L) (is : List Nat) (nd : is.Nodup) (e : pick L is = L') : Sep H L' := by
  obtain ⟨R, p⟩ := pick_perm is L nd
  rw [e] at p
  exact (h.perm p).left

/-! ### the kinds of assertions -/
/-- at a stands o, owned -/
def cell (a : Addr) (o : HO) : Asn G := ⟨fun H fp => fp = [a] ∧ H a = some o, fun H H' fp h k _ => ⟨h.1, by rw [k a (by rw [h.1]; simp)]; exact h.2⟩⟩
/-- a fact that stays -/
def fact (p : Hp → Prop) (st : ∀ H H', p H → Stab G H H' → p H') : Asn G := ⟨fun H fp => fp = [] ∧ p H, fun H H' fp h _ s => ⟨h.1, st H H' h.2 s⟩⟩
/-- several as one -/
def star (L : List (Asn G)) : Asn G := ⟨fun H fp => satL H L fp, fun H H' fp h k s => h.loc k s⟩
/-- some one of them -/
def exA {α : Type} (f : α → Asn G) : Asn G := ⟨fun H fp => ∃ x, (f x).sat H fp, fun H H' fp ⟨x, h⟩ k s => ⟨x, (f x).loc H H' fp h k s⟩⟩
/-- and a plain truth -/
def andA (p : Prop) (A : Asn G) : Asn G := ⟨fun H fp => p ∧ A.sat H fp, fun H H' fp ⟨x, h⟩ k s => ⟨x, A.loc H H' fp h k s⟩⟩

theorem Sep.star {H : Hp} {L M : List (Asn G)} (h : Sep H (M ++ [Ml.star L])) : Sep H (M ++ L) := by
  obtain ⟨fp, h1, h2, h3⟩ := h
  obtain ⟨f1, f2, e, k1, g1, g2, e2, k2, k3⟩ := satL.append.mp h1
  have k3' : g2 = [] := k3
  subst k3'
  rw [List.append_nil] at e2
  subst e2
  exact ⟨fp, satL.append.mpr ⟨f1, f2, e, k1, k2⟩, h2, h3⟩
theorem Sep.unstar {H : Hp} {L M : List (Asn G)} (h : Sep H (M ++ L)) : Sep H (M ++ [Ml.star L]) := by
  obtain ⟨fp, h1, h2, h3⟩ := h
  obtain ⟨f1, f2, e, k1, k2⟩ := satL.append.mp h1
  exact ⟨fp, satL.append.mpr ⟨f1, f2, e, k1, f2, [], by simp, k2, rfl⟩, h2, h3⟩
theorem Sep.star1 {H : Hp} {L M : List (Asn G)} (h : Sep H (Ml.star L :: M)) : Sep H (L ++ M) := by
  obtain ⟨fp, ⟨f1, f2, e, h1, k⟩, h2, h3⟩ := h
  exact ⟨fp, satL.append.mpr ⟨f1, f2, e, h1, k⟩, h2, h3⟩
theorem Sep.unstar1 {H : Hp} {L M : List (Asn G)} (h : Sep H (L ++ M)) : Sep H (Ml.star L :: M) := by
  obtain ⟨fp, h1, h2, h3⟩ := h
  obtain ⟨f1, f2, e, k1, k2⟩ := satL.append.mp h1
  exact ⟨fp, ⟨f1, f2, e, k1, k2⟩, h2, h3⟩
theorem Sep.ex {α : Type} {f : α → Asn G} {H : Hp} {M : List (Asn G)} (h : Sep H (exA f :: M)) : ∃ x, Sep H (f x :: M) := by
  obtain ⟨fp, ⟨f1, f2, e, ⟨x, h1⟩, k⟩, h2, h3⟩ := h
  exact ⟨x, fp, ⟨f1, f2, e, h1, k⟩, h2, h3⟩
theorem Sep.exI {α : Type} {f : α → Asn G} {H : Hp} {M : List (Asn G)} (x : α) (h : Sep H (f x :: M)) : Sep H (exA f :: M) := by
  obtain ⟨fp, ⟨f1, f2, e, h1, k⟩, h2, h3⟩ := h
  exact ⟨fp, ⟨f1, f2, e, ⟨x, h1⟩, k⟩, h2, h3⟩
theorem Sep.and {p : Prop} {A : Asn G} {H : Hp} {M : List (Asn G)} (h : Sep H (andA p A :: M)) : p ∧ Sep H (A :: M) := by
  obtain ⟨fp, ⟨f1, f2, e, ⟨x, h1⟩, k⟩, h2, h3⟩ := h
  exact ⟨x, fp, ⟨f1, f2, e, h1, k⟩, h2, h3⟩
theorem Sep.andI {p : Prop} {A : Asn G} {H : Hp} {M : List (Asn G)} (x : p) (h : Sep H (A :: M)) : Sep H (andA p A :: M) := by
  obtain ⟨fp, ⟨f1, f2, e, h1, k⟩, h2, h3⟩ := h
  exact ⟨fp, ⟨f1, f2, e, ⟨x, h1⟩, k⟩, h2, h3⟩
/-- another view of the first one, over the same part -/
theorem Sep.view {A B : Asn G} {H : Hp} {M : List (Asn G)} (h : Sep H (A :: M)) (v : ∀ fp, A.sat H fp → B.sat H fp) : Sep H (B :: M) := by
  obtain ⟨fp, ⟨f1, f2, e, h1, k⟩, h2, h3⟩ := h
  exact ⟨fp, ⟨f1, f2, e, v f1 h1, k⟩, h2, h3⟩
theorem Sep.addFact {p : Hp → Prop} {st : ∀ H H', p H → Stab G H H' → p H'} {H : Hp} {M : List (Asn G)} (h : Sep H M) (x : p H) : Sep H (fact p st :: M) := by
  obtain ⟨fp, h1, h2, h3⟩ := h
  exact ⟨fp, ⟨[], fp, rfl, ⟨rfl, x⟩, h1⟩, h2, h3⟩
theorem Sep.getFact {p : Hp → Prop} {st : ∀ H H', p H → Stab G H H' → p H'} {H : Hp} {M : List (Asn G)} (h : Sep H M) {i : Nat} (e : M[i]? = some (fact p st)) : p H := by
  obtain ⟨fp, _, x⟩ := h.at e
  exact x
theorem Sep.getCell {H : Hp} {M : List (Asn G)} (h : Sep H M) {i : Nat} {a : Addr} {o : HO} (e : M[i]? = some (cell a o)) : H a = some o := by
  obtain ⟨fp, _, x⟩ := h.at e
  exact x
theorem same_new {H : Hp} {p : Addr} {o : HO} (h : H p = none) : Same H (upd H p o) := fun b u e => by
  rw [upd_ne (ne_of_none e h)]; exact e
/-- a new thing -/
theorem Sep.new {H : Hp} {M : List (Asn G)} (h : Sep H M) {p : Addr} {o : HO} (hp : H p = none) (n : per G o = false) : Sep (upd H p o) (cell p o :: M) := by
  have h' := h.more (same_new (o := o) hp)
  obtain ⟨fp, h1, h2, h3⟩ := h
  obtain ⟨_, k1, _, _⟩ := (⟨fp, h1, h2, h3⟩ : Sep H M)
  have q : satL (upd H p o) M fp := h1.loc (fun a m => by obtain ⟨u, e, _⟩ := h3 a m; exact upd_ne (ne_of_none e hp)) (.of_same (same_new hp))
  refine ⟨p :: fp, ⟨[p], fp, rfl, ⟨rfl, upd_same⟩, q⟩, List.nodup_cons.mpr ⟨fun m => ?_, h2⟩, fun a m => ?_⟩
  · obtain ⟨u, e, _⟩ := h3 p m
    rw [hp] at e; cases e
  · rcases List.mem_cons.mp m with rfl | m
    · exact ⟨o, upd_same, n⟩
    · obtain ⟨u, e, z⟩ := h3 a m
      exact ⟨u, by rw [upd_ne (ne_of_none e hp)]; exact e, z⟩
/-- a store at the first one's place -/
theorem Sep.put1 {H : Hp} {M : List (Asn G)} {a : Addr} {o o' : HO} (h : Sep H (cell a o :: M)) (n : per G o' = false) (kd : kindOf o' = kindOf o) : Sep (upd H a o') (cell a o' :: M) := by
  obtain ⟨fp, ⟨f1, f2, e, ⟨e1, ho⟩, k⟩, h2, h3⟩ := h
  subst e1; subst e
  have nd : ¬ a ∈ f2 := (List.nodup_cons.mp h2).1
  obtain ⟨u, hu, nu⟩ := h3 a (by simp)
  have st : Stab G H (upd H a o') := stab_put ho (by rw [hu] at ho; cases ho; exact nu) kd
  refine ⟨a :: f2, ⟨[a], f2, rfl, ⟨rfl, upd_same⟩, k.loc (fun b m => upd_ne fun z => nd (z ▸ m)) st⟩, h2, fun b m => ?_⟩
  rcases List.mem_cons.mp m with rfl | m
  · exact ⟨o', upd_same, n⟩
  · obtain ⟨x, hx, nx⟩ := h3 b (by simp [m])
    exact ⟨x, by rw [upd_ne (fun z => nd (by rw [← z]; exact m))]; exact hx, nx⟩
theorem Sep.put {H : Hp} {M : List (Asn G)} {i : Nat} {a : Addr} {o o' : HO} (h : Sep H M) (e : M[i]? = some (cell a o)) (n : per G o' = false) (kd : kindOf o' = kindOf o) : Sep (upd H a o') (M.set i (cell a o')) :=
  ((h.perm (pull_perm e)).put1 n kd).perm (set_perm e)
/-- another view of the i-th one -/
theorem Sep.viewAt {A B : Asn G} {H : Hp} {M : List (Asn G)} {i : Nat} (h : Sep H M) (e : M[i]? = some A) (v : ∀ fp, A.sat H fp → B.sat H fp) : Sep H (M.set i B) :=
  ((h.perm (pull_perm e)).view v).perm (set_perm e)
end Ml

namespace Ml
open PySem L2
/-! ### plain programs: what is reckoned, an error, or a bound that is not kept -/
structure Exc where
  cls : Nat
  row : Int
  deriving DecidableEq, Repr
inductive R (α : Type) where
  | ok (a : α) | exc (x : Exc) | bad
  deriving DecidableEq, Repr
namespace R
variable {α β σ ρ : Type}
def bind : R α → (α → R β) → R β
  | .ok a, f => f a
  | .exc x, _ => .exc x
  | .bad, _ => .bad
@[simp] theorem bind_ok (a : α) (f : α → R β) : (R.ok a).bind f = f a := rfl
@[simp] theorem bind_exc (x : Exc) (f : α → R β) : (R.exc x : R α).bind f = .exc x := rfl
@[simp] theorem bind_bad (f : α → R β) : (R.bad : R α).bind f = .bad := rfl
theorem bind_assoc {γ : Type} (m : R α) (f : α → R β) (g : β → R γ) : (m.bind f).bind g = m.bind fun x => (f x).bind g := by cases m <;> rfl
def need (p : Prop) [Decidable p] (k : R α) : R α := if p then k else .bad
@[simp] theorem need_pos {p : Prop} [Decidable p] (h : p) (k : R α) : need p k = k := if_pos h
/-- what holds of the answer, or of the error -/
def wp : R α → (α → Prop) → (Exc → Prop) → Prop
  | .ok a, q, _ => q a
  | .exc x, _, e => e x
  | .bad, _, _ => False
theorem wp_bind {m : R α} {f : α → R β} {q : β → Prop} {e : Exc → Prop} (h : wp (m.bind f) q e) : wp m (fun a => wp (f a) q e) e := by
  cases m <;> exact h
theorem wp_need {p : Prop} [Decidable p] {k : R α} {q : α → Prop} {e : Exc → Prop} (h : wp (need p k) q e) : p ∧ wp k q e := by
  unfold need at h
  by_cases c : p
  · rw [if_pos c] at h; exact ⟨c, h⟩
  · rw [if_neg c] at h; exact h.elim
theorem wp_mono {m : R α} {q q' : α → Prop} {e e' : Exc → Prop} (h : wp m q e) (hq : ∀ a, q a → q' a) (he : ∀ x, e x → e' x) : wp m q' e' := by
  cases m with
  | ok a => exact hq a h
  | exc x => exact he x h
  | bad => exact h
theorem wp_of {m : R α} {a : α} {q : α → Prop} {e : Exc → Prop} (h : m = .ok a) (k : q a) : wp m q e := by rw [h]; exact k
theorem wp_if {c : Prop} [Decidable c] {a b : R α} {q : α → Prop} {e : Exc → Prop} (h : wp (if c then a else b) q e) : (c → wp a q e) ∧ (¬ c → wp b q e) := by
  by_cases x : c
  · rw [if_pos x] at h; exact ⟨fun _ => h, fun n => absurd x n⟩
  · rw [if_neg x] at h; exact ⟨fun y => absurd y x, fun _ => h⟩
end R
/-- a turn's end: on with s, out of the loop with s, out of the def with r -/
inductive Fl (σ ρ : Type) where
  | go (s : σ) | brk (s : σ) | out (r : ρ)
  deriving DecidableEq, Repr
section
variable {α β σ ρ : Type}
def forR (f : σ → α → R σ) : List α → σ → R σ
  | [], s => .ok s
  | x :: xs, s => (f s x).bind fun s => forR f xs s
def forF (f : σ → α → R (Fl σ ρ)) : List α → σ → R (Fl σ ρ)
  | [], s => .ok (.go s)
  | x :: xs, s => (f s x).bind fun r => match r with
    | .go s => forF f xs s
    | .brk s => .ok (.go s)
    | .out r => .ok (.out r)
def whileR (c : σ → R Bool) (f : σ → R σ) : Nat → σ → R σ
  | 0, s => (c s).bind fun b => if b = true then .bad else .ok s
  | n + 1, s => (c s).bind fun b => if b = true then (f s).bind fun s => whileR c f n s else .ok s
def whileF (c : σ → R Bool) (f : σ → R (Fl σ ρ)) : Nat → σ → R (Fl σ ρ)
  | 0, s => (c s).bind fun b => if b = true then .bad else .ok (.go s)
  | n + 1, s => (c s).bind fun b => if b = true then (f s).bind fun r => (match r with
    | .go s => whileF c f n s
    | .brk s => .ok (.go s)
    | .out r => .ok (.out r)) else .ok (.go s)
/-- a comprehension: what each item gives, the state carried -/
def compR (f : σ → α → R (σ × Option β)) : List α → σ → R (σ × List β)
  | [], s => .ok (s, [])
  | x :: xs, s => (f s x).bind fun r => (compR f xs r.1).bind fun t => .ok (t.1, match r.2 with
    | some y => y :: t.2
    | none => t.2)
end

/-! ### values -/
class Im (G : Gx) (α : Type) where
  im : Hp → V → α → Prop
  st : ∀ {H H' : Hp} {v : V} {x : α}, im H v x → Stab G H H' → im H' v x
class Fv (G : Gx) (α : Type) extends Im G α where
  enc : α → V
  im_iff : ∀ {H : Hp} {v : V} {x : α}, im H v x ↔ v = enc x
variable {G : Gx}
instance imInt : Im G Int := ⟨fun _ v x => v = .int x, fun h _ => h⟩
instance imBool : Im G Bool := ⟨fun _ v x => v = .bl x, fun h _ => h⟩
instance imStr : Im G Str := ⟨fun _ v x => v = .str x, fun h _ => h⟩
instance imUnit : Im G Unit := ⟨fun _ v _ => v = .non, fun h _ => h⟩
instance fInt : Fv G Int := { enc := .int, im_iff := .rfl }
instance fBool : Fv G Bool := { enc := .bl, im_iff := .rfl }
instance fStr : Fv G Str := { enc := .str, im_iff := .rfl }
instance fUnit : Fv G Unit := { enc := fun _ => .non, im_iff := .rfl }
/-- the script -/
structure Script where
  ns : List Int
instance : Im G Script := ⟨fun H v x => ∃ a, v = .ref a ∧ ((∃ o, H a = some (.frz o (.lst (x.ns.map V.int)))) ∨ ∃ o its n, List.lookup a G.K = some o ∧ o.cls = Value.type "list" ∧ o.dict = none ∧ o.data = Data.seq its n ∧ its.size ≤ sizeLine ∧ Vals (x.ns.map V.int) its.toList),
  fun ⟨a, e, h⟩ s => ⟨a, e, h.imp (fun ⟨o, h⟩ => ⟨o, s.1 a _ h rfl⟩) id⟩⟩
theorem im_script {H : Hp} {v : V} {x : Script} (h : Im.im G H v x) : ∃ a, v = .ref a ∧ SqL G.K H a (x.ns.map V.int) := by
  obtain ⟨a, e, h⟩ := h
  refine ⟨a, e, ?_⟩
  rcases h with ⟨o, h⟩ | h
  · exact .inl (.inr ⟨o, h⟩)
  · exact .inr h
theorem sq_script {H : Hp} {a : Addr} {x : Script} (h : Im.im G H (.ref a) x) : SqL G.K H a (x.ns.map V.int) := by
  obtain ⟨b, e, h⟩ := im_script h
  cases e; exact h
def imL {α : Type} [Im G α] (H : Hp) : List V → List α → Prop
  | [], [] => True
  | v :: vs, x :: xs => Im.im G H v x ∧ imL H vs xs
  | _, _ => False
section
variable {α : Type} [Im G α] {H H' : Hp}
theorem imL.st : ∀ {vs : List V} {xs : List α}, imL (G := G) H vs xs → Stab G H H' → imL (G := G) H' vs xs
  | [], [], _, _ => True.intro
  | v :: vs, x :: xs, h, s => ⟨Im.st h.1 s, imL.st h.2 s⟩
  | [], _ :: _, h, _ => h
  | _ :: _, [], h, _ => h
theorem imL.len : ∀ {vs : List V} {xs : List α}, imL (G := G) H vs xs → vs.length = xs.length
  | [], [], _ => rfl
  | v :: vs, x :: xs, h => by rw [List.length_cons, List.length_cons, imL.len h.2]
  | [], _ :: _, h => h.elim
  | _ :: _, [], h => h.elim
theorem imL.app : ∀ {vs ws : List V} {xs ys : List α}, imL (G := G) H vs xs → imL (G := G) H ws ys → imL (G := G) H (vs ++ ws) (xs ++ ys)
  | [], _, [], _, _, h => h
  | v :: vs, _, x :: xs, _, h, k => ⟨h.1, imL.app h.2 k⟩
  | [], _, _ :: _, _, h, _ => h.elim
  | _ :: _, _, [], _, h, _ => h.elim
theorem imL.get : ∀ {vs : List V} {xs : List α} {i : Nat} {x : α}, imL (G := G) H vs xs → xs[i]? = some x → ∃ v, vs[i]? = some v ∧ Im.im G H v x
  | [], [], _, _, _, e => by simp at e
  | v :: vs, x :: xs, 0, y, h, e => by
    have : x = y := Option.some.inj e
    subst this
    exact ⟨v, rfl, h.1⟩
  | v :: vs, x :: xs, i + 1, y, h, e => by
    obtain ⟨u, h1, h2⟩ := imL.get (i := i) (x := y) h.2 (by simpa using e)
    exact ⟨u, by simpa using h1, h2⟩
  | [], _ :: _, _, _, h, _ => h.elim
  | _ :: _, [], _, _, h, _ => h.elim
theorem imL.getV : ∀ {vs : List V} {xs : List α} {i : Nat} {v : V}, imL (G := G) H vs xs → vs[i]? = some v → ∃ x, xs[i]? = some x ∧ Im.im G H v x
  | [], [], _, _, _, e => by simp at e
  | v :: vs, x :: xs, 0, y, h, e => by
    have : v = y := Option.some.inj e
    subst this
    exact ⟨x, rfl, h.1⟩
  | v :: vs, x :: xs, i + 1, y, h, e => by
    obtain ⟨u, h1, h2⟩ := imL.getV (i := i) (v := y) h.2 (by simpa using e)
    exact ⟨u, by simpa using h1, h2⟩
  | [], _ :: _, _, _, h, _ => h.elim
  | _ :: _, [], _, _, h, _ => h.elim
theorem imL.set : ∀ {vs : List V} {xs : List α} {i : Nat} {x : α} {v : V}, imL (G := G) H vs xs → Im.im G H v x → imL (G := G) H (vs.set i v) (xs.set i x)
  | [], [], _, _, _, _, _ => True.intro
  | v :: vs, x :: xs, 0, y, u, h, k => ⟨k, h.2⟩
  | v :: vs, x :: xs, i + 1, y, u, h, k => ⟨h.1, imL.set h.2 k⟩
  | [], _ :: _, _, _, _, h, _ => h.elim
  | _ :: _, [], _, _, _, h, _ => h.elim
theorem imL.take : ∀ {vs : List V} {xs : List α} (n : Nat), imL (G := G) H vs xs → imL (G := G) H (vs.take n) (xs.take n)
  | [], [], n, _ => by simp [imL]
  | v :: vs, x :: xs, 0, h => True.intro
  | v :: vs, x :: xs, n + 1, h => ⟨h.1, imL.take n h.2⟩
  | [], _ :: _, _, h => h.elim
  | _ :: _, [], _, h => h.elim
theorem imL.drop : ∀ {vs : List V} {xs : List α} (n : Nat), imL (G := G) H vs xs → imL (G := G) H (vs.drop n) (xs.drop n)
  | [], [], n, _ => by simp [imL]
  | v :: vs, x :: xs, 0, h => h
  | v :: vs, x :: xs, n + 1, h => imL.drop n h.2
  | [], _ :: _, _, h => h.elim
  | _ :: _, [], _, h => h.elim
end
section
variable {α : Type} [Fv G α] {H H' : Hp}
theorem imL.flat : ∀ {vs : List V} {xs : List α}, imL (G := G) H vs xs ↔ vs = xs.map (Fv.enc G)
  | [], [] => ⟨fun _ => rfl, fun _ => True.intro⟩
  | v :: vs, x :: xs => by
    show (Im.im G H v x ∧ imL (G := G) H vs xs) ↔ _
    rw [Fv.im_iff, imL.flat]
    simp
  | [], _ :: _ => by simp [imL]
  | _ :: _, [] => by simp [imL]
end

/-! ### lists that one owns -/
section
variable {α : Type} [Im G α]
def lstA (a : Addr) (xs : List α) : Asn G := ⟨fun H fp => fp = [a] ∧ ∃ vs, H a = some (.lst vs) ∧ imL (G := G) H vs xs,
  fun H H' fp ⟨e, vs, h, m⟩ k s => ⟨e, vs, by rw [k a (by rw [e]; simp)]; exact h, m.st s⟩⟩
/-- a value's fact -/
def imA (v : V) (x : α) : Asn G := fact (fun H => Im.im G H v x) fun H H' h s => Im.st h s
variable {H : Hp} {L : List (Asn G)}
theorem Sep.lst (h : Sep H L) {i : Nat} {a : Addr} {xs : List α} (e : L[i]? = some (lstA a xs)) : ∃ vs, H a = some (.lst vs) ∧ imL (G := G) H vs xs := by
  obtain ⟨fp, _, x⟩ := h.at e
  exact x
theorem Sep.im (h : Sep H L) {i : Nat} {v : V} {x : α} (e : L[i]? = some (imA v x)) : Im.im G H v x := h.getFact e
theorem Sep.addIm (h : Sep H L) {v : V} {x : α} (e : Im.im G H v x) : Sep H (imA v x :: L) := h.addFact e
/-- the list's own cell, and back -/
theorem Sep.openL (h : Sep H L) {i : Nat} {a : Addr} {xs : List α} (e : L[i]? = some (lstA a xs)) : ∃ vs, imL (G := G) H vs xs ∧ Sep H (L.set i (cell a (.lst vs))) := by
  obtain ⟨vs, e1, m⟩ := h.lst e
  exact ⟨vs, m, h.viewAt e fun fp ⟨q, _⟩ => ⟨q, e1⟩⟩
theorem Sep.closeL {i : Nat} {a : Addr} {vs : List V} {xs : List α} (h : Sep H L) (e : L[i]? = some (cell a (.lst vs))) (m : imL (G := G) H vs xs) : Sep H (L.set i (lstA a xs)) :=
  h.viewAt e fun fp ⟨q, r⟩ => ⟨q, vs, r, m⟩
theorem Sep.newL (h : Sep H L) {p : Addr} {vs : List V} {xs : List α} (hp : H p = none) (m : imL (G := G) H vs xs) : Sep (upd H p (.lst vs)) (lstA p xs :: L) :=
  (h.new (o := .lst vs) hp rfl).view fun fp ⟨q, r⟩ => ⟨q, vs, r, m.st (.of_same (same_new hp))⟩
theorem set_set {β : Type} {l : List β} {i : Nat} {x y : β} : (l.set i x).set i y = l.set i y := by simp
theorem get_set {β : Type} {l : List β} {i : Nat} {x y : β} (h : l[i]? = some x) : (l.set i y)[i]? = some y := by
  have : i < l.length := by
    have := List.getElem?_eq_some_iff.mp h
    exact this.1
  simp [this]
theorem Sep.putL (h : Sep H L) {i : Nat} {a : Addr} {xs ys : List α} {vs : List V} (e : L[i]? = some (lstA a xs)) (m : imL (G := G) H vs ys) : Sep (upd H a (.lst vs)) (L.set i (lstA a ys)) := by
  obtain ⟨us, mu, h1⟩ := h.openL e
  have e1 := get_set (y := cell (G := G) a (.lst us)) e
  have h2 := h1.put (o' := .lst vs) e1 rfl rfl
  rw [set_set] at h2
  have st : Stab G H (upd H a (.lst vs)) := stab_put (h1.getCell e1) rfl rfl
  have h3 := h2.closeL (get_set e) (m.st st)
  rw [set_set] at h3
  exact h3
end
end Ml

namespace Ml
open PySem L2
variable {G : Gx}
/-! ### what an expression comes to where nothing is made -/
def Ev (te : TE) (σ : St) (H : Hp) (v : V) : Prop := ∀ Q : VK, Q v H → te σ H Q
def Et (t : TT) (σ : St) (H : Hp) (b : Bool) : Prop := ∀ Q : Bool → Hp → Prop, Q b H → t σ H Q
def Ea (t : TA) (σ : St) (H : Hp) (vs : List V) : Prop := ∀ Q : List V → Hp → Prop, Q vs H → t σ H Q
def Eo (t : TO) (σ : St) (H : Hp) (o : Option Int) : Prop := ∀ Q : Option Int → Hp → Prop, Q o H → t σ H Q
section
variable {σ : St} {H : Hp} {ta tb tc te : TE} {t u : TT} {x y v : V} {i j : Int} {a b : Bool} {s z : Str} {vs : List V}
theorem ev_var {k : Nat} (h : σ[k]? = some (some v)) : Ev (tVar k) σ H v := fun _ q => ⟨v, h, q⟩
theorem ev_c : Ev (tC v) σ H v := fun _ q => q
theorem ev_op {r : R2} (ha : Ev ta σ H x) (hb : Ev tb σ H y) (hr : ∀ Q : VK, Q v H → r x y H Q) : Ev (tOp r ta tb) σ H v := fun Q q => ha _ (hb _ (hr _ q))
theorem ev_un {r : V → Hp → VK → Prop} (ha : Ev ta σ H x) (hr : ∀ Q : VK, Q v H → r x H Q) : Ev (tUn r ta) σ H v := fun Q q => ha _ (hr _ q)
theorem r_I0 {g : Int → Int → V} (Q : VK) (q : Q (g i j) H) : rI0 g (.int i) (.int j) H Q := ⟨i, j, rfl, rfl, q⟩
theorem r_I {C : Int → Int → Prop} {g : Int → Int → V} (c : C i j) (Q : VK) (q : Q (g i j) H) : rI C g (.int i) (.int j) H Q := ⟨i, j, rfl, rfl, c, q⟩
theorem ev_i0 {g : Int → Int → V} (ha : Ev ta σ H (.int i)) (hb : Ev tb σ H (.int j)) : Ev (tOp (rI0 g) ta tb) σ H (g i j) := ev_op ha hb fun Q q => r_I0 Q q
theorem ev_i {C : Int → Int → Prop} {g : Int → Int → V} (ha : Ev ta σ H (.int i)) (hb : Ev tb σ H (.int j)) (c : C i j) : Ev (tOp (rI C g) ta tb) σ H (g i j) := ev_op ha hb fun Q q => r_I c Q q
theorem ev_mul (ha : Ev ta σ H (.int i)) (hb : Ev tb σ H (.int j)) (c : CMul i j) : Ev (tOp (rI CMul fun i j => .int (i * j)) ta tb) σ H (.int (i * j)) := ev_i ha hb c
theorem ev_fdiv (ha : Ev ta σ H (.int i)) (hb : Ev tb σ H (.int j)) (c : 0 < j ∧ j < 1073741824) : Ev (tOp (rI CDiv fun i j => .int (i / j)) ta tb) σ H (.int (i / j)) := ev_i ha hb c
theorem ev_mod (ha : Ev ta σ H (.int i)) (hb : Ev tb σ H (.int j)) (c : 0 < j) : Ev (tOp (rI (fun _ j => 0 < j) fun i j => .int (i % j)) ta tb) σ H (.int (i % j)) := ev_i ha hb c
theorem ev_add (ha : Ev ta σ H (.int i)) (hb : Ev tb σ H (.int j)) : Ev (tOp (rI0 fun i j => .int (i + j)) ta tb) σ H (.int (i + j)) := ev_i0 ha hb
theorem ev_sub (ha : Ev ta σ H (.int i)) (hb : Ev tb σ H (.int j)) : Ev (tOp (rI0 fun i j => .int (i - j)) ta tb) σ H (.int (i - j)) := ev_i0 ha hb
theorem r_eqI (Q : VK) (q : Q (.bl (decide (i = j))) H) : rEq (.int i) (.int j) H Q := ⟨rfl, by
  have : decide (V.int i = V.int j) = decide (i = j) := by simp
  rw [this]; exact q⟩
theorem r_neI (Q : VK) (q : Q (.bl (!decide (i = j))) H) : rNe (.int i) (.int j) H Q := ⟨rfl, by
  have : decide (V.int i = V.int j) = decide (i = j) := by simp
  rw [this]; exact q⟩
theorem r_eqS (Q : VK) (q : Q (.bl (decide (s = z))) H) : rEq (.str s) (.str z) H Q := ⟨rfl, by
  have : decide (V.str s = V.str z) = decide (s = z) := by simp
  rw [this]; exact q⟩
theorem r_neS (Q : VK) (q : Q (.bl (!decide (s = z))) H) : rNe (.str s) (.str z) H Q := ⟨rfl, by
  have : decide (V.str s = V.str z) = decide (s = z) := by simp
  rw [this]; exact q⟩
theorem r_eqB (Q : VK) (q : Q (.bl (decide (a = b))) H) : rEq (.bl a) (.bl b) H Q := ⟨rfl, by
  have : decide (V.bl a = V.bl b) = decide (a = b) := by simp
  rw [this]; exact q⟩
theorem r_neB (Q : VK) (q : Q (.bl (!decide (a = b))) H) : rNe (.bl a) (.bl b) H Q := ⟨rfl, by
  have : decide (V.bl a = V.bl b) = decide (a = b) := by simp
  rw [this]; exact q⟩
theorem ev_eqI (ha : Ev ta σ H (.int i)) (hb : Ev tb σ H (.int j)) : Ev (tOp rEq ta tb) σ H (.bl (decide (i = j))) := ev_op ha hb fun Q q => r_eqI Q q
theorem ev_neI (ha : Ev ta σ H (.int i)) (hb : Ev tb σ H (.int j)) : Ev (tOp rNe ta tb) σ H (.bl (!decide (i = j))) := ev_op ha hb fun Q q => r_neI Q q
theorem ev_eqS (ha : Ev ta σ H (.str s)) (hb : Ev tb σ H (.str z)) : Ev (tOp rEq ta tb) σ H (.bl (decide (s = z))) := ev_op ha hb fun Q q => r_eqS Q q
theorem ev_neS (ha : Ev ta σ H (.str s)) (hb : Ev tb σ H (.str z)) : Ev (tOp rNe ta tb) σ H (.bl (!decide (s = z))) := ev_op ha hb fun Q q => r_neS Q q
theorem ev_eqB (ha : Ev ta σ H (.bl a)) (hb : Ev tb σ H (.bl b)) : Ev (tOp rEq ta tb) σ H (.bl (decide (a = b))) := ev_op ha hb fun Q q => r_eqB Q q
theorem ev_neB (ha : Ev ta σ H (.bl a)) (hb : Ev tb σ H (.bl b)) : Ev (tOp rNe ta tb) σ H (.bl (!decide (a = b))) := ev_op ha hb fun Q q => r_neB Q q
def rCatS : R2 := fun x y H Q => ∃ i j, x = .str i ∧ y = .str j ∧ i.length + j.length ≤ sizeLine ∧ Q (.str (i ++ j)) H
theorem op_catS {X : Cx} : OpR X (binaryOp .Add) rCatS := op_add_str
theorem r_catS (c : s.length + z.length ≤ sizeLine) (Q : VK) (q : Q (.str (s ++ z)) H) : rCatS (.str s) (.str z) H Q := ⟨s, z, rfl, rfl, c, q⟩
theorem ev_catS (ha : Ev ta σ H (.str s)) (hb : Ev tb σ H (.str z)) (c : s.length + z.length ≤ sizeLine) : Ev (tOp rCatS ta tb) σ H (.str (s ++ z)) := ev_op ha hb fun Q q => r_catS c Q q
/-- a sign in a written text -/
def rInSg : R2 := fun x y H Q => ∃ (c : Nat) (z : Str), x = .str ⟨#[c]⟩ ∧ y = .str z ∧ Q (.bl (decide (c ∈ z.cps.toList))) H
def rNiSg : R2 := fun x y H Q => ∃ (c : Nat) (z : Str), x = .str ⟨#[c]⟩ ∧ y = .str z ∧ Q (.bl (!decide (c ∈ z.cps.toList))) H
theorem op_inSg {X : Cx} : OpR X (compareOp .In) rInSg := op_in_sign
theorem op_niSg {X : Cx} : OpR X (compareOp .NotIn) rNiSg := op_notIn_sign
theorem ev_inSg {c : Nat} (ha : Ev ta σ H (.str ⟨#[c]⟩)) (hb : Ev tb σ H (.str z)) : Ev (tOp rInSg ta tb) σ H (.bl (decide (c ∈ z.cps.toList))) := ev_op ha hb fun Q q => ⟨c, z, rfl, rfl, q⟩
theorem ev_niSg {c : Nat} (ha : Ev ta σ H (.str ⟨#[c]⟩)) (hb : Ev tb σ H (.str z)) : Ev (tOp rNiSg ta tb) σ H (.bl (!decide (c ∈ z.cps.toList))) := ev_op ha hb fun Q q => ⟨c, z, rfl, rfl, q⟩
/-! tests -/
theorem et_test (h : Ev te σ H (.bl b)) : Et (tTest te) σ H b := fun _ q => h _ ⟨b, rfl, q⟩
theorem et_B (h : Ev te σ H (.bl b)) : Et (tB te) σ H b := fun _ q => h _ ⟨b, rfl, q⟩
theorem et_not (h : Et t σ H a) : Et (tNot t) σ H (!a) := fun _ q => h _ q
theorem et_and (h1 : Et t σ H a) (h2 : a = true → Et u σ H b) : Et (tAnd t u) σ H (a && b) := fun Q q => h1 _ (by
  cases a with
  | true => exact h2 rfl _ q
  | false => exact q)
theorem et_or (h1 : Et t σ H a) (h2 : a = false → Et u σ H b) : Et (tOr t u) σ H (a || b) := fun Q q => h1 _ (by
  cases a with
  | true => exact q
  | false => exact h2 rfl _ q)
theorem ev_andV (h1 : Ev ta σ H (.bl a)) (h2 : a = true → Ev tb σ H (.bl b)) : Ev (tAndV ta tb) σ H (.bl (a && b)) := fun Q q => h1 _ ⟨a, rfl, by
  cases a with
  | true => exact h2 rfl _ q
  | false => exact q⟩
theorem ev_orV (h1 : Ev ta σ H (.bl a)) (h2 : a = false → Ev tb σ H (.bl b)) : Ev (tOrV ta tb) σ H (.bl (a || b)) := fun Q q => h1 _ ⟨a, rfl, by
  cases a with
  | true => exact q
  | false => exact h2 rfl _ q⟩
theorem ev_notV (h1 : Ev ta σ H (.bl a)) : Ev (tNotV ta) σ H (.bl (!a)) := fun _ q => h1 _ ⟨a, rfl, q⟩
theorem ev_chainB {r r' : R2} (ha : Ev ta σ H x) (hb : Ev tb σ H y) (hc : a = true → Ev tc σ H v) (h1 : ∀ Q : VK, Q (.bl a) H → r x y H Q) (h2 : a = true → ∀ Q : VK, Q (.bl b) H → r' y v H Q) :
    Ev (tChain r r' ta tb tc) σ H (.bl (a && b)) := fun Q q => ha _ (hb _ (h1 _ ⟨a, rfl, by
  cases a with
  | true => exact hc rfl _ (h2 rfl _ q)
  | false => exact q⟩))
/-! arguments -/
theorem ea_nil : Ea tNil σ H [] := fun _ q => q
theorem ea_cons {tr : TA} (h : Ev ta σ H x) (hr : Ea tr σ H vs) : Ea (tCons ta tr) σ H (x :: vs) := fun _ q => h _ (hr _ q)
theorem eo_no : Eo tNoPart σ H none := fun _ q => q
theorem eo_some (h : Ev te σ H (.int i)) : Eo (tPart te) σ H (some i) := fun _ q => h _ ⟨i, rfl, q⟩
theorem ev_cb {r : List V → Hp → VK → Prop} {tr : TA} (h : Ea tr σ H vs) (hr : ∀ Q : VK, Q v H → r vs H Q) : Ev (tCB r tr) σ H v := fun Q q => h _ (hr _ q)
/-! lists read -/
variable {K : PySem.W.Frag} {α : Type}
theorem ev_ixSq {p : Addr} {ws : List V} (ha : Ev ta σ H (.ref p)) (hb : Ev tb σ H (.int i)) (hs : SqL K H p ws) (e : atI ws i = some v) : Ev (tOp (rIxL K) ta tb) σ H v := ev_op ha hb fun _ q => ⟨p, ws, i, v, rfl, rfl, hs, e, q⟩
theorem ev_ixS {c : Nat} (ha : Ev ta σ H (.str z)) (hb : Ev tb σ H (.int i)) (hl : z.length ≤ sizeLine) (e : atI z.cps.toList i = some c) : Ev (tOp rIxS ta tb) σ H (.str ⟨#[c]⟩) := ev_op ha hb fun _ q => ⟨z, i, c, rfl, rfl, hl, e, q⟩
theorem ev_slS {tl th : TO} {l h : Option Int} (ha : Ev ta σ H (.str z)) (h1 : Eo tl σ H l) (h2 : Eo th σ H h) (hl : z.length ≤ sizeLine) : Ev (tSl rSlS ta tl th) σ H (.str (cutS z l h)) := fun _ q => ha _ (h1 _ (h2 _ ⟨z, rfl, hl, q⟩))
def rLenSq (K : PySem.W.Frag) : List V → Hp → VK → Prop := fun xs H Q => ∃ p ys, xs = [.ref p] ∧ (SqL K H p ys ∨ SqT K H p ys) ∧ Q (.int ys.length) H
theorem call_lenSq {X : Cx} : CallR X (.builtin "len") (rLenSq X.K) := call_len_seq
def rLenS : List V → Hp → VK → Prop := fun xs H Q => ∃ z, xs = [.str z] ∧ z.length ≤ sizeLine ∧ Q (.int z.length) H
theorem call_lenS {X : Cx} : CallR X (.builtin "len") rLenS := call_len_str
theorem ev_lenL {p : Addr} {ws : List V} (ha : Ev ta σ H (.ref p)) (hs : SqL K H p ws) : Ev (tCB (rLenSq K) (tCons ta tNil)) σ H (.int ws.length) := ev_cb (ea_cons ha ea_nil) fun _ q => ⟨p, ws, rfl, .inl hs, q⟩
theorem ev_lenS (ha : Ev ta σ H (.str z)) (hl : z.length ≤ sizeLine) : Ev (tCB rLenS (tCons ta tNil)) σ H (.int z.length) := ev_cb (ea_cons ha ea_nil) fun _ q => ⟨z, rfl, hl, q⟩
end
/-! ### statements -/
section
variable {σ σ' : St} {H : Hp} {te : TE} {t : TT} {D : Ends} {t1 t2 tb : TS} {v : V} {b : Bool}
theorem st_seq (h : t1 { D with nx := t2 D } σ H) : tSeq t1 t2 D σ H := h
theorem st_set {i : Nat} (h : Ev te σ H v) (e : σ.set i (some v) = σ') (k : D.nx σ' H) : tAsg te (gName i) D σ H := h _ (by subst e; exact k)
theorem st_ret (h : Ev te σ H v) (k : D.rt v H) : tRet te D σ H := h _ k
theorem st_drop (h : Ev te σ H v) (k : D.nx σ H) : tDrop te D σ H := h _ k
theorem st_if (h : Et t σ H b) (h1 : b = true → t1 D σ H) (h2 : b = false → t2 D σ H) : tIfS t t1 t2 D σ H := h _ (by
  cases b with
  | true => exact h1 rfl
  | false => exact h2 rfl)
theorem ev_to (h : Ev te σ H v) {Q : VK} (q : Q v H) : te σ H Q := h Q q
theorem ea_to {t : TA} {vs : List V} (h : Ea t σ H vs) {Q : List V → Hp → Prop} (q : Q vs H) : t σ H Q := h Q q
theorem eo_to {t : TO} {o : Option Int} (h : Eo t σ H o) {Q : Option Int → Hp → Prop} (q : Q o H) : t σ H Q := h Q q
theorem et_to (h : Et t σ H b) {Q : Bool → Hp → Prop} (q : Q b H) : t σ H Q := h Q q
end

/-! ### loops -/
section
variable {α β τ ρ : Type} {H : Hp} {σ : St} {D : Ends} {tb : TS} {g : TG} {K : PySem.W.Frag}
/-- a walk J over the items xs: at turn i it yields a v of which the i-th item holds -/
structure Wk (J : It) (I : St → Hp → Prop) (im : Hp → V → α → Prop) (xs : List α) : Prop where
  go : ∀ i σ H, I σ H → i < xs.length → J.go i H
  yl : ∀ i σ H v H' x, I σ H → xs[i]? = some x → J.yld i H v H' → I σ H' ∧ im H' v x
  sp : ∀ σ H, I σ H → J.stop xs.length H
/-- for .. in ..: the state s : τ, I s its place in slots and heap; each turn reckons f -/
theorem for_walk {J : It} {I : τ → St → Hp → Prop} {im : Hp → V → α → Prop} {xs : List α} {f : τ → α → R τ} {k : τ → Prop} {e : Exc → Prop} {s : τ}
    (w : ∀ s, Wk J (I s) im xs) (h0 : I s σ H) (hm : R.wp (forR f xs s) k e)
    (turn : ∀ (s : τ) (x : α) (v : V) (σ : St) (H : Hp) (q : τ → Prop) (N : St → Hp → Prop), I s σ H → im H v x → R.wp (f s x) q e → (∀ s' σ' H', q s' → I s' σ' H' → N σ' H') → g v σ H fun σ2 H2 => tb { D with nx := N, ct := N, bk := D.nx } σ2 H2)
    (done : ∀ s σ H, k s → I s σ H → D.nx σ H) :
    ∃ W : Nat → Nat → St → Hp → Prop, (∃ m, W 0 m σ H) ∧ ∀ i m σ H, W i m σ H →
      (J.stop i H ∧ D.nx σ H) ∨ (J.go i H ∧ ∃ N : St → Hp → Prop, (∀ σ' H', N σ' H' → ∃ m', m' < m ∧ W (i + 1) m' σ' H') ∧ ∀ x H', J.yld i H x H' → g x σ H' fun σ2 H2 => tb { D with nx := N, ct := N, bk := D.nx } σ2 H2) := by
  refine ⟨fun i m σ H => m = xs.length - i ∧ i ≤ xs.length ∧ ∃ s, I s σ H ∧ R.wp (forR f (xs.drop i) s) k e, ⟨xs.length, by simp, Nat.zero_le _, s, h0, by simpa using hm⟩, ?_⟩
  rintro i m σ H ⟨rfl, hi, s, hI, hw⟩
  by_cases c : i < xs.length
  · have ed : xs.drop i = xs[i] :: xs.drop (i + 1) := List.drop_eq_getElem_cons c
    rw [ed] at hw
    refine .inr ⟨(w s).go i σ H hI c, fun σ' H' => ∃ s', I s' σ' H' ∧ R.wp (forR f (xs.drop (i + 1)) s') k e, fun σ' H' ⟨s', h1, h2⟩ => ⟨xs.length - (i + 1), by omega, rfl, c, s', h1, h2⟩, fun v H' y => ?_⟩
    obtain ⟨hI', hv⟩ := (w s).yl i σ H v H' xs[i] hI (List.getElem?_eq_getElem c) y
    exact turn s xs[i] v σ H' _ _ hI' hv (R.wp_bind hw) fun s' σ' H'' q hI'' => ⟨s', hI'', q⟩
  · have ei : i = xs.length := by omega
    subst ei
    rw [List.drop_length] at hw
    exact .inl ⟨(w s).sp σ H hI, done s σ H hw hI⟩
/-- .. whose turns may leave it -/
theorem for_walkF {J : It} {I : τ → St → Hp → Prop} {im : Hp → V → α → Prop} {xs : List α} {f : τ → α → R (Fl τ ρ)} {k : Fl τ ρ → Prop} {e : Exc → Prop} {s : τ}
    (w : ∀ s, Wk J (I s) im xs) (h0 : I s σ H) (hm : R.wp (forF f xs s) k e)
    (turn : ∀ (s : τ) (x : α) (v : V) (σ : St) (H : Hp) (q : Fl τ ρ → Prop) (N B : St → Hp → Prop), I s σ H → im H v x → R.wp (f s x) q e → (∀ s' σ' H', q (.go s') → I s' σ' H' → N σ' H') → (∀ s' σ' H', q (.brk s') → I s' σ' H' → B σ' H') → (∀ r, q (.out r) → k (.out r)) →
      g v σ H fun σ2 H2 => tb { D with nx := N, ct := N, bk := B } σ2 H2)
    (done : ∀ s σ H, k (.go s) → I s σ H → D.nx σ H) :
    ∃ W : Nat → Nat → St → Hp → Prop, (∃ m, W 0 m σ H) ∧ ∀ i m σ H, W i m σ H →
      (J.stop i H ∧ D.nx σ H) ∨ (J.go i H ∧ ∃ N : St → Hp → Prop, (∀ σ' H', N σ' H' → ∃ m', m' < m ∧ W (i + 1) m' σ' H') ∧ ∀ x H', J.yld i H x H' → g x σ H' fun σ2 H2 => tb { D with nx := N, ct := N, bk := D.nx } σ2 H2) := by
  refine ⟨fun i m σ H => m = xs.length - i ∧ i ≤ xs.length ∧ ∃ s, I s σ H ∧ R.wp (forF f (xs.drop i) s) k e, ⟨xs.length, by simp, Nat.zero_le _, s, h0, by simpa using hm⟩, ?_⟩
  rintro i m σ H ⟨rfl, hi, s, hI, hw⟩
  by_cases c : i < xs.length
  · have ed : xs.drop i = xs[i] :: xs.drop (i + 1) := List.drop_eq_getElem_cons c
    rw [ed] at hw
    refine .inr ⟨(w s).go i σ H hI c, fun σ' H' => ∃ s', I s' σ' H' ∧ R.wp (forF f (xs.drop (i + 1)) s') k e, fun σ' H' ⟨s', h1, h2⟩ => ⟨xs.length - (i + 1), by omega, rfl, c, s', h1, h2⟩, fun v H' y => ?_⟩
    obtain ⟨hI', hv⟩ := (w s).yl i σ H v H' xs[i] hI (List.getElem?_eq_getElem c) y
    have hw' := R.wp_bind hw
    exact turn s xs[i] v σ H' _ _ _ hI' hv hw' (fun s' σ' H'' q hI'' => ⟨s', hI'', q⟩) (fun s' σ' H'' q hI'' => done s' σ' H'' q hI'') fun r q => q
  · have ei : i = xs.length := by omega
    subst ei
    rw [List.drop_length] at hw
    exact .inl ⟨(w s).sp σ H hI, done s σ H hw hI⟩
/-- a comprehension -/
theorem lc_walk {J : It} {I : Addr → τ → List β → Hp → Prop} {im : Hp → V → α → Prop} [Im G β] {xs : List α} {f : τ → α → R (τ × Option β)} {k : τ × List β → Prop} {e : Exc → Prop} {s : τ} {tt : TT} {te : TE} {vs : List Nat} {Q : VK} {Dr : Addr}
    (w : ∀ s ys, Wk J (fun _ H => I Dr s ys H) im xs) (h0 : I Dr s [] (upd H Dr (.lst []))) (hm : R.wp (compR f xs s) k e) (hl : xs.length ≤ sizeLine)
    (turn : ∀ (s : τ) (ys : List β) (x : α) (v : V) (H : Hp) (q : τ × Option β → Prop) (Nx : Hp → Prop), I Dr s ys H → im H v x → R.wp (f s x) q e → ys.length < sizeLine →
      (∀ s' y u H', q (s', some y) → Im.im G H' u y → I Dr s' ys H' → ∃ acc, H' Dr = some (.lst acc) ∧ acc.length < sizeLine ∧ Nx (upd H' Dr (.lst (acc ++ [u])))) → (∀ s' H', q (s', none) → I Dr s' ys H' → Nx H') →
      g v (wipe σ vs) H fun σ2 H2 => wipe σ2 vs = wipe σ vs ∧ tt σ2 H2 fun b H3 => if b = true then te σ2 H3 fun y H4 => ∃ acc, H4 Dr = some (.lst acc) ∧ acc.length < sizeLine ∧ Nx (upd H4 Dr (.lst (acc ++ [y]))) else Nx H3)
    (app : ∀ s ys y u H, I Dr s ys H → Im.im G H u y → ∃ acc, H Dr = some (.lst acc) ∧ acc.length = ys.length ∧ I Dr s (ys ++ [y]) (upd H Dr (.lst (acc ++ [u]))))
    (done : ∀ s ys H, k (s, ys) → I Dr s ys H → Q (.ref Dr) H) :
    ∃ W : Nat → Nat → Hp → Prop, (∃ m, W 0 m (upd H Dr (.lst []))) ∧ ∀ i m H, W i m H →
      (J.stop i H ∧ Q (.ref Dr) H) ∨ (J.go i H ∧ ∃ Nx : Hp → Prop, (∀ H', Nx H' → ∃ m', m' < m ∧ W (i + 1) m' H') ∧ ∀ x H', J.yld i H x H' → g x (wipe σ vs) H' fun σ2 H2 => wipe σ2 vs = wipe σ vs ∧ tt σ2 H2 fun b H3 =>
        if b = true then te σ2 H3 fun y H4 => ∃ acc, H4 Dr = some (.lst acc) ∧ acc.length < sizeLine ∧ Nx (upd H4 Dr (.lst (acc ++ [y]))) else Nx H3) := by
  refine ⟨fun i m H => m = xs.length - i ∧ i ≤ xs.length ∧ ∃ s ys, ys.length ≤ i ∧ I Dr s ys H ∧ R.wp (compR f (xs.drop i) s) (fun t => k (t.1, ys ++ t.2)) e, ⟨xs.length, by simp, Nat.zero_le _, s, [], Nat.le_refl _, h0, by simpa using hm⟩, ?_⟩
  rintro i m H ⟨rfl, hi, s, ys, hy, hI, hw⟩
  by_cases c : i < xs.length
  · have ed : xs.drop i = xs[i] :: xs.drop (i + 1) := List.drop_eq_getElem_cons c
    rw [ed] at hw
    refine .inr ⟨(w s ys).go i [] H hI c, fun H' => ∃ s' ys', ys'.length ≤ i + 1 ∧ I Dr s' ys' H' ∧ R.wp (compR f (xs.drop (i + 1)) s') (fun t => k (t.1, ys' ++ t.2)) e,
      fun H' ⟨s', ys', h0, h1, h2⟩ => ⟨xs.length - (i + 1), by omega, rfl, c, s', ys', h0, h1, h2⟩, fun v H' y => ?_⟩
    obtain ⟨hI', hv⟩ := (w s ys).yl i [] H v H' xs[i] hI (List.getElem?_eq_getElem c) y
    have hw' := R.wp_bind hw
    refine turn s ys xs[i] v H' _ _ hI' hv hw' (by omega) (fun s' y u H'' q hu hI'' => ?_) (fun s' H'' q hI'' => ?_)
    · have q' := R.wp_bind q
      obtain ⟨acc, ea, la, hI3⟩ := app s' ys y u H'' hI'' hu
      refine ⟨acc, ea, by omega, s', ys ++ [y], by simp; omega, hI3, ?_⟩
      refine R.wp_mono q' (fun t ht => ?_) fun _ z => z
      have ht' : k (t.1, ys ++ y :: t.2) := ht
      rw [List.append_assoc]; exact ht'
    · have q' := R.wp_bind q
      exact ⟨s', ys, by omega, hI'', R.wp_mono q' (fun t ht => ht) fun _ z => z⟩
  · have ei : i = xs.length := by omega
    subst ei
    rw [List.drop_length] at hw
    have hw : k (s, ys ++ []) := hw
    rw [List.append_nil] at hw
    exact .inl ⟨(w s ys).sp [] H hI, done s ys H hw hI⟩
end
end Ml

namespace Ml
open PySem L2
variable {G : Gx}
/-! ### items by place, in plain Lean -/
def idxR {α : Type} (xs : List α) (i : Int) : R α := match atI xs i with
  | some x => .ok x
  | none => .bad
theorem wp_idx {α ρ : Type} {xs : List α} {i : Int} {f : α → R ρ} {q : ρ → Prop} {e : Exc → Prop} (h : R.wp ((idxR xs i).bind f) q e) : ∃ x, atI xs i = some x ∧ R.wp (f x) q e := by
  unfold idxR at h
  cases c : atI xs i with
  | some x => rw [c] at h; exact ⟨x, rfl, h⟩
  | none => rw [c] at h; exact h.elim
theorem atI_map {α β : Type} {xs : List α} {f : α → β} {i : Int} {x : α} (h : atI xs i = some x) : atI (xs.map f) i = some (f x) := by
  unfold atI at h ⊢
  rw [List.length_map]
  cases e : ixN xs.length i with
  | none => rw [e] at h; cases h
  | some j =>
    rw [e] at h
    show (xs.map f)[j]? = some (f x)
    have h : xs[j]? = some x := h
    rw [List.getElem?_map, h]; rfl
theorem atI_im {α : Type} [Im G α] {H : Hp} {vs : List V} {xs : List α} {i : Int} {x : α} (m : imL (G := G) H vs xs) (h : atI xs i = some x) : ∃ v, atI vs i = some v ∧ Im.im G H v x := by
  unfold atI at h ⊢
  rw [m.len]
  cases e : ixN xs.length i with
  | none => rw [e] at h; cases h
  | some j =>
    rw [e] at h
    exact m.get h
theorem atI_ok {α : Type} {xs : List α} {i : Int} (h0 : 0 ≤ i) (h1 : i < xs.length) : ∃ x, xs[i.toNat]? = some x ∧ atI xs i = some x := by
  have hj : i.toNat < xs.length := by omega
  refine ⟨xs[i.toNat], List.getElem?_eq_getElem hj, ?_⟩
  unfold atI ixN
  rw [if_pos h0, if_pos h1]
  exact List.getElem?_eq_getElem hj
theorem idxR_ok {α : Type} {xs : List α} {i : Int} {x : α} (h0 : 0 ≤ i) (h1 : xs[i.toNat]? = some x) : idxR xs i = .ok x := by
  have hl : i.toNat < xs.length := (List.getElem?_eq_some_iff.mp h1).1
  obtain ⟨y, hy, h⟩ := atI_ok (xs := xs) h0 (by omega)
  rw [h1] at hy; cases hy
  unfold idxR; rw [h]
/-- one sign as a text -/
abbrev sg (c : Nat) : Str := ⟨#[c]⟩
def mulOk (i j : Int) : Prop := (-(2 ^ 64) < i ∧ i < 2 ^ 64) ∨ (-(2 ^ 64) < j ∧ j < 2 ^ 64)
instance (i j : Int) : Decidable (mulOk i j) := by unfold mulOk; infer_instance
theorem mulOk_c {i j : Int} (h : mulOk i j) : CMul i j := h
def rngL (lo : Int) (n : Nat) : List Int := (List.range n).map fun (i : Nat) => lo + (i : Int)
theorem rngL_len (lo : Int) (n : Nat) : (rngL lo n).length = n := by simp [rngL]
theorem rngL_get {lo : Int} {n i : Nat} {x : Int} (h : (rngL lo n)[i]? = some x) : x = lo + (i : Int) ∧ i < n := by
  have hl : i < (rngL lo n).length := (List.getElem?_eq_some_iff.mp h).1
  rw [rngL_len] at hl
  unfold rngL at h
  rw [List.getElem?_map, List.getElem?_range hl] at h
  exact ⟨(Option.some.inj h).symm, hl⟩
/-! ### what is walked -/
section
variable {α τ : Type} {I : St → Hp → Prop} {K : PySem.W.Frag} {a : Addr}
theorem wk_list [Im G α] {xs : List α} (h : ∀ σ H, I σ H → ∃ vs, SqL K H a vs ∧ imL (G := G) H vs xs) : Wk (Itl K a) I (Im.im G) xs where
  go := fun i σ H hI hi => by
    obtain ⟨vs, s, m⟩ := h σ H hI
    have hl : i < vs.length := by rw [m.len]; exact hi
    exact ⟨vs, vs[i], s, List.getElem?_eq_getElem hl⟩
  yl := fun i σ H v H' x hI hx y => by
    obtain ⟨vs, s, m⟩ := h σ H hI
    obtain ⟨rfl, y⟩ := y
    obtain ⟨u, hu, im⟩ := m.get hx
    have e := y vs s
    rw [hu] at e; cases e
    exact ⟨hI, im⟩
  sp := fun σ H hI => by
    obtain ⟨vs, s, m⟩ := h σ H hI
    exact ⟨vs, s, by rw [m.len]; exact Nat.le_refl _⟩
theorem wk_range {lo : Int} {n : Nat} : Wk (Itr lo n) I (fun _ v (x : Int) => v = .int x) (rngL lo n) where
  go := fun i σ H _ hi => by rw [rngL_len] at hi; exact hi
  yl := fun i σ H v H' x hI hx y => by
    obtain ⟨rfl, y⟩ := y
    obtain ⟨e, _⟩ := rngL_get hx
    exact ⟨hI, by rw [y, e]⟩
  sp := fun σ H _ => by rw [rngL_len]; exact Nat.le_refl _
theorem wk_str {z : Str} : Wk (Its z) I (fun _ v (c : Nat) => v = .str (sg c)) z.cps.toList where
  go := fun i σ H _ hi => by show i < z.cps.size; simpa using hi
  yl := fun i σ H v H' x hI hx y => by
    obtain ⟨rfl, c, hc, y⟩ := y
    have : z.cps[i]? = some x := by simpa using hx
    rw [hc] at this; cases this
    exact ⟨hI, y⟩
  sp := fun σ H _ => by show z.cps.size ≤ _; simp
end
theorem Sep.sq {α : Type} [Im G α] {H : Hp} {L : List (Asn G)} (h : Sep H L) {i : Nat} {a : Addr} {xs : List α} (e : L[i]? = some (lstA a xs)) : ∃ vs, SqL G.K H a vs ∧ imL (G := G) H vs xs := by
  obtain ⟨vs, e, m⟩ := h.lst e
  exact ⟨vs, .inl (.inl e), m⟩
theorem Sep.sqF {α : Type} [Fv G α] {H : Hp} {L : List (Asn G)} (h : Sep H L) {i : Nat} {a : Addr} {xs : List α} (e : L[i]? = some (lstA a xs)) : SqL G.K H a (xs.map (Fv.enc G)) := by
  obtain ⟨vs, e, m⟩ := h.sq e
  rw [imL.flat.mp m] at e
  exact e
/-! ### making, changing: each step leaves the next heap by its assertions alone -/
section
variable {σ σ' : St} {H : Hp} {L L' : List (Asn G)} {D : Ends} {Q : VK} {te ta tb : TE} {α β : Type}
theorem c_op {r : R2} (h : ta σ H fun x H1 => tb σ H1 fun y H2 => r x y H2 Q) : tOp r ta tb σ H Q := h
theorem c_cons {tr : TA} {P : List V → Hp → Prop} (h : ta σ H fun x H1 => tr σ H1 fun xs H2 => P (x :: xs) H2) : tCons ta tr σ H P := h
theorem c_nil {P : List V → Hp → Prop} (h : P [] H) : tNil σ H P := h
theorem c_call {sp : Sp} {dvs : List V} {E : XK} {t : TA} (h : t σ H fun vs H1 => sp (vs ++ dvs) H1 Q E) : tCall sp dvs E t σ H Q := h
theorem c_cb {r : List V → Hp → VK → Prop} {t : TA} (h : t σ H fun vs H1 => r vs H1 Q) : tCB r t σ H Q := h
theorem c_asg {i : Nat} (h : te σ H fun v H1 => D.nx (σ.set i (some v)) H1) : tAsg te (gName i) D σ H := h
theorem c_ret (h : te σ H D.rt) : tRet te D σ H := h
theorem c_drop (h : te σ H fun _ H1 => D.nx σ H1) : tDrop te D σ H := h
theorem c_set {i : Nat} {v : V} (e : σ.set i (some v) = σ') (h : D.nx σ' H) : D.nx (σ.set i (some v)) H := by rw [e]; exact h
theorem c_if {t : TT} {t1 t2 : TS} (h : t σ H fun b H1 => if b = true then t1 D σ H1 else t2 D σ H1) : tIfS t t1 t2 D σ H := h
theorem c_test {P : Bool → Hp → Prop} (h : te σ H fun x H1 => ∃ k, x = .bl k ∧ P k H1) : tTest te σ H P := h
theorem c_B {P : Bool → Hp → Prop} (h : te σ H fun x H1 => ∃ k, x = .bl k ∧ P k H1) : tB te σ H P := h
theorem c_bool {b : Bool} {P : Bool → Hp → Prop} (h : P b H) : ∃ k, V.bl b = .bl k ∧ P k H := ⟨b, rfl, h⟩
theorem c_ite {b : Bool} {A B : Prop} (h1 : b = true → A) (h2 : b = false → B) : if b = true then A else B := by
  cases b with
  | true => exact h1 rfl
  | false => exact h2 rfl
theorem c_not {t : TT} {P : Bool → Hp → Prop} (h : t σ H fun c H1 => P (!c) H1) : tNot t σ H P := h
theorem c_and {t u : TT} {P : Bool → Hp → Prop} (h : t σ H fun c H1 => if c = true then u σ H1 P else P false H1) : tAnd t u σ H P := h
theorem c_or {t u : TT} {P : Bool → Hp → Prop} (h : t σ H fun c H1 => if c = true then P true H1 else u σ H1 P) : tOr t u σ H P := h
theorem c_andV (h : ta σ H fun x H1 => ∃ c, x = .bl c ∧ if c = true then tb σ H1 Q else Q (.bl false) H1) : tAndV ta tb σ H Q := h
theorem c_orV (h : ta σ H fun x H1 => ∃ c, x = .bl c ∧ if c = true then Q (.bl true) H1 else tb σ H1 Q) : tOrV ta tb σ H Q := h
theorem c_notV (h : ta σ H fun x H1 => ∃ c, x = .bl c ∧ Q (.bl (!c)) H1) : tNotV ta σ H Q := h
theorem c_ifE {t : TT} (h : t σ H fun c H1 => if c = true then ta σ H1 Q else tb σ H1 Q) : tIf t ta tb σ H Q := h
theorem c_b1 {c : Bool} {A : Bool → Prop} (h : A c) : ∃ k, V.bl c = .bl k ∧ A k := ⟨c, rfl, h⟩
/-- a new list of written items -/
def lstK (Q : VK) : List V → Hp → Prop := fun xs H1 => xs.length ≤ sizeLine ∧ ∀ p, H1 p = none → Q (.ref p) (upd H1 p (.lst xs))
def tupK (Q : VK) : List V → Hp → Prop := fun xs H1 => xs.length ≤ sizeLine ∧ ∀ p, H1 p = none → Q (.ref p) (upd H1 p (.tup xs))
theorem k_lst [Im G α] {vs : List V} {xs : List α} (hS : Sep H L) (m : imL (G := G) H vs xs) (z : vs.length ≤ sizeLine) (k : ∀ p H', Sep H' (lstA p xs :: L) → Q (.ref p) H') :
    lstK Q vs H := ⟨z, fun p hp => k p _ (hS.newL hp m)⟩
theorem c_lst {t : TA} (h : t σ H (lstK Q)) : tLst t σ H Q := h
theorem c_tup {t : TA} (h : t σ H (tupK Q)) : tTup t σ H Q := h
theorem c_bm {K : PySem.W.Frag} {T : String} {r : V → List V → Hp → VK → Prop} {to : TE} {t : TA} (h : to σ H fun x H1 => tyV K T x H1 ∧ t σ H1 fun xs H2 => r x xs H2 Q) : tBM K T r to t σ H Q := h
theorem c_bm0 {K : PySem.W.Frag} {T : String} {r : V → List V → Hp → VK → Prop} {to : TE} (h : to σ H fun x H1 => tyV K T x H1 ∧ r x [] H1 Q) : tBM0 K T r to σ H Q := h
theorem tyL [Im G α] {i : Nat} {a : Addr} {xs : List α} (hS : Sep H L) (e : L[i]? = some (lstA a xs)) : tyV G.K "list" (.ref a) H := by
  obtain ⟨vs, h, _⟩ := hS.sq e
  exact .inl ⟨rfl, vs, h⟩
theorem k_append [Im G α] {i : Nat} {a : Addr} {xs : List α} {x : α} {v : V} (hS : Sep H L) (e : L[i]? = some (lstA a xs)) (hv : Im.im G H v x) (z : xs.length < sizeLine) (e2 : L.set i (lstA a (xs ++ [x])) = L')
    (k : ∀ H', Sep H' L' → Q .non H') : rAppend (.ref a) [v] H Q := by
  obtain ⟨vs, h, m⟩ := hS.lst e
  refine ⟨a, vs, v, rfl, rfl, h, by rw [m.len]; exact z, k _ ?_⟩
  subst e2
  exact hS.putL e (m.app (vs := vs) (ws := [v]) ⟨hv, True.intro⟩)
theorem k_clear [Im G α] {i : Nat} {a : Addr} {xs : List α} (hS : Sep H L) (e : L[i]? = some (lstA a xs)) (e2 : L.set i (lstA a ([] : List α)) = L')
    (k : ∀ H', Sep H' L' → Q .non H') : rClear (.ref a) [] H Q := by
  obtain ⟨vs, h, m⟩ := hS.lst e
  refine ⟨a, vs, rfl, rfl, h, k _ ?_⟩
  subst e2
  exact hS.putL (vs := []) (ys := ([] : List α)) e True.intro
theorem k_cat [Im G α] {i j : Nat} {a b : Addr} {xs ys : List α} (hS : Sep H L) (e1 : L[i]? = some (lstA a xs)) (e2 : L[j]? = some (lstA b ys)) (z : xs.length + ys.length ≤ sizeLine)
    (k : ∀ p H', Sep H' (lstA p (xs ++ ys) :: L) → Q (.ref p) H') : rCat (.ref a) (.ref b) H Q := by
  obtain ⟨vs, h, m⟩ := hS.lst e1
  obtain ⟨ws, h', m'⟩ := hS.lst e2
  exact ⟨a, b, vs, ws, rfl, rfl, h, h', by rw [m.len, m'.len]; exact z, fun p hp => k p _ (hS.newL hp (m.app m'))⟩
/-- xs[i] = v -/
theorem k_setL [Im G α] {n : Nat} {a : Addr} {xs : List α} {x : α} {v : V} {i : Int} {P : Hp → Prop} (hS : Sep H L) (e : L[n]? = some (lstA a xs)) (hv : Im.im G H v x) (j : Nat) (hj : ixN xs.length i = some j) (e2 : L.set n (lstA a (xs.set j x)) = L')
    (k : ∀ H', Sep H' L' → P H') : rSetL (.ref a) (.int i) v H P := by
  obtain ⟨vs, h, m⟩ := hS.lst e
  refine ⟨a, vs, i, j, rfl, rfl, h, by rw [m.len]; exact hj, k _ ?_⟩
  subst e2
  exact hS.putL e (m.set hv)
def cutL (xs : List α) (lo hi : Option Int) : List α := (xs.drop (HT.sIx xs.length 0 lo)).take (HT.sIx xs.length xs.length hi - HT.sIx xs.length 0 lo)
theorem cutL_im [Im G α] {vs : List V} {xs : List α} {lo hi : Option Int} (m : imL (G := G) H vs xs) : imL (G := G) H (cutV vs lo hi) (cutL xs lo hi) := by
  unfold cutV cutL
  rw [m.len]
  exact (m.drop _).take _
theorem k_slL [Im G α] {n : Nat} {a : Addr} {xs : List α} {lo hi : Option Int} (hS : Sep H L) (e : L[n]? = some (lstA a xs))
    (k : ∀ p H', Sep H' (lstA p (cutL xs lo hi) :: L) → Q (.ref p) H') : rSlL G.K (.ref a) lo hi H Q := by
  obtain ⟨vs, h, m⟩ := hS.sq e
  exact ⟨a, vs, rfl, h, fun p hp => k p _ (hS.newL hp (cutL_im m))⟩
theorem c_sl {r : V → Option Int → Option Int → Hp → VK → Prop} {tl th : TO} (h : te σ H fun x H1 => tl σ H1 fun l H2 => th σ H2 fun u H3 => r x l u H3 Q) : tSl r te tl th σ H Q := h
def rListSq (K : PySem.W.Frag) : List V → Hp → VK → Prop := fun xs H Q => ∃ p ys, xs = [.ref p] ∧ (SqL K H p ys ∨ SqT K H p ys) ∧ ∀ l, H l = none → Q (.ref l) (upd H l (.lst ys))
theorem call_listSq {X : Cx} : CallR X (.type "list") (rListSq X.K) := call_list_of
theorem k_list [Im G α] {n : Nat} {a : Addr} {xs : List α} (hS : Sep H L) (e : L[n]? = some (lstA a xs)) (k : ∀ p H', Sep H' (lstA p xs :: L) → Q (.ref p) H') : rListSq G.K [.ref a] H Q := by
  obtain ⟨vs, h, m⟩ := hS.sq e
  exact ⟨a, vs, rfl, .inl h, fun p hp => k p _ (hS.newL hp m)⟩
/-- sep.join(xs) -/
def rJoin (K : PySem.W.Frag) : V → List V → Hp → VK → Prop := fun x xs H Q => ∃ a p, ∃ ys : List Str, x = .str a ∧ xs = [.ref p] ∧ (SqL K H p (ys.map V.str) ∨ SqT K H p (ys.map V.str)) ∧ (ys.map (·.length)).sum + ys.length * a.length ≤ 16777216 ∧ Q (.str (Txt.join a ys)) H
theorem k_join {n : Nat} {p : Addr} {a : Str} {ys : List Str} (hS : Sep H L) (e : L[n]? = some (lstA p ys)) (z : (ys.map (·.length)).sum + ys.length * a.length ≤ 16777216) (k : Q (.str (Txt.join a ys)) H) : rJoin G.K (.str a) [.ref p] H Q :=
  ⟨a, p, ys, rfl, rfl, .inl (hS.sqF e), z, k⟩
theorem c_m1 {r : V → List V → Hp → VK → Prop} {to : TE} {a : Str} (h1 : Ev to σ H (.str a)) (h : te σ H fun y H2 => r (.str a) [y] H2 Q) : tM1 r to te σ H Q := h1 _ ⟨⟨a, rfl⟩, h⟩
theorem c_m0 {r : V → List V → Hp → VK → Prop} {to : TE} {a : Str} (h1 : Ev to σ H (.str a)) (h : r (.str a) [] H Q) : tM0 r to σ H Q := h1 _ ⟨⟨a, rfl⟩, h⟩
end
end Ml

namespace Ml
open PySem L2
variable {G : Gx}
/-! ### dicts -/
section
variable {κ β : Type} [DecidableEq κ]
def dget (kvs : List (κ × β)) (k : κ) : Option β := (kvs.find? fun kv => decide (kv.1 = k)).map (·.2)
def dput (kvs : List (κ × β)) (k : κ) (v : β) : List (κ × β) :=
  if (kvs.any fun kv => decide (kv.1 = k)) = true then kvs.map (fun kv => if kv.1 = k then (kv.1, v) else kv) else kvs ++ [(k, v)]
def ddrop (kvs : List (κ × β)) (k : κ) : List (κ × β) := kvs.filter fun kv => decide (kv.1 ≠ k)
def dhas (kvs : List (κ × β)) (k : κ) : Bool := (dget kvs k).isSome
end
class Kx (κ : Type) where
  key : κ → Key
  inj : ∀ {a b : κ}, key a = key b → a = b
instance : Kx Int := ⟨Sum.inl, fun h => Sum.inl.inj h⟩
instance : Kx Str := ⟨Sum.inr, fun h => Sum.inr.inj h⟩
section
variable {κ β : Type} [DecidableEq κ] [Kx κ] [Im G β]
def imD (H : Hp) : List (Key × V) → List (κ × β) → Prop
  | [], [] => True
  | p :: ps, q :: qs => (p.1 = Kx.key q.1 ∧ Im.im G H p.2 q.2) ∧ imD H ps qs
  | _, _ => False
variable {H H' : Hp}
theorem imD.st : ∀ {ps : List (Key × V)} {qs : List (κ × β)}, imD (G := G) H ps qs → Stab G H H' → imD (G := G) H' ps qs
  | [], [], _, _ => True.intro
  | p :: ps, q :: qs, h, s => ⟨⟨h.1.1, Im.st h.1.2 s⟩, imD.st h.2 s⟩
  | [], _ :: _, h, _ => h
  | _ :: _, [], h, _ => h
theorem imD.len : ∀ {ps : List (Key × V)} {qs : List (κ × β)}, imD (G := G) H ps qs → ps.length = qs.length
  | [], [], _ => rfl
  | p :: ps, q :: qs, h => by rw [List.length_cons, List.length_cons, imD.len h.2]
  | [], _ :: _, h => h.elim
  | _ :: _, [], h => h.elim
theorem key_dec (a b : κ) : decide (Kx.key a = Kx.key b) = decide (a = b) := by
  by_cases h : a = b
  · subst h; simp
  · have : ¬ Kx.key a = Kx.key b := fun e => h (Kx.inj e)
    simp [h, this]
theorem imD.val : ∀ {ps : List (Key × V)} {qs : List (κ × β)} (k : κ), imD (G := G) H ps qs → (∀ y, dget qs k = some y → ∃ v, valV ps (Kx.key k) = some v ∧ Im.im G H v y) ∧ (dget qs k = none → valV ps (Kx.key k) = none)
  | [], [], _, _ => ⟨fun y e => (by cases (show (none : Option β) = some y from e)), fun _ => rfl⟩
  | p :: ps, q :: qs, k, ⟨⟨e1, e2⟩, h⟩ => by
    have ih := imD.val k h
    by_cases c : q.1 = k
    · have c1 : p.1 = Kx.key k := by rw [e1, c]
      have d : dget (q :: qs) k = some q.2 := by simp [dget, List.find?_cons, c]
      rw [d, valV_pos c1]
      exact ⟨fun y e => ⟨p.2, rfl, by cases e; exact e2⟩, fun e => by cases e⟩
    · have c1 : ¬ p.1 = Kx.key k := fun z => c (Kx.inj (e1.symm.trans z))
      have d : dget (q :: qs) k = dget qs k := by simp [dget, List.find?_cons, c]
      rw [d, valV_neg c1]
      exact ih
  | [], _ :: _, _, h => h.elim
  | _ :: _, [], _, h => h.elim
theorem imD.any : ∀ {ps : List (Key × V)} {qs : List (κ × β)} (k : κ), imD (G := G) H ps qs → (ps.any fun kv => decide (kv.1 = Kx.key k)) = qs.any fun kv => decide (kv.1 = k)
  | [], [], _, _ => rfl
  | p :: ps, q :: qs, k, ⟨⟨e1, e2⟩, h⟩ => by
    rw [List.any_cons, List.any_cons, imD.any k h, e1, key_dec]
  | [], _ :: _, _, h => h.elim
  | _ :: _, [], _, h => h.elim
theorem imD.app : ∀ {ps rs : List (Key × V)} {qs ts : List (κ × β)}, imD (G := G) H ps qs → imD (G := G) H rs ts → imD (G := G) H (ps ++ rs) (qs ++ ts)
  | [], _, [], _, _, h => h
  | _ :: _, _, _ :: _, _, h, k => ⟨h.1, imD.app h.2 k⟩
  | [], _, _ :: _, _, h, _ => h.elim
  | _ :: _, _, [], _, h, _ => h.elim
theorem imD.rep : ∀ {ps : List (Key × V)} {qs : List (κ × β)} {k : κ} {v : V} {y : β}, imD (G := G) H ps qs → Im.im G H v y →
    imD (G := G) H (ps.map fun kv => if kv.1 = Kx.key k then (kv.1, v) else kv) (qs.map fun kv => if kv.1 = k then (kv.1, y) else kv)
  | [], [], _, _, _, _, _ => True.intro
  | p :: ps, q :: qs, k, v, y, ⟨⟨e1, e2⟩, h⟩, hv => by
    refine ⟨?_, imD.rep h hv⟩
    show (if p.1 = Kx.key k then (p.1, v) else p).1 = Kx.key (if q.1 = k then (q.1, y) else q).1 ∧ Im.im G H (if p.1 = Kx.key k then (p.1, v) else p).2 (if q.1 = k then (q.1, y) else q).2
    by_cases c : q.1 = k
    · have c1 : p.1 = Kx.key k := by rw [e1, c]
      rw [if_pos c, if_pos c1]; exact ⟨e1, hv⟩
    · have c1 : ¬ p.1 = Kx.key k := fun z => c (Kx.inj (e1.symm.trans z))
      rw [if_neg c, if_neg c1]; exact ⟨e1, e2⟩
  | [], _ :: _, _, _, _, h, _ => h.elim
  | _ :: _, [], _, _, _, h, _ => h.elim
theorem imD.put {ps : List (Key × V)} {qs : List (κ × β)} {k : κ} {v : V} {y : β} (h : imD (G := G) H ps qs) (hv : Im.im G H v y) : imD (G := G) H (putK ps (Kx.key k) v) (dput qs k y) := by
  unfold putK dput
  rw [h.any k]
  split
  · exact h.rep hv
  · exact h.app (rs := [(Kx.key k, v)]) (ts := [(k, y)]) ⟨⟨rfl, hv⟩, True.intro⟩
theorem imD.drop : ∀ {ps : List (Key × V)} {qs : List (κ × β)} (k : κ), imD (G := G) H ps qs → imD (G := G) H (dropK ps (Kx.key k)) (ddrop qs k)
  | [], [], _, _ => True.intro
  | p :: ps, q :: qs, k, ⟨⟨e1, e2⟩, h⟩ => by
    have ih := imD.drop k h
    unfold dropK ddrop at ih ⊢
    rw [List.filter_cons, List.filter_cons]
    by_cases c : q.1 = k
    · have c1 : p.1 = Kx.key k := by rw [e1, c]
      simp only [c, c1, ne_eq, not_true_eq_false, decide_false, Bool.false_eq_true, if_false]
      exact ih
    · have c1 : ¬ p.1 = Kx.key k := fun z => c (Kx.inj (e1.symm.trans z))
      simp only [c, c1, ne_eq, not_false_eq_true, decide_true, if_true]
      exact ⟨⟨e1, e2⟩, ih⟩
  | [], _ :: _, _, h => h.elim
  | _ :: _, [], _, h => h.elim
theorem imD.keys : ∀ {ps : List (Key × V)} {qs : List (κ × β)}, imD (G := G) H ps qs → ps.map (·.1) = qs.map fun q => Kx.key q.1
  | [], [], _ => rfl
  | p :: ps, q :: qs, h => by rw [List.map_cons, List.map_cons, imD.keys h.2, h.1.1]
  | [], _ :: _, h => h.elim
  | _ :: _, [], h => h.elim
def dictA (a : Addr) (kvs : List (κ × β)) : Asn G := ⟨fun H fp => fp = [a] ∧ ∃ ps, H a = some (.dK ps) ∧ imD (G := G) H ps kvs,
  fun H H' fp ⟨e, ps, h, m⟩ k s => ⟨e, ps, by rw [k a (by rw [e]; simp)]; exact h, m.st s⟩⟩
variable {L L' : List (Asn G)}
theorem Sep.dict (h : Sep H L) {i : Nat} {a : Addr} {kvs : List (κ × β)} (e : L[i]? = some (dictA a kvs)) : ∃ ps, H a = some (.dK ps) ∧ imD (G := G) H ps kvs := by
  obtain ⟨fp, _, x⟩ := h.at e
  exact x
theorem Sep.newD (h : Sep H L) {p : Addr} (hp : H p = none) : Sep (upd H p (.dK [])) (dictA p ([] : List (κ × β)) :: L) :=
  (h.new (o := .dK []) hp rfl).view fun fp ⟨q, r⟩ => ⟨q, [], r, True.intro⟩
theorem Sep.putD (h : Sep H L) {i : Nat} {a : Addr} {xs ys : List (κ × β)} {ps : List (Key × V)} (e : L[i]? = some (dictA a xs)) (m : imD (G := G) H ps ys) : Sep (upd H a (.dK ps)) (L.set i (dictA a ys)) := by
  obtain ⟨us, e0, mu⟩ := h.dict e
  have h1 : Sep H (L.set i (cell a (.dK us))) := h.viewAt e fun fp ⟨q, _⟩ => ⟨q, e0⟩
  have e1 := get_set (y := cell (G := G) a (.dK us)) e
  have h2 := h1.put (o' := .dK ps) e1 rfl rfl
  rw [set_set] at h2
  have st : Stab G H (upd H a (.dK ps)) := stab_put (h1.getCell e1) rfl rfl
  have h3 := h2.viewAt (B := dictA a ys) (get_set e) fun fp ⟨q, r⟩ => ⟨q, ps, r, m.st st⟩
  rw [set_set] at h3
  exact h3
variable {σ : St} {Q : VK} {td ty tx : TE} {k : κ} {a : Addr} {xs : List (κ × β)} {i : Nat}
theorem k_dnew (hS : Sep H L) (q : ∀ p H', Sep H' (dictA p ([] : List (κ × β)) :: L) → Q (.ref p) H') : tDNewK σ H Q := fun p hp => q p _ (hS.newD hp)
theorem dget_at (hS : Sep H L) (e : L[i]? = some (dictA a xs)) {o : Option β} (ho : dget xs k = o) : ∃ r, DGet H a (kV (Kx.key k)) r ∧ (∀ y, o = some y → ∃ v, r = some v ∧ Im.im G H v y) ∧ (o = none → r = none) := by
  obtain ⟨ps, h, m⟩ := hS.dict e
  obtain ⟨v1, v2⟩ := m.val k
  exact ⟨_, DGet.k h, fun y q => v1 y (ho.trans q), fun q => v2 (ho.trans q)⟩
theorem ev_din (hS : Sep H L) (e : L[i]? = some (dictA a xs)) (hy : Ev ty σ H (kV (Kx.key k))) (hd : Ev td σ H (.ref a)) : Ev (tDIn ty td) σ H (.bl (dhas xs k)) := fun Q q => hy _ (hd _ (by
  obtain ⟨r, g, h1, h2⟩ := dget_at hS e (k := k) rfl
  refine ⟨a, r, rfl, g, ?_⟩
  have : r.isSome = dhas xs k := by
    unfold dhas
    cases c : dget xs k with
    | none => rw [h2 c]; rfl
    | some y => obtain ⟨v, e, _⟩ := h1 y c; rw [e]; rfl
  rw [this]; exact q))
theorem ev_dnotin (hS : Sep H L) (e : L[i]? = some (dictA a xs)) (hy : Ev ty σ H (kV (Kx.key k))) (hd : Ev td σ H (.ref a)) : Ev (tDNotIn ty td) σ H (.bl (!dhas xs k)) := fun Q q => hy _ (hd _ (by
  obtain ⟨r, g, h1, h2⟩ := dget_at hS e (k := k) rfl
  refine ⟨a, r, rfl, g, ?_⟩
  have : r.isSome = dhas xs k := by
    unfold dhas
    cases c : dget xs k with
    | none => rw [h2 c]; rfl
    | some y => obtain ⟨v, e, _⟩ := h1 y c; rw [e]; rfl
  rw [this]; exact q))
theorem isD_of (hS : Sep H L) (e : L[i]? = some (dictA a xs)) : IsD H a := by
  obtain ⟨ps, h, _⟩ := hS.dict e
  exact .inl ⟨ps, .inl h⟩
/-- d.setdefault(k, z), what it hands back not looked at -/
theorem k_dsetd0 {z : V} {y : β} (hS : Sep H L) (e : L[i]? = some (dictA a xs)) (hz : Im.im G H z y) (hl : xs.length < sizeLine) (e2 : L.set i (dictA a (if dhas xs k then xs else dput xs k y)) = L')
    (q : ∀ v H', Sep H' L' → Q v H') : ∃ (kvs : List (Key × V)) (k' : Key), H a = some (.dK kvs) ∧ kV (Kx.key k) = kV k' ∧ kvs.length < sizeLine ∧ (∀ v, valV kvs k' = some v → Q v H) ∧ (valV kvs k' = none → Q z (upd H a (.dK (putK kvs k' z)))) := by
  obtain ⟨ps, h, m⟩ := hS.dict e
  obtain ⟨v1, v2⟩ := m.val k
  refine ⟨ps, Kx.key k, h, rfl, by rw [m.len]; exact hl, fun v hv => q v _ ?_, fun hn => q z _ ?_⟩
  · have : dhas xs k = true := by
      unfold dhas
      cases c : dget xs k with
      | none => rw [v2 c] at hv; cases hv
      | some y => rfl
    rw [this] at e2
    subst e2
    have : L.set i (dictA a xs) = L := by
      have hi := (List.getElem?_eq_some_iff.mp e)
      obtain ⟨h1, h2⟩ := hi
      rw [← h2]; exact List.set_getElem_self h1
    rw [if_pos rfl, this]; exact hS
  · have : dhas xs k = false := by
      unfold dhas
      cases c : dget xs k with
      | none => rfl
      | some y => obtain ⟨v, e, _⟩ := v1 y c; rw [e] at hn; cases hn
    rw [this] at e2
    subst e2
    rw [if_neg Bool.false_ne_true]
    exact hS.putD e (m.put hz)
theorem k_dsetd {z : V} {y : β} (hS : Sep H L) (e : L[i]? = some (dictA a xs)) (hd : Ev td σ H (.ref a)) (hy : Ev ty σ H (kV (Kx.key k))) (hx : Ev tx σ H z) (hz : Im.im G H z y) (hl : xs.length < sizeLine) (e2 : L.set i (dictA a (if dhas xs k then xs else dput xs k y)) = L')
    (q : ∀ v H', Sep H' L' → Q v H') : tDSetd td ty tx σ H Q := hd _ ⟨a, rfl, isD_of hS e, hy _ (hx _ (k_dsetd0 hS e hz hl e2 q))⟩
def rListD : List V → Hp → VK → Prop := fun xs H Q => ∃ (a : Addr) (kvs : List (Key × V)), xs = [.ref a] ∧ Rd H a (.dK kvs) ∧ ∀ p, H p = none → Q (.ref p) (upd H p (.lst (kvs.map fun kv => kV kv.1)))
theorem call_lstD {X : Cx} (hc : X.calm = true) : CallR X (.type "list") rListD := call_listD hc
theorem k_listD [Fv G κ] (hk : ∀ k : κ, kV (Kx.key k) = Fv.enc G k) (hS : Sep H L) (e : L[i]? = some (dictA a xs)) (q : ∀ p H', Sep H' (lstA p (xs.map (·.1)) :: L) → Q (.ref p) H') : rListD [.ref a] H Q := by
  obtain ⟨ps, h, m⟩ := hS.dict e
  refine ⟨a, ps, rfl, .inl h, fun p hp => q p _ (hS.newL hp (imL.flat.mpr ?_))⟩
  have e1 : ps.map (fun kv => kV kv.1) = (ps.map (·.1)).map kV := by rw [List.map_map]; rfl
  rw [e1, m.keys, List.map_map, List.map_map]
  exact List.map_congr_left fun q _ => hk q.1
end
/-! ### == of data -/
class Lay (α : Type) where
  lay : α → Bool
instance : Lay Int := ⟨fun _ => true⟩
instance : Lay Bool := ⟨fun _ => true⟩
instance : Lay Str := ⟨fun x => PyData.strOk x⟩
def layAllB {α : Type} [Lay α] (xs : List α) : Bool := xs.all Lay.lay
class Pd (G : Gx) (α : Type) [Im G α] [DecidableEq α] [Lay α] where
  pd : α → PyData
  dep : Nat
  dp : ∀ {H : Hp} {v : V} {x : α}, Im.im G H v x → Dp G.K H v (pd x)
  lay_ok : ∀ x, Lay.lay x = true → (pd x).canLay0 = true
  dep_ok : ∀ x, (pd x).depth ≤ dep
  eqv : ∀ x y, PyData.eqv (pd x) (pd y) = decide (x = y)
instance pInt : Pd G Int where
  pd := .int
  dep := 0
  dp := fun {H v x} h => by
    have h : v = .int x := h
    subst h; exact .int x
  lay_ok := fun _ _ => rfl
  dep_ok := fun _ => Nat.le_refl _
  eqv := fun x y => by
    show (x == y) = decide (x = y)
    rfl
instance pBool : Pd G Bool where
  pd := .bool
  dep := 0
  dp := fun {H v x} h => by
    have h : v = .bl x := h
    subst h; exact .bl x
  lay_ok := fun _ _ => rfl
  dep_ok := fun _ => Nat.le_refl _
  eqv := fun x y => by cases x <;> cases y <;> rfl
theorem str_beq (x y : Str) : (x == y) = decide (x = y) := by
  by_cases h : x = y
  · subst h; simp
  · simp [h]
instance pStr : Pd G Str where
  pd := .str
  dep := 0
  dp := fun {H v x} h => by
    have h : v = .str x := h
    subst h; exact .str x
  lay_ok := fun _ h => h
  dep_ok := fun _ => Nat.le_refl _
  eqv := fun x y => str_beq x y
section
variable {α : Type} [Im G α] [DecidableEq α] [Lay α] [Pd G α] {H : Hp} {L : List (Asn G)}
theorem dpAll : ∀ {vs : List V} {xs : List α}, imL (G := G) H vs xs → DpAll G.K H vs (xs.map (Pd.pd G))
  | [], [], _ => .nil
  | v :: vs, x :: xs, h => .cons (Pd.dp h.1) (dpAll h.2)
  | [], _ :: _, h => h.elim
  | _ :: _, [], h => h.elim
theorem layAll : ∀ {xs : List α}, layAllB xs = true → PyData.canLayAll0 (xs.map (Pd.pd G)) = true
  | [], _ => rfl
  | x :: xs, h => by
    unfold layAllB at h
    rw [List.all_cons, Bool.and_eq_true] at h
    show ((Pd.pd G x).canLay0 && PyData.canLayAll0 (xs.map (Pd.pd G))) = true
    rw [Pd.lay_ok x h.1, layAll h.2]; rfl
theorem depAll : ∀ (xs : List α), PyData.depthAll (xs.map (Pd.pd G)) ≤ Pd.dep G α
  | [] => Nat.zero_le _
  | x :: xs => by
    show max (Pd.pd G x).depth (PyData.depthAll (xs.map (Pd.pd G))) ≤ _
    exact Nat.max_le.mpr ⟨Pd.dep_ok x, depAll xs⟩
theorem eqvAll_is : ∀ (xs ys : List α), PyData.eqvAll (xs.map (Pd.pd G)) (ys.map (Pd.pd G)) = decide (xs = ys)
  | [], [] => rfl
  | x :: xs, y :: ys => by
    show (PyData.eqv (Pd.pd G x) (Pd.pd G y) && PyData.eqvAll (xs.map (Pd.pd G)) (ys.map (Pd.pd G))) = _
    rw [Pd.eqv, eqvAll_is xs ys]
    simp
  | [], _ :: _ => rfl
  | _ :: _, [] => rfl
theorem shapedL {xs : List α} (h : layAllB xs = true) (d : Pd.dep G α + 1 ≤ 64) : SeqAt.shaped (.list (xs.map (Pd.pd G))) = true := by
  unfold SeqAt.shaped
  have h1 : (PyData.list (xs.map (Pd.pd G))).canLay0 = true := layAll h
  have h2 : (PyData.list (xs.map (Pd.pd G))).depth ≤ 64 := by
    show PyData.depthAll (xs.map (Pd.pd G)) + 1 ≤ 64
    have := depAll (G := G) xs
    omega
  rw [h1, decide_eq_true h2]; rfl
variable {a b : Addr} {xs ys : List α} {i j : Nat} {σ : St} {ta tb : TE}
theorem ev_eqL (hS : Sep H L) (e1 : L[i]? = some (lstA a xs)) (e2 : L[j]? = some (lstA b ys)) (ha : Ev ta σ H (.ref a)) (hb : Ev tb σ H (.ref b)) (l1 : layAllB xs = true) (l2 : layAllB ys = true) (d : Pd.dep G α + 1 ≤ 64) :
    Ev (tOp (rEqD G.K) ta tb) σ H (.bl (decide (xs = ys))) := ev_op ha hb fun Q q => by
  obtain ⟨vs, s1, m1⟩ := hS.sq e1
  obtain ⟨ws, s2, m2⟩ := hS.sq e2
  refine ⟨_, _, .lst s1 (dpAll m1), .lst s2 (dpAll m2), shapedL l1 d, shapedL l2 d, ?_⟩
  have : PyData.eqv (.list (xs.map (Pd.pd G))) (.list (ys.map (Pd.pd G))) = decide (xs = ys) := eqvAll_is xs ys
  rw [this]; exact q
theorem r_eqL (hS : Sep H L) (e1 : L[i]? = some (lstA a xs)) (e2 : L[j]? = some (lstA b ys)) (l1 : layAllB xs = true) (l2 : layAllB ys = true) (d : Pd.dep G α + 1 ≤ 64) (Q : VK) (q : Q (.bl (decide (xs = ys))) H) : rEqD G.K (.ref a) (.ref b) H Q :=
  ev_eqL (σ := []) (ta := tC (.ref a)) (tb := tC (.ref b)) hS e1 e2 ev_c ev_c l1 l2 d Q q
theorem ev_neL (hS : Sep H L) (e1 : L[i]? = some (lstA a xs)) (e2 : L[j]? = some (lstA b ys)) (ha : Ev ta σ H (.ref a)) (hb : Ev tb σ H (.ref b)) (l1 : layAllB xs = true) (l2 : layAllB ys = true) (d : Pd.dep G α + 1 ≤ 64) :
    Ev (tOp (rNeD G.K) ta tb) σ H (.bl (!decide (xs = ys))) := ev_op ha hb fun Q q => by
  obtain ⟨vs, s1, m1⟩ := hS.sq e1
  obtain ⟨ws, s2, m2⟩ := hS.sq e2
  refine ⟨_, _, .lst s1 (dpAll m1), .lst s2 (dpAll m2), shapedL l1 d, shapedL l2 d, ?_⟩
  have : PyData.eqv (.list (xs.map (Pd.pd G))) (.list (ys.map (Pd.pd G))) = decide (xs = ys) := eqvAll_is xs ys
  rw [this]; exact q
theorem r_neL (hS : Sep H L) (e1 : L[i]? = some (lstA a xs)) (e2 : L[j]? = some (lstA b ys)) (l1 : layAllB xs = true) (l2 : layAllB ys = true) (d : Pd.dep G α + 1 ≤ 64) (Q : VK) (q : Q (.bl (!decide (xs = ys))) H) : rNeD G.K (.ref a) (.ref b) H Q :=
  ev_neL (σ := []) (ta := tC (.ref a)) (tb := tC (.ref b)) hS e1 e2 ev_c ev_c l1 l2 d Q q
end
/-! ### in, isinstance -/
section
variable {H : Hp} {L : List (Asn G)} {σ : St} {ta tb : TE} {a : Addr} {i : Nat}
theorem inV_str (x : Str) : ∀ ys : List Str, inV (.str x) (ys.map V.str) = decide (x ∈ ys)
  | [] => rfl
  | y :: ys => by
    have ih := inV_str x ys
    unfold inV at ih ⊢
    rw [List.map_cons, List.any_cons, ih]
    show ((y == x) || _) = _
    by_cases h : y = x
    · subst h; simp
    · have h' : ¬ x = y := fun e => h e.symm
      simp [h, h']
theorem flat_str : ∀ ys : List Str, (ys.map V.str).all flatV = true
  | [] => rfl
  | y :: ys => by rw [List.map_cons, List.all_cons, flat_str ys]; rfl
theorem ev_inL {x : Str} {ys : List Str} (hS : Sep H L) (e : L[i]? = some (lstA a ys)) (ha : Ev ta σ H (.str x)) (hb : Ev tb σ H (.ref a)) : Ev (tOp (rIn G.K false) ta tb) σ H (.bl (decide (x ∈ ys))) := ev_op ha hb fun Q q =>
  ⟨a, ys.map V.str, rfl, .inl (hS.sqF e), rfl, flat_str ys, by
    show Q (.bl (inV (.str x) (ys.map V.str))) H
    rw [inV_str]; exact q⟩
theorem ev_niL {x : Str} {ys : List Str} (hS : Sep H L) (e : L[i]? = some (lstA a ys)) (ha : Ev ta σ H (.str x)) (hb : Ev tb σ H (.ref a)) : Ev (tOp (rIn G.K true) ta tb) σ H (.bl (!decide (x ∈ ys))) := ev_op ha hb fun Q q =>
  ⟨a, ys.map V.str, rfl, .inl (hS.sqF e), rfl, flat_str ys, by
    show Q (.bl (!inV (.str x) (ys.map V.str))) H
    rw [inV_str]; exact q⟩
theorem ev_isi {x : V} {T U : String} {b : Bool} (ha : Ev ta σ H x) (hb : Ev tb σ H (.ty U)) (t : TyX G.K H x (.type T)) (e : kitB T U = some b) : Ev (tCB (rIsi G.K) (tCons ta (tCons tb tNil))) σ H (.bl b) :=
  ev_cb (ea_cons ha (ea_cons hb ea_nil)) fun Q q => ⟨x, .ty U, _, _, b, rfl, .ty U, t, kit_ty e, q⟩
theorem ty_lst {α : Type} [Im G α] {xs : List α} (hS : Sep H L) (e : L[i]? = some (lstA a xs)) : TyX G.K H (.ref a) (.type "list") := by
  obtain ⟨vs, h, _⟩ := hS.lst e
  exact .base (.lst h)
theorem ty_dict {κ β : Type} [DecidableEq κ] [Kx κ] [Im G β] {xs : List (κ × β)} (hS : Sep H L) (e : L[i]? = some (dictA a xs)) : TyX G.K H (.ref a) (.type "dict") := by
  obtain ⟨vs, h, _⟩ := hS.dict e
  exact .base (.dK h)
end
end Ml

namespace Ml
open PySem L2
variable {G : Gx}
section
variable {σ σ' : St} {H : Hp} {L L' M : List (Asn G)} {D : Ends} {Q : VK} {te : TE} {tt : TT} {tb : TS} {α β τ ρ : Type} {i : Nat} {v : V} {vs : List Nat}
theorem c_gN {P : St → Hp → Prop} (e : σ.set i (some v) = σ') (h : P σ' H) : gName i v σ H P := by
  show P (σ.set i (some v)) H
  rw [e]; exact h
theorem c_gLc {P : Bool → Hp → Prop} (e : (wipe σ vs).set i (some v) = σ') (hw : wipe σ' vs = wipe σ vs) (h : tt σ' H P) : gName i v (wipe σ vs) H fun σ2 H2 => wipe σ2 vs = wipe σ vs ∧ tt σ2 H2 P := by
  show wipe ((wipe σ vs).set i (some v)) vs = wipe σ vs ∧ tt ((wipe σ vs).set i (some v)) H P
  rw [e]; exact ⟨hw, h⟩
theorem c_yes {A B : Hp → Prop} (h : A H) : tYes σ H fun b H3 => if b = true then A H3 else B H3 := h
theorem lc_app [Im G β] {Dr : Addr} {ys : List β} {y : β} {u : V} (hS : Sep H (lstA Dr ys :: M)) (hu : Im.im G H u y) : ∃ acc, H Dr = some (.lst acc) ∧ acc.length = ys.length ∧ Sep (upd H Dr (.lst (acc ++ [u]))) (lstA Dr (ys ++ [y]) :: M) := by
  obtain ⟨acc, h, m⟩ := hS.lst (i := 0) rfl
  exact ⟨acc, h, m.len, hS.putL (i := 0) rfl (m.app (vs := acc) (ws := [u]) ⟨hu, True.intro⟩)⟩
theorem st_nx (h : D.nx σ H) : tNext D σ H := h
def sq (t : TS) (D : Ends) : Ends := { D with nx := t D }
theorem f_seq {t1 t2 : TS} (h : t1 (sq t2 D) σ H) : tSeq t1 t2 D σ H := h
theorem sq_nx {t2 : TS} (h : t2 D σ H) : (sq t2 D).nx σ H := h
def forK (g : TG) (tb : TS) (D : Ends) (σ : L2.St) : It → Hp → Prop := fun J H1 => ∃ W : Nat → Nat → L2.St → Hp → Prop, (∃ m, W 0 m σ H1) ∧ ∀ i m σ H, W i m σ H →
  (J.stop i H ∧ D.nx σ H) ∨ (J.go i H ∧ ∃ N : L2.St → Hp → Prop, (∀ σ' H', N σ' H' → ∃ m', m' < m ∧ W (i + 1) m' σ' H') ∧ ∀ x H', J.yld i H x H' → g x σ H' fun σ2 H2 => tb { D with nx := N, ct := N, bk := D.nx } σ2 H2)
def loopD (D : Ends) (N B : L2.St → Hp → Prop) : Ends := { D with nx := N, ct := N, bk := B }
theorem c_for {wi : TI} {g : TG} (h : wi σ H (forK g tb D σ)) : tFor wi g tb D σ H := h
def lcK (g : TG) (tt : TT) (te : TE) (vs : List Nat) (σ : L2.St) (Q : VK) : It → Hp → Prop := fun J H1 => ∀ D, H1 D = none → ∃ W : Nat → Nat → Hp → Prop, (∃ m, W 0 m (upd H1 D (.lst []))) ∧ ∀ i m H, W i m H →
  (J.stop i H ∧ Q (.ref D) H) ∨ (J.go i H ∧ ∃ Nx : Hp → Prop, (∀ H', Nx H' → ∃ m', m' < m ∧ W (i + 1) m' H') ∧ ∀ x H', J.yld i H x H' → g x (wipe σ vs) H' fun σ2 H2 => wipe σ2 vs = wipe σ vs ∧ tt σ2 H2 fun b H3 =>
    if b = true then te σ2 H3 fun y H4 => ∃ acc, H4 D = some (.lst acc) ∧ acc.length < sizeLine ∧ Nx (upd H4 D (.lst (acc ++ [y]))) else Nx H3)
theorem c_lc {wi : TI} {g : TG} (h : wi σ H (lcK g tt te vs σ Q)) : tLc wi g tt te vs σ H Q := h
def rng1K (R : It → Hp → Prop) : List V → Hp → Prop := fun vs H1 => ∃ j : Int, vs = [.int j] ∧ -(2 ^ 62) ≤ j ∧ j < 2 ^ 62 ∧ R (Itr 0 j.toNat) H1
def rng2K (R : It → Hp → Prop) : List V → Hp → Prop := fun vs H1 => ∃ i j : Int, vs = [.int i, .int j] ∧ (-(2 ^ 62) ≤ i ∧ i < 2 ^ 62 ∧ -(2 ^ 62) ≤ j ∧ j < 2 ^ 62) ∧ R (Itr i (j - i).toNat) H1
def ilK (K : PySem.W.Frag) (R : It → Hp → Prop) : VK := fun x H1 => ∃ a, x = .ref a ∧ (∃ xs, SqL K H1 a xs) ∧ R (Itl K a) H1
def isK (R : It → Hp → Prop) : VK := fun v H1 => ∃ x, v = .str x ∧ R (Its x) H1
theorem c_rng1 {ta : TA} {R : It → Hp → Prop} (h : ta σ H (rng1K R)) : iRng1 ta σ H R := h
theorem c_rng2 {ta : TA} {R : It → Hp → Prop} (h : ta σ H (rng2K R)) : iRng2 ta σ H R := h
theorem c_il {K : PySem.W.Frag} {R : It → Hp → Prop} (h : te σ H (ilK K R)) : iList K te σ H R := h
theorem c_is {R : It → Hp → Prop} (h : te σ H (isK R)) : iStr te σ H R := h
theorem k_rng1 {R : It → Hp → Prop} {j : Int} (h1 : -(2 ^ 62) ≤ j) (h2 : j < 2 ^ 62) (h : R (Itr 0 j.toNat) H) : rng1K R [.int j] H := ⟨j, rfl, h1, h2, h⟩
theorem k_rng2 {R : It → Hp → Prop} {i j : Int} (h1 : -(2 ^ 62) ≤ i) (h2 : i < 2 ^ 62) (h3 : -(2 ^ 62) ≤ j) (h4 : j < 2 ^ 62) (h : R (Itr i (j - i).toNat) H) : rng2K R [.int i, .int j] H := ⟨i, j, rfl, ⟨h1, h2, h3, h4⟩, h⟩
theorem k_il [Im G α] {a : Addr} {xs : List α} {R : It → Hp → Prop} (hS : Sep H L) (e : L[i]? = some (lstA a xs)) (h : R (Itl G.K a) H) : ilK G.K R (.ref a) H := by
  obtain ⟨vs, s, _⟩ := hS.sq e
  exact ⟨a, rfl, ⟨vs, s⟩, h⟩
theorem k_is {z : Str} {R : It → Hp → Prop} (h : R (Its z) H) : isK R (.str z) H := ⟨z, rfl, h⟩
/-- for .. in .. -/
theorem k_for {J : It} {g : TG} {im : Hp → V → α → Prop} {xs : List α} {f : τ → α → R τ} {rest : τ → R ρ} {q : ρ → Prop} {e : Exc → Prop} {s : τ} (I : τ → L2.St → Hp → Prop)
    (w : ∀ s, Wk J (I s) im xs) (h0 : I s σ H) (hm : R.wp ((forR f xs s).bind rest) q e)
    (turn : ∀ (s : τ) (x : α) (v : V) (σ : L2.St) (H : Hp) (q : τ → Prop) (N : L2.St → Hp → Prop), I s σ H → im H v x → R.wp (f s x) q e → (∀ s' σ' H', q s' → I s' σ' H' → N σ' H') → g v σ H fun σ2 H2 => tb (loopD D N D.nx) σ2 H2)
    (done : ∀ s σ H, R.wp (rest s) q e → I s σ H → D.nx σ H) : forK g tb D σ J H :=
  for_walk (I := I) w h0 (R.wp_bind hm) turn done
theorem lp_nx {N B : L2.St → Hp → Prop} (h : N σ H) : (loopD D N B).nx σ H := h
theorem lp_ct {N B : L2.St → Hp → Prop} (h : N σ H) : tCont (loopD D N B) σ H := h
theorem lp_bk {N B : L2.St → Hp → Prop} (h : B σ H) : tBreak (loopD D N B) σ H := h
/-- a comprehension over owned things -/
theorem lc_sep [Im G β] {J : It} {im : Hp → V → α → Prop} {xs : List α} {f : τ → α → R (τ × Option β)} {rest : τ × List β → R ρ} {q : ρ → Prop} {e : Exc → Prop} {s : τ} (M : τ → List (Asn G))
    (hS : Sep H (M s)) (w : ∀ (Dr : Addr) (s : τ) (ys : List β), Wk J (fun (_ : St) H => Sep H (lstA Dr ys :: M s)) im xs) (hl : xs.length ≤ sizeLine) (hm : R.wp ((compR f xs s).bind rest) q e)
    (turn : ∀ (Dr : Addr) (s : τ) (ys : List β) (x : α) (v : V) (H : Hp) (q : τ × Option β → Prop) (Nx : Hp → Prop), Sep H (lstA Dr ys :: M s) → im H v x → R.wp (f s x) q e →
      (∀ s' y u H', q (s', some y) → Im.im G H' u y → Sep H' (lstA Dr ys :: M s') → ∃ acc, H' Dr = some (.lst acc) ∧ acc.length < sizeLine ∧ Nx (upd H' Dr (.lst (acc ++ [u])))) → (∀ s' H', q (s', none) → Sep H' (lstA Dr ys :: M s') → Nx H') →
      gName i v (wipe σ vs) H fun σ2 H2 => wipe σ2 vs = wipe σ vs ∧ tt σ2 H2 fun b H3 => if b = true then te σ2 H3 fun y H4 => ∃ acc, H4 Dr = some (.lst acc) ∧ acc.length < sizeLine ∧ Nx (upd H4 Dr (.lst (acc ++ [y]))) else Nx H3)
    (done : ∀ (Dr : Addr) (t : τ × List β) H, R.wp (rest t) q e → Sep H (lstA Dr t.2 :: M t.1) → Q (.ref Dr) H) :
    lcK (gName i) tt te vs σ Q J H := fun Dr hD =>
  lc_walk (G := G) (I := fun Dr s ys H => Sep H (lstA Dr ys :: M s)) (im := im) (xs := xs) (f := f) (k := fun t => R.wp (rest t) q e) (e := e) (s := s) (w Dr)
    (hS.newL (vs := []) (xs := ([] : List β)) hD True.intro) (R.wp_bind hm) hl
    (fun s ys x v H q Nx hI hv hw _ k1 k2 => turn Dr s ys x v H q Nx hI hv hw k1 k2)
    (fun s ys y u H hI hu => lc_app hI hu)
    (fun s ys H hk hI => done Dr (s, ys) H hk hI)
theorem c_aug {ti : TIp} {x : V} (e : σ[i]? = some (some x)) (h : te σ H fun y H1 => ti x y H1 fun z H2 => D.nx (σ.set i (some z)) H2) : tAug i te ti D σ H := ⟨x, e, h⟩
theorem c_asgS {to ti : TE} {t : TSet} (h : te σ H fun v H1 => to σ H1 fun o H2 => ti σ H2 fun j H3 => t o j v H3 fun H4 => D.nx σ H4) : tAsg te (gSub to ti t) D σ H := h
def ipS : TIp := fun x y H Q => ∃ i j, x = .str i ∧ y = .str j ∧ i.length + j.length ≤ sizeLine ∧ Q (.str (i ++ j)) H
theorem ip_catS {X : Cx} : PIp X .Add ipS := iop_add_str
theorem mt_joinS {X : Cx} : MtR X "str.join" (rJoin X.K) := mt_join
theorem m2 {X : Cx} {o : Expr} {m : Str} {apos : Pos} {e f : Expr} {cpos : Pos} (base : attributeBase o m X.env (eval o X.env) = eval o X.env := by rfl)
  (few : ((backTo cpos (starEach [e, f] X.env)).all (fun x => !x.1) && (backToKw cpos (keywordEach [] X.env)).all (fun x => x.1.isSome)
    && decide (([e, f] : List Expr).length + ([] : List Keyword).length + (if ([] : List Keyword).isEmpty then 0 else 1) < 30)) = true := by rfl)
  (line : (apos.endLine == cpos.line) = true := by rfl) (trees : backTo cpos (starEach [e, f] X.env) = [(false, eval e X.env), (false, eval f X.env)] := by rfl) : M2 X o m apos e f cpos := ⟨base, few, line, trees⟩
def ixR {α : Type} (xs : List α) (i : Int) : R Nat := match ixN xs.length i with
  | some j => .ok j
  | none => .bad
theorem wp_ix {xs : List α} {i : Int} {f : Nat → R ρ} {q : ρ → Prop} {e : Exc → Prop} (h : R.wp ((ixR xs i).bind f) q e) : ∃ j, ixN xs.length i = some j ∧ R.wp (f j) q e := by
  unfold ixR at h
  cases c : ixN xs.length i with
  | some x => rw [c] at h; exact ⟨x, rfl, h⟩
  | none => rw [c] at h; exact h.elim
theorem r_ixSq {K : PySem.W.Frag} {p : Addr} {ws : List V} {i : Int} (hs : SqL K H p ws) (e : atI ws i = some v) (Q : VK) (q : Q v H) : rIxL K (.ref p) (.int i) H Q := ⟨p, ws, i, v, rfl, rfl, hs, e, q⟩
theorem ev_lenLm {K : PySem.W.Frag} {ta : TE} {p : Addr} {xs : List α} {f : α → V} (ha : Ev ta σ H (.ref p)) (hs : SqL K H p (xs.map f)) : Ev (tCB (rLenSq K) (tCons ta tNil)) σ H (.int xs.length) := by
  have := ev_lenL ha hs
  rw [List.length_map] at this
  exact this
theorem ev_m0 {r : V → List V → Hp → VK → Prop} {to : TE} {a : Str} (h1 : Ev to σ H (.str a)) (h : ∀ Q : VK, Q v H → r (.str a) [] H Q) : Ev (tM0 r to) σ H v := fun Q q => c_m0 h1 (h Q q)
theorem ev_m1 {r : V → List V → Hp → VK → Prop} {to ti : TE} {a : Str} {y : V} (h1 : Ev to σ H (.str a)) (h2 : Ev ti σ H y) (h : ∀ Q : VK, Q v H → r (.str a) [y] H Q) : Ev (tM1 r to ti) σ H v := fun Q q => c_m1 h1 (h2 _ (h Q q))
theorem k_lenL [Im G α] {a : Addr} {xs : List α} (hS : Sep H L) (e : L[i]? = some (lstA a xs)) (q : Q (.int xs.length) H) : rLenSq G.K [.ref a] H Q := by
  obtain ⟨vs, h, m⟩ := hS.sq e
  exact ⟨a, vs, rfl, .inl h, by rw [m.len]; exact q⟩
end
end Ml

namespace Ml
open PySem L2
variable {G : Gx}
/-! ### ends that stay folded -/
def andK (u : TT) (σ : St) (P : Bool → Hp → Prop) : Bool → Hp → Prop := fun c H => if c = true then u σ H P else P false H
def orK (u : TT) (σ : St) (P : Bool → Hp → Prop) : Bool → Hp → Prop := fun c H => if c = true then P true H else u σ H P
def notK (P : Bool → Hp → Prop) : Bool → Hp → Prop := fun c H => P (!c) H
def ifK (t1 t2 : TS) (D : Ends) (σ : St) : Bool → Hp → Prop := fun c H => if c = true then t1 D σ H else t2 D σ H
def ifE (ta tb : TE) (σ : St) (Q : VK) : Bool → Hp → Prop := fun c H => if c = true then ta σ H Q else tb σ H Q
/-- a value that is a Bool -/
def blK (P : Bool → Hp → Prop) : VK := fun x H => ∃ k, x = .bl k ∧ P k H
/-- a Bool as a value -/
def vK (Q : VK) : Bool → Hp → Prop := fun b H => Q (.bl b) H
def andVK (tb : TE) (σ : St) (Q : VK) : VK := fun x H => ∃ c, x = .bl c ∧ if c = true then tb σ H Q else Q (.bl false) H
def orVK (tb : TE) (σ : St) (Q : VK) : VK := fun x H => ∃ c, x = .bl c ∧ if c = true then Q (.bl true) H else tb σ H Q
def notVK (Q : VK) : VK := fun x H => ∃ c, x = .bl c ∧ Q (.bl (!c)) H
section
variable {σ : St} {H : Hp} {L : List (Asn G)} {D : Ends} {Q : VK} {P : Bool → Hp → Prop} {t u : TT} {t1 t2 : TS} {ta tb te : TE} {ρ τ : Type} {a b : Bool} {v w : V}
theorem f_and (h : t σ H (andK u σ P)) : tAnd t u σ H P := h
theorem f_or (h : t σ H (orK u σ P)) : tOr t u σ H P := h
theorem f_not (h : t σ H (notK P)) : tNot t σ H P := h
theorem f_if (h : t σ H (ifK t1 t2 D σ)) : tIfS t t1 t2 D σ H := h
theorem f_ifE (h : t σ H (ifE ta tb σ Q)) : tIf t ta tb σ H Q := h
theorem f_test (h : te σ H (blK P)) : tTest te σ H P := h
theorem f_B (h : te σ H (blK P)) : tB te σ H P := h
theorem f_bl (h : P b H) : blK P (.bl b) H := ⟨b, rfl, h⟩
theorem f_andV (h : ta σ H (andVK tb σ Q)) : tAndV ta tb σ H Q := h
theorem f_orV (h : ta σ H (orVK tb σ Q)) : tOrV ta tb σ H Q := h
theorem f_notV (h : ta σ H (notVK Q)) : tNotV ta σ H Q := h
theorem f_nV (h : Q (.bl (!b)) H) : notVK Q (.bl b) H := ⟨b, rfl, h⟩
theorem f_nK (h : P (!b) H) : notK P b H := h
/-! known answers -/
theorem andK_t (h : u σ H P) : andK u σ P true H := h
theorem andK_f (h : P false H) : andK u σ P false H := h
theorem orK_f (h : u σ H P) : orK u σ P false H := h
theorem orK_t (h : P true H) : orK u σ P true H := h
theorem andVK_t (h : tb σ H Q) : andVK tb σ Q (.bl true) H := ⟨true, rfl, h⟩
theorem andVK_f (h : Q (.bl false) H) : andVK tb σ Q (.bl false) H := ⟨false, rfl, h⟩
theorem orVK_f (h : tb σ H Q) : orVK tb σ Q (.bl false) H := ⟨false, rfl, h⟩
theorem orVK_t (h : Q (.bl true) H) : orVK tb σ Q (.bl true) H := ⟨true, rfl, h⟩
theorem ifK_t (h : t1 D σ H) : ifK t1 t2 D σ true H := h
theorem ifK_f (h : t2 D σ H) : ifK t1 t2 D σ false H := h
theorem ifE_t (h : ta σ H Q) : ifE ta tb σ Q true H := h
theorem ifE_f (h : tb σ H Q) : ifE ta tb σ Q false H := h
/-! two ways, joined behind -/
variable {A B : R Bool} {rest : Bool → R ρ} {q : ρ → Prop} {e : Exc → Prop}
theorem andK_J (hm : R.wp ((if a = true then A else .ok false).bind rest) q e) (hS : Sep H L)
    (h1 : a = true → ∀ q' : Bool → Prop, R.wp A q' e → (∀ b H', q' b → Sep H' L → P b H') → u σ H P) (k : ∀ b H', R.wp (rest b) q e → Sep H' L → P b H') : andK u σ P a H := by
  have hm' := R.wp_bind hm
  cases a with
  | true => exact h1 rfl _ hm' k
  | false => exact k false H hm' hS
theorem orK_J (hm : R.wp ((if a = true then .ok true else A).bind rest) q e) (hS : Sep H L)
    (h1 : a = false → ∀ q' : Bool → Prop, R.wp A q' e → (∀ b H', q' b → Sep H' L → P b H') → u σ H P) (k : ∀ b H', R.wp (rest b) q e → Sep H' L → P b H') : orK u σ P a H := by
  have hm' := R.wp_bind hm
  cases a with
  | true => exact k true H hm' hS
  | false => exact h1 rfl _ hm' k
theorem andVK_J (hm : R.wp ((if a = true then A else .ok false).bind rest) q e) (hS : Sep H L)
    (h1 : a = true → ∀ q' : Bool → Prop, R.wp A q' e → (∀ b H', q' b → Sep H' L → Q (.bl b) H') → tb σ H Q) (k : ∀ b H', R.wp (rest b) q e → Sep H' L → Q (.bl b) H') : andVK tb σ Q (.bl a) H := by
  have hm' := R.wp_bind hm
  refine ⟨a, rfl, ?_⟩
  cases a with
  | true => exact h1 rfl _ hm' k
  | false => exact k false H hm' hS
theorem orVK_J (hm : R.wp ((if a = true then .ok true else A).bind rest) q e) (hS : Sep H L)
    (h1 : a = false → ∀ q' : Bool → Prop, R.wp A q' e → (∀ b H', q' b → Sep H' L → Q (.bl b) H') → tb σ H Q) (k : ∀ b H', R.wp (rest b) q e → Sep H' L → Q (.bl b) H') : orVK tb σ Q (.bl a) H := by
  have hm' := R.wp_bind hm
  refine ⟨a, rfl, ?_⟩
  cases a with
  | true => exact k true H hm' hS
  | false => exact h1 rfl _ hm' k
theorem ifK_2 (h1 : a = true → t1 D σ H) (h2 : a = false → t2 D σ H) : ifK t1 t2 D σ a H := by
  cases a with
  | true => exact h1 rfl
  | false => exact h2 rfl
theorem ifK_J {A B : R τ} {rest : τ → R ρ} (J : τ → St → Hp → Prop) (hm : R.wp ((if a = true then A else B).bind rest) q e)
    (h1 : a = true → ∀ q' : τ → Prop, R.wp A q' e → (∀ s σ' H', q' s → J s σ' H' → D.nx σ' H') → t1 D σ H)
    (h2 : a = false → ∀ q' : τ → Prop, R.wp B q' e → (∀ s σ' H', q' s → J s σ' H' → D.nx σ' H') → t2 D σ H)
    (k : ∀ s σ' H', R.wp (rest s) q e → J s σ' H' → D.nx σ' H') : ifK t1 t2 D σ a H := by
  have hm' := R.wp_bind hm
  cases a with
  | true => exact h1 rfl _ hm' k
  | false => exact h2 rfl _ hm' k
/-! a name for what was reckoned -/
theorem wp_let {α : Type} {x : α} {f : α → R ρ} (hm : R.wp ((R.ok x).bind f) q e) : ∃ y, x = y ∧ R.wp (f y) q e := ⟨x, rfl, hm⟩
theorem ev_is (h : Ev te σ H v) (e : v = w) : Ev te σ H w := by rw [← e]; exact h
theorem q_is (e : v = w) (h : Q w H) : Q v H := by rw [e]; exact h
theorem n_is {i : Nat} (e : v = w) (h : D.nx (σ.set i (some w)) H) : D.nx (σ.set i (some v)) H := by rw [e]; exact h
theorem p_is (e : a = b) (h : P b H) : P a H := by rw [e]; exact h
/-- [elt ..] with a test: the two ways -/
theorem lc_if {A B : Prop} (h1 : a = true → A) (h2 : a = false → B) : if a = true then A else B := by
  cases a with
  | true => exact h1 rfl
  | false => exact h2 rfl
end
end Ml

namespace Ml
open PySem L2
/-! ### the layer's rules with the written part by its name -/
section
variable {X : Cx} (K : PySem.W.Frag) (hK : X.K = K := by rfl)
include hK
theorem ix_listK : IxR X (rIxL K) := by subst hK; exact ix_list
theorem ix_tupK : IxR X (rIxT K) := by subst hK; exact ix_tup
theorem sl_listK : SlR X (rSlL K) := by subst hK; exact sl_list
theorem lenSqK : CallR X (.builtin "len") (rLenSq K) := by subst hK; exact call_lenSq
theorem listSqK : CallR X (.type "list") (rListSq K) := by subst hK; exact call_listSq
theorem isiK : CallR X (.builtin "isinstance") (rIsi K) := by subst hK; exact call_isi
theorem inSqK : OpR X (compareOp .In) (rIn K false) := by subst hK; exact op_in_seq
theorem niSqK : OpR X (compareOp .NotIn) (rIn K true) := by subst hK; exact op_notIn_seq
theorem joinK : MtR X "str.join" (rJoin K) := by subst hK; exact mt_joinS
end
theorem eqDK {X : Cx} (K : PySem.W.Frag) (hu : X.A.units + 64 < cLine) (hK : X.K = K := by rfl) : OpR X (compareOp .Eq) (rEqD K) := by subst hK; exact op_eqD hu
theorem neDK {X : Cx} (K : PySem.W.Frag) (hu : X.A.units + 64 < cLine) (hK : X.K = K := by rfl) : OpR X (compareOp .NotEq) (rNeD K) := by subst hK; exact op_neD hu
theorem allK {X : Cx} (K : PySem.W.Frag) (hc : X.calm = true) (hK : X.K = K := by rfl) : CallR X (.builtin "all") (rAll K) := by subst hK; exact cr_all hc
theorem anyK {X : Cx} (K : PySem.W.Frag) (hc : X.calm = true) (hK : X.K = K := by rfl) : CallR X (.builtin "any") (rAny K) := by subst hK; exact cr_any hc
theorem pi_listK {X : Cx} {tg e : Expr} {tl : TE} (K : PySem.W.Frag) (h : PE X e tl) (hK : X.K = K := by rfl) : PI X tg e (iList K tl) := by subst hK; exact pi_list h
section
variable {X : Cx} {T : String} {name : Str} {id : String} {r : V → List V → Hp → VK → Prop} {o e : Expr} {es : List Expr} {to : TE} {t : TA} {apos cpos : Pos}
theorem pe_bm0K (K : PySem.W.Frag) (pa : PlainAttrs T) (slot : Slot T name id) (hty : typeOf (.builtin id) = pure (.type "method_descriptor")) (hm : MtR X id r) (ho : PE X o to) (hK : X.K = K := by rfl)
    (hbase : attributeBase o name X.env (eval o X.env) = eval o X.env := by rfl) (hline : (apos.endLine == cpos.line) = true := by rfl) :
    PE X (.Call (.Attribute o name apos) [] [] cpos) (tBM0 K T r to) := by subst hK; exact pe_bm0 pa slot hty hm ho hbase hline
theorem pe_bmK (K : PySem.W.Frag) (pa : PlainAttrs T) (slot : Slot T name id) (hty : typeOf (.builtin id) = pure (.type "method_descriptor")) (hm : MtR X id r) (ho : PE X o to) (ha : PA X (e :: es) t) (hK : X.K = K := by rfl)
    (hbase : attributeBase o name X.env (eval o X.env) = eval o X.env := by rfl)
    (hfew : ((backTo cpos (starEach (e :: es) X.env)).all (fun x => !x.1) && (backToKw cpos (keywordEach [] X.env)).all (fun x => x.1.isSome)
      && decide ((e :: es).length + ([] : List Keyword).length + (if ([] : List Keyword).isEmpty then 0 else 1) < 30)) = true := by rfl)
    (hline : (apos.endLine == cpos.line) = true := by rfl) (hs : starEach (e :: es) X.env = (false, eval e X.env) :: starEach es X.env := by rfl) (hplain : (backTo cpos (starEach es X.env)).any (·.1) = false := by rfl) :
    PE X (.Call (.Attribute o name apos) (e :: es) [] cpos) (tBM K T r to t) := by subst hK; exact pe_bm pa slot hty hm ho ha hbase hfew hline hs hplain
end
end Ml
namespace Ml
open PySem L2
theorem im_of_only {G : Gx} {H : Hp} {a : Addr} {ns : List Int} (hO : Only H) (hS : SqL G.K H a (ns.map V.int)) : Im.im G H (.ref a) (⟨ns⟩ : Script) := by
  refine ⟨a, rfl, ?_⟩
  rcases hS with (h | ⟨o, h⟩) | h
  · rcases hO a with z | ⟨o, xs, z⟩
    · rw [h] at z; cases z
    · rw [h] at z; cases z
  · exact .inl ⟨o, h⟩
  · exact .inr h
end Ml

namespace Ml
open PySem L2
/-! ### xs[i] += y -/
def rGetL (o i : V) (H : Hp) (Q : VK) : Prop := ∃ p xs k v, o = .ref p ∧ i = .int k ∧ H p = some (.lst xs) ∧ 0 ≤ k ∧ k < 2 ^ 63 ∧ xs[k.toNat]? = some v ∧ Q v H
theorem get_list {X : Cx} : PGet X rGetL := by
  intro pins s σ H o i ov iv Q hI ho hi ⟨p, xs, k, v, e1, e2, hp, h0, h1, hx, hq⟩
  subst e1; subst e2
  cases ho; obtain ⟨t, rfl⟩ := hi
  have := hI.hok p _ hp
  simp only [ObjOk] at this
  obtain ⟨_, its, n, hv, hg⟩ := this
  have hw : ∃ u, its.toArray[k.toNat]? = some u ∧ RelV v u := by
    obtain ⟨u, hu, hr⟩ := Vals.get hv hx
    exact ⟨u, by simpa using hu, hr⟩
  obtain ⟨u, hu, hr⟩ := hw
  exact wpAny_getItem_list ⟨_, hg, rfl, n, rfl⟩ h0 h1 hu ⟨v, H, hI, hr, hq⟩
variable {G : Gx} {σ : St} {H : Hp} {L : List (Asn G)} {D : Ends} {Q : VK} {α ρ : Type} {v : V}
theorem c_augS {to ti te : TE} {tget : V → V → Hp → VK → Prop} {tip : TIp} {tset : TSet} (h : to σ H fun o H1 => ti σ H1 fun i H2 => tget o i H2 fun x H3 => te σ H3 fun y H4 => tip x y H4 fun z H5 => tset o i z H5 fun H6 => D.nx σ H6) :
    tAugS to ti te tget tip tset D σ H := h
/-- the item to be made anew -/
def ixA (xs : List α) (i : Int) : R (Nat × α) := if 0 ≤ i ∧ i < 2 ^ 63 then match xs[i.toNat]? with
  | some x => .ok (i.toNat, x)
  | none => .bad else .bad
theorem wp_ixA {xs : List α} {i : Int} {f : Nat × α → R ρ} {q : ρ → Prop} {e : Exc → Prop} (h : R.wp ((ixA xs i).bind f) q e) :
    ∃ j x, (0 ≤ i ∧ i < 2 ^ 63 ∧ i.toNat = j ∧ xs[i.toNat]? = some x ∧ ixN xs.length i = some j) ∧ R.wp (f (j, x)) q e := by
  unfold ixA at h
  by_cases c : 0 ≤ i ∧ i < 2 ^ 63
  · rw [if_pos c] at h
    cases d : xs[i.toNat]? with
    | some x =>
      rw [d] at h
      refine ⟨i.toNat, x, ⟨c.1, c.2, rfl, rfl, ?_⟩, h⟩
      have := (List.getElem?_eq_some_iff.mp d).1
      unfold ixN
      rw [if_pos c.1, if_pos (by omega)]
    | none => rw [d] at h; exact h.elim
  · rw [if_neg c] at h; exact h.elim
theorem k_getL [Fv G α] {n : Nat} {a : Addr} {xs : List α} {x : α} {i : Int} {j : Nat} (hS : Sep H L) (e : L[n]? = some (lstA a xs)) (h : 0 ≤ i ∧ i < 2 ^ 63 ∧ i.toNat = j ∧ xs[i.toNat]? = some x ∧ ixN xs.length i = some j)
    (k : Q (Fv.enc G x) H) : rGetL (.ref a) (.int i) H Q := by
  obtain ⟨vs, h1, m⟩ := hS.lst e
  obtain ⟨u, hu, hm⟩ := m.get h.2.2.2.1
  rw [Fv.im_iff] at hm
  subst hm
  exact ⟨a, vs, i, _, rfl, rfl, h1, h.1, h.2.1, hu, k⟩
theorem r_mod {i j : Int} (c : 0 < j) (q : Q (.int (i % j)) H) : rI (fun _ j => 0 < j) (fun i j => V.int (i % j)) (.int i) (.int j) H Q := ⟨i, j, rfl, rfl, c, q⟩
theorem r_mul {i j : Int} (c : CMul i j) (q : Q (.int (i * j)) H) : rI CMul (fun i j => V.int (i * j)) (.int i) (.int j) H Q := ⟨i, j, rfl, rfl, c, q⟩
theorem r_fdiv {i j : Int} (c : 0 < j ∧ j < 1073741824) (q : Q (.int (i / j)) H) : rI CDiv (fun i j => V.int (i / j)) (.int i) (.int j) H Q := ⟨i, j, rfl, rfl, c, q⟩
/-! ### the place of a text in a text -/
def rIndexS : V → List V → Hp → VK → Prop := fun x xs H Q => ∃ a b i rest, x = .str a ∧ xs = [.str b] ∧ Builtin.Str.occurrences a b 0 a.length 1 = i :: rest ∧ Q (.int i) H
theorem mt_sindexR {X : Cx} : MtR X "str.index" rIndexS := mt_sindex
def indexR (a b : Str) : R Int := match Builtin.Str.occurrences a b 0 a.length 1 with
  | i :: _ => .ok i
  | [] => .bad
theorem wp_index {a b : Str} {f : Int → R ρ} {q : ρ → Prop} {e : Exc → Prop} (h : R.wp ((indexR a b).bind f) q e) :
    ∃ i, (∃ (j : Nat) (rest : List Nat), Builtin.Str.occurrences a b 0 a.length 1 = j :: rest ∧ i = (j : Int)) ∧ R.wp (f i) q e := by
  unfold indexR at h
  cases c : Builtin.Str.occurrences a b 0 a.length 1 with
  | cons x r => rw [c] at h; exact ⟨x, ⟨x, r, rfl, rfl⟩, h⟩
  | nil => rw [c] at h; exact h.elim
theorem ev_sindex {to ti : TE} {a b : Str} {i : Int} (h1 : Ev to σ H (.str a)) (h2 : Ev ti σ H (.str b)) (h : ∃ (j : Nat) (rest : List Nat), Builtin.Str.occurrences a b 0 a.length 1 = j :: rest ∧ i = (j : Int)) : Ev (tM1 rIndexS to ti) σ H (.int i) := by
  obtain ⟨j, rest, h3, rfl⟩ := h
  exact ev_m1 h1 h2 fun _ q => ⟨a, b, j, rest, rfl, rfl, h3, q⟩
end Ml


namespace Ml
open PySem L2
/-! ### a list is locked for good: from then on it is a value -/
def fzK (Q : VK) : VK := fun v H => Q v H ∨ ∃ a u, v = .ref a ∧ H a = some u ∧ Mut (some u) ∧ ∀ o, Q v (upd H a (.frz o u))
def tFz (t : TE) : TE := fun σ H Q => t σ H (fzK Q)
theorem pe_fz {X : Cx} {e : Expr} {t : TE} (h : PE X e t) : PE X e (tFz t) := by
  refine ⟨fun pins s σ H Q I hw => ?_⟩
  refine thn (h.run pins s σ H _ I hw) fun v s1 ⟨x, H1, I1, r, q⟩ => ?_
  rcases q with q | ⟨a, u, e, ha, mu, q⟩
  · exact ⟨x, H1, I1, r, q⟩
  · obtain ⟨od, I2⟩ := I1.lock ha mu
    exact ⟨x, _, I2, r, q od⟩
variable {G : Gx}
section
variable {σ : St} {H : Hp} {L : List (Asn G)} {te : TE} {Q : VK} {v : V} {α : Type}
theorem c_fz (h : te σ H (fzK Q)) : tFz te σ H Q := h
theorem fz_no (h : Q v H) : fzK Q v H := .inl h
theorem ev_fz (h : Ev te σ H v) : Ev (tFz te) σ H v := fun Q q => h _ (.inl q)
/-- a locked list: a value -/
instance imList [Im G α] : Im G (List α) := ⟨fun H v xs => ∃ a vs, v = .ref a ∧ (∃ o, H a = some (.frz o (.lst vs))) ∧ imL (G := G) H vs xs,
  fun ⟨a, vs, e, ⟨o, h⟩, m⟩ s => ⟨a, vs, e, ⟨o, s.1 a _ h rfl⟩, m.st s⟩⟩
theorem imPl [Im G α] {a : Addr} {xs : List α} (h : Im.im G H (.ref a) xs) : ∃ vs, SqL G.K H a vs ∧ imL (G := G) H vs xs := by
  obtain ⟨b, vs, e, ⟨o, h⟩, m⟩ := h
  cases e
  exact ⟨vs, .inl (.inr ⟨o, h⟩), m⟩
theorem imPlF [Fv G α] {a : Addr} {xs : List α} (h : Im.im G H (.ref a) xs) : SqL G.K H a (xs.map (Fv.enc G)) := by
  obtain ⟨vs, e, m⟩ := imPl h
  rw [imL.flat.mp m] at e
  exact e
/-- the i-th thing is dropped, the rest stays while its cell changes -/
theorem Sep.drop1 {a : Addr} {o o' : HO} {M : List (Asn G)} (h : Sep H (cell a o :: M)) (kd : kindOf o' = kindOf o) : Sep (upd H a o') M := by
  obtain ⟨fp, ⟨f1, f2, e, ⟨e1, ho⟩, k⟩, h2, h3⟩ := h
  subst e1; subst e
  have nd : ¬ a ∈ f2 := (List.nodup_cons.mp h2).1
  obtain ⟨u, hu, nu⟩ := h3 a (by simp)
  have eu : u = o := by rw [ho] at hu; cases hu; rfl
  have st : Stab G H (upd H a o') := stab_put hu nu (by rw [eu]; exact kd)
  refine ⟨f2, k.loc (fun b m => upd_ne fun z => nd (z ▸ m)) st, (List.nodup_cons.mp h2).2, fun b m => ?_⟩
  obtain ⟨x, hx, nx⟩ := h3 b (by simp [m])
  exact ⟨x, by rw [upd_ne (fun z => nd (by rw [← z]; exact m))]; exact hx, nx⟩
theorem fz_yes [Im G α] {i : Nat} {a : Addr} {xs : List α} (hS : Sep H L) (e : L[i]? = some (lstA a xs)) (k : ∀ H', Sep H' (imA (.ref a) xs :: L.eraseIdx i) → Q (.ref a) H') : fzK Q (.ref a) H := by
  obtain ⟨vs, m, h1⟩ := hS.openL e
  have h0 := h1.getCell (get_set e)
  refine .inr ⟨a, .lst vs, rfl, h0, True.intro, fun o => k _ ?_⟩
  have h2 := h1.perm (pull_perm (get_set (y := cell (G := G) a (.lst vs)) e))
  have e3 : (L.set i (cell a (.lst vs))).eraseIdx i = L.eraseIdx i := by simp [List.eraseIdx_set_eq]
  rw [e3] at h2
  obtain ⟨fp, ⟨f1, f2, _, ⟨ef, _⟩, _⟩, nd0, nper⟩ := id h2
  have nu : per G (.lst vs) = false := rfl
  have st : Stab G H (upd H a (.frz o (.lst vs))) := stab_put h0 nu rfl
  have h4 := h2.drop1 (o' := .frz o (.lst vs)) rfl
  exact h4.addIm ⟨a, vs, rfl, ⟨o, upd_same⟩, m.st st⟩
end
/-! ### tuples -/
structure T3 (α β γ : Type) where
  a : α
  b : β
  c : γ
  deriving DecidableEq, Repr
structure T4 (α β γ δ : Type) where
  a : α
  b : β
  c : γ
  d : δ
  deriving DecidableEq, Repr
structure T5 (α β γ δ ε : Type) where
  a : α
  b : β
  c : γ
  d : δ
  e : ε
  deriving DecidableEq, Repr
structure T1 (α : Type) where
  a : α
  deriving DecidableEq, Repr
section
variable {α β γ δ ε : Type} [Im G α] [Im G β] [Im G γ] [Im G δ] [Im G ε] {H H' : Hp} {a : Addr} {u1 u2 u3 u4 u5 : V}
instance imT1 : Im G (T1 α) := ⟨fun H v x => ∃ a u1, v = .ref a ∧ H a = some (.tup [u1]) ∧ Im.im G H u1 x.a,
  fun ⟨a, u1, e, h, i1⟩ s => ⟨a, u1, e, s.1 a _ h rfl, Im.st i1 s⟩⟩
instance imT2 : Im G (α × β) := ⟨fun H v x => ∃ a u1 u2, v = .ref a ∧ H a = some (.tup [u1, u2]) ∧ Im.im G H u1 x.1 ∧ Im.im G H u2 x.2,
  fun ⟨a, u1, u2, e, h, i1, i2⟩ s => ⟨a, u1, u2, e, s.1 a _ h rfl, Im.st i1 s, Im.st i2 s⟩⟩
instance imT3 : Im G (T3 α β γ) := ⟨fun H v x => ∃ a u1 u2 u3, v = .ref a ∧ H a = some (.tup [u1, u2, u3]) ∧ Im.im G H u1 x.a ∧ Im.im G H u2 x.b ∧ Im.im G H u3 x.c,
  fun ⟨a, u1, u2, u3, e, h, i1, i2, i3⟩ s => ⟨a, u1, u2, u3, e, s.1 a _ h rfl, Im.st i1 s, Im.st i2 s, Im.st i3 s⟩⟩
instance imT4 : Im G (T4 α β γ δ) := ⟨fun H v x => ∃ a u1 u2 u3 u4, v = .ref a ∧ H a = some (.tup [u1, u2, u3, u4]) ∧ Im.im G H u1 x.a ∧ Im.im G H u2 x.b ∧ Im.im G H u3 x.c ∧ Im.im G H u4 x.d,
  fun ⟨a, u1, u2, u3, u4, e, h, i1, i2, i3, i4⟩ s => ⟨a, u1, u2, u3, u4, e, s.1 a _ h rfl, Im.st i1 s, Im.st i2 s, Im.st i3 s, Im.st i4 s⟩⟩
instance imT5 : Im G (T5 α β γ δ ε) := ⟨fun H v x => ∃ a u1 u2 u3 u4 u5, v = .ref a ∧ H a = some (.tup [u1, u2, u3, u4, u5]) ∧ Im.im G H u1 x.a ∧ Im.im G H u2 x.b ∧ Im.im G H u3 x.c ∧ Im.im G H u4 x.d ∧ Im.im G H u5 x.e,
  fun ⟨a, u1, u2, u3, u4, u5, e, h, i1, i2, i3, i4, i5⟩ s => ⟨a, u1, u2, u3, u4, u5, e, s.1 a _ h rfl, Im.st i1 s, Im.st i2 s, Im.st i3 s, Im.st i4 s, Im.st i5 s⟩⟩
theorem im1 {x : T1 α} (h : Im.im G H (.ref a) x) : ∃ u1, H a = some (.tup [u1]) ∧ Im.im G H u1 x.a := by
  obtain ⟨b, u1, e, h⟩ := h; cases e; exact ⟨u1, h⟩
theorem im2 {x : α × β} (h : Im.im G H (.ref a) x) : ∃ u1 u2, H a = some (.tup [u1, u2]) ∧ Im.im G H u1 x.1 ∧ Im.im G H u2 x.2 := by
  obtain ⟨b, u1, u2, e, h⟩ := h; cases e; exact ⟨u1, u2, h⟩
theorem im3 {x : T3 α β γ} (h : Im.im G H (.ref a) x) : ∃ u1 u2 u3, H a = some (.tup [u1, u2, u3]) ∧ Im.im G H u1 x.a ∧ Im.im G H u2 x.b ∧ Im.im G H u3 x.c := by
  obtain ⟨b, u1, u2, u3, e, h⟩ := h; cases e; exact ⟨u1, u2, u3, h⟩
theorem im4 {x : T4 α β γ δ} (h : Im.im G H (.ref a) x) : ∃ u1 u2 u3 u4, H a = some (.tup [u1, u2, u3, u4]) ∧ Im.im G H u1 x.a ∧ Im.im G H u2 x.b ∧ Im.im G H u3 x.c ∧ Im.im G H u4 x.d := by
  obtain ⟨b, u1, u2, u3, u4, e, h⟩ := h; cases e; exact ⟨u1, u2, u3, u4, h⟩
theorem im5 {x : T5 α β γ δ ε} (h : Im.im G H (.ref a) x) : ∃ u1 u2 u3 u4 u5, H a = some (.tup [u1, u2, u3, u4, u5]) ∧ Im.im G H u1 x.a ∧ Im.im G H u2 x.b ∧ Im.im G H u3 x.c ∧ Im.im G H u4 x.d ∧ Im.im G H u5 x.e := by
  obtain ⟨b, u1, u2, u3, u4, u5, e, h⟩ := h; cases e; exact ⟨u1, u2, u3, u4, u5, h⟩
theorem mk1 {x : T1 α} (i1 : Im.im G H u1 x.a) (h : H' a = some (.tup [u1])) (s : Stab G H H') : Im.im G H' (.ref a) x := ⟨a, u1, rfl, h, Im.st i1 s⟩
theorem mk2 {x : α × β} (i1 : Im.im G H u1 x.1) (i2 : Im.im G H u2 x.2) (h : H' a = some (.tup [u1, u2])) (s : Stab G H H') : Im.im G H' (.ref a) x := ⟨a, u1, u2, rfl, h, Im.st i1 s, Im.st i2 s⟩
theorem mk3 {x : T3 α β γ} (i1 : Im.im G H u1 x.a) (i2 : Im.im G H u2 x.b) (i3 : Im.im G H u3 x.c) (h : H' a = some (.tup [u1, u2, u3])) (s : Stab G H H') : Im.im G H' (.ref a) x := ⟨a, u1, u2, u3, rfl, h, Im.st i1 s, Im.st i2 s, Im.st i3 s⟩
theorem mk4 {x : T4 α β γ δ} (i1 : Im.im G H u1 x.a) (i2 : Im.im G H u2 x.b) (i3 : Im.im G H u3 x.c) (i4 : Im.im G H u4 x.d) (h : H' a = some (.tup [u1, u2, u3, u4])) (s : Stab G H H') : Im.im G H' (.ref a) x := ⟨a, u1, u2, u3, u4, rfl, h, Im.st i1 s, Im.st i2 s, Im.st i3 s, Im.st i4 s⟩
theorem mk5 {x : T5 α β γ δ ε} (i1 : Im.im G H u1 x.a) (i2 : Im.im G H u2 x.b) (i3 : Im.im G H u3 x.c) (i4 : Im.im G H u4 x.d) (i5 : Im.im G H u5 x.e) (h : H' a = some (.tup [u1, u2, u3, u4, u5])) (s : Stab G H H') : Im.im G H' (.ref a) x :=
  ⟨a, u1, u2, u3, u4, u5, rfl, h, Im.st i1 s, Im.st i2 s, Im.st i3 s, Im.st i4 s, Im.st i5 s⟩
end
class IsRef (G : Gx) (α : Type) [Im G α] : Prop where
  isref : ∀ {H : Hp} {v : V} {x : α}, Im.im G H v x → ∃ a, v = .ref a
theorem isref {α : Type} [Im G α] [IsRef G α] {H : Hp} {v : V} {x : α} (h : Im.im G H v x) : ∃ a, v = .ref a := IsRef.isref h
section
variable {α β γ δ ε : Type} [Im G α] [Im G β] [Im G γ] [Im G δ] [Im G ε]
instance : IsRef G (List α) := ⟨fun h => by obtain ⟨a, _, e, _⟩ := h; exact ⟨a, e⟩⟩
instance : IsRef G (T1 α) := ⟨fun h => by obtain ⟨a, _, e, _⟩ := h; exact ⟨a, e⟩⟩
instance : IsRef G (α × β) := ⟨fun h => by obtain ⟨a, _, _, e, _⟩ := h; exact ⟨a, e⟩⟩
instance : IsRef G (T3 α β γ) := ⟨fun h => by obtain ⟨a, _, _, _, e, _⟩ := h; exact ⟨a, e⟩⟩
instance : IsRef G (T4 α β γ δ) := ⟨fun h => by obtain ⟨a, _, _, _, _, e, _⟩ := h; exact ⟨a, e⟩⟩
instance : IsRef G (T5 α β γ δ ε) := ⟨fun h => by obtain ⟨a, _, _, _, _, _, e, _⟩ := h; exact ⟨a, e⟩⟩
end
section
variable {σ σ' : St} {H : Hp} {L : List (Asn G)} {D : Ends} {Q : VK} {te ta tb : TE} {α : Type} {K : PySem.W.Frag} {v : V}
/-- a tuple is laid -/
theorem k_tupP [Im G α] {vs : List V} {x : α} (hS : Sep H L) (mk : ∀ (H' : Hp) (p : Addr), H' p = some (.tup vs) → Stab G H H' → Im.im G H' (.ref p) x) (hl : vs.length ≤ sizeLine)
    (k : ∀ p H', Sep H' (imA (.ref p) x :: L) → Q (.ref p) H') : tupK Q vs H :=
  ⟨hl, fun p hp => k p _ ((hS.more (same_new hp)).addIm (mk _ p upd_same (.of_same (same_new hp))))⟩
theorem sqT_of {a : Addr} {us : List V} (h : H a = some (.tup us)) : SqT K H a us := SqT.of h
theorem ev_ixT {a : Addr} {i : Int} {us : List V} (ha : Ev ta σ H (.ref a)) (hb : Ev tb σ H (.int i)) (h : H a = some (.tup us)) (e : atI us i = some v) : Ev (tOp (rIxT K) ta tb) σ H v :=
  ev_op ha hb fun _ q => ⟨a, us, i, v, rfl, rfl, SqT.of h, e, q⟩
theorem r_ixT {a : Addr} {i : Int} {us : List V} (h : H a = some (.tup us)) (e : atI us i = some v) (q : Q v H) : rIxT K (.ref a) (.int i) H Q := ⟨a, us, i, v, rfl, rfl, SqT.of h, e, q⟩
/-- a field -/
theorem ev_fld {a C dx : Addr} {fs : List (Str × V)} {f : Str} (ha : Ev ta σ H (.ref a)) (h : H a = some (.ins C dx fs)) (c : Cls K C) (n : NoAttr K C f) (l : fs.lookup f = some v) : Ev (tFld K ta f) σ H v :=
  fun _ q => ha _ ⟨a, C, dx, fs, v, rfl, h, c, n, l, q⟩
end
end Ml

namespace Ml
open PySem L2
/-! ### things of any sort -/
inductive Any where
  | str (s : Str) | int (i : Int) | bl (b : Bool) | non | tup (xs : List Any) | lst (xs : List Any) | oth (k : Nat)
section
variable (G : Gx)
mutual
def imAny (H : Hp) : V → Any → Prop
  | v, .str s => v = .str s
  | v, .int i => v = .int i
  | v, .bl b => v = .bl b
  | v, .non => v = .non
  | v, .tup xs => ∃ a vs, v = .ref a ∧ H a = some (.tup vs) ∧ imAnyL H vs xs
  | v, .lst xs => ∃ a vs, v = .ref a ∧ (∃ o, H a = some (.frz o (.lst vs))) ∧ imAnyL H vs xs
  | v, .oth k => ∃ a o, v = .ref a ∧ H a = some o ∧ kindOf o = k ∧ (k = 0 ∨ k = 1)
def imAnyL (H : Hp) : List V → List Any → Prop
  | [], [] => True
  | v :: vs, x :: xs => imAny H v x ∧ imAnyL H vs xs
  | _, _ => False
end
variable {G} {H H' : Hp}
mutual
theorem imAny.st : ∀ {v : V} {x : Any}, imAny H v x → Stab G H H' → imAny H' v x
  | v, .str s, h, _ => by rw [imAny] at h ⊢; exact h
  | v, .int i, h, _ => by rw [imAny] at h ⊢; exact h
  | v, .bl b, h, _ => by rw [imAny] at h ⊢; exact h
  | v, .non, h, _ => by rw [imAny] at h ⊢; exact h
  | v, .tup xs, h, s => by
    rw [imAny] at h ⊢
    obtain ⟨a, vs, e, g, m⟩ := h
    exact ⟨a, vs, e, s.1 a _ g rfl, imAnyL.st m s⟩
  | v, .lst xs, h, s => by
    rw [imAny] at h ⊢
    obtain ⟨a, vs, e, ⟨o, g⟩, m⟩ := h
    exact ⟨a, vs, e, ⟨o, s.1 a _ g rfl⟩, imAnyL.st m s⟩
  | v, .oth k, h, s => by
    rw [imAny] at h ⊢
    obtain ⟨a, o, e, g, q, z⟩ := h
    obtain ⟨o', g', q'⟩ := s.2 a o g
    exact ⟨a, o', e, g', q'.trans q, z⟩
theorem imAnyL.st : ∀ {vs : List V} {xs : List Any}, imAnyL H vs xs → Stab G H H' → imAnyL H' vs xs
  | [], [], h, _ => h
  | v :: vs, x :: xs, h, s => by
    rw [imAnyL] at h ⊢
    exact ⟨imAny.st h.1 s, imAnyL.st h.2 s⟩
  | [], _ :: _, h, _ => by rw [imAnyL] at h; exact h.elim; all_goals simp
  | _ :: _, [], h, _ => by rw [imAnyL] at h; exact h.elim; all_goals simp
end
instance imAnyI : Im G Any := ⟨fun H v x => imAny H v x, fun h s => imAny.st h s⟩
end
variable {G : Gx} {H : Hp} {L : List (Asn G)}
theorem any_str {v : V} {s : Str} : Im.im G H v (Any.str s) ↔ v = .str s := by show imAny H v (.str s) ↔ _; rw [imAny]
theorem any_int {v : V} {s : Int} : Im.im G H v (Any.int s) ↔ v = .int s := by show imAny H v (.int s) ↔ _; rw [imAny]
theorem any_bl {v : V} {s : Bool} : Im.im G H v (Any.bl s) ↔ v = .bl s := by show imAny H v (.bl s) ↔ _; rw [imAny]
theorem any_non {v : V} : Im.im G H v Any.non ↔ v = .non := by show imAny H v .non ↔ _; rw [imAny]
theorem imAnyL_eq : ∀ {vs : List V} {xs : List Any}, imAnyL H vs xs ↔ imL (G := G) H vs xs
  | [], [] => by rw [imAnyL]; exact Iff.rfl
  | v :: vs, x :: xs => by
    rw [imAnyL]
    exact and_congr_right fun _ => imAnyL_eq (vs := vs) (xs := xs)
  | [], _ :: _ => ⟨fun h => by rw [imAnyL] at h; exact h.elim; all_goals simp, fun h => h.elim⟩
  | _ :: _, [] => ⟨fun h => by rw [imAnyL] at h; exact h.elim; all_goals simp, fun h => h.elim⟩
theorem any_tup {v : V} {xs : List Any} : Im.im G H v (Any.tup xs) ↔ ∃ a vs, v = .ref a ∧ H a = some (.tup vs) ∧ imL (G := G) H vs xs := by
  show imAny H v (.tup xs) ↔ _
  rw [imAny]
  exact exists_congr fun a => exists_congr fun vs => and_congr_right fun _ => and_congr_right fun _ => imAnyL_eq
theorem any_lsts {v : V} {xs : List Any} : Im.im G H v (Any.lst xs) ↔ ∃ a vs, v = .ref a ∧ (∃ o, H a = some (.frz o (.lst vs))) ∧ imL (G := G) H vs xs := by
  show imAny H v (.lst xs) ↔ _
  rw [imAny]
  exact exists_congr fun a => exists_congr fun vs => and_congr_right fun _ => and_congr_right fun _ => imAnyL_eq
theorem any_oth {v : V} {k : Nat} : Im.im G H v (Any.oth k) ↔ ∃ a o, v = .ref a ∧ H a = some o ∧ kindOf o = k ∧ (k = 0 ∨ k = 1) := by
  show imAny H v (.oth k) ↔ _
  rw [imAny]
def Any.ty : Any → String
  | .str _ => "str"
  | .int _ => "int"
  | .bl _ => "bool"
  | .non => "NoneType"
  | .tup _ => "tuple"
  | .lst _ => "list"
  | .oth 0 => "list"
  | .oth _ => "dict"
theorem ty_of_kind {K : PySem.W.Frag} {a : Addr} {o : HO} {k : Nat} (h : H a = some o) (e : kindOf o = k) (z : k = 0 ∨ k = 1) : TyX K H (.ref a) (.type (Any.oth k).ty) := by
  rcases z with rfl | rfl
  · cases o with
    | lst xs => exact .base (.lst h)
    | frz o x => cases x with
      | lst xs => exact .base (.frz h)
      | _ => cases e
    | _ => cases e
  · cases o with
    | dK xs => exact .base (.dK h)
    | frz o x => cases x with
      | dK xs => exact .fDict h
      | _ => cases e
    | _ => cases e
theorem ty_any {v : V} {x : Any} (h : Im.im G H v x) : TyX G.K H v (.type x.ty) := by
  cases x with
  | str s => rw [any_str] at h; subst h; exact .base (.str s)
  | int s => rw [any_int] at h; subst h; exact .base (.int s)
  | bl s => rw [any_bl] at h; subst h; exact .base (.bl s)
  | non => rw [any_non] at h; subst h; exact .base .non
  | tup xs => rw [any_tup] at h; obtain ⟨a, vs, rfl, g, _⟩ := h; exact .base (.tup g)
  | lst xs => rw [any_lsts] at h; obtain ⟨a, vs, rfl, ⟨o, g⟩, _⟩ := h; exact .base (.frz g)
  | oth k => rw [any_oth] at h; obtain ⟨a, o, rfl, g, q, z⟩ := h; exact ty_of_kind g q z
/-- isinstance of a plain type -/
def Any.is (x : Any) (t : String) : Bool := x.ty == t || (x.ty == "bool" && t == "int")
theorem any_kit (x : Any) (t : String) (ht : t ∈ ["str", "int", "bool", "tuple", "list", "dict"]) : kitB x.ty t = some (x.is t) := by
  have : ∀ u, u ∈ ["str", "int", "bool", "tuple", "list", "dict", "NoneType"] → ∀ t, t ∈ ["str", "int", "bool", "tuple", "list", "dict"] → kitB u t = some (u == t || (u == "bool" && t == "int")) := by decide +kernel
  refine this _ ?_ t ht
  unfold Any.ty
  split <;> decide
theorem ev_isAny {σ : St} {ta tb : TE} {v : V} {x : Any} {t : String} (ha : Ev ta σ H v) (hb : Ev tb σ H (.ty t)) (h : Im.im G H v x) (ht : t ∈ ["str", "int", "bool", "tuple", "list", "dict"]) : Ev (tCB (rIsi G.K) (tCons ta (tCons tb tNil))) σ H (.bl (x.is t)) :=
  ev_isi ha hb (ty_any h) (any_kit x t ht)
end Ml
namespace Ml
open PySem L2
variable {G : Gx} {H : Hp} {L : List (Asn G)} {ρ : Type} {q : ρ → Prop} {e : Exc → Prop} {Q : VK} {σ : St}
def Any.asStr : Any → R Str
  | .str s => .ok s
  | _ => .bad
def Any.asInt : Any → R Int
  | .int s => .ok s
  | _ => .bad
def Any.asBl : Any → R Bool
  | .bl s => .ok s
  | _ => .bad
def Any.asTup : Any → R (List Any)
  | .tup s => .ok s
  | _ => .bad
theorem wp_asStr {x : Any} {f : Str → R ρ} (h : R.wp (x.asStr.bind f) q e) : ∃ s, x = .str s ∧ R.wp (f s) q e := by
  cases x with
  | str s => exact ⟨s, rfl, h⟩
  | _ => exact h.elim
theorem wp_asInt {x : Any} {f : Int → R ρ} (h : R.wp (x.asInt.bind f) q e) : ∃ s, x = .int s ∧ R.wp (f s) q e := by
  cases x with
  | int s => exact ⟨s, rfl, h⟩
  | _ => exact h.elim
theorem wp_asBl {x : Any} {f : Bool → R ρ} (h : R.wp (x.asBl.bind f) q e) : ∃ s, x = .bl s ∧ R.wp (f s) q e := by
  cases x with
  | bl s => exact ⟨s, rfl, h⟩
  | _ => exact h.elim
theorem wp_asTup {x : Any} {f : List Any → R ρ} (h : R.wp (x.asTup.bind f) q e) : ∃ s, x = .tup s ∧ R.wp (f s) q e := by
  cases x with
  | tup s => exact ⟨s, rfl, h⟩
  | _ => exact h.elim
theorem v_str {v : V} {x : Any} {s : Str} (h : Im.im G H v x) (e : x = .str s) : v = .str s := any_str.mp (e ▸ h)
theorem v_int {v : V} {x : Any} {s : Int} (h : Im.im G H v x) (e : x = .int s) : v = .int s := any_int.mp (e ▸ h)
theorem v_bl {v : V} {x : Any} {s : Bool} (h : Im.im G H v x) (e : x = .bl s) : v = .bl s := any_bl.mp (e ▸ h)
theorem any_lst {α : Type} [Im G α] {i : Nat} {a : Addr} {xs : List α} (hS : Sep H L) (e : L[i]? = some (lstA a xs)) : Im.im G H (.ref a) (Any.oth 0) := by
  obtain ⟨vs, h, _⟩ := hS.lst e
  exact any_oth.mpr ⟨a, _, rfl, h, rfl, .inl rfl⟩
theorem any_dict {κ β : Type} [DecidableEq κ] [Kx κ] [Im G β] {i : Nat} {a : Addr} {xs : List (κ × β)} (hS : Sep H L) (e : L[i]? = some (dictA a xs)) : Im.im G H (.ref a) (Any.oth 1) := by
  obtain ⟨vs, h, _⟩ := hS.dict e
  exact any_oth.mpr ⟨a, _, rfl, h, rfl, .inr rfl⟩
/-- a tuple, of things of any sort -/
theorem k_tupA {vs : List V} {xs : List Any} (hS : Sep H L) (m : imL (G := G) H vs xs) (hl : vs.length ≤ sizeLine) (k : ∀ p H', Sep H' (imA (.ref p) (Any.tup xs) :: L) → Q (.ref p) H') :
    tupK Q vs H :=
  ⟨hl, fun p hp => k p _ ((hS.more (same_new hp)).addIm (any_tup.mpr ⟨p, vs, rfl, upd_same, m.st (.of_same (same_new hp))⟩))⟩
/-- an item, of a list of things that stay -/
theorem k_ixL {α : Type} [Im G α] {n : Nat} {a : Addr} {xs : List α} {i : Int} {x : α} (hS : Sep H L) (e : L[n]? = some (lstA a xs)) (h : atI xs i = some x) (k : ∀ v, Sep H (imA v x :: L) → Q v H) : rIxL G.K (.ref a) (.int i) H Q := by
  obtain ⟨vs, hp, m⟩ := hS.lst e
  obtain ⟨v, hv, hi⟩ := atI_im m h
  exact ⟨a, vs, i, v, rfl, rfl, .inl (.inl hp), hv, k v (hS.addIm hi)⟩
end Ml


namespace Ml
open PySem L2
variable {G : Gx}
/-! ### data as it is compared: lists and tuples of such -/
section
variable {α β γ δ ε : Type} [Lay α] [Lay β] [Lay γ] [Lay δ] [Lay ε]
instance layList : Lay (List α) := ⟨layAllB⟩
instance layT1 : Lay (T1 α) := ⟨fun x => Lay.lay x.a⟩
instance layT2 : Lay (α × β) := ⟨fun x => Lay.lay x.1 && Lay.lay x.2⟩
instance layT3 : Lay (T3 α β γ) := ⟨fun x => Lay.lay x.a && (Lay.lay x.b && Lay.lay x.c)⟩
instance layT4 : Lay (T4 α β γ δ) := ⟨fun x => Lay.lay x.a && (Lay.lay x.b && (Lay.lay x.c && Lay.lay x.d))⟩
instance layT5 : Lay (T5 α β γ δ ε) := ⟨fun x => Lay.lay x.a && (Lay.lay x.b && (Lay.lay x.c && (Lay.lay x.d && Lay.lay x.e)))⟩
end
section
variable {α β γ δ ε : Type} [Im G α] [DecidableEq α] [Lay α] [Pd G α] [Im G β] [DecidableEq β] [Lay β] [Pd G β] [Im G γ] [DecidableEq γ] [Lay γ] [Pd G γ] [Im G δ] [DecidableEq δ] [Lay δ] [Pd G δ] [Im G ε] [DecidableEq ε] [Lay ε] [Pd G ε]
instance pdList : Pd G (List α) where
  pd := fun xs => .list (xs.map (Pd.pd G))
  dep := Pd.dep G α + 1
  dp := fun {H v x} h => by
    obtain ⟨a, vs, rfl, ⟨o, g⟩, m⟩ := h
    exact .lst (.inl (.inr ⟨o, g⟩)) (dpAll m)
  lay_ok := fun x h => layAll (G := G) h
  dep_ok := fun x => Nat.succ_le_succ (depAll (G := G) x)
  eqv := fun x y => eqvAll_is x y
theorem canTup (ds : List PyData) : (PyData.tuple ds).canLay0 = PyData.canLayAll0 ds := rfl
theorem canCons (d : PyData) (ds : List PyData) : PyData.canLayAll0 (d :: ds) = (d.canLay0 && PyData.canLayAll0 ds) := rfl
theorem canNil : PyData.canLayAll0 [] = true := rfl
theorem depTup (ds : List PyData) : (PyData.tuple ds).depth = PyData.depthAll ds + 1 := rfl
theorem depCons (d : PyData) (ds : List PyData) : PyData.depthAll (d :: ds) = max d.depth (PyData.depthAll ds) := rfl
theorem depNil : PyData.depthAll [] = 0 := rfl
theorem eqvTup (ds es : List PyData) : PyData.eqv (.tuple ds) (.tuple es) = PyData.eqvAll ds es := rfl
theorem eqvCons (d e : PyData) (ds es : List PyData) : PyData.eqvAll (d :: ds) (e :: es) = (PyData.eqv d e && PyData.eqvAll ds es) := rfl
theorem eqvNil : PyData.eqvAll [] [] = true := rfl
instance pdT1 : Pd G (T1 α) where
  pd := fun x => .tuple [Pd.pd G x.a]
  dep := Pd.dep G α + 1
  dp := fun {H v x} h => by
    obtain ⟨a, u1, rfl, g, i1⟩ := h
    exact .tup (SqT.of g) (.cons (Pd.dp i1) .nil)
  lay_ok := fun x h => by rw [canTup, canCons, Pd.lay_ok x.a h]; rfl
  dep_ok := fun x => by
    rw [depTup, depCons, depNil]
    have := Pd.dep_ok (G := G) x.a
    omega
  eqv := fun x y => by
    rw [eqvTup, eqvCons, eqvNil, Pd.eqv]
    obtain ⟨a⟩ := x; obtain ⟨b⟩ := y
    simp
instance pdT2 : Pd G (α × β) where
  pd := fun x => .tuple [Pd.pd G x.1, Pd.pd G x.2]
  dep := max (Pd.dep G α) (Pd.dep G β) + 1
  dp := fun {H v x} h => by
    obtain ⟨a, u1, u2, rfl, g, i1, i2⟩ := h
    exact .tup (SqT.of g) (.cons (Pd.dp i1) (.cons (Pd.dp i2) .nil))
  lay_ok := fun x h => by
    have h : (Lay.lay x.1 && Lay.lay x.2) = true := h
    rw [Bool.and_eq_true] at h
    rw [canTup, canCons, canCons, Pd.lay_ok x.1 h.1, Pd.lay_ok x.2 h.2]; rfl
  dep_ok := fun x => by
    rw [depTup, depCons, depCons, depNil]
    have := Pd.dep_ok (G := G) x.1
    have := Pd.dep_ok (G := G) x.2
    omega
  eqv := fun x y => by
    rw [eqvTup, eqvCons, eqvCons, eqvNil, Pd.eqv, Pd.eqv]
    obtain ⟨a, b⟩ := x; obtain ⟨c, d⟩ := y
    simp
instance pdT3 : Pd G (T3 α β γ) where
  pd := fun x => .tuple [Pd.pd G x.a, Pd.pd G x.b, Pd.pd G x.c]
  dep := max (Pd.dep G α) (max (Pd.dep G β) (Pd.dep G γ)) + 1
  dp := fun {H v x} h => by
    obtain ⟨a, u1, u2, u3, rfl, g, i1, i2, i3⟩ := h
    exact .tup (SqT.of g) (.cons (Pd.dp i1) (.cons (Pd.dp i2) (.cons (Pd.dp i3) .nil)))
  lay_ok := fun x h => by
    have h : (Lay.lay x.a && (Lay.lay x.b && Lay.lay x.c)) = true := h
    simp only [Bool.and_eq_true] at h
    rw [canTup, canCons, canCons, canCons, Pd.lay_ok x.a h.1, Pd.lay_ok x.b h.2.1, Pd.lay_ok x.c h.2.2]; rfl
  dep_ok := fun x => by
    rw [depTup, depCons, depCons, depCons, depNil]
    have := Pd.dep_ok (G := G) x.a
    have := Pd.dep_ok (G := G) x.b
    have := Pd.dep_ok (G := G) x.c
    omega
  eqv := fun x y => by
    rw [eqvTup, eqvCons, eqvCons, eqvCons, eqvNil, Pd.eqv, Pd.eqv, Pd.eqv]
    obtain ⟨a, b, c⟩ := x; obtain ⟨d, e, f⟩ := y
    simp
instance pdT4 : Pd G (T4 α β γ δ) where
  pd := fun x => .tuple [Pd.pd G x.a, Pd.pd G x.b, Pd.pd G x.c, Pd.pd G x.d]
  dep := max (Pd.dep G α) (max (Pd.dep G β) (max (Pd.dep G γ) (Pd.dep G δ))) + 1
  dp := fun {H v x} h => by
    obtain ⟨a, u1, u2, u3, u4, rfl, g, i1, i2, i3, i4⟩ := h
    exact .tup (SqT.of g) (.cons (Pd.dp i1) (.cons (Pd.dp i2) (.cons (Pd.dp i3) (.cons (Pd.dp i4) .nil))))
  lay_ok := fun x h => by
    have h : (Lay.lay x.a && (Lay.lay x.b && (Lay.lay x.c && Lay.lay x.d))) = true := h
    simp only [Bool.and_eq_true] at h
    rw [canTup, canCons, canCons, canCons, canCons, Pd.lay_ok x.a h.1, Pd.lay_ok x.b h.2.1, Pd.lay_ok x.c h.2.2.1, Pd.lay_ok x.d h.2.2.2]; rfl
  dep_ok := fun x => by
    rw [depTup, depCons, depCons, depCons, depCons, depNil]
    have := Pd.dep_ok (G := G) x.a
    have := Pd.dep_ok (G := G) x.b
    have := Pd.dep_ok (G := G) x.c
    have := Pd.dep_ok (G := G) x.d
    omega
  eqv := fun x y => by
    rw [eqvTup, eqvCons, eqvCons, eqvCons, eqvCons, eqvNil, Pd.eqv, Pd.eqv, Pd.eqv, Pd.eqv]
    obtain ⟨a, b, c, d⟩ := x; obtain ⟨a', b', c', d'⟩ := y
    simp
instance pdT5 : Pd G (T5 α β γ δ ε) where
  pd := fun x => .tuple [Pd.pd G x.a, Pd.pd G x.b, Pd.pd G x.c, Pd.pd G x.d, Pd.pd G x.e]
  dep := max (Pd.dep G α) (max (Pd.dep G β) (max (Pd.dep G γ) (max (Pd.dep G δ) (Pd.dep G ε)))) + 1
  dp := fun {H v x} h => by
    obtain ⟨a, u1, u2, u3, u4, u5, rfl, g, i1, i2, i3, i4, i5⟩ := h
    exact .tup (SqT.of g) (.cons (Pd.dp i1) (.cons (Pd.dp i2) (.cons (Pd.dp i3) (.cons (Pd.dp i4) (.cons (Pd.dp i5) .nil)))))
  lay_ok := fun x h => by
    have h : (Lay.lay x.a && (Lay.lay x.b && (Lay.lay x.c && (Lay.lay x.d && Lay.lay x.e)))) = true := h
    simp only [Bool.and_eq_true] at h
    rw [canTup, canCons, canCons, canCons, canCons, canCons, Pd.lay_ok x.a h.1, Pd.lay_ok x.b h.2.1, Pd.lay_ok x.c h.2.2.1, Pd.lay_ok x.d h.2.2.2.1, Pd.lay_ok x.e h.2.2.2.2]; rfl
  dep_ok := fun x => by
    rw [depTup, depCons, depCons, depCons, depCons, depCons, depNil]
    have := Pd.dep_ok (G := G) x.a
    have := Pd.dep_ok (G := G) x.b
    have := Pd.dep_ok (G := G) x.c
    have := Pd.dep_ok (G := G) x.d
    have := Pd.dep_ok (G := G) x.e
    omega
  eqv := fun x y => by
    rw [eqvTup, eqvCons, eqvCons, eqvCons, eqvCons, eqvCons, eqvNil, Pd.eqv, Pd.eqv, Pd.eqv, Pd.eqv, Pd.eqv]
    obtain ⟨a, b, c, d, e⟩ := x; obtain ⟨a', b', c', d', e'⟩ := y
    simp
end
section
variable {α : Type} [Im G α] [DecidableEq α] [Lay α] [Pd G α] {H : Hp} {L : List (Asn G)} {σ : St} {ta tb : TE} {Q : VK} {v w : V} {x y : α}
theorem shapedP (h : Lay.lay x = true) (d : Pd.dep G α ≤ 64) : SeqAt.shaped (Pd.pd G x) = true := by
  unfold SeqAt.shaped
  rw [Pd.lay_ok x h, decide_eq_true (Nat.le_trans (Pd.dep_ok x) d)]; rfl
/-- the data of a list that one owns -/
theorem dpOwn {i : Nat} {a : Addr} {xs : List α} (hS : Sep H L) (e : L[i]? = some (lstA a xs)) : Dp G.K H (.ref a) (Pd.pd G xs) := by
  obtain ⟨vs, s, m⟩ := hS.sq e
  exact .lst s (dpAll m)
theorem dpRaw {a : Addr} {vs : List V} {xs : List α} (h : H a = some (.lst vs)) (m : DpAll G.K H vs (xs.map (Pd.pd G))) : Dp G.K H (.ref a) (Pd.pd G xs) := .lst (.inl (.inl h)) m
theorem ev_eqP (ha : Ev ta σ H v) (hb : Ev tb σ H w) (d1 : Dp G.K H v (Pd.pd G x)) (d2 : Dp G.K H w (Pd.pd G y)) (l1 : Lay.lay x = true) (l2 : Lay.lay y = true) (d : Pd.dep G α ≤ 64) :
    Ev (tOp (rEqD G.K) ta tb) σ H (.bl (decide (x = y))) := ev_op ha hb fun Q q => by
  refine ⟨_, _, d1, d2, shapedP l1 d, shapedP l2 d, ?_⟩
  rw [Pd.eqv]; exact q
theorem ev_neP (ha : Ev ta σ H v) (hb : Ev tb σ H w) (d1 : Dp G.K H v (Pd.pd G x)) (d2 : Dp G.K H w (Pd.pd G y)) (l1 : Lay.lay x = true) (l2 : Lay.lay y = true) (d : Pd.dep G α ≤ 64) :
    Ev (tOp (rNeD G.K) ta tb) σ H (.bl (!decide (x = y))) := ev_op ha hb fun Q q => by
  refine ⟨_, _, d1, d2, shapedP l1 d, shapedP l2 d, ?_⟩
  rw [Pd.eqv]; exact q
theorem r_eqP (d1 : Dp G.K H v (Pd.pd G x)) (d2 : Dp G.K H w (Pd.pd G y)) (l1 : Lay.lay x = true) (l2 : Lay.lay y = true) (d : Pd.dep G α ≤ 64) (q : Q (.bl (decide (x = y))) H) : rEqD G.K v w H Q :=
  ev_eqP (σ := []) (ta := tC v) (tb := tC w) ev_c ev_c d1 d2 l1 l2 d Q q
theorem r_neP (d1 : Dp G.K H v (Pd.pd G x)) (d2 : Dp G.K H w (Pd.pd G y)) (l1 : Lay.lay x = true) (l2 : Lay.lay y = true) (d : Pd.dep G α ≤ 64) (q : Q (.bl (!decide (x = y))) H) : rNeD G.K v w H Q :=
  ev_neP (σ := []) (ta := tC v) (tb := tC w) ev_c ev_c d1 d2 l1 l2 d Q q
end
/-! ### things of any sort, compared -/
mutual
def pdA : Any → PyData
  | .str s => .str s
  | .int i => .int i
  | .bl b => .bool b
  | .non => .none
  | .tup xs => .tuple (pdAL xs)
  | .lst xs => .list (pdAL xs)
  | .oth _ => .none
def pdAL : List Any → List PyData
  | [] => []
  | x :: xs => pdA x :: pdAL xs
end
mutual
def plA : Any → Bool
  | .tup xs => plAL xs
  | .lst xs => plAL xs
  | .oth _ => false
  | _ => true
def plAL : List Any → Bool
  | [] => true
  | x :: xs => plA x && plAL xs
end
section
variable {H : Hp}
mutual
theorem dpA : ∀ {v : V} {x : Any}, imAny H v x → plA x = true → Dp G.K H v (pdA x)
  | v, .str s, h, _ => by rw [imAny] at h; subst h; rw [pdA]; exact .str s
  | v, .int s, h, _ => by rw [imAny] at h; subst h; rw [pdA]; exact .int s
  | v, .bl s, h, _ => by rw [imAny] at h; subst h; rw [pdA]; exact .bl s
  | v, .non, h, _ => by rw [imAny] at h; subst h; rw [pdA]; exact .non
  | v, .tup xs, h, l => by
    rw [imAny] at h; rw [plA] at l; rw [pdA]
    obtain ⟨a, vs, rfl, g, m⟩ := h
    exact .tup (SqT.of g) (dpAL m l)
  | v, .lst xs, h, l => by
    rw [imAny] at h; rw [plA] at l; rw [pdA]
    obtain ⟨a, vs, rfl, ⟨o, g⟩, m⟩ := h
    exact .lst (.inl (.inr ⟨o, g⟩)) (dpAL m l)
  | v, .oth k, h, l => by rw [plA] at l; cases l
theorem dpAL : ∀ {vs : List V} {xs : List Any}, imAnyL H vs xs → plAL xs = true → DpAll G.K H vs (pdAL xs)
  | [], [], h, _ => by rw [pdAL]; exact .nil
  | v :: vs, x :: xs, h, l => by
    rw [imAnyL] at h; rw [plAL, Bool.and_eq_true] at l; rw [pdAL]
    exact .cons (dpA h.1 l.1) (dpAL h.2 l.2)
  | [], _ :: _, h, _ => by rw [imAnyL] at h; exact h.elim; all_goals simp
  | _ :: _, [], h, _ => by rw [imAnyL] at h; exact h.elim; all_goals simp
end
end
/-- x == y of things of any sort -/
def eqA (x y : Any) : R Bool := R.need (plA x = true ∧ plA y = true ∧ SeqAt.shaped (pdA x) = true ∧ SeqAt.shaped (pdA y) = true) (.ok (PyData.eqv (pdA x) (pdA y)))
section
variable {H : Hp} {σ : St} {ta tb : TE} {Q : VK} {v w : V} {x y : Any} {ρ : Type} {q : ρ → Prop} {e : Exc → Prop}
theorem wp_eqA {f : Bool → R ρ} (h : R.wp ((eqA x y).bind f) q e) : ∃ b, (plA x = true ∧ plA y = true ∧ SeqAt.shaped (pdA x) = true ∧ SeqAt.shaped (pdA y) = true ∧ b = PyData.eqv (pdA x) (pdA y)) ∧ R.wp (f b) q e := by
  unfold eqA R.need at h
  by_cases c : plA x = true ∧ plA y = true ∧ SeqAt.shaped (pdA x) = true ∧ SeqAt.shaped (pdA y) = true
  · rw [if_pos c] at h; exact ⟨_, ⟨c.1, c.2.1, c.2.2.1, c.2.2.2, rfl⟩, h⟩
  · rw [if_neg c] at h; exact h.elim
theorem ev_eqA {b : Bool} (ha : Ev ta σ H v) (hb : Ev tb σ H w) (i1 : Im.im G H v x) (i2 : Im.im G H w y) (h : plA x = true ∧ plA y = true ∧ SeqAt.shaped (pdA x) = true ∧ SeqAt.shaped (pdA y) = true ∧ b = PyData.eqv (pdA x) (pdA y)) :
    Ev (tOp (rEqD G.K) ta tb) σ H (.bl b) := ev_op ha hb fun Q q => by
  obtain ⟨h1, h2, h3, h4, rfl⟩ := h
  exact ⟨_, _, dpA i1 h1, dpA i2 h2, h3, h4, q⟩
theorem ev_neA {b : Bool} (ha : Ev ta σ H v) (hb : Ev tb σ H w) (i1 : Im.im G H v x) (i2 : Im.im G H w y) (h : plA x = true ∧ plA y = true ∧ SeqAt.shaped (pdA x) = true ∧ SeqAt.shaped (pdA y) = true ∧ b = PyData.eqv (pdA x) (pdA y)) :
    Ev (tOp (rNeD G.K) ta tb) σ H (.bl (!b)) := ev_op ha hb fun Q q => by
  obtain ⟨h1, h2, h3, h4, rfl⟩ := h
  exact ⟨_, _, dpA i1 h1, dpA i2 h2, h3, h4, q⟩
end
end Ml

/-! ### calls whose exceptions are wished for at the caller's slots: methods, instances -/
namespace L2
open PySem PySem.Spec PyProof.Rows
section
variable {X : Cx} {CX : CXT} {k : Nat} {f C : Addr} {fd : FuncData} {ps : List Str} {sp : Sp} {dvs : List V} {ds : List Value} {E : St → XK} {x m : Str} {p pos apos : Pos} {e o : Expr} {es : List Expr} {ta : TE} {t : TA}
def tMethSD (C : Addr) (m : Str) (sp : Sp) (dvs : List V) (E : St → XK) (ta : TE) (t : TA) : TE := fun σ H Q => ta σ H fun x H1 => ∃ a dx fs, x = .ref a ∧ H1 a = some (.ins C dx fs) ∧ fs.lookup m = none ∧
  t σ H1 fun vs H2 => sp (x :: (vs ++ dvs)) H2 Q (E σ)
def tMakeSD (C : Addr) (sp : Sp) (dvs : List V) (E : St → XK) (t : TA) : TE := fun σ H Q => t σ H fun vs H1 => ∀ x dx, H1 x = none → H1 dx = none → dx ≠ x →
  sp (.ref x :: (vs ++ dvs)) (upd (upd H1 dx (.own x)) x (.ins C dx [])) (fun v H2 => v = .non ∧ Q (.ref x) H2) (E σ)
theorem pe_call0SD (F : FnOk X.prog X.w X.K X.mg X.base CX k f fd ps sp) (hr : Room k X.A) (hg : Gl X x) (hm : X.mg x = some (.ref f)) (hk : PySem.W.keepIn X.K (.ref f) = true) (hb : Binds X.K fd ps ds) (hd : Vals dvs ds) (hx : ∀ σ, PassesAt CX X σ (E σ))
    (hdb : (x == ("__debug__" : Str)) = false := by decide) : PE X (.Call (.Name x p) [] [] pos) (tCallSD sp dvs E tNil) := by
  refine ⟨fun pins s σ H Q I h => ?_⟩
  refine wpAny_Call_Name_kw (ld_glob I hg hm ?_ hdb)
  exact PySem.W.callWith_K0 I.kIn hk (run_fnSD (us := []) F hr hb hd (hx σ) I .nil h)
theorem pe_methSD {pl : Sem Bool} (he : PE X o ta) (c : Cls X.K C) (hm : Meth X.K C m f) (F : FnOk X.prog X.w X.K X.mg X.base CX k f fd ps sp) (hr : Room k X.A) (hb : Binds X.K fd ps ds) (hd : Vals dvs ds) (hx : ∀ σ, PassesAt CX X σ (E σ)) (ha : PA X (e :: es) t)
    (hst : starEach (e :: es) X.env = (false, eval e X.env) :: starEach es X.env := by rfl) (hpl : (backTo pos (starEach es X.env)).any (·.1) = false := by rfl)
    (ht : eval (.Call (.Attribute o m apos) (e :: es) [] pos) X.env = (do
      let ov ← eval o X.env
      standAt apos.atName
      let (f, first) ← holding [ov] (getMethod ov m pl)
      callWith pos f first (backTo pos (starEach (e :: es) X.env)) (backToKw pos (keywordEach [] X.env))) := by rfl) :
    PE X (.Call (.Attribute o m apos) (e :: es) [] pos) (tMethSD C m sp dvs E ta t) := by
  refine ⟨fun pins s σ H Q I h => ?_⟩
  refine PySem.W.methodCall_KW (pl := pl) (thn (he.run pins s σ H _ I h) fun u s1 ⟨x, H1, I1, rx, a, dx, fs, ex, ea, l, q⟩ => ?_) ht
  subst ex
  obtain rfl : u = Value.ref a := rx
  refine getmeth_ok I1 ea c hm l ?_
  refine PySem.W.callWith_K (first := [.ref a]) (h₀ := X.base) I.ok.mod.kin hm.kp (thn (ha.run pos pins s1 σ H1 _ I1 q) fun us s2 ⟨vs, H2, I2, r, q2⟩ => ⟨I2.kIn, ?_⟩) hst hpl
  exact run_fnSD (us := .ref a :: us) (vs := .ref a :: vs) F hr hb hd (hx σ) I2 (.cons rfl r) q2
theorem pe_meth0SD {pl : Sem Bool} (he : PE X o ta) (c : Cls X.K C) (hm : Meth X.K C m f) (F : FnOk X.prog X.w X.K X.mg X.base CX k f fd ps sp) (hr : Room k X.A) (hb : Binds X.K fd ps ds) (hd : Vals dvs ds) (hx : ∀ σ, PassesAt CX X σ (E σ))
    (ht : eval (.Call (.Attribute o m apos) [] [] pos) X.env = (do
      let ov ← eval o X.env
      standAt apos.atName
      let (f, first) ← holding [ov] (getMethod ov m pl)
      callWith pos f first (backTo pos (starEach [] X.env)) (backToKw pos (keywordEach [] X.env))) := by rfl) :
    PE X (.Call (.Attribute o m apos) [] [] pos) (tMethSD C m sp dvs E ta tNil) := by
  refine ⟨fun pins s σ H Q I h => ?_⟩
  refine PySem.W.methodCall_KW (pl := pl) (thn (he.run pins s σ H _ I h) fun u s1 ⟨x, H1, I1, rx, a, dx, fs, ex, ea, l, q⟩ => ?_) ht
  subst ex
  obtain rfl : u = Value.ref a := rx
  refine getmeth_ok I1 ea c hm l ?_
  exact PySem.W.callWith_K0 (first := [.ref a]) I1.kIn hm.kp (run_fnSD (us := [.ref a]) (vs := [.ref a]) F hr hb hd (hx σ) I1 (.cons rfl .nil) q)
theorem run_makeSD {pins : List (Addr × Obj)} {σ : St} {H : Hp} {s : Shared} {Q : VK} {us : List Value} {vs : List V} (M : Mk X.K C f) (F : FnOk X.prog X.w X.K X.mg X.base CX k f fd ps sp) (hr : Room (k + 1) X.A) (hb : Binds X.K fd ps ds) (hd : Vals dvs ds)
    (hx : PassesAt CX X σ (E σ)) (I : Inv X pins σ H s) (r : Vals vs us)
    (h : ∀ x dx, H x = none → H dx = none → dx ≠ x → sp (.ref x :: (vs ++ dvs)) (upd (upd H dx (.own x)) x (.ins C dx [])) (fun v H2 => v = .non ∧ Q (.ref x) H2) (E σ)) :
    wpAny (model X.prog X.w) X.A (call (.ref C) us) (EP X pins σ Q) X.xe s := by
  have hq := h (s.heap.objs.size + 1) s.heap.objs.size (I.hok.fresh (Nat.le_succ _)) (I.hok.fresh (Nat.le_refl _)) (Nat.ne_of_lt (Nat.lt_succ_self _))
  have I2 := Inv.made (C := C) I
  have r2 : Vals (V.ref (s.heap.objs.size + 1) :: (vs ++ dvs)) (Value.ref (s.heap.objs.size + 1) :: (us ++ ds)) := .cons rfl (r.append hd)
  have hl : (Value.ref (s.heap.objs.size + 1) :: us ++ ds).length = ps.length := by
    have e := r2.length
    rw [F.len _ _ _ _ hq] at e
    exact e.symm
  refine wpAny_call (make_map (f := f) I.kIn M.makes M.init (beq_iff_eq.mp M.fn) (codeAny_mono (F.run _ X.stack _ _ ⟨Value.ref (s.heap.objs.size + 1) :: us, []⟩ (Value.ref (s.heap.objs.size + 1) :: (us ++ ds)) _ _ (E σ) (hr.make C us [])
    (I2.env0.make C us []) (hb _ (Value.ref (s.heap.objs.size + 1) :: us) I2.kIn hl) r2 hq) fun r s' hq' => ?_))
  cases r with
  | error e => exact hx pins _ _ e s' I2 hq'
  | ok fl =>
    cases fl with
    | ret u =>
      obtain ⟨v, H', I3, rv, ev, q3⟩ := I2.after hq'
      subst ev
      exact ⟨rv, ⟨V.ref (s.heap.objs.size + 1), H', I3, rfl, q3⟩⟩
    | next => exact False.elim hq'
    | brk => exact False.elim hq'
    | cont => exact False.elim hq'
theorem pe_makeSD (M : Mk X.K C f) (F : FnOk X.prog X.w X.K X.mg X.base CX k f fd ps sp) (hr : Room (k + 1) X.A) (hg : Gl X x) (hm : X.mg x = some (.ref C)) (hb : Binds X.K fd ps ds) (hd : Vals dvs ds) (hx : ∀ σ, PassesAt CX X σ (E σ))
    (ha : PA X (e :: es) t) (hdb : (x == ("__debug__" : Str)) = false := by decide) (he : starEach (e :: es) X.env = (false, eval e X.env) :: starEach es X.env := by rfl) (hpl : (backTo pos (starEach es X.env)).any (·.1) = false := by rfl) :
    PE X (.Call (.Name x p) (e :: es) [] pos) (tMakeSD C sp dvs E t) := by
  refine ⟨fun pins s σ H Q I h => ?_⟩
  refine wpAny_Call_Name_kw (ld_glob I hg hm ?_ hdb)
  refine PySem.W.callWith_K (h₀ := X.base) I.ok.mod.kin M.kp (thn (ha.run pos pins s σ H _ I h) fun us s1 ⟨vs, H1, I1, r, q⟩ => ⟨I1.kIn, ?_⟩) he hpl
  exact run_makeSD M F hr hb hd (hx σ) I1 r q
theorem pe_make0SD (M : Mk X.K C f) (F : FnOk X.prog X.w X.K X.mg X.base CX k f fd ps sp) (hr : Room (k + 1) X.A) (hg : Gl X x) (hm : X.mg x = some (.ref C)) (hb : Binds X.K fd ps ds) (hd : Vals dvs ds) (hx : ∀ σ, PassesAt CX X σ (E σ))
    (hdb : (x == ("__debug__" : Str)) = false := by decide) : PE X (.Call (.Name x p) [] [] pos) (tMakeSD C sp dvs E tNil) := by
  refine ⟨fun pins s σ H Q I h => ?_⟩
  refine wpAny_Call_Name_kw (ld_glob I hg hm ?_ hdb)
  exact PySem.W.callWith_K0 I.kIn M.kp (run_makeSD (us := []) M F hr hb hd (hx σ) I .nil h)
end
/-- list + list, either may be locked -/
def rCatR : R2 := fun x y H Q => ∃ l b xs zs, x = .ref l ∧ y = .ref b ∧ Rd H l (.lst xs) ∧ Rd H b (.lst zs) ∧ xs.length + zs.length ≤ sizeLine ∧ ∀ p, H p = none → Q (.ref p) (upd H p (.lst (xs ++ zs)))
theorem op_catR {X : Cx} : OpR X (binaryOp .Add) rCatR := by
  intro pins s σ H x y v u Q I rx ry h
  obtain ⟨l, b, xs, zs, rfl, rfl, hH, hB, hz, q⟩ := h
  cases rx
  cases ry
  obtain ⟨z, its, n, r, e⟩ := hH.ok I.hok
  obtain ⟨z2, its2, n2, r2, e2⟩ := hB.ok I.hok
  have hl := r.length
  have hl2 := r2.length
  refine PySem.P.add_list e e2 ?_ (by rw [List.size_toArray, List.size_toArray]; omega)
  have ea : its.toArray ++ its2.toArray = (its ++ its2).toArray := by simp
  rw [ea]
  exact ⟨.ref _, _, I.lnew (t' := s.toks) (r.append r2) (by rw [List.length_append]; omega), rfl, q _ I.fresh⟩
/-- len of a text, a list, a tuple -/
def rLenAny (K : PySem.W.Frag) : List V → Hp → VK → Prop := fun xs H Q => Ml.rLenS xs H Q ∨ Ml.rLenSq K xs H Q
theorem call_lenAny {X : Cx} : CallR X (.builtin "len") (rLenAny X.K) := by
  intro pins s σ H xs us Q I r h
  rcases h with h | h
  · exact Ml.call_lenS pins s σ H xs us Q I r h
  · exact Ml.call_lenSq pins s σ H xs us Q I r h
section
variable {P : Program} {w : World} {K : PySem.W.Frag} {mg : Str → Option Value} {base : Heap} {x qual : Str} {params : Arguments} {body : List Stmt} {scope : Scope} {dvs : List V} {kws : List (Str × V)} {f : Addr} {fd : FuncData}
theorem FunD.ok0 {N ps : List Str} {k : Nat} {sp : Sp} (F : FunD K x qual params body scope dvs kws f fd) (S : FnScope N ps scope) (len : ∀ vs H Q E, sp vs H Q E → vs.length = ps.length)
    (hbody : ∀ (cdv : Value) (A : Around) (outer : List Env) (s : Shared) (H : Hp) (vs : List V) (Q : VK) (E : XK), Room k (A.deeper (envOfC qual scope s.heap.objs.size f cdv)) → sp vs H Q E →
      ∃ t, PSs (cxOf CX0 P w K mg base N qual scope f cdv A outer s H E).nox body t ∧ t { nx := fun _ H' => Q .non H', rt := Q } (start N vs) H) : FnOk P w K mg base CX0 (k + 1) f fd ps sp :=
  F.ok S len fun cdv A outer s H vs Q E hr hsp => by
    obtain ⟨t, h, q⟩ := hbody cdv A outer s H vs Q E hr hsp
    exact ⟨t, h.nox, q⟩
end
end L2
namespace Ml
open PySem L2
/-! ### exceptions in plain programs -/
namespace R
variable {α β ρ : Type} {q : α → Prop} {e : Exc → Prop}
def noexc : R α → R α
  | .ok a => .ok a
  | _ => .bad
theorem wp_noexc {m : R α} {f : α → R β} {q : β → Prop} (h : wp ((noexc m).bind f) q e) : wp m (fun a => wp (f a) q e) (fun _ => False) := by
  cases m with
  | ok a => exact h
  | exc x => exact h.elim
  | bad => exact h.elim
def tryC : R α → (α → R β) → (Exc → R β) → R β
  | .ok a, k, _ => k a
  | .exc x, _, h => h x
  | .bad, _, _ => .bad
theorem wp_tryC {m : R α} {k : α → R β} {h : Exc → R β} {q : β → Prop} (w : wp (tryC m k h) q e) : wp m (fun a => wp (k a) q e) (fun x => wp (h x) q e) := by
  cases m <;> exact w
end R
/-- an except clause: known classes, those that it takes -/
def catchR {β : Type} (all subs : List Nat) (x : Exc) (a b : R β) : R β := if all.contains x.cls then (if subs.contains x.cls then a else b) else .bad
def contF {σ ρ β : Type} (k : σ → R β) (o : ρ → R β) : Fl σ ρ → R β
  | .go s => k s
  | .brk s => k s
  | .out r => o r
/-- an exception as it is wished for -/
def Eok (G : Gx) (x : Exc) (E : XK) (H : Hp) : Prop := E (.ref (G.cl x.cls)) none H
variable {G : Gx}
section
variable {σ σ' : St} {H : Hp} {L L' : List (Asn G)} {D : Ends} {Q : VK} {te ta tb : TE} {α β τ ρ : Type} {v w : V} {q : ρ → Prop} {e : Exc → Prop}
/-! ### lists that are read, one's own or locked -/
theorem imR [Im G α] {a : Addr} {xs : List α} (h : Im.im G H (.ref a) xs) : ∃ vs, Rd H a (.lst vs) ∧ imL (G := G) H vs xs := by
  obtain ⟨b, vs, e, ⟨o, h⟩, m⟩ := h
  cases e
  exact ⟨vs, .inr ⟨o, h⟩, m⟩
theorem Sep.rd [Im G α] (h : Sep H L) {i : Nat} {a : Addr} {xs : List α} (e : L[i]? = some (lstA a xs)) : ∃ vs, Rd H a (.lst vs) ∧ imL (G := G) H vs xs := by
  obtain ⟨vs, e, m⟩ := h.lst e
  exact ⟨vs, .inl e, m⟩
theorem rd_sq {K : PySem.W.Frag} {a : Addr} {vs : List V} (h : Rd H a (.lst vs)) : SqL K H a vs := .inl h
theorem rdF [Fv G α] {a : Addr} {xs : List α} (h : ∃ vs, SqL G.K H a vs ∧ imL (G := G) H vs xs) : SqL G.K H a (xs.map (Fv.enc G)) := by
  obtain ⟨vs, e, m⟩ := h
  rw [imL.flat.mp m] at e
  exact e
theorem imL_ints : ∀ (ns : List Int), imL (G := G) H (ns.map V.int) ns
  | [] => True.intro
  | n :: ns => ⟨rfl, imL_ints ns⟩
theorem read_script {a : Addr} {x : Script} (h : Im.im G H (.ref a) x) : ∃ vs, SqL G.K H a vs ∧ imL (G := G) H vs x.ns := ⟨_, sq_script h, imL_ints x.ns⟩
theorem k_catG [Im G α] {a b : Addr} {xs ys : List α} (hS : Sep H L) (h1 : ∃ vs, Rd H a (.lst vs) ∧ imL (G := G) H vs xs) (h2 : ∃ vs, Rd H b (.lst vs) ∧ imL (G := G) H vs ys) (z : xs.length + ys.length ≤ sizeLine)
    (k : ∀ p H', Sep H' (lstA p (xs ++ ys) :: L) → Q (.ref p) H') : rCatR (.ref a) (.ref b) H Q := by
  obtain ⟨vs, r1, m1⟩ := h1
  obtain ⟨ws, r2, m2⟩ := h2
  exact ⟨a, b, vs, ws, rfl, rfl, r1, r2, by rw [m1.len, m2.len]; exact z, fun p hp => k p _ (hS.newL hp (m1.app m2))⟩
theorem k_slG [Im G α] {a : Addr} {xs : List α} {lo hi : Option Int} (hS : Sep H L) (h : ∃ vs, SqL G.K H a vs ∧ imL (G := G) H vs xs)
    (k : ∀ p H', Sep H' (lstA p (cutL xs lo hi) :: L) → Q (.ref p) H') : rSlL G.K (.ref a) lo hi H Q := by
  obtain ⟨vs, h, m⟩ := h
  exact ⟨a, vs, rfl, h, fun p hp => k p _ (hS.newL hp (cutL_im m))⟩
theorem k_listG [Im G α] {a : Addr} {xs : List α} (hS : Sep H L) (h : ∃ vs, SqL G.K H a vs ∧ imL (G := G) H vs xs) (k : ∀ p H', Sep H' (lstA p xs :: L) → Q (.ref p) H') : rListSq G.K [.ref a] H Q := by
  obtain ⟨vs, h, m⟩ := h
  exact ⟨a, vs, rfl, .inl h, fun p hp => k p _ (hS.newL hp m)⟩
theorem k_ilG [Im G α] {a : Addr} {xs : List α} {R : It → Hp → Prop} (h : ∃ vs, SqL G.K H a vs ∧ imL (G := G) H vs xs) (k : R (Itl G.K a) H) : ilK G.K R (.ref a) H := by
  obtain ⟨vs, s, _⟩ := h
  exact ⟨a, rfl, ⟨vs, s⟩, k⟩
theorem ev_lenG [Im G α] {a : Addr} {xs : List α} (ha : Ev ta σ H (.ref a)) (h : ∃ vs, SqL G.K H a vs ∧ imL (G := G) H vs xs) : Ev (tCB (rLenSq G.K) (tCons ta tNil)) σ H (.int xs.length) := by
  obtain ⟨vs, s, m⟩ := h
  have := ev_lenL ha s
  rw [m.len] at this
  exact this
theorem k_lenG [Im G α] {a : Addr} {xs : List α} (h : ∃ vs, SqL G.K H a vs ∧ imL (G := G) H vs xs) (q : Q (.int xs.length) H) : rLenSq G.K [.ref a] H Q := by
  obtain ⟨vs, s, m⟩ := h
  exact ⟨a, vs, rfl, .inl s, by rw [m.len]; exact q⟩
theorem k_lstRaw {vs : List V} (hS : Sep H L) (z : vs.length ≤ sizeLine) (k : ∀ p H', Sep H' (cell p (.lst vs) :: L) → Q (.ref p) H') : lstK Q vs H := ⟨z, fun p hp => k p _ (hS.new hp rfl)⟩
theorem ty_plst [Im G α] {a : Addr} {xs : List α} (h : Im.im G H (.ref a) xs) : TyX G.K H (.ref a) (.type "list") := by
  obtain ⟨b, vs, e, ⟨o, h⟩, _⟩ := h
  cases e
  exact .base (.frz h)
theorem ev_inPl {x : Str} {ys : List Str} {a : Addr} (h : Im.im G H (.ref a) ys) (ha : Ev ta σ H (.str x)) (hb : Ev tb σ H (.ref a)) : Ev (tOp (rIn G.K false) ta tb) σ H (.bl (decide (x ∈ ys))) := ev_op ha hb fun Q q =>
  ⟨a, ys.map V.str, rfl, .inl (imPlF h), rfl, flat_str ys, by
    show Q (.bl (inV (.str x) (ys.map V.str))) H
    rw [inV_str]; exact q⟩
theorem ev_niPl {x : Str} {ys : List Str} {a : Addr} (h : Im.im G H (.ref a) ys) (ha : Ev ta σ H (.str x)) (hb : Ev tb σ H (.ref a)) : Ev (tOp (rIn G.K true) ta tb) σ H (.bl (!decide (x ∈ ys))) := ev_op ha hb fun Q q =>
  ⟨a, ys.map V.str, rfl, .inl (imPlF h), rfl, flat_str ys, by
    show Q (.bl (!inV (.str x) (ys.map V.str))) H
    rw [inV_str]; exact q⟩
/-- the rule on values alone -/
theorem ev_op2 {r : R2} {x y : V} (h : Ev (tOp r (tC x) (tC y)) [] H v) (q : Q v H) : r x y H Q := h Q q
theorem ev_cb2 {r : List V → Hp → VK → Prop} {x y : V} (h : Ev (tCB r (tCons (tC x) (tCons (tC y) tNil))) [] H v) (q : Q v H) : r [x, y] H Q := h Q q
/-! ### Any -/
theorem any_tupE {v : V} {x : Any} {xs : List Any} (h : Im.im G H v x) (e : x = .tup xs) : ∃ a vs, v = .ref a ∧ H a = some (.tup vs) ∧ imL (G := G) H vs xs := any_tup.mp (e ▸ h)
def lenA : Any → R Int
  | .str s => R.need (s.length ≤ sizeLine) (.ok s.length)
  | .tup xs => .ok xs.length
  | .lst xs => .ok xs.length
  | _ => .bad
theorem wp_lenA {x : Any} {f : Int → R ρ} (h : R.wp ((lenA x).bind f) q e) : ∃ n, lenA x = .ok n ∧ R.wp (f n) q e := by
  cases c : lenA x with
  | ok n => rw [c] at h; exact ⟨n, rfl, h⟩
  | exc y => exact absurd c (by cases x <;> simp [lenA, R.need] <;> split <;> simp)
  | bad => rw [c] at h; exact h.elim
theorem ev_lenA {x : Any} {n : Int} (ha : Ev ta σ H v) (h : Im.im G H v x) (hn : lenA x = .ok n) : Ev (tCB (rLenAny G.K) (tCons ta tNil)) σ H (.int n) := ev_cb (ea_cons ha ea_nil) fun Q q => by
  cases x with
  | str s =>
    rw [any_str] at h; subst h
    have hn : R.need (s.length ≤ sizeLine) (.ok (s.length : Int)) = .ok n := hn
    by_cases c : s.length ≤ sizeLine
    · rw [R.need_pos c] at hn; cases hn; exact .inl ⟨s, rfl, c, q⟩
    · unfold R.need at hn; rw [if_neg c] at hn; cases hn
  | tup xs =>
    rw [any_tup] at h
    obtain ⟨a, vs, rfl, g, m⟩ := h
    cases hn
    exact .inr ⟨a, vs, rfl, .inr (SqT.of g), by rw [m.len]; exact q⟩
  | lst xs =>
    rw [any_lsts] at h
    obtain ⟨a, vs, rfl, ⟨o, g⟩, m⟩ := h
    cases hn
    exact .inr ⟨a, vs, rfl, .inl (.inl (.inr ⟨o, g⟩)), by rw [m.len]; exact q⟩
  | _ => cases hn
/-! ### texts -/
def intR (a : Str) : R Int := match PySem.intText? a with
  | some n => R.need (a.length ≤ 640) (.ok n)
  | none => .bad
theorem wp_intR {a : Str} {f : Int → R ρ} (h : R.wp ((intR a).bind f) q e) : ∃ n, (PySem.intText? a = some n ∧ a.length ≤ 640) ∧ R.wp (f n) q e := by
  unfold intR at h
  cases c : PySem.intText? a with
  | some n =>
    rw [c] at h
    unfold R.need at h
    by_cases l : a.length ≤ 640
    · dsimp only at h; rw [if_pos l] at h; exact ⟨n, ⟨rfl, l⟩, h⟩
    · dsimp only at h; rw [if_neg l] at h; exact h.elim
  | none => rw [c] at h; exact h.elim
theorem ev_intS {a : Str} {n : Int} (ha : Ev ta σ H (.str a)) (h : PySem.intText? a = some n ∧ a.length ≤ 640) : Ev (tCB (fun xs H Q => ∃ a n, xs = [.str a] ∧ PySem.intText? a = some n ∧ a.length ≤ 640 ∧ Q (.int n) H) (tCons ta tNil)) σ H (.int n) :=
  ev_cb (ea_cons ha ea_nil) fun _ q => ⟨a, n, rfl, h.1, h.2, q⟩
def splitOk (a b : Str) : Prop := (b.length == 0) = false ∧ a.length + 2 ≤ sizeLine
instance (a b : Str) : Decidable (splitOk a b) := by unfold splitOk; infer_instance
theorem imL_strs : ∀ (ys : List Str), imL (G := G) H (ys.map V.str) ys
  | [] => True.intro
  | y :: ys => ⟨rfl, imL_strs ys⟩
theorem k_split {a b : Str} (hS : Sep H L) (h1 : Ev ta σ H (.str a)) (h2 : Ev tb σ H (.str b)) (h : splitOk a b) (k : ∀ p H', Sep H' (lstA p (Txt.split a b) :: L) → Q (.ref p) H') :
    tM1 (fun x xs H Q => ∃ a b, x = .str a ∧ xs = [.str b] ∧ (b.length == 0) = false ∧ a.length + 2 ≤ sizeLine ∧ rNewStrs (Txt.split a b) H Q) ta tb σ H Q :=
  c_m1 h1 (h2 _ ⟨a, b, rfl, rfl, h.1, h.2, fun p hp => k p _ (hS.newL hp (imL_strs _))⟩)
def zfOk (_ : Str) (i : Int) : Prop := PadOk i = true
instance (a : Str) (i : Int) : Decidable (zfOk a i) := by unfold zfOk; infer_instance
abbrev zfillT (a : Str) (i : Int) : Str := Txt.zfill a i
theorem k_zfill {a : Str} {i : Int} (h : zfOk a i) (q : Q (.str (zfillT a i)) H) : (fun (x : V) (xs : List V) (H : Hp) (Q : VK) => ∃ (a : Str) (i : Int), x = .str a ∧ xs = [.int i] ∧ PadOk i = true ∧ Q (.str (Txt.zfill a i)) H) (.str a) [.int i] H Q := ⟨a, i, rfl, rfl, h, q⟩
theorem tyStr {K : PySem.W.Frag} {a : Str} : tyV K "str" (.str a) H := rfl
/-! f-strings -/
section
variable {acc y : Str} {ts : List TE} {te : TE} {P : Str → Hp → Prop}
theorem f_fc (h : Ev te σ H (.str y)) (z : (acc ++ y).length ≤ sizeLine) (k : tJs ts (acc ++ y) σ H P) : tJs (te :: ts) acc σ H P := h _ ⟨y, rfl, z, k⟩
theorem f_fs (h : Ev te σ H (.str y)) (l : y.length ≤ sizeLine) (z : (acc ++ y).length ≤ sizeLine) (k : tJs ts (acc ++ y) σ H P) : tJs (tFmt te :: ts) acc σ H P := h _ (.inl ⟨y, rfl, l, y, rfl, z, k⟩)
theorem f_fi {i : Int} (h : Ev te σ H (.int i)) (l : i.natAbs.log2 < 1920) (z : (acc ++ Str.ofString (toString i)).length ≤ sizeLine) (k : tJs ts (acc ++ Str.ofString (toString i)) σ H P) : tJs (tFmt te :: ts) acc σ H P := h _ (.inr ⟨i, rfl, l, _, rfl, z, k⟩)
theorem f_je (k : P acc H) : tJs [] acc σ H P := k
end
/-! ### tuples: two as one, a part -/
theorem k_catT [Im G α] {a b : Addr} {us ws : List V} {x : α} (hS : Sep H L) (h1 : H a = some (.tup us)) (h2 : H b = some (.tup ws)) (n1 : us ≠ []) (n2 : ws ≠ []) (mk : ∀ (H' : Hp) (p : Addr), H' p = some (.tup (us ++ ws)) → Stab G H H' → Im.im G H' (.ref p) x)
    (hl : us.length + ws.length ≤ sizeLine) (k : ∀ p H', Sep H' (imA (.ref p) x :: L) → Q (.ref p) H') : rCatT G.K (.ref a) (.ref b) H Q :=
  ⟨a, b, us, ws, rfl, rfl, SqT.of h1, SqT.of h2, n1, hl, fun z => absurd z n2, fun _ p hp => k p _ ((hS.more (same_new hp)).addIm (mk _ p upd_same (.of_same (same_new hp))))⟩
theorem k_slT [Im G α] {a : Addr} {us ws : List V} {lo hi : Option Int} {x : α} (hS : Sep H L) (h1 : H a = some (.tup us)) (ew : cutV us lo hi = ws) (n : ¬ (HT.sIx us.length 0 lo = 0 ∧ HT.sIx us.length us.length hi = us.length))
    (mk : ∀ (H' : Hp) (p : Addr), H' p = some (.tup ws) → Stab G H H' → Im.im G H' (.ref p) x) (k : ∀ p H', Sep H' (imA (.ref p) x :: L) → Q (.ref p) H') : rSlT G.K (.ref a) lo hi H Q := by
  subst ew
  exact ⟨a, us, rfl, SqT.of h1, n, fun p hp => k p _ ((hS.more (same_new hp)).addIm (mk _ p upd_same (.of_same (same_new hp))))⟩
/-! ### popped -/
def popR (xs : List α) (i : Int) : R (Nat × α) := if -(2 ^ 63) ≤ i ∧ i < 2 ^ 63 then match seqIndex? i xs.length with
  | some j => match xs[j]? with
    | some x => .ok (j, x)
    | none => .bad
  | none => .bad else .bad
theorem wp_popR {xs : List α} {i : Int} {f : Nat × α → R ρ} (h : R.wp ((popR xs i).bind f) q e) : ∃ j x, ((-(2 ^ 63) ≤ i ∧ i < 2 ^ 63) ∧ seqIndex? i xs.length = some j ∧ xs[j]? = some x) ∧ R.wp (f (j, x)) q e := by
  unfold popR at h
  by_cases c : -(2 ^ 63) ≤ i ∧ i < 2 ^ 63
  · rw [if_pos c] at h
    cases d : seqIndex? i xs.length with
    | some j =>
      rw [d] at h
      dsimp only at h
      cases g : xs[j]? with
      | some x => rw [g] at h; exact ⟨j, x, ⟨c, rfl, g⟩, h⟩
      | none => rw [g] at h; exact h.elim
    | none => rw [d] at h; exact h.elim
  · rw [if_neg c] at h; exact h.elim
theorem imL.erase [Im G α] : ∀ {vs : List V} {xs : List α} (n : Nat), imL (G := G) H vs xs → imL (G := G) H (vs.eraseIdx n) (xs.eraseIdx n)
  | [], [], n, _ => by simp [imL]
  | v :: vs, x :: xs, 0, h => h.2
  | v :: vs, x :: xs, n + 1, h => ⟨h.1, imL.erase n h.2⟩
  | [], _ :: _, _, h => h.elim
  | _ :: _, [], _, h => h.elim
theorem k_popF [Fv G α] {n : Nat} {a : Addr} {xs : List α} {i : Int} {j : Nat} {x : α} (hS : Sep H L) (e : L[n]? = some (lstA a xs)) (h : (-(2 ^ 63) ≤ i ∧ i < 2 ^ 63) ∧ seqIndex? i xs.length = some j ∧ xs[j]? = some x)
    (e2 : L.set n (lstA a (xs.eraseIdx j)) = L') (k : ∀ H', Sep H' L' → Q (Fv.enc G x) H') : rPopAt (.ref a) [.int i] H Q := by
  obtain ⟨vs, h1, m⟩ := hS.lst e
  obtain ⟨u, hu, hm⟩ := m.get h.2.2
  rw [Fv.im_iff] at hm
  subst hm
  refine ⟨a, vs, i, j, _, rfl, rfl, h1, h.1.1, h.1.2, by rw [m.len]; exact h.2.1, hu, k _ ?_⟩
  subst e2
  exact hS.putL e (m.erase j)
/-! ### instances -/
theorem Sep.newI {C x dx : Addr} (h : Sep H L) (hx : H x = none) (hd : H dx = none) (ne : dx ≠ x) (n : ¬ G.fz C = some 0) : Sep (upd (upd H dx (.own x)) x (.ins C dx [])) (cell x (.ins C dx []) :: L) := by
  have h1 := h.more (same_new (o := HO.own x) hd)
  refine h1.new (o := .ins C dx []) (by rw [upd_ne (Ne.symm ne)]; exact hx) ?_
  show decide (G.fz C = some 0) = false
  exact decide_eq_false n
theorem c_fldG {K : PySem.W.Frag} {f : Str} (h : ta σ H fun x H1 => ∃ a C dx fs v, x = .ref a ∧ H1 a = some (.ins C dx fs) ∧ Cls K C ∧ NoAttr K C f ∧ fs.lookup f = some v ∧ Q v H1) : tFld K ta f σ H Q := h
theorem c_sfld {K : PySem.W.Frag} {f : Str} (h : tb σ H fun y H1 => ta σ H1 fun x H2 => ∃ a C dx fs, x = .ref a ∧ H2 a = some (.ins C dx fs) ∧ Cls K C ∧ NoAttr K C f ∧ fs.length < 1000 ∧ D.nx σ (upd H2 a (.ins C dx (putF f y fs)))) : sFld K ta tb f D σ H := h
theorem k_sfld {K : PySem.W.Frag} {i : Nat} {a C dx : Addr} {fs fs' : List (Str × V)} {f : Str} {y : V} (hS : Sep H L) (e : L[i]? = some (cell a (.ins C dx fs))) (c : Cls K C) (n : NoAttr K C f) (ef : putF f y fs = fs') (hl : fs.length < 1000)
    (np : per G (.ins C dx fs') = false) (eL : L.set i (cell a (.ins C dx fs')) = L') (k : ∀ H', Sep H' L' → D.nx σ H') :
    ∃ a' C' dx' fs'', V.ref a = .ref a' ∧ H a' = some (.ins C' dx' fs'') ∧ Cls K C' ∧ NoAttr K C' f ∧ fs''.length < 1000 ∧ D.nx σ (upd H a' (.ins C' dx' (putF f y fs''))) := by
  refine ⟨a, C, dx, fs, rfl, hS.getCell e, c, n, hl, ?_⟩
  rw [ef]
  refine k _ ?_
  subst eL
  exact hS.put e np rfl
theorem k_sfldP {K : PySem.W.Frag} {i : Nat} {a C dx : Addr} {fs fs' : List (Str × V)} {f : Str} {y : V} (hS : Sep H L) (e : L[i]? = some (cell a (.ins C dx fs))) (c : Cls K C) (n : NoAttr K C f) (ef : putF f y fs = fs') (hl : fs.length < 1000)
    (np : per G (.ins C dx fs') = true) (eL : L.eraseIdx i = L') (k : ∀ H', H' a = some (.ins C dx fs') → Stab G H H' → Sep H' L' → D.nx σ H') :
    ∃ a' C' dx' fs'', V.ref a = .ref a' ∧ H a' = some (.ins C' dx' fs'') ∧ Cls K C' ∧ NoAttr K C' f ∧ fs''.length < 1000 ∧ D.nx σ (upd H a' (.ins C' dx' (putF f y fs''))) := by
  refine ⟨a, C, dx, fs, rfl, hS.getCell e, c, n, hl, ?_⟩
  rw [ef]
  have h1 := hS.perm (pull_perm e)
  obtain ⟨fp, ⟨f1, f2, e0, ⟨e1, ho⟩, _⟩, _, h3⟩ := id h1
  subst e1
  obtain ⟨u, hu, nu⟩ := h3 a (by rw [e0]; simp)
  have eu : u = .ins C dx fs := by rw [ho] at hu; cases hu; rfl
  refine k _ upd_same (stab_put hu nu (by rw [eu]; rfl)) ?_
  subst eL
  exact h1.drop1 rfl
/-! ### calls, steps -/
theorem c_callSD {sp : Sp} {dvs : List V} {E : St → XK} {t : TA} (h : t σ H fun vs H1 => sp (vs ++ dvs) H1 Q (E σ)) : tCallSD sp dvs E t σ H Q := h
theorem c_meth {C : Addr} {m : Str} {sp : Sp} {dvs : List V} {E : XK} {t : TA} (h : ta σ H fun x H1 => ∃ a dx fs, x = .ref a ∧ H1 a = some (.ins C dx fs) ∧ fs.lookup m = none ∧ t σ H1 fun vs H2 => sp (x :: (vs ++ dvs)) H2 Q E) : tMeth C m sp dvs E ta t σ H Q := h
theorem c_methSD {C : Addr} {m : Str} {sp : Sp} {dvs : List V} {E : St → XK} {t : TA} (h : ta σ H fun x H1 => ∃ a dx fs, x = .ref a ∧ H1 a = some (.ins C dx fs) ∧ fs.lookup m = none ∧ t σ H1 fun vs H2 => sp (x :: (vs ++ dvs)) H2 Q (E σ)) : tMethSD C m sp dvs E ta t σ H Q := h
theorem c_make {C : Addr} {sp : Sp} {dvs : List V} {E : XK} {t : TA} (h : t σ H fun vs H1 => ∀ x dx, H1 x = none → H1 dx = none → dx ≠ x → sp (.ref x :: (vs ++ dvs)) (upd (upd H1 dx (.own x)) x (.ins C dx [])) (fun v H2 => v = .non ∧ Q (.ref x) H2) E) : tMake C sp dvs E t σ H Q := h
theorem c_makeSD {C : Addr} {sp : Sp} {dvs : List V} {E : St → XK} {t : TA} (h : t σ H fun vs H1 => ∀ x dx, H1 x = none → H1 dx = none → dx ≠ x → sp (.ref x :: (vs ++ dvs)) (upd (upd H1 dx (.own x)) x (.ins C dx [])) (fun v H2 => v = .non ∧ Q (.ref x) H2) (E σ)) : tMakeSD C sp dvs E t σ H Q := h
theorem c_retN (h : D.rt .non H) : tRetN D σ H := h
/-! ### except clauses -/
theorem w_only {K : PySem.W.Frag} {c : Value} {ts : Addr → Value → Option Addr → TS} {Wout : WX} {all subs : List Nat} {x : Exc} {β : Type} {A B : R β} {q : β → Prop} {e : Exc → Prop}
    (ex : all.contains x.cls = true → PySem.W.exmOne K (.ref (G.cl x.cls)) c = some (subs.contains x.cls)) (hm : R.wp (catchR all subs x A B) q e)
    (h1 : R.wp A q e → ∀ a, H a = none → ts a (.ref (G.cl x.cls)) none D σ H) (h2 : R.wp B q e → Wout (.ref (G.cl x.cls)) none σ H) : Eok G x (WE (wOnly K c ts Wout D) σ) H := by
  unfold catchR at hm
  by_cases c1 : all.contains x.cls = true
  · rw [if_pos c1] at hm
    refine ⟨_, ex c1, fun z => ?_, fun z => ?_⟩
    · rw [if_pos z] at hm; exact h1 hm
    · rw [z, if_neg Bool.false_ne_true] at hm; exact h2 hm
  · rw [if_neg c1] at hm; exact hm.elim
theorem w_as {K : PySem.W.Frag} {c : Value} {i : Nat} {ts : Addr → Value → Option Addr → TS} {Wout : WX} {all subs : List Nat} {x : Exc} {β : Type} {A B : R β} {q : β → Prop} {e : Exc → Prop}
    (ex : all.contains x.cls = true → PySem.W.exmOne K (.ref (G.cl x.cls)) c = some (subs.contains x.cls)) (hm : R.wp (catchR all subs x A B) q e)
    (h1 : R.wp A q e → ∀ a, H a = none → ts a (.ref (G.cl x.cls)) none { nx := fun σ' H' => D.nx (σ'.set i none) H', rt := D.rt, bk := fun σ' H' => D.bk (σ'.set i none) H', ct := fun σ' H' => D.ct (σ'.set i none) H' } (σ.set i (some (.ref a))) H)
    (h2 : R.wp B q e → Wout (.ref (G.cl x.cls)) none σ H) : Eok G x (WE (wAs K c i ts Wout D) σ) H := by
  unfold catchR at hm
  by_cases c1 : all.contains x.cls = true
  · rw [if_pos c1] at hm
    refine ⟨_, ex c1, fun z => ?_, fun z => ?_⟩
    · rw [if_pos z] at hm; exact h1 hm
    · rw [z, if_neg Bool.false_ne_true] at hm; exact h2 hm
  · rw [if_neg c1] at hm; exact hm.elim
theorem w_end {i : Nat} (e : σ.set i none = σ') (h : D.nx σ' H) : D.nx (σ.set i none) H := by rw [e]; exact h
/-! ### loops that are left -/
theorem k_forF {J : It} {g : TG} {tb : TS} {im : Hp → V → α → Prop} {xs : List α} {f : τ → α → R (Fl τ ρ)} {β : Type} {rest : τ → R β} {o : ρ → R β} {q : β → Prop} {e : Exc → Prop} {s : τ} (I : τ → L2.St → Hp → Prop)
    (w : ∀ s, Wk J (I s) im xs) (h0 : I s σ H) (hm : R.wp ((forF f xs s).bind (contF rest o)) q e)
    (turn : ∀ (s : τ) (x : α) (v : V) (σ : L2.St) (H : Hp) (q' : Fl τ ρ → Prop) (N B : L2.St → Hp → Prop), I s σ H → im H v x → R.wp (f s x) q' e → (∀ s' σ' H', q' (.go s') → I s' σ' H' → N σ' H') → (∀ s' σ' H', q' (.brk s') → I s' σ' H' → B σ' H') → (∀ r, q' (.out r) → R.wp (o r) q e) →
      g v σ H fun σ2 H2 => tb (loopD D N B) σ2 H2)
    (done : ∀ s σ H, R.wp (rest s) q e → I s σ H → D.nx σ H) : forK g tb D σ J H :=
  for_walkF (D := D) (I := I) (k := fun r => R.wp (contF rest o r) q e) w h0 (R.wp_bind hm) (fun s x v σ H q' N B hI hv hw h1 h2 h3 => turn s x v σ H q' N B hI hv hw h1 h2 h3) (fun s σ H h hI => done s σ H h hI)
theorem k_gT {K : PySem.W.Frag} {n : Nat} {t : TGs} {a : Addr} {us : List V} {P : St → Hp → Prop} (h : H a = some (.tup us)) (hl : us.length = n := by rfl) (k : t us σ H P) : gTup K n t (.ref a) σ H P := ⟨a, us, rfl, SqT.of h, hl, k⟩
theorem k_gC {i : Nat} {u : TGs} {us : List V} {P : St → Hp → Prop} (e : σ.set i (some v) = σ') (k : u us σ' H P) : gCons (gName i) u (v :: us) σ H P := ⟨v, us, rfl, by show u us (σ.set i (some v)) H P; rw [e]; exact k⟩
theorem k_gE {P : St → Hp → Prop} (k : P σ H) : gNil [] σ H P := ⟨rfl, k⟩
end
section
variable {X : Cx} (K : PySem.W.Frag) (hK : X.K = K := by rfl)
include hK
theorem catTK : OpR X (binaryOp .Add) (rCatT K) := by subst hK; exact op_catT
theorem sl_tupK : SlR X (rSlT K) := by subst hK; exact sl_tup
theorem lenAnyK : CallR X (.builtin "len") (rLenAny K) := by subst hK; exact call_lenAny
theorem pg_tupK {es : List Expr} {k : Nat} {pos : Pos} {t : TGs} {n : Nat} (hc : X.calm = true) (h : PGs X es t) (hn : (assignEach es X.env).length = n := by rfl) (hst : (assignEach es X.env).findIdx? (·.1) = none := by rfl) : PG X (.Tuple es k pos) (gTup K n t) := by
  subst hK; exact pg_tup hc h hn hst
end
end Ml

/-! ### an exception that is held, handed to a def that raises nothing -/
namespace L2
open PySem PySem.Spec PyProof.Rows
/-- what a def promises that gets the pinned exception -/
structure FnE (P : Program) (w : World) (K : PySem.W.Frag) (mg : Str → Option Value) (base : Heap) (k : Nat) (f : Addr) (fd : FuncData) (ps : List Str) (sp : Addr × Obj → Sp) : Prop where
  len : ∀ p vs H Q E, sp p vs H Q E → vs.length = ps.length
  run : ∀ (A : Around) (outer : List Env) (s : Shared) (H : Hp) (args : Args) (us : List Value) (vs : List V) (Q : VK) (E : XK) (p : Addr × Obj), L2H.RoomH k A → L2H.PinOk outer H s p → Env0 P w K mg base A outer s H → BindsTo s fd args (ps.zip us) → Vals vs us → sp p vs H Q E →
    codeAny (model P w) A (.call (.ref f) args) (CR CX0 outer P w H s Q E) s
theorem Fun.okE {P : Program} {w : World} {K : PySem.W.Frag} {mg : Str → Option Value} {base : Heap} {x qual : Str} {st : Stmt} {f : Addr} {fd : FuncData} {N ps : List Str} {k : Nat} {sp : Addr × Obj → Sp} (F : Fun K x qual st f fd) (S : FnScope N ps (defScope st)) (len : ∀ p vs H Q E, sp p vs H Q E → vs.length = ps.length)
    (hbody : ∀ (cdv : Value) (A : Around) (outer : List Env) (s : Shared) (H : Hp) (vs : List V) (Q : VK) (E : XK) (p : Addr × Obj), L2H.RoomH k (A.deeper (envOfC qual (defScope st) s.heap.objs.size f cdv)) → sp p vs H Q E →
      ∃ t, PSs (L2H.cxH CX0 P w K mg base N qual (defScope st) f cdv A outer s H E p).nox (defBody st) t ∧ t { nx := fun _ H' => Q .non H', rt := Q } (start N vs) H) : FnE P w K mg base (k + 1) f fd ps sp := by
  obtain ⟨oc, od, kV, doc, pm, an, cdv, ct, osl, rfl, lk, hcd⟩ := F.ex
  refine ⟨len, fun A outer s H args us vs Q E p hr hpin e0 hb r hsp => ?_⟩
  have hl := len _ _ _ _ _ hsp
  have KX : K.In s.heap := e0.mod.kin.keeps fun b o e => (e0.bs b o e).1
  have lim : s.heap.NoLimit := e0.mod.nolimit.keeps fun b o e => (e0.bs b o e).1
  have hkind : ∀ y ∈ ps.zip us, (defScope st).names.lookup y.1 = some .local ∨ ((defScope st).names.lookup y.1 = some .cell ∧ ((cellsFrom (s.heap.objs.size + 1) (defScope st).names []).lookup y.1).isSome = true) := fun ⟨n, v⟩ hy => by
    rcases S.par n (List.of_mem_zip hy).1 with q | q
    · exact .inl q
    · exact .inr ⟨q, PySem.W.cellsFrom_some _ _ _ (.inl q)⟩
  refine codeAny_call_function hr.depth (KX _ _ lk) rfl S.co S.gen rfl (PySem.W.codeRec_of KX hcd) (hb _ _ _ _ ?_)
  refine wpAny_newFunctionEnv_cells S.kind hkind fun env he s1 x => ?_
  subst he
  refine ⟨lim.keeps x.toInCall.keep, codeAny_func ?_⟩
  obtain ⟨t, ht, hq⟩ := hbody cdv A outer s H vs Q E p (hr.deeper _) hsp
  have I : Inv (L2H.cxH CX0 P w K mg base N qual (defScope st) f cdv A outer s H E p) [] (L2.start N vs) H s1 := L2H.inv_startH S hpin e0 hl r x
  refine wpAny_mono (ht.nox.run [] s1 (L2.start N vs) H _ I hq) (fun fl s' hs => ?_) fun e s' hs => hs
  have fin : ∀ {σ' : St} {H' : Hp} {v : V} {u : Value}, Inv (L2H.cxH CX0 P w K mg base N qual (defScope st) f cdv A outer s H E p) [] σ' H' s' → RelV v u → Q v H' → CE outer P w H s Q u s' :=
    fun {σ' H' v u} J rv q => ⟨v, H', J.os, J.bare, J.base, J.hok, rv, q⟩
  cases fl with
  | ret u =>
    obtain ⟨v, σ', H', J, rv, q⟩ := hs
    exact fin J rv q
  | next =>
    obtain ⟨σ', H', J, q⟩ := hs
    exact fin (v := V.non) (u := Value.none) J rfl q
  | brk =>
    obtain ⟨_, _, _, q⟩ := hs
    exact False.elim q
  | cont =>
    obtain ⟨_, _, _, q⟩ := hs
    exact False.elim q
section
variable {X : Cx} {k : Nat} {f : Addr} {fd : FuncData} {ps : List Str} {sp : Addr × Obj → Sp} {x : Str} {q pos : Pos} {e : Expr} {es : List Expr} {t : TA} {p : Addr × Obj}
/-- f(e), e the exception that the suite holds at a -/
def tCallE (a : Addr) (cls : Value) (d : Option Addr) (sp : Addr × Obj → Sp) (t : TA) : TE := fun σ H Q => t σ H fun vs H1 => ∀ oe, Zc cls d oe → (∃ vs, oe.data = .fields vs) → sp (a, oe) vs H1 Q E0
theorem c_callE {a : Addr} {cls : Value} {d : Option Addr} {σ : St} {H : Hp} {Q : VK} (h : t σ H fun vs H1 => ∀ oe, Zc cls d oe → (∃ vs, oe.data = .fields vs) → sp (a, oe) vs H1 Q E0) : tCallE a cls d sp t σ H Q := h
theorem pe_callE {a : Addr} {cls : Value} {d : Option Addr} {oe : Obj} (hp : (a, oe) ∈ X.pn) (hz : Zc cls d oe) (hf : ∃ vs, oe.data = .fields vs) (F : FnE X.prog X.w X.K X.mg X.base k f fd ps sp) (hr : L2H.RoomH k X.A) (hg : Gl X x) (hm : X.mg x = some (.ref f)) (hk : PySem.W.keepIn X.K (.ref f) = true) (hb : Binds X.K fd ps [])
    (ha : PA X (e :: es) t) (hdb : (x == ("__debug__" : Str)) = false := by decide) (he : starEach (e :: es) X.env = (false, eval e X.env) :: starEach es X.env := by rfl) (hpl : (backTo pos (starEach es X.env)).any (·.1) = false := by rfl) :
    PE X (.Call (.Name x q) (e :: es) [] pos) (tCallE a cls d sp t) := by
  refine ⟨fun pins s σ H Q I h => ?_⟩
  refine wpAny_Call_Name_kw (ld_glob I hg hm ?_ hdb)
  refine PySem.W.callWith_K (h₀ := X.base) I.ok.mod.kin hk (thn (ha.run pos pins s σ H _ I h) fun us s1 ⟨vs, H1, I1, r, q⟩ => ⟨I1.kIn, ?_⟩) he hpl
  have q : sp (a, oe) vs H1 Q E0 := q oe hz hf
  have hl : us.length = ps.length := by rw [← r.length]; exact F.len _ _ _ _ _ q
  have b := hb s1 us I1.kIn (by rw [List.append_nil]; exact hl)
  rw [List.append_nil] at b
  have P1 := I1.pin (a, oe) (List.mem_append_left _ hp)
  have hpin : L2H.PinOk X.stack H1 s1 (a, oe) := ⟨P1.1, P1.2.1, fun hm => (List.mem_cons.mp (I1.stkSub a hm)).elim P1.2.2.1 P1.2.2.2.1, P1.2.2.2.2⟩
  refine wpAny_call (codeAny_mono (F.run X.A X.stack s1 H1 ⟨us, []⟩ us vs Q E0 (a, oe) hr hpin I1.env0 b r q) fun r s' hq => ?_)
  cases r with
  | error e => exact hq.elim
  | ok fl =>
    cases fl with
    | ret u => exact I1.after hq
    | next => exact False.elim hq
    | brk => exact False.elim hq
    | cont => exact False.elim hq
end
/-- isinstance(e, c), e a pinned exception -/
def rIsEB (K : PySem.W.Frag) (D a : Addr) : List V → Hp → VK → Prop := fun xs H Q => ∃ (c : V) (cv : Value) (b : Bool), xs = [.ref a, c] ∧ ClsV c cv ∧ PySem.W.kitOne K (.ref D) cv = some b ∧ Q (.bl b) H
theorem call_isP {X : Cx} (K : PySem.W.Frag) {D : Addr} {p : Addr × Obj} (hp : p ∈ X.pn) (C : ExcC K D) (hz : Zc (.ref D) none p.2) (hf : ∃ vs, p.2.data = .fields vs) (hK : X.K = K := by rfl) : CallR X (.builtin "isinstance") (rIsEB K D p.1) := by
  subst hK
  intro pins s σ H xs us Q I r h
  obtain ⟨c, cv, b, rfl, hcv, e, q⟩ := h
  cases r with
  | cons rx rr =>
    cases rr with
    | cons rt rr =>
      cases rr
      cases rx
      have ec := hcv.eq rt
      subst ec
      have hget := (I.pin p (List.mem_append_left _ hp)).1
      obtain ⟨vs, hv⟩ := hf
      have J : PySem.W.InstAt s.heap p.1 p.2 D none := by
        obtain ⟨pa, ⟨oc, od, oda, osl⟩⟩ := p
        obtain ⟨h1, h2⟩ := hz
        dsimp only at h1 h2 hv hget
        subst h1 h2 hv
        exact ⟨hget, rfl, rfl, trivial⟩
      exact PySem.W.kia_one (PySem.W.handS_kitx_exc C.hg C.hk C.hs C.hd C.ha C.hn C.ht C.hm) I.kIn J e (fun z => nomatch z) fun tk => ⟨.bl b, H, I.kept (t' := tk) fun _ _ z => z, rfl, q⟩
/-- xs.count(x), over data -/
def rCountD (K : PySem.W.Frag) : V → List V → Hp → VK → Prop := fun x xs H Q => ∃ (a : Addr) (y : V) (d : PyData) (ds : List PyData), x = V.ref a ∧ xs = [y] ∧ Dp K H (V.ref a) (.list ds) ∧ Dp K H y d ∧
  SeqAt.shaped (.list ds) = true ∧ SeqAt.shaped d = true ∧ Q (.int ((ds.countP fun y => PyData.eqv y d : Nat) : Int)) H
theorem mt_countD {X : Cx} (hu : X.A.units + 65 < cLine) : MtR X "list.count" (rCountD X.K) := by
  intro pins s σ H x xs v us Q I rx rxs h
  obtain ⟨a, y, d, ds, rfl, rfl, hl, hy, sl, sd, q⟩ := h
  cases rx
  cases rxs with
  | cons ry rt =>
    rename_i uy ut
    cases rt
    obtain ⟨bs, r1⟩ := Dp.reads I d y uy hy ry
    have hxs : PyData.canLayAll0 ds = true := SeqAt.canLay_of_shaped sl
    have hroom : X.A.units + 1 + min (PyData.depthAll ds) d.depth < cLine := room_in_shaped sd hu
    cases hl with
    | lst hs ha =>
      obtain ⟨its, rv, hL⟩ := I.list hs
      obtain ⟨as, h4⟩ := Dp.readsAll I ds _ its ha rv
      exact PySem.SeqAt.count_list_data hL.1.isList h4 r1 (PyData.plainAll_of_canLay0 _ hxs) (PyData.plain_of_canLay0 _ (SeqAt.canLay_of_shaped sd)) hroom ⟨.int ((ds.countP fun y => PyData.eqv y d : Nat) : Int), H, I.tok _, ⟨_, rfl⟩, q⟩
end L2

namespace Ml
open PySem PySem.Spec PyProof.Rows L2
variable {G : Gx}
/-- an exception that is pinned -/
def ExB (G : Gx) (all : List Nat) (p : Addr × Obj) (x : Exc) : Prop := Zc (.ref (G.cl x.cls)) none p.2 ∧ (∃ vs, p.2.data = .fields vs) ∧ all.contains x.cls = true
theorem ev_isX {a : Addr} {σ : L2.St} {H : Hp} {D : Addr} {ta tb : TE} {c : V} {cv : Value} {b : Bool} (ha : Ev ta σ H (.ref a)) (hb : Ev tb σ H c) (hc : ClsV c cv) (e : PySem.W.kitOne G.K (.ref D) cv = some b) :
    Ev (tCB (rIsEB G.K D a) (tCons ta (tCons tb tNil))) σ H (.bl b) := ev_cb (ea_cons ha (ea_cons hb ea_nil)) fun _ q => ⟨c, cv, b, rfl, hc, e, q⟩
theorem mt_countK {X : Cx} (K : PySem.W.Frag) (hu : X.A.units + 65 < cLine) (hK : X.K = K := by rfl) : MtR X "list.count" (rCountD K) := by subst hK; exact mt_countD hu
theorem huH {k : Nat} {A : Around} (r : L2H.RoomH k A) : A.units + 65 < cLine := by have := r.un; omega
theorem hu0 {k : Nat} {A : Around} (r : Room k A) : A.units + 65 < cLine := by have := r.un; omega
theorem hotRoom {j k : Nat} {A : Around} {v : Option Value} (r : Room k A) (h : j ≤ k) : L2H.RoomH j (A.mark v) := ⟨(r.mono h).dp, (r.mono h).un⟩
section
variable {H : Hp} {σ σ' : L2.St} {D : Ends}
theorem w_asE {K : PySem.W.Frag} {c : Value} {i : Nat} {ts : Addr → Value → Option Addr → TS} {Wout : WX} {all subs : List Nat} {x : Exc} {β : Type} {A B : R β} {q : β → Prop} {e : Exc → Prop}
    (ex : all.contains x.cls = true → PySem.W.exmOne K (.ref (G.cl x.cls)) c = some (subs.contains x.cls)) (hm : R.wp (catchR all subs x A B) q e)
    (h1 : all.contains x.cls = true → R.wp A q e → ∀ a, H a = none → ts a (.ref (G.cl x.cls)) none { nx := fun σ' H' => D.nx (σ'.set i none) H', rt := D.rt, bk := fun σ' H' => D.bk (σ'.set i none) H', ct := fun σ' H' => D.ct (σ'.set i none) H' } (σ.set i (some (.ref a))) H)
    (h2 : R.wp B q e → Wout (.ref (G.cl x.cls)) none σ H) : Eok G x (WE (wAs K c i ts Wout D) σ) H := by
  unfold catchR at hm
  by_cases c1 : all.contains x.cls = true
  · rw [if_pos c1] at hm
    refine ⟨_, ex c1, fun z => ?_, fun z => ?_⟩
    · rw [if_pos z] at hm; exact h1 c1 hm
    · rw [z, if_neg Bool.false_ne_true] at hm; exact h2 hm
  · rw [if_neg c1] at hm; exact hm.elim
end
section
variable {α : Type} [Im G α] [DecidableEq α] [Lay α] [Pd G α] {H : Hp} {σ : L2.St} {Q : VK} {v w : V} {x y : α}
theorem countP_pd {xs : List α} {x : α} : (xs.map (Pd.pd G)).countP (fun y => PyData.eqv y (Pd.pd G x)) = xs.countP (fun y => decide (y = x)) := by
  rw [List.countP_map]
  congr 1
  funext y
  show PyData.eqv (Pd.pd G y) (Pd.pd G x) = _
  rw [Pd.eqv]
theorem k_count {a : Addr} {xs : List α} {x : α} (d1 : Dp G.K H (.ref a) (Pd.pd G xs)) (d2 : Dp G.K H w (Pd.pd G x)) (l1 : Lay.lay xs = true) (l2 : Lay.lay x = true) (d : Pd.dep G (List α) ≤ 64) (d0 : Pd.dep G α ≤ 64)
    (q : Q (.int ((xs.countP fun y => decide (y = x) : Nat) : Int)) H) : rCountD G.K (.ref a) [w] H Q :=
  ⟨a, w, _, _, rfl, rfl, d1, d2, shapedP (x := xs) l1 d, shapedP l2 d0, by rw [countP_pd]; exact q⟩
end
end Ml


namespace Ml
open PySem L2
/-! ### plain lemmas: loops, items, texts -/
section
variable {α β σ ρ : Type}
theorem forR_ok {f : σ → α → R σ} (I : List α → σ → Prop) : ∀ {xs : List α} {s : σ} (pre : List α), I pre s → (∀ p x q s, pre ++ xs = p ++ x :: q → I p s → ∃ s', f s x = .ok s' ∧ I (p ++ [x]) s') → ∃ s', forR f xs s = .ok s' ∧ I (pre ++ xs) s'
  | [], s, pre, h0, _ => ⟨s, rfl, by rw [List.append_nil]; exact h0⟩
  | x :: xs, s, pre, h0, hs => by
    obtain ⟨s1, e1, h1⟩ := hs pre x xs s rfl h0
    obtain ⟨s2, e2, h2⟩ := forR_ok I (xs := xs) (s := s1) (pre ++ [x]) h1 fun p y q s e => hs p y q s (by rw [← e]; simp)
    refine ⟨s2, ?_, by rw [List.append_assoc] at h2; exact h2⟩
    show (f s x).bind _ = _
    rw [e1, R.bind_ok]; exact e2
theorem forR_inv {f : σ → α → R σ} {xs : List α} {s : σ} (I : List α → σ → Prop) (h0 : I [] s) (hs : ∀ p x q s, xs = p ++ x :: q → I p s → ∃ s', f s x = .ok s' ∧ I (p ++ [x]) s') : ∃ s', forR f xs s = .ok s' ∧ I xs s' := by
  obtain ⟨s', h1, h2⟩ := forR_ok I (xs := xs) (s := s) [] h0 fun p x q s e => hs p x q s (by simpa using e)
  exact ⟨s', h1, by simpa using h2⟩
/-- an invariant that does not look at the place -/
theorem forR_keep {f : σ → α → R σ} {xs : List α} {s : σ} (I : σ → Prop) (h0 : I s) (hs : ∀ x s, x ∈ xs → I s → ∃ s', f s x = .ok s' ∧ I s') : ∃ s', forR f xs s = .ok s' ∧ I s' :=
  forR_inv (fun _ s => I s) h0 fun p x q s e h => hs x s (by rw [e]; simp) h
theorem forR_foldl {f : σ → α → R σ} {g : σ → α → σ} {xs : List α} {s : σ} (h : ∀ s x, x ∈ xs → f s x = .ok (g s x)) : forR f xs s = .ok (xs.foldl g s) := by
  induction xs generalizing s with
  | nil => rfl
  | cons x xs ih =>
    show (f s x).bind _ = _
    rw [h s x (by simp), R.bind_ok]
    exact ih fun s y hy => h s y (by simp [hy])
theorem forF_inv {f : σ → α → R (Fl σ ρ)} (I : List α → σ → Prop) : ∀ {xs : List α} {s : σ} (pre : List α), I pre s → (∀ p x q s, pre ++ xs = p ++ x :: q → I p s → ∃ s', f s x = .ok (.go s') ∧ I (p ++ [x]) s') → ∃ s', forF f xs s = .ok (.go s') ∧ I (pre ++ xs) s'
  | [], s, pre, h0, _ => ⟨s, rfl, by rw [List.append_nil]; exact h0⟩
  | x :: xs, s, pre, h0, hs => by
    obtain ⟨s1, e1, h1⟩ := hs pre x xs s rfl h0
    obtain ⟨s2, e2, h2⟩ := forF_inv I (xs := xs) (s := s1) (pre ++ [x]) h1 fun p y q s e => hs p y q s (by rw [← e]; simp)
    refine ⟨s2, ?_, by rw [List.append_assoc] at h2; exact h2⟩
    show (f s x).bind _ = _
    rw [e1, R.bind_ok]; exact e2
/-- the loop goes on to its end -/
theorem forF_keep {f : σ → α → R (Fl σ ρ)} {xs : List α} {s : σ} (I : σ → Prop) (h0 : I s) (hs : ∀ x s, x ∈ xs → I s → ∃ s', f s x = .ok (.go s') ∧ I s') : ∃ s', forF f xs s = .ok (.go s') ∧ I s' := by
  obtain ⟨s', h1, h2⟩ := forF_inv (fun _ s => I s) (xs := xs) (s := s) [] h0 fun p x q s e h => hs x s (by rw [List.nil_append] at e; rw [e]; simp) h
  exact ⟨s', h1, h2⟩
theorem compR_map {f : Unit → α → R (Unit × Option β)} {g : α → β} {xs : List α} (h : ∀ x, x ∈ xs → f () x = .ok ((), some (g x))) : compR f xs () = .ok ((), xs.map g) := by
  induction xs with
  | nil => rfl
  | cons x xs ih =>
    show (f () x).bind _ = _
    rw [h x (by simp), R.bind_ok, ih fun y hy => h y (by simp [hy])]
    rfl
theorem compR_filterMap {f : Unit → α → R (Unit × Option β)} {g : α → Option β} {xs : List α} (h : ∀ x, x ∈ xs → f () x = .ok ((), g x)) : compR f xs () = .ok ((), xs.filterMap g) := by
  induction xs with
  | nil => rfl
  | cons x xs ih =>
    show (f () x).bind _ = _
    rw [h x (by simp), R.bind_ok, ih fun y hy => h y (by simp [hy])]
    cases e : g x with
    | none => simp [e]
    | some y => simp [e]
theorem compR_all {f : Unit → α → R (Unit × Option β)} {xs : List α} (P : β → Prop) (h : ∀ x, x ∈ xs → ∃ y, f () x = .ok ((), some y) ∧ P y) : ∃ ys, compR f xs () = .ok ((), ys) ∧ ys.length = xs.length ∧ ∀ y, y ∈ ys → P y := by
  induction xs with
  | nil => exact ⟨[], rfl, rfl, by simp⟩
  | cons x xs ih =>
    obtain ⟨y, e, p⟩ := h x (by simp)
    obtain ⟨ys, e2, l, q⟩ := ih fun z hz => h z (by simp [hz])
    refine ⟨y :: ys, ?_, by simp [l], fun z hz => ?_⟩
    · show (f () x).bind _ = _
      rw [e, R.bind_ok, e2]; rfl
    · rcases List.mem_cons.mp hz with rfl | hz
      · exact p
      · exact q z hz
/-- a comprehension that carries a state -/
theorem compR_keep {f : σ → α → R (σ × Option β)} {xs : List α} {s : σ} (I : σ → Prop) (P : β → Prop) (h0 : I s) (h : ∀ s x, x ∈ xs → I s → ∃ s' y, f s x = .ok (s', some y) ∧ I s' ∧ P y) : ∃ s' ys, compR f xs s = .ok (s', ys) ∧ I s' ∧ ys.length = xs.length ∧ ∀ y, y ∈ ys → P y := by
  induction xs generalizing s with
  | nil => exact ⟨s, [], rfl, h0, rfl, by simp⟩
  | cons x xs ih =>
    obtain ⟨s1, y, e, h1, p⟩ := h s x (by simp) h0
    obtain ⟨s2, ys, e2, h2, l, q⟩ := ih h1 fun s z hz => h s z (by simp [hz])
    refine ⟨s2, y :: ys, ?_, h2, by simp [l], fun z hz => ?_⟩
    · show (f s x).bind _ = _
      rw [e, R.bind_ok, e2]; rfl
    · rcases List.mem_cons.mp hz with rfl | hz
      · exact p
      · exact q z hz
theorem idxR_mem {xs : List α} {i : Int} (h0 : 0 ≤ i) (h1 : i < xs.length) : ∃ x, idxR xs i = .ok x ∧ x ∈ xs ∧ xs[i.toNat]? = some x := by
  obtain ⟨x, h, _⟩ := atI_ok h0 h1
  exact ⟨x, idxR_ok h0 h, List.mem_of_getElem? h, h⟩
theorem ixR_ok {xs : List α} {i : Int} (h0 : 0 ≤ i) (h1 : i < xs.length) : ixR xs i = .ok i.toNat := by
  unfold ixR ixN
  rw [if_pos h0, if_pos h1]
theorem mem_set {xs : List α} {j : Nat} {v x : α} (h : x ∈ xs.set j v) : x ∈ xs ∨ x = v := by
  rcases List.mem_or_eq_of_mem_set h with h | h
  · exact .inl h
  · exact .inr h
theorem cutL_sub {xs : List α} {lo hi : Option Int} : (cutL xs lo hi).Sublist xs := (List.take_sublist _ _).trans (List.drop_sublist _ _)
theorem cutL_mem {xs : List α} {lo hi : Option Int} {x : α} (h : x ∈ cutL xs lo hi) : x ∈ xs := cutL_sub.subset h
theorem cutL_len {xs : List α} {lo hi : Option Int} : (cutL xs lo hi).length ≤ xs.length := cutL_sub.length_le
theorem sIx_nn {n d : Nat} {i : Int} (h : 0 ≤ i) : HT.sIx n d (some i) = min i.toNat n := by
  show (if i < 0 then (i + (n : Int)).toNat else min i.toNat n) = _
  rw [if_neg (by omega)]
theorem cutL_to {xs : List α} {i : Int} (h : 0 ≤ i) : cutL xs none (some i) = xs.take i.toNat := by
  unfold cutL
  rw [sIx_nn h, HT.sIx_none, List.drop_zero, Nat.sub_zero]
  by_cases c : i.toNat ≤ xs.length
  · rw [Nat.min_eq_left c]
  · rw [Nat.min_eq_right (by omega), List.take_of_length_le (Nat.le_refl _), List.take_of_length_le (by omega)]
theorem cutL_from {xs : List α} {i : Int} (h : 0 ≤ i) : cutL xs (some i) none = xs.drop i.toNat := by
  unfold cutL
  rw [sIx_nn h, HT.sIx_none]
  by_cases c : i.toNat ≤ xs.length
  · rw [Nat.min_eq_left c, List.take_of_length_le (by rw [List.length_drop]; exact Nat.le_refl _)]
  · rw [Nat.min_eq_right (by omega), List.drop_length, List.drop_of_length_le (by omega), List.take_nil]
theorem cutL_but1 {xs : List α} : cutL xs none (some (-1)) = xs.dropLast := by
  unfold cutL
  have e : HT.sIx xs.length xs.length (some (-1)) = (-1 + (xs.length : Int)).toNat := by
    show (if (-1 : Int) < 0 then (-1 + (xs.length : Int)).toNat else min (-1 : Int).toNat xs.length) = _
    rw [if_pos (by decide)]
  rw [HT.sIx_none, e, List.drop_zero, Nat.sub_zero, List.dropLast_eq_take]
  congr 1; omega
theorem rngL_mem {lo x : Int} {n : Nat} (h : x ∈ rngL lo n) : lo ≤ x ∧ x < lo + n := by
  unfold rngL at h
  obtain ⟨i, hi, rfl⟩ := List.mem_map.mp h
  have := List.mem_range.mp hi
  omega
end
/-! texts -/
theorem len_app (a b : Str) : (a ++ b).length = a.length + b.length := by
  show (a.cps ++ b.cps).size = a.cps.size + b.cps.size
  rw [Array.size_append]
theorem tl_app (a b : Str) : (a ++ b).cps.toList = a.cps.toList ++ b.cps.toList := by
  show (a.cps ++ b.cps).toList = _
  rw [Array.toList_append]
theorem len_tl (x : Str) : x.length = x.cps.toList.length := by simp [Str.length]
theorem str_ext {x y : Str} (h : x.cps.toList = y.cps.toList) : x = y := Str.ext' (Array.toList_inj.mp h)
/-- all signs below 128 -/
def Asc (x : Str) : Prop := ∀ c, c ∈ x.cps.toList → c < 128
theorem Asc.app {a b : Str} (ha : Asc a) (hb : Asc b) : Asc (a ++ b) := fun c hc => by
  rw [tl_app] at hc
  rcases List.mem_append.mp hc with h | h
  · exact ha c h
  · exact hb c h
theorem Asc.sg {c : Nat} (h : c < 128) : Asc (sg c) := fun d hd => by
  have : d = c := by simpa [Ml.sg] using hd
  omega
theorem Asc.lit {x : Str} (h : x.cps.toList.all (· < 128) = true) : Asc x := fun c hc => by
  have := List.all_eq_true.mp h c hc
  simpa using this
theorem Asc.lay {x : Str} (h : Asc x) : (Lay.lay x : Bool) = true := by
  show PyData.strOk x = true
  unfold PyData.strOk
  rw [← Array.all_toList]
  exact List.all_eq_true.mpr fun c hc => decide_eq_true (Nat.lt_trans (h c hc) (by decide))
theorem lay_all {xs : List Str} (h : ∀ x, x ∈ xs → Asc x) : layAllB xs = true := List.all_eq_true.mpr fun x hx => (h x hx).lay
theorem joinL_nil : ∀ ls : List (List Nat), TL.joinL [] ls = ls.flatten
  | [] => rfl
  | [l] => by simp [TL.joinL]
  | l :: m :: r => by
    rw [TL.joinL, joinL_nil (m :: r)]; simp
theorem join_nil (ys : List Str) : (Txt.join ("" : Str) ys).cps.toList = (ys.map fun y => y.cps.toList).flatten := by
  rw [TL.join_eq]
  have ej := TL.tl_join ("" : Str) ys
  have e0 : TL.tl ("" : Str) = [] := by decide
  rw [e0, joinL_nil] at ej
  exact ej
theorem len_join_nil (ys : List Str) : (Txt.join ("" : Str) ys).length = (ys.map (·.length)).sum := by
  rw [len_tl, join_nil, List.length_flatten, List.map_map]
  exact congrArg List.sum (List.map_congr_left fun y _ => (len_tl y).symm)
theorem sum_le {xs : List Str} {k : Nat} (h : ∀ x, x ∈ xs → x.length ≤ k) : (xs.map (·.length)).sum ≤ xs.length * k := by
  induction xs with
  | nil => simp
  | cons x xs ih =>
    have h1 := h x (by simp)
    have h2 := ih fun y hy => h y (by simp [hy])
    rw [List.map_cons, List.sum_cons, List.length_cons, Nat.succ_mul]
    omega
theorem Asc.join {ys : List Str} (h : ∀ y, y ∈ ys → Asc y) : Asc (Txt.join ("" : Str) ys) := fun c hc => by
  rw [join_nil] at hc
  obtain ⟨l, hl, hc⟩ := List.mem_flatten.mp hc
  obtain ⟨y, hy, rfl⟩ := List.mem_map.mp hl
  exact h y hy c hc
theorem upper_tl {x : Str} (h : Asc x) : (Txt.upper x).cps.toList = x.cps.toList.map PyProof.Rows.up1 := by
  rw [PyProof.Rows.upper_ascii h]; simp
theorem lower_tl {x : Str} (h : Asc x) : (Txt.lower x).cps.toList = x.cps.toList.map PyProof.Rows.lo1 := by
  rw [PyProof.Rows.lower_ascii h]; simp
theorem up1_lt {c : Nat} (h : c < 128) : PyProof.Rows.up1 c < 128 := by unfold PyProof.Rows.up1; split <;> omega
theorem lo1_lt {c : Nat} (h : c < 128) : PyProof.Rows.lo1 c < 128 := by unfold PyProof.Rows.lo1; split <;> omega
theorem Asc.upper {x : Str} (h : Asc x) : Asc (Txt.upper x) := fun c hc => by
  rw [upper_tl h] at hc
  obtain ⟨d, hd, rfl⟩ := List.mem_map.mp hc
  exact up1_lt (h d hd)
theorem Asc.lower {x : Str} (h : Asc x) : Asc (Txt.lower x) := fun c hc => by
  rw [lower_tl h] at hc
  obtain ⟨d, hd, rfl⟩ := List.mem_map.mp hc
  exact lo1_lt (h d hd)
theorem len_upper {x : Str} (h : Asc x) : (Txt.upper x).length = x.length := by rw [len_tl, upper_tl h, List.length_map, len_tl]
theorem len_lower {x : Str} (h : Asc x) : (Txt.lower x).length = x.length := by rw [len_tl, lower_tl h, List.length_map, len_tl]
theorem len_sg (c : Nat) : (sg c).length = 1 := rfl
theorem cutS_tl (z : Str) (lo hi : Option Int) : (cutS z lo hi).cps.toList = cutL z.cps.toList lo hi := by
  show ((cutS z lo hi).cps).toList = _
  unfold cutS cutL
  rw [← len_tl]
theorem cutS_asc {x : Str} {a b : Option Int} (h : Asc x) : Asc (cutS x a b) := fun c hc => h c (by
  rw [cutS_tl] at hc
  exact cutL_mem hc)
theorem cutS_len2 {x : Str} {n : Int} (h : 0 ≤ n) : (cutS x none (some n)).length + (cutS x (some n) none).length ≤ x.length := by
  rw [len_tl, len_tl, len_tl, cutS_tl, cutS_tl, cutL_to h, cutL_from h, List.length_take, List.length_drop]; omega
/-! str of a small number -/
theorem log2_small {i : Int} (h0 : -1000000000000 < i) (h1 : i < 1000000000000) : i.natAbs.log2 < 1920 := by
  have h : i.natAbs < 2 ^ 40 := by omega
  by_cases z : i.natAbs = 0
  · rw [z]; decide
  · exact Nat.lt_trans ((Nat.log2_lt z).mpr h) (by decide)
theorem tl_num (n : Nat) : (Str.ofString (toString ((n : Nat) : Int))).cps.toList = TL.numL n := TL.tl_num n
end Ml
namespace Ml
open PySem L2
/-! ### total programs: it comes to an answer with P -/
def Ok {α : Type} (m : R α) (P : α → Prop) : Prop := ∃ a, m = .ok a ∧ P a
namespace Ok
variable {α β σ ρ : Type} {P : ρ → Prop}
theorem ret {a : ρ} (h : P a) : Ok (.ok a) P := ⟨a, rfl, h⟩
theorem bind {m : R α} {f : α → R ρ} {Q : α → Prop} (h : Ok m Q) (k : ∀ a, Q a → Ok (f a) P) : Ok (m.bind f) P := by
  obtain ⟨a, e, q⟩ := h
  rw [e, R.bind_ok]; exact k a q
theorem bindE {m : R α} {f : α → R ρ} {a : α} (h : m = .ok a) (k : Ok (f a) P) : Ok (m.bind f) P := by
  rw [h, R.bind_ok]; exact k
theorem lets {a : α} {f : α → R ρ} (k : Ok (f a) P) : Ok ((R.ok a).bind f) P := k
theorem name {a : α} {f : α → R ρ} (k : ∀ y, y = a → Ok (f y) P) : Ok ((R.ok a).bind f) P := k a rfl
theorem need {p : Prop} [Decidable p] {m : R ρ} (h : p) (k : Ok m P) : Ok (R.need p m) P := by rw [R.need_pos h]; exact k
theorem ite {c : Prop} [Decidable c] {a b : R ρ} (h1 : c → Ok a P) (h2 : ¬ c → Ok b P) : Ok (if c then a else b) P := by
  by_cases h : c
  · rw [if_pos h]; exact h1 h
  · rw [if_neg h]; exact h2 h
theorem ifT {c : Prop} [Decidable c] {a b : R ρ} (h : c) (k : Ok a P) : Ok (if c then a else b) P := by rw [if_pos h]; exact k
theorem ifF {c : Prop} [Decidable c] {a b : R ρ} (h : ¬ c) (k : Ok b P) : Ok (if c then a else b) P := by rw [if_neg h]; exact k
theorem mono {Q : ρ → Prop} {m : R ρ} (h : Ok m Q) (k : ∀ a, Q a → P a) : Ok m P := by
  obtain ⟨a, e, q⟩ := h
  exact ⟨a, e, k a q⟩
theorem eq {m : R ρ} {v : ρ} (h : Ok m (· = v)) : m = .ok v := by
  obtain ⟨a, e, q⟩ := h
  rw [e, q]
theorem idx {xs : List α} {i : Int} {f : α → R ρ} (h0 : 0 ≤ i) (h1 : i < xs.length) (k : ∀ x, x ∈ xs → xs[i.toNat]? = some x → Ok (f x) P) : Ok ((idxR xs i).bind f) P := by
  obtain ⟨x, e, m, g⟩ := idxR_mem h0 h1
  rw [e, R.bind_ok]; exact k x m g
theorem ix {xs : List α} {i : Int} {f : Nat → R ρ} (h0 : 0 ≤ i) (h1 : i < xs.length) (k : Ok (f i.toNat) P) : Ok ((ixR xs i).bind f) P := by
  rw [ixR_ok h0 h1, R.bind_ok]; exact k
theorem forI {f : σ → α → R σ} {xs : List α} {s : σ} {rest : σ → R ρ} (I : List α → σ → Prop) (h0 : I [] s) (hs : ∀ p x q s, xs = p ++ x :: q → I p s → Ok (f s x) (I (p ++ [x]))) (k : ∀ s, I xs s → Ok (rest s) P) : Ok ((forR f xs s).bind rest) P :=
  bind (forR_inv I h0 hs) k
theorem forK {f : σ → α → R σ} {xs : List α} {s : σ} {rest : σ → R ρ} (I : σ → Prop) (h0 : I s) (hs : ∀ x s, x ∈ xs → I s → Ok (f s x) I) (k : ∀ s, I s → Ok (rest s) P) : Ok ((forR f xs s).bind rest) P :=
  bind (forR_keep I h0 hs) k
theorem forL {f : σ → α → R σ} (g : σ → α → σ) {xs : List α} {s : σ} {rest : σ → R ρ} (hs : ∀ x s, x ∈ xs → f s x = .ok (g s x)) (k : Ok (rest (xs.foldl g s)) P) : Ok ((forR f xs s).bind rest) P :=
  bindE (forR_foldl fun s x h => hs x s h) k
theorem forFK {τ : Type} {f : σ → α → R (Fl σ τ)} {xs : List α} {s : σ} {rest : Fl σ τ → R ρ} (I : σ → Prop) (h0 : I s) (hs : ∀ x s, x ∈ xs → I s → Ok (f s x) (fun r => ∃ s', r = .go s' ∧ I s')) (k : ∀ s, I s → Ok (rest (.go s)) P) : Ok ((forF f xs s).bind rest) P := by
  obtain ⟨s', e, h⟩ := forF_keep (f := f) (xs := xs) I h0 fun x s hx hI => by
    obtain ⟨r, e, s', rfl, h⟩ := hs x s hx hI
    exact ⟨s', e, h⟩
  exact bindE e (k s' h)
theorem forFI {τ : Type} {f : σ → α → R (Fl σ τ)} {xs : List α} {s : σ} {rest : Fl σ τ → R ρ} (I : List α → σ → Prop) (h0 : I [] s) (hs : ∀ p x q s, xs = p ++ x :: q → I p s → Ok (f s x) (fun r => ∃ s', r = .go s' ∧ I (p ++ [x]) s')) (k : ∀ s, I xs s → Ok (rest (.go s)) P) : Ok ((forF f xs s).bind rest) P := by
  obtain ⟨s', e, h⟩ := forF_inv (f := f) (xs := xs) I [] h0 fun p x q s hx hI => by
    obtain ⟨r, e, s', rfl, h⟩ := hs p x q s (by simpa using hx) hI
    exact ⟨s', e, h⟩
  exact bindE e (k s' (by simpa using h))
/-- a comprehension whose items all have Q -/
theorem comp {f : Unit → α → R (Unit × Option β)} {xs : List α} {rest : Unit × List β → R ρ} (Q : β → Prop) (h : ∀ x, x ∈ xs → Ok (f () x) (fun r => ∃ y, r.2 = some y ∧ Q y)) (k : ∀ ys, ys.length = xs.length → (∀ y, y ∈ ys → Q y) → Ok (rest ((), ys)) P) : Ok ((compR f xs ()).bind rest) P := by
  obtain ⟨ys, e, l, q⟩ := compR_all (f := f) (xs := xs) Q fun x hx => by
    obtain ⟨r, e, y, e2, hy⟩ := h x hx
    exact ⟨y, by rw [e, ← e2], hy⟩
  exact bindE e (k ys l q)
/-- .. whose items are told -/
theorem compM {f : Unit → α → R (Unit × Option β)} {xs : List α} {rest : Unit × List β → R ρ} (g : α → β) (h : ∀ x, x ∈ xs → Ok (f () x) (fun r => r.2 = some (g x))) (k : Ok (rest ((), xs.map g)) P) : Ok ((compR f xs ()).bind rest) P := by
  refine bindE (compR_map (g := g) fun x hx => ?_) k
  obtain ⟨r, e, e2⟩ := h x hx
  rw [e, ← e2]
theorem compF {f : Unit → α → R (Unit × Option β)} {xs : List α} {rest : Unit × List β → R ρ} (g : α → Option β) (h : ∀ x, x ∈ xs → Ok (f () x) (fun r => r.2 = g x)) (k : Ok (rest ((), xs.filterMap g)) P) : Ok ((compR f xs ()).bind rest) P := by
  refine bindE (compR_filterMap (g := g) fun x hx => ?_) k
  obtain ⟨r, e, e2⟩ := h x hx
  rw [e, ← e2]
/-- .. that carries a state -/
theorem compS {f : σ → α → R (σ × Option β)} {xs : List α} {s : σ} {rest : σ × List β → R ρ} (I : σ → Prop) (Q : β → Prop) (h0 : I s) (h : ∀ s x, x ∈ xs → I s → Ok (f s x) (fun r => I r.1 ∧ ∃ y, r.2 = some y ∧ Q y)) (k : ∀ s ys, I s → ys.length = xs.length → (∀ y, y ∈ ys → Q y) → Ok (rest (s, ys)) P) : Ok ((compR f xs s).bind rest) P := by
  obtain ⟨s', ys, e, hI, l, q⟩ := compR_keep (f := f) (xs := xs) I Q h0 fun s x hx hI => by
    obtain ⟨r, e, h1, y, e2, hy⟩ := h s x hx hI
    exact ⟨r.1, y, by rw [e, ← e2], h1, hy⟩
  exact bindE e (k s' ys hI l q)
end Ok
theorem pre_lt {α : Type} {xs p q : List α} {x : α} (e : xs = p ++ x :: q) : p.length < xs.length := by
  rw [e, List.length_append, List.length_cons]; omega
theorem lt_line {n m : Nat} (h : n ≤ m) (hm : m < 16777216) : n < sizeLine := Nat.lt_of_le_of_lt h hm
theorem le_line {n : Nat} (h : n ≤ 16777216) : n ≤ sizeLine := h
end Ml

namespace Ml
open PySem PySem.Spec PyProof.Rows L2
variable {G : Gx}
/-- a text, n times -/
def repS (a : Str) (n : Nat) : Str := ⟨(List.replicate n a.cps).foldl (· ++ ·) #[]⟩
theorem rep_tl (a : Str) (n : Nat) : (repS a n).cps.toList = (List.replicate n a.cps.toList).flatten := by
  have g : ∀ (n : Nat) (z : Array Nat), ((List.replicate n a.cps).foldl (· ++ ·) z).toList = z.toList ++ (List.replicate n a.cps.toList).flatten := by
    intro n
    induction n with
    | zero => intro z; simp
    | succ n ih => intro z; simp [List.replicate_succ, ih]
  show ((List.replicate n a.cps).foldl (· ++ ·) #[]).toList = _
  rw [g]; simp
theorem rep_len (a : Str) (n : Nat) : (repS a n).length = a.length * n := by
  rw [len_tl, rep_tl, len_tl]; simp [Nat.mul_comm]
def rRepS : R2 := fun x y H Q => ∃ (a : Str) (n : Int), x = .str a ∧ y = .int n ∧ -(2 ^ 62) ≤ n ∧ a.length * n.toNat ≤ sizeLine ∧ n < 2 ^ 62 ∧ Q (.str (repS a n.toNat)) H
theorem op_repS {X : Cx} : OpR X (binaryOp .Mult) rRepS := by
  intro pins s σ H x y v u Q I rx ry h
  obtain ⟨a, n, rfl, rfl, h1, h2, h3, q⟩ := h
  obtain ⟨t, rfl⟩ := rx
  obtain ⟨t2, rfl⟩ := ry
  refine PySem.P.mul_str (by rw [decide_eq_false (by omega), decide_eq_false (by omega)]; rfl) (fun z1 z2 => ?_) (fun z1 z2 => ?_) ?_
  · have hn : 0 < n := by omega
    intro z
    have h4 : (a.length : Int) * n ≤ 2 ^ 63 - 1 := by
      have e : ((a.length * n.toNat : Nat) : Int) = (a.length : Int) * n := by
        rw [Int.natCast_mul, Int.toNat_of_nonneg (by omega)]
      have := sizeLine_eq
      omega
    have := (Int.le_ediv_iff_mul_le hn).mpr h4
    omega
  · exact decide_eq_false (Nat.not_lt.mpr h2)
  · by_cases z : n < 1
    · rw [if_pos z]
      have e : n.toNat = 0 := by omega
      rw [e] at q
      exact ⟨by decide, ⟨.str Str.empty, H, I.tok _, ⟨_, rfl⟩, q⟩⟩
    · rw [if_neg z]
      by_cases c : (n == 1 || a.length == 0) = true
      · rw [if_pos c]
        have e : repS a n.toNat = a := by
          apply str_ext
          rw [rep_tl]
          rw [Bool.or_eq_true] at c
          rcases c with c | c
          · have : n = 1 := by simpa using c
            subst this; simp
          · have : a.length = 0 := by simpa using c
            have : a.cps.toList = [] := List.eq_nil_of_length_eq_zero (by rw [← len_tl]; exact this)
            rw [this]; simp
        rw [e] at q
        exact ⟨.str a, H, I, ⟨_, rfl⟩, q⟩
      · rw [if_neg c]
        exact ⟨by show (repS a n.toNat).length ≤ sizeLine; rw [rep_len]; exact h2, ⟨.str (repS a n.toNat), H, I.tok _, ⟨_, rfl⟩, q⟩⟩
theorem ev_repS {σ : L2.St} {H : Hp} {ta tb : TE} {a : Str} {n : Int} (ha : Ev ta σ H (.str a)) (hb : Ev tb σ H (.int n)) (h : a.length * n.toNat ≤ sizeLine ∧ -(2 ^ 62) ≤ n ∧ n < 2 ^ 62) : Ev (tOp rRepS ta tb) σ H (.str (repS a n.toNat)) :=
  ev_op ha hb fun Q q => ⟨a, n, rfl, rfl, h.2.1, h.1, h.2.2, q⟩
theorem r_repS {H : Hp} {a : Str} {n : Int} {Q : VK} (h : a.length * n.toNat ≤ sizeLine ∧ -(2 ^ 62) ≤ n ∧ n < 2 ^ 62) (q : Q (.str (repS a n.toNat)) H) : rRepS (.str a) (.int n) H Q := ⟨a, n, rfl, rfl, h.2.1, h.1, h.2.2, q⟩
/-- x is None, of a thing of any sort -/
def Any.isN : Any → Bool
  | .non => true
  | _ => false
theorem isN_of {H : Hp} {v : V} {x : Any} (h : Im.im G H v x) : decide (v = .non) = Any.isN x := by
  have h : imAny H v x := h
  cases x with
  | non => rw [imAny] at h; subst h; rfl
  | str s => rw [imAny] at h; subst h; rfl
  | int s => rw [imAny] at h; subst h; rfl
  | bl s => rw [imAny] at h; subst h; rfl
  | tup s => rw [imAny] at h; obtain ⟨a, vs, rfl, _⟩ := h; rfl
  | lst s => rw [imAny] at h; obtain ⟨a, vs, rfl, _⟩ := h; rfl
  | oth s => rw [imAny] at h; obtain ⟨a, o, rfl, _⟩ := h; rfl
theorem ev_isN {σ : L2.St} {H : Hp} {ta : TE} {v : V} {x : Any} (ha : Ev ta σ H v) (h : Im.im G H v x) : Ev (tIsN ta) σ H (.bl (Any.isN x)) := fun Q q => ha _ (by rw [isN_of h]; exact q)
theorem ev_notN {σ : L2.St} {H : Hp} {ta : TE} {v : V} {x : Any} (ha : Ev ta σ H v) (h : Im.im G H v x) : Ev (tNotN ta) σ H (.bl (!Any.isN x)) := fun Q q => ha _ (by rw [isN_of h]; exact q)
end Ml

namespace PySem.W
open PySem PySem.Spec PySem.Calls PyProof.Rows
theorem kit_own {K : Frag} {i j : Addr} {b : Bool} (hdct : hasDictIn K j = true) (ht : typeIn K (.ref j) = some (.type "type")) (h : subIn K (.ref i) (.ref j) = some b) (hn : b = true ∨ ¬ i = j) : kitOne K (.ref i) (.ref j) = some b := by
  obtain ⟨cd, hc, _⟩ := any_some hdct
  have e2 : ((clsIn K j).isSome && typeIn K (.ref j) == some (.type "type")) = true := by rw [hc, ht] <;> rfl
  have e3 : kitCls K (.ref i) (.ref j) = some b := by
    show (if ((clsIn K j).isSome && typeIn K (.ref j) == some (.type "type")) = true then subIn K (.ref i) (.ref j) else none) = some b
    rw [if_pos e2]; exact h
  unfold kitOne
  split
  · next q =>
    rcases hn with rfl | hn
    · rfl
    · have : Value.ref i = Value.ref j := eq_of_beq q
      exact absurd (by injection this) hn
  · exact e3
theorem kit_val {K : Frag} {i : Addr} {b : Bool} (h : subIn K (.ref i) (.type "ValueError") = some b) : kitOne K (.ref i) (.type "ValueError") = some b := by
  unfold kitOne
  split
  · next q =>
    have : Value.ref i = Value.type "ValueError" := eq_of_beq q
    cases this
  · show (if kitMeta "ValueError" = true then subIn K (.ref i) (.type "ValueError") else none) = some b
    rw [if_pos (by decide +kernel)]; exact h
end PySem.W

/-! ### a state: a list of a number, the script, a number -/
namespace Ml
open PySem PySem.Spec PyProof.Rows L2
variable {G : Gx}
inductive StV where
  | i (n : Int) | s (x : Script)
def stIm (G : Gx) (H : Hp) (v : V) : StV → Prop
  | .i n => v = .int n
  | .s s => Im.im G H v s
theorem stIm_st {H H' : Hp} {v : V} {x : StV} (h : stIm G H v x) (st : Stab G H H') : stIm G H' v x := by
  cases x with
  | i n => exact h
  | s s =>
    have h : Im.im G H v s := h
    exact (Im.st h st : Im.im G H' v s)
instance stvI : Im G StV := ⟨stIm G, fun h s => stIm_st h s⟩
def stL (x : T3 Int Script Int) : List StV := [StV.i x.a, StV.s x.b, StV.i x.c]
@[reducible] def stA (p : Addr) (x : T3 Int Script Int) : Asn G := lstA p (stL x)
theorem st_get {H : Hp} {L : List (Asn G)} {i : Nat} {p : Addr} {x : T3 Int Script Int} (hS : Sep H L) (e : L[i]? = some (stA p x)) : ∃ ad, SqL G.K H p [.int x.a, .ref ad, .int x.c] ∧ Im.im G H (.ref ad) x.b := by
  obtain ⟨vs, h, m⟩ := hS.lst e
  have hl := m.len
  cases vs with
  | nil => cases hl
  | cons v1 vs =>
    cases vs with
    | nil => cases hl
    | cons v2 vs =>
      cases vs with
      | nil => cases hl
      | cons v3 vs =>
        cases vs with
        | cons v4 vs => cases hl
        | nil =>
          obtain ⟨h1, h2, h3, _⟩ := m
          have h1 : v1 = .int x.a := h1
          have h3 : v3 = .int x.c := h3
          have h2 : Im.im G H v2 x.b := h2
          obtain ⟨ad, e2, h4⟩ := im_script h2
          subst h1 h3 e2
          exact ⟨ad, .inl (.inl h), h2⟩
theorem st_im {H : Hp} {v : V} {x : Script} (h : Im.im G H v x) : Im.im G H v (StV.s x) := h
end Ml
namespace L2
open PySem PySem.Spec PyProof.Rows
section
variable {prog : Program} {w : World} {A : Around} {E : Value → Shared → Prop} {s : Shared}
theorem cat_tupE0 {t b : Addr} {ws : List Value} {Q : Value → Shared → Prop} (ht : IsTup s.heap t #[]) (hb : IsTup s.heap b ws.toArray) (h : Q (.ref b) s) : wpAny (model prog w) A (binaryOp .Add (.ref t) (.ref b)) Q E s := by
  obtain ⟨⟨cls, dd, data, sl⟩, ho, hc, n, hd⟩ := id ht
  obtain ⟨⟨cls2, dd2, data2, sl2⟩, ho2, hc2, n2, hd2⟩ := id hb
  simp only at hc hd hc2 hd2
  subst hc hd hc2 hd2
  exact PySem.concat_meets ⟨_, ho, rfl⟩ ⟨_, ho2, rfl⟩ noFill_tuple_add seq_tuple_add PySem.F.slot_tuple_add PySem.F.entry_tuple_add (PySem.F.args_tuple_add_2 _ _)
    (tuple_addW0 t b #[] ws.toArray n n2 dd dd2 sl sl2 rfl) ⟨ho, ho2, h⟩
end
/-- t + u, of any lengths -/
def rCatE (K : PySem.W.Frag) : R2 := fun x y H Q => ∃ a b xs ys, x = .ref a ∧ y = .ref b ∧ SqT K H a xs ∧ SqT K H b ys ∧ xs.length + ys.length ≤ sizeLine ∧
  (xs = [] → Q (.ref b) H) ∧ (xs ≠ [] → ys = [] → Q (.ref a) H) ∧ (xs ≠ [] → ys ≠ [] → ∀ p, H p = none → Q (.ref p) (upd H p (.tup (xs ++ ys))))
theorem op_catE {X : Cx} : OpR X (binaryOp .Add) (rCatE X.K) := by
  intro pins s σ H x y v u Q I rx ry h
  obtain ⟨a, b, xs, ys, rfl, rfl, ha, hb, hz, q0, q1, q2⟩ := h
  by_cases hx : xs = []
  · cases rx
    cases ry
    obtain ⟨its, r1, p1, _⟩ := I.tuple ha
    obtain ⟨its2, r2, p2, _⟩ := I.tuple hb
    have e : its = [] := r1.nil_iff.mpr hx
    subst e
    exact cat_tupE0 p1 p2 ⟨.ref b, H, I, rfl, q0 hx⟩
  · exact op_catT pins s σ H (.ref a) (.ref b) v u Q I rx ry ⟨a, b, xs, ys, rfl, rfl, ha, hb, hx, hz, q1 hx, q2 hx⟩
end L2
namespace Ml
open PySem PySem.Spec PyProof.Rows L2
variable {G : Gx} {H : Hp} {L : List (Asn G)} {Q : VK}
theorem catAK {X : Cx} (K : PySem.W.Frag) (hK : X.K = K := by rfl) : OpR X (binaryOp .Add) (rCatE K) := by subst hK; exact op_catE
theorem imL_nil_iff {vs : List V} {xs : List Any} (m : imL (G := G) H vs xs) : vs = [] ↔ xs = [] := by
  have := m.len
  cases vs <;> cases xs <;> simp_all
theorem k_catA {v w : V} {xs ys : List Any} (hS : Sep H L) (h1 : Im.im G H v (Any.tup xs)) (h2 : Im.im G H w (Any.tup ys)) (hl : xs.length + ys.length ≤ sizeLine)
    (k : ∀ v' H', Sep H' (imA v' (Any.tup (xs ++ ys)) :: L) → Q v' H') : rCatE G.K v w H Q := by
  obtain ⟨a, us, rfl, g1, m1⟩ := any_tup.mp h1
  obtain ⟨b, ws, rfl, g2, m2⟩ := any_tup.mp h2
  refine ⟨a, b, us, ws, rfl, rfl, SqT.of g1, SqT.of g2, by rw [m1.len, m2.len]; exact hl, fun z => k _ _ (hS.addIm ?_), fun _ z => k _ _ (hS.addIm ?_), fun _ _ p hp => k _ _ ?_⟩
  · have := (imL_nil_iff m1).mp z
    rw [this, List.nil_append]; exact h2
  · have := (imL_nil_iff m2).mp z
    rw [this, List.append_nil]; exact h1
  · refine (hS.more (same_new hp)).addIm (any_tup.mpr ⟨p, _, rfl, upd_same, ?_⟩)
    exact (m1.app m2).st (.of_same (same_new hp))
theorem k_slA {v : V} {xs : List Any} {lo hi : Option Int} (hS : Sep H L) (h1 : Im.im G H v (Any.tup xs)) (n : ¬ (HT.sIx xs.length 0 lo = 0 ∧ HT.sIx xs.length xs.length hi = xs.length))
    (k : ∀ v' H', Sep H' (imA v' (Any.tup (cutL xs lo hi)) :: L) → Q v' H') : rSlT G.K v lo hi H Q := by
  obtain ⟨a, us, rfl, g1, m1⟩ := any_tup.mp h1
  refine ⟨a, us, rfl, SqT.of g1, by rw [m1.len]; exact n, fun p hp => k _ _ ((hS.more (same_new hp)).addIm (any_tup.mpr ⟨p, _, rfl, upd_same, ?_⟩))⟩
  exact (cutL_im m1).st (.of_same (same_new hp))
theorem tupE {v : V} {x : Any} {xs : List Any} (h : Im.im G H v x) (e : x = .tup xs) : Im.im G H v (Any.tup xs) := e ▸ h
theorem k_listA {v : V} {xs : List Any} (hS : Sep H L) (h1 : Im.im G H v (Any.tup xs)) (k : ∀ p H', Sep H' (lstA p xs :: L) → Q (.ref p) H') : rListSq G.K [v] H Q := by
  obtain ⟨a, us, rfl, g1, m1⟩ := any_tup.mp h1
  refine ⟨a, us, rfl, .inr (SqT.of g1), fun p hp => k p _ ?_⟩
  exact hS.newL hp m1
theorem imL_str : ∀ {vs : List V} {xs : List Str}, imL (G := G) H vs xs → imL (G := G) H vs (xs.map Any.str)
  | [], [], _ => True.intro
  | v :: vs, x :: xs, h => ⟨any_str.mpr h.1, imL_str h.2⟩
theorem any_lstS {v : V} {xs : List Str} (h : Im.im G H v xs) : Im.im G H v (Any.lst (xs.map Any.str)) := by
  obtain ⟨a, vs, e, g, m⟩ := h
  exact any_lsts.mpr ⟨a, vs, e, g, imL_str m⟩
theorem any_lstA {v : V} {xs : List Any} (h : Im.im G H v xs) : Im.im G H v (Any.lst xs) := by
  obtain ⟨a, vs, e, g, m⟩ := h
  exact any_lsts.mpr ⟨a, vs, e, g, m⟩
def rIsBl : R2 := fun x y H Q => ∃ c d, x = .bl c ∧ y = .bl d ∧ Q (.bl (c == d)) H
def rIsnBl : R2 := fun x y H Q => ∃ c d, x = .bl c ∧ y = .bl d ∧ Q (.bl (c != d)) H
theorem op_isB {X : Cx} : OpR X (compareOp .Is) rIsBl := by
  intro pins s σ H x y v u Q I rx ry h
  obtain ⟨c, d, rfl, rfl, q⟩ := h
  cases rx
  cases ry
  exact is_bool ⟨.bl _, H, I, rfl, q⟩
theorem op_isnB {X : Cx} : OpR X (compareOp .IsNot) rIsnBl := by
  intro pins s σ H x y v u Q I rx ry h
  obtain ⟨c, d, rfl, rfl, q⟩ := h
  cases rx
  cases ry
  exact isnot_bool ⟨.bl _, H, I, rfl, q⟩
theorem ev_isB {σ : L2.St} {ta tb : TE} {c d : Bool} (ha : Ev ta σ H (.bl c)) (hb : Ev tb σ H (.bl d)) : Ev (tOp rIsBl ta tb) σ H (.bl (c == d)) := ev_op ha hb fun _ q => ⟨c, d, rfl, rfl, q⟩
theorem ev_isnB {σ : L2.St} {ta tb : TE} {c d : Bool} (ha : Ev ta σ H (.bl c)) (hb : Ev tb σ H (.bl d)) : Ev (tOp rIsnBl ta tb) σ H (.bl (c != d)) := ev_op ha hb fun _ q => ⟨c, d, rfl, rfl, q⟩
theorem ev_powC {σ : L2.St} {ta tb : TE} {i j : Int} (ha : Ev ta σ H (.int i)) (hb : Ev tb σ H (.int j)) (h : CPow i j) : Ev (tOp (rI CPow fun i j => .int (i ^ j.toNat)) ta tb) σ H (.int (i ^ j.toNat)) := ev_op ha hb fun _ q => ⟨i, j, rfl, rfl, h, q⟩
end Ml

/-! ### dicts of one's own: got, put, popped -/
namespace Ml
open PySem PySem.Spec PyProof.Rows L2
variable {G : Gx} {κ β : Type} [Kx κ] [DecidableEq κ] [Im G β] {H : Hp} {L L' : List (Asn G)} {σ : L2.St} {Q : VK} {td ty tx : TE} {k : κ} {a : Addr} {xs : List (κ × β)} {i : Nat}
/-- d[k], k there -/
theorem ev_dget {v : V} {y : β} (hS : Sep H L) (e : L[i]? = some (dictA a xs)) (hd : Ev td σ H (.ref a)) (hy : Ev ty σ H (kV (Kx.key k))) (g : DGet H a (kV (Kx.key k)) (some v)) : Ev (tDGet td ty) σ H v :=
  fun Q q => hd _ (hy _ ⟨a, v, rfl, g, q⟩)
theorem dget_some {y : β} (hS : Sep H L) (e : L[i]? = some (dictA a xs)) (h : dget xs k = some y) : ∃ v, DGet H a (kV (Kx.key k)) (some v) ∧ Im.im G H v y := by
  obtain ⟨r, g, h1, _⟩ := dget_at hS e (k := k) h
  obtain ⟨v, rfl, m⟩ := h1 y rfl
  exact ⟨v, g, m⟩
/-- what d[k] wants: that k is there -/
def dgetR (xs : List (κ × β)) (k : κ) : R β := match dget xs k with
  | some y => .ok y
  | none => .bad
theorem wp_dget {ρ : Type} {q : ρ → Prop} {e : Exc → Prop} {f : β → R ρ} (h : R.wp ((dgetR xs k).bind f) q e) : ∃ y, dget xs k = some y ∧ R.wp (f y) q e := by
  unfold dgetR at h
  cases c : dget xs k with
  | none => rw [c] at h; exact h.elim
  | some y => rw [c] at h; exact ⟨y, rfl, h⟩
/-- d[k] = v -/
theorem k_setD {v : V} {y : β} {P : Hp → Prop} (hS : Sep H L) (e : L[i]? = some (dictA a xs)) (hv : Im.im G H v y) (hl : xs.length < sizeLine) (e2 : L.set i (dictA a (dput xs k y)) = L') (q : ∀ H', Sep H' L' → P H') : rSetD (.ref a) (kV (Kx.key k)) v H P := by
  obtain ⟨ps, h, m⟩ := hS.dict e
  refine ⟨a, _, rfl, .inl ⟨ps, Kx.key k, h, rfl, by rw [m.len]; exact hl, rfl⟩, q _ ?_⟩
  subst e2
  exact hS.putD e (m.put hv)
/-- d.get(k, z): what it tells stays -/
theorem k_dget2 {z : V} {y : β} (hS : Sep H L) (e : L[i]? = some (dictA a xs)) (hd : Ev td σ H (.ref a)) (hy : Ev ty σ H (kV (Kx.key k))) (hx : Ev tx σ H z) (hz : Im.im G H z y) (q : ∀ v, Sep H (imA v ((dget xs k).getD y) :: L) → Q v H) : tDGet2 td ty tx σ H Q := by
  refine hd _ ⟨a, rfl, isD_of hS e, hy _ (hx _ ?_)⟩
  obtain ⟨r, g, h1, h2⟩ := dget_at hS e (k := k) rfl
  refine ⟨r, g, ?_⟩
  cases c : dget xs k with
  | none =>
    rw [h2 c]
    exact q z (by rw [c]; exact hS.addIm hz)
  | some w =>
    obtain ⟨v, rfl, m⟩ := h1 w c
    exact q v (by rw [c]; exact hS.addIm m)
/-- d.pop(k), k there -/
theorem k_dpop1 {y : β} (hS : Sep H L) (e : L[i]? = some (dictA a xs)) (hd : Ev td σ H (.ref a)) (hy : Ev ty σ H (kV (Kx.key k))) (h : dget xs k = some y) (e2 : L.set i (dictA a (ddrop xs k)) = L') (q : ∀ v H', Sep H' (imA v y :: L') → Q v H') : tDPop1 td ty σ H Q := by
  obtain ⟨ps, hp, m⟩ := hS.dict e
  obtain ⟨v, hv, hm⟩ := (m.val k).1 y h
  refine hd _ ⟨a, rfl, isD_of hS e, hy _ ⟨ps, Kx.key k, v, hp, rfl, hv, q v _ ?_⟩⟩
  subst e2
  have h1 := (hS.addIm hm).putD (i := i + 1) (a := a) (xs := xs) (ys := ddrop xs k) (ps := dropK ps (Kx.key k)) (by simpa using e) (m.drop k)
  simpa using h1
/-- len(d) -/
theorem ev_lenD {ta : TE} (hS : Sep H L) (e : L[i]? = some (dictA a xs)) (ha : Ev ta σ H (.ref a)) : Ev (tCB (fun xs H Q => ∃ a kvs, xs = [V.ref a] ∧ H a = some (.dK kvs) ∧ Q (.int (kvs : List (Key × V)).length) H) (tCons ta tNil)) σ H (.int xs.length) := by
  obtain ⟨ps, hp, m⟩ := hS.dict e
  exact ev_cb (ea_cons ha ea_nil) fun _ q => ⟨a, ps, rfl, hp, by rw [m.len]; exact q⟩
end Ml

/-! ### lists of own things: one of them taken out, and put back -/
namespace Ml
open PySem PySem.Spec PyProof.Rows L2
variable {G : Gx} {β : Type} {H : Hp} {M : List (Asn G)}
def elemsE (E : Addr → β → Asn G) (l : List (Addr × β)) : List (Asn G) := l.map fun q => E q.1 q.2
def listE (E : Addr → β → Asn G) (a : Addr) (xs : List β) : Asn G := exA fun (ps : List Addr) => andA (ps.length = xs.length) (star (cell a (.lst (ps.map V.ref)) :: elemsE E (ps.zip xs)))
/-- all but the j-th -/
def listH (E : Addr → β → Asn G) (a : Addr) (ps : List Addr) (xs : List β) (j : Nat) : Asn G := star (cell a (.lst (ps.map V.ref)) :: elemsE E ((ps.zip xs).eraseIdx j))
theorem erase_map {α γ : Type} (f : α → γ) : ∀ (l : List α) (j : Nat), (l.map f).eraseIdx j = (l.eraseIdx j).map f
  | [], j => by simp
  | x :: l, 0 => rfl
  | x :: l, j + 1 => by simp only [List.map_cons, List.eraseIdx_cons_succ]; rw [erase_map f l j]
theorem perm_out {α : Type} : ∀ {l : List α} {j : Nat} {x : α}, l[j]? = some x → (x :: l.eraseIdx j).Perm l
  | [], j, x, h => by cases h
  | y :: l, 0, x, h => by
    have : y = x := by simpa using h
    subst this; exact .refl _
  | y :: l, j + 1, x, h => by
    have h2 : l[j]? = some x := by simpa using h
    exact (List.Perm.swap y x _).trans ((perm_out h2).cons y)
theorem focusE {E : Addr → β → Asn G} {a : Addr} {xs : List β} {j : Nat} {x : β} (h : Sep H (listE E a xs :: M)) (hj : xs[j]? = some x) : ∃ ps p, ps.length = xs.length ∧ ps[j]? = some p ∧ Sep H (E p x :: listH E a ps xs j :: M) := by
  obtain ⟨ps, h⟩ := Sep.ex h
  obtain ⟨hl, h⟩ := Sep.and h
  have hlt : j < xs.length := (List.getElem?_eq_some_iff.mp hj).1
  have hp : ps[j]? = some ps[j] := List.getElem?_eq_getElem (by omega)
  refine ⟨ps, ps[j], hl, hp, ?_⟩
  have h := Sep.star1 h
  have hz : (ps.zip xs)[j]? = some (ps[j], x) := by
    rw [List.getElem?_zip_eq_some]; exact ⟨hp, hj⟩
  have hz2 : (elemsE E (ps.zip xs))[j]? = some (E ps[j] x) := by unfold elemsE; rw [List.getElem?_map, hz]; rfl
  have e : (elemsE E (ps.zip xs)).eraseIdx j = elemsE E ((ps.zip xs).eraseIdx j) := by unfold elemsE; rw [erase_map]
  have P := perm_out hz2
  rw [e] at P
  have h2 : Sep H (E ps[j] x :: ((cell a (.lst (ps.map V.ref)) :: elemsE E ((ps.zip xs).eraseIdx j)) ++ M)) := by
    refine h.perm ?_
    have := (P.symm.cons (cell (G := G) a (.lst (ps.map V.ref)))).append_right M
    exact this.trans (by exact List.Perm.swap _ _ _)
  have h3 : Sep H ((cell a (.lst (ps.map V.ref)) :: elemsE E ((ps.zip xs).eraseIdx j)) ++ (E ps[j] x :: M)) := h2.perm (List.perm_middle.symm)
  exact (Sep.unstar1 h3).perm (List.Perm.swap _ _ _)
theorem unfocusE {E : Addr → β → Asn G} {a : Addr} {xs : List β} {ps : List Addr} {j : Nat} {p : Addr} {y : β} (hl : ps.length = xs.length) (hp : ps[j]? = some p) (h : Sep H (E p y :: listH E a ps xs j :: M)) : Sep H (listE E a (xs.set j y) :: M) := by
  refine Sep.exI ps (Sep.andI (by rw [List.length_set]; exact hl) (Sep.unstar1 ?_))
  have hlt : j < ps.length := (List.getElem?_eq_some_iff.mp hp).1
  have hz : (ps.zip (xs.set j y))[j]? = some (p, y) := by
    rw [List.getElem?_zip_eq_some]; exact ⟨hp, by rw [List.getElem?_set_self (by omega)]⟩
  have hz2 : (elemsE E (ps.zip (xs.set j y)))[j]? = some (E p y) := by unfold elemsE; rw [List.getElem?_map, hz]; rfl
  have e0 : (ps.zip (xs.set j y)).eraseIdx j = (ps.zip xs).eraseIdx j := by
    clear h hz hz2
    induction ps generalizing xs j with
    | nil => cases hp
    | cons q ps ih =>
      cases xs with
      | nil => cases hl
      | cons x xs =>
        cases j with
        | zero => rfl
        | succ j =>
          simp only [List.set_cons_succ, List.zip_cons_cons, List.eraseIdx_cons_succ]
          rw [ih (by simpa using hl) (by simpa using hp) (by simpa using hlt)]
  have e : (elemsE E (ps.zip (xs.set j y))).eraseIdx j = elemsE E ((ps.zip xs).eraseIdx j) := by unfold elemsE; rw [erase_map, e0]
  have P := perm_out hz2
  rw [e] at P
  have h1 : Sep H ((cell a (.lst (ps.map V.ref)) :: elemsE E ((ps.zip xs).eraseIdx j)) ++ (E p y :: M)) := Sep.star1 (h.perm (List.Perm.swap _ _ _))
  have h2 : Sep H (E p y :: ((cell a (.lst (ps.map V.ref)) :: elemsE E ((ps.zip xs).eraseIdx j)) ++ M)) := h1.perm List.perm_middle
  refine h2.perm ?_
  have := (P.cons (cell (G := G) a (.lst (ps.map V.ref)))).append_right M
  exact (List.Perm.swap _ _ _).trans this
end Ml

/-! ### dicts of own things -/
namespace Ml
open PySem PySem.Spec PyProof.Rows L2
variable {G : Gx} {κ β : Type} [Kx κ] [DecidableEq κ] {H : Hp} {M : List (Asn G)}
def refsD (kvs : List (κ × β)) (ps : List Addr) : List (Key × V) := List.zipWith (fun kv p => (Kx.key kv.1, V.ref p)) kvs ps
def dictE (E : Addr → β → Asn G) (a : Addr) (kvs : List (κ × β)) : Asn G := exA fun (ps : List Addr) => andA (ps.length = kvs.length ∧ (kvs.map (·.1)).Nodup) (star (cell a (.dK (refsD kvs ps)) :: elemsE E (ps.zip (kvs.map (·.2)))))
/-- all but the j-th -/
def dictH (E : Addr → β → Asn G) (a : Addr) (ps : List Addr) (kvs : List (κ × β)) (j : Nat) : Asn G := star (cell a (.dK (refsD kvs ps)) :: elemsE E ((ps.zip (kvs.map (·.2))).eraseIdx j))
theorem refs_val {kvs : List (κ × β)} {ps : List Addr} {j : Nat} {k : κ} {y : β} {p : Addr} (hl : ps.length = kvs.length) (hn : (kvs.map (·.1)).Nodup) (hj : kvs[j]? = some (k, y)) (hp : ps[j]? = some p) : valV (refsD kvs ps) (Kx.key k) = some (.ref p) := by
  induction kvs generalizing ps j with
  | nil => cases hj
  | cons kv kvs ih =>
    cases ps with
    | nil => cases hl
    | cons q ps =>
      cases j with
      | zero =>
        have h1 : kv = (k, y) := by simpa using hj
        have h2 : q = p := by simpa using hp
        subst h1 h2
        show valV ((Kx.key k, V.ref q) :: refsD kvs ps) (Kx.key k) = _
        unfold valV
        simp
      | succ j =>
        have hj' : kvs[j]? = some (k, y) := by simpa using hj
        have hp' : ps[j]? = some p := by simpa using hp
        rw [List.map_cons, List.nodup_cons] at hn
        have hk : ¬ kv.1 = k := fun e => hn.1 (List.mem_map.mpr ⟨(k, y), List.mem_of_getElem? hj', e.symm⟩)
        have := ih (ps := ps) (j := j) (by simpa using hl) hn.2 hj' hp'
        show valV ((Kx.key kv.1, V.ref q) :: refsD kvs ps) (Kx.key k) = _
        unfold valV at this ⊢
        have hk2 : ¬ Kx.key kv.1 = Kx.key k := fun e => hk (Kx.inj e)
        simpa [hk2] using this
theorem focusD {E : Addr → β → Asn G} {a : Addr} {kvs : List (κ × β)} {j : Nat} {k : κ} {y : β} (h : Sep H (dictE E a kvs :: M)) (hj : kvs[j]? = some (k, y)) :
    ∃ ps p, (ps.length = kvs.length ∧ (kvs.map (·.1)).Nodup) ∧ ps[j]? = some p ∧ DGet H a (kV (Kx.key k)) (some (.ref p)) ∧ Sep H (E p y :: dictH E a ps kvs j :: M) := by
  obtain ⟨ps, h⟩ := Sep.ex h
  obtain ⟨⟨hl, hn⟩, h⟩ := Sep.and h
  have hlt : j < kvs.length := (List.getElem?_eq_some_iff.mp hj).1
  have hp : ps[j]? = some ps[j] := List.getElem?_eq_getElem (by omega)
  have h := Sep.star1 h
  have hc : H a = some (.dK (refsD kvs ps)) := h.getCell (i := 0) rfl
  refine ⟨ps, ps[j], ⟨hl, hn⟩, hp, ?_, ?_⟩
  · have := DGet.k (H := H) (a := a) (kvs := refsD kvs ps) (k := Kx.key k) hc
    rw [refs_val hl hn hj hp] at this
    exact this
  have hz : (ps.zip (kvs.map (·.2)))[j]? = some (ps[j], y) := by
    rw [List.getElem?_zip_eq_some]; exact ⟨hp, by rw [List.getElem?_map, hj]; rfl⟩
  have hz2 : (elemsE E (ps.zip (kvs.map (·.2))))[j]? = some (E ps[j] y) := by unfold elemsE; rw [List.getElem?_map, hz]; rfl
  have e : (elemsE E (ps.zip (kvs.map (·.2)))).eraseIdx j = elemsE E ((ps.zip (kvs.map (·.2))).eraseIdx j) := by unfold elemsE; rw [erase_map]
  have P := perm_out hz2
  rw [e] at P
  have h2 : Sep H (E ps[j] y :: ((cell a (.dK (refsD kvs ps)) :: elemsE E ((ps.zip (kvs.map (·.2))).eraseIdx j)) ++ M)) := by
    refine h.perm ?_
    have := (P.symm.cons (cell (G := G) a (.dK (refsD kvs ps)))).append_right M
    exact this.trans (by exact List.Perm.swap _ _ _)
  have h3 : Sep H ((cell a (.dK (refsD kvs ps)) :: elemsE E ((ps.zip (kvs.map (·.2))).eraseIdx j)) ++ (E ps[j] y :: M)) := h2.perm (List.perm_middle.symm)
  exact (Sep.unstar1 h3).perm (List.Perm.swap _ _ _)
theorem zip_hole {ps : List Addr} {xs : List β} {j : Nat} {z : β} (hl : ps.length = xs.length) : (ps.zip (xs.set j z)).eraseIdx j = (ps.zip xs).eraseIdx j := by
  induction ps generalizing xs j with
  | nil => simp
  | cons q ps ih =>
    cases xs with
    | nil => cases hl
    | cons x xs =>
      cases j with
      | zero => rfl
      | succ j =>
        simp only [List.set_cons_succ, List.zip_cons_cons, List.eraseIdx_cons_succ]
        rw [ih (by simpa using hl)]
theorem put_at {kvs : List (κ × β)} {j : Nat} {k : κ} {y z : β} (hn : (kvs.map (·.1)).Nodup) (hj : kvs[j]? = some (k, y)) : dput kvs k z = kvs.set j (k, z) := by
  have hany : (kvs.any fun kv => decide (kv.1 = k)) = true := List.any_eq_true.mpr ⟨(k, y), List.mem_of_getElem? hj, by simp⟩
  unfold dput
  rw [if_pos hany]
  clear hany
  induction kvs generalizing j with
  | nil => cases hj
  | cons kv kvs ih =>
    rw [List.map_cons, List.nodup_cons] at hn
    cases j with
    | zero =>
      have h1 : kv = (k, y) := by simpa using hj
      subst h1
      have : kvs.map (fun kv => if kv.1 = k then (kv.1, z) else kv) = kvs := by
        have : ∀ q, q ∈ kvs → (if q.1 = k then (q.1, z) else q) = q := fun q hq => by
          rw [if_neg]
          intro e
          exact hn.1 (List.mem_map.mpr ⟨q, hq, e⟩)
        conv => rhs; rw [← List.map_id kvs]
        exact List.map_congr_left this
      simp [this]
    | succ j =>
      have hj' : kvs[j]? = some (k, y) := by simpa using hj
      have hk : ¬ kv.1 = k := fun e => hn.1 (List.mem_map.mpr ⟨(k, y), List.mem_of_getElem? hj', e.symm⟩)
      rw [List.map_cons, if_neg hk, List.set_cons_succ, ih hn.2 hj']
theorem unfocusD {E : Addr → β → Asn G} {a : Addr} {kvs : List (κ × β)} {ps : List Addr} {j : Nat} {k : κ} {p : Addr} {y z : β} (hl : ps.length = kvs.length ∧ (kvs.map (·.1)).Nodup) (hj : kvs[j]? = some (k, y)) (hp : ps[j]? = some p) (h : Sep H (E p z :: dictH E a ps kvs j :: M)) :
    Sep H (dictE E a (dput kvs k z) :: M) := by
  rw [put_at hl.2 hj]
  have hlt : j < kvs.length := (List.getElem?_eq_some_iff.mp hj).1
  have hget : kvs[j] = (k, y) := by rw [List.getElem?_eq_getElem hlt] at hj; exact Option.some.inj hj
  have ek : (kvs.set j (k, z)).map (·.1) = kvs.map (·.1) := by
    rw [List.map_set]
    have : (kvs.map (·.1))[j]'(by simpa using hlt) = k := by rw [List.getElem_map, hget]
    rw [← this]
    exact List.set_getElem_self _
  have er : refsD (kvs.set j (k, z)) ps = refsD kvs ps := by
    unfold refsD
    have : ∀ (l : List (κ × β)) (l' : List (κ × β)) (qs : List Addr), l.map (·.1) = l'.map (·.1) → List.zipWith (fun kv p => (Kx.key kv.1, V.ref p)) l qs = List.zipWith (fun kv p => (Kx.key kv.1, V.ref p)) l' qs := by
      intro l
      induction l with
      | nil => intro l' qs e; cases l' with
        | nil => rfl
        | cons _ _ => cases e
      | cons x l ih =>
        intro l' qs e
        cases l' with
        | nil => cases e
        | cons x' l' =>
          rw [List.map_cons, List.map_cons, List.cons.injEq] at e
          cases qs with
          | nil => rfl
          | cons q qs => rw [List.zipWith_cons_cons, List.zipWith_cons_cons, e.1, ih l' qs e.2]
    exact this _ _ ps ek
  have ev : (kvs.set j (k, z)).map (·.2) = (kvs.map (·.2)).set j z := by rw [List.map_set]
  refine Sep.exI ps (Sep.andI ⟨by rw [List.length_set]; exact hl.1, by rw [ek]; exact hl.2⟩ (Sep.unstar1 ?_))
  rw [er, ev]
  have hlx : ps.length = (kvs.map (·.2)).length := by rw [List.length_map]; exact hl.1
  have hz : (ps.zip ((kvs.map (·.2)).set j z))[j]? = some (p, z) := by
    rw [List.getElem?_zip_eq_some]; exact ⟨hp, by rw [List.getElem?_set_self (by rw [List.length_map]; exact hlt)]⟩
  have hz2 : (elemsE E (ps.zip ((kvs.map (·.2)).set j z)))[j]? = some (E p z) := by unfold elemsE; rw [List.getElem?_map, hz]; rfl
  have e0 : (ps.zip ((kvs.map (·.2)).set j z)).eraseIdx j = (ps.zip (kvs.map (·.2))).eraseIdx j := zip_hole hlx
  have e : (elemsE E (ps.zip ((kvs.map (·.2)).set j z))).eraseIdx j = elemsE E ((ps.zip (kvs.map (·.2))).eraseIdx j) := by unfold elemsE; rw [erase_map, e0]
  have P := perm_out hz2
  rw [e] at P
  have h1 : Sep H ((cell a (.dK (refsD kvs ps)) :: elemsE E ((ps.zip (kvs.map (·.2))).eraseIdx j)) ++ (E p z :: M)) := Sep.star1 (h.perm (List.Perm.swap _ _ _))
  have h2 : Sep H (E p z :: ((cell a (.dK (refsD kvs ps)) :: elemsE E ((ps.zip (kvs.map (·.2))).eraseIdx j)) ++ M)) := h1.perm List.perm_middle
  refine h2.perm ?_
  have := (P.cons (cell (G := G) a (.dK (refsD kvs ps)))).append_right M
  exact (List.Perm.swap _ _ _).trans this
end Ml

/-! ### a dict of own things: a new entry -/
namespace Ml
open PySem PySem.Spec PyProof.Rows L2
variable {G : Gx} {κ β : Type} [Kx κ] [DecidableEq κ] {H : Hp} {M : List (Asn G)}
theorem refs_new {y : β} {kvs : List (κ × β)} {ps : List Addr} {k : κ} {p : Addr} (hl : ps.length = kvs.length) (hk : ¬ k ∈ kvs.map (·.1)) : putK (refsD kvs ps) (Kx.key k) (.ref p) = refsD (kvs ++ [(k, y)]) (ps ++ [p]) := by
  have h1 : (refsD kvs ps).any (fun kv => decide (kv.1 = Kx.key k)) = false := by
    rw [Bool.eq_false_iff]
    intro z
    obtain ⟨q, hq, e⟩ := List.any_eq_true.mp z
    have e := of_decide_eq_true e
    unfold refsD at hq
    induction kvs generalizing ps with
    | nil => simp at hq
    | cons kv kvs ih =>
      cases ps with
      | nil => cases hl
      | cons r ps =>
        rw [List.zipWith_cons_cons] at hq
        rcases List.mem_cons.mp hq with rfl | hq
        · exact hk (by rw [List.map_cons]; exact List.mem_cons.mpr (.inl (Kx.inj e).symm))
        · exact ih (ps := ps) (by simpa using hl) (fun m => hk (by rw [List.map_cons]; exact List.mem_cons_of_mem _ m)) (by
            refine List.any_eq_true.mpr ⟨q, hq, by simpa using e⟩) hq
  unfold putK
  rw [h1]
  unfold refsD
  rw [List.zipWith_append hl.symm]
  rfl
theorem refs_len {kvs : List (κ × β)} {ps : List Addr} (hl : ps.length = kvs.length) : (refsD kvs ps).length = kvs.length := by
  unfold refsD
  rw [List.length_zipWith]; omega
/-- d[k] = v, v an own thing, k new -/
theorem k_newE {E : Addr → β → Asn G} {a : Addr} {kvs : List (κ × β)} {k : κ} {p : Addr} {y : β} {P : Hp → Prop} (h : Sep H (dictE E a kvs :: E p y :: M)) (hk : ¬ k ∈ kvs.map (·.1)) (hz : kvs.length < sizeLine)
    (q : ∀ H', Sep H' (dictE E a (kvs ++ [(k, y)]) :: M) → P H') : rSetD (.ref a) (kV (Kx.key k)) (.ref p) H P := by
  obtain ⟨ps, h⟩ := Sep.ex h
  obtain ⟨⟨hl, hn⟩, h⟩ := Sep.and h
  have h := Sep.star1 h
  have hc : H a = some (.dK (refsD kvs ps)) := h.getCell (i := 0) rfl
  refine ⟨a, _, rfl, .inl ⟨refsD kvs ps, Kx.key k, hc, rfl, by rw [refs_len hl]; exact hz, rfl⟩, q _ ?_⟩
  have h2 := h.put (i := 0) (a := a) (o := .dK (refsD kvs ps)) (o' := .dK (putK (refsD kvs ps) (Kx.key k) (.ref p))) rfl rfl rfl
  refine Sep.exI (ps ++ [p]) (Sep.andI ⟨by rw [List.length_append, List.length_append, hl]; rfl, ?_⟩ (Sep.unstar1 ?_))
  · rw [List.map_append, List.nodup_append]
    refine ⟨hn, by simp, fun x hx z hz => ?_⟩
    rw [List.map_singleton, List.mem_singleton] at hz
    intro e
    have hz : z = k := hz
    exact hk (by rw [← hz, ← e]; exact hx)
  · have e1 : elemsE E ((ps ++ [p]).zip ((kvs ++ [(k, y)]).map (·.2))) = elemsE E (ps.zip (kvs.map (·.2))) ++ [E p y] := by
      unfold elemsE
      rw [List.map_append, List.zip_append (by rw [List.length_map]; exact hl), List.map_append]
      rfl
    rw [e1, ← refs_new (y := y) hl hk]
    have : ((cell a (.dK (putK (refsD kvs ps) (Kx.key k) (.ref p))) :: elemsE E (ps.zip (kvs.map (·.2)))) ++ (E p y :: M)) = ((cell a (.dK (putK (refsD kvs ps) (Kx.key k) (.ref p))) :: (elemsE E (ps.zip (kvs.map (·.2))) ++ [E p y])) ++ M) := by simp
    rw [← this]
    exact h2
end Ml

/-! ### a dict beside a text or a number: never the same -/
namespace PySem.SeqAt
open AutoSeq1 (wpAny_loadPart')
open MeetsSeq MeetsSeq2 MeetsSeq3
section
variable {prog : Program} {w : World} {A : Around} {s : Shared} {E : Value → Shared → Prop}
def DictAt (s : Shared) (d : Addr) : Prop := ∃ dd es ep sl, s.heap.get? d = some ⟨.type "dict", dd, .dict es ep, sl⟩
theorem DictAt.ty {d : Addr} (h : DictAt s d) : s.TypeIs (.ref d) "dict" := by obtain ⟨dd, es, ep, sl, h⟩ := h; exact ⟨_, h, rfl⟩
theorem dict_eq_other {d : Addr} {x : Value} {T : String} (hd : s.TypeIs (.ref d) "dict") (hx : s.TypeIs x T) (hs : isSubtype (.type T) (.type "dict") = pure false) {Q : Value → Shared → Prop} (h : Q .notImplemented s) :
    wpAny (model prog w) A (call (.builtin "dict.__eq__") [.ref d, x]) Q E s := by
  refine wpAny_call_entry PySem.F.slot_dict_eq hd PySem.F.entry_dict_eq ?_ (PySem.F.args_dict_eq_2 _ _)
  show wpAny _ _ (Builtin.Dict.dictSlotArgs "__eq__" ⟨[.ref d, x], []⟩ >>= _) _ _ s
  refine wpAny_bind ?_
  unfold Builtin.Dict.dictSlotArgs
  refine wpAny_bind (PySem.wpAny_notOrdered_dict hd ?_)
  show wpAny _ _ (pure (Value.ref d, x)) _ _ s
  refine wpAny_pure ?_
  refine wpAny_bind (wpAny_isInstance (T := T) hx hs ?_)
  simp only [Bool.not_false, if_true]
  exact wpAny_bind (wpAny_rule (wpAny_pure ⟨_, rfl, h⟩))
theorem dict_ne_other {d : Addr} {x : Value} {T : String} (hd : s.TypeIs (.ref d) "dict") (hx : s.TypeIs x T) (hs : isSubtype (.type T) (.type "dict") = pure false) {Q : Value → Shared → Prop} (h : Q .notImplemented s) :
    wpAny (model prog w) A (call (.builtin "dict.__ne__") [.ref d, x]) Q E s := by
  refine wpAny_call_entry PySem.F.slot_dict_ne hd PySem.F.entry_dict_ne ?_ (PySem.F.args_dict_ne_2 _ _)
  show wpAny _ _ (Builtin.Dict.dictSlotArgs "__ne__" ⟨[.ref d, x], []⟩ >>= _) _ _ s
  refine wpAny_bind ?_
  unfold Builtin.Dict.dictSlotArgs
  refine wpAny_bind (PySem.wpAny_notOrdered_dict hd ?_)
  show wpAny _ _ (pure (Value.ref d, x)) _ _ s
  refine wpAny_pure ?_
  refine wpAny_bind (wpAny_isInstance (T := T) hx hs ?_)
  simp only [Bool.not_false, if_true]
  exact wpAny_bind (wpAny_rule (wpAny_pure ⟨_, rfl, h⟩))
theorem int_eq_dict (b : Int) (u : Tok) (l : Addr) (dd : Option Addr) (es : Array DictEntry) (ep : Nat) (sl : Array (Option Value)) :
    Meets (Builtin.«int.__eq__» ⟨[.int b u, .ref l], []⟩) (fun _ R s => s.heap.get? l = some ⟨.type "dict", dd, .dict es ep, sl⟩ ∧ R (.ok (.ret .notImplemented)) s) :=
  .of_wp fun prog w A R s h => by obtain ⟨hp, g, d, tk, os⟩ := s; obtain ⟨hl, h⟩ := h; wp_walk using wpAny_loadPart' hl, wpAny_load hl; exact ⟨_, rfl, h⟩
theorem str_eq_dict (b : Str) (u : Tok) (l : Addr) (dd : Option Addr) (es : Array DictEntry) (ep : Nat) (sl : Array (Option Value)) :
    Meets (Builtin.«str.__eq__» ⟨[.str b u, .ref l], []⟩) (fun _ R s => s.heap.get? l = some ⟨.type "dict", dd, .dict es ep, sl⟩ ∧ R (.ok (.ret .notImplemented)) s) :=
  .of_wp fun prog w A R s h => by obtain ⟨hp, g, d, tk, os⟩ := s; obtain ⟨hl, h⟩ := h; wp_walk using wpAny_loadPart' hl, wpAny_load hl; exact ⟨_, rfl, h⟩
theorem int_ne_dict (b : Int) (u : Tok) (l : Addr) (dd : Option Addr) (es : Array DictEntry) (ep : Nat) (sl : Array (Option Value)) :
    Meets (Builtin.«int.__ne__» ⟨[.int b u, .ref l], []⟩) (fun _ R s => s.heap.get? l = some ⟨.type "dict", dd, .dict es ep, sl⟩ ∧ R (.ok (.ret .notImplemented)) s) :=
  .of_wp fun prog w A R s h => by obtain ⟨hp, g, d, tk, os⟩ := s; obtain ⟨hl, h⟩ := h; wp_walk using wpAny_loadPart' hl, wpAny_load hl; exact ⟨_, rfl, h⟩
theorem str_ne_dict (b : Str) (u : Tok) (l : Addr) (dd : Option Addr) (es : Array DictEntry) (ep : Nat) (sl : Array (Option Value)) :
    Meets (Builtin.«str.__ne__» ⟨[.str b u, .ref l], []⟩) (fun _ R s => s.heap.get? l = some ⟨.type "dict", dd, .dict es ep, sl⟩ ∧ R (.ok (.ret .notImplemented)) s) :=
  .of_wp fun prog w A R s h => by obtain ⟨hp, g, d, tk, os⟩ := s; obtain ⟨hl, h⟩ := h; wp_walk using wpAny_loadPart' hl, wpAny_load hl; exact ⟨_, rfl, h⟩
theorem eq_dict_str {d : Addr} {b : Str} {u : Tok} (hd : DictAt s d) (hu : A.units < cLine) {Q : Value → Shared → Prop} (h : Q (.bool false) s) : wpAny (model prog w) A (richCompare .Eq (.ref d) (.str b u)) Q E s := by
  obtain ⟨dd, es, ep, sl, ho⟩ := id hd
  have hd := hd.ty
  exact rc_eq_decline_or (k := false) hd (typeIs_str s b u) (by decide) F.sub_str_dict F.slot_dict_eq F.slot_str_eq_refl
    (fun _ hq => dict_eq_other hd (typeIs_str s b u) F.sub_str_dict hq)
    (fun _ hq => call_meets F.slot_str_eq_refl (typeIs_str s b u) F.entry_str_eq (F.args_str_eq_2 _ _) (str_eq_dict b u d dd es ep sl) ⟨ho, hq⟩)
    (fun _ hq => wpAny_of_eq (rfl : isSame (.ref d) (.str b u) = pure false) hq) (.inr hu) h
theorem eq_dict_int {d : Addr} {b : Int} {u : Tok} (hd : DictAt s d) (hu : A.units < cLine) {Q : Value → Shared → Prop} (h : Q (.bool false) s) : wpAny (model prog w) A (richCompare .Eq (.ref d) (.int b u)) Q E s := by
  obtain ⟨dd, es, ep, sl, ho⟩ := id hd
  have hd := hd.ty
  exact rc_eq_decline_or (k := false) hd (typeIs_int s b u) (by decide) F.sub_int_dict F.slot_dict_eq F.slot_int_eq_refl
    (fun _ hq => dict_eq_other hd (typeIs_int s b u) F.sub_int_dict hq)
    (fun _ hq => call_meets F.slot_int_eq_refl (typeIs_int s b u) F.entry_int_eq (F.args_int_eq_2 _ _) (int_eq_dict b u d dd es ep sl) ⟨ho, hq⟩)
    (fun _ hq => wpAny_of_eq (rfl : isSame (.ref d) (.int b u) = pure false) hq) (.inr hu) h
theorem ne_dict_str {d : Addr} {b : Str} {u : Tok} (hd : DictAt s d) (hu : A.units < cLine) {Q : Value → Shared → Prop} (h : Q (.bool true) s) : wpAny (model prog w) A (richCompare .NotEq (.ref d) (.str b u)) Q E s := by
  obtain ⟨dd, es, ep, sl, ho⟩ := id hd
  have hd := hd.ty
  exact rc_ne_decline_or (k := false) hd (typeIs_str s b u) (by decide) F.sub_str_dict F.slot_dict_ne F.slot_str_ne_refl
    (fun _ hq => dict_ne_other hd (typeIs_str s b u) F.sub_str_dict hq)
    (fun _ hq => call_meets F.slot_str_ne_refl (typeIs_str s b u) F.entry_str_ne (F.args_str_ne_2 _ _) (str_ne_dict b u d dd es ep sl) ⟨ho, hq⟩)
    (fun _ hq => wpAny_of_eq (rfl : isSame (.ref d) (.str b u) = pure false) hq) (.inr hu) h
theorem ne_dict_int {d : Addr} {b : Int} {u : Tok} (hd : DictAt s d) (hu : A.units < cLine) {Q : Value → Shared → Prop} (h : Q (.bool true) s) : wpAny (model prog w) A (richCompare .NotEq (.ref d) (.int b u)) Q E s := by
  obtain ⟨dd, es, ep, sl, ho⟩ := id hd
  have hd := hd.ty
  exact rc_ne_decline_or (k := false) hd (typeIs_int s b u) (by decide) F.sub_int_dict F.slot_dict_ne F.slot_int_ne_refl
    (fun _ hq => dict_ne_other hd (typeIs_int s b u) F.sub_int_dict hq)
    (fun _ hq => call_meets F.slot_int_ne_refl (typeIs_int s b u) F.entry_int_ne (F.args_int_ne_2 _ _) (int_ne_dict b u d dd es ep sl) ⟨ho, hq⟩)
    (fun _ hq => wpAny_of_eq (rfl : isSame (.ref d) (.int b u) = pure false) hq) (.inr hu) h
end
end PySem.SeqAt

namespace L2
open PySem PySem.Spec PyProof.Rows
/-- a dict, beside a text or a number -/
def DqV (H : Hp) (x y : V) : Prop := (∃ a o, x = .ref a ∧ H a = some o ∧ ((∃ l, o = .dK l) ∨ ∃ b l, o = .frz b (.dK l))) ∧ ((∃ s, y = .str s) ∨ ∃ i, y = .int i)
def rEqX (K : PySem.W.Frag) : R2 := fun x y H Q => rEqD K x y H Q ∨ (DqV H x y ∧ Q (.bl false) H)
def rNeX (K : PySem.W.Frag) : R2 := fun x y H Q => rNeD K x y H Q ∨ (DqV H x y ∧ Q (.bl true) H)
section
variable {X : Cx} {pins : List (Addr × Obj)} {σ : St} {H : Hp} {s : Shared}
theorem dictAt {a : Addr} {o : HO} (I : Inv X pins σ H s) (e : H a = some o) (h : (∃ l, o = .dK l) ∨ ∃ b l, o = .frz b (.dK l)) : SeqAt.DictAt s a := by
  rcases h with ⟨kvs, rfl⟩ | ⟨ob, kvs, rfl⟩
  · obtain ⟨_, _, vs, _, o, es, ep, h1, h2, h3, _⟩ := (show ObjOk X.prog X.w H s.heap a (.dK kvs) from I.hok a _ e)
    obtain ⟨cls, dd, data, sl⟩ := o
    have h4 := h2.1
    simp only at h3 h4
    subst h3 h4
    exact ⟨_, _, _, _, h1⟩
  · obtain ⟨_, _, _, xs, _, o, es, ep, h1, h2, h3, _⟩ := (show ObjOk X.prog X.w H s.heap a (.frz ob (.dK kvs)) from I.hok a _ e)
    obtain ⟨cls, dd, data, sl⟩ := o
    have h4 := h2.1
    simp only at h3 h4
    subst h3 h4
    exact ⟨_, _, _, _, h1⟩
end
theorem eqXK {X : Cx} (K : PySem.W.Frag) (hu : X.A.units + 64 < cLine) (hK : X.K = K := by rfl) : OpR X (compareOp .Eq) (rEqX K) := by
  subst hK
  intro pins s σ H x y v u Q I rx ry h
  rcases h with h | ⟨⟨⟨a, o, rfl, e, ho⟩, hy⟩, q⟩
  · exact op_eqD hu pins s σ H x y v u Q I rx ry h
  · have hd := dictAt I e ho
    obtain rfl : v = Value.ref a := rx
    rcases hy with ⟨t, rfl⟩ | ⟨t, rfl⟩
    · obtain ⟨t2, rfl⟩ := ry
      exact SeqAt.eq_dict_str hd (by omega) ⟨.bl false, H, I, rfl, q⟩
    · obtain ⟨t2, rfl⟩ := ry
      exact SeqAt.eq_dict_int hd (by omega) ⟨.bl false, H, I, rfl, q⟩
theorem neXK {X : Cx} (K : PySem.W.Frag) (hu : X.A.units + 64 < cLine) (hK : X.K = K := by rfl) : OpR X (compareOp .NotEq) (rNeX K) := by
  subst hK
  intro pins s σ H x y v u Q I rx ry h
  rcases h with h | ⟨⟨⟨a, o, rfl, e, ho⟩, hy⟩, q⟩
  · exact op_neD hu pins s σ H x y v u Q I rx ry h
  · have hd := dictAt I e ho
    obtain rfl : v = Value.ref a := rx
    rcases hy with ⟨t, rfl⟩ | ⟨t, rfl⟩
    · obtain ⟨t2, rfl⟩ := ry
      exact SeqAt.ne_dict_str hd (by omega) ⟨.bl true, H, I, rfl, q⟩
    · obtain ⟨t2, rfl⟩ := ry
      exact SeqAt.ne_dict_int hd (by omega) ⟨.bl true, H, I, rfl, q⟩
/-- tuple(row) -/
def rTupleOf (K : PySem.W.Frag) : List V → Hp → VK → Prop := fun xs H Q => ∃ p ys, xs = [.ref p] ∧ ((SqL K H p ys ∧ ∀ l, H l = none → Q (.ref l) (upd H l (.tup ys))) ∨ (SqT K H p ys ∧ Q (.ref p) H))
theorem tupleOfK {X : Cx} (K : PySem.W.Frag) (hK : X.K = K := by rfl) : CallR X (.type "tuple") (rTupleOf K) := by subst hK; exact call_tuple_of
/-- isinstance(e, c), e the exception that the suite holds -/
def rIsEd (K : PySem.W.Frag) (cls : Value) (d : Option Addr) (a : Addr) : List V → Hp → VK → Prop := fun xs H Q => ∃ D, cls = .ref D ∧ d = none ∧ ExcC K D ∧ rIsEB K D a xs H Q
theorem call_isEd {X : Cx} (K : PySem.W.Frag) {a : Addr} {cls : Value} {d : Option Addr} {oe : Obj} (hp : (a, oe) ∈ X.pn) (hz : Zc cls d oe) (hf : ∃ vs, oe.data = .fields vs) (hK : X.K = K := by rfl) : CallR X (.builtin "isinstance") (rIsEd K cls d a) := by
  intro pins s σ H xs us Q I r h
  obtain ⟨D, rfl, rfl, C, h⟩ := h
  exact call_isP K hp C hz hf hK pins s σ H xs us Q I r h
end L2
namespace Ml
open PySem PySem.Spec PyProof.Rows L2
variable {G : Gx} {H : Hp} {L : List (Asn G)} {Q : VK}
theorem ev_isXd {a : Addr} {σ : L2.St} {D : Addr} {ta tb : TE} {c : V} {cv : Value} {b : Bool} (ha : Ev ta σ H (.ref a)) (hb : Ev tb σ H c) (hc : ClsV c cv) (C : ExcC G.K D) (e : PySem.W.kitOne G.K (.ref D) cv = some b) :
    Ev (tCB (rIsEd G.K (.ref D) none a) (tCons ta (tCons tb tNil))) σ H (.bl b) := ev_cb (ea_cons ha (ea_cons hb ea_nil)) fun _ q => ⟨D, rfl, rfl, C, c, cv, b, rfl, hc, e, q⟩
theorem imL_int : ∀ {vs : List V} {xs : List Int}, imL (G := G) H vs xs → imL (G := G) H vs (xs.map Any.int)
  | [], [], _ => True.intro
  | v :: vs, x :: xs, h => ⟨any_int.mpr h.1, imL_int h.2⟩
theorem any_lstI {v : V} {xs : List Int} (h : Im.im G H v xs) : Im.im G H v (Any.lst (xs.map Any.int)) := by
  obtain ⟨a, vs, e, g, m⟩ := h
  exact any_lsts.mpr ⟨a, vs, e, g, imL_int m⟩
theorem k_tupleL {i : Nat} {a : Addr} {xs : List Any} (hS : Sep H L) (e : L[i]? = some (lstA a xs)) (k : ∀ p H', Sep H' (imA (.ref p) (Any.tup xs) :: L) → Q (.ref p) H') : rTupleOf G.K [.ref a] H Q := by
  obtain ⟨vs, h, m⟩ := hS.lst e
  exact ⟨a, vs, rfl, .inl ⟨.inl (.inl h), fun p hp => k p _ ((hS.more (same_new hp)).addIm (any_tup.mpr ⟨p, vs, rfl, upd_same, m.st (.of_same (same_new hp))⟩))⟩⟩
theorem R.need_rev {α : Type} {p : Prop} {inst : Decidable p} {k : R α} {q : α → Prop} {e : Exc → Prop} {Z : Prop} (f : p → k.wp q e → Z) (h : (@R.need α p inst k).wp q e) : Z := f (R.wp_need h).1 (R.wp_need h).2
/-! x == y, where x may be a dict -/
def dqA : Any → Any → Bool
  | .oth 1, .str _ => true
  | .oth 1, .int _ => true
  | _, _ => false
def eqX (x y : Any) : R Bool := if dqA x y = true then .ok false else eqA x y
theorem eqX_pl {x y : Any} (h : plA x = true) : eqX x y = eqA x y := by
  unfold eqX
  rw [if_neg]
  cases x with
  | oth k => rw [plA] at h; cases h
  | _ => exact Bool.false_ne_true
theorem dqA_v {v w : V} {x y : Any} (i1 : Im.im G H v x) (i2 : Im.im G H w y) (h : dqA x y = true) : DqV H v w := by
  cases x with
  | oth k =>
    rw [any_oth] at i1
    obtain ⟨a, o, rfl, e, kd, _⟩ := i1
    have hk : k = 1 := by
      by_cases z : k = 1
      · exact z
      · exfalso
        cases y <;> simp [dqA, z] at h
    subst hk
    refine ⟨⟨a, o, rfl, e, ?_⟩, ?_⟩
    · cases o with
      | dK l => exact .inl ⟨l, rfl⟩
      | frz o x => cases x with
        | dK l => exact .inr ⟨_, l, rfl⟩
        | _ => cases kd
      | _ => cases kd
    · cases y with
      | str s => rw [any_str] at i2; exact .inl ⟨s, i2⟩
      | int s => rw [any_int] at i2; exact .inr ⟨s, i2⟩
      | _ => simp [dqA] at h
  | _ => simp [dqA] at h
section
variable {σ : L2.St} {ta tb : TE} {v w : V} {x y : Any} {ρ : Type} {q : ρ → Prop} {e : Exc → Prop}
def EqXf (x y : Any) (b : Bool) : Prop := (dqA x y = true ∧ b = false) ∨ (plA x = true ∧ plA y = true ∧ SeqAt.shaped (pdA x) = true ∧ SeqAt.shaped (pdA y) = true ∧ b = PyData.eqv (pdA x) (pdA y))
theorem wp_eqX {f : Bool → R ρ} (h : R.wp ((eqX x y).bind f) q e) : ∃ b, EqXf x y b ∧ R.wp (f b) q e := by
  unfold eqX at h
  by_cases c : dqA x y = true
  · rw [if_pos c] at h; exact ⟨false, .inl ⟨c, rfl⟩, h⟩
  · rw [if_neg c] at h
    obtain ⟨b, h1, h2⟩ := wp_eqA h
    exact ⟨b, .inr h1, h2⟩
theorem ev_eqX {b : Bool} (ha : Ev ta σ H v) (hb : Ev tb σ H w) (i1 : Im.im G H v x) (i2 : Im.im G H w y) (h : EqXf x y b) : Ev (tOp (rEqX G.K) ta tb) σ H (.bl b) := ev_op ha hb fun Q q => by
  rcases h with ⟨h, rfl⟩ | ⟨h1, h2, h3, h4, rfl⟩
  · exact .inr ⟨dqA_v i1 i2 h, q⟩
  · exact .inl ⟨_, _, dpA i1 h1, dpA i2 h2, h3, h4, q⟩
theorem ev_neX {b : Bool} (ha : Ev ta σ H v) (hb : Ev tb σ H w) (i1 : Im.im G H v x) (i2 : Im.im G H w y) (h : EqXf x y b) : Ev (tOp (rNeX G.K) ta tb) σ H (.bl (!b)) := ev_op ha hb fun Q q => by
  rcases h with ⟨h, rfl⟩ | ⟨h1, h2, h3, h4, rfl⟩
  · exact .inr ⟨dqA_v i1 i2 h, q⟩
  · exact .inl ⟨_, _, dpA i1 h1, dpA i2 h2, h3, h4, q⟩
end
end Ml

/-! ### texts in order, each once -/
namespace Ml
open PySem PySem.Spec PyProof.Rows
def leT (a b : Str) : Bool := !decide (b.cps.toList < a.cps.toList)
theorem leT_iff {a b : Str} : leT a b = true ↔ a.cps.toList ≤ b.cps.toList := by
  unfold leT
  rw [Bool.not_eq_true', decide_eq_false_iff_not]
  exact List.not_lt
theorem leT_tr (a b c : Str) (x : leT a b = true) (y : leT b c = true) : leT a c = true := leT_iff.mpr (List.le_trans (leT_iff.mp x) (leT_iff.mp y))
theorem leT_tot (a b : Str) : (leT a b || leT b a) = true := by
  rw [Bool.or_eq_true]
  exact (List.le_total a.cps.toList b.cps.toList).imp leT_iff.mpr leT_iff.mpr
theorem leT_anti {a b : Str} (x : leT a b = true) (y : leT b a = true) : a = b := by
  have e := List.le_antisymm (leT_iff.mp x) (leT_iff.mp y)
  obtain ⟨⟨xs⟩⟩ := a
  obtain ⟨⟨ys⟩⟩ := b
  cases e
  rfl
def sortT (xs : List Str) : List Str := xs.mergeSort leT
theorem sortT_perm (xs : List Str) : (sortT xs).Perm xs := List.mergeSort_perm xs leT
theorem sortT_up (xs : List Str) : (sortT xs).Pairwise (fun a b => leT a b = true) := List.pairwise_mergeSort leT_tr leT_tot xs
theorem up_one : ∀ {xs ys : List Str}, xs.Pairwise (fun a b => leT a b = true) → ys.Pairwise (fun a b => leT a b = true) → xs.Perm ys → xs = ys
  | [], ys, _, _, p => p.nil_eq
  | x :: r, [], _, _, p => absurd p.length_eq (by simp)
  | x :: r, y :: t, ux, uy, p => by
    have ex : x = y := by
      by_cases z : x = y
      · exact z
      · have mx : x ∈ t := (List.mem_cons.mp (p.mem_iff.mp List.mem_cons_self)).resolve_left z
        have my : y ∈ r := (List.mem_cons.mp (p.mem_iff.mpr List.mem_cons_self)).resolve_left (fun q => z q.symm)
        exact leT_anti (List.rel_of_pairwise_cons ux my) (List.rel_of_pairwise_cons uy mx)
    subst ex
    rw [up_one (List.pairwise_cons.mp ux).2 (List.pairwise_cons.mp uy).2 (p.cons_inv)]
theorem rising_leT : ∀ {p : Str} {xs : List Str}, risingS p xs = true → (p :: xs).Pairwise (fun a b => leT a b = true)
  | p, [], _ => List.pairwise_singleton _ _
  | p, x :: r, h => by
    have h' : (!ltCps x.cps.toList p.cps.toList && risingS x r) = true := h
    rw [Bool.and_eq_true, ltCps_eq] at h'
    have t := rising_leT h'.2
    have px : leT p x = true := h'.1
    refine List.pairwise_cons.mpr ⟨fun y hy => ?_, t⟩
    rcases List.mem_cons.mp hy with e | e
    · rw [e]; exact px
    · exact leT_tr _ _ _ px (List.rel_of_pairwise_cons t e)
theorem sorted_leT : ∀ {xs : List Str}, sortedS xs = true → xs.Pairwise (fun a b => leT a b = true)
  | [], _ => List.Pairwise.nil
  | _ :: _, h => rising_leT h
theorem sortT_of {xs ys : List Str} (p : ys.Perm xs) (h : ys.Pairwise (fun a b => leT a b = true)) : ys = sortT xs := up_one h (sortT_up xs) (p.trans (sortT_perm xs).symm)
theorem sortT_congr {xs ys : List Str} (p : xs.Perm ys) : sortT xs = sortT ys := sortT_of ((sortT_perm xs).trans p) (sortT_up xs)
def onceL : List Str → List Str
  | [] => []
  | x :: r => if x ∈ r then onceL r else x :: onceL r
theorem mem_onceL {x : Str} : ∀ {xs : List Str}, x ∈ onceL xs ↔ x ∈ xs
  | [] => Iff.rfl
  | y :: r => by
    unfold onceL
    split
    · rename_i c
      rw [mem_onceL, List.mem_cons]
      exact ⟨.inr, fun h => h.elim (fun e => e ▸ c) id⟩
    · rw [List.mem_cons, List.mem_cons, mem_onceL]
theorem nodup_onceL : ∀ {xs : List Str}, (onceL xs).Nodup
  | [] => List.nodup_nil
  | y :: r => by
    unfold onceL
    split
    · exact nodup_onceL
    · rename_i c
      exact List.nodup_cons.mpr ⟨fun h => c (mem_onceL.mp h), nodup_onceL⟩
theorem perm_of_len : ∀ {xs ys : List Str}, xs.Nodup → (∀ x, x ∈ xs → x ∈ ys) → ys.length ≤ xs.length → ys.Perm xs
  | [], ys, _, _, l => by
    have e : ys = [] := List.length_eq_zero_iff.mp (Nat.le_zero.mp l)
    rw [e]
  | x :: r, ys, d, m, l => by
    obtain ⟨d1, d2⟩ := List.nodup_cons.mp d
    have hx := m x List.mem_cons_self
    have pe := List.perm_cons_erase hx
    refine pe.trans (List.Perm.cons x (perm_of_len d2 (fun y hy => ?_) ?_))
    · rcases List.mem_cons.mp (pe.mem_iff.mp (m y (List.mem_cons_of_mem _ hy))) with e | e
      · rw [e] at hy; exact absurd hy d1
      · exact e
    · have q := pe.length_eq
      simp only [List.length_cons] at q l
      omega
theorem nodup_len : ∀ {xs ys : List Str}, xs.Nodup → (∀ x, x ∈ xs → x ∈ ys) → xs.length ≤ ys.length
  | [], _, _, _ => Nat.zero_le _
  | x :: r, ys, d, m => by
    obtain ⟨d1, d2⟩ := List.nodup_cons.mp d
    have pe := List.perm_cons_erase (m x List.mem_cons_self)
    have q := pe.length_eq
    have t : r.length ≤ (ys.erase x).length := nodup_len d2 fun y hy => by
      rcases List.mem_cons.mp (pe.mem_iff.mp (m y (List.mem_cons_of_mem _ hy))) with e | e
      · rw [e] at hy; exact absurd hy d1
      · exact e
    simp only [List.length_cons] at q ⊢
    omega
theorem perm_same {xs ys : List Str} (d : xs.Nodup) (e : ys.Nodup) (m : ∀ x, x ∈ xs ↔ x ∈ ys) : xs.Perm ys := perm_of_len e (fun x h => (m x).mpr h) (nodup_len d fun x h => (m x).mp h)
/-- sorted(set(xs)) -/
def ssetT (xs : List Str) : List Str := sortT (onceL xs)
theorem mem_ssetT {x : Str} {xs : List Str} : x ∈ ssetT xs ↔ x ∈ xs := (sortT_perm _).mem_iff.trans mem_onceL
theorem ssetT_nodup (xs : List Str) : (ssetT xs).Nodup := (sortT_perm _).nodup_iff.mpr nodup_onceL
theorem ssetT_up (xs : List Str) : (ssetT xs).Pairwise (fun a b => leT a b = true) := sortT_up _
theorem ssetT_is {xs ys : List Str} (d : ys.Nodup) (u : ys.Pairwise (fun a b => leT a b = true)) (m : ∀ x, x ∈ ys ↔ x ∈ xs) : ys = ssetT xs :=
  up_one u (ssetT_up xs) (perm_same d (ssetT_nodup xs) fun x => (m x).trans mem_ssetT.symm)
theorem ssetT_congr {xs ys : List Str} (m : ∀ x, x ∈ xs ↔ x ∈ ys) : ssetT xs = ssetT ys := ssetT_is (ssetT_nodup xs) (ssetT_up xs) fun x => mem_ssetT.trans (m x)
end Ml

/-! ### a set that is filled with texts -/
namespace L2
open PySem PySem.Spec PyProof.Rows PySem.Froz Ml
def OrdOk (w : World) (D : SD) : Prop := Ris D.2.2.place.toList ∧ (w.params.followText "set-order" = true ∨ D.2.2.led = true)
theorem ord_tail {w : World} {ep : Nat} {es : Array (Int × Value)} {t : SetTable} {b : Bool} (r : Ris t.place.toList) (l : w.params.followText "set-order" = true ∨ t.led = true) : OrdOk w (tailTx ep es t b) := by
  unfold tailTx
  split
  · exact ⟨relayAll_ris t es _, l.imp id fun z => by rw [relayAll_led]; exact z⟩
  · exact ⟨r, l⟩
theorem ord_add {w : World} {D : SD} {h : Int} {v : Value} (o : OrdOk w D) : OrdOk w (addTx h v D) := by
  obtain ⟨es, ep, t⟩ := D
  have r := layNew_ris t es h v o.1
  have l : w.params.followText "set-order" = true ∨ (layNew t es h v).2.1.led = true := o.2.imp id fun z => by rw [layNew_led]; exact z
  unfold addTx
  dsimp only
  split
  · exact ord_tail r l
  · exact ord_tail r l
structure SX (P : Program) (w : World) (D : SD) (l : List Str) : Prop where
  ok : TxOk P w D l
  nd : l.Nodup
  od : OrdOk w D
section
variable {P : Program} {w : World} {A : Around} {E : Value → Shared → Prop} {s : Shared}
theorem add_had {a : Addr} {T : String} {D : SD} {l : List Str} {k : Str} {u : Tok} {Q : Bool → Shared → Prop} (ho : s.heap.get? a = some (sObj T D)) (F : TxOk P w D l) (hk : k ∈ l) (hb : l.length < scanBound)
    (h : Q false s) : wpAny (model P w) A (setAddHashed a (.str k u) (hashStr w k)) Q E s := by
  obtain ⟨es, ep, t⟩ := D
  have few : es.size < scanBound := by rw [show es.size = l.length from F.sz]; exact hb
  unfold setAddHashed setAddHashedIn
  refine wpAny_holding (wpAny_bind (wpAny_setState_of ho rfl F.fit ?_))
  dsimp only
  rw [byScan_of rfl few F.el]
  simp only [↓reduceIte]
  unfold setAddByScan
  refine wpAny_bind (wpAny_bind (wpAny_rule (wpAny_bind (wpAny_setScan_of (knd := strKind P w) (k := k) (is_str k u) ho rfl F.fit F.el ?_))))
  cases hr : List.findIdx? (fun e => (strKind P w).is k e.2) es.toList with
  | none =>
    obtain ⟨e, he, z⟩ := (F.mem k).mp hk
    have c := List.findIdx?_eq_none_iff.mp hr e he
    rw [z] at c
    cases c
  | some j =>
    dsimp only
    exact wpAny_pure (wpAny_pure h)
/-- one text more, had or new -/
theorem add_any {a : Addr} {T : String} {D : SD} {l : List Str} {k : Str} {u : Tok} {Q : Bool → Shared → Prop} (ho : s.heap.get? a = some (sObj T D)) (F : SX P w D l) (hb : l.length + 1 < scanBound)
    (h : ∀ b h' D' l', (∀ x, x ∈ l' ↔ x ∈ l ∨ x = k) → l'.length ≤ l.length + 1 → SX P w D' l' → h'.get? a = some (sObj T D') → (∀ c o, c ≠ a → s.heap.get? c = some o → h'.get? c = some o) → Q b { s with heap := h' }) :
    wpAny (model P w) A (setAddHashed a (.str k u) (hashStr w k)) Q E s := by
  by_cases c : k ∈ l
  · exact add_had ho F.ok c (Nat.lt_of_succ_lt hb) (h false s.heap D l (fun x => ⟨.inl, fun z => z.elim id fun e => e ▸ c⟩) (Nat.le_succ _) F ho fun _ _ _ e => e)
  · refine add_x ho F.ok c hb (h true _ _ (k :: l) (fun x => List.mem_cons.trans Or.comm) (Nat.le_refl _) ⟨add_ok u F.ok, List.nodup_cons.mpr ⟨c, F.nd⟩, ord_add F.od⟩ (get_upd _ ho rfl) fun d o hd e => ?_)
    exact (PySem.Heap.get?_update_of_ne _ (Ne.symm hd) e)
theorem set_fill {I : Addr} {fp wr : List Addr} {GG : Array GenState → Array GenState → Prop} {n : Nat} {Pv : Nat → Value → Prop} {St : Nat → Shared → Prop} {R : Result → Shared → Prop}
    (W : WalksS P w A.in1 I fp wr GG n Pv St) (S : Addr) (out : S ∉ fp) (xs : List Str) (hn : n = xs.length) (few : xs.length + 1 < scanBound) (val : ∀ i v, Pv i v → ∃ x t, xs[i]? = some x ∧ v = .str x t) :
    ∀ (k i : Nat) (s : Shared), n - i = k → i ≤ n → St i s → (∃ D l, l.length ≤ i ∧ (∀ x, x ∈ l ↔ x ∈ xs.take i) ∧ SX P w D l ∧ s.heap.get? S = some (sObj "set" D)) →
      (∀ s' D l, Moved (S :: wr) GG s s' → (∀ x, x ∈ l ↔ x ∈ xs) → l.length ≤ n → SX P w D l → s'.heap.get? S = some (sObj "set" D) → R (.ok (.ret .none)) s') →
      codeAny (model P w) A (.builtin "set.update.loop" ⟨[.ref S, .ref I], []⟩) R s := by
  have nw : S ∉ wr := fun h => out (W.sub _ h)
  have sub : ∀ b ∈ wr, b ∈ S :: wr := fun b hb => List.mem_cons_of_mem _ hb
  intro k
  induction k with
  | zero =>
    intro i s hk hi st ⟨D, l, hl, hm, F, ho⟩ fin
    have hin : i = n := by omega
    subst hin
    rw [List.take_of_length_le (by omega)] at hm
    refine codeAny_builtin PyProof.Rows.F.entry_set_update_loop ?_
    rw [Around.under_plainId PyProof.Rows.F.plain_set_update_loop _]
    show wpAny _ A.in1 (pyNext (.ref I) >>= _) _ _ s
    refine wpAny_bind (W.done s _ _ st fun s' mv => ?_)
    exact wpAny_pure (fin s' D l (mv.mono sub) hm hl F (mv.heap S _ nw ho))
  | succ k ih =>
    intro i s hk hi st ⟨D, l, hl, hm, F, ho⟩ fin
    have lt : i < n := by omega
    refine codeAny_builtin PyProof.Rows.F.entry_set_update_loop ?_
    rw [Around.under_plainId PyProof.Rows.F.plain_set_update_loop _]
    show wpAny _ A.in1 (pyNext (.ref I) >>= _) _ _ s
    refine wpAny_bind (W.item i s _ _ lt st fun v s' pv st' mv => ?_)
    obtain ⟨z, t, hz, rfl⟩ := val i v pv
    show wpAny _ A.in1 (holding [Value.str z t] (setAdd S (.str z t)) >>= _) _ _ s'
    refine wpAny_bind (wpAny_holding ?_)
    unfold setAdd
    refine wpAny_holding ?_
    refine wpAny_bind ((strKind P w).pyHash (k := z) (is_str z t) ?_)
    refine add_any (s := { s' with toks := s'.toks + 1 }) (mv.heap S _ nw ho) F (by omega) fun b h' D' l' hm' hl' F' ho' same => ?_
    have hm2 : ∀ x, x ∈ l' ↔ x ∈ xs.take (i + 1) := fun x => by
      rw [hm' x, hm x, List.take_add_one, hz]
      simp [List.mem_append]
    refine wpAny_pure ⟨plainId_quiet PyProof.Rows.F.plain_set_update_loop _, ih (i + 1) _ (by omega) lt (W.frame _ s' _ _ st' (Nat.le_succ _) fun b hb o e => ?_) ⟨D', l', by omega, hm2, F', ho'⟩ fun s'' D2 l2 mv2 h1 h2 h3 h4 => ?_⟩
    · exact same b o (fun q => out (q ▸ hb)) e
    · exact fin s'' D2 l2 (Moved.trans W.gtrans ((mv.mono sub).then_heap (Nat.le_succ _) fun b o hb e => same b o (fun q => hb (by rw [q]; exact List.mem_cons_self)) e) mv2) h1 h2 h3 h4
theorem sx_new {led : Bool} (hl : w.params.followText "set-order" = true ∨ led = true) : SX P w (#[], 0, .fresh 0 0 led) [] := ⟨TxOk.nil (by rfl), List.nodup_nil, List.Pairwise.nil, hl⟩
def newSet (w : World) : Obj := { cls := .type "set", dict := none, data := .set #[] 0 (.fresh 0 0 (!w.params.followText "set-order")) }
set_option maxRecDepth 100000 in
theorem set_of_list {l : Addr} {items : Array Value} (xs : List Str) {Q : Value → Shared → Prop} (calm : A.handled = none) (hl : s.heap.IsList l items) (hit : StrsAre items.toList xs) (few : xs.length + 1 < scanBound)
    (fin : ∀ (h' : Heap) (tk : Nat) (D : SD) (m : List Str), SX P w D m → (∀ x, x ∈ m ↔ x ∈ xs) → m.length ≤ xs.length → h'.get? s.heap.objs.size = some (sObj "set" D) → (∀ b o, s.heap.get? b = some o → h'.get? b = some o) → Q (.ref s.heap.objs.size) { s with heap := h', toks := tk }) :
    wpAny (model P w) A (call (.type "set") [.ref l]) Q E s := by
  have isz : items.size = xs.length := by rw [← StrsAre.len_eq hit, Array.length_toList]
  obtain ⟨hd, tl, m_⟩ := PySem.F.called_set.mro
  have m1 := PySem.F.called_set.made
  have m2 := PySem.F.called_set.sub
  refine wpAny_call (codeAny_of_tree ?_)
  show wpAny _ _ (callAny (.type "set") _) _ _ _
  refine wpAny_pure ⟨Code.quiet_builtin _ (by decide +kernel), codeAny_builtin PySem.F.entry_type_call ?_⟩
  rw [Around.under_plain (weight_type_call_type "set" [.ref l] []) rfl]
  have n1 := PySem.F.called_set.notType
  have n2 := PySem.F.called_set.canCreate
  have n3 := PySem.F.typeCall_set_1 (.ref l)
  repeat (any_goals (first | assumption | wp_step))

  refine codeAny_mono (code_set_led1 (.ref l) (E := E) (Q₁ := fun x s₁ => x = .ref s.heap.objs.size ∧ s₁ = { s with heap := s.heap.push (newSet w) }) ⟨rfl, rfl⟩) fun r s₁ hr => ?_
  cases r with
  | error e => exact hr
  | ok fl =>
    cases fl with
    | ret obj =>
      obtain ⟨rfl, rfl⟩ := hr
      have gS : (s.heap.push (newSet w)).get? s.heap.objs.size = some (newSet w) := Heap.get?_push_size _ rfl
      have tS : Shared.TypeIs { s with heap := s.heap.push (newSet w) } (.ref s.heap.objs.size) "set" := ⟨_, gS, rfl⟩
      have i1 := PySem.F.called_set.init.lookup
      have i2 := PySem.F.called_set.init.bind (.ref s.heap.objs.size)
      repeat (any_goals (first | assumption | wp_step))

      refine codeAny_mono (codeAny_call_builtin (R := wants (fun r s₂ => r = .none ∧ ∃ h' tk D m, s₂ = { s with heap := h', toks := tk } ∧ SX P w D m ∧ (∀ x, x ∈ m ↔ x ∈ xs) ∧ m.length ≤ xs.length ∧
          h'.get? s.heap.objs.size = some (sObj "set" D) ∧ (∀ b o, s.heap.get? b = some o → h'.get? b = some o)) E) PySem.F.called_set.init.plain PySem.F.entry_set_init (check_set_init_1 tS ?_)) fun r₂ s₂ hr₂ => ?_
      · obtain ⟨ol, ho, hc, nl, hd⟩ := hl
        obtain ⟨cl_, dc_, dt_, sl_⟩ := ol
        simp only at hc hd
        subst hc; subst hd
        have ho' : (s.heap.push (newSet w)).get? l = some { cls := .type "list", dict := dc_, data := .seq items nl, slots := sl_ } := Heap.get?_push_of_some _ ho
        have s1 := PySem.F.sub_list_set
        have s2 := PySem.F.sub_list_frozenset
        have s3 : (Value.type "list" == Value.type "dict") = false := by decide
        have il : (s.heap.push (newSet w)).IsList l items := ⟨_, ho', rfl, nl, rfl⟩
        unfold Builtin.«set.__init__» noKeywords Builtin.Frozenset.updateFrom
        generalize hPI : pyIter = PI
        wp_walk
        subst hPI

        refine wpAny_pyIter_list il ?_
        refine wpAny_bind (wpAny_runValue ?_)
        have lS : l < s.heap.objs.size := Heap.lt_size ho
        have c3 : A.in1.in1.in1.handled = none := by simp [calm]
        have nI : l ≠ (s.heap.push (newSet w)).objs.size := by
          rw [Heap.size_push]; exact Nat.ne_of_lt (Nat.lt_succ_of_lt lS)
        have nS : s.heap.objs.size ∉ [(s.heap.push (newSet w)).objs.size, l] := by
          rw [Heap.size_push]; simp only [List.mem_cons, List.mem_singleton, List.not_mem_nil, or_false, not_or]
          exact ⟨Nat.ne_of_lt (Nat.lt_succ_self _), Nat.ne_of_gt lS⟩
        have val : ∀ (i : Nat) (v : Value), items[i]? = some v → ∃ x t, xs[i]? = some x ∧ v = .str x t := fun i v hv => by
          have hi : i < xs.length := by rw [← isz]; exact (Array.getElem?_eq_some_iff.mp hv).1
          obtain ⟨t, e⟩ := SS.strs_at hit i v (by rw [Array.getElem?_toList]; exact hv)
          refine ⟨xs[i], t, List.getElem?_eq_getElem hi, ?_⟩
          rw [e, List.getD_eq_getElem?_getD, List.getElem?_eq_getElem hi] <;> rfl
        refine set_fill ((Walks.list c3 _ l nI items).toS) s.heap.objs.size nS xs isz few val (items.size - 0) 0 _ (by omega) (Nat.zero_le _) ⟨⟨_, Heap.get?_push_size _ rfl, rfl, rfl⟩, (il.push _)⟩ ?at0 ?end0
        case at0 =>
          have g0 : ((s.heap.push (newSet w)).push { cls := .type "list_iterator", data := .fields #[.ref l, .int 0 0] }).get? s.heap.objs.size = some (newSet w) := Heap.get?_push_of_some _ gS
          refine ⟨(#[], 0, .fresh 0 0 (!w.params.followText "set-order")), [], Nat.le_refl 0, fun x => by simp, sx_new ?_, g0⟩
          cases w.params.followText "set-order"
          · exact .inr rfl
          · exact .inl rfl
        case end0 =>
          intro s' D m mv hm hlen F hS
          obtain ⟨h', g', d', tk', os'⟩ := s'
          have eg : g' = s.gens := mv.gens
          have ed : d' = s.drawn := mv.drawn
          have eo : os' = s.os := mv.os
          subst eg; subst ed; subst eo
          show wpAny _ _ _ _ _ _
          refine wpAny_pure ?_
          show wpAny _ _ (ret Value.none) _ _ _
          refine wpAny_pure ⟨rfl, h', tk', D, m, rfl, F, hm, by rw [← isz]; exact hlen, hS, fun b o e => ?_⟩
          have b0 : b < s.heap.objs.size := Heap.lt_size e
          have b2 : b ≠ (s.heap.push (newSet w)).objs.size := by
            rw [Heap.size_push]; exact Nat.ne_of_lt (Nat.lt_succ_of_lt b0)
          exact mv.heap b o (by simp only [List.mem_cons, List.mem_singleton, List.not_mem_nil, or_false, not_or]; exact ⟨Nat.ne_of_lt b0, b2⟩) (Heap.get?_push_of_some _ (Heap.get?_push_of_some _ e))
      · cases r₂ with
        | error e => exact hr₂
        | ok fl₂ =>
          cases fl₂ with
          | ret r =>
            obtain ⟨rfl, h', tk, D, m, rfl, F, hm, hlen, hS, hk⟩ := hr₂
            repeat (any_goals (first | assumption | wp_step))
            exact fin _ _ D m F hm hlen hS hk
          | _ => exact hr₂.elim
    | _ => exact hr.elim
set_option maxRecDepth 100000 in
theorem set_of_tuple {l : Addr} {items : Array Value} (xs : List Str) {Q : Value → Shared → Prop} (calm : A.handled = none) (hl : s.heap.IsTuple l items) (hit : StrsAre items.toList xs) (few : xs.length + 1 < scanBound)
    (fin : ∀ (h' : Heap) (tk : Nat) (D : SD) (m : List Str), SX P w D m → (∀ x, x ∈ m ↔ x ∈ xs) → m.length ≤ xs.length → h'.get? s.heap.objs.size = some (sObj "set" D) → (∀ b o, s.heap.get? b = some o → h'.get? b = some o) → Q (.ref s.heap.objs.size) { s with heap := h', toks := tk }) :
    wpAny (model P w) A (call (.type "set") [.ref l]) Q E s := by
  have isz : items.size = xs.length := by rw [← StrsAre.len_eq hit, Array.length_toList]
  obtain ⟨hd, tl, m_⟩ := PySem.F.called_set.mro
  have m1 := PySem.F.called_set.made
  have m2 := PySem.F.called_set.sub
  refine wpAny_call (codeAny_of_tree ?_)
  show wpAny _ _ (callAny (.type "set") _) _ _ _
  refine wpAny_pure ⟨Code.quiet_builtin _ (by decide +kernel), codeAny_builtin PySem.F.entry_type_call ?_⟩
  rw [Around.under_plain (weight_type_call_type "set" [.ref l] []) rfl]
  have n1 := PySem.F.called_set.notType
  have n2 := PySem.F.called_set.canCreate
  have n3 := PySem.F.typeCall_set_1 (.ref l)
  repeat (any_goals (first | assumption | wp_step))

  refine codeAny_mono (code_set_led1 (.ref l) (E := E) (Q₁ := fun x s₁ => x = .ref s.heap.objs.size ∧ s₁ = { s with heap := s.heap.push (newSet w) }) ⟨rfl, rfl⟩) fun r s₁ hr => ?_
  cases r with
  | error e => exact hr
  | ok fl =>
    cases fl with
    | ret obj =>
      obtain ⟨rfl, rfl⟩ := hr
      have gS : (s.heap.push (newSet w)).get? s.heap.objs.size = some (newSet w) := Heap.get?_push_size _ rfl
      have tS : Shared.TypeIs { s with heap := s.heap.push (newSet w) } (.ref s.heap.objs.size) "set" := ⟨_, gS, rfl⟩
      have i1 := PySem.F.called_set.init.lookup
      have i2 := PySem.F.called_set.init.bind (.ref s.heap.objs.size)
      repeat (any_goals (first | assumption | wp_step))

      refine codeAny_mono (codeAny_call_builtin (R := wants (fun r s₂ => r = .none ∧ ∃ h' tk D m, s₂ = { s with heap := h', toks := tk } ∧ SX P w D m ∧ (∀ x, x ∈ m ↔ x ∈ xs) ∧ m.length ≤ xs.length ∧
          h'.get? s.heap.objs.size = some (sObj "set" D) ∧ (∀ b o, s.heap.get? b = some o → h'.get? b = some o)) E) PySem.F.called_set.init.plain PySem.F.entry_set_init (check_set_init_1 tS ?_)) fun r₂ s₂ hr₂ => ?_
      · obtain ⟨ol, ho, hc, nl, hd⟩ := hl
        obtain ⟨cl_, dc_, dt_, sl_⟩ := ol
        simp only at hc hd
        subst hc; subst hd
        have ho' : (s.heap.push (newSet w)).get? l = some { cls := .type "tuple", dict := dc_, data := .seq items nl, slots := sl_ } := Heap.get?_push_of_some _ ho
        have s1 := PySem.F.sub_tuple_set
        have s2 := PySem.F.sub_tuple_frozenset
        have s3 : (Value.type "tuple" == Value.type "dict") = false := by decide
        have il : (s.heap.push (newSet w)).IsTuple l items := ⟨_, ho', rfl, nl, rfl⟩
        unfold Builtin.«set.__init__» noKeywords Builtin.Frozenset.updateFrom
        generalize hPI : pyIter = PI
        wp_walk
        subst hPI

        refine wpAny_pyIter_tuple il ?_
        refine wpAny_bind (wpAny_runValue ?_)
        have lS : l < s.heap.objs.size := Heap.lt_size ho
        have c3 : A.in1.in1.in1.handled = none := by simp [calm]
        have nI : l ≠ (s.heap.push (newSet w)).objs.size := by
          rw [Heap.size_push]; exact Nat.ne_of_lt (Nat.lt_succ_of_lt lS)
        have nS : s.heap.objs.size ∉ [(s.heap.push (newSet w)).objs.size, l] := by
          rw [Heap.size_push]; simp only [List.mem_cons, List.mem_singleton, List.not_mem_nil, or_false, not_or]
          exact ⟨Nat.ne_of_lt (Nat.lt_succ_self _), Nat.ne_of_gt lS⟩
        have val : ∀ (i : Nat) (v : Value), items[i]? = some v → ∃ x t, xs[i]? = some x ∧ v = .str x t := fun i v hv => by
          have hi : i < xs.length := by rw [← isz]; exact (Array.getElem?_eq_some_iff.mp hv).1
          obtain ⟨t, e⟩ := SS.strs_at hit i v (by rw [Array.getElem?_toList]; exact hv)
          refine ⟨xs[i], t, List.getElem?_eq_getElem hi, ?_⟩
          rw [e, List.getD_eq_getElem?_getD, List.getElem?_eq_getElem hi] <;> rfl
        refine set_fill ((Walks.tuple c3 _ l nI items).toS) s.heap.objs.size nS xs isz few val (items.size - 0) 0 _ (by omega) (Nat.zero_le _) ⟨⟨_, Heap.get?_push_size _ rfl, rfl, rfl⟩, (il.push _)⟩ ?at0 ?end0
        case at0 =>
          have g0 : ((s.heap.push (newSet w)).push { cls := .type "tuple_iterator", data := .fields #[.ref l, .int 0 0] }).get? s.heap.objs.size = some (newSet w) := Heap.get?_push_of_some _ gS
          refine ⟨(#[], 0, .fresh 0 0 (!w.params.followText "set-order")), [], Nat.le_refl 0, fun x => by simp, sx_new ?_, g0⟩
          cases w.params.followText "set-order"
          · exact .inr rfl
          · exact .inl rfl
        case end0 =>
          intro s' D m mv hm hlen F hS
          obtain ⟨h', g', d', tk', os'⟩ := s'
          have eg : g' = s.gens := mv.gens
          have ed : d' = s.drawn := mv.drawn
          have eo : os' = s.os := mv.os
          subst eg; subst ed; subst eo
          show wpAny _ _ _ _ _ _
          refine wpAny_pure ?_
          show wpAny _ _ (ret Value.none) _ _ _
          refine wpAny_pure ⟨rfl, h', tk', D, m, rfl, F, hm, by rw [← isz]; exact hlen, hS, fun b o e => ?_⟩
          have b0 : b < s.heap.objs.size := Heap.lt_size e
          have b2 : b ≠ (s.heap.push (newSet w)).objs.size := by
            rw [Heap.size_push]; exact Nat.ne_of_lt (Nat.lt_succ_of_lt b0)
          exact mv.heap b o (by simp only [List.mem_cons, List.mem_singleton, List.not_mem_nil, or_false, not_or]; exact ⟨Nat.ne_of_lt b0, b2⟩) (Heap.get?_push_of_some _ (Heap.get?_push_of_some _ e))
      · cases r₂ with
        | error e => exact hr₂
        | ok fl₂ =>
          cases fl₂ with
          | ret r =>
            obtain ⟨rfl, h', tk, D, m, rfl, F, hm, hlen, hS, hk⟩ := hr₂
            repeat (any_goals (first | assumption | wp_step))
            exact fin _ _ D m F hm hlen hS hk
          | _ => exact hr₂.elim
    | _ => exact hr.elim
theorem elems_strs {l : List (Int × Value)} (g : ElemsOf (strKind P w) l) : ∀ v ∈ l.map (·.2), ∃ k t, v = Value.str k t := fun v hv => by
  obtain ⟨e, he, rfl⟩ := List.mem_map.mp hv
  obtain ⟨⟨k, h1, _⟩, _⟩ := g e he
  obtain ⟨t, ev⟩ := Value.isStrOf_shape (x := k) (v := e.2) h1
  exact ⟨k, t, ev⟩
theorem strs_all : ∀ {vs : List Value}, (∀ v ∈ vs, ∃ k t, v = Value.str k t) → ∃ ks, StrsAre vs ks
  | [], _ => ⟨[], .nil⟩
  | v :: r, h => by
    obtain ⟨k, t, rfl⟩ := h v List.mem_cons_self
    obtain ⟨ks, hk⟩ := strs_all (vs := r) fun u hu => h u (List.mem_cons_of_mem _ hu)
    exact ⟨k :: ks, .cons k t hk⟩
theorem mem_strs {k : Str} : ∀ {vs : List Value} {ks : List Str}, StrsAre vs ks → (k ∈ ks ↔ ∃ t, Value.str k t ∈ vs)
  | _, _, .nil => ⟨fun h => (by cases h), fun ⟨_, h⟩ => (by cases h)⟩
  | _, _, .cons x t h => by
    rw [List.mem_cons, mem_strs h]
    constructor
    · rintro (e | ⟨u, e⟩)
      · exact ⟨t, by rw [e]; exact List.mem_cons_self⟩
      · exact ⟨u, List.mem_cons_of_mem _ e⟩
    · rintro ⟨u, e⟩
      rcases List.mem_cons.mp e with e | e
      · injection e with e1 e2
        exact .inl e1
      · exact .inr ⟨u, e⟩
/-- sorted of a set of fewer than 64 texts -/
theorem sorted_of_set {a : Addr} {D : SD} {l : List Str} {Q : Value → Shared → Prop} (ho : s.heap.get? a = some (sObj "set" D)) (F : SX P w D l) (calm : A.handled = none) (few : l.length < 64)
    (fin : ∀ s' p (out : Array Value) (c : Nat), (∀ b o, s.heap.get? b = some o → s'.heap.get? b = some o) → s'.gens = s.gens → s'.os = s.os → s.heap.objs.size ≤ p →
      s'.heap.get? p = some (seqObj "list" out c) → StrsAre out.toList (sortT l) → Q (.ref p) s') :
    wpAny (model P w) A (call (.builtin "sorted") [.ref a]) Q E s := by
  obtain ⟨es, ep, t⟩ := D
  have sz : es.size = l.length := F.ok.sz
  refine Calls.call_function_entry kind_sorted plain_sorted entry_sorted (args_sorted1 _) ?_
  unfold Builtin.«sorted»
  refine wpAny_bind (m := checkCount "sorted" 1 1 _) (wpAny_pure ?_)
  refine wpAny_bind (collect_set (A := A.in1) calm ⟨_, ho, rfl, rfl⟩ F.ok.fit (by rw [sz]; unfold scanBound; omega) F.od.1 F.od.2 fun s1 vs k1 hz g1 o1 pm => ?_)
  have vl : vs.length = l.length := by rw [pm.length_eq, List.length_map, Array.length_toList]; exact sz
  obtain ⟨ks, hS⟩ := strs_all (vs := vs) fun v hv => elems_strs F.ok.el v (pm.mem_iff.mp hv)
  have kl : ks.length = l.length := by rw [← StrsAre.len_eq hS]; exact vl
  have kp : ks.Perm l := by
    refine perm_of_len F.nd (fun x hx => ?_) (Nat.le_of_eq kl)
    obtain ⟨e, he, z⟩ := (F.ok.mem x).mp hx
    obtain ⟨t', ev⟩ := Value.isStrOf_shape (x := x) (v := e.2) z
    exact (mem_strs hS).mpr ⟨t', pm.mem_iff.mpr (List.mem_map.mpr ⟨e, he, ev⟩)⟩
  refine wpAny_bind (wpAny_newList ?_ (by rw [vl, sizeLine_eq]; omega))
  have oL : (s1.heap.push (seqObj "list" vs.toArray 0)).get? s1.heap.objs.size = some (seqObj "list" vs.toArray 0) := Heap.get?_push_size _ rfl
  refine wpAny_bind (wpAny_holding (wpAny_call_entry slot_list_sort ⟨_, oL, rfl⟩ entry_list_sort
    (list_sort_treeK strKind_oneLt oL hS.keysOf (fun v₁ v₂ rest e => keyKind_strs (by rw [← e]; exact hS)) (by rw [vl]; exact few) fun st' hp hs => ⟨_, rfl, ?_⟩) (args_list_sort _)))
  obtain ⟨ys, g2, g3, g4⟩ := sorted_out_str hS hp hs
  have ey : ys = sortT l := sortT_of (g3.trans kp) (sorted_leT g4)
  rw [ey] at g2
  obtain ⟨c, hc⟩ := sortedHeap_at (vs := vs) (out := (arrOf st').map (·.2)) oL
  refine wpAny_pure ⟨_, rfl, fin _ s1.heap.objs.size _ c (fun b u e => ?_) g1 o1 hz hc g2⟩
  have q := k1 b u e
  have lt := Heap.lt_size q
  show (sortedHeap (s1.heap.push (seqObj "list" vs.toArray 0)) s1.heap.objs.size vs _).get? b = some u
  rw [sortedHeap_old (Nat.ne_of_lt lt) (by rw [size_push']; exact Nat.lt_succ_of_lt lt)]
  exact Heap.get?_push_of_some _ q
end
/-- sorted(set(a)), a a list or a tuple of fewer than 64 texts -/
def rSortSet (K : PySem.W.Frag) : V → Hp → VK → Prop := fun x H Q => ∃ l, ∃ xs : List Str, x = .ref l ∧ (SqL K H l (xs.map V.str) ∨ SqT K H l (xs.map V.str)) ∧ xs.length < 64 ∧ ∀ p, H p = none → Q (.ref p) (upd H p (.lst ((ssetT xs).map V.str)))
def tSortSet (K : PySem.W.Frag) (ta : TE) : TE := fun σ H Q => ta σ H fun x H1 => rSortSet K x H1 Q
section
variable {X : Cx}
theorem pe_sortSet {a : Expr} {ta : TE} {p p2 q pos : Pos} (calm : X.calm = true) (hg : Gl X "sorted") (hm : X.mg "sorted" = none) (hg2 : Gl X "set") (hm2 : X.mg "set" = none) (ha : PE X a ta)
    (na : starEach [a] X.env = (false, eval a X.env) :: starEach [] X.env := by rfl) : PE X (.Call (.Name "sorted" p) [.Call (.Name "set" p2) [a] [] q] [] pos) (tSortSet X.K ta) := by
  have bs : bootBuiltins "set" = some (.type "set") := by decide +kernel
  have bo : bootBuiltins "sorted" = some (.builtin "sorted") := by decide +kernel
  refine ⟨fun pins s σ H Q I h => ?_⟩
  refine Call_ (ld_blt I hg hm bo ?_)
  refine PyProof.Rows.callWith_builtin1 (PyProof.Rows.args_cons ?_ rfl) rfl rfl
  refine Call_ (ld_blt I hg2 hm2 bs ?_)
  refine PyProof.Rows.callWith_type1 (PyProof.Rows.args_cons (thn (ha.run pins s σ H _ I h) fun v s1 ⟨x, H1, I1, r1, q1⟩ => PyProof.Rows.args_nil ?_) na) na rfl
  obtain ⟨l, xs, rfl, hq, few, q1⟩ := q1
  cases r1
  have fin : ∀ (h' : Heap) (tk : Nat) (D : SD) (m : List Str), SX X.prog X.w D m → (∀ x, x ∈ m ↔ x ∈ xs) → m.length ≤ xs.length → h'.get? s1.heap.objs.size = some (sObj "set" D) →
      (∀ b o, s1.heap.get? b = some o → h'.get? b = some o) →
      wpAny (model X.prog X.w) X.A (spliced (backTo pos (starEach [] X.env))) (fun vs s₂ => wpAny (model X.prog X.w) X.A (call (.builtin "sorted") (Value.ref s1.heap.objs.size :: vs)) (EP X pins σ Q) X.xe s₂) X.xe { s1 with heap := h', toks := tk } := fun h' tk D m F mem ml hS same => by
    refine PyProof.Rows.args_nil ?_
    have I2 : Inv X pins σ H1 { s1 with heap := h', toks := tk } := I1.kept same
    refine sorted_of_set (s := { s1 with heap := h', toks := tk }) hS F (I1.ok.hd calm) (by omega) fun s' p out c k g o hz hp hs => ?_
    have em : sortT m = ssetT xs := sortT_congr (perm_same F.nd nodup_onceL fun x => (mem x).trans mem_onceL.symm)
    rw [em] at hs
    have fresh : H1 p = none := I2.hok.fresh hz
    have len : ((ssetT xs).map V.str).length ≤ sizeLine := by
      have z : (ssetT xs).length = m.length := by rw [← em]; exact (sortT_perm m).length_eq
      rw [List.length_map, z, sizeLine_eq]
      omega
    have J : Inv X pins σ (upd H1 p (.lst ((ssetT xs).map V.str))) { ({ s1 with heap := h', toks := tk } : Shared) with heap := s'.heap, gens := s'.gens, drawn := s'.drawn, toks := s'.toks } :=
      I2.call (ch := []) (Un.laid k hz fresh) (I2.hok.laid k hz ⟨len, out.toList, c, vals_of_strs hs, hp⟩) (by rw [g]; exact I2.bare) (fun _ z => nomatch z)
    have e : s' = { ({ s1 with heap := h', toks := tk } : Shared) with heap := s'.heap, gens := s'.gens, drawn := s'.drawn, toks := s'.toks } := by
      cases s'
      cases s1
      cases o
      rfl
    rw [e]
    exact ⟨.ref p, _, J, rfl, q1 p fresh⟩
  rcases hq with hq | hq
  · obtain ⟨its, r, pl, hz⟩ := I1.list hq
    exact set_of_list xs (I1.ok.hd calm) pl.isList (by simpa using strsAre_of r) (by unfold scanBound; omega) fin
  · obtain ⟨its, r, pl, hz⟩ := I1.tuple hq
    exact set_of_tuple xs (I1.ok.hd calm) pl (by simpa using strsAre_of r) (by unfold scanBound; omega) fin
end
end L2

namespace L2
open PySem PySem.Spec PyProof.Rows Ml
section
variable {X : Cx}
theorem pe_sortSetK {a : Expr} {ta : TE} {p p2 q pos : Pos} (K : PySem.W.Frag) (calm : X.calm = true) (hg : Gl X "sorted") (hm : X.mg "sorted" = none) (hg2 : Gl X "set") (hm2 : X.mg "set" = none) (ha : PE X a ta) (hK : X.K = K := by rfl)
    (na : starEach [a] X.env = (false, eval a X.env) :: starEach [] X.env := by rfl) : PE X (.Call (.Name "sorted" p) [.Call (.Name "set" p2) [a] [] q] [] pos) (tSortSet K ta) := by
  subst hK
  exact pe_sortSet calm hg hm hg2 hm2 ha na
theorem sortedSK (K : PySem.W.Frag) (hK : X.K = K := by rfl) : CallR X (.builtin "sorted") (rSortedS K) := by subst hK; exact cr_sortedS
theorem pe_revLK {e : Expr} {te : TE} {k : Nat} {p1 p2 p3 pos : Pos} (K : PySem.W.Frag) (he : PE X e te) (hK : X.K = K := by rfl) :
    PE X (.Subscript e (.Slice none none (some (.UnaryOp .USub (.Constant (.int 1) k p1) p2)) p3) pos) (tRevL K te) := by subst hK; exact pe_revL he
end
end L2
namespace Ml
open PySem PySem.Spec PyProof.Rows L2
variable {G : Gx} {σ : L2.St} {H : Hp} {L : List (Asn G)} {Q : VK} {te : TE} {D : Ends}
/-! ### sorted(set(x)), sorted(x) -/
def sortSetK (K : PySem.W.Frag) (Q : VK) : VK := fun x H1 => rSortSet K x H1 Q
theorem c_sortSet {K : PySem.W.Frag} (h : te σ H (sortSetK K Q)) : tSortSet K te σ H Q := h
theorem k_sortSet {a : Addr} {xs : List Str} (hS : Sep H L) (hq : SqL G.K H a (xs.map (Fv.enc G)) ∨ SqT G.K H a (xs.map (Fv.enc G))) (few : xs.length < 64) (k : ∀ p H', Sep H' (lstA p (ssetT xs) :: L) → Q (.ref p) H') : sortSetK G.K Q (.ref a) H :=
  ⟨a, xs, rfl, hq, few, fun p hp => k p _ (hS.newL hp (imL_strs _))⟩
def strsR : List Any → R (List Str)
  | [] => .ok []
  | .str s :: r => (strsR r).bind fun l => .ok (s :: l)
  | _ => .bad
def Any.asStrs : Any → R (List Str)
  | .lst xs => strsR xs
  | .tup xs => strsR xs
  | _ => .bad
theorem strsR_im {ρ : Type} {q : ρ → Prop} {e : Exc → Prop} : ∀ {xs : List Any} {f : List Str → R ρ}, R.wp ((strsR xs).bind f) q e → ∃ ss, xs = ss.map Any.str ∧ R.wp (f ss) q e
  | [], f, h => ⟨[], rfl, h⟩
  | .str s :: r, f, h => by
    have h' : R.wp ((strsR r).bind fun l => f (s :: l)) q e := by
      have z : ((strsR r).bind fun l => R.ok (s :: l)).bind f = (strsR r).bind fun l => f (s :: l) := by
        cases strsR r <;> rfl
      rw [← z]
      exact h
    obtain ⟨ss, rfl, hw⟩ := strsR_im h'
    exact ⟨s :: ss, rfl, hw⟩
  | .int _ :: _, _, h => h.elim
  | .bl _ :: _, _, h => h.elim
  | .non :: _, _, h => h.elim
  | .tup _ :: _, _, h => h.elim
  | .lst _ :: _, _, h => h.elim
  | .oth _ :: _, _, h => h.elim
theorem wp_asStrs {x : Any} {ρ : Type} {f : List Str → R ρ} {q : ρ → Prop} {e : Exc → Prop} (h : R.wp (x.asStrs.bind f) q e) : ∃ ss, (x = .lst (ss.map Any.str) ∨ x = .tup (ss.map Any.str)) ∧ R.wp (f ss) q e := by
  cases x with
  | lst xs => obtain ⟨ss, rfl, hw⟩ := strsR_im (xs := xs) h; exact ⟨ss, .inl rfl, hw⟩
  | tup xs => obtain ⟨ss, rfl, hw⟩ := strsR_im (xs := xs) h; exact ⟨ss, .inr rfl, hw⟩
  | _ => exact h.elim
theorem imL_ofStr : ∀ {vs : List V} {ss : List Str}, imL (G := G) H vs (ss.map Any.str) → vs = ss.map V.str
  | [], [], _ => rfl
  | v :: vs, s :: ss, h => by rw [any_str.mp h.1, imL_ofStr h.2]; rfl
theorem strs_at {v : V} {x : Any} {ss : List Str} (h : Im.im G H v x) (e : x = .lst (ss.map Any.str) ∨ x = .tup (ss.map Any.str)) : ∃ a, v = .ref a ∧ (SqL G.K H a (ss.map (Fv.enc G)) ∨ SqT G.K H a (ss.map (Fv.enc G))) := by
  rcases e with e | e
  · subst e
    obtain ⟨a, vs, rfl, ⟨o, ho⟩, m⟩ := any_lsts.mp h
    rw [imL_ofStr m] at ho
    exact ⟨a, rfl, .inl (.inl (.inr ⟨o, ho⟩))⟩
  · subst e
    obtain ⟨a, vs, rfl, ho, m⟩ := any_tup.mp h
    rw [imL_ofStr m] at ho
    exact ⟨a, rfl, .inr (.inl (.inl ho))⟩
theorem k_sortSetA {v : V} {x : Any} {ss : List Str} (hS : Sep H L) (h : Im.im G H v x) (e : x = .lst (ss.map Any.str) ∨ x = .tup (ss.map Any.str)) (few : ss.length < 64) (k : ∀ p H', Sep H' (lstA p (ssetT ss) :: L) → Q (.ref p) H') : sortSetK G.K Q v H := by
  obtain ⟨a, rfl, hq⟩ := strs_at h e
  exact k_sortSet hS hq few k
theorem k_sorted {a : Addr} {xs : List Str} (hS : Sep H L) (hq : SqL G.K H a (xs.map (Fv.enc G))) (few : xs.length < 64) (k : ∀ p H', Sep H' (lstA p (sortT xs) :: L) → Q (.ref p) H') : rSortedS G.K [.ref a] H Q :=
  ⟨a, xs, rfl, hq, few, fun ys p pm up hp => by rw [sortT_of pm (sorted_leT up)]; exact k p _ (hS.newL hp (imL_strs _))⟩
/-! ### xs[::-1] -/
theorem imL.rev {α : Type} [Im G α] : ∀ {vs : List V} {xs : List α}, imL (G := G) H vs xs → imL (G := G) H vs.reverse xs.reverse
  | [], [], _ => True.intro
  | v :: vs, x :: xs, h => by
    rw [List.reverse_cons, List.reverse_cons]
    exact (imL.rev h.2).app (ws := [v]) (ys := [x]) ⟨h.1, True.intro⟩
def revK (K : PySem.W.Frag) (Q : VK) : VK := fun x H1 => ∃ a xs, x = .ref a ∧ SqL K H1 a xs ∧ ∀ p, H1 p = none → Q (.ref p) (upd H1 p (.lst xs.reverse))
theorem c_rev {K : PySem.W.Frag} (h : te σ H (revK K Q)) : tRevL K te σ H Q := h
theorem k_rev {α : Type} [Im G α] {a : Addr} {xs : List α} (hS : Sep H L) (hq : ∃ vs, SqL G.K H a vs ∧ imL (G := G) H vs xs) (k : ∀ p H', Sep H' (lstA p xs.reverse :: L) → Q (.ref p) H') : revK G.K Q (.ref a) H := by
  obtain ⟨vs, h, m⟩ := hq
  exact ⟨a, vs, rfl, h, fun p hp => k p _ (hS.newL hp m.rev)⟩
theorem Sep.rdL {α : Type} [Im G α] {i : Nat} {a : Addr} {xs : List α} (hS : Sep H L) (e : L[i]? = some (lstA a xs)) : ∃ vs, Rd H a (.lst vs) ∧ imL (G := G) H vs xs := by
  obtain ⟨vs, h, m⟩ := hS.lst e
  exact ⟨vs, .inl h, m⟩
theorem imPlR {α : Type} [Im G α] {a : Addr} {xs : List α} (h : Im.im G H (.ref a) xs) : ∃ vs, Rd H a (.lst vs) ∧ imL (G := G) H vs xs := by
  obtain ⟨b, vs, e, ho, m⟩ := h
  cases e
  exact ⟨vs, .inr ho, m⟩
/-! ### a, b = t -/
def asgK (g : TG) (σ : L2.St) (D : Ends) : VK := fun x H1 => g x σ H1 D.nx
theorem c_asgG {g : TG} (h : te σ H (asgK g σ D)) : tAsg te g D σ H := h
theorem k_asgG {g : TG} {v : V} (h : g v σ H D.nx) : asgK g σ D v H := h
/-! ### tuple(texts) -/
theorem k_tupleS {a : Addr} {xs : List Str} (hS : Sep H L) (hq : ∃ vs, SqL G.K H a vs ∧ imL (G := G) H vs xs) (k : ∀ p H', Sep H' (imA (.ref p) (Any.tup (xs.map Any.str)) :: L) → Q (.ref p) H') : rTupleOf G.K [.ref a] H Q := by
  obtain ⟨vs, h, m⟩ := hq
  exact ⟨a, vs, rfl, .inl ⟨h, fun p hp => k p _ ((hS.more (same_new hp)).addIm (any_tup.mpr ⟨p, vs, rfl, upd_same, (imL_str m).st (.of_same (same_new hp))⟩))⟩⟩
/-! ### for x in [a, b, c], each turn by itself -/
def forU (a : Addr) (vs : List V) (g : TG) (tb : TS) (D : Ends) : List V → L2.St → Hp → Prop
  | [] => fun σ H => H a = some (.lst vs) ∧ D.nx σ H
  | v :: r => fun σ H => H a = some (.lst vs) ∧ g v σ H fun σ2 H2 => tb (loopD D (forU a vs g tb D r) D.nx) σ2 H2
theorem fu_cons {a : Addr} {vs r : List V} {v : V} {g : TG} {tb : TS} (e : H a = some (.lst vs)) (h : g v σ H fun σ2 H2 => tb (loopD D (forU a vs g tb D r) D.nx) σ2 H2) : forU a vs g tb D (v :: r) σ H := ⟨e, h⟩
theorem fu_nil {a : Addr} {vs : List V} {g : TG} {tb : TS} (e : H a = some (.lst vs)) (h : D.nx σ H) : forU a vs g tb D [] σ H := ⟨e, h⟩
theorem forU_at {a : Addr} {vs : List V} {g : TG} {tb : TS} : ∀ {r : List V} {σ : L2.St} {H : Hp}, forU a vs g tb D r σ H → H a = some (.lst vs)
  | [], _, _, h => h.1
  | _ :: _, _, _, h => h.1
theorem k_forU {K : PySem.W.Frag} {a : Addr} {vs : List V} {g : TG} {tb : TS} (h : forU a vs g tb D vs σ H) : forK g tb D σ (Itl K a) H := by
  refine ⟨fun i m σ H => m = vs.length - i ∧ i ≤ vs.length ∧ forU a vs g tb D (vs.drop i) σ H, ⟨vs.length, by simp, Nat.zero_le _, by simpa using h⟩, ?_⟩
  rintro i m σ H ⟨rfl, hi, hu⟩
  have hs : SqL K H a vs := .inl (.inl (forU_at hu))
  by_cases c : i < vs.length
  · have ed : vs.drop i = vs[i] :: vs.drop (i + 1) := List.drop_eq_getElem_cons c
    rw [ed] at hu
    refine .inr ⟨⟨vs, vs[i], hs, List.getElem?_eq_getElem c⟩, forU a vs g tb D (vs.drop (i + 1)), fun σ' H' z => ⟨vs.length - (i + 1), by omega, rfl, c, z⟩, fun v H' y => ?_⟩
    obtain ⟨rfl, y2⟩ := y
    have ev : v = vs[i] := by
      have q := y2 vs hs
      rw [List.getElem?_eq_getElem c] at q
      exact (Option.some.inj q).symm
    subst ev
    exact hu.2
  · have ei : i = vs.length := by omega
    subst ei
    rw [List.drop_length] at hu
    exact .inl ⟨⟨vs, hs, Nat.le_refl _⟩, hu.2⟩
theorem k_dispU {K : PySem.W.Frag} {vs : List V} {g : TG} {tb : TS} (hS : Sep H L) (z : vs.length ≤ sizeLine) (k : ∀ p H', Sep H' (cell p (.lst vs) :: L) → forU p vs g tb D vs σ H') : lstK (ilK K (forK g tb D σ)) vs H :=
  ⟨z, fun p hp => ⟨p, rfl, ⟨vs, .inl (.inl upd_same)⟩, k_forU (k p _ (hS.new (o := .lst vs) hp rfl))⟩⟩
end Ml

namespace L2
open PySem PySem.Spec PyProof.Rows PySem.W
/-! ### sorted of data, <= and > of data -/
def rSortDt (K : PySem.W.Frag) : List V → Hp → VK → Prop := fun vs H Q => ∃ (a : Addr) (ps : List (V × PyData)), vs = [.ref a] ∧ SqL K H a (ps.map (·.1)) ∧ (∀ p, p ∈ ps → Dp K H p.1 p.2) ∧ AllAlike (ps.map (·.2)) ∧ Sortable (ps.map (·.2)) ∧ ps.length ≤ sizeLine ∧ (∀ p, p ∈ ps → p.2.depth ≤ 8) ∧
  ∀ l, H l = none → Q (.ref l) (upd H l (.lst ((ps.mergeSort (dataLe false (·.2))).map (·.1))))
def rLtD (f : PyData → PyData → Bool) (K : PySem.W.Frag) : R2 := fun x y H Q => ∃ d e, Dp K H x d ∧ Dp K H y e ∧ PySem.W.alike d e = true ∧ d ≠ .none ∧ d.depth ≤ 8 ∧ Q (.bl (f d e)) H
section
variable {X : Cx}
theorem each_rel {pins : List (Addr × Obj)} {σ : St} {H : Hp} {s : Shared} : ∀ {ps : List (V × PyData)} {us : List Value}, Vals (ps.map (·.1)) us → EachIs (fun u (p : V × PyData) => RelV p.1 u) us ps
  | [], _, .nil => .nil
  | _ :: _, _, .cons r t => .cons r (each_rel (pins := pins) (σ := σ) (H := H) (s := s) t)
theorem rel_each : ∀ {ps : List (V × PyData)} {us : List Value}, EachIs (fun u (p : V × PyData) => RelV p.1 u) us ps → Vals (ps.map (·.1)) us
  | _, _, .nil => .nil
  | _, _, .cons r t => .cons r (rel_each t)
theorem each_reads {pins : List (Addr × Obj)} {σ : St} {H : Hp} {s : Shared} (I : Inv X pins σ H s) : ∀ {ps : List (V × PyData)} {us : List Value}, Vals (ps.map (·.1)) us → (∀ p, p ∈ ps → Dp X.K H p.1 p.2) → EachIs (fun u (p : V × PyData) => ∃ as, Reads s.heap u p.2 as) us ps
  | [], _, .nil, _ => .nil
  | p :: _, _, .cons r t, h => .cons (Dp.reads I p.2 p.1 _ (h p List.mem_cons_self) r) (each_reads I t fun q hq => h q (List.mem_cons_of_mem _ hq))
theorem cr_sortDt (hu : X.A.units + 64 < cLine) : CallR X (.builtin "sorted") (rSortDt X.K) := by
  intro pins s σ H vs us Q I r h
  obtain ⟨a, ps, rfl, hs, hd, hal, hk, hL, hdp, q⟩ := h
  obtain ⟨its, rv, hl, _⟩ := I.list hs
  rw [Vals.ref1 r]
  refine sorted_data (R := fun u (p : V × PyData) => RelV p.1 u) (bs := ps) (enc := fun p => p.2) hl.isList (each_rel (pins := pins) (σ := σ) (H := H) (s := s) rv) (each_reads I rv hd) hal hk hL (fun p hp => by have := hdp p hp; omega) fun out hlen eo => ?_
  obtain ⟨ep, he'⟩ := PyProof.Rows.sortedAll_at s.heap its out.toArray
  have z : ((ps.mergeSort (dataLe false (·.2))).map (·.1)).length ≤ sizeLine := by rw [List.length_map, List.length_mergeSort]; exact hL
  exact ⟨.ref _, upd H (s.heap.objs.size + 1) (.lst ((ps.mergeSort (dataLe false (·.2))).map (·.1))), I.laid (t' := s.toks) (fun _ _ => PyProof.Rows.sortedAll_old) (Nat.le_succ _) ⟨z, out, ep, rel_each eo, he'⟩, rfl, q _ (I.hok.fresh (Nat.le_succ _))⟩
theorem op_leDt (hu : X.A.units + 64 < cLine) : OpR X (compareOp .LtE) (rLtD (fun d e => !dataLt e d) X.K) := by
  intro pins s σ H x y v u Q I rx ry h
  obtain ⟨d, e, hd, he, ha, hn, hp, q⟩ := h
  obtain ⟨as, r1⟩ := Dp.reads I d x v hd rx
  obtain ⟨bs, r2⟩ := Dp.reads I e y u he ry
  exact le_data r1 r2 ha hn (by omega) ⟨.bl _, H, I, rfl, q⟩
theorem op_gtDt (hu : X.A.units + 64 < cLine) : OpR X (compareOp .Gt) (rLtD (fun d e => dataLt e d) X.K) := by
  intro pins s σ H x y v u Q I rx ry h
  obtain ⟨d, e, hd, he, ha, hn, hp, q⟩ := h
  obtain ⟨as, r1⟩ := Dp.reads I d x v hd rx
  obtain ⟨bs, r2⟩ := Dp.reads I e y u he ry
  exact gt_data r1 r2 ha hn (by omega) ⟨.bl _, H, I, rfl, q⟩
theorem sortDtK (K : PySem.W.Frag) (hu : X.A.units + 64 < cLine) (hK : X.K = K := by rfl) : CallR X (.builtin "sorted") (rSortDt K) := by subst hK; exact cr_sortDt hu
theorem leDtK (K : PySem.W.Frag) (hu : X.A.units + 64 < cLine) (hK : X.K = K := by rfl) : OpR X (compareOp .LtE) (rLtD (fun d e => !dataLt e d) K) := by subst hK; exact op_leDt hu
theorem gtDtK (K : PySem.W.Frag) (hu : X.A.units + 64 < cLine) (hK : X.K = K := by rfl) : OpR X (compareOp .Gt) (rLtD (fun d e => dataLt e d) K) := by subst hK; exact op_gtDt hu
def rInsert : V → List V → Hp → VK → Prop := fun x vs H Q => ∃ (l : Addr) (xs : List V) (i : Int) (y : V), x = .ref l ∧ vs = [.int i, y] ∧ H l = some (.lst xs) ∧ xs.length < sizeLine ∧ 0 ≤ i ∧ i < 2 ^ 63 ∧ Q .non (upd H l (.lst (xs.take i.toNat ++ [y] ++ xs.drop i.toNat)))
theorem mt_insertR : MtR X "list.insert" rInsert := mt_insert
end
end L2
namespace Ml
open PySem PySem.Spec PyProof.Rows L2
variable {G : Gx} {σ : L2.St} {H H' : Hp} {L L' : List (Asn G)} {Q : VK} {te td ty : TE} {D : Ends}
/-! ### tuples of texts, as keys -/
structure Kt where
  l : List Str
  deriving DecidableEq
def Kt.ks (k : Kt) : List Key := k.l.map Sum.inr
theorem Kt.kv (k : Kt) : k.ks.map kV = k.l.map V.str := by unfold Kt.ks; rw [List.map_map]; rfl
theorem inr_inj : ∀ {xs ys : List Str}, xs.map (Sum.inr : Str → Key) = ys.map Sum.inr → xs = ys
  | [], [], _ => rfl
  | [], _ :: _, h => by cases h
  | _ :: _, [], h => by cases h
  | x :: xs, y :: ys, h => by
    simp only [List.map_cons, List.cons.injEq] at h
    rw [Sum.inr.inj h.1, inr_inj h.2]
theorem Kt.inj {a b : Kt} (h : a.ks = b.ks) : a = b := by
  obtain ⟨xs⟩ := a
  obtain ⟨ys⟩ := b
  have : xs = ys := inr_inj h
  rw [this]
instance imKt : Im G Kt := ⟨fun H v x => ∃ a, v = .ref a ∧ H a = some (.tup (x.l.map V.str)), fun ⟨a, e, h⟩ s => ⟨a, e, s.1 a _ h rfl⟩⟩
instance : IsRef G Kt := ⟨fun h => by obtain ⟨a, e, _⟩ := h; exact ⟨a, e⟩⟩
theorem kt_at {a : Addr} {k : Kt} (h : Im.im G H (.ref a) k) : H a = some (.tup (k.l.map V.str)) := by
  obtain ⟨b, e, h⟩ := h
  cases e
  exact h
instance : Lay Kt := ⟨fun x => layAllB x.l⟩
theorem dpStrs {K : PySem.W.Frag} : ∀ xs : List Str, DpAll K H (xs.map V.str) (xs.map PyData.str)
  | [] => .nil
  | x :: r => .cons (.str x) (dpStrs r)
theorem depStrs : ∀ xs : List Str, PyData.depthAll (xs.map PyData.str) = 0
  | [] => rfl
  | x :: r => by
    show max (PyData.depth (.str x)) (PyData.depthAll (r.map PyData.str)) = 0
    rw [depStrs r]; rfl
def pdKt (k : Kt) : PyData := .tuple (k.l.map PyData.str)
theorem canStrs : ∀ xs : List Str, layAllB xs = true → PyData.canLayAll0 (xs.map PyData.str) = true
  | [], _ => rfl
  | x :: r, h => by
    have h : (Lay.lay x && layAllB r) = true := h
    rw [Bool.and_eq_true] at h
    show ((PyData.str x).canLay0 && PyData.canLayAll0 (r.map PyData.str)) = true
    rw [canStrs r h.2, show (PyData.str x).canLay0 = true from h.1]; rfl
theorem eqvStrs : ∀ xs ys : List Str, PyData.eqvAll (xs.map PyData.str) (ys.map PyData.str) = decide (xs = ys)
  | [], [] => rfl
  | [], _ :: _ => rfl
  | _ :: _, [] => rfl
  | x :: xs, y :: ys => by
    show (PyData.eqv (.str x) (.str y) && PyData.eqvAll (xs.map PyData.str) (ys.map PyData.str)) = _
    rw [eqvStrs xs ys, show PyData.eqv (.str x) (.str y) = decide (x = y) from str_beq x y]
    simp
instance pdKtI : Pd G Kt where
  pd := pdKt
  dep := 1
  dp := fun {H v x} h => by
    obtain ⟨a, rfl, g⟩ := h
    exact .tup (SqT.of g) (dpStrs x.l)
  lay_ok := fun x h => canStrs x.l h
  dep_ok := fun x => by
    show PyData.depthAll (x.l.map PyData.str) + 1 ≤ 1
    rw [depStrs]
    exact Nat.le_refl _
  eqv := fun x y => by
    show PyData.eqvAll (x.l.map PyData.str) (y.l.map PyData.str) = _
    rw [eqvStrs]
    obtain ⟨a⟩ := x; obtain ⟨b⟩ := y
    simp
theorem any_kt {v : V} {k : Kt} (h : Im.im G H v k) : Im.im G H v (Any.tup (k.l.map Any.str)) := by
  obtain ⟨a, rfl, g⟩ := h
  exact any_tup.mpr ⟨a, _, rfl, g, imL_str (imL_strs _)⟩
theorem k_tupleT {a : Addr} {xs : List Str} (hS : Sep H L) (hq : ∃ vs, SqL G.K H a vs ∧ imL (G := G) H vs xs) (k : ∀ p H', Sep H' (imA (.ref p) (⟨xs⟩ : Kt) :: L) → Q (.ref p) H') : rTupleOf G.K [.ref a] H Q := by
  obtain ⟨vs, h, m⟩ := hq
  have ev : vs = xs.map V.str := imL.flat.mp m
  exact ⟨a, vs, rfl, .inl ⟨h, fun p hp => k p _ ((hS.more (same_new hp)).addIm ⟨p, rfl, by rw [← ev]; exact upd_same⟩)⟩⟩
/-! sorted, compared -/
theorem alike_strs : ∀ xs ys : List Str, PySem.W.alikeAll (xs.map PyData.str) (ys.map PyData.str) = true
  | [], _ => by simp [PySem.W.alikeAll]
  | _ :: _, [] => by simp [PySem.W.alikeAll]
  | x :: xs, y :: ys => by
    show PySem.W.alikeAll (PyData.str x :: xs.map PyData.str) (PyData.str y :: ys.map PyData.str) = true
    rw [PySem.W.alikeAll, alike_strs xs ys]
    simp [PySem.W.alike]
def leKt (a b : Kt) : Bool := PySem.W.dataLe false pdKt a b
def sortK (ks : List Kt) : List Kt := ks.mergeSort leKt
theorem kt_pairs : ∀ {vs : List V} {ks : List Kt}, imL (G := G) H vs ks → ∃ ps : List (V × Kt), ps.map (·.1) = vs ∧ ps.map (·.2) = ks ∧ ∀ p, p ∈ ps → Im.im G H p.1 p.2
  | [], [], _ => ⟨[], rfl, rfl, fun _ h => by cases h⟩
  | v :: vs, k :: ks, h => by
    obtain ⟨ps, e1, e2, h3⟩ := kt_pairs h.2
    exact ⟨(v, k) :: ps, by rw [List.map_cons, e1], by rw [List.map_cons, e2], fun p hp => by
      rcases List.mem_cons.mp hp with e | e
      · rw [e]; exact h.1
      · exact h3 p e⟩
  | [], _ :: _, h => h.elim
  | _ :: _, [], h => h.elim
theorem imL_pairs : ∀ {ps : List (V × Kt)}, (∀ p, p ∈ ps → Im.im G H p.1 p.2) → imL (G := G) H (ps.map (·.1)) (ps.map (·.2))
  | [], _ => True.intro
  | p :: ps, h => ⟨h p List.mem_cons_self, imL_pairs fun q hq => h q (List.mem_cons_of_mem _ hq)⟩
theorem k_sortKt {a : Addr} {ks : List Kt} (hS : Sep H L) (hq : ∃ vs, SqL G.K H a vs ∧ imL (G := G) H vs ks) (hn : (ks.all fun k => !k.l.isEmpty) = true) (hl : ks.length ≤ sizeLine) (k : ∀ p H', Sep H' (lstA p (sortK ks) :: L) → Q (.ref p) H') : rSortDt G.K [.ref a] H Q := by
  obtain ⟨vs, h, m⟩ := hq
  obtain ⟨ps, e1, e2, h3⟩ := kt_pairs m
  subst e1; subst e2
  have hd : ∀ x, x ∈ (ps.map fun p => (p.1, pdKt p.2)).map (·.2) → ∃ q : V × Kt, q ∈ ps ∧ x = pdKt q.2 := fun x hx => by
    rw [List.map_map] at hx
    obtain ⟨q, hq, rfl⟩ := List.mem_map.mp hx
    exact ⟨q, hq, rfl⟩
  refine ⟨a, ps.map fun p => (p.1, pdKt p.2), rfl, by rw [List.map_map]; exact h, fun p hp => ?_, fun x hx y hy => ?_, .inl fun x hx => ?_, by rw [List.length_map]; rw [List.length_map] at hl; exact hl, fun p hp => ?_, fun l hl0 => ?_⟩
  · obtain ⟨q, hq, rfl⟩ := List.mem_map.mp hp
    exact Pd.dp (h3 q hq)
  · obtain ⟨q, _, rfl⟩ := hd x hx
    obtain ⟨r, _, rfl⟩ := hd y hy
    show PySem.W.alike (.tuple _) (.tuple _) = true
    unfold PySem.W.alike
    exact alike_strs _ _
  · obtain ⟨q, hq, rfl⟩ := hd x hx
    have := List.all_eq_true.mp hn q.2 (List.mem_map.mpr ⟨q, hq, rfl⟩)
    cases e : q.2.l with
    | nil => rw [e] at this; cases this
    | cons y r => exact ⟨.str y, r.map PyData.str, by unfold pdKt; rw [e]; rfl⟩
  · obtain ⟨q, hq, rfl⟩ := List.mem_map.mp hp
    show PyData.depthAll (q.2.l.map PyData.str) + 1 ≤ 8
    rw [depStrs]
    decide
  · refine k l _ (hS.newL hl0 ?_)
    have e1 : (ps.map fun p => (p.1, pdKt p.2)).mergeSort (PySem.W.dataLe false (·.2)) = (ps.mergeSort fun x y => leKt x.2 y.2).map fun p => (p.1, pdKt p.2) :=
      (List.map_mergeSort (f := fun p : V × Kt => (p.1, pdKt p.2)) fun x _ y _ => rfl).symm
    have e2 : sortK (ps.map (·.2)) = (ps.mergeSort fun x y => leKt x.2 y.2).map (·.2) := (List.map_mergeSort (f := fun p : V × Kt => p.2) fun x _ y _ => rfl).symm
    rw [e1, e2, List.map_map]
    exact imL_pairs fun p hp => h3 p ((List.mergeSort_perm ps _).mem_iff.mp hp)
/-- a clock and a text: which comes first -/
def ltS (x y : Int × Str) : Bool := PySem.W.dataLt (.tuple [.int x.1, .str x.2]) (.tuple [.int y.1, .str y.2])
theorem st_data {v : V} {x : Int × Str} (h : Im.im G H v x) : Dp G.K H v (.tuple [.int x.1, .str x.2]) := Pd.dp (α := Int × Str) h
theorem ev_leS {ta tb : TE} {v w : V} {x y : Int × Str} (ha : Ev ta σ H v) (hb : Ev tb σ H w) (i1 : Im.im G H v x) (i2 : Im.im G H w y) : Ev (tOp (rLtD (fun d e => !PySem.W.dataLt e d) G.K) ta tb) σ H (.bl (!ltS y x)) :=
  ev_op ha hb fun Q q => ⟨_, _, st_data i1, st_data i2, by simp [PySem.W.alike, PySem.W.alikeAll], (fun z => nomatch z), by show 1 ≤ 8; decide, q⟩
theorem ev_gtS {ta tb : TE} {v w : V} {x y : Int × Str} (ha : Ev ta σ H v) (hb : Ev tb σ H w) (i1 : Im.im G H v x) (i2 : Im.im G H w y) : Ev (tOp (rLtD (fun d e => PySem.W.dataLt e d) G.K) ta tb) σ H (.bl (ltS y x)) :=
  ev_op ha hb fun Q q => ⟨_, _, st_data i1, st_data i2, by simp [PySem.W.alike, PySem.W.alikeAll], (fun z => nomatch z), by show 1 ≤ 8; decide, q⟩
/-- xs.insert(i, x) -/
def insL {α : Type} (xs : List α) (i : Nat) (x : α) : List α := xs.take i ++ [x] ++ xs.drop i
theorem k_insert {α : Type} [Im G α] {i : Nat} {a : Addr} {xs : List α} {x : α} {j : Int} {v : V} (hS : Sep H L) (e : L[i]? = some (lstA a xs)) (hv : Im.im G H v x) (z : xs.length < sizeLine) (h0 : 0 ≤ j ∧ j < 2 ^ 63) (e2 : L.set i (lstA a (insL xs j.toNat x)) = L')
    (k : ∀ H', Sep H' L' → Q .non H') : rInsert (.ref a) [.int j, v] H Q := by
  obtain ⟨vs, h, m⟩ := hS.lst e
  refine ⟨a, vs, j, v, rfl, rfl, h, by rw [m.len]; exact z, h0.1, h0.2, k _ ?_⟩
  subst e2
  exact hS.putL e (((m.take _).app (vs := vs.take j.toNat) (ws := [v]) (ys := [x]) ⟨hv, True.intro⟩).app (m.drop _))
end Ml

namespace Ml
open PySem PySem.Spec PyProof.Rows L2
variable {G : Gx}
/-! ### dicts of one's own whose keys are tuples of texts -/
section
variable {β : Type} [Im G β]
def imDT (H : Hp) : List (List Key × V) → List (Kt × β) → Prop
  | [], [] => True
  | p :: ps, q :: qs => (p.1 = q.1.ks ∧ Im.im G H p.2 q.2 ∧ ∃ b, H b = some (.tup (q.1.ks.map kV))) ∧ imDT H ps qs
  | _, _ => False
variable {H H' : Hp}
theorem imDT.st : ∀ {ps : List (List Key × V)} {qs : List (Kt × β)}, imDT (G := G) H ps qs → Stab G H H' → imDT (G := G) H' ps qs
  | [], [], _, _ => True.intro
  | _ :: _, _ :: _, h, s => ⟨⟨h.1.1, Im.st h.1.2.1 s, by obtain ⟨b, e⟩ := h.1.2.2; exact ⟨b, s.1 b _ e rfl⟩⟩, imDT.st h.2 s⟩
  | [], _ :: _, h, _ => h
  | _ :: _, [], h, _ => h
theorem imDT.len : ∀ {ps : List (List Key × V)} {qs : List (Kt × β)}, imDT (G := G) H ps qs → ps.length = qs.length
  | [], [], _ => rfl
  | _ :: _, _ :: _, h => by rw [List.length_cons, List.length_cons, imDT.len h.2]
  | [], _ :: _, h => h.elim
  | _ :: _, [], h => h.elim
theorem kt_dec (a b : Kt) : decide (a.ks = b.ks) = decide (a = b) := by
  by_cases h : a = b
  · subst h; simp
  · have : ¬ a.ks = b.ks := fun e => h (Kt.inj e)
    simp [h, this]
theorem imDT.val : ∀ {ps : List (List Key × V)} {qs : List (Kt × β)} (k : Kt), imDT (G := G) H ps qs → (∀ y, dget qs k = some y → ∃ v, valV ps k.ks = some v ∧ Im.im G H v y) ∧ (dget qs k = none → valV ps k.ks = none)
  | [], [], _, _ => ⟨fun y e => (by cases (show (none : Option β) = some y from e)), fun _ => rfl⟩
  | p :: ps, q :: qs, k, ⟨⟨e1, e2, _⟩, h⟩ => by
    have ih := imDT.val k h
    by_cases c : q.1 = k
    · have c1 : p.1 = k.ks := by rw [e1, c]
      have d : dget (q :: qs) k = some q.2 := by simp [dget, List.find?_cons, c]
      rw [d, valV_pos c1]
      exact ⟨fun y e => ⟨p.2, rfl, by cases e; exact e2⟩, fun e => by cases e⟩
    · have c1 : ¬ p.1 = k.ks := fun z => c (Kt.inj (e1.symm.trans z))
      have d : dget (q :: qs) k = dget qs k := by simp [dget, List.find?_cons, c]
      rw [d, valV_neg c1]
      exact ih
  | [], _ :: _, _, h => h.elim
  | _ :: _, [], _, h => h.elim
theorem imDT.any : ∀ {ps : List (List Key × V)} {qs : List (Kt × β)} (k : Kt), imDT (G := G) H ps qs → (ps.any fun kv => decide (kv.1 = k.ks)) = qs.any fun kv => decide (kv.1 = k)
  | [], [], _, _ => rfl
  | p :: ps, q :: qs, k, ⟨⟨e1, _⟩, h⟩ => by
    rw [List.any_cons, List.any_cons, imDT.any k h, e1, kt_dec]
  | [], _ :: _, _, h => h.elim
  | _ :: _, [], _, h => h.elim
theorem imDT.app : ∀ {ps rs : List (List Key × V)} {qs ts : List (Kt × β)}, imDT (G := G) H ps qs → imDT (G := G) H rs ts → imDT (G := G) H (ps ++ rs) (qs ++ ts)
  | [], _, [], _, _, h => h
  | _ :: _, _, _ :: _, _, h, k => ⟨h.1, imDT.app h.2 k⟩
  | [], _, _ :: _, _, h, _ => h.elim
  | _ :: _, _, [], _, h, _ => h.elim
theorem imDT.rep : ∀ {ps : List (List Key × V)} {qs : List (Kt × β)} {k : Kt} {v : V} {y : β}, imDT (G := G) H ps qs → Im.im G H v y →
    imDT (G := G) H (ps.map fun kv => if kv.1 = k.ks then (kv.1, v) else kv) (qs.map fun kv => if kv.1 = k then (kv.1, y) else kv)
  | [], [], _, _, _, _, _ => True.intro
  | p :: ps, q :: qs, k, v, y, ⟨⟨e1, e2, e3⟩, h⟩, hv => by
    refine ⟨?_, imDT.rep h hv⟩
    dsimp only
    by_cases c : q.1 = k
    · have c1 : p.1 = k.ks := by rw [e1, c]
      rw [if_pos c, if_pos c1]; exact ⟨e1, hv, e3⟩
    · have c1 : ¬ p.1 = k.ks := fun z => c (Kt.inj (e1.symm.trans z))
      rw [if_neg c, if_neg c1]; exact ⟨e1, e2, e3⟩
  | [], _ :: _, _, _, _, h, _ => h.elim
  | _ :: _, [], _, _, _, h, _ => h.elim
theorem imDT.put {ps : List (List Key × V)} {qs : List (Kt × β)} {k : Kt} {v : V} {y : β} (h : imDT (G := G) H ps qs) (hv : Im.im G H v y) (hb : ∃ b, H b = some (.tup (k.ks.map kV))) : imDT (G := G) H (putK ps k.ks v) (dput qs k y) := by
  unfold putK dput
  rw [h.any k]
  split
  · exact h.rep hv
  · exact h.app (rs := [(k.ks, v)]) (ts := [(k, y)]) ⟨⟨rfl, hv, hb⟩, True.intro⟩
theorem imDT.at : ∀ {ps : List (List Key × V)} {qs : List (Kt × β)} {j : Nat} {k : List Key} {v : V} {x : Kt}, imDT (G := G) H ps qs → ps[j]? = some (k, v) → (qs.map (·.1))[j]? = some x → k = x.ks
  | p :: _, q :: _, 0, k, v, x, h, e1, e2 => by
    have e1 : p = (k, v) := by simpa using e1
    have e2 : q.1 = x := by simpa using e2
    have := h.1.1
    rw [e1, e2] at this
    exact this
  | _ :: ps, _ :: qs, j + 1, k, v, x, h, e1, e2 => imDT.at (ps := ps) (qs := qs) (j := j) h.2 (by simpa using e1) (by simpa using e2)
  | [], _, _, _, _, _, _, e1, _ => by simp at e1
  | _ :: _, [], _, _, _, _, h, _, _ => h.elim
def dictT (a : Addr) (kvs : List (Kt × β)) : Asn G := ⟨fun H fp => fp = [a] ∧ ∃ ps, H a = some (.dT ps) ∧ imDT (G := G) H ps kvs,
  fun H H' fp ⟨e, ps, h, m⟩ k s => ⟨e, ps, by rw [k a (by rw [e]; simp)]; exact h, m.st s⟩⟩
/-- .. while it is walked -/
def lockT (a : Addr) (od : Obj) (ps : List (List Key × V)) (kvs : List (Kt × β)) : Asn G := ⟨fun H fp => fp = [a] ∧ H a = some (.frz od (.dT ps)) ∧ imDT (G := G) H ps kvs,
  fun H H' fp ⟨e, h, m⟩ k s => ⟨e, by rw [k a (by rw [e]; simp)]; exact h, m.st s⟩⟩
variable {L L' : List (Asn G)} {σ : L2.St} {Q : VK} {te td ty tx : TE} {k : Kt} {a b : Addr} {xs : List (Kt × β)} {i : Nat}
theorem Sep.dictT (h : Sep H L) (e : L[i]? = some (dictT a xs)) : ∃ ps, H a = some (.dT ps) ∧ imDT (G := G) H ps xs := by
  obtain ⟨fp, _, x⟩ := h.at e
  exact x
theorem Sep.newT (h : Sep H L) {p : Addr} (hp : H p = none) : Sep (upd H p (.dT [])) (Ml.dictT p ([] : List (Kt × β)) :: L) :=
  (h.new (o := .dT []) hp rfl).view fun fp ⟨q, r⟩ => ⟨q, [], r, True.intro⟩
theorem Sep.turnT {o : HO} {ps : List (List Key × V)} {A : Asn G} (h : Sep H L) (e : L[i]? = some A) (hA : ∀ fp, A.sat H fp → fp = [a] ∧ H a = some o) (n : per G o = false) (o' : HO) (n' : per G o' = false) (kd : kindOf o' = kindOf o) (B : Asn G)
    (hB : ∀ H', Stab G H H' → H' a = some o' → B.sat H' [a]) : Sep (upd H a o') (L.set i B) := by
  have h1 : Sep H (L.set i (cell a o)) := h.viewAt e fun fp s => ⟨(hA fp s).1, (hA fp s).2⟩
  have e1 := get_set (y := cell (G := G) a o) e
  have h2 := h1.put (o' := o') e1 n' kd
  rw [set_set] at h2
  have st : Stab G H (upd H a o') := stab_put (h1.getCell e1) n kd
  have h3 := h2.viewAt (B := B) (get_set e) fun fp ⟨q, r⟩ => by subst q; exact hB _ st r
  rw [set_set] at h3
  exact h3
theorem Sep.putT {ys : List (Kt × β)} {ps : List (List Key × V)} (h : Sep H L) (e : L[i]? = some (Ml.dictT a xs)) (m : imDT (G := G) H ps ys) : Sep (upd H a (.dT ps)) (L.set i (Ml.dictT a ys)) := by
  obtain ⟨us, e0, mu⟩ := h.dictT e
  exact h.turnT (ps := ps) (o := .dT us) e (fun fp ⟨q, _⟩ => ⟨q, e0⟩) rfl (.dT ps) rfl rfl _ fun H' st r => ⟨rfl, ps, r, m.st st⟩
theorem k_dnewT (hS : Sep H L) (q : ∀ p H', Sep H' (dictT p ([] : List (Kt × β)) :: L) → Q (.ref p) H') : tDNewT σ H Q := fun p hp => q p _ (hS.newT hp)
theorem kt_kv (hk : Im.im G H (.ref b) k) : H b = some (.tup (k.ks.map kV)) := by rw [k.kv]; exact kt_at hk
theorem dget_atT (hS : Sep H L) (e : L[i]? = some (dictT a xs)) (hk : Im.im G H (.ref b) k) : ∃ r, DGet H a (.ref b) r ∧ (∀ y, dget xs k = some y → ∃ v, r = some v ∧ Im.im G H v y) ∧ (dget xs k = none → r = none) := by
  obtain ⟨ps, h, m⟩ := hS.dictT e
  obtain ⟨v1, v2⟩ := m.val k
  exact ⟨_, DGet.t h (kt_kv hk), v1, v2⟩
theorem dhas_atT (hS : Sep H L) (e : L[i]? = some (dictT a xs)) (hk : Im.im G H (.ref b) k) : ∃ r, DGet H a (.ref b) r ∧ r.isSome = dhas xs k := by
  obtain ⟨r, g, h1, h2⟩ := dget_atT hS e hk
  refine ⟨r, g, ?_⟩
  unfold dhas
  cases c : dget xs k with
  | none => rw [h2 c]; rfl
  | some y => obtain ⟨v, e, _⟩ := h1 y c; rw [e]; rfl
theorem dget_someT {y : β} (hS : Sep H L) (e : L[i]? = some (dictT a xs)) (hk : Im.im G H (.ref b) k) (h : dget xs k = some y) : ∃ v, DGet H a (.ref b) (some v) ∧ Im.im G H v y := by
  obtain ⟨r, g, h1, _⟩ := dget_atT hS e hk
  obtain ⟨v, rfl, m⟩ := h1 y h
  exact ⟨v, g, m⟩
/-! y in d, y not in d, d[y], step by step -/
def dinK2 (y : V) (Q : VK) : VK := fun x H2 => ∃ a o, x = .ref a ∧ DGet H2 a y o ∧ Q (.bl o.isSome) H2
def dinK (td : TE) (σ : L2.St) (Q : VK) : VK := fun y H1 => td σ H1 (dinK2 y Q)
def dniK2 (y : V) (Q : VK) : VK := fun x H2 => ∃ a o, x = .ref a ∧ DGet H2 a y o ∧ Q (.bl (!o.isSome)) H2
def dniK (td : TE) (σ : L2.St) (Q : VK) : VK := fun y H1 => td σ H1 (dniK2 y Q)
def dgetK2 (x : V) (Q : VK) : VK := fun y H2 => ∃ a v, x = .ref a ∧ DGet H2 a y (some v) ∧ Q v H2
def dgetK (ty : TE) (σ : L2.St) (Q : VK) : VK := fun x H1 => ty σ H1 (dgetK2 x Q)
theorem c_din (h : ty σ H (dinK td σ Q)) : tDIn ty td σ H Q := h
theorem c_dni (h : ty σ H (dniK td σ Q)) : tDNotIn ty td σ H Q := h
theorem c_dget (h : td σ H (dgetK ty σ Q)) : tDGet td ty σ H Q := h
theorem k_din1 {y : V} (h : td σ H (dinK2 y Q)) : dinK td σ Q y H := h
theorem k_dni1 {y : V} (h : td σ H (dniK2 y Q)) : dniK td σ Q y H := h
theorem k_dget1 {x : V} (h : ty σ H (dgetK2 x Q)) : dgetK ty σ Q x H := h
theorem k_dinT (hS : Sep H L) (e : L[i]? = some (dictT a xs)) (hk : Im.im G H (.ref b) k) (q : Q (.bl (dhas xs k)) H) : dinK2 (.ref b) Q (.ref a) H := by
  obtain ⟨r, g, er⟩ := dhas_atT hS e hk
  exact ⟨a, r, rfl, g, by rw [er]; exact q⟩
theorem k_dniT (hS : Sep H L) (e : L[i]? = some (dictT a xs)) (hk : Im.im G H (.ref b) k) (q : Q (.bl (!dhas xs k)) H) : dniK2 (.ref b) Q (.ref a) H := by
  obtain ⟨r, g, er⟩ := dhas_atT hS e hk
  exact ⟨a, r, rfl, g, by rw [er]; exact q⟩
theorem k_dgetT {v : V} (g : DGet H a (.ref b) (some v)) (q : Q v H) : dgetK2 (.ref a) Q (.ref b) H := ⟨a, v, rfl, g, q⟩
theorem ev_dinT (hS : Sep H L) (e : L[i]? = some (dictT a xs)) (hk : Im.im G H (.ref b) k) (hy : Ev ty σ H (.ref b)) (hd : Ev td σ H (.ref a)) : Ev (tDIn ty td) σ H (.bl (dhas xs k)) := fun Q q => hy _ (hd _ (k_dinT hS e hk q))
theorem ev_dniT (hS : Sep H L) (e : L[i]? = some (dictT a xs)) (hk : Im.im G H (.ref b) k) (hy : Ev ty σ H (.ref b)) (hd : Ev td σ H (.ref a)) : Ev (tDNotIn ty td) σ H (.bl (!dhas xs k)) := fun Q q => hy _ (hd _ (k_dniT hS e hk q))
theorem ev_dgetT {v : V} (hd : Ev td σ H (.ref a)) (hy : Ev ty σ H (.ref b)) (g : DGet H a (.ref b) (some v)) : Ev (tDGet td ty) σ H v := fun Q q => hd _ (hy _ ⟨a, v, rfl, g, q⟩)
theorem k_setDT {v : V} {y : β} {P : Hp → Prop} (hS : Sep H L) (e : L[i]? = some (dictT a xs)) (hk : Im.im G H (.ref b) k) (hv : Im.im G H v y) (hl : xs.length < sizeLine) (e2 : L.set i (dictT a (dput xs k y)) = L') (q : ∀ H', Sep H' L' → P H') : rSetD (.ref a) (.ref b) v H P := by
  obtain ⟨ps, h, m⟩ := hS.dictT e
  refine ⟨a, _, rfl, DPut.t h (kt_kv hk) (by rw [m.len]; exact hl), q _ ?_⟩
  subst e2
  exact hS.putT e (m.put hv ⟨b, kt_kv hk⟩)
theorem ty_dictT (hS : Sep H L) (e : L[i]? = some (dictT a xs)) : TyX G.K H (.ref a) (.type "dict") := by
  obtain ⟨ps, h, _⟩ := hS.dictT e
  exact .base (.dT h)
/-! walked in a comprehension -/
def unlK (a : Addr) (od : Obj) (ps : List (List Key × V)) (Q : VK) : VK := fun v H' => H' a = some (.frz od (.dT ps)) ∧ Q v (upd H' a (.dT ps))
theorem k_lockT (hS : Sep H L) (e : L[i]? = some (dictT a xs)) (k : ∀ od ps H', Sep H' (L.set i (lockT a od ps xs)) → te σ H' (unlK a od ps Q)) : tLockE te σ H Q := by
  obtain ⟨ps, h, m⟩ := hS.dictT e
  exact ⟨a, .dT ps, h, True.intro, fun od => k od ps _ (hS.turnT (ps := ps) (o := .dT ps) e (fun fp ⟨q, _⟩ => ⟨q, h⟩) rfl (.frz od (.dT ps)) rfl rfl _ fun H' st r => ⟨rfl, r, m.st st⟩)⟩
theorem k_unlT {od : Obj} {ps : List (List Key × V)} {v : V} (hS : Sep H L) (e : L[i]? = some (lockT a od ps xs)) (k : ∀ H', Sep H' (L.set i (dictT a xs)) → Q v H') : unlK a od ps Q v H := by
  obtain ⟨fp, q0, h, m⟩ := hS.at e
  exact ⟨h, k _ (hS.turnT (ps := ps) (o := .frz od (.dT ps)) e (fun fp ⟨q, r, _⟩ => ⟨q, r⟩) rfl (.dT ps) rfl rfl _ fun H' st r => ⟨rfl, ps, r, m.st st⟩)⟩
theorem Sep.lockT {od : Obj} {ps : List (List Key × V)} (hS : Sep H L) (e : L[i]? = some (Ml.lockT a od ps xs)) : H a = some (.frz od (.dT ps)) ∧ imDT (G := G) H ps xs := by
  obtain ⟨fp, _, x⟩ := hS.at e
  exact x
def keysK (R : It → Hp → Prop) : VK := fun x H1 => ∃ d o, x = .ref d ∧ ((∃ kvs, H1 d = some (.frz o (.dK kvs)) ∧ R (Itk d o kvs) H1) ∨ ∃ kvs, H1 d = some (.frz o (.dT kvs)) ∧ R (Itkt d o kvs) H1)
theorem c_keys {R : It → Hp → Prop} (h : td σ H (keysK R)) : iKeys td σ H R := h
theorem k_keysT {od : Obj} {ps : List (List Key × V)} {R : It → Hp → Prop} (e : H a = some (.frz od (.dT ps))) (k : R (Itkt a od ps) H) : keysK R (.ref a) H := ⟨a, od, rfl, .inr ⟨ps, e, k⟩⟩
theorem wk_keysT {od : Obj} {ps : List (List Key × V)} {I : L2.St → Hp → Prop} (f : ∀ σ H, I σ H → H a = some (.frz od (.dT ps)) ∧ imDT (G := G) H ps xs) : Wk (Itkt a od ps) I (Im.im G) (xs.map (·.1)) where
  go := fun j σ H h l => by
    obtain ⟨h1, m⟩ := f σ H h
    rw [List.length_map] at l
    exact ⟨h1, by rw [m.len]; exact l⟩
  yl := fun j σ H v H' x h e y => by
    obtain ⟨h1, m⟩ := f σ H h
    obtain ⟨rfl, k, w, q, e1, rfl, e2⟩ := y
    refine ⟨h, q, rfl, ?_⟩
    rw [← x.kv, ← m.at e1 e]
    exact e2
  sp := fun σ H h => by
    obtain ⟨h1, m⟩ := f σ H h
    exact ⟨h1, by rw [List.length_map, m.len]; exact Nat.le_refl _⟩
end
/-! ### and, or whose second half changes what is owned -/
section
variable {σ : L2.St} {H : Hp} {u : TT} {P : Bool → Hp → Prop} {τ ρ : Type} {A : R (τ × Bool)} {s0 : τ} {rest : τ × Bool → R ρ} {q : ρ → Prop} {e : Exc → Prop} {a : Bool} {tb : TE} {Q : VK}
theorem andK_S (M : τ → List (Asn G)) (hm : R.wp ((if a = true then A else .ok (s0, false)).bind rest) q e) (hS : Sep H (M s0))
    (h1 : a = true → ∀ q' : τ × Bool → Prop, R.wp A q' e → (∀ s b H', q' (s, b) → Sep H' (M s) → P b H') → u σ H P) (k : ∀ s b H', R.wp (rest (s, b)) q e → Sep H' (M s) → P b H') : andK u σ P a H := by
  have hm' := R.wp_bind hm
  cases a with
  | true => exact h1 rfl _ hm' k
  | false => exact k s0 false H hm' hS
theorem orK_S (M : τ → List (Asn G)) (hm : R.wp ((if a = true then .ok (s0, true) else A).bind rest) q e) (hS : Sep H (M s0))
    (h1 : a = false → ∀ q' : τ × Bool → Prop, R.wp A q' e → (∀ s b H', q' (s, b) → Sep H' (M s) → P b H') → u σ H P) (k : ∀ s b H', R.wp (rest (s, b)) q e → Sep H' (M s) → P b H') : orK u σ P a H := by
  have hm' := R.wp_bind hm
  cases a with
  | true => exact k s0 true H hm' hS
  | false => exact h1 rfl _ hm' k
end
end Ml

namespace Ml
open PySem PySem.Spec PyProof.Rows L2
variable {G : Gx} {σ : L2.St} {H : Hp} {M L : List (Asn G)} {Q : VK}
/-! ### a pair, taken apart -/
def bind2 {α β ρ : Type} (m : R (α × β)) (f : α → β → R ρ) : R ρ := m.bind fun t => f t.1 t.2
theorem bind2_wp {α β ρ : Type} {m : R (α × β)} {f : α → β → R ρ} {q : ρ → Prop} {e : Exc → Prop} (h : R.wp (bind2 m f) q e) : R.wp (m.bind fun t => f t.1 t.2) q e := h
theorem Ok.bind2 {α β ρ : Type} {m : R (α × β)} {f : α → β → R ρ} {P : ρ → Prop} {Z : α × β → Prop} (h : Ok m Z) (k : ∀ a b, Z (a, b) → Ok (f a b) P) : Ok (Ml.bind2 m f) P := .bind h fun r hr => k r.1 r.2 hr
theorem wp_dgetG {κ β ρ : Type} [DecidableEq κ] {xs : List (κ × β)} {k : κ} {q : ρ → Prop} {e : Exc → Prop} {f : β → R ρ} (h : R.wp ((dgetR xs k).bind f) q e) : ∃ y, dget xs k = some y ∧ R.wp (f y) q e := by
  unfold dgetR at h
  cases c : dget xs k with
  | none => rw [c] at h; exact h.elim
  | some y => rw [c] at h; exact ⟨y, rfl, h⟩
section
variable {u : TT} {P : Bool → Hp → Prop} {τ ρ : Type} {A : R (τ × Bool)} {s0 : τ} {rest : τ → Bool → R ρ} {q : ρ → Prop} {e : Exc → Prop} {a : Bool}
theorem andK_T (N : τ → List (Asn G)) (hm : R.wp (bind2 (if a = true then A else .ok (s0, false)) rest) q e) (hS : Sep H (N s0))
    (h1 : a = true → ∀ q' : τ × Bool → Prop, R.wp A q' e → (∀ s b H', q' (s, b) → Sep H' (N s) → P b H') → u σ H P) (k : ∀ s b H', R.wp (rest s b) q e → Sep H' (N s) → P b H') : andK u σ P a H := by
  have hm' := R.wp_bind (bind2_wp hm)
  cases a with
  | true => exact h1 rfl _ hm' fun s b H' h hS => k s b H' h hS
  | false => exact k s0 false H hm' hS
theorem orK_T (N : τ → List (Asn G)) (hm : R.wp (bind2 (if a = true then .ok (s0, true) else A) rest) q e) (hS : Sep H (N s0))
    (h1 : a = false → ∀ q' : τ × Bool → Prop, R.wp A q' e → (∀ s b H', q' (s, b) → Sep H' (N s) → P b H') → u σ H P) (k : ∀ s b H', R.wp (rest s b) q e → Sep H' (N s) → P b H') : orK u σ P a H := by
  have hm' := R.wp_bind (bind2_wp hm)
  cases a with
  | true => exact k s0 true H hm' hS
  | false => exact h1 rfl _ hm' fun s b H' h hS => k s b H' h hS
end
/-! ### one of a list of own things -/
section
variable {β : Type}
def ixJ (xs : List β) (i : Int) : R (Nat × β) := match ixN xs.length i with
  | some j => match xs[j]? with
    | some x => .ok (j, x)
    | none => .bad
  | none => .bad
theorem wp_ixJ {ρ : Type} {xs : List β} {i : Int} {f : Nat → β → R ρ} {q : ρ → Prop} {e : Exc → Prop} (h : R.wp (bind2 (ixJ xs i) f) q e) : ∃ j x, (ixN xs.length i = some j ∧ xs[j]? = some x) ∧ R.wp (f j x) q e := by
  unfold ixJ bind2 at h
  cases c : ixN xs.length i with
  | none => rw [c] at h; exact h.elim
  | some j =>
    rw [c] at h
    cases d : xs[j]? with
    | none => simp only [d] at h; exact h.elim
    | some x => simp only [d] at h; exact ⟨j, x, ⟨rfl, d⟩, h⟩
theorem ixJ_ok {xs : List β} {i : Int} {x : β} (h0 : 0 ≤ i) (h1 : i < xs.length) (h : xs[i.toNat]? = some x) : ixJ xs i = .ok (i.toNat, x) := by
  unfold ixJ ixN
  rw [if_pos h0, if_pos h1]
  simp only [h]
theorem ixK {E : Addr → β → Asn G} {a : Addr} {xs : List β} {i : Int} {j : Nat} {x : β} (hS : Sep H (listE E a xs :: M)) (h : ixN xs.length i = some j ∧ xs[j]? = some x)
    (k : ∀ ps p, ps.length = xs.length → ps[j]? = some p → Sep H (E p x :: listH E a ps xs j :: M) → Q (.ref p) H) : rIxL G.K (.ref a) (.int i) H Q := by
  obtain ⟨ps, p, hl, hp, hS⟩ := focusE hS h.2
  have h2 : Sep H (listH E a ps xs j :: E p x :: M) := hS.perm (List.Perm.swap _ _ _)
  have hc : H a = some (.lst (ps.map V.ref)) := (Sep.star1 h2).getCell (i := 0) rfl
  refine ⟨a, ps.map V.ref, i, .ref p, rfl, rfl, .inl (.inl hc), ?_, k ps p hl hp hS⟩
  unfold atI
  rw [List.length_map, hl, h.1]
  show (ps.map V.ref)[j]? = _
  rw [List.getElem?_map, hp]
  rfl
theorem set_same {xs : List β} {j : Nat} {x : β} (h : xs[j]? = some x) : xs.set j x = xs := by
  obtain ⟨h1, h2⟩ := List.getElem?_eq_some_iff.mp h
  rw [← h2]
  exact List.set_getElem_self h1
theorem unfocus0 {E : Addr → β → Asn G} {a : Addr} {xs : List β} {ps : List Addr} {j : Nat} {p : Addr} {x : β} (hl : ps.length = xs.length) (hp : ps[j]? = some p) (hx : xs[j]? = some x) (h : Sep H (E p x :: listH E a ps xs j :: M)) : Sep H (listE E a xs :: M) := by
  have := unfocusE hl hp h
  rw [set_same hx] at this
  exact this
theorem packE {E : Addr → β → Asn G} {a : Addr} {xs : List β} (ps : List Addr) (hl : ps.length = xs.length) (h : Sep H ((cell a (.lst (ps.map V.ref)) :: elemsE E (ps.zip xs)) ++ M)) : Sep H (listE E a xs :: M) :=
  Sep.exI ps (Sep.andI hl (Sep.unstar1 h))
end
/-! ### (a, b) as a key -/
theorem k_tupKt {xs : List Str} (hS : Sep H L) (z : xs.length ≤ sizeLine) (k : ∀ p H', Sep H' (imA (.ref p) (⟨xs⟩ : Kt) :: L) → Q (.ref p) H') : tupK Q (xs.map V.str) H :=
  ⟨by rw [List.length_map]; exact z, fun p hp => k p _ ((hS.more (same_new hp)).addIm ⟨p, rfl, upd_same⟩)⟩
end Ml

namespace Lw
open PySem L2 Ml
structure Registers where
  cells : (List (Kt × ((Int × Str) × Any)))
def m_Registers___init__  : R Registers :=
R.ok ((⟨([] : (List (Kt × ((Int × Str) × Any))))⟩ : Registers))
def m_Registers_keep (v_self : Registers) (v_key : Kt) (v_stamp : (Int × Str)) (v_value : Any) : R (Bool × Registers) :=
(if (dhas v_self.cells v_key) = true then (
(dgetR v_self.cells v_key).bind fun y4 =>
R.ok (!ltS y4.1 v_stamp)) else R.ok false).bind fun b3 =>
if b3 = true then (
R.ok ((false, v_self))) else (
R.need (v_self.cells.length < sizeLine) <|
R.ok ((true, (⟨dput v_self.cells v_key (v_stamp, v_value)⟩ : Registers))))
def m_Registers_get (v_self : Registers) (v_key : Kt) (v_default : Any) : R Any :=
if (!dhas v_self.cells v_key) = true then (
R.ok (v_default)) else (
(dgetR v_self.cells v_key).bind fun y4 =>
R.ok (y4.2))
def m_Registers_keys_of (v_self : Registers) (v_first : Str) : R ((List Kt)) :=
R.need ((v_self.cells.map (·.1)).length ≤ sizeLine) <|
(compR (fun (_ : Unit) (x7 : Kt) =>
(idxR x7.l (0)).bind fun x12 =>
if (decide (x12 = v_first)) = true then (
R.ok ((), some (x7))) else R.ok ((), none)) (v_self.cells.map (·.1)) ()).bind fun (t14 : Unit × List Kt) =>
R.need ((t14.2.all fun k => !k.l.isEmpty) = true) <|
R.need (t14.2.length ≤ sizeLine) <|
R.ok (sortK t14.2)
def m_law_begin (v_law_script : Script) : R ((T3 Int Script Int)) :=
R.ok ((⟨(v_law_script.ns.length : Int) + 7, v_law_script, 0⟩ : T3 Int Script Int))
def m_law_next (v_law_state : (T3 Int Script Int)) : R (Int × (T3 Int Script Int)) :=
(if (decide (0 < (v_law_state.b.ns.length : Int))) = true then (
R.need (0 < (v_law_state.b.ns.length : Int)) <|
(idxR v_law_state.b.ns (v_law_state.c % (v_law_state.b.ns.length : Int))).bind fun x15 =>
R.ok (x15)) else (
R.ok (0))).bind fun (s4 : Int) =>
(R.ok (⟨v_law_state.a, v_law_state.b, v_law_state.c + 1⟩ : (T3 Int Script Int))).bind fun y19 =>
(R.ok (⟨(((y19.a * 48271) + s4) + y19.c) % 2147483647, y19.b, y19.c⟩ : (T3 Int Script Int))).bind fun y26 =>
R.ok ((y26.a / 64, y26))
def m_law_word (v_law_state : (T3 Int Script Int)) (v_law_signs : Str) (v_law_most : Int) : R (Str × (T3 Int Script Int)) :=
(m_law_next v_law_state).bind fun r1 =>
R.need (0 < v_law_most) <|
(m_law_next r1.2).bind fun r4 =>
(idxR ([1, 2, v_law_most, 1 + (r1.1 % v_law_most)]) (r4.1 % 4)).bind fun x5 =>
(if (decide (v_law_most < x5)) = true then (
R.ok (v_law_most)) else (
R.ok (x5))).bind fun (s6 : Int) =>
R.need (-(2 ^ 62) ≤ s6 ∧ s6 < 2 ^ 62) <|
R.need ((rngL 0 (s6).toNat).length ≤ sizeLine) <|
(compR (fun (s13 : (T3 Int Script Int)) (x10 : Int) =>
(m_law_next s13).bind fun r14 =>
R.need ((v_law_signs).length ≤ sizeLine) <|
R.need (0 < ((v_law_signs).length : Int)) <|
R.need ((v_law_signs).length ≤ sizeLine) <|
(idxR (v_law_signs).cps.toList (r14.1 % ((v_law_signs).length : Int))).bind fun c18 =>
R.ok (r14.2, some (sg (c18)))) (rngL 0 (s6).toNat) r4.2).bind fun (t19 : (T3 Int Script Int) × List Str) =>
R.need ((t19.2.map (·.length)).sum + t19.2.length * (("" : Str)).length ≤ 16777216) <|
R.ok ((Txt.join ("" : Str) t19.2, t19.1))
def m_law_any_word (v_law_state : (T3 Int Script Int)) : R (Str × (T3 Int Script Int)) :=
(m_law_word v_law_state ("abcdefghijklmnopqrstuvwxyz0123456789" : Str) 20).bind fun r1 =>
R.ok ((r1.1, r1.2))
def m_law_shuffled (v_law_state : (T3 Int Script Int)) (v_law_row : (List Int)) : R ((List Int) × (T3 Int Script Int)) :=
(forR (fun (s2 : (T3 Int Script Int) × (List Int)) (x3 : Int) =>
(m_law_next s2.1).bind fun r6 =>
R.need (0 < ((s2.2.length : Int) + 1)) <|
R.need (s2.2.length < sizeLine) <|
R.need (0 ≤ (r6.1 % ((s2.2.length : Int) + 1) : Int) ∧ (r6.1 % ((s2.2.length : Int) + 1) : Int) < 2 ^ 63) <|
R.ok (r6.2, insL s2.2 (r6.1 % ((s2.2.length : Int) + 1) : Int).toNat x3)) (v_law_row) (v_law_state, ([] : (List Int)))).bind fun (s2 : (T3 Int Script Int) × (List Int)) =>
R.ok ((s2.2, s2.1))
def m_law_key (v_law_state : (T3 Int Script Int)) (v_law_words : (List Str)) : R (Kt × (T3 Int Script Int)) :=
(m_law_next v_law_state).bind fun r1 =>
R.need (-(2 ^ 62) ≤ (1 + (r1.1 % 3)) ∧ (1 + (r1.1 % 3)) < 2 ^ 62) <|
R.need ((rngL 0 (1 + (r1.1 % 3)).toNat).length ≤ sizeLine) <|
(compR (fun (s8 : (T3 Int Script Int)) (x5 : Int) =>
(m_law_next s8).bind fun r9 =>
R.need (0 < (v_law_words.length : Int)) <|
(idxR v_law_words (r9.1 % (v_law_words.length : Int))).bind fun x11 =>
R.ok (r9.2, some (x11))) (rngL 0 (1 + (r1.1 % 3)).toNat) r1.2).bind fun (t12 : (T3 Int Script Int) × List Str) =>
R.ok (((⟨t12.2⟩ : Kt), t12.1))
def m_law_got (v_law_state : (T3 Int Script Int)) (v_law_one : Registers) (v_law_rows : (List (Kt × ((Int × Str) × Any)))) (v_law_key_here : Kt) : R (Bool × (T3 Int Script Int)) :=
(if (dhas v_law_rows v_law_key_here) = true then (
(dgetR v_law_rows v_law_key_here).bind fun y5 =>
R.ok (y5.2)) else (
R.ok (Any.non))).bind fun (s2 : Any) =>
(m_law_next v_law_state).bind fun r18 =>
(if (decide ((r18.1 % 2) = 0)) = true then (
(m_Registers_get v_law_one v_law_key_here Any.non).bind fun r26 =>
R.ok (s2, r26)) else (
(m_Registers_get v_law_one v_law_key_here (Any.str ("none" : Str))).bind fun r32 =>
(if (!dhas v_law_rows v_law_key_here) = true then (
R.ok ((Any.str ("none" : Str)))) else (
R.ok (s2))).bind fun (s35 : Any) =>
R.ok (s35, r32))).bind fun (s19 : Any × Any) =>
(eqA s19.2 s19.1).bind fun b40 =>
R.ok ((b40 && (decide ((s19.2.is "bool") = (s19.1.is "bool"))), r18.2))
def m_law_looked (v_law_state : (T3 Int Script Int)) (v_law_one : Registers) (v_law_rows : (List (Kt × ((Int × Str) × Any)))) (v_law_words : (List Str)) : R (Bool × (T3 Int Script Int)) :=
(m_law_shuffled v_law_state ([0, 1, 2])).bind fun r2 =>
(forF (ρ := (Bool × (T3 Int Script Int))) (fun (s4 : (T3 Int Script Int)) (x5 : Int) =>
bind2 (if (decide (x5 < 2)) = true then (
(m_law_key s4 v_law_words).bind fun r14 =>
(m_law_got r14.2 v_law_one v_law_rows r14.1).bind fun r17 =>
R.ok (r17.2, !r17.1)) else R.ok (s4, false)) fun (s12 : (T3 Int Script Int)) (b13 : Bool) =>
if b13 = true then (
R.ok (.out ((false, s12)))) else (
(m_law_next s12).bind fun r19 =>
R.need (0 < (v_law_words.length : Int)) <|
(idxR v_law_words (r19.1 % (v_law_words.length : Int))).bind fun x21 =>
R.need ((v_law_rows.map (·.1)).length ≤ sizeLine) <|
(compR (fun (_ : Unit) (x26 : Kt) =>
(idxR x26.l (0)).bind fun x31 =>
if (decide (x31 = x21)) = true then (
R.ok ((), some (x26))) else R.ok ((), none)) (v_law_rows.map (·.1)) ()).bind fun (t33 : Unit × List Kt) =>
R.need ((t33.2.all fun k => !k.l.isEmpty) = true) <|
R.need (t33.2.length ≤ sizeLine) <|
(R.ok (sortK t33.2 : (List Kt))).bind fun y37 =>
(m_Registers_keys_of v_law_one x21).bind fun r40 =>
(if (decide (x5 = 2)) = true then (
R.need (Lay.lay (r40 : (List Kt)) = true) <|
R.need (Lay.lay (y37 : (List Kt)) = true) <|
R.ok (!decide ((r40 : (List Kt)) = y37))) else R.ok false).bind fun b42 =>
if b42 = true then (
R.ok (.out ((false, r19.2)))) else (
R.need (r40.length < sizeLine) <|
(if (decide (x5 = 2)) = true then (
(m_Registers_keys_of v_law_one x21).bind fun r52 =>
R.need (Lay.lay (r52 : (List Kt)) = true) <|
R.need (Lay.lay (y37 : (List Kt)) = true) <|
R.ok (!decide ((r52 : (List Kt)) = y37))) else R.ok false).bind fun b49 =>
if b49 = true then (
R.ok (.out ((false, r19.2)))) else (
R.ok (.go (r19.2)))))) (r2.1) (r2.2)).bind (contF (fun (s4 : (T3 Int Script Int)) =>
R.ok ((true, s4))) (fun o57 => .ok o57))
def m_law (v_law_script : Script) : R Bool :=
(m_law_begin v_law_script).bind fun r1 =>
(m_law_any_word r1).bind fun r3 =>
R.need ((r3.1).length + (("a" : Str)).length ≤ sizeLine) <|
R.need ((r3.1).length + (("1" : Str)).length ≤ sizeLine) <|
R.need ((r3.1).length ≤ sizeLine) <|
(m_law_any_word r3.2).bind fun r7 =>
(R.ok ([r3.1, r3.1 ++ ("a" : Str), r3.1 ++ ("1" : Str), cutS r3.1 none (some (-1)), r7.1, ("mark" : Str), ("" : Str), ("a/b" : Str), ("a" : Str), ("b" : Str), ("a b" : Str)] : (List Str))).bind fun y9 =>
(m_Registers___init__ ).bind fun r12 =>
(m_Registers___init__ ).bind fun r15 =>
(R.ok ([r12, r15] : (List Registers))).bind fun y17 =>
(R.ok ([([] : (List (Kt × ((Int × Str) × Any)))), ([] : (List (Kt × ((Int × Str) × Any))))] : (List (List (Kt × ((Int × Str) × Any)))))).bind fun y21 =>
(forF (ρ := Bool) (fun (s23 : (T3 Int Script Int) × (List Registers) × (List (List (Kt × ((Int × Str) × Any))))) (x24 : Int) =>
(m_law_next s23.1).bind fun r36 =>
(R.ok (r36.1 % 2 : Int)).bind fun y37 =>
(m_law_key r36.2 y9).bind fun r38 =>
(m_law_next r38.2).bind fun r41 =>
(m_law_next r41.2).bind fun r43 =>
(idxR ([4, 4, 10 ^ (6 : Int).toNat]) (r43.1 % 3)).bind fun x44 =>
R.need (0 < x44) <|
(R.ok (1 + (r41.1 % x44) : Int)).bind fun y46 =>
(m_law_next r43.2).bind fun r48 =>
(idxR ([("ann" : Str), ("an" : Str), ("b" : Str), ("annz" : Str)]) (r48.1 % 4)).bind fun x49 =>
(m_law_next r48.2).bind fun r52 =>
(m_law_next r52.2).bind fun r56 =>
(idxR ([(Any.int (r52.1 % 3)), (Any.str ("w" : Str)), Any.non, (Any.bl true), (Any.bl false), (Any.tup [(Any.str ("a" : Str)), (Any.int 1)])]) (r56.1 % 6)).bind fun x57 =>
(bind2 (ixJ s23.2.2 (y37)) fun j65 x66 =>
(if (!dhas x66 r38.1) = true then R.ok true else (
(bind2 (ixJ s23.2.2 (y37)) fun j72 x73 =>
(dgetR x73 r38.1).bind fun y78 =>
R.ok (ltS y78.1 (y46, x49))))).bind fun b71 =>
(bind2 (ixJ s23.2.1 (y37)) fun j91 x92 =>
(m_Registers_keep x92 r38.1 (y46, x49) x57).bind fun r99 =>
if (false || (!decide (r99.1 = b71))) = true then (
R.ok (.out (false))) else (
(if b71 = true then (
(bind2 (ixJ s23.2.2 (y37)) fun j104 x105 =>
R.need (x105.length < sizeLine) <|
R.ok (s23.2.2.set j104 (dput x105 r38.1 ((y46, x49), x57))))) else (
R.ok (s23.2.2))).bind fun (s101 : (List (List (Kt × ((Int × Str) × Any))))) =>
(forF (ρ := Bool) (fun (s112 : (T3 Int Script Int)) (x113 : Int) =>
(bind2 (ixJ (s23.2.1.set j91 r99.2) (x113)) fun j117 x118 =>
(bind2 (ixJ s101 (x113)) fun j123 x124 =>
(m_law_got s112 x118 x124 r38.1).bind fun r129 =>
bind2 (if (!r129.1) = true then R.ok (r129.2, true) else (
(bind2 (ixJ (s23.2.1.set j91 r99.2) (x113)) fun j132 x133 =>
(bind2 (ixJ s101 (x113)) fun j138 x139 =>
(m_law_looked r129.2 x133 x139 y9).bind fun r144 =>
R.ok (r144.2, !r144.1))))) fun (s130 : (T3 Int Script Int)) (b131 : Bool) =>
if b131 = true then (
R.ok (.out (false))) else (
R.ok (.go (s130)))))) ([y37, 1 - y37]) (r56.2)).bind (contF (fun (s112 : (T3 Int Script Int)) =>
R.ok (.go (s112, s23.2.1.set j91 r99.2, s101))) (fun o146 => R.ok (.out o146))))))) (cutL v_law_script.ns none (some (60))) (r7.2, y17, y21)).bind (contF (fun (s23 : (T3 Int Script Int) × (List Registers) × (List (List (Kt × ((Int × Str) × Any))))) =>
R.ok (true)) (fun o147 => .ok o147))
end Lw

namespace Lw
open PySem L2 Ml
/-! the signs of words -/
theorem alph_len : ("abcdefghijklmnopqrstuvwxyz0123456789" : Str).cps.toList.length = 36 := by decide +kernel
theorem alph_asc : Asc ("abcdefghijklmnopqrstuvwxyz0123456789" : Str) := Asc.lit (by decide +kernel)
def wsg (c : Nat) : Bool := (97 ≤ c && c ≤ 122) || (48 ≤ c && c ≤ 57)
theorem wsg_lt {c : Nat} (h : wsg c = true) : c < 128 := by
  unfold wsg at h
  simp at h
  omega
theorem alph_wsg : ∀ c, c ∈ ("abcdefghijklmnopqrstuvwxyz0123456789" : Str).cps.toList → wsg c = true := by
  have : ("abcdefghijklmnopqrstuvwxyz0123456789" : Str).cps.toList.all wsg = true := by decide +kernel
  exact fun c hc => List.all_eq_true.mp this c hc
theorem alph_at {ρ : Type} {P : ρ → Prop} {i : Int} {f : Nat → R ρ} (k : ∀ c, wsg c = true → Ok (f c) P) : Ok ((idxR ("abcdefghijklmnopqrstuvwxyz0123456789" : Str).cps.toList (i % 36)).bind f) P :=
  .idx (Int.emod_nonneg _ (by decide)) (by rw [alph_len]; exact Int.emod_lt_of_pos _ (by decide)) fun c m _ => k c (alph_wsg c m)
/-- word signs alone -/
def Wsg (x : Str) : Prop := ∀ c, c ∈ x.cps.toList → wsg c = true
theorem Wsg.asc {x : Str} (h : Wsg x) : Asc x := fun c hc => wsg_lt (h c hc)
theorem Wsg.app {a b : Str} (ha : Wsg a) (hb : Wsg b) : Wsg (a ++ b) := fun c hc => by
  rw [tl_app] at hc
  rcases List.mem_append.mp hc with h | h
  · exact ha c h
  · exact hb c h
theorem Wsg.sg {c : Nat} (h : wsg c = true) : Wsg (sg c) := fun d hd => by
  have : d = c := by simpa [Ml.sg] using hd
  rw [this]; exact h
theorem Wsg.lit {x : Str} (h : x.cps.toList.all wsg = true) : Wsg x := fun c hc => List.all_eq_true.mp h c hc
theorem Wsg.join {ys : List Str} (h : ∀ y, y ∈ ys → Wsg y) : Wsg (Txt.join ("" : Str) ys) := fun c hc => by
  rw [join_nil] at hc
  obtain ⟨l, hl, hc⟩ := List.mem_flatten.mp hc
  obtain ⟨y, hy, rfl⟩ := List.mem_map.mp hl
  exact h y hy c hc
theorem num_wd {i : Int} (h0 : 0 ≤ i) (h1 : i < 1000000) : Wsg (Str.ofString (toString i)) ∧ (Str.ofString (toString i)).length ≤ 6 ∧ 1 ≤ (Str.ofString (toString i)).length := by
  obtain ⟨n, rfl⟩ : ∃ n : Nat, i = (n : Int) := ⟨i.toNat, by omega⟩
  have hd := TL.numL_digits n
  refine ⟨fun c hc => ?_, ?_, ?_⟩
  · rw [tl_num] at hc
    have h2 : 48 ≤ c ∧ c ≤ 57 := hd c hc
    unfold wsg
    simp; omega
  · rw [len_tl, tl_num]
    exact TL.numL_len (n := n) (k := 6) (by decide) (by omega)
  · rw [len_tl, tl_num]
    have := TL.numL_ne n
    cases e : TL.numL n with
    | nil => exact absurd e this
    | cons a l => simp

/-! texts as data; words -/
theorem pdA_str (s : Str) : pdA (.str s) = .str s := by rw [pdA]
theorem pdA_int (s : Int) : pdA (.int s) = .int s := by rw [pdA]
theorem plA_str (s : Str) : plA (.str s) = true := by rw [plA] <;> (intro _ h; cases h)
theorem plA_int (s : Int) : plA (.int s) = true := by rw [plA] <;> (intro _ h; cases h)
theorem shaped_str {s : Str} (h : Asc s) : SeqAt.shaped (.str s) = true := by
  have h1 : (PyData.str s).canLay0 = true := h.lay
  unfold SeqAt.shaped
  rw [h1]; rfl
theorem eqA_str {a b : Str} (ha : Asc a) (hb : Asc b) : eqA (.str a) (.str b) = .ok (decide (a = b)) := by
  unfold eqA
  rw [R.need_pos (by rw [plA_str, plA_str, pdA_str, pdA_str]; exact ⟨rfl, rfl, shaped_str ha, shaped_str hb⟩), pdA_str, pdA_str]
  exact congrArg R.ok (str_beq a b)
theorem asc_empty : Asc ("" : Str) := Asc.lit (by decide +kernel)
def isWord (s : Str) : Bool := (decide (1 ≤ s.length) && decide (s.length ≤ 20)) && s.cps.toList.all wsg
theorem isWord_iff {s : Str} : isWord s = true ↔ Wsg s ∧ 1 ≤ s.length ∧ s.length ≤ 20 := by
  unfold isWord
  simp only [Bool.and_eq_true, decide_eq_true_eq, List.all_eq_true]
  exact ⟨fun ⟨⟨a, b⟩, c⟩ => ⟨c, a, b⟩, fun ⟨c, a, b⟩ => ⟨⟨a, b⟩, c⟩⟩

/-! what is drawn -/
theorem nxt {ρ : Type} {P : ρ → Prop} {f : Int × T3 Int Script Int → R ρ} (st : T3 Int Script Int) (k : ∀ x st', 0 ≤ x → Ok (f (x, st')) P) : Ok ((m_law_next st).bind f) P := by
  have h : Ok (m_law_next st) fun r => 0 ≤ r.1 := by
    unfold m_law_next
    refine .bind (Q := fun _ => True) (.ite (fun c => ?_) fun _ => .ret trivial) fun s _ => .lets (.lets (.ret ?_))
    · have c := of_decide_eq_true c
      exact .need c (.idx (Int.emod_nonneg _ (by omega)) (Int.emod_lt_of_pos _ c) fun _ _ _ => .ret trivial)
    · show 0 ≤ _ / 64
      dsimp only
      exact Int.ediv_nonneg (Int.emod_nonneg _ (by decide)) (by decide)
  exact .bind h fun r hr => k r.1 r.2 hr
/-- of these signs alone -/
def Of (S x : Str) : Prop := ∀ c, c ∈ x.cps.toList → c ∈ S.cps.toList
theorem wd {ρ : Type} {P : ρ → Prop} {f : Str × T3 Int Script Int → R ρ} (st : T3 Int Script Int) {S : Str} {n : Int} (h1 : 1 ≤ S.length) (h2 : S.length ≤ 1000) (h3 : 1 ≤ n) (h4 : n ≤ 100)
    (k : ∀ x st', Of S x → 1 ≤ x.length → (x.length : Int) ≤ n → Ok (f (x, st')) P) : Ok ((m_law_word st S n).bind f) P := by
  have h : Ok (m_law_word st S n) fun r => Of S r.1 ∧ 1 ≤ r.1.length ∧ (r.1.length : Int) ≤ n := by
    unfold m_law_word
    refine nxt _ fun x1 s1 hx1 => .need (by omega) (nxt _ fun x2 s2 hx2 => .idx (Int.emod_nonneg _ (by decide)) (Int.emod_lt_of_pos _ (by decide)) fun m hm _ => ?_)
    have em0 := Int.emod_nonneg x1 (show n ≠ 0 by omega)
    have em1 := Int.emod_lt_of_pos x1 (show 0 < n by omega)
    have hm : 1 ≤ m ∧ m ≤ 101 := by
      simp only [List.mem_cons, List.not_mem_nil, or_false] at hm
      rcases hm with rfl | rfl | rfl | rfl
      · omega
      · omega
      · omega
      · omega
    refine .bind (Q := fun m => 1 ≤ m ∧ m ≤ n) (.ite (fun c => .ret ⟨h3, Int.le_refl _⟩) fun c => .ret ⟨hm.1, by simp at c; omega⟩) fun m hm => ?_
    refine .need (by omega) (.need (by rw [rngL_len]; exact le_line (by omega)) ?_)
    obtain ⟨s', ys, e, _, hl, hy⟩ := compR_keep (xs := rngL 0 m.toNat) (s := s2) (f := fun (s9 : T3 Int Script Int) (x10 : Int) =>
      (m_law_next s9).bind fun r13 =>
      R.need ((S).length ≤ sizeLine) <|
      R.need (0 < ((S).length : Int)) <|
      R.need ((S).length ≤ sizeLine) <|
      (idxR (S).cps.toList (r13.1 % ((S).length : Int))).bind fun c17 =>
      R.ok (r13.2, some (sg (c17)))) (fun _ => True) (fun y => ∃ c, c ∈ S.cps.toList ∧ y = sg c) trivial fun s x _ _ => by
        have : Ok ((m_law_next s).bind fun r13 =>
          R.need ((S).length ≤ sizeLine) <|
          R.need (0 < ((S).length : Int)) <|
          R.need ((S).length ≤ sizeLine) <|
          (idxR (S).cps.toList (r13.1 % ((S).length : Int))).bind fun c17 =>
          R.ok (r13.2, some (sg (c17)))) (fun r => ∃ s' c, c ∈ S.cps.toList ∧ r = (s', some (sg c))) := by
          refine nxt _ fun x3 s3 _ => .need (le_line (by omega)) (.need (by omega) (.need (le_line (by omega)) (.idx (Int.emod_nonneg _ (by omega)) (by rw [← len_tl]; exact Int.emod_lt_of_pos _ (by omega)) fun c hc _ => .ret ⟨s3, c, hc, rfl⟩)))
        obtain ⟨r, e, s', c, hc, rfl⟩ := this
        exact ⟨s', sg c, e, trivial, c, hc, rfl⟩
    refine .bindE e ?_
    rw [rngL_len] at hl
    have h1s : (ys.map (·.length)).sum = ys.length := by
      clear hl e
      induction ys with
      | nil => rfl
      | cons x xs ih =>
        obtain ⟨c, _, e⟩ := hy x (by simp)
        rw [List.map_cons, List.sum_cons, ih fun z m => hy z (by simp [m]), e, len_sg, List.length_cons]; omega
    have e0 : ("" : Str).length = 0 := by decide
    dsimp only
    refine .need (by rw [e0, h1s]; omega) (.ret ⟨fun c hc => ?_, ?_, ?_⟩)
    · rw [join_nil] at hc
      obtain ⟨l, hl, hc⟩ := List.mem_flatten.mp hc
      obtain ⟨y, hy2, rfl⟩ := List.mem_map.mp hl
      obtain ⟨d, hd, rfl⟩ := hy y hy2
      have : c = d := by simpa [Ml.sg] using hc
      rw [this]; exact hd
    · rw [len_join_nil, h1s, hl]; omega
    · rw [len_join_nil, h1s, hl]; omega
  exact .bind h fun r hr => k r.1 r.2 hr.1 hr.2.1 hr.2.2
theorem alnum_of {x : Str} (h : Of ("abcdefghijklmnopqrstuvwxyz0123456789" : Str) x) : Wsg x := fun c hc => alph_wsg c (h c hc)
theorem awd {ρ : Type} {P : ρ → Prop} {f : Str × T3 Int Script Int → R ρ} (st : T3 Int Script Int) (k : ∀ x st', isWord x = true → Ok (f (x, st')) P) : Ok ((m_law_any_word st).bind f) P := by
  have h : Ok (m_law_any_word st) fun r => isWord r.1 = true := by
    unfold m_law_any_word
    exact wd st (by decide +kernel) (by decide +kernel) (by decide) (by decide) fun x st' h1 h2 h3 => .ret (isWord_iff.mpr ⟨alnum_of h1, h2, by show x.length ≤ 20; omega⟩)
  exact .bind h fun r hr => k r.1 r.2 hr

/-! keys, rows, registers -/
theorem shuffled_ok {st : T3 Int Script Int} {row : List Int} (hr : row.length ≤ 100) : Ok (m_law_shuffled st row) fun _ => True := by
  unfold m_law_shuffled
  refine .forI (fun pre (s : T3 Int Script Int × List Int) => s.2.length = pre.length) rfl ?_ ?_
  · rintro p x q ⟨s, l⟩ ep hl
    have hp := pre_lt ep
    have hl : l.length = p.length := hl
    refine nxt _ fun y s' hy => .need (by dsimp only; omega) (.need (lt_line (m := 100) (by dsimp only; omega) (by decide)) ?_)
    dsimp only
    have m0 := Int.emod_nonneg y (show ((l.length : Int) + 1) ≠ 0 by omega)
    have m1 := Int.emod_lt_of_pos y (show 0 < ((l.length : Int) + 1) by omega)
    refine .need ⟨m0, by omega⟩ (.ret ?_)
    show (insL l _ x).length = (p ++ [x]).length
    unfold insL
    simp only [List.length_append, List.length_take, List.length_drop, List.length_cons, List.length_nil]
    omega
  · rintro ⟨s, l⟩ _
    exact .ret trivial
structure KG (k : Kt) : Prop where
  ne : k.l ≠ []
  as : ∀ w, w ∈ k.l → Asc w
theorem key_ok {ρ : Type} {P : ρ → Prop} {f : Kt × T3 Int Script Int → R ρ} (st : T3 Int Script Int) {words : List Str} (h0 : 1 ≤ words.length) (hw : ∀ w, w ∈ words → Asc w) (k : ∀ x st', KG x → Ok (f (x, st')) P) : Ok ((m_law_key st words).bind f) P := by
  have h : Ok (m_law_key st words) fun r => KG r.1 := by
    unfold m_law_key
    refine nxt _ fun y s1 hy => ?_
    have m0 := Int.emod_nonneg y (show (3 : Int) ≠ 0 by decide)
    have m1 := Int.emod_lt_of_pos y (show (0 : Int) < 3 by decide)
    refine .need (by dsimp only; omega) (.need (by rw [rngL_len]; exact le_line (by dsimp only; omega)) ?_)
    refine .compS (fun _ => True) (fun w => w ∈ words) trivial (fun s x _ _ => ?_) fun s ys _ hl hy => ?_
    · exact nxt _ fun z s2 hz => .need (by omega) (.idx (Int.emod_nonneg _ (by omega)) (Int.emod_lt_of_pos _ (by omega)) fun w hw2 _ => .ret ⟨trivial, w, rfl, hw2⟩)
    · rw [rngL_len] at hl
      refine .ret ⟨fun e => ?_, fun w h => hw w (hy w h)⟩
      have e : ys = [] := e
      rw [e] at hl
      dsimp only at hl
      simp only [List.length_nil] at hl
      omega
  exact .bind h fun r hr => k r.1 r.2 hr
/-- a value that is the same as itself -/
def VG (v : Any) : Prop := eqA v v = .ok true
theorem vg_int (n : Int) : VG (.int n) := by
  unfold VG eqA
  rw [R.need_pos (by rw [plA_int, pdA_int]; exact ⟨rfl, rfl, rfl, rfl⟩), pdA_int]
  show R.ok (decide (n = n)) = _
  simp
theorem vg_str {s : Str} (h : Asc s) : VG (.str s) := by
  unfold VG
  rw [eqA_str h h]
  simp
theorem vg_non : VG .non := by
  unfold VG eqA
  rfl
theorem vg_bl (b : Bool) : VG (.bl b) := by
  unfold VG eqA
  cases b <;> rfl
theorem vg_tup : VG (.tup [.str ("a" : Str), .int 1]) := by
  unfold VG
  decide +kernel
abbrev Row := List (Kt × ((Int × Str) × Any))
structure RG (n : Nat) (A : Row) : Prop where
  len : A.length ≤ n
  ok : ∀ p, p ∈ A → KG p.1 ∧ VG p.2.2
theorem RG.mono {n m : Nat} {A : Row} (h : RG n A) (l : n ≤ m) : RG m A := ⟨Nat.le_trans h.len l, h.ok⟩
theorem dget_mem {A : Row} {k : Kt} {y : (Int × Str) × Any} (h : dget A k = some y) : ∃ p, p ∈ A ∧ p.2 = y := by
  unfold dget at h
  obtain ⟨p, hp, e⟩ := Option.map_eq_some_iff.mp h
  exact ⟨p, List.mem_of_find?_eq_some hp, e⟩
theorem dput_mem {A : Row} {k : Kt} {y : (Int × Str) × Any} {p : Kt × ((Int × Str) × Any)} (h : p ∈ dput A k y) : p ∈ A ∨ (p.2 = y ∧ (p.1 = k)) := by
  unfold dput at h
  split at h
  · obtain ⟨q, hq, rfl⟩ := List.mem_map.mp h
    by_cases c : q.1 = k
    · rw [if_pos c]; exact .inr ⟨rfl, c⟩
    · rw [if_neg c]; exact .inl hq
  · rcases List.mem_append.mp h with h | h
    · exact .inl h
    · rw [List.mem_singleton.mp h]; exact .inr ⟨rfl, rfl⟩
theorem dput_len {A : Row} {k : Kt} {y : (Int × Str) × Any} : (dput A k y).length ≤ A.length + 1 := by
  unfold dput
  split
  · rw [List.length_map]; omega
  · rw [List.length_append]; simp
theorem RG.put {n : Nat} {A : Row} {k : Kt} {s : Int × Str} {v : Any} (h : RG n A) (hk : KG k) (hv : VG v) : RG (n + 1) (dput A k (s, v)) :=
  ⟨Nat.le_trans dput_len (by have := h.len; omega), fun p hp => by
    rcases dput_mem hp with q | ⟨e1, e2⟩
    · exact h.ok p q
    · rw [e1, e2]; exact ⟨hk, hv⟩⟩
theorem dhas_get {A : Row} {k : Kt} (h : dhas A k = true) : ∃ y, dget A k = some y := by
  unfold dhas at h
  exact Option.isSome_iff_exists.mp h
def getV (A : Row) (k : Kt) (d : Any) : Any := match dget A k with
  | some y => y.2
  | none => d
theorem getR_some {A : Row} {k : Kt} {y : (Int × Str) × Any} (h : dget A k = some y) : dgetR A k = .ok y := by
  unfold dgetR
  rw [h]
theorem get_eq (A : Row) (k : Kt) (d : Any) : m_Registers_get ⟨A⟩ k d = .ok (getV A k d) := by
  unfold m_Registers_get getV
  cases e : dget A k with
  | none =>
    have : dhas A k = false := by unfold dhas; rw [e]; rfl
    show (if (!dhas A k) = true then _ else _) = _
    rw [this]; rfl
  | some y =>
    have : dhas A k = true := by unfold dhas; rw [e]; rfl
    show (if (!dhas A k) = true then _ else (dgetR A k).bind _) = _
    rw [this, getR_some e]; rfl
theorem getV_vg {n : Nat} {A : Row} {k : Kt} {d : Any} (h : RG n A) (hd : VG d) : VG (getV A k d) := by
  unfold getV
  cases e : dget A k with
  | none => exact hd
  | some y =>
    obtain ⟨p, hp, rfl⟩ := dget_mem e
    exact (h.ok p hp).2
theorem getV_none {A : Row} {k : Kt} {d : Any} (h : dhas A k = false) : getV A k d = d := by
  unfold getV
  cases e : dget A k with
  | none => rfl
  | some y =>
    unfold dhas at h
    rw [e] at h
    cases h
theorem getV_some {A : Row} {k : Kt} {d d' : Any} (h : dhas A k = true) : getV A k d = getV A k d' := by
  obtain ⟨y, e⟩ := dhas_get h
  unfold getV
  rw [e]
theorem got_ok {n : Nat} {A : Row} {k : Kt} (st : T3 Int Script Int) (h : RG n A) : Ok (m_law_got st ⟨A⟩ A k) fun r => r.1 = true := by
  unfold m_law_got
  have asN : Asc ("none" : Str) := Asc.lit (by decide +kernel)
  refine .bind (Q := fun s => s = getV A k .non) (.ite (fun c => ?_) fun c => .ret ?_) fun s hs => ?_
  · obtain ⟨y, e⟩ := dhas_get c
    refine .bindE (getR_some e) (.ret ?_)
    unfold getV
    rw [e]
  · exact (getV_none (by simpa using c)).symm
  · subst hs
    refine nxt _ fun x s' hx => ?_
    refine .bind (Q := fun s : Any × Any => s.1 = s.2 ∧ VG s.1) (.ite (fun _ => ?_) fun _ => ?_) fun s hs => ?_
    · exact .bindE (get_eq A k _) (.ret ⟨rfl, getV_vg h vg_non⟩)
    · refine .bindE (get_eq A k _) (.bind (Q := fun s => s = getV A k (.str ("none" : Str))) (.ite (fun c => .ret ?_) fun c => .ret ?_) fun s hs => .ret ⟨hs, by rw [hs]; exact getV_vg h (vg_str asN)⟩)
      · exact (getV_none (by simpa using c)).symm
      · exact getV_some (by simpa using c)
    · obtain ⟨a, b⟩ := s
      obtain ⟨e, hv⟩ := hs
      dsimp only at e hv ⊢
      subst e
      exact .bindE hv (.ret (by simp))
/-! keys of a text -/
def kf (w : Str) (A : Row) : List Kt := (A.map (·.1)).filterMap fun k => if k.l.head? = some w then some k else none
theorem kf_mem {w : Str} {A : Row} {k : Kt} (h : k ∈ kf w A) : ∃ p, p ∈ A ∧ p.1 = k := by
  unfold kf at h
  obtain ⟨q, hq, e⟩ := List.mem_filterMap.mp h
  obtain ⟨p, hp, rfl⟩ := List.mem_map.mp hq
  split at e
  · cases e; exact ⟨p, hp, rfl⟩
  · cases e
theorem kf_len {w : Str} {A : Row} : (kf w A).length ≤ A.length := by
  unfold kf
  exact Nat.le_trans (List.length_filterMap_le _ _) (by rw [List.length_map]; exact Nat.le_refl _)
theorem kf_comp {n : Nat} {A : Row} (h : RG n A) (w : Str) : compR (fun (_ : Unit) (x7 : Kt) => (idxR x7.l (0)).bind fun x12 => if (decide (x12 = w)) = true then (R.ok ((), some (x7))) else R.ok ((), none)) (A.map (·.1)) () = .ok ((), kf w A) := by
  refine compR_filterMap fun k hk => ?_
  obtain ⟨p, hp, rfl⟩ := List.mem_map.mp hk
  have hne := (h.ok p hp).1.ne
  cases e : p.1.l with
  | nil => exact absurd e hne
  | cons y r =>
    have : idxR (y :: r) (0 : Int) = .ok y := by
      unfold idxR atI ixN
      rw [if_pos (by decide), if_pos (by rw [List.length_cons]; omega)]
      rfl
    rw [this, R.bind_ok]
    by_cases c : y = w
    · simp [c, e]
    · simp [c, e]
theorem kf_ne {n : Nat} {A : Row} (h : RG n A) (w : Str) : ((kf w A).all fun k => !k.l.isEmpty) = true := List.all_eq_true.mpr fun k hk => by
  obtain ⟨p, hp, rfl⟩ := kf_mem hk
  have := (h.ok p hp).1.ne
  cases e : p.1.l with
  | nil => exact absurd e this
  | cons y r => rfl
theorem kf_lay {n : Nat} {A : Row} (h : RG n A) (w : Str) : (Lay.lay (sortK (kf w A)) : Bool) = true := by
  show layAllB (sortK (kf w A)) = true
  refine List.all_eq_true.mpr fun k hk => ?_
  obtain ⟨p, hp, rfl⟩ := kf_mem ((List.mergeSort_perm (kf w A) leKt).mem_iff.mp hk)
  exact lay_all (h.ok p hp).1.as
theorem keys_eq {n : Nat} {A : Row} (h : RG n A) (hn : n ≤ 1000) (w : Str) : m_Registers_keys_of ⟨A⟩ w = .ok (sortK (kf w A)) := by
  have hl := h.len
  refine Ok.eq ?_
  unfold m_Registers_keys_of
  refine .need (by rw [List.length_map]; exact le_line (by dsimp only; omega)) (.bindE (kf_comp h w) (.need (kf_ne h w) (.need (le_line (Nat.le_trans kf_len (by omega))) (.ret rfl))))
theorem looked_ok {n : Nat} {A : Row} {words : List Str} (st : T3 Int Script Int) (h : RG n A) (hn : n ≤ 1000) (h0 : 1 ≤ words.length) (hw : ∀ w, w ∈ words → Asc w) : Ok (m_law_looked st ⟨A⟩ A words) fun r => r.1 = true := by
  have hl := h.len
  unfold m_law_looked
  refine .bind (shuffled_ok (by decide)) fun r _ => ?_
  refine .forFK (fun _ => True) trivial (fun x s _ _ => ?_) fun s _ => .ret rfl
  refine .bind2 (Z := fun r => r.2 = false) (.ite (fun _ => ?_) fun _ => .ret rfl) fun s' b hb => ?_
  · exact key_ok s h0 hw fun k s1 hk => .bind (got_ok s1 h) fun r hr => .ret (by simp [hr])
  · have hb : b = false := hb
    subst hb
    refine .ifF (by simp) (nxt _ fun y s2 hy => .need (by omega) (.idx (Int.emod_nonneg _ (by omega)) (Int.emod_lt_of_pos _ (by omega)) fun w _ _ => ?_))
    refine .need (by rw [List.length_map]; exact le_line (by omega)) (.bindE (kf_comp h w) (.need (kf_ne h w) (.need (le_line (Nat.le_trans kf_len (by omega))) (.lets (.bindE (keys_eq h hn w) ?_)))))
    have lay := kf_lay h w
    refine .bind (Q := fun z => z = false) (.ite (fun _ => .need lay (.need lay (.ret (by simp)))) fun _ => .ret rfl) fun z hz => ?_
    subst hz
    have sl : (sortK (kf w A)).length ≤ n := by
      unfold sortK
      rw [List.length_mergeSort]
      exact Nat.le_trans kf_len hl
    refine .ifF (by simp) (.need (lt_line sl (by omega)) (.bind (Q := fun z => z = false) (.ite (fun _ => .bindE (keys_eq h hn w) (.need lay (.need lay (.ret (by simp))))) fun _ => .ret rfl) fun z hz => ?_))
    subst hz
    exact .ifF (by simp) (.ret ⟨_, rfl, trivial⟩)

theorem keep_eq {A : Row} {k : Kt} {s : Int × Str} {v : Any} (hl : A.length < sizeLine) :
    ∃ b, ((if (!dhas A k) = true then R.ok true else (dgetR A k).bind fun y => R.ok (ltS y.1 s)) = .ok b) ∧ m_Registers_keep ⟨A⟩ k s v = .ok (b, if b = true then ⟨dput A k (s, v)⟩ else ⟨A⟩) := by
  unfold m_Registers_keep
  cases c : dhas A k with
  | false =>
    refine ⟨true, rfl, ?_⟩
    show (R.bind (R.ok false) _) = _
    rw [R.bind_ok]
    show R.need (A.length < sizeLine) _ = _
    rw [R.need_pos hl]
    rfl
  | true =>
    obtain ⟨y, e⟩ := dhas_get c
    refine ⟨ltS y.1 s, ?_, ?_⟩
    · rw [getR_some e]; rfl
    · show (R.bind ((dgetR A k).bind _) _) = _
      rw [getR_some e, R.bind_ok]
      show (R.bind (R.ok (!ltS y.1 s)) _) = _
      rw [R.bind_ok]
      cases d : ltS y.1 s with
      | false => rfl
      | true =>
        show R.need (A.length < sizeLine) _ = _
        rw [R.need_pos hl]
        rfl
theorem of_asc {S x : Str} (h : Of S x) (hS : Asc S) : Asc x := fun c hc => hS c (h c hc)
theorem ix0 {β : Type} (a b : β) : ixJ [a, b] 0 = .ok (0, a) := rfl
theorem ix1 {β : Type} (a b : β) : ixJ [a, b] 1 = .ok (1, b) := rfl
theorem b2 {α β ρ : Type} {m : R (α × β)} {a : α} {b : β} {f : α → β → R ρ} {P : ρ → Prop} (h : m = .ok (a, b)) (k : Ok (f a b) P) : Ok (bind2 m f) P := .bindE h k
def lookF (bo : List Registers) (ro : List Row) (k : Kt) (words : List Str) : (T3 Int Script Int) → Int → R (Fl (T3 Int Script Int) Bool) := fun (s112 : (T3 Int Script Int)) (x113 : Int) =>
  (bind2 (ixJ bo (x113)) fun j117 x118 =>
  (bind2 (ixJ ro (x113)) fun j123 x124 =>
  (m_law_got s112 x118 x124 k).bind fun r129 =>
  bind2 (if (!r129.1) = true then R.ok (r129.2, true) else (
  (bind2 (ixJ bo (x113)) fun j132 x133 =>
  (bind2 (ixJ ro (x113)) fun j138 x139 =>
  (m_law_looked r129.2 x133 x139 words).bind fun r144 =>
  R.ok (r144.2, !r144.1))))) fun (s130 : (T3 Int Script Int)) (b131 : Bool) =>
  if b131 = true then (
  R.ok (.out (false))) else (
  R.ok (.go (s130)))))
theorem lookF_ok {bo : List Registers} {ro : List Row} {k : Kt} {words : List Str} {n : Nat} {C : Row} {s : T3 Int Script Int} {x : Int} {j : Nat} (h11 : 1 ≤ words.length) (hw : ∀ w, w ∈ words → Asc w) (hn : n ≤ 1000) (rC : RG n C) (i1 : ixJ bo x = .ok (j, ⟨C⟩)) (i2 : ixJ ro x = .ok (j, C)) :
    Ok (lookF bo ro k words s x) (fun r => ∃ s', r = .go s' ∧ True) := by
  unfold lookF
  refine b2 i1 (b2 i2 (.bind (got_ok s rC) fun r hr => ?_))
  refine .bind2 (Z := fun z => z.2 = false) (.ifF (by rw [hr]; decide) (b2 i1 (b2 i2 (.bind (looked_ok _ rC hn h11 hw) fun r2 hr2 => .ret (by rw [hr2]; rfl))))) fun s' b hb => ?_
  have hb : b = false := hb
  subst hb
  exact .ifF (by simp) (.ret ⟨_, rfl, trivial⟩)
theorem last_ok {A B : Row} {st : T3 Int Script Int} {n : Nat} {k : Kt} {words : List Str} {P : Fl ((T3 Int Script Int) × (List Registers) × (List Row)) Bool → Prop} (h11 : 1 ≤ words.length) (hw : ∀ w, w ∈ words → Asc w) (rA : RG n A) (rB : RG n B) (hn : n ≤ 1000) (xs : List Int) (hxs : ∀ x, x ∈ xs → x = 0 ∨ x = 1)
    (hP : ∀ st, P (.go (st, [⟨A⟩, ⟨B⟩], [A, B]))) :
    Ok ((forF (ρ := Bool) (lookF [⟨A⟩, ⟨B⟩] [A, B] k words) xs st).bind (contF (fun (s112 : (T3 Int Script Int)) => R.ok (.go (s112, [(⟨A⟩ : Registers), ⟨B⟩], [A, B]))) (fun o146 => R.ok (.out o146)))) P := by
  refine .forFK (fun _ => True) trivial (fun x s hx _ => ?_) fun s _ => .ret (hP s)
  rcases hxs x hx with rfl | rfl
  · exact lookF_ok h11 hw hn rA (ix0 _ _) (ix0 _ _)
  · exact lookF_ok h11 hw hn rB (ix1 _ _) (ix1 _ _)
theorem law_ok (s : Script) (_ : s.ns.length ≤ 63) : m_law s = .ok true := by
  unfold m_law
  refine Ok.eq (.bindE (a := ⟨(s.ns.length : Int) + 7, s, 0⟩) rfl (awd _ fun w1 s1 h1 => ?_))
  have g1 := isWord_iff.mp h1
  have ascs : ∀ {x : Str}, x.cps.toList.all (· < 128) = true → Asc x := fun h => Asc.lit h
  refine .need (le_line (by have : ("a" : Str).length = 1 := by decide
                            dsimp only; omega)) (.need (le_line (by have : ("1" : Str).length = 1 := by decide
                                                                    dsimp only; omega)) (.need (le_line (by dsimp only; omega)) (awd _ fun w2 s2 h2 => ?_)))
  have g2 := isWord_iff.mp h2
  refine .name fun words ew => ?_
  have hw : ∀ w, w ∈ words → Asc w := by
    rw [ew]
    have a1 : Asc w1 := g1.1.asc
    intro w hw
    simp only [List.mem_cons, List.not_mem_nil, or_false] at hw
    rcases hw with rfl | rfl | rfl | rfl | rfl | rfl | rfl | rfl | rfl | rfl | rfl
    · exact a1
    · exact a1.app (Asc.lit (by decide +kernel))
    · exact a1.app (Asc.lit (by decide +kernel))
    · exact cutS_asc a1
    · exact g2.1.asc
    · exact Asc.lit (by decide +kernel)
    · exact Asc.lit (by decide +kernel)
    · exact Asc.lit (by decide +kernel)
    · exact Asc.lit (by decide +kernel)
    · exact Asc.lit (by decide +kernel)
    · exact Asc.lit (by decide +kernel)
  have h11 : 1 ≤ words.length := by rw [ew]; simp
  clear ew
  refine .bindE (a := ⟨[]⟩) rfl (.bindE (a := ⟨[]⟩) rfl (.lets (.lets ?_)))
  have cl : (cutL s.ns none (some 60)).length ≤ 60 := by
    rw [cutL_to (by decide), List.length_take]
    omega
  refine .forFI (fun pre (z : (T3 Int Script Int) × (List Registers) × (List Row)) => ∃ A B, z.2.1 = [⟨A⟩, ⟨B⟩] ∧ z.2.2 = [A, B] ∧ RG pre.length A ∧ RG pre.length B)
    ⟨[], [], rfl, rfl, ⟨Nat.le_refl _, fun _ h => by cases h⟩, ⟨Nat.le_refl _, fun _ h => by cases h⟩⟩ ?_ ?_
  · rintro p x q ⟨st, both, rows⟩ ep ⟨A, B, e1, e2, rA, rB⟩
    have e1 : both = [⟨A⟩, ⟨B⟩] := e1
    have e2 : rows = [A, B] := e2
    subst e1; subst e2
    have hp := pre_lt ep
    have lA := rA.len
    have lB := rB.len
    refine nxt _ fun x1 s1 hx1 => .name fun kk ekk => key_ok _ h11 hw fun k s2 hk => nxt _ fun x2 s3 hx2 => nxt _ fun x3 s4 hx3 => ?_
    refine .idx (Int.emod_nonneg _ (by decide)) (Int.emod_lt_of_pos _ (by decide)) fun m hm _ => ?_
    have hm : 0 < m := by
      simp only [List.mem_cons, List.not_mem_nil, or_false] at hm
      rcases hm with rfl | rfl | rfl
      · decide
      · decide
      · decide
    refine .need hm (.name fun clock _ => nxt _ fun x4 s5 hx4 => .idx (Int.emod_nonneg _ (by decide)) (Int.emod_lt_of_pos _ (by decide)) fun hand _ _ => nxt _ fun x5 s6 hx5 => nxt _ fun x6 s7 hx6 => ?_)
    refine .idx (Int.emod_nonneg _ (by decide)) (Int.emod_lt_of_pos _ (by decide)) fun v hv _ => ?_
    have hv : VG v := by
      simp only [List.mem_cons, List.not_mem_nil, or_false] at hv
      rcases hv with rfl | rfl | rfl | rfl | rfl | rfl
      · exact vg_int _
      · exact vg_str (Asc.lit (by decide +kernel))
      · exact vg_non
      · exact vg_bl _
      · exact vg_bl _
      · exact vg_tup
    have hk01 : kk = 0 ∨ kk = 1 := by
      have m0 := Int.emod_nonneg x1 (show (2 : Int) ≠ 0 by decide)
      have m1 := Int.emod_lt_of_pos x1 (show (0 : Int) < 2 by decide)
      omega
    have n61 : (p ++ [x]).length = p.length + 1 := by simp
    have n60 : p.length ≤ 60 := by omega
    rcases hk01 with rfl | rfl
    · obtain ⟨b, eb, ek⟩ := keep_eq (A := A) (k := k) (s := (clock, hand)) (v := v) (Nat.lt_of_le_of_lt lA (by unfold sizeLine; omega))
      refine b2 (ix0 _ _) (.bindE (a := b) ?_ (b2 (ix0 _ _) (.bindE ek ?_)))
      · rw [← eb]
        rfl
      · refine .ifF (by simp) (.bind (Q := fun r => r = [if b = true then dput A k ((clock, hand), v) else A, B]) (.ite (fun c => b2 (ix0 _ _) (.need (Nat.lt_of_le_of_lt lA (by unfold sizeLine; omega)) (.ret ?_))) fun c => .ret ?_) fun r hr => ?_)
        · rw [if_pos c]; rfl
        · rw [if_neg c]
        · subst hr
          have e3 : [(⟨A⟩ : Registers), ⟨B⟩].set 0 (if b = true then ⟨dput A k ((clock, hand), v)⟩ else ⟨A⟩) = [⟨if b = true then dput A k ((clock, hand), v) else A⟩, ⟨B⟩] := by
            cases b <;> rfl
          have rA' : RG (p.length + 1) (if b = true then dput A k ((clock, hand), v) else A) := by
            cases b
            · exact rA.mono (Nat.le_succ _)
            · exact rA.put hk hv
          dsimp only
          rw [e3]
          refine last_ok h11 hw rA' (rB.mono (Nat.le_succ _)) (by omega) _ (fun z hz => ?_) fun st => ⟨_, rfl, _, _, rfl, rfl, by rw [n61]; exact rA', by rw [n61]; exact rB.mono (Nat.le_succ _)⟩
          simp only [List.mem_cons, List.not_mem_nil, or_false] at hz
          omega
    · obtain ⟨b, eb, ek⟩ := keep_eq (A := B) (k := k) (s := (clock, hand)) (v := v) (Nat.lt_of_le_of_lt lB (by unfold sizeLine; omega))
      refine b2 (ix1 _ _) (.bindE (a := b) ?_ (b2 (ix1 _ _) (.bindE ek ?_)))
      · rw [← eb]
        rfl
      · refine .ifF (by simp) (.bind (Q := fun r => r = [A, if b = true then dput B k ((clock, hand), v) else B]) (.ite (fun c => b2 (ix1 _ _) (.need (Nat.lt_of_le_of_lt lB (by unfold sizeLine; omega)) (.ret ?_))) fun c => .ret ?_) fun r hr => ?_)
        · rw [if_pos c]; rfl
        · rw [if_neg c]
        · subst hr
          have e3 : [(⟨A⟩ : Registers), ⟨B⟩].set 1 (if b = true then ⟨dput B k ((clock, hand), v)⟩ else ⟨B⟩) = [⟨A⟩, ⟨if b = true then dput B k ((clock, hand), v) else B⟩] := by
            cases b <;> rfl
          have rB' : RG (p.length + 1) (if b = true then dput B k ((clock, hand), v) else B) := by
            cases b
            · exact rB.mono (Nat.le_succ _)
            · exact rB.put hk hv
          dsimp only
          rw [e3]
          refine last_ok h11 hw (rA.mono (Nat.le_succ _)) rB' (by omega) _ (fun z hz => ?_) fun st => ⟨_, rfl, _, _, rfl, rfl, by rw [n61]; exact rA.mono (Nat.le_succ _), by rw [n61]; exact rB'⟩
          simp only [List.mem_cons, List.not_mem_nil, or_false] at hz
          omega
  · rintro ⟨st, both, rows⟩ _
    exact .ret rfl

end Lw

namespace Lw
open PySem PySem.Spec PyProof.Rows L2 Ml
def RegistersA {G : Gx} (a : Addr) (x : Registers) : Asn G := exA fun (dx : Addr) => exA fun (p_cells : Addr) => star [cell a (.ins (G.cl 0) dx [("cells", .ref p_cells)]), dictT p_cells (x.cells : (List (Kt × ((Int × Str) × Any))))]
theorem open_Registers {G : Gx} {H : Hp} {a : Addr} {x : Registers} {M : List (Asn G)} (h : Sep H (RegistersA a x :: M)) : ∃ (dx : Addr) (p_cells : Addr), Sep H ([cell a (.ins (G.cl 0) dx [("cells", .ref p_cells)]), dictT p_cells (x.cells : (List (Kt × ((Int × Str) × Any))))] ++ M : List (Asn G)) := by
  unfold RegistersA at h
  obtain ⟨dx, h⟩ := Sep.ex h
  obtain ⟨p_cells, h⟩ := Sep.ex h
  exact ⟨dx, p_cells, Sep.star1 h⟩
theorem ins_Registers {G : Gx} {H : Hp} {L : List (Asn G)} {i : Nat} {a : Addr} {x : Registers} (h : Sep H L) (e : L[i]? = some (RegistersA a x)) : ∃ (dx : Addr) (p_cells : Addr), H a = some (.ins (G.cl 0) dx [("cells", .ref p_cells)]) := by
  obtain ⟨fp, dx, p_cells, f1, f2, _, ⟨_, hO⟩, _⟩ := h.at e
  exact ⟨dx, p_cells, hO⟩
theorem pack_Registers {G : Gx} {H : Hp} {a : Addr} {x : Registers} {M : List (Asn G)} {dx : Addr} {p_cells : Addr} (h : Sep H ([cell a (.ins (G.cl 0) dx [("cells", .ref p_cells)]), dictT p_cells (x.cells : (List (Kt × ((Int × Str) × Any))))] ++ M : List (Asn G))) : Sep H (RegistersA a x :: M) := Sep.exI dx (Sep.exI p_cells (Sep.unstar1 h))
def top (i : Nat) : Stmt := PySem.Challenge.pw_mailroom_k45_registers_kept.main.body.getD i (.Pass ⟨0, 0, 0, 0⟩)
abbrev s_Registers___init__ : Stmt := inClass (top 1) 0
abbrev s_Registers_keep : Stmt := inClass (top 1) 1
abbrev s_Registers_get : Stmt := inClass (top 1) 2
abbrev s_Registers_keys_of : Stmt := inClass (top 1) 3
abbrev s_law_begin : Stmt := top 3
abbrev s_law_next : Stmt := top 4
abbrev s_law_word : Stmt := top 5
abbrev s_law_any_word : Stmt := top 6
abbrev s_law_shuffled : Stmt := top 7
abbrev s_law_key : Stmt := top 9
abbrev s_law_got : Stmt := top 10
abbrev s_law_looked : Stmt := top 11
abbrev s_law : Stmt := top 12
structure Txt (G : Gx) (mg : Str → Option Value) where
  a_Registers___init__ : Addr
  fd_Registers___init__ : FuncData
  F_Registers___init__ : Fun G.K "__init__" "Registers.__init__" s_Registers___init__ a_Registers___init__ fd_Registers___init__
  b_Registers___init__ : Binds G.K fd_Registers___init__ ["self"] []
  kp_Registers___init__ : PySem.W.keepIn G.K (.ref a_Registers___init__) = true
  k_Registers : Mk G.K (G.cl 0) a_Registers___init__
  a_Registers_keep : Addr
  fd_Registers_keep : FuncData
  F_Registers_keep : Fun G.K "keep" "Registers.keep" s_Registers_keep a_Registers_keep fd_Registers_keep
  b_Registers_keep : Binds G.K fd_Registers_keep ["self", "key", "stamp", "value"] []
  kp_Registers_keep : PySem.W.keepIn G.K (.ref a_Registers_keep) = true
  m_Registers_keep : Meth G.K (G.cl 0) "keep" a_Registers_keep
  a_Registers_get : Addr
  fd_Registers_get : FuncData
  F_Registers_get : FunD G.K "get" "Registers.get" (defArgs s_Registers_get) (defBody s_Registers_get) (defScope s_Registers_get) [.non] [] a_Registers_get fd_Registers_get
  b_Registers_get : Binds G.K fd_Registers_get ["self", "key", "default"] []
  kp_Registers_get : PySem.W.keepIn G.K (.ref a_Registers_get) = true
  ds_Registers_get_2 : List Value
  bd_Registers_get_2 : Vals (([.non] : List V).drop 0) ds_Registers_get_2 ∧ Binds G.K fd_Registers_get ["self", "key", "default"] ds_Registers_get_2
  m_Registers_get : Meth G.K (G.cl 0) "get" a_Registers_get
  a_Registers_keys_of : Addr
  fd_Registers_keys_of : FuncData
  F_Registers_keys_of : Fun G.K "keys_of" "Registers.keys_of" s_Registers_keys_of a_Registers_keys_of fd_Registers_keys_of
  b_Registers_keys_of : Binds G.K fd_Registers_keys_of ["self", "first"] []
  kp_Registers_keys_of : PySem.W.keepIn G.K (.ref a_Registers_keys_of) = true
  m_Registers_keys_of : Meth G.K (G.cl 0) "keys_of" a_Registers_keys_of
  a_law_begin : Addr
  fd_law_begin : FuncData
  F_law_begin : Fun G.K "_law_begin" "_law_begin" s_law_begin a_law_begin fd_law_begin
  b_law_begin : Binds G.K fd_law_begin ["_law_script"] []
  kp_law_begin : PySem.W.keepIn G.K (.ref a_law_begin) = true
  g_law_begin : mg "_law_begin" = some (.ref a_law_begin)
  a_law_next : Addr
  fd_law_next : FuncData
  F_law_next : Fun G.K "_law_next" "_law_next" s_law_next a_law_next fd_law_next
  b_law_next : Binds G.K fd_law_next ["_law_state"] []
  kp_law_next : PySem.W.keepIn G.K (.ref a_law_next) = true
  g_law_next : mg "_law_next" = some (.ref a_law_next)
  a_law_word : Addr
  fd_law_word : FuncData
  F_law_word : Fun G.K "_law_word" "_law_word" s_law_word a_law_word fd_law_word
  b_law_word : Binds G.K fd_law_word ["_law_state", "_law_signs", "_law_most"] []
  kp_law_word : PySem.W.keepIn G.K (.ref a_law_word) = true
  g_law_word : mg "_law_word" = some (.ref a_law_word)
  a_law_any_word : Addr
  fd_law_any_word : FuncData
  F_law_any_word : Fun G.K "_law_any_word" "_law_any_word" s_law_any_word a_law_any_word fd_law_any_word
  b_law_any_word : Binds G.K fd_law_any_word ["_law_state"] []
  kp_law_any_word : PySem.W.keepIn G.K (.ref a_law_any_word) = true
  g_law_any_word : mg "_law_any_word" = some (.ref a_law_any_word)
  a_law_shuffled : Addr
  fd_law_shuffled : FuncData
  F_law_shuffled : Fun G.K "_law_shuffled" "_law_shuffled" s_law_shuffled a_law_shuffled fd_law_shuffled
  b_law_shuffled : Binds G.K fd_law_shuffled ["_law_state", "_law_row"] []
  kp_law_shuffled : PySem.W.keepIn G.K (.ref a_law_shuffled) = true
  g_law_shuffled : mg "_law_shuffled" = some (.ref a_law_shuffled)
  a_law_key : Addr
  fd_law_key : FuncData
  F_law_key : Fun G.K "_law_key" "_law_key" s_law_key a_law_key fd_law_key
  b_law_key : Binds G.K fd_law_key ["_law_state", "_law_words"] []
  kp_law_key : PySem.W.keepIn G.K (.ref a_law_key) = true
  g_law_key : mg "_law_key" = some (.ref a_law_key)
  a_law_got : Addr
  fd_law_got : FuncData
  F_law_got : Fun G.K "_law_got" "_law_got" s_law_got a_law_got fd_law_got
  b_law_got : Binds G.K fd_law_got ["_law_state", "_law_one", "_law_rows", "_law_key_here"] []
  kp_law_got : PySem.W.keepIn G.K (.ref a_law_got) = true
  g_law_got : mg "_law_got" = some (.ref a_law_got)
  a_law_looked : Addr
  fd_law_looked : FuncData
  F_law_looked : Fun G.K "_law_looked" "_law_looked" s_law_looked a_law_looked fd_law_looked
  b_law_looked : Binds G.K fd_law_looked ["_law_state", "_law_one", "_law_rows", "_law_words"] []
  kp_law_looked : PySem.W.keepIn G.K (.ref a_law_looked) = true
  g_law_looked : mg "_law_looked" = some (.ref a_law_looked)
  a_law : Addr
  fd_law : FuncData
  F_law : Fun G.K "law" "law" s_law a_law fd_law
  b_law : Binds G.K fd_law ["_law_script"] []
  kp_law : PySem.W.keepIn G.K (.ref a_law) = true
  g_law : mg "law" = some (.ref a_law)
  g_Registers : mg "Registers" = some (.ref (G.cl 0))
  cl_Registers : Cls G.K (G.cl 0)
  n_Registers_cells : NoAttr G.K (G.cl 0) "cells"
  fz_Registers : G.fz (G.cl 0) = none
  z_bool : mg "bool" = none
  z_isinstance : mg "isinstance" = none
  z_len : mg "len" = none
  z_list : mg "list" = none
  z_range : mg "range" = none
  z_sorted : mg "sorted" = none
  z_tuple : mg "tuple" = none
section
variable {P : Program} {w : World} {G : Gx} {mg : Str → Option Value} {base : Heap}
def sp_Registers___init__ (G : Gx) : Sp := fun vs H Q E => ∃ (a_v_self d_v_self : Addr) (F : Asn G), vs = [.ref a_v_self] ∧ Sep H ([cell a_v_self (.ins (G.cl 0) d_v_self []), F] : List (Asn G)) ∧ R.wp (m_Registers___init__ ) (fun r => ∀ H', Sep H' ([RegistersA a_v_self r, F] : List (Asn G)) → Q .non H') (fun _ => False)
abbrev N_Registers___init__ : List Str := ["self"]
theorem sc_Registers___init__ : FnScope N_Registers___init__ ["self"] (defScope s_Registers___init__) := ⟨rfl, rfl, rfl, by decide +kernel, rfl, by decide +kernel, by decide +kernel⟩
theorem ok_Registers___init__ (T : Txt G mg) : FnOk P w G.K mg base CX0 1 T.a_Registers___init__ T.fd_Registers___init__ ["self"] (sp_Registers___init__ G) := by
  have nd := sc_Registers___init__.nd
  refine Fun.ok T.F_Registers___init__ sc_Registers___init__ (fun vs H Q E h => ?_) (fun cdv A outer s H vs Q E hr h => ?_)
  · obtain ⟨a_v_self, d_v_self, F, rfl, _⟩ := h; rfl
  · obtain ⟨a_v_self, d_v_self, F, rfl, hS, hm⟩ := h
    refine ⟨_, (pss_one (ps_fld (pv 0) pe_dnewT rfl)), ?_⟩
    unfold m_Registers___init__ at hm
    refine c_sfld ?_
    refine k_dnewT (β := ((Int × Str) × Any)) hS fun p1 H hS => ?_
    refine ev_to (ev_var rfl) ?_
    refine k_sfld (fs' := [("cells", (.ref p1))]) hS (i := 1) rfl T.cl_Registers T.n_Registers_cells rfl (by show 0 < 1000; decide) (by show decide (G.fz (G.cl 0) = some 1) = false; rw [T.fz_Registers]; rfl) rfl fun H hS => ?_
    have hS : Sep H ([dictT p1 (([] : (List (Kt × ((Int × Str) × Any)))) : (List (Kt × ((Int × Str) × Any)))), cell a_v_self (.ins (G.cl 0) d_v_self [("cells", (.ref p1))]), F] : List (Asn G)) := hS
    have hS : Sep H (RegistersA a_v_self (⟨([] : (List (Kt × ((Int × Str) × Any))))⟩ : Registers) :: [F] : List (Asn G)) := pack_Registers (hS.sel [1, 0, 2] (by decide) rfl)
    exact hm _ (hS.sel [0, 1] (by decide) rfl)
def sp_Registers_keep (G : Gx) : Sp := fun vs H Q E => ∃ (a_v_self : Addr) (v_self : Registers) (a_v_key : Addr) (v_key : Kt) (a_v_stamp : Addr) (v_stamp : (Int × Str)) (a_v_value : V) (v_value : Any) (F : Asn G), vs = [.ref a_v_self, (.ref a_v_key), (.ref a_v_stamp), a_v_value] ∧ Im.im G H (.ref a_v_key) v_key ∧ Im.im G H (.ref a_v_stamp) v_stamp ∧ Im.im G H a_v_value v_value ∧ Sep H ([RegistersA a_v_self v_self, F] : List (Asn G)) ∧ R.wp (m_Registers_keep v_self v_key v_stamp v_value) (fun r => ∀ H', Sep H' ([RegistersA a_v_self r.2, F] : List (Asn G)) → Q (.bl (r.1)) H') (fun _ => False)
abbrev N_Registers_keep : List Str := ["self", "key", "stamp", "value"]
theorem sc_Registers_keep : FnScope N_Registers_keep ["self", "key", "stamp", "value"] (defScope s_Registers_keep) := ⟨rfl, rfl, rfl, by decide +kernel, rfl, by decide +kernel, by decide +kernel⟩
theorem ok_Registers_keep (T : Txt G mg) : FnOk P w G.K mg base CX0 1 T.a_Registers_keep T.fd_Registers_keep ["self", "key", "stamp", "value"] (sp_Registers_keep G) := by
  have nd := sc_Registers_keep.nd
  refine Fun.ok T.F_Registers_keep sc_Registers_keep (fun vs H Q E h => ?_) (fun cdv A outer s H vs Q E hr h => ?_)
  · obtain ⟨a_v_self, v_self, a_v_key, v_key, a_v_stamp, v_stamp, a_v_value, v_value, F, rfl, _⟩ := h; rfl
  · obtain ⟨a_v_self, v_self, a_v_key, v_key, a_v_stamp, v_stamp, a_v_value, v_value, F, rfl, him_v_key, him_v_stamp, him_v_value, hS, hm⟩ := h
    have hS := hS.addIm him_v_key
    have hS := hS.addIm him_v_stamp
    have hS := hS.addIm him_v_value
    refine ⟨_, (pss_cons (ps_if (PW.pt (pw_and (pt_cmp (pc_din (hu_of hr) (pv 1) (pe_fld (pv 0) rfl))) (pw_and1 (pt_cmpR (leDtK G.K hr.units) (pv 2) (pe_ix (ix_tupK G.K) (pe_dget (hu_of hr) (pe_fld (pv 0) rfl) (pv 1) (fun _ _ => rfl)) pe_int (fun _ _ => rfl)) (nomark _))))) (pss_one (ps_ret pe_bl)) pss_nil)
      (pss_cons (ps_asg (pe_tup (pa_cons (pv 2) (pa_cons (pv 3) pa_nil))) (pg_sub (pe_fld (pv 0) rfl) (pv 1) (set_dict (hu_of hr))))
      (pss_one (ps_ret pe_bl)))), ?_⟩
    unfold m_Registers_keep at hm
    have hS : Sep H (RegistersA a_v_self v_self :: [imA a_v_value (v_value : Any), imA (.ref a_v_stamp) (v_stamp : (Int × Str)), imA (.ref a_v_key) (v_key : Kt), F] : List (Asn G)) := hS.sel [3, 0, 1, 2, 4] (by decide) rfl
    obtain ⟨dx1, p2, hS⟩ := open_Registers hS
    have hS : Sep H ([cell a_v_self (.ins (G.cl 0) dx1 [("cells", (.ref p2))]), dictT p2 (v_self.cells : (List (Kt × ((Int × Str) × Any)))), imA a_v_value (v_value : Any), imA (.ref a_v_stamp) (v_stamp : (Int × Str)), imA (.ref a_v_key) (v_key : Kt), F] : List (Asn G)) := hS
    refine f_seq ?_
    refine f_if ?_
    refine f_and ?_
    refine et_to (et_B (ev_dinT hS (i := 1) rfl (hS.im (i := 4) rfl) (ev_var rfl) (ev_fld (ev_var rfl) (hS.getCell (i := 0) rfl) T.cl_Registers T.n_Registers_cells rfl))) ?_
    refine andK_J hm hS (fun hb q hm nx => ?_) (fun b3 H hm hS => ?_)
    ·
      obtain ⟨y4, hy4, hm⟩ := wp_dgetG hm
      obtain ⟨v5, g6, hv7⟩ := dget_someT hS (i := 1) rfl (hS.im (i := 4) rfl) hy4
      obtain ⟨a8, rfl⟩ := isref hv7
      obtain ⟨u9, u10, hT13, h11, h12⟩ := im2 hv7
      obtain ⟨a14, rfl⟩ := isref h11
      refine et_to (et_test (ev_leS (ev_var rfl) (ev_ixT (ev_dgetT (ev_fld (ev_var rfl) (hS.getCell (i := 0) rfl) T.cl_Registers T.n_Registers_cells rfl) (ev_var rfl) g6) ev_c hT13 rfl) (hS.im (i := 3) rfl) h11)) ?_
      exact nx _ _ hm (hS.sel [0, 1, 2, 3, 4, 5] (by decide) rfl)
    ·
      obtain ⟨hy, hn⟩ := R.wp_if hm
      refine ifK_2 (fun hb15 => ?_) (fun hb15 => ?_)
      · have hm := hy hb15
        refine c_ret ?_
        refine ev_to ev_c ?_
        have hS : Sep H (RegistersA a_v_self v_self :: [imA a_v_value (v_value : Any), imA (.ref a_v_stamp) (v_stamp : (Int × Str)), imA (.ref a_v_key) (v_key : Kt), F] : List (Asn G)) := pack_Registers (hS.sel [0, 1, 2, 3, 4, 5] (by decide) rfl)
        exact hm _ (hS.sel [0, 4] (by decide) rfl)
      · have hm := hn (by first | (rw [hb15]; decide) | simpa using hb15)
        refine st_nx ?_
        refine sq_nx ?_
        refine f_seq ?_
        refine c_asgS ?_
        refine c_tup ?_
        refine ea_to (ea_cons (ev_var rfl) (ea_cons (ev_var rfl) ea_nil)) ?_
        refine k_tupP (x := ((v_stamp, v_value) : ((Int × Str) × Any))) hS (fun H' p h s => mk2 (hS.im (i := 3) rfl) (hS.im (i := 2) rfl) h s) (by show 2 ≤ sizeLine; decide) fun p16 H hS => ?_
        refine ev_to (ev_fld (ev_var rfl) (hS.getCell (i := 1) rfl) T.cl_Registers T.n_Registers_cells rfl) ?_
        refine ev_to (ev_var rfl) ?_
        obtain ⟨h18, hm⟩ := R.wp_need hm
        refine k_setDT (k := v_key) (y := (v_stamp, v_value)) hS (i := 2) rfl (hS.im (i := 5) rfl) (hS.im (i := 0) rfl) h18 rfl fun H hS => ?_
        have hS : Sep H ([imA (.ref p16) ((v_stamp, v_value) : ((Int × Str) × Any)), cell a_v_self (.ins (G.cl 0) dx1 [("cells", (.ref p2))]), dictT p2 (dput v_self.cells v_key (v_stamp, v_value) : (List (Kt × ((Int × Str) × Any)))), imA a_v_value (v_value : Any), imA (.ref a_v_stamp) (v_stamp : (Int × Str)), imA (.ref a_v_key) (v_key : Kt), F] : List (Asn G)) := hS
        refine sq_nx ?_
        refine c_ret ?_
        refine ev_to ev_c ?_
        have hS : Sep H (RegistersA a_v_self (⟨dput v_self.cells v_key (v_stamp, v_value)⟩ : Registers) :: [imA (.ref p16) ((v_stamp, v_value) : ((Int × Str) × Any)), imA a_v_value (v_value : Any), imA (.ref a_v_stamp) (v_stamp : (Int × Str)), imA (.ref a_v_key) (v_key : Kt), F] : List (Asn G)) := pack_Registers (hS.sel [1, 2, 0, 3, 4, 5, 6] (by decide) rfl)
        exact hm _ (hS.sel [0, 5] (by decide) rfl)
def sp_Registers_get (G : Gx) : Sp := fun vs H Q E => ∃ (a_v_self : Addr) (v_self : Registers) (a_v_key : Addr) (v_key : Kt) (a_v_default : V) (v_default : Any) (F : Asn G), vs = [.ref a_v_self, (.ref a_v_key), a_v_default] ∧ Im.im G H (.ref a_v_key) v_key ∧ Im.im G H a_v_default v_default ∧ Sep H ([RegistersA a_v_self v_self, F] : List (Asn G)) ∧ R.wp (m_Registers_get v_self v_key v_default) (fun r => ∀ (p : V) H', Sep H' ([imA p (r : Any), RegistersA a_v_self v_self, F] : List (Asn G)) → Q p H') (fun _ => False)
abbrev N_Registers_get : List Str := ["self", "key", "default"]
theorem sc_Registers_get : FnScope N_Registers_get ["self", "key", "default"] (defScope s_Registers_get) := ⟨rfl, rfl, rfl, by decide +kernel, rfl, by decide +kernel, by decide +kernel⟩
theorem ok_Registers_get (T : Txt G mg) : FnOk P w G.K mg base CX0 1 T.a_Registers_get T.fd_Registers_get ["self", "key", "default"] (sp_Registers_get G) := by
  have nd := sc_Registers_get.nd
  refine FunD.ok0 T.F_Registers_get sc_Registers_get (fun vs H Q E h => ?_) (fun cdv A outer s H vs Q E hr h => ?_)
  · obtain ⟨a_v_self, v_self, a_v_key, v_key, a_v_default, v_default, F, rfl, _⟩ := h; rfl
  · obtain ⟨a_v_self, v_self, a_v_key, v_key, a_v_default, v_default, F, rfl, him_v_key, him_v_default, hS, hm⟩ := h
    have hS := hS.addIm him_v_key
    have hS := hS.addIm him_v_default
    refine ⟨_, (pss_cons (ps_if (pt_cmp (pc_dnotin (hu_of hr) (pv 1) (pe_fld (pv 0) rfl))) (pss_one (ps_ret (pv 2))) pss_nil)
      (pss_one (ps_ret (pe_ix (ix_tupK G.K) (pe_dget (hu_of hr) (pe_fld (pv 0) rfl) (pv 1) (fun _ _ => rfl)) pe_int (fun _ _ => rfl))))), ?_⟩
    unfold m_Registers_get at hm
    have hS : Sep H (RegistersA a_v_self v_self :: [imA a_v_default (v_default : Any), imA (.ref a_v_key) (v_key : Kt), F] : List (Asn G)) := hS.sel [2, 0, 1, 3] (by decide) rfl
    obtain ⟨dx1, p2, hS⟩ := open_Registers hS
    have hS : Sep H ([cell a_v_self (.ins (G.cl 0) dx1 [("cells", (.ref p2))]), dictT p2 (v_self.cells : (List (Kt × ((Int × Str) × Any)))), imA a_v_default (v_default : Any), imA (.ref a_v_key) (v_key : Kt), F] : List (Asn G)) := hS
    refine f_seq ?_
    refine f_if ?_
    refine et_to (et_B (ev_dniT hS (i := 1) rfl (hS.im (i := 3) rfl) (ev_var rfl) (ev_fld (ev_var rfl) (hS.getCell (i := 0) rfl) T.cl_Registers T.n_Registers_cells rfl))) ?_
    obtain ⟨hy, hn⟩ := R.wp_if hm
    refine ifK_2 (fun hb3 => ?_) (fun hb3 => ?_)
    · have hm := hy hb3
      refine c_ret ?_
      refine ev_to (ev_var rfl) ?_
      have hS : Sep H (RegistersA a_v_self v_self :: [imA a_v_default (v_default : Any), imA (.ref a_v_key) (v_key : Kt), F] : List (Asn G)) := pack_Registers (hS.sel [0, 1, 2, 3, 4] (by decide) rfl)
      exact hm _ _ (hS.sel [1, 0, 3] (by decide) rfl)
    · have hm := hn (by first | (rw [hb3]; decide) | simpa using hb3)
      refine st_nx ?_
      refine sq_nx ?_
      refine c_ret ?_
      obtain ⟨y4, hy4, hm⟩ := wp_dgetG hm
      obtain ⟨v5, g6, hv7⟩ := dget_someT hS (i := 1) rfl (hS.im (i := 3) rfl) hy4
      obtain ⟨a8, rfl⟩ := isref hv7
      obtain ⟨u9, u10, hT13, h11, h12⟩ := im2 hv7
      obtain ⟨a14, rfl⟩ := isref h11
      refine ev_to (ev_ixT (ev_dgetT (ev_fld (ev_var rfl) (hS.getCell (i := 0) rfl) T.cl_Registers T.n_Registers_cells rfl) (ev_var rfl) g6) ev_c hT13 rfl) ?_
      have hS := hS.addIm (v := u10) (x := (y4.2 : Any)) h12
      have hS : Sep H (RegistersA a_v_self v_self :: [imA u10 (y4.2 : Any), imA a_v_default (v_default : Any), imA (.ref a_v_key) (v_key : Kt), F] : List (Asn G)) := pack_Registers (hS.sel [1, 2, 0, 3, 4, 5] (by decide) rfl)
      exact hm _ _ (hS.sel [1, 0, 4] (by decide) rfl)
def sp_Registers_keys_of (G : Gx) : Sp := fun vs H Q E => ∃ (a_v_self : Addr) (v_self : Registers) (v_first : Str) (F : Asn G), vs = [.ref a_v_self, (.str (v_first))] ∧ Sep H ([RegistersA a_v_self v_self, F] : List (Asn G)) ∧ R.wp (m_Registers_keys_of v_self v_first) (fun r => ∀ p H', Sep H' ([lstA p (r : (List Kt)), RegistersA a_v_self v_self, F] : List (Asn G)) → Q (.ref p) H') (fun _ => False)
abbrev N_Registers_keys_of : List Str := ["self", "first", "key"]
theorem sc_Registers_keys_of : FnScope N_Registers_keys_of ["self", "first"] (defScope s_Registers_keys_of) := ⟨rfl, rfl, rfl, by decide +kernel, rfl, by decide +kernel, by decide +kernel⟩
theorem ok_Registers_keys_of (T : Txt G mg) : FnOk P w G.K mg base CX0 1 T.a_Registers_keys_of T.fd_Registers_keys_of ["self", "first"] (sp_Registers_keys_of G) := by
  have nd := sc_Registers_keys_of.nd
  refine Fun.ok T.F_Registers_keys_of sc_Registers_keys_of (fun vs H Q E h => ?_) (fun cdv A outer s H vs Q E hr h => ?_)
  · obtain ⟨a_v_self, v_self, v_first, F, rfl, _⟩ := h; rfl
  · obtain ⟨a_v_self, v_self, v_first, F, rfl, hS, hm⟩ := h
    refine ⟨_, (pss_one (ps_ret (pe_fz (pe_callB (sortDtK G.K hr.units) (by rfl) T.z_sorted (by decide +kernel) (pa_cons (pe_fz (pe_lock (pe_lc (own := [("key", 2)]) (g := gName 2) rfl nd (pi_keys (pe_fld (pv 0) rfl)) (blkOk_by (own := [("key", 2)]) (N := N_Registers_keys_of) (sc := defScope s_Registers_keys_of) (by decide +kernel)) (fun _ _ _ _ _ => pg_name (i := 2) nd rfl (Or.inl rfl)) (fun _ _ _ _ _ => pts_one (pt_cmpR op_eq (pe_ix (ix_tupK G.K) (pv 2) pe_int (fun _ _ => rfl)) (pv 1) (nomark _))) (fun _ _ _ _ _ => (pv 2))))) pa_nil))))), ?_⟩
    unfold m_Registers_keys_of at hm
    have hS : Sep H (RegistersA a_v_self v_self :: [F] : List (Asn G)) := hS.sel [0, 1] (by decide) rfl
    obtain ⟨dx1, p2, hS⟩ := open_Registers hS
    have hS : Sep H ([cell a_v_self (.ins (G.cl 0) dx1 [("cells", (.ref p2))]), dictT p2 (v_self.cells : (List (Kt × ((Int × Str) × Any)))), F] : List (Asn G)) := hS
    refine c_ret ?_
    refine c_fz ?_
    refine c_cb ?_
    refine c_cons ?_
    refine c_fz ?_
    refine k_lockT hS (i := 1) rfl fun od3 ps4 H hS => ?_
    have hS : Sep H ([cell a_v_self (.ins (G.cl 0) dx1 [("cells", (.ref p2))]), lockT p2 od3 ps4 (v_self.cells : (List (Kt × ((Int × Str) × Any)))), F] : List (Asn G)) := hS
    refine c_lc ?_
    refine c_keys ?_
    refine ev_to (ev_fld (ev_var rfl) (hS.getCell (i := 0) rfl) T.cl_Registers T.n_Registers_cells rfl) ?_
    refine k_keysT (hS.lockT (i := 1) rfl).1 ?_
    obtain ⟨h5, hm⟩ := R.wp_need hm
    refine lc_sep (β := Kt) (fun (_ : Unit) => ([cell a_v_self (.ins (G.cl 0) dx1 [("cells", (.ref p2))]), lockT p2 od3 ps4 (v_self.cells : (List (Kt × ((Int × Str) × Any)))), F] : List (Asn G))) (s := ()) (im := (Im.im G)) hS (fun _ _ _ => wk_keysT fun _ _ h => h.lockT (i := 2) rfl) h5 hm (fun p6 _ ys9 x7 v8 H q Nx hS hx hm kS kN => ?_) (fun p6 t H hm hS => ?_)
    ·
      obtain ⟨a10, rfl⟩ := isref hx
      have hS := hS.addIm (v := (.ref a10)) (x := (x7 : Kt)) hx
      refine c_gLc (σ' := [some (.ref a_v_self), some (.str (v_first)), some (.ref a10)]) rfl rfl ?_
      obtain ⟨x12, hx12, hm⟩ := wp_idx hm
      refine et_to (et_test (ev_eqS (ev_ixT (ev_var rfl) ev_c (kt_at (hS.im (i := 0) rfl)) (atI_map hx12)) (ev_var rfl))) ?_
      obtain ⟨hy, hn⟩ := R.wp_if hm
      refine lc_if (fun hb13 => ?_) (fun hb13 => ?_)
      · have hm := hy hb13
        refine ev_to (ev_var rfl) ?_
        exact kS () _ _ _ hm (hS.im (i := 0) rfl) (hS.sel [1, 2, 3, 4] (by decide) rfl)
      · have hm := hn (by first | (rw [hb13]; decide) | simpa using hb13)
        exact kN () _ hm (hS.sel [1, 2, 3, 4] (by decide) rfl)
    · revert hm hS; generalize t = t14; intro hm hS
      refine k_unlT hS (i := 2) rfl fun H hS => ?_
      have hS : Sep H ([lstA p6 (t14.2 : (List Kt)), cell a_v_self (.ins (G.cl 0) dx1 [("cells", (.ref p2))]), dictT p2 (v_self.cells : (List (Kt × ((Int × Str) × Any)))), F] : List (Asn G)) := hS
      refine fz_no ?_
      refine c_nil ?_
      obtain ⟨h16, hm⟩ := R.wp_need hm
      obtain ⟨h17, hm⟩ := R.wp_need hm
      refine k_sortKt hS (hS.sq (i := 0) rfl) h16 h17 fun p15 H hS => ?_
      refine fz_no ?_
      have hS : Sep H (RegistersA a_v_self v_self :: [lstA p15 (sortK t14.2 : (List Kt)), lstA p6 (t14.2 : (List Kt)), F] : List (Asn G)) := pack_Registers (hS.sel [2, 3, 0, 1, 4] (by decide) rfl)
      exact hm _ _ (hS.sel [1, 0, 3] (by decide) rfl)
def sp_law_begin (G : Gx) : Sp := fun vs H Q E => ∃ (a_v_law_script : V) (v_law_script : Script) (F : Asn G), vs = [a_v_law_script] ∧ Im.im G H a_v_law_script v_law_script ∧ Sep H ([F] : List (Asn G)) ∧ R.wp (m_law_begin v_law_script) (fun r => ∀ p H', Sep H' ([stA p (r : T3 Int Script Int), F] : List (Asn G)) → Q (.ref p) H') (fun _ => False)
abbrev N_law_begin : List Str := ["_law_script"]
theorem sc_law_begin : FnScope N_law_begin ["_law_script"] (defScope s_law_begin) := ⟨rfl, rfl, rfl, by decide +kernel, rfl, by decide +kernel, by decide +kernel⟩
theorem ok_law_begin (T : Txt G mg) : FnOk P w G.K mg base CX0 1 T.a_law_begin T.fd_law_begin ["_law_script"] (sp_law_begin G) := by
  have nd := sc_law_begin.nd
  refine Fun.ok T.F_law_begin sc_law_begin (fun vs H Q E h => ?_) (fun cdv A outer s H vs Q E hr h => ?_)
  · obtain ⟨a_v_law_script, v_law_script, F, rfl, _⟩ := h; rfl
  · obtain ⟨a_v_law_script, v_law_script, F, rfl, him_v_law_script, hS, hm⟩ := h
    obtain ⟨ad_v_law_script, rfl, _⟩ := im_script him_v_law_script
    have hS := hS.addIm him_v_law_script
    refine ⟨_, (pss_one (ps_ret (pe_fz (pe_lst (pa_cons (pe_op op_add (pe_callB (lenSqK G.K) (by rfl) T.z_len PySem.boot_len (pa_cons (pv 0) pa_nil)) pe_int) (pa_cons (pv 0) (pa_cons pe_int pa_nil))))))), ?_⟩
    unfold m_law_begin at hm
    refine c_ret ?_
    refine c_fz ?_
    refine c_lst ?_
    refine ea_to (ea_cons (ev_add (ev_lenLm (ev_var rfl) (sq_script (hS.im (i := 0) rfl))) ev_c) (ea_cons (ev_var rfl) (ea_cons ev_c ea_nil))) ?_
    refine k_lst (α := StV) (vs := [(.int ((v_law_script.ns.length : Int) + 7)), (.ref ad_v_law_script), (.int (0))]) (xs := stL (⟨(v_law_script.ns.length : Int) + 7, v_law_script, 0⟩ : T3 Int Script Int)) hS ⟨rfl, st_im (hS.im (i := 0) rfl), rfl, True.intro⟩ (by show 3 ≤ sizeLine; decide) fun p1 H hS => ?_
    have hS : Sep H ([stA p1 ((⟨(v_law_script.ns.length : Int) + 7, v_law_script, 0⟩ : T3 Int Script Int) : T3 Int Script Int), imA (.ref ad_v_law_script) v_law_script, F] : List (Asn G)) := hS
    refine fz_no ?_
    exact hm _ _ (hS.sel [0, 2] (by decide) rfl)
def sp_law_next (G : Gx) : Sp := fun vs H Q E => ∃ (a_v_law_state : Addr) (v_law_state : (T3 Int Script Int)) (F : Asn G), vs = [.ref a_v_law_state] ∧ Sep H ([stA a_v_law_state (v_law_state : T3 Int Script Int), F] : List (Asn G)) ∧ R.wp (m_law_next v_law_state) (fun r => ∀ H', Sep H' ([stA a_v_law_state (r.2 : T3 Int Script Int), F] : List (Asn G)) → Q (.int (r.1)) H') (fun _ => False)
abbrev N_law_next : List Str := ["_law_state", "_law_cell"]
theorem sc_law_next : FnScope N_law_next ["_law_state"] (defScope s_law_next) := ⟨rfl, rfl, rfl, by decide +kernel, rfl, by decide +kernel, by decide +kernel⟩
theorem ok_law_next (T : Txt G mg) : FnOk P w G.K mg base CX0 1 T.a_law_next T.fd_law_next ["_law_state"] (sp_law_next G) := by
  have nd := sc_law_next.nd
  refine Fun.ok T.F_law_next sc_law_next (fun vs H Q E h => ?_) (fun cdv A outer s H vs Q E hr h => ?_)
  · obtain ⟨a_v_law_state, v_law_state, F, rfl, _⟩ := h; rfl
  · obtain ⟨a_v_law_state, v_law_state, F, rfl, hS, hm⟩ := h
    refine ⟨_, (pss_cons (ps_set (i := 1) nd rfl (Or.inl rfl) pe_int)
      (pss_cons (ps_if (pt_cmpR op_gt (pe_callB (lenSqK G.K) (by rfl) T.z_len PySem.boot_len (pa_cons (pe_ix (ix_listK G.K) (pv 0) pe_int (fun _ _ => rfl)) pa_nil)) pe_int (nomark _)) (pss_one (ps_set (i := 1) nd rfl (Or.inl rfl) (pe_ix (ix_listK G.K) (pe_ix (ix_listK G.K) (pv 0) pe_int (fun _ _ => rfl)) (pe_op op_mod (pe_ix (ix_listK G.K) (pv 0) pe_int (fun _ _ => rfl)) (pe_callB (lenSqK G.K) (by rfl) T.z_len PySem.boot_len (pa_cons (pe_ix (ix_listK G.K) (pv 0) pe_int (fun _ _ => rfl)) pa_nil))) (fun _ _ => rfl)))) pss_nil)
      (pss_cons (ps_asg (pe_op op_add (pe_ix (ix_listK G.K) (pv 0) pe_int (fun _ _ => rfl)) pe_int) (pg_sub (pv 0) pe_int set_list))
      (pss_cons (ps_asg (pe_op op_mod (pe_op op_add (pe_op op_add (pe_op op_mul (pe_ix (ix_listK G.K) (pv 0) pe_int (fun _ _ => rfl)) pe_int) (pv 1)) (pe_ix (ix_listK G.K) (pv 0) pe_int (fun _ _ => rfl))) pe_int) (pg_sub (pv 0) pe_int set_list))
      (pss_one (ps_ret (pe_op op_fdiv (pe_ix (ix_listK G.K) (pv 0) pe_int (fun _ _ => rfl)) pe_int))))))), ?_⟩
    unfold m_law_next at hm
    refine f_seq ?_
    refine c_asg ?_
    refine ev_to ev_c ?_
    refine c_set (σ' := [some (.ref a_v_law_state), some (.int (0))]) rfl ?_
    refine sq_nx ?_
    refine f_seq ?_
    refine f_if ?_
    obtain ⟨ad1, hq2, hi3⟩ := st_get hS (i := 0) rfl
    refine et_to (et_test (ev_i0 (ev_lenLm (ev_ixSq (ev_var rfl) ev_c hq2 rfl) (sq_script hi3)) ev_c)) ?_
    refine ifK_J (τ := Int) (fun (s4 : Int) (σ : L2.St) (H : Hp) => σ = [some (.ref a_v_law_state), some (.int (s4))] ∧ Sep H ([stA a_v_law_state (v_law_state : T3 Int Script Int), F] : List (Asn G))) hm (fun hb q hm nx => ?_) (fun hb q hm nx => ?_) (fun s4 σ H hm hI => ?_)
    ·
      refine c_asg ?_
      obtain ⟨ad5, hq6, hi7⟩ := st_get hS (i := 0) rfl
      obtain ⟨ad8, hq9, hi10⟩ := st_get hS (i := 0) rfl
      obtain ⟨ad11, hq12, hi13⟩ := st_get hS (i := 0) rfl
      obtain ⟨h14, hm⟩ := R.wp_need hm
      obtain ⟨x15, hx15, hm⟩ := wp_idx hm
      refine ev_to (ev_ixSq (ev_ixSq (ev_var rfl) ev_c hq6 rfl) (ev_mod (ev_ixSq (ev_var rfl) ev_c hq9 rfl) (ev_lenLm (ev_ixSq (ev_var rfl) ev_c hq12 rfl) (sq_script hi13)) h14) (sq_script hi7) (atI_map hx15)) ?_
      refine c_set (σ' := [some (.ref a_v_law_state), some (.int (x15))]) rfl ?_
      exact nx _ _ _ hm ⟨rfl, hS.sel [0, 1] (by decide) rfl⟩
    ·
      refine st_nx ?_
      exact nx _ _ _ hm ⟨rfl, hS.sel [0, 1] (by decide) rfl⟩
    · obtain ⟨rfl, hS⟩ := hI
      refine sq_nx ?_
      refine f_seq ?_
      refine c_asgS ?_
      obtain ⟨ad16, hq17, hi18⟩ := st_get hS (i := 0) rfl
      refine ev_to (ev_add (ev_ixSq (ev_var rfl) ev_c hq17 rfl) ev_c) ?_
      refine ev_to (ev_var rfl) ?_
      refine ev_to ev_c ?_
      refine k_setL (x := StV.i (v_law_state.c + 1)) hS (n := 0) rfl rfl 2 rfl rfl fun H hS => ?_
      have hS : Sep H ([stA a_v_law_state (⟨v_law_state.a, v_law_state.b, v_law_state.c + 1⟩ : T3 Int Script Int), F] : List (Asn G)) := hS
      obtain ⟨y19, hy19, hm⟩ := wp_let hm
      have hS : Sep H ([stA a_v_law_state (y19 : T3 Int Script Int), F] : List (Asn G)) := by rw [← hy19]; exact hS
      refine sq_nx ?_
      refine f_seq ?_
      refine c_asgS ?_
      obtain ⟨ad20, hq21, hi22⟩ := st_get hS (i := 0) rfl
      obtain ⟨ad23, hq24, hi25⟩ := st_get hS (i := 0) rfl
      refine ev_to (ev_mod (ev_add (ev_add (ev_mul (ev_ixSq (ev_var rfl) ev_c hq21 rfl) ev_c (.inr (by constructor <;> decide))) (ev_var rfl)) (ev_ixSq (ev_var rfl) ev_c hq24 rfl)) ev_c (by decide)) ?_
      refine ev_to (ev_var rfl) ?_
      refine ev_to ev_c ?_
      refine k_setL (x := StV.i ((((y19.a * 48271) + s4) + y19.c) % 2147483647)) hS (n := 0) rfl rfl 0 rfl rfl fun H hS => ?_
      have hS : Sep H ([stA a_v_law_state (⟨(((y19.a * 48271) + s4) + y19.c) % 2147483647, y19.b, y19.c⟩ : T3 Int Script Int), F] : List (Asn G)) := hS
      obtain ⟨y26, hy26, hm⟩ := wp_let hm
      have hS : Sep H ([stA a_v_law_state (y26 : T3 Int Script Int), F] : List (Asn G)) := by rw [← hy26]; exact hS
      refine sq_nx ?_
      refine c_ret ?_
      obtain ⟨ad27, hq28, hi29⟩ := st_get hS (i := 0) rfl
      refine ev_to (ev_fdiv (ev_ixSq (ev_var rfl) ev_c hq28 rfl) ev_c ⟨by decide, by decide⟩) ?_
      exact hm _ (hS.sel [0, 1] (by decide) rfl)
def sp_law_word (G : Gx) : Sp := fun vs H Q E => ∃ (a_v_law_state : Addr) (v_law_state : (T3 Int Script Int)) (v_law_signs : Str) (v_law_most : Int) (F : Asn G), vs = [.ref a_v_law_state, (.str (v_law_signs)), (.int (v_law_most))] ∧ Sep H ([stA a_v_law_state (v_law_state : T3 Int Script Int), F] : List (Asn G)) ∧ R.wp (m_law_word v_law_state v_law_signs v_law_most) (fun r => ∀ H', Sep H' ([stA a_v_law_state (r.2 : T3 Int Script Int), F] : List (Asn G)) → Q (.str (r.1)) H') (fun _ => False)
abbrev N_law_word : List Str := ["_law_state", "_law_signs", "_law_most", "_law_size", "_law_k"]
theorem sc_law_word : FnScope N_law_word ["_law_state", "_law_signs", "_law_most"] (defScope s_law_word) := ⟨rfl, rfl, rfl, by decide +kernel, rfl, by decide +kernel, by decide +kernel⟩
theorem ok_law_word (T : Txt G mg) : FnOk P w G.K mg base CX0 2 T.a_law_word T.fd_law_word ["_law_state", "_law_signs", "_law_most"] (sp_law_word G) := by
  have nd := sc_law_word.nd
  refine Fun.ok T.F_law_word sc_law_word (fun vs H Q E h => ?_) (fun cdv A outer s H vs Q E hr h => ?_)
  · obtain ⟨a_v_law_state, v_law_state, v_law_signs, v_law_most, F, rfl, _⟩ := h; rfl
  · obtain ⟨a_v_law_state, v_law_state, v_law_signs, v_law_most, F, rfl, hS, hm⟩ := h
    refine ⟨_, (pss_cons (ps_set (i := 3) nd rfl (Or.inl rfl) (pe_ix (ix_listK G.K) (pe_fz (pe_lst (pa_cons pe_int (pa_cons pe_int (pa_cons (pv 2) (pa_cons (pe_op op_add pe_int (pe_op op_mod (pe_call (ok_law_next T) (hr.mono (by decide)) rfl T.g_law_next T.kp_law_next T.b_law_next .nil pass0 (pa_cons (pv 0) pa_nil)) (pv 2))) pa_nil)))))) (pe_op op_mod (pe_call (ok_law_next T) (hr.mono (by decide)) rfl T.g_law_next T.kp_law_next T.b_law_next .nil pass0 (pa_cons (pv 0) pa_nil)) pe_int) (fun _ _ => rfl)))
      (pss_cons (ps_if (pt_cmpR op_gt (pv 3) (pv 2) (nomark _)) (pss_one (ps_set (i := 3) nd rfl (Or.inl rfl) (pv 2))) pss_nil)
      (pss_one (ps_ret (pe_m1 PySem.F.slot_str_join PySem.F.type_str_join (joinK G.K) pe_str (pe_fz (pe_lc (own := [("_law_k", 4)]) (g := gName 4) rfl nd (pi_range1 rfl T.z_range (pa_cons (pv 3) pa_nil)) (blkOk_by (own := [("_law_k", 4)]) (N := N_law_word) (sc := defScope s_law_word) (by decide +kernel)) (fun _ _ _ _ _ => pg_name (i := 4) nd rfl (Or.inl rfl)) (fun _ _ _ _ _ => pts_nil) (fun _ _ _ _ _ => (pe_ix ix_str (pv 1) (pe_op op_mod (pe_call (ok_law_next T) (hr.mono (by decide)) rfl T.g_law_next T.kp_law_next T.b_law_next .nil pass0 (pa_cons (pv 0) pa_nil)) (pe_callB call_lenS (by rfl) T.z_len PySem.boot_len (pa_cons (pv 1) pa_nil))) (fun _ _ => rfl)))))))))), ?_⟩
    unfold m_law_word at hm
    refine f_seq ?_
    refine c_asg ?_
    refine c_op ?_
    refine c_fz ?_
    refine c_lst ?_
    refine c_cons ?_
    refine ev_to ev_c ?_
    refine c_cons ?_
    refine ev_to ev_c ?_
    refine c_cons ?_
    refine ev_to (ev_var rfl) ?_
    refine c_cons ?_
    refine c_op ?_
    refine ev_to ev_c ?_
    refine c_op ?_
    refine c_call ?_
    refine ea_to (ea_cons (ev_var rfl) ea_nil) ?_
    refine ⟨a_v_law_state, (v_law_state : (T3 Int Script Int)), star [F], rfl, Sep.unstar (M := [stA a_v_law_state (v_law_state : T3 Int Script Int)]) (hS.sel [0, 1] (by decide) rfl : Sep H (([stA a_v_law_state (v_law_state : T3 Int Script Int)] ++ [F] : List (Asn G)))), R.wp_mono (R.wp_bind hm) (fun r1 hm H hS => ?_) (fun _ z => z)⟩
    have hS : Sep H ([stA a_v_law_state (r1.2 : T3 Int Script Int), F] : List (Asn G)) := Sep.star (M := [stA a_v_law_state (r1.2 : T3 Int Script Int)]) hS
    refine ev_to (ev_var rfl) ?_
    obtain ⟨h2, hm⟩ := R.wp_need hm
    refine r_mod h2 ?_
    refine r_I0 _ ?_
    refine c_nil ?_
    refine k_lst (α := Int) (vs := [(.int (1)), (.int (2)), (.int (v_law_most)), (.int (1 + (r1.1 % v_law_most)))]) (xs := [1, 2, v_law_most, 1 + (r1.1 % v_law_most)]) hS ⟨rfl, ⟨rfl, ⟨rfl, ⟨rfl, True.intro⟩⟩⟩⟩ (by show 4 ≤ sizeLine; decide) fun p3 H hS => ?_
    refine fz_no ?_
    refine c_op ?_
    refine c_call ?_
    refine ea_to (ea_cons (ev_var rfl) ea_nil) ?_
    refine ⟨a_v_law_state, (r1.2 : (T3 Int Script Int)), star [lstA p3 ([1, 2, v_law_most, 1 + (r1.1 % v_law_most)] : (List Int)), F], rfl, Sep.unstar (M := [stA a_v_law_state (r1.2 : T3 Int Script Int)]) (hS.sel [1, 0, 2] (by decide) rfl : Sep H (([stA a_v_law_state (r1.2 : T3 Int Script Int)] ++ [lstA p3 ([1, 2, v_law_most, 1 + (r1.1 % v_law_most)] : (List Int)), F] : List (Asn G)))), R.wp_mono (R.wp_bind hm) (fun r4 hm H hS => ?_) (fun _ z => z)⟩
    have hS : Sep H ([stA a_v_law_state (r4.2 : T3 Int Script Int), lstA p3 ([1, 2, v_law_most, 1 + (r1.1 % v_law_most)] : (List Int)), F] : List (Asn G)) := Sep.star (M := [stA a_v_law_state (r4.2 : T3 Int Script Int)]) hS
    refine ev_to ev_c ?_
    refine r_mod (by decide) ?_
    obtain ⟨x5, hx5, hm⟩ := wp_idx hm
    refine r_ixSq (hS.sqF (i := 1) rfl) (atI_map hx5) _ ?_
    refine c_set (σ' := [some (.ref a_v_law_state), some (.str (v_law_signs)), some (.int (v_law_most)), some (.int (x5)), none]) rfl ?_
    refine sq_nx ?_
    refine f_seq ?_
    refine f_if ?_
    refine et_to (et_test (ev_i0 (ev_var rfl) (ev_var rfl))) ?_
    refine ifK_J (τ := Int) (fun (s6 : Int) (σ : L2.St) (H : Hp) => σ = [some (.ref a_v_law_state), some (.str (v_law_signs)), some (.int (v_law_most)), some (.int (s6)), none] ∧ Sep H ([stA a_v_law_state (r4.2 : T3 Int Script Int), lstA p3 ([1, 2, v_law_most, 1 + (r1.1 % v_law_most)] : (List Int)), F] : List (Asn G))) hm (fun hb q hm nx => ?_) (fun hb q hm nx => ?_) (fun s6 σ H hm hI => ?_)
    ·
      refine c_asg ?_
      refine ev_to (ev_var rfl) ?_
      refine c_set (σ' := [some (.ref a_v_law_state), some (.str (v_law_signs)), some (.int (v_law_most)), some (.int (v_law_most)), none]) rfl ?_
      exact nx _ _ _ hm ⟨rfl, hS.sel [0, 1, 2] (by decide) rfl⟩
    ·
      refine st_nx ?_
      exact nx _ _ _ hm ⟨rfl, hS.sel [0, 1, 2] (by decide) rfl⟩
    · obtain ⟨rfl, hS⟩ := hI
      refine sq_nx ?_
      refine c_ret ?_
      refine c_m1 ev_c ?_
      refine c_fz ?_
      refine c_lc ?_
      refine c_rng1 ?_
      refine ea_to (ea_cons (ev_var rfl) ea_nil) ?_
      obtain ⟨h7, hm⟩ := R.wp_need hm
      refine k_rng1 h7.1 h7.2 ?_
      obtain ⟨h8, hm⟩ := R.wp_need hm
      refine lc_sep (β := Str) (fun (s13 : (T3 Int Script Int)) => ([stA a_v_law_state (s13 : T3 Int Script Int), lstA p3 ([1, 2, v_law_most, 1 + (r1.1 % v_law_most)] : (List Int)), F] : List (Asn G))) (s := r4.2) (im := (fun _ v (x : Int) => v = .int x)) hS (fun _ _ _ => wk_range) h8 hm (fun p9 s13 ys12 x10 v11 H q Nx hS hx hm kS kN => ?_) (fun p9 t H hm hS => ?_)
      ·
        cases hx
        refine c_gLc (σ' := [some (.ref a_v_law_state), some (.str (v_law_signs)), some (.int (v_law_most)), some (.int (s6)), some (.int (x10))]) rfl rfl ?_
        refine c_yes ?_
        refine c_op ?_
        refine ev_to (ev_var rfl) ?_
        refine c_op ?_
        refine c_call ?_
        refine ea_to (ea_cons (ev_var rfl) ea_nil) ?_
        refine ⟨a_v_law_state, (s13 : (T3 Int Script Int)), star [lstA p9 (ys12 : List Str), lstA p3 ([1, 2, v_law_most, 1 + (r1.1 % v_law_most)] : (List Int)), F], rfl, Sep.unstar (M := [stA a_v_law_state (s13 : T3 Int Script Int)]) (hS.sel [1, 0, 2, 3] (by decide) rfl : Sep H (([stA a_v_law_state (s13 : T3 Int Script Int)] ++ [lstA p9 (ys12 : List Str), lstA p3 ([1, 2, v_law_most, 1 + (r1.1 % v_law_most)] : (List Int)), F] : List (Asn G)))), R.wp_mono (R.wp_bind hm) (fun r14 hm H hS => ?_) (fun _ z => z)⟩
        have hS : Sep H ([stA a_v_law_state (r14.2 : T3 Int Script Int), lstA p9 (ys12 : List Str), lstA p3 ([1, 2, v_law_most, 1 + (r1.1 % v_law_most)] : (List Int)), F] : List (Asn G)) := Sep.star (M := [stA a_v_law_state (r14.2 : T3 Int Script Int)]) hS
        obtain ⟨h15, hm⟩ := R.wp_need hm
        refine ev_to (ev_lenS (ev_var rfl) h15) ?_
        obtain ⟨h16, hm⟩ := R.wp_need hm
        refine r_mod h16 ?_
        obtain ⟨h17, hm⟩ := R.wp_need hm
        obtain ⟨c18, hc18, hm⟩ := wp_idx hm
        refine ev_op2 (ev_ixS ev_c ev_c h17 hc18) ?_
        exact kS r14.2 _ _ _ hm rfl (hS.sel [1, 0, 2, 3] (by decide) rfl)
      · revert hm hS; generalize t = t19; intro hm hS
        refine fz_no ?_
        obtain ⟨h20, hm⟩ := R.wp_need hm
        refine ⟨_, _, _, rfl, rfl, .inl (hS.sqF (i := 0) rfl), h20, ?_⟩
        exact hm _ (hS.sel [1, 3] (by decide) rfl)
def sp_law_any_word (G : Gx) : Sp := fun vs H Q E => ∃ (a_v_law_state : Addr) (v_law_state : (T3 Int Script Int)) (F : Asn G), vs = [.ref a_v_law_state] ∧ Sep H ([stA a_v_law_state (v_law_state : T3 Int Script Int), F] : List (Asn G)) ∧ R.wp (m_law_any_word v_law_state) (fun r => ∀ H', Sep H' ([stA a_v_law_state (r.2 : T3 Int Script Int), F] : List (Asn G)) → Q (.str (r.1)) H') (fun _ => False)
abbrev N_law_any_word : List Str := ["_law_state"]
theorem sc_law_any_word : FnScope N_law_any_word ["_law_state"] (defScope s_law_any_word) := ⟨rfl, rfl, rfl, by decide +kernel, rfl, by decide +kernel, by decide +kernel⟩
theorem ok_law_any_word (T : Txt G mg) : FnOk P w G.K mg base CX0 3 T.a_law_any_word T.fd_law_any_word ["_law_state"] (sp_law_any_word G) := by
  have nd := sc_law_any_word.nd
  refine Fun.ok T.F_law_any_word sc_law_any_word (fun vs H Q E h => ?_) (fun cdv A outer s H vs Q E hr h => ?_)
  · obtain ⟨a_v_law_state, v_law_state, F, rfl, _⟩ := h; rfl
  · obtain ⟨a_v_law_state, v_law_state, F, rfl, hS, hm⟩ := h
    refine ⟨_, (pss_one (ps_ret (pe_call (ok_law_word T) (hr.mono (by decide)) rfl T.g_law_word T.kp_law_word T.b_law_word .nil pass0 (pa_cons (pv 0) (pa_cons pe_str (pa_cons pe_int pa_nil)))))), ?_⟩
    unfold m_law_any_word at hm
    refine c_ret ?_
    refine c_call ?_
    refine ea_to (ea_cons (ev_var rfl) (ea_cons ev_c (ea_cons ev_c ea_nil))) ?_
    refine ⟨a_v_law_state, (v_law_state : (T3 Int Script Int)), ("abcdefghijklmnopqrstuvwxyz0123456789" : Str), 20, star [F], rfl, Sep.unstar (M := [stA a_v_law_state (v_law_state : T3 Int Script Int)]) (hS.sel [0, 1] (by decide) rfl : Sep H (([stA a_v_law_state (v_law_state : T3 Int Script Int)] ++ [F] : List (Asn G)))), R.wp_mono (R.wp_bind hm) (fun r1 hm H hS => ?_) (fun _ z => z)⟩
    have hS : Sep H ([stA a_v_law_state (r1.2 : T3 Int Script Int), F] : List (Asn G)) := Sep.star (M := [stA a_v_law_state (r1.2 : T3 Int Script Int)]) hS
    exact hm _ (hS.sel [0, 1] (by decide) rfl)
def sp_law_shuffled (G : Gx) : Sp := fun vs H Q E => ∃ (a_v_law_state : Addr) (v_law_state : (T3 Int Script Int)) (a_v_law_row : Addr) (v_law_row : (List Int)) (F : Asn G), vs = [.ref a_v_law_state, .ref a_v_law_row] ∧ Sep H ([stA a_v_law_state (v_law_state : T3 Int Script Int), lstA a_v_law_row (v_law_row : (List Int)), F] : List (Asn G)) ∧ R.wp (m_law_shuffled v_law_state v_law_row) (fun r => ∀ p H', Sep H' ([lstA p (r.1 : (List Int)), stA a_v_law_state (r.2 : T3 Int Script Int), lstA a_v_law_row (v_law_row : (List Int)), F] : List (Asn G)) → Q (.ref p) H') (fun _ => False)
abbrev N_law_shuffled : List Str := ["_law_state", "_law_row", "_law_found", "_law_one"]
theorem sc_law_shuffled : FnScope N_law_shuffled ["_law_state", "_law_row"] (defScope s_law_shuffled) := ⟨rfl, rfl, rfl, by decide +kernel, rfl, by decide +kernel, by decide +kernel⟩
theorem ok_law_shuffled (T : Txt G mg) : FnOk P w G.K mg base CX0 2 T.a_law_shuffled T.fd_law_shuffled ["_law_state", "_law_row"] (sp_law_shuffled G) := by
  have nd := sc_law_shuffled.nd
  refine Fun.ok T.F_law_shuffled sc_law_shuffled (fun vs H Q E h => ?_) (fun cdv A outer s H vs Q E hr h => ?_)
  · obtain ⟨a_v_law_state, v_law_state, a_v_law_row, v_law_row, F, rfl, _⟩ := h; rfl
  · obtain ⟨a_v_law_state, v_law_state, a_v_law_row, v_law_row, F, rfl, hS, hm⟩ := h
    refine ⟨_, (pss_cons (ps_set (i := 2) nd rfl (Or.inl rfl) (pe_fz (pe_lst pa_nil)))
      (pss_cons (ps_for PassesOwn.never rfl (pi_listK G.K (pe_fz (pv 1))) (pg_name (i := 3) nd rfl (Or.inl rfl)) (pss_one (ps_expr (pe_bmK G.K PySem.F.plainAttrs_list PySem.F.slot_list_insert PySem.F.type_list_insert mt_insertR (pe_fz (pv 2)) (pa_cons (pe_op op_mod (pe_call (ok_law_next T) (hr.mono (by decide)) rfl T.g_law_next T.kp_law_next T.b_law_next .nil pass0 (pa_cons (pv 0) pa_nil)) (pe_op op_add (pe_callB (lenSqK G.K) (by rfl) T.z_len PySem.boot_len (pa_cons (pe_fz (pv 2)) pa_nil)) pe_int)) (pa_cons (pv 3) pa_nil))))))
      (pss_one (ps_ret (pe_fz (pv 2)))))), ?_⟩
    unfold m_law_shuffled at hm
    refine f_seq ?_
    refine c_asg ?_
    refine c_fz ?_
    refine c_lst ?_
    refine ea_to ea_nil ?_
    refine k_lst (α := Int) (vs := []) (xs := ([] : (List Int))) hS True.intro (by show 0 ≤ sizeLine; decide) fun p1 H hS => ?_
    refine fz_no ?_
    refine c_set (σ' := [some (.ref a_v_law_state), some (.ref a_v_law_row), some (.ref p1), none]) rfl ?_
    refine sq_nx ?_
    refine f_seq ?_
    refine c_for ?_
    refine c_il ?_
    refine ev_to (ev_fz (ev_var rfl)) ?_
    refine k_il hS (i := 2) rfl ?_
    refine k_for (τ := (T3 Int Script Int) × (List Int)) (fun (s2 : (T3 Int Script Int) × (List Int)) (σ : L2.St) (H : Hp) => ∃ (w5 : Option V), σ = [some (.ref a_v_law_state), some (.ref a_v_law_row), some (.ref p1), w5] ∧ Sep H ([lstA p1 (s2.2 : (List Int)), stA a_v_law_state (s2.1 : T3 Int Script Int), lstA a_v_law_row (v_law_row : (List Int)), F] : List (Asn G))) (im := (Im.im G)) (s := (v_law_state, ([] : (List Int)))) (fun _ => wk_list fun _ _ ⟨_, _, h⟩ => h.sq (i := 2) rfl) ⟨_, rfl, hS.sel [0, 1, 2, 3] (by decide) rfl⟩ hm (fun s2 x3 v4 σ H q N hI hx hm nx => ?_) (fun s2 σ H hm hI => ?_)
    ·
      obtain ⟨w5, rfl, hS⟩ := hI
      cases hx
      refine c_gN (σ' := [some (.ref a_v_law_state), some (.ref a_v_law_row), some (.ref p1), some (.int (x3))]) rfl ?_
      refine c_drop ?_
      refine c_bm ?_
      refine ev_to (ev_fz (ev_var rfl)) ⟨tyL hS (i := 0) rfl, ?_⟩
      refine c_cons ?_
      refine c_op ?_
      refine c_call ?_
      refine ea_to (ea_cons (ev_var rfl) ea_nil) ?_
      refine ⟨a_v_law_state, (s2.1 : (T3 Int Script Int)), star [lstA p1 (s2.2 : (List Int)), lstA a_v_law_row (v_law_row : (List Int)), F], rfl, Sep.unstar (M := [stA a_v_law_state (s2.1 : T3 Int Script Int)]) (hS.sel [1, 0, 2, 3] (by decide) rfl : Sep H (([stA a_v_law_state (s2.1 : T3 Int Script Int)] ++ [lstA p1 (s2.2 : (List Int)), lstA a_v_law_row (v_law_row : (List Int)), F] : List (Asn G)))), R.wp_mono (R.wp_bind hm) (fun r6 hm H hS => ?_) (fun _ z => z)⟩
      have hS : Sep H ([stA a_v_law_state (r6.2 : T3 Int Script Int), lstA p1 (s2.2 : (List Int)), lstA a_v_law_row (v_law_row : (List Int)), F] : List (Asn G)) := Sep.star (M := [stA a_v_law_state (r6.2 : T3 Int Script Int)]) hS
      refine ev_to (ev_add (ev_lenLm (ev_fz (ev_var rfl)) (hS.sqF (i := 1) rfl)) ev_c) ?_
      obtain ⟨h7, hm⟩ := R.wp_need hm
      refine r_mod h7 ?_
      refine c_cons ?_
      refine ev_to (ev_var rfl) ?_
      refine c_nil ?_
      obtain ⟨h8, hm⟩ := R.wp_need hm
      obtain ⟨h9, hm⟩ := R.wp_need hm
      refine k_insert (x := x3) hS (i := 1) rfl rfl h8 h9 rfl fun H hS => ?_
      exact nx _ _ _ hm ⟨_, rfl, hS.sel [1, 0, 2, 3] (by decide) rfl⟩
    · obtain ⟨w5, rfl, hS⟩ := hI
      refine sq_nx ?_
      refine c_ret ?_
      refine ev_to (ev_fz (ev_var rfl)) ?_
      exact hm _ _ (hS.sel [0, 1, 2, 3] (by decide) rfl)
def sp_law_key (G : Gx) : Sp := fun vs H Q E => ∃ (a_v_law_state : Addr) (v_law_state : (T3 Int Script Int)) (a_v_law_words : Addr) (v_law_words : (List Str)) (F : Asn G), vs = [.ref a_v_law_state, .ref a_v_law_words] ∧ Sep H ([stA a_v_law_state (v_law_state : T3 Int Script Int), lstA a_v_law_words (v_law_words : (List Str)), F] : List (Asn G)) ∧ R.wp (m_law_key v_law_state v_law_words) (fun r => ∀ (p : Addr) H', Sep H' ([imA (.ref p) (r.1 : Kt), stA a_v_law_state (r.2 : T3 Int Script Int), lstA a_v_law_words (v_law_words : (List Str)), F] : List (Asn G)) → Q (.ref p) H') (fun _ => False)
abbrev N_law_key : List Str := ["_law_state", "_law_words", "_law_k"]
theorem sc_law_key : FnScope N_law_key ["_law_state", "_law_words"] (defScope s_law_key) := ⟨rfl, rfl, rfl, by decide +kernel, rfl, by decide +kernel, by decide +kernel⟩
theorem ok_law_key (T : Txt G mg) : FnOk P w G.K mg base CX0 2 T.a_law_key T.fd_law_key ["_law_state", "_law_words"] (sp_law_key G) := by
  have nd := sc_law_key.nd
  refine Fun.ok T.F_law_key sc_law_key (fun vs H Q E h => ?_) (fun cdv A outer s H vs Q E hr h => ?_)
  · obtain ⟨a_v_law_state, v_law_state, a_v_law_words, v_law_words, F, rfl, _⟩ := h; rfl
  · obtain ⟨a_v_law_state, v_law_state, a_v_law_words, v_law_words, F, rfl, hS, hm⟩ := h
    refine ⟨_, (pss_one (ps_ret (pe_callTy (tupleOfK G.K) (by rfl) T.z_tuple (by decide +kernel) (pa_cons (pe_fz (pe_lc (own := [("_law_k", 2)]) (g := gName 2) rfl nd (pi_range1 rfl T.z_range (pa_cons (pe_op op_add pe_int (pe_op op_mod (pe_call (ok_law_next T) (hr.mono (by decide)) rfl T.g_law_next T.kp_law_next T.b_law_next .nil pass0 (pa_cons (pv 0) pa_nil)) pe_int)) pa_nil)) (blkOk_by (own := [("_law_k", 2)]) (N := N_law_key) (sc := defScope s_law_key) (by decide +kernel)) (fun _ _ _ _ _ => pg_name (i := 2) nd rfl (Or.inl rfl)) (fun _ _ _ _ _ => pts_nil) (fun _ _ _ _ _ => (pe_ix (ix_listK G.K) (pe_fz (pv 1)) (pe_op op_mod (pe_call (ok_law_next T) (hr.mono (by decide)) rfl T.g_law_next T.kp_law_next T.b_law_next .nil pass0 (pa_cons (pv 0) pa_nil)) (pe_callB (lenSqK G.K) (by rfl) T.z_len PySem.boot_len (pa_cons (pe_fz (pv 1)) pa_nil))) (fun _ _ => rfl))))) pa_nil)))), ?_⟩
    unfold m_law_key at hm
    refine c_ret ?_
    refine c_cb ?_
    refine c_cons ?_
    refine c_fz ?_
    refine c_lc ?_
    refine c_rng1 ?_
    refine c_cons ?_
    refine c_op ?_
    refine ev_to ev_c ?_
    refine c_op ?_
    refine c_call ?_
    refine ea_to (ea_cons (ev_var rfl) ea_nil) ?_
    refine ⟨a_v_law_state, (v_law_state : (T3 Int Script Int)), star [lstA a_v_law_words (v_law_words : (List Str)), F], rfl, Sep.unstar (M := [stA a_v_law_state (v_law_state : T3 Int Script Int)]) (hS.sel [0, 1, 2] (by decide) rfl : Sep H (([stA a_v_law_state (v_law_state : T3 Int Script Int)] ++ [lstA a_v_law_words (v_law_words : (List Str)), F] : List (Asn G)))), R.wp_mono (R.wp_bind hm) (fun r1 hm H hS => ?_) (fun _ z => z)⟩
    have hS : Sep H ([stA a_v_law_state (r1.2 : T3 Int Script Int), lstA a_v_law_words (v_law_words : (List Str)), F] : List (Asn G)) := Sep.star (M := [stA a_v_law_state (r1.2 : T3 Int Script Int)]) hS
    refine ev_to ev_c ?_
    refine r_mod (by decide) ?_
    refine r_I0 _ ?_
    refine c_nil ?_
    obtain ⟨h2, hm⟩ := R.wp_need hm
    refine k_rng1 h2.1 h2.2 ?_
    obtain ⟨h3, hm⟩ := R.wp_need hm
    refine lc_sep (β := Str) (fun (s8 : (T3 Int Script Int)) => ([stA a_v_law_state (s8 : T3 Int Script Int), lstA a_v_law_words (v_law_words : (List Str)), F] : List (Asn G))) (s := r1.2) (im := (fun _ v (x : Int) => v = .int x)) hS (fun _ _ _ => wk_range) h3 hm (fun p4 s8 ys7 x5 v6 H q Nx hS hx hm kS kN => ?_) (fun p4 t H hm hS => ?_)
    ·
      cases hx
      refine c_gLc (σ' := [some (.ref a_v_law_state), some (.ref a_v_law_words), some (.int (x5))]) rfl rfl ?_
      refine c_yes ?_
      refine c_op ?_
      refine ev_to (ev_fz (ev_var rfl)) ?_
      refine c_op ?_
      refine c_call ?_
      refine ea_to (ea_cons (ev_var rfl) ea_nil) ?_
      refine ⟨a_v_law_state, (s8 : (T3 Int Script Int)), star [lstA p4 (ys7 : List Str), lstA a_v_law_words (v_law_words : (List Str)), F], rfl, Sep.unstar (M := [stA a_v_law_state (s8 : T3 Int Script Int)]) (hS.sel [1, 0, 2, 3] (by decide) rfl : Sep H (([stA a_v_law_state (s8 : T3 Int Script Int)] ++ [lstA p4 (ys7 : List Str), lstA a_v_law_words (v_law_words : (List Str)), F] : List (Asn G)))), R.wp_mono (R.wp_bind hm) (fun r9 hm H hS => ?_) (fun _ z => z)⟩
      have hS : Sep H ([stA a_v_law_state (r9.2 : T3 Int Script Int), lstA p4 (ys7 : List Str), lstA a_v_law_words (v_law_words : (List Str)), F] : List (Asn G)) := Sep.star (M := [stA a_v_law_state (r9.2 : T3 Int Script Int)]) hS
      refine ev_to (ev_lenLm (ev_fz (ev_var rfl)) (hS.sqF (i := 2) rfl)) ?_
      obtain ⟨h10, hm⟩ := R.wp_need hm
      refine r_mod h10 ?_
      obtain ⟨x11, hx11, hm⟩ := wp_idx hm
      refine r_ixSq (hS.sqF (i := 2) rfl) (atI_map hx11) _ ?_
      exact kS r9.2 _ _ _ hm rfl (hS.sel [1, 0, 2, 3] (by decide) rfl)
    · revert hm hS; generalize t = t12; intro hm hS
      refine fz_no ?_
      refine c_nil ?_
      refine k_tupleT hS (hS.sq (i := 0) rfl) fun p13 H hS => ?_
      exact hm _ _ (hS.sel [0, 2, 3, 4] (by decide) rfl)
def sp_law_got (G : Gx) : Sp := fun vs H Q E => ∃ (a_v_law_state : Addr) (v_law_state : (T3 Int Script Int)) (a_v_law_one : Addr) (v_law_one : Registers) (a_v_law_rows : Addr) (v_law_rows : (List (Kt × ((Int × Str) × Any)))) (a_v_law_key_here : Addr) (v_law_key_here : Kt) (F : Asn G), vs = [.ref a_v_law_state, .ref a_v_law_one, .ref a_v_law_rows, (.ref a_v_law_key_here)] ∧ Im.im G H (.ref a_v_law_key_here) v_law_key_here ∧ Sep H ([stA a_v_law_state (v_law_state : T3 Int Script Int), RegistersA a_v_law_one v_law_one, dictT a_v_law_rows (v_law_rows : (List (Kt × ((Int × Str) × Any)))), F] : List (Asn G)) ∧ R.wp (m_law_got v_law_state v_law_one v_law_rows v_law_key_here) (fun r => ∀ H', Sep H' ([stA a_v_law_state (r.2 : T3 Int Script Int), RegistersA a_v_law_one v_law_one, dictT a_v_law_rows (v_law_rows : (List (Kt × ((Int × Str) × Any)))), F] : List (Asn G)) → Q (.bl (r.1)) H') (fun _ => False)
abbrev N_law_got : List Str := ["_law_state", "_law_one", "_law_rows", "_law_key_here", "_law_due", "_law_found"]
theorem sc_law_got : FnScope N_law_got ["_law_state", "_law_one", "_law_rows", "_law_key_here"] (defScope s_law_got) := ⟨rfl, rfl, rfl, by decide +kernel, rfl, by decide +kernel, by decide +kernel⟩
theorem ok_law_got (T : Txt G mg) : FnOk P w G.K mg base CX0 2 T.a_law_got T.fd_law_got ["_law_state", "_law_one", "_law_rows", "_law_key_here"] (sp_law_got G) := by
  have nd := sc_law_got.nd
  refine Fun.ok T.F_law_got sc_law_got (fun vs H Q E h => ?_) (fun cdv A outer s H vs Q E hr h => ?_)
  · obtain ⟨a_v_law_state, v_law_state, a_v_law_one, v_law_one, a_v_law_rows, v_law_rows, a_v_law_key_here, v_law_key_here, F, rfl, _⟩ := h; rfl
  · obtain ⟨a_v_law_state, v_law_state, a_v_law_one, v_law_one, a_v_law_rows, v_law_rows, a_v_law_key_here, v_law_key_here, F, rfl, him_v_law_key_here, hS, hm⟩ := h
    have hS := hS.addIm him_v_law_key_here
    refine ⟨_, (pss_cons (ps_set (i := 4) nd rfl (Or.inl rfl) pe_non)
      (pss_cons (ps_if (pt_cmp (pc_din (hu_of hr) (pv 3) (pv 2))) (pss_one (ps_set (i := 4) nd rfl (Or.inl rfl) (pe_ix (ix_tupK G.K) (pe_dget (hu_of hr) (pv 2) (pv 3) (fun _ _ => rfl)) pe_int (fun _ _ => rfl)))) pss_nil)
      (pss_cons (ps_if (pt_cmpR op_eq (pe_op op_mod (pe_call (ok_law_next T) (hr.mono (by decide)) rfl T.g_law_next T.kp_law_next T.b_law_next .nil pass0 (pa_cons (pv 0) pa_nil)) pe_int) pe_int (nomark _)) (pss_one (ps_set (i := 5) nd rfl (Or.inl rfl) (pe_meth (pv 1) T.cl_Registers T.m_Registers_get (ok_Registers_get T) (hr.mono (by decide)) (T.bd_Registers_get_2).2 (T.bd_Registers_get_2).1 pass0 (pa_cons (pv 3) pa_nil)))) (pss_cons (ps_set (i := 5) nd rfl (Or.inl rfl) (pe_meth (pv 1) T.cl_Registers T.m_Registers_get (ok_Registers_get T) (hr.mono (by decide)) T.b_Registers_get .nil pass0 (pa_cons (pv 3) (pa_cons pe_str pa_nil))))
      (pss_one (ps_if (pt_cmp (pc_dnotin (hu_of hr) (pv 3) (pv 2))) (pss_one (ps_set (i := 4) nd rfl (Or.inl rfl) pe_str)) pss_nil))))
      (pss_one (ps_ret (pe_and (pe_cmpR (eqDK G.K hr.units) (pv 5) (pv 4) (nomark _)) (pe_one (pe_cmpR op_eq (pe_callB (isiK G.K) (by rfl) T.z_isinstance (by decide +kernel) (pa_cons (pv 5) (pa_cons (pe_bltn (v := .ty "bool") (by rfl) T.z_bool (by decide +kernel) rfl) pa_nil))) (pe_callB (isiK G.K) (by rfl) T.z_isinstance (by decide +kernel) (pa_cons (pv 4) (pa_cons (pe_bltn (v := .ty "bool") (by rfl) T.z_bool (by decide +kernel) rfl) pa_nil))) (nomark _))))))))), ?_⟩
    unfold m_law_got at hm
    refine f_seq ?_
    refine c_asg ?_
    refine ev_to ev_c ?_
    have hS := hS.addIm (v := .non) (x := (Any.non : Any)) (any_non.mpr rfl)
    refine c_set (σ' := [some (.ref a_v_law_state), some (.ref a_v_law_one), some (.ref a_v_law_rows), some (.ref a_v_law_key_here), some .non, none]) rfl ?_
    refine sq_nx ?_
    refine f_seq ?_
    refine f_if ?_
    refine et_to (et_B (ev_dinT hS (i := 4) rfl (hS.im (i := 1) rfl) (ev_var rfl) (ev_var rfl))) ?_
    refine ifK_J (τ := Any) (fun (s2 : Any) (σ : L2.St) (H : Hp) => ∃ (a3 : V), σ = [some (.ref a_v_law_state), some (.ref a_v_law_one), some (.ref a_v_law_rows), some (.ref a_v_law_key_here), some a3, none] ∧ Sep H ([imA a3 (s2 : Any), imA .non (Any.non : Any), imA (.ref a_v_law_key_here) (v_law_key_here : Kt), stA a_v_law_state (v_law_state : T3 Int Script Int), RegistersA a_v_law_one v_law_one, dictT a_v_law_rows (v_law_rows : (List (Kt × ((Int × Str) × Any)))), F] : List (Asn G))) hm (fun hb q hm nx => ?_) (fun hb q hm nx => ?_) (fun s2 σ H hm hI => ?_)
    ·
      refine c_asg ?_
      obtain ⟨y5, hy5, hm⟩ := wp_dgetG hm
      obtain ⟨v6, g7, hv8⟩ := dget_someT hS (i := 4) rfl (hS.im (i := 1) rfl) hy5
      obtain ⟨a9, rfl⟩ := isref hv8
      obtain ⟨u10, u11, hT14, h12, h13⟩ := im2 hv8
      obtain ⟨a15, rfl⟩ := isref h12
      refine ev_to (ev_ixT (ev_dgetT (ev_var rfl) (ev_var rfl) g7) ev_c hT14 rfl) ?_
      have hS := hS.addIm (v := u11) (x := (y5.2 : Any)) h13
      refine c_set (σ' := [some (.ref a_v_law_state), some (.ref a_v_law_one), some (.ref a_v_law_rows), some (.ref a_v_law_key_here), some u11, none]) rfl ?_
      exact nx _ _ _ hm ⟨_, rfl, hS.sel [0, 1, 2, 3, 4, 5, 6] (by decide) rfl⟩
    ·
      refine st_nx ?_
      have hS := hS.addIm (hS.im (i := 0) rfl)
      exact nx _ _ _ hm ⟨_, rfl, hS.sel [1, 0, 2, 3, 4, 5, 6] (by decide) rfl⟩
    · obtain ⟨a3, rfl, hS⟩ := hI
      refine sq_nx ?_
      refine f_seq ?_
      refine f_if ?_
      refine f_test ?_
      refine c_op ?_
      refine c_op ?_
      refine c_call ?_
      refine ea_to (ea_cons (ev_var rfl) ea_nil) ?_
      refine ⟨a_v_law_state, (v_law_state : (T3 Int Script Int)), star [imA a3 (s2 : Any), imA .non (Any.non : Any), imA (.ref a_v_law_key_here) (v_law_key_here : Kt), RegistersA a_v_law_one v_law_one, dictT a_v_law_rows (v_law_rows : (List (Kt × ((Int × Str) × Any)))), F], rfl, Sep.unstar (M := [stA a_v_law_state (v_law_state : T3 Int Script Int)]) (hS.sel [3, 0, 1, 2, 4, 5, 6] (by decide) rfl : Sep H (([stA a_v_law_state (v_law_state : T3 Int Script Int)] ++ [imA a3 (s2 : Any), imA .non (Any.non : Any), imA (.ref a_v_law_key_here) (v_law_key_here : Kt), RegistersA a_v_law_one v_law_one, dictT a_v_law_rows (v_law_rows : (List (Kt × ((Int × Str) × Any)))), F] : List (Asn G)))), R.wp_mono (R.wp_bind hm) (fun r18 hm H hS => ?_) (fun _ z => z)⟩
      have hS : Sep H ([stA a_v_law_state (r18.2 : T3 Int Script Int), imA a3 (s2 : Any), imA .non (Any.non : Any), imA (.ref a_v_law_key_here) (v_law_key_here : Kt), RegistersA a_v_law_one v_law_one, dictT a_v_law_rows (v_law_rows : (List (Kt × ((Int × Str) × Any)))), F] : List (Asn G)) := Sep.star (M := [stA a_v_law_state (r18.2 : T3 Int Script Int)]) hS
      refine ev_to ev_c ?_
      refine r_mod (by decide) ?_
      refine ev_to ev_c ?_
      refine ev_op2 (ev_eqI ev_c ev_c) ?_
      refine f_bl ?_
      refine ifK_J (τ := Any × Any) (fun (s19 : Any × Any) (σ : L2.St) (H : Hp) => ∃ (a20 : V), ∃ (a22 : V), σ = [some (.ref a_v_law_state), some (.ref a_v_law_one), some (.ref a_v_law_rows), some (.ref a_v_law_key_here), some a20, some a22] ∧ Sep H ([imA a20 (s19.1 : Any), imA a22 (s19.2 : Any), stA a_v_law_state (r18.2 : T3 Int Script Int), imA a3 (s2 : Any), imA .non (Any.non : Any), imA (.ref a_v_law_key_here) (v_law_key_here : Kt), RegistersA a_v_law_one v_law_one, dictT a_v_law_rows (v_law_rows : (List (Kt × ((Int × Str) × Any)))), F] : List (Asn G))) hm (fun hb q hm nx => ?_) (fun hb q hm nx => ?_) (fun s19 σ H hm hI => ?_)
      ·
        refine c_asg ?_
        refine c_meth ?_
        refine ev_to (ev_var rfl) ?_
        obtain ⟨d24, _, hO25⟩ := ins_Registers hS (i := 4) rfl
        refine ⟨_, _, _, rfl, hO25, rfl, ?_⟩
        refine ea_to (ea_cons (ev_var rfl) ea_nil) ?_
        refine ⟨a_v_law_one, (v_law_one : Registers), a_v_law_key_here, (v_law_key_here : Kt), .non, (Any.non : Any), star [stA a_v_law_state (r18.2 : T3 Int Script Int), imA a3 (s2 : Any), imA .non (Any.non : Any), imA (.ref a_v_law_key_here) (v_law_key_here : Kt), dictT a_v_law_rows (v_law_rows : (List (Kt × ((Int × Str) × Any)))), F], rfl, (hS.im (i := 3) rfl), (any_non.mpr rfl), Sep.unstar (M := [RegistersA a_v_law_one v_law_one]) (hS.sel [4, 0, 1, 2, 3, 5, 6] (by decide) rfl : Sep H (([RegistersA a_v_law_one v_law_one] ++ [stA a_v_law_state (r18.2 : T3 Int Script Int), imA a3 (s2 : Any), imA .non (Any.non : Any), imA (.ref a_v_law_key_here) (v_law_key_here : Kt), dictT a_v_law_rows (v_law_rows : (List (Kt × ((Int × Str) × Any)))), F] : List (Asn G)))), R.wp_mono (R.wp_bind hm) (fun r26 hm p27 H hS => ?_) (fun _ z => z)⟩
        have hS : Sep H ([imA p27 (r26 : Any), RegistersA a_v_law_one v_law_one, stA a_v_law_state (r18.2 : T3 Int Script Int), imA a3 (s2 : Any), imA .non (Any.non : Any), imA (.ref a_v_law_key_here) (v_law_key_here : Kt), dictT a_v_law_rows (v_law_rows : (List (Kt × ((Int × Str) × Any)))), F] : List (Asn G)) := Sep.star (M := [imA p27 (r26 : Any), RegistersA a_v_law_one v_law_one]) hS
        refine c_set (σ' := [some (.ref a_v_law_state), some (.ref a_v_law_one), some (.ref a_v_law_rows), some (.ref a_v_law_key_here), some a3, some p27]) rfl ?_
        have hS := hS.addIm (hS.im (i := 3) rfl)
        exact nx _ _ _ hm ⟨_, _, rfl, hS.sel [4, 1, 3, 0, 5, 6, 2, 7, 8] (by decide) rfl⟩
      ·
        refine f_seq ?_
        refine c_asg ?_
        refine c_meth ?_
        refine ev_to (ev_var rfl) ?_
        obtain ⟨d30, _, hO31⟩ := ins_Registers hS (i := 4) rfl
        refine ⟨_, _, _, rfl, hO31, rfl, ?_⟩
        refine ea_to (ea_cons (ev_var rfl) (ea_cons ev_c ea_nil)) ?_
        refine ⟨a_v_law_one, (v_law_one : Registers), a_v_law_key_here, (v_law_key_here : Kt), (.str (("none" : Str))), ((Any.str ("none" : Str)) : Any), star [stA a_v_law_state (r18.2 : T3 Int Script Int), imA a3 (s2 : Any), imA .non (Any.non : Any), imA (.ref a_v_law_key_here) (v_law_key_here : Kt), dictT a_v_law_rows (v_law_rows : (List (Kt × ((Int × Str) × Any)))), F], rfl, (hS.im (i := 3) rfl), (any_str.mpr rfl), Sep.unstar (M := [RegistersA a_v_law_one v_law_one]) (hS.sel [4, 0, 1, 2, 3, 5, 6] (by decide) rfl : Sep H (([RegistersA a_v_law_one v_law_one] ++ [stA a_v_law_state (r18.2 : T3 Int Script Int), imA a3 (s2 : Any), imA .non (Any.non : Any), imA (.ref a_v_law_key_here) (v_law_key_here : Kt), dictT a_v_law_rows (v_law_rows : (List (Kt × ((Int × Str) × Any)))), F] : List (Asn G)))), R.wp_mono (R.wp_bind hm) (fun r32 hm p33 H hS => ?_) (fun _ z => z)⟩
        have hS : Sep H ([imA p33 (r32 : Any), RegistersA a_v_law_one v_law_one, stA a_v_law_state (r18.2 : T3 Int Script Int), imA a3 (s2 : Any), imA .non (Any.non : Any), imA (.ref a_v_law_key_here) (v_law_key_here : Kt), dictT a_v_law_rows (v_law_rows : (List (Kt × ((Int × Str) × Any)))), F] : List (Asn G)) := Sep.star (M := [imA p33 (r32 : Any), RegistersA a_v_law_one v_law_one]) hS
        refine c_set (σ' := [some (.ref a_v_law_state), some (.ref a_v_law_one), some (.ref a_v_law_rows), some (.ref a_v_law_key_here), some a3, some p33]) rfl ?_
        refine sq_nx ?_
        refine f_if ?_
        refine et_to (et_B (ev_dniT hS (i := 6) rfl (hS.im (i := 5) rfl) (ev_var rfl) (ev_var rfl))) ?_
        refine ifK_J (τ := Any) (fun (s35 : Any) (σ : L2.St) (H : Hp) => ∃ (a36 : V), σ = [some (.ref a_v_law_state), some (.ref a_v_law_one), some (.ref a_v_law_rows), some (.ref a_v_law_key_here), some a36, some p33] ∧ Sep H ([imA a36 (s35 : Any), imA p33 (r32 : Any), RegistersA a_v_law_one v_law_one, stA a_v_law_state (r18.2 : T3 Int Script Int), imA a3 (s2 : Any), imA .non (Any.non : Any), imA (.ref a_v_law_key_here) (v_law_key_here : Kt), dictT a_v_law_rows (v_law_rows : (List (Kt × ((Int × Str) × Any)))), F] : List (Asn G))) hm (fun hb q hm nx => ?_) (fun hb q hm nx => ?_) (fun s35 σ H hm hI => ?_)
        ·
          refine c_asg ?_
          refine ev_to ev_c ?_
          have hS := hS.addIm (v := (.str (("none" : Str)))) (x := ((Any.str ("none" : Str)) : Any)) (any_str.mpr rfl)
          refine c_set (σ' := [some (.ref a_v_law_state), some (.ref a_v_law_one), some (.ref a_v_law_rows), some (.ref a_v_law_key_here), some (.str (("none" : Str))), some p33]) rfl ?_
          exact nx _ _ _ hm ⟨_, rfl, hS.sel [0, 1, 2, 3, 4, 5, 6, 7, 8] (by decide) rfl⟩
        ·
          refine st_nx ?_
          have hS := hS.addIm (hS.im (i := 3) rfl)
          exact nx _ _ _ hm ⟨_, rfl, hS.sel [4, 1, 2, 3, 0, 5, 6, 7, 8] (by decide) rfl⟩
        · obtain ⟨a36, rfl, hS⟩ := hI
          exact nx _ _ _ hm ⟨_, _, rfl, hS.sel [0, 1, 3, 4, 5, 6, 2, 7, 8] (by decide) rfl⟩
      · obtain ⟨a20, a22, rfl, hS⟩ := hI
        refine sq_nx ?_
        refine c_ret ?_
        obtain ⟨b40, hb40, hm⟩ := wp_eqA hm
        refine ev_to (ev_andV (ev_eqA (ev_var rfl) (ev_var rfl) (hS.im (i := 1) rfl) (hS.im (i := 0) rfl) hb40) fun _ => (ev_eqB (ev_isAny (ev_var rfl) ev_c (hS.im (i := 1) rfl) (by decide)) (ev_isAny (ev_var rfl) ev_c (hS.im (i := 0) rfl) (by decide)))) ?_
        exact hm _ (hS.sel [2, 6, 7, 8] (by decide) rfl)
def sp_law_looked (G : Gx) : Sp := fun vs H Q E => ∃ (a_v_law_state : Addr) (v_law_state : (T3 Int Script Int)) (a_v_law_one : Addr) (v_law_one : Registers) (a_v_law_rows : Addr) (v_law_rows : (List (Kt × ((Int × Str) × Any)))) (a_v_law_words : Addr) (v_law_words : (List Str)) (F : Asn G), vs = [.ref a_v_law_state, .ref a_v_law_one, .ref a_v_law_rows, .ref a_v_law_words] ∧ Sep H ([stA a_v_law_state (v_law_state : T3 Int Script Int), RegistersA a_v_law_one v_law_one, dictT a_v_law_rows (v_law_rows : (List (Kt × ((Int × Str) × Any)))), lstA a_v_law_words (v_law_words : (List Str)), F] : List (Asn G)) ∧ R.wp (m_law_looked v_law_state v_law_one v_law_rows v_law_words) (fun r => ∀ H', Sep H' ([stA a_v_law_state (r.2 : T3 Int Script Int), RegistersA a_v_law_one v_law_one, dictT a_v_law_rows (v_law_rows : (List (Kt × ((Int × Str) × Any)))), lstA a_v_law_words (v_law_words : (List Str)), F] : List (Asn G)) → Q (.bl (r.1)) H') (fun _ => False)
abbrev N_law_looked : List Str := ["_law_state", "_law_one", "_law_rows", "_law_words", "_law_way", "_law_word_here", "_law_key_here", "_law_due", "_law_found"]
theorem sc_law_looked : FnScope N_law_looked ["_law_state", "_law_one", "_law_rows", "_law_words"] (defScope s_law_looked) := ⟨rfl, rfl, rfl, by decide +kernel, rfl, by decide +kernel, by decide +kernel⟩
theorem ok_law_looked (T : Txt G mg) : FnOk P w G.K mg base CX0 3 T.a_law_looked T.fd_law_looked ["_law_state", "_law_one", "_law_rows", "_law_words"] (sp_law_looked G) := by
  have nd := sc_law_looked.nd
  refine Fun.ok T.F_law_looked sc_law_looked (fun vs H Q E h => ?_) (fun cdv A outer s H vs Q E hr h => ?_)
  · obtain ⟨a_v_law_state, v_law_state, a_v_law_one, v_law_one, a_v_law_rows, v_law_rows, a_v_law_words, v_law_words, F, rfl, _⟩ := h; rfl
  · obtain ⟨a_v_law_state, v_law_state, a_v_law_one, v_law_one, a_v_law_rows, v_law_rows, a_v_law_words, v_law_words, F, rfl, hS, hm⟩ := h
    refine ⟨_, (pss_cons (ps_for PassesOwn.never rfl (pi_listK G.K (pe_fz (pe_call (ok_law_shuffled T) (hr.mono (by decide)) rfl T.g_law_shuffled T.kp_law_shuffled T.b_law_shuffled .nil pass0 (pa_cons (pv 0) (pa_cons (pe_fz (pe_lst (pa_cons pe_int (pa_cons pe_int (pa_cons pe_int pa_nil))))) pa_nil))))) (pg_name (i := 4) nd rfl (Or.inl rfl)) (pss_cons (ps_if (PW.pt (pw_and (pt_cmpR op_lt (pv 4) pe_int (nomark _)) (pw_and1 (pt_not (pt_val (pe_call (ok_law_got T) (hr.mono (by decide)) rfl T.g_law_got T.kp_law_got T.b_law_got .nil pass0 (pa_cons (pv 0) (pa_cons (pv 1) (pa_cons (pv 2) (pa_cons (pe_call (ok_law_key T) (hr.mono (by decide)) rfl T.g_law_key T.kp_law_key T.b_law_key .nil pass0 (pa_cons (pv 0) (pa_cons (pe_fz (pv 3)) pa_nil))) pa_nil)))))))))) (pss_one (ps_ret pe_bl)) pss_nil)
      (pss_cons (ps_set (i := 5) nd rfl (Or.inr rfl) (pe_ix (ix_listK G.K) (pe_fz (pv 3)) (pe_op op_mod (pe_call (ok_law_next T) (hr.mono (by decide)) rfl T.g_law_next T.kp_law_next T.b_law_next .nil pass0 (pa_cons (pv 0) pa_nil)) (pe_callB (lenSqK G.K) (by rfl) T.z_len PySem.boot_len (pa_cons (pe_fz (pv 3)) pa_nil))) (fun _ _ => rfl)))
      (pss_cons (ps_set (i := 7) nd rfl (Or.inl rfl) (pe_fz (pe_callB (sortDtK G.K hr.units) (by rfl) T.z_sorted (by decide +kernel) (pa_cons (pe_fz (pe_lock (pe_lc (own := [("_law_key_here", 6)]) (g := gName 6) rfl nd (pi_keys (pv 2)) (blkOk_by (own := [("_law_key_here", 6)]) (N := N_law_looked) (sc := defScope s_law_looked) (by decide +kernel)) (fun _ _ _ _ _ => pg_name (i := 6) nd rfl (Or.inl rfl)) (fun _ _ _ _ _ => pts_one (pt_cmpR op_eq (pe_ix (ix_tupK G.K) (pv 6) pe_int (fun _ _ => rfl)) (pv 5) (nomark _))) (fun _ _ _ _ _ => (pv 6))))) pa_nil))))
      (pss_cons (ps_set (i := 8) nd rfl (Or.inl rfl) (pe_fz (pe_meth (pv 1) T.cl_Registers T.m_Registers_keys_of (ok_Registers_keys_of T) (hr.mono (by decide)) T.b_Registers_keys_of .nil pass0 (pa_cons (pv 5) pa_nil))))
      (pss_cons (ps_if (PW.pt (pw_and (pt_cmpR op_eq (pv 4) pe_int (nomark _)) (pw_and1 (PW.pt (pw_or (pt_not (pt_val (pe_callB (isiK G.K) (by rfl) T.z_isinstance (by decide +kernel) (pa_cons (pe_fz (pv 8)) (pa_cons (pe_bltn (v := .ty "list") (by rfl) T.z_list (by decide +kernel) rfl) pa_nil))))) (pw_or1 (pt_cmpR (neDK G.K hr.units) (pe_fz (pv 8)) (pe_fz (pv 7)) (nomark _)))))))) (pss_one (ps_ret pe_bl)) pss_nil)
      (pss_cons (ps_expr (pe_bmK G.K PySem.F.plainAttrs_list PySem.F.slot_list_append PySem.F.type_list_append mt_append (pe_fz (pv 8)) (pa_cons (pe_tup (pa_cons pe_str pa_nil)) pa_nil)))
      (pss_one (ps_if (PW.pt (pw_and (pt_cmpR op_eq (pv 4) pe_int (nomark _)) (pw_and1 (pt_cmpR (neDK G.K hr.units) (pe_fz (pe_meth (pv 1) T.cl_Registers T.m_Registers_keys_of (ok_Registers_keys_of T) (hr.mono (by decide)) T.b_Registers_keys_of .nil pass0 (pa_cons (pv 5) pa_nil))) (pe_fz (pv 7)) (nomark _))))) (pss_one (ps_ret pe_bl)) pss_nil)))))))))
      (pss_one (ps_ret pe_bl))), ?_⟩
    unfold m_law_looked at hm
    refine f_seq ?_
    refine c_for ?_
    refine c_il ?_
    refine c_fz ?_
    refine c_call ?_
    refine c_cons ?_
    refine ev_to (ev_var rfl) ?_
    refine c_cons ?_
    refine c_fz ?_
    refine c_lst ?_
    refine ea_to (ea_cons ev_c (ea_cons ev_c (ea_cons ev_c ea_nil))) ?_
    refine k_lst (α := Int) (vs := [(.int (0)), (.int (1)), (.int (2))]) (xs := [0, 1, 2]) hS ⟨rfl, ⟨rfl, ⟨rfl, True.intro⟩⟩⟩ (by show 3 ≤ sizeLine; decide) fun p1 H hS => ?_
    refine fz_no ?_
    refine c_nil ?_
    refine ⟨a_v_law_state, (v_law_state : (T3 Int Script Int)), p1, ([0, 1, 2] : (List Int)), star [RegistersA a_v_law_one v_law_one, dictT a_v_law_rows (v_law_rows : (List (Kt × ((Int × Str) × Any)))), lstA a_v_law_words (v_law_words : (List Str)), F], rfl, Sep.unstar (M := [stA a_v_law_state (v_law_state : T3 Int Script Int), lstA p1 ([0, 1, 2] : (List Int))]) (hS.sel [1, 0, 2, 3, 4, 5] (by decide) rfl : Sep H (([stA a_v_law_state (v_law_state : T3 Int Script Int), lstA p1 ([0, 1, 2] : (List Int))] ++ [RegistersA a_v_law_one v_law_one, dictT a_v_law_rows (v_law_rows : (List (Kt × ((Int × Str) × Any)))), lstA a_v_law_words (v_law_words : (List Str)), F] : List (Asn G)))), R.wp_mono (R.wp_bind hm) (fun r2 hm p3 H hS => ?_) (fun _ z => z)⟩
    have hS : Sep H ([lstA p3 (r2.1 : (List Int)), stA a_v_law_state (r2.2 : T3 Int Script Int), lstA p1 ([0, 1, 2] : (List Int)), RegistersA a_v_law_one v_law_one, dictT a_v_law_rows (v_law_rows : (List (Kt × ((Int × Str) × Any)))), lstA a_v_law_words (v_law_words : (List Str)), F] : List (Asn G)) := Sep.star (M := [lstA p3 (r2.1 : (List Int)), stA a_v_law_state (r2.2 : T3 Int Script Int), lstA p1 ([0, 1, 2] : (List Int))]) hS
    refine fz_no ?_
    refine k_il hS (i := 0) rfl ?_
    refine k_forF (τ := (T3 Int Script Int)) (fun (s4 : (T3 Int Script Int)) (σ : L2.St) (H : Hp) => ∃ (w7 w8 w9 w10 : Option V), σ = [some (.ref a_v_law_state), some (.ref a_v_law_one), some (.ref a_v_law_rows), some (.ref a_v_law_words), w7, w8, none, w9, w10] ∧ Sep H ([lstA p3 (r2.1 : (List Int)), stA a_v_law_state (s4 : T3 Int Script Int), lstA p1 ([0, 1, 2] : (List Int)), RegistersA a_v_law_one v_law_one, dictT a_v_law_rows (v_law_rows : (List (Kt × ((Int × Str) × Any)))), lstA a_v_law_words (v_law_words : (List Str)), F] : List (Asn G))) (im := (Im.im G)) (s := (r2.2)) (fun _ => wk_list fun _ _ ⟨_, _, _, _, _, h⟩ => h.sq (i := 0) rfl) ⟨_, _, _, _, rfl, hS.sel [0, 1, 2, 3, 4, 5, 6] (by decide) rfl⟩ hm (fun s4 x5 v6 σ H q N B hI hx hm nx bk ho11 => ?_) (fun s4 σ H hm hI => ?_)
    ·
      obtain ⟨w7, w8, w9, w10, rfl, hS⟩ := hI
      cases hx
      refine c_gN (σ' := [some (.ref a_v_law_state), some (.ref a_v_law_one), some (.ref a_v_law_rows), some (.ref a_v_law_words), some (.int (x5)), w8, none, w9, w10]) rfl ?_
      refine f_seq ?_
      refine f_if ?_
      refine f_and ?_
      refine et_to (et_test (ev_i0 (ev_var rfl) ev_c)) ?_
      refine andK_T (τ := (T3 Int Script Int)) (s0 := s4) (fun (s12 : (T3 Int Script Int)) => ([lstA p3 (r2.1 : (List Int)), stA a_v_law_state (s12 : T3 Int Script Int), lstA p1 ([0, 1, 2] : (List Int)), RegistersA a_v_law_one v_law_one, dictT a_v_law_rows (v_law_rows : (List (Kt × ((Int × Str) × Any)))), lstA a_v_law_words (v_law_words : (List Str)), F] : List (Asn G))) hm hS (fun hb q hm nx => ?_) (fun s12 b13 H hm hS => ?_)
      ·
        refine f_not ?_
        refine f_B ?_
        refine c_call ?_
        refine c_cons ?_
        refine ev_to (ev_var rfl) ?_
        refine c_cons ?_
        refine ev_to (ev_var rfl) ?_
        refine c_cons ?_
        refine ev_to (ev_var rfl) ?_
        refine c_cons ?_
        refine c_call ?_
        refine ea_to (ea_cons (ev_var rfl) (ea_cons (ev_fz (ev_var rfl)) ea_nil)) ?_
        refine ⟨a_v_law_state, (s4 : (T3 Int Script Int)), a_v_law_words, (v_law_words : (List Str)), star [lstA p3 (r2.1 : (List Int)), lstA p1 ([0, 1, 2] : (List Int)), RegistersA a_v_law_one v_law_one, dictT a_v_law_rows (v_law_rows : (List (Kt × ((Int × Str) × Any)))), F], rfl, Sep.unstar (M := [stA a_v_law_state (s4 : T3 Int Script Int), lstA a_v_law_words (v_law_words : (List Str))]) (hS.sel [1, 5, 0, 2, 3, 4, 6] (by decide) rfl : Sep H (([stA a_v_law_state (s4 : T3 Int Script Int), lstA a_v_law_words (v_law_words : (List Str))] ++ [lstA p3 (r2.1 : (List Int)), lstA p1 ([0, 1, 2] : (List Int)), RegistersA a_v_law_one v_law_one, dictT a_v_law_rows (v_law_rows : (List (Kt × ((Int × Str) × Any)))), F] : List (Asn G)))), R.wp_mono (R.wp_bind hm) (fun r14 hm p15 H hS => ?_) (fun _ z => z)⟩
        have hS : Sep H ([imA (.ref p15) (r14.1 : Kt), stA a_v_law_state (r14.2 : T3 Int Script Int), lstA a_v_law_words (v_law_words : (List Str)), lstA p3 (r2.1 : (List Int)), lstA p1 ([0, 1, 2] : (List Int)), RegistersA a_v_law_one v_law_one, dictT a_v_law_rows (v_law_rows : (List (Kt × ((Int × Str) × Any)))), F] : List (Asn G)) := Sep.star (M := [imA (.ref p15) (r14.1 : Kt), stA a_v_law_state (r14.2 : T3 Int Script Int), lstA a_v_law_words (v_law_words : (List Str))]) hS
        refine c_nil ?_
        refine ⟨a_v_law_state, (r14.2 : (T3 Int Script Int)), a_v_law_one, (v_law_one : Registers), a_v_law_rows, (v_law_rows : (List (Kt × ((Int × Str) × Any)))), p15, (r14.1 : Kt), star [imA (.ref p15) (r14.1 : Kt), lstA a_v_law_words (v_law_words : (List Str)), lstA p3 (r2.1 : (List Int)), lstA p1 ([0, 1, 2] : (List Int)), F], rfl, (hS.im (i := 0) rfl), Sep.unstar (M := [stA a_v_law_state (r14.2 : T3 Int Script Int), RegistersA a_v_law_one v_law_one, dictT a_v_law_rows (v_law_rows : (List (Kt × ((Int × Str) × Any))))]) (hS.sel [1, 5, 6, 0, 2, 3, 4, 7] (by decide) rfl : Sep H (([stA a_v_law_state (r14.2 : T3 Int Script Int), RegistersA a_v_law_one v_law_one, dictT a_v_law_rows (v_law_rows : (List (Kt × ((Int × Str) × Any))))] ++ [imA (.ref p15) (r14.1 : Kt), lstA a_v_law_words (v_law_words : (List Str)), lstA p3 (r2.1 : (List Int)), lstA p1 ([0, 1, 2] : (List Int)), F] : List (Asn G)))), R.wp_mono (R.wp_bind hm) (fun r17 hm H hS => ?_) (fun _ z => z)⟩
        have hS : Sep H ([stA a_v_law_state (r17.2 : T3 Int Script Int), RegistersA a_v_law_one v_law_one, dictT a_v_law_rows (v_law_rows : (List (Kt × ((Int × Str) × Any)))), imA (.ref p15) (r14.1 : Kt), lstA a_v_law_words (v_law_words : (List Str)), lstA p3 (r2.1 : (List Int)), lstA p1 ([0, 1, 2] : (List Int)), F] : List (Asn G)) := Sep.star (M := [stA a_v_law_state (r17.2 : T3 Int Script Int), RegistersA a_v_law_one v_law_one, dictT a_v_law_rows (v_law_rows : (List (Kt × ((Int × Str) × Any))))]) hS
        refine f_bl ?_
        refine f_nK ?_
        exact nx r17.2 _ _ hm (hS.sel [5, 0, 6, 1, 2, 4, 7] (by decide) rfl)
      ·
        obtain ⟨hy, hn⟩ := R.wp_if hm
        refine ifK_2 (fun hb18 => ?_) (fun hb18 => ?_)
        · have hm := hy hb18
          refine c_ret ?_
          refine ev_to ev_c ?_
          exact (ho11 _ hm) _ (hS.sel [1, 3, 4, 5, 6] (by decide) rfl)
        · have hm := hn (by first | (rw [hb18]; decide) | simpa using hb18)
          refine st_nx ?_
          refine sq_nx ?_
          refine f_seq ?_
          refine c_asg ?_
          refine c_op ?_
          refine ev_to (ev_fz (ev_var rfl)) ?_
          refine c_op ?_
          refine c_call ?_
          refine ea_to (ea_cons (ev_var rfl) ea_nil) ?_
          refine ⟨a_v_law_state, (s12 : (T3 Int Script Int)), star [lstA p3 (r2.1 : (List Int)), lstA p1 ([0, 1, 2] : (List Int)), RegistersA a_v_law_one v_law_one, dictT a_v_law_rows (v_law_rows : (List (Kt × ((Int × Str) × Any)))), lstA a_v_law_words (v_law_words : (List Str)), F], rfl, Sep.unstar (M := [stA a_v_law_state (s12 : T3 Int Script Int)]) (hS.sel [1, 0, 2, 3, 4, 5, 6] (by decide) rfl : Sep H (([stA a_v_law_state (s12 : T3 Int Script Int)] ++ [lstA p3 (r2.1 : (List Int)), lstA p1 ([0, 1, 2] : (List Int)), RegistersA a_v_law_one v_law_one, dictT a_v_law_rows (v_law_rows : (List (Kt × ((Int × Str) × Any)))), lstA a_v_law_words (v_law_words : (List Str)), F] : List (Asn G)))), R.wp_mono (R.wp_bind hm) (fun r19 hm H hS => ?_) (fun _ z => z)⟩
          have hS : Sep H ([stA a_v_law_state (r19.2 : T3 Int Script Int), lstA p3 (r2.1 : (List Int)), lstA p1 ([0, 1, 2] : (List Int)), RegistersA a_v_law_one v_law_one, dictT a_v_law_rows (v_law_rows : (List (Kt × ((Int × Str) × Any)))), lstA a_v_law_words (v_law_words : (List Str)), F] : List (Asn G)) := Sep.star (M := [stA a_v_law_state (r19.2 : T3 Int Script Int)]) hS
          refine ev_to (ev_lenLm (ev_fz (ev_var rfl)) (hS.sqF (i := 5) rfl)) ?_
          obtain ⟨h20, hm⟩ := R.wp_need hm
          refine r_mod h20 ?_
          obtain ⟨x21, hx21, hm⟩ := wp_idx hm
          refine r_ixSq (hS.sqF (i := 5) rfl) (atI_map hx21) _ ?_
          refine c_set (σ' := [some (.ref a_v_law_state), some (.ref a_v_law_one), some (.ref a_v_law_rows), some (.ref a_v_law_words), some (.int (x5)), some (.str (x21)), none, w9, w10]) rfl ?_
          refine sq_nx ?_
          refine f_seq ?_
          refine c_asg ?_
          refine c_fz ?_
          refine c_cb ?_
          refine c_cons ?_
          refine c_fz ?_
          refine k_lockT hS (i := 4) rfl fun od22 ps23 H hS => ?_
          have hS : Sep H ([stA a_v_law_state (r19.2 : T3 Int Script Int), lstA p3 (r2.1 : (List Int)), lstA p1 ([0, 1, 2] : (List Int)), RegistersA a_v_law_one v_law_one, lockT a_v_law_rows od22 ps23 (v_law_rows : (List (Kt × ((Int × Str) × Any)))), lstA a_v_law_words (v_law_words : (List Str)), F] : List (Asn G)) := hS
          refine c_lc ?_
          refine c_keys ?_
          refine ev_to (ev_var rfl) ?_
          refine k_keysT (hS.lockT (i := 4) rfl).1 ?_
          obtain ⟨h24, hm⟩ := R.wp_need hm
          refine lc_sep (β := Kt) (fun (_ : Unit) => ([stA a_v_law_state (r19.2 : T3 Int Script Int), lstA p3 (r2.1 : (List Int)), lstA p1 ([0, 1, 2] : (List Int)), RegistersA a_v_law_one v_law_one, lockT a_v_law_rows od22 ps23 (v_law_rows : (List (Kt × ((Int × Str) × Any)))), lstA a_v_law_words (v_law_words : (List Str)), F] : List (Asn G))) (s := ()) (im := (Im.im G)) hS (fun _ _ _ => wk_keysT fun _ _ h => h.lockT (i := 5) rfl) h24 hm (fun p25 _ ys28 x26 v27 H q Nx hS hx hm kS kN => ?_) (fun p25 t H hm hS => ?_)
          ·
            obtain ⟨a29, rfl⟩ := isref hx
            have hS := hS.addIm (v := (.ref a29)) (x := (x26 : Kt)) hx
            refine c_gLc (σ' := [some (.ref a_v_law_state), some (.ref a_v_law_one), some (.ref a_v_law_rows), some (.ref a_v_law_words), some (.int (x5)), some (.str (x21)), some (.ref a29), w9, w10]) rfl rfl ?_
            obtain ⟨x31, hx31, hm⟩ := wp_idx hm
            refine et_to (et_test (ev_eqS (ev_ixT (ev_var rfl) ev_c (kt_at (hS.im (i := 0) rfl)) (atI_map hx31)) (ev_var rfl))) ?_
            obtain ⟨hy, hn⟩ := R.wp_if hm
            refine lc_if (fun hb32 => ?_) (fun hb32 => ?_)
            · have hm := hy hb32
              refine ev_to (ev_var rfl) ?_
              exact kS () _ _ _ hm (hS.im (i := 0) rfl) (hS.sel [1, 2, 3, 4, 5, 6, 7, 8] (by decide) rfl)
            · have hm := hn (by first | (rw [hb32]; decide) | simpa using hb32)
              exact kN () _ hm (hS.sel [1, 2, 3, 4, 5, 6, 7, 8] (by decide) rfl)
          · revert hm hS; generalize t = t33; intro hm hS
            refine k_unlT hS (i := 5) rfl fun H hS => ?_
            have hS : Sep H ([lstA p25 (t33.2 : (List Kt)), stA a_v_law_state (r19.2 : T3 Int Script Int), lstA p3 (r2.1 : (List Int)), lstA p1 ([0, 1, 2] : (List Int)), RegistersA a_v_law_one v_law_one, dictT a_v_law_rows (v_law_rows : (List (Kt × ((Int × Str) × Any)))), lstA a_v_law_words (v_law_words : (List Str)), F] : List (Asn G)) := hS
            refine fz_no ?_
            refine c_nil ?_
            obtain ⟨h35, hm⟩ := R.wp_need hm
            obtain ⟨h36, hm⟩ := R.wp_need hm
            refine k_sortKt hS (hS.sq (i := 0) rfl) h35 h36 fun p34 H hS => ?_
            refine fz_no ?_
            obtain ⟨y37, hy37, hm⟩ := wp_let hm
            have hS : Sep H ([lstA p34 (y37 : (List Kt)), lstA p25 (t33.2 : (List Kt)), stA a_v_law_state (r19.2 : T3 Int Script Int), lstA p3 (r2.1 : (List Int)), lstA p1 ([0, 1, 2] : (List Int)), RegistersA a_v_law_one v_law_one, dictT a_v_law_rows (v_law_rows : (List (Kt × ((Int × Str) × Any)))), lstA a_v_law_words (v_law_words : (List Str)), F] : List (Asn G)) := by rw [← hy37]; exact hS
            refine c_set (σ' := [some (.ref a_v_law_state), some (.ref a_v_law_one), some (.ref a_v_law_rows), some (.ref a_v_law_words), some (.int (x5)), some (.str (x21)), none, some (.ref p34), w10]) rfl ?_
            refine sq_nx ?_
            refine f_seq ?_
            refine c_asg ?_
            refine c_fz ?_
            refine c_meth ?_
            refine ev_to (ev_var rfl) ?_
            obtain ⟨d38, _, hO39⟩ := ins_Registers hS (i := 5) rfl
            refine ⟨_, _, _, rfl, hO39, rfl, ?_⟩
            refine ea_to (ea_cons (ev_var rfl) ea_nil) ?_
            refine ⟨a_v_law_one, (v_law_one : Registers), x21, star [lstA p34 (y37 : (List Kt)), lstA p25 (t33.2 : (List Kt)), stA a_v_law_state (r19.2 : T3 Int Script Int), lstA p3 (r2.1 : (List Int)), lstA p1 ([0, 1, 2] : (List Int)), dictT a_v_law_rows (v_law_rows : (List (Kt × ((Int × Str) × Any)))), lstA a_v_law_words (v_law_words : (List Str)), F], rfl, Sep.unstar (M := [RegistersA a_v_law_one v_law_one]) (hS.sel [5, 0, 1, 2, 3, 4, 6, 7, 8] (by decide) rfl : Sep H (([RegistersA a_v_law_one v_law_one] ++ [lstA p34 (y37 : (List Kt)), lstA p25 (t33.2 : (List Kt)), stA a_v_law_state (r19.2 : T3 Int Script Int), lstA p3 (r2.1 : (List Int)), lstA p1 ([0, 1, 2] : (List Int)), dictT a_v_law_rows (v_law_rows : (List (Kt × ((Int × Str) × Any)))), lstA a_v_law_words (v_law_words : (List Str)), F] : List (Asn G)))), R.wp_mono (R.wp_bind hm) (fun r40 hm p41 H hS => ?_) (fun _ z => z)⟩
            have hS : Sep H ([lstA p41 (r40 : (List Kt)), RegistersA a_v_law_one v_law_one, lstA p34 (y37 : (List Kt)), lstA p25 (t33.2 : (List Kt)), stA a_v_law_state (r19.2 : T3 Int Script Int), lstA p3 (r2.1 : (List Int)), lstA p1 ([0, 1, 2] : (List Int)), dictT a_v_law_rows (v_law_rows : (List (Kt × ((Int × Str) × Any)))), lstA a_v_law_words (v_law_words : (List Str)), F] : List (Asn G)) := Sep.star (M := [lstA p41 (r40 : (List Kt)), RegistersA a_v_law_one v_law_one]) hS
            refine fz_no ?_
            refine c_set (σ' := [some (.ref a_v_law_state), some (.ref a_v_law_one), some (.ref a_v_law_rows), some (.ref a_v_law_words), some (.int (x5)), some (.str (x21)), none, some (.ref p34), some (.ref p41)]) rfl ?_
            refine sq_nx ?_
            refine f_seq ?_
            refine f_if ?_
            refine f_and ?_
            refine et_to (et_test (ev_eqI (ev_var rfl) ev_c)) ?_
            refine andK_J hm hS (fun hb q hm nx => ?_) (fun b42 H hm hS => ?_)
            ·
              refine f_or ?_
              refine et_to (et_not (et_B (ev_isi (G := G) (x := (.ref p41)) (T := "list") (U := "list") (b := true) (ev_fz (ev_var rfl)) ev_c (ty_lst hS (i := 0) rfl) (by decide +kernel)))) ?_
              refine orK_f ?_
              obtain ⟨h43, hm⟩ := R.wp_need hm
              obtain ⟨h44, hm⟩ := R.wp_need hm
              refine et_to (et_test (ev_neP (G := G) (x := (r40 : (List Kt))) (y := y37) (ev_fz (ev_var rfl)) (ev_fz (ev_var rfl)) (dpOwn hS (i := 0) rfl) (dpOwn hS (i := 2) rfl) h43 h44 (Nat.le_of_ble_eq_true rfl))) ?_
              exact nx _ _ hm (hS.sel [0, 1, 2, 3, 4, 5, 6, 7, 8, 9] (by decide) rfl)
            ·
              obtain ⟨hy, hn⟩ := R.wp_if hm
              refine ifK_2 (fun hb45 => ?_) (fun hb45 => ?_)
              · have hm := hy hb45
                refine c_ret ?_
                refine ev_to ev_c ?_
                exact (ho11 _ hm) _ (hS.sel [4, 1, 7, 8, 9] (by decide) rfl)
              · have hm := hn (by first | (rw [hb45]; decide) | simpa using hb45)
                refine st_nx ?_
                refine sq_nx ?_
                refine f_seq ?_
                refine c_drop ?_
                refine c_bm ?_
                refine ev_to (ev_fz (ev_var rfl)) ⟨tyL hS (i := 0) rfl, ?_⟩
                refine c_cons ?_
                refine c_tup ?_
                refine ea_to (ea_cons ev_c ea_nil) ?_
                refine k_tupKt (xs := [("x" : Str)]) hS (by show 1 ≤ sizeLine; decide) fun p46 H hS => ?_
                refine c_nil ?_
                obtain ⟨h48, hm⟩ := R.wp_need hm
                refine k_append (x := (⟨[("x" : Str)]⟩ : Kt)) hS (i := 1) rfl (hS.im (i := 0) rfl) h48 rfl fun H hS => ?_
                refine sq_nx ?_
                refine f_if ?_
                refine f_and ?_
                refine et_to (et_test (ev_eqI (ev_var rfl) ev_c)) ?_
                refine andK_J hm hS (fun hb q hm nx => ?_) (fun b49 H hm hS => ?_)
                ·
                  refine f_test ?_
                  refine c_op ?_
                  refine c_fz ?_
                  refine c_meth ?_
                  refine ev_to (ev_var rfl) ?_
                  obtain ⟨d50, _, hO51⟩ := ins_Registers hS (i := 2) rfl
                  refine ⟨_, _, _, rfl, hO51, rfl, ?_⟩
                  refine ea_to (ea_cons (ev_var rfl) ea_nil) ?_
                  refine ⟨a_v_law_one, (v_law_one : Registers), x21, star [imA (.ref p46) ((⟨[("x" : Str)]⟩ : Kt) : Kt), lstA p41 (r40 ++ [(⟨[("x" : Str)]⟩ : Kt)] : (List Kt)), lstA p34 (y37 : (List Kt)), lstA p25 (t33.2 : (List Kt)), stA a_v_law_state (r19.2 : T3 Int Script Int), lstA p3 (r2.1 : (List Int)), lstA p1 ([0, 1, 2] : (List Int)), dictT a_v_law_rows (v_law_rows : (List (Kt × ((Int × Str) × Any)))), lstA a_v_law_words (v_law_words : (List Str)), F], rfl, Sep.unstar (M := [RegistersA a_v_law_one v_law_one]) (hS.sel [2, 0, 1, 3, 4, 5, 6, 7, 8, 9, 10] (by decide) rfl : Sep H (([RegistersA a_v_law_one v_law_one] ++ [imA (.ref p46) ((⟨[("x" : Str)]⟩ : Kt) : Kt), lstA p41 (r40 ++ [(⟨[("x" : Str)]⟩ : Kt)] : (List Kt)), lstA p34 (y37 : (List Kt)), lstA p25 (t33.2 : (List Kt)), stA a_v_law_state (r19.2 : T3 Int Script Int), lstA p3 (r2.1 : (List Int)), lstA p1 ([0, 1, 2] : (List Int)), dictT a_v_law_rows (v_law_rows : (List (Kt × ((Int × Str) × Any)))), lstA a_v_law_words (v_law_words : (List Str)), F] : List (Asn G)))), R.wp_mono (R.wp_bind hm) (fun r52 hm p53 H hS => ?_) (fun _ z => z)⟩
                  have hS : Sep H ([lstA p53 (r52 : (List Kt)), RegistersA a_v_law_one v_law_one, imA (.ref p46) ((⟨[("x" : Str)]⟩ : Kt) : Kt), lstA p41 (r40 ++ [(⟨[("x" : Str)]⟩ : Kt)] : (List Kt)), lstA p34 (y37 : (List Kt)), lstA p25 (t33.2 : (List Kt)), stA a_v_law_state (r19.2 : T3 Int Script Int), lstA p3 (r2.1 : (List Int)), lstA p1 ([0, 1, 2] : (List Int)), dictT a_v_law_rows (v_law_rows : (List (Kt × ((Int × Str) × Any)))), lstA a_v_law_words (v_law_words : (List Str)), F] : List (Asn G)) := Sep.star (M := [lstA p53 (r52 : (List Kt)), RegistersA a_v_law_one v_law_one]) hS
                  refine fz_no ?_
                  refine ev_to (ev_fz (ev_var rfl)) ?_
                  obtain ⟨h54, hm⟩ := R.wp_need hm
                  obtain ⟨h55, hm⟩ := R.wp_need hm
                  refine ev_op2 (ev_neP (G := G) (x := (r52 : (List Kt))) (y := y37) ev_c ev_c (dpOwn hS (i := 0) rfl) (dpOwn hS (i := 4) rfl) h54 h55 (Nat.le_of_ble_eq_true rfl)) ?_
                  refine f_bl ?_
                  exact nx _ _ hm (hS.sel [2, 3, 1, 4, 5, 6, 7, 8, 9, 10, 11] (by decide) rfl)
                ·
                  obtain ⟨hy, hn⟩ := R.wp_if hm
                  refine ifK_2 (fun hb56 => ?_) (fun hb56 => ?_)
                  · have hm := hy hb56
                    refine c_ret ?_
                    refine ev_to ev_c ?_
                    exact (ho11 _ hm) _ (hS.sel [5, 2, 8, 9, 10] (by decide) rfl)
                  · have hm := hn (by first | (rw [hb56]; decide) | simpa using hb56)
                    refine st_nx ?_
                    exact nx _ _ _ hm ⟨_, _, _, _, rfl, hS.sel [6, 5, 7, 2, 8, 9, 10] (by decide) rfl⟩
    · obtain ⟨w7, w8, w9, w10, rfl, hS⟩ := hI
      refine sq_nx ?_
      refine c_ret ?_
      refine ev_to ev_c ?_
      exact hm _ (hS.sel [1, 3, 4, 5, 6] (by decide) rfl)
def sp_law (G : Gx) : Sp := fun vs H Q E => ∃ (a_v_law_script : V) (v_law_script : Script) (F : Asn G), vs = [a_v_law_script] ∧ Im.im G H a_v_law_script v_law_script ∧ Sep H ([F] : List (Asn G)) ∧ R.wp (m_law v_law_script) (fun r => ∀ H', Sep H' ([F] : List (Asn G)) → Q (.bl (r)) H') (fun _ => False)
abbrev N_law : List Str := ["_law_script", "_law_state", "_law_base", "_law_words", "_law_both", "_law_rows", "_law_cell", "_law_k", "_law_key_here", "_law_clock", "_law_stamp", "_law_value", "_law_due", "_law_found", "_law_j"]
theorem sc_law : FnScope N_law ["_law_script"] (defScope s_law) := ⟨rfl, rfl, rfl, by decide +kernel, rfl, by decide +kernel, by decide +kernel⟩
theorem ok_law (T : Txt G mg) : FnOk P w G.K mg base CX0 4 T.a_law T.fd_law ["_law_script"] (sp_law G) := by
  have nd := sc_law.nd
  refine Fun.ok T.F_law sc_law (fun vs H Q E h => ?_) (fun cdv A outer s H vs Q E hr h => ?_)
  · obtain ⟨a_v_law_script, v_law_script, F, rfl, _⟩ := h; rfl
  · obtain ⟨a_v_law_script, v_law_script, F, rfl, him_v_law_script, hS, hm⟩ := h
    obtain ⟨ad_v_law_script, rfl, _⟩ := im_script him_v_law_script
    have hS := hS.addIm him_v_law_script
    refine ⟨_, (pss_cons (ps_set (i := 1) nd rfl (Or.inl rfl) (pe_call (ok_law_begin T) (hr.mono (by decide)) rfl T.g_law_begin T.kp_law_begin T.b_law_begin .nil pass0 (pa_cons (pv 0) pa_nil)))
      (pss_cons (ps_set (i := 2) nd rfl (Or.inl rfl) (pe_call (ok_law_any_word T) (hr.mono (by decide)) rfl T.g_law_any_word T.kp_law_any_word T.b_law_any_word .nil pass0 (pa_cons (pv 1) pa_nil)))
      (pss_cons (ps_set (i := 3) nd rfl (Or.inl rfl) (pe_fz (pe_lst (pa_cons (pv 2) (pa_cons (pe_op op_catS (pv 2) pe_str) (pa_cons (pe_op op_catS (pv 2) pe_str) (pa_cons (pe_slice sl_str (pv 2) po_none (po_some (pe_un un_neg pe_int))) (pa_cons (pe_call (ok_law_any_word T) (hr.mono (by decide)) rfl T.g_law_any_word T.kp_law_any_word T.b_law_any_word .nil pass0 (pa_cons (pv 1) pa_nil)) (pa_cons pe_str (pa_cons pe_str (pa_cons pe_str (pa_cons pe_str (pa_cons pe_str (pa_cons pe_str pa_nil))))))))))))))
      (pss_cons (ps_set (i := 4) nd rfl (Or.inl rfl) (pe_fz (pe_lst (pa_cons (pe_make0 T.k_Registers (ok_Registers___init__ T) (hr.mono (by decide)) rfl T.g_Registers T.b_Registers___init__ .nil pass0) (pa_cons (pe_make0 T.k_Registers (ok_Registers___init__ T) (hr.mono (by decide)) rfl T.g_Registers T.b_Registers___init__ .nil pass0) pa_nil)))))
      (pss_cons (ps_set (i := 5) nd rfl (Or.inl rfl) (pe_fz (pe_lst (pa_cons pe_dnewT (pa_cons pe_dnewT pa_nil)))))
      (pss_cons (ps_for PassesOwn.never rfl (pi_listK G.K (pe_fz (pe_slice (sl_listK G.K) (pv 0) po_none (po_some pe_int)))) (pg_name (i := 6) nd rfl (Or.inl rfl)) (pss_cons (ps_set (i := 7) nd rfl (Or.inl rfl) (pe_op op_mod (pe_call (ok_law_next T) (hr.mono (by decide)) rfl T.g_law_next T.kp_law_next T.b_law_next .nil pass0 (pa_cons (pv 1) pa_nil)) pe_int))
      (pss_cons (ps_set (i := 8) nd rfl (Or.inl rfl) (pe_call (ok_law_key T) (hr.mono (by decide)) rfl T.g_law_key T.kp_law_key T.b_law_key .nil pass0 (pa_cons (pv 1) (pa_cons (pe_fz (pv 3)) pa_nil))))
      (pss_cons (ps_set (i := 9) nd rfl (Or.inl rfl) (pe_op op_add pe_int (pe_op op_mod (pe_call (ok_law_next T) (hr.mono (by decide)) rfl T.g_law_next T.kp_law_next T.b_law_next .nil pass0 (pa_cons (pv 1) pa_nil)) (pe_ix (ix_listK G.K) (pe_fz (pe_lst (pa_cons pe_int (pa_cons pe_int (pa_cons (pe_op op_pow pe_int pe_int) pa_nil))))) (pe_op op_mod (pe_call (ok_law_next T) (hr.mono (by decide)) rfl T.g_law_next T.kp_law_next T.b_law_next .nil pass0 (pa_cons (pv 1) pa_nil)) pe_int) (fun _ _ => rfl)))))
      (pss_cons (ps_set (i := 10) nd rfl (Or.inl rfl) (pe_tup (pa_cons (pv 9) (pa_cons (pe_ix (ix_listK G.K) (pe_fz (pe_lst (pa_cons pe_str (pa_cons pe_str (pa_cons pe_str (pa_cons pe_str pa_nil)))))) (pe_op op_mod (pe_call (ok_law_next T) (hr.mono (by decide)) rfl T.g_law_next T.kp_law_next T.b_law_next .nil pass0 (pa_cons (pv 1) pa_nil)) pe_int) (fun _ _ => rfl)) pa_nil))))
      (pss_cons (ps_set (i := 11) nd rfl (Or.inl rfl) (pe_ix (ix_listK G.K) (pe_fz (pe_lst (pa_cons (pe_op op_mod (pe_call (ok_law_next T) (hr.mono (by decide)) rfl T.g_law_next T.kp_law_next T.b_law_next .nil pass0 (pa_cons (pv 1) pa_nil)) pe_int) (pa_cons pe_str (pa_cons pe_non (pa_cons pe_bl (pa_cons pe_bl (pa_cons (pe_tup (pa_cons pe_str (pa_cons pe_int pa_nil))) pa_nil)))))))) (pe_op op_mod (pe_call (ok_law_next T) (hr.mono (by decide)) rfl T.g_law_next T.kp_law_next T.b_law_next .nil pass0 (pa_cons (pv 1) pa_nil)) pe_int) (fun _ _ => rfl)))
      (pss_cons (ps_set (i := 12) nd rfl (Or.inl rfl) (pe_or (pe_cmp (pc_dnotin (hu_of hr) (pv 8) (pe_ix (ix_listK G.K) (pe_fz (pv 5)) (pv 7) (fun _ _ => rfl))) rfl) (pe_one (pe_cmpR (gtDtK G.K hr.units) (pv 10) (pe_ix (ix_tupK G.K) (pe_dget (hu_of hr) (pe_ix (ix_listK G.K) (pe_fz (pv 5)) (pv 7) (fun _ _ => rfl)) (pv 8) (fun _ _ => rfl)) pe_int (fun _ _ => rfl)) (nomark _)))))
      (pss_cons (ps_set (i := 13) nd rfl (Or.inl rfl) (pe_meth (pe_ix (ix_listK G.K) (pe_fz (pv 4)) (pv 7) (fun _ _ => rfl)) T.cl_Registers T.m_Registers_keep (ok_Registers_keep T) (hr.mono (by decide)) T.b_Registers_keep .nil pass0 (pa_cons (pv 8) (pa_cons (pv 10) (pa_cons (pv 11) pa_nil)))))
      (pss_cons (ps_if (PW.pt (pw_or (pt_not (pt_val (pe_callB (isiK G.K) (by rfl) T.z_isinstance (by decide +kernel) (pa_cons (pv 13) (pa_cons (pe_bltn (v := .ty "bool") (by rfl) T.z_bool (by decide +kernel) rfl) pa_nil))))) (pw_or1 (pt_cmpR op_ne (pv 13) (pv 12) (nomark _))))) (pss_one (ps_ret pe_bl)) pss_nil)
      (pss_cons (ps_if (pt_val (pv 12)) (pss_one (ps_asg (pe_tup (pa_cons (pv 10) (pa_cons (pv 11) pa_nil))) (pg_sub (pe_ix (ix_listK G.K) (pe_fz (pv 5)) (pv 7) (fun _ _ => rfl)) (pv 8) (set_dict (hu_of hr))))) pss_nil)
      (pss_one (ps_for PassesOwn.never rfl (pi_listK G.K (pe_fz (pe_lst (pa_cons (pv 7) (pa_cons (pe_op op_sub pe_int (pv 7)) pa_nil))))) (pg_name (i := 14) nd rfl (Or.inl rfl)) (pss_one (ps_if (PW.pt (pw_or (pt_not (pt_val (pe_call (ok_law_got T) (hr.mono (by decide)) rfl T.g_law_got T.kp_law_got T.b_law_got .nil pass0 (pa_cons (pv 1) (pa_cons (pe_ix (ix_listK G.K) (pe_fz (pv 4)) (pv 14) (fun _ _ => rfl)) (pa_cons (pe_ix (ix_listK G.K) (pe_fz (pv 5)) (pv 14) (fun _ _ => rfl)) (pa_cons (pv 8) pa_nil))))))) (pw_or1 (pt_not (pt_val (pe_call (ok_law_looked T) (hr.mono (by decide)) rfl T.g_law_looked T.kp_law_looked T.b_law_looked .nil pass0 (pa_cons (pv 1) (pa_cons (pe_ix (ix_listK G.K) (pe_fz (pv 4)) (pv 14) (fun _ _ => rfl)) (pa_cons (pe_ix (ix_listK G.K) (pe_fz (pv 5)) (pv 14) (fun _ _ => rfl)) (pa_cons (pe_fz (pv 3)) pa_nil)))))))))) (pss_one (ps_ret pe_bl)) pss_nil))))))))))))))
      (pss_one (ps_ret pe_bl)))))))), ?_⟩
    unfold m_law at hm
    refine f_seq ?_
    refine c_asg ?_
    refine c_call ?_
    refine ea_to (ea_cons (ev_var rfl) ea_nil) ?_
    refine ⟨_, v_law_script, star [imA (.ref ad_v_law_script) v_law_script, F], rfl, (hS.im (i := 0) rfl), Sep.unstar (M := []) (hS.sel [0, 1] (by decide) rfl : Sep H (([] ++ [imA (.ref ad_v_law_script) v_law_script, F] : List (Asn G)))), R.wp_mono (R.wp_bind hm) (fun r1 hm p2 H hS => ?_) (fun _ z => z)⟩
    have hS : Sep H ([stA p2 (r1 : T3 Int Script Int), imA (.ref ad_v_law_script) v_law_script, F] : List (Asn G)) := Sep.star (M := [stA p2 (r1 : T3 Int Script Int)]) hS
    refine c_set (σ' := [some (.ref ad_v_law_script), some (.ref p2), none, none, none, none, none, none, none, none, none, none, none, none, none]) rfl ?_
    refine sq_nx ?_
    refine f_seq ?_
    refine c_asg ?_
    refine c_call ?_
    refine ea_to (ea_cons (ev_var rfl) ea_nil) ?_
    refine ⟨p2, (r1 : (T3 Int Script Int)), star [imA (.ref ad_v_law_script) v_law_script, F], rfl, Sep.unstar (M := [stA p2 (r1 : T3 Int Script Int)]) (hS.sel [0, 1, 2] (by decide) rfl : Sep H (([stA p2 (r1 : T3 Int Script Int)] ++ [imA (.ref ad_v_law_script) v_law_script, F] : List (Asn G)))), R.wp_mono (R.wp_bind hm) (fun r3 hm H hS => ?_) (fun _ z => z)⟩
    have hS : Sep H ([stA p2 (r3.2 : T3 Int Script Int), imA (.ref ad_v_law_script) v_law_script, F] : List (Asn G)) := Sep.star (M := [stA p2 (r3.2 : T3 Int Script Int)]) hS
    refine c_set (σ' := [some (.ref ad_v_law_script), some (.ref p2), some (.str (r3.1)), none, none, none, none, none, none, none, none, none, none, none, none]) rfl ?_
    refine sq_nx ?_
    refine f_seq ?_
    refine c_asg ?_
    refine c_fz ?_
    refine c_lst ?_
    refine c_cons ?_
    refine ev_to (ev_var rfl) ?_
    refine c_cons ?_
    obtain ⟨h4, hm⟩ := R.wp_need hm
    refine ev_to (ev_catS (ev_var rfl) ev_c h4) ?_
    refine c_cons ?_
    obtain ⟨h5, hm⟩ := R.wp_need hm
    refine ev_to (ev_catS (ev_var rfl) ev_c h5) ?_
    refine c_cons ?_
    obtain ⟨h6, hm⟩ := R.wp_need hm
    refine ev_to (ev_slS (ev_var rfl) eo_no (eo_some (ev_un ev_c fun _ q => ⟨_, rfl, q⟩)) h6) ?_
    refine c_cons ?_
    refine c_call ?_
    refine ea_to (ea_cons (ev_var rfl) ea_nil) ?_
    refine ⟨p2, (r3.2 : (T3 Int Script Int)), star [imA (.ref ad_v_law_script) v_law_script, F], rfl, Sep.unstar (M := [stA p2 (r3.2 : T3 Int Script Int)]) (hS.sel [0, 1, 2] (by decide) rfl : Sep H (([stA p2 (r3.2 : T3 Int Script Int)] ++ [imA (.ref ad_v_law_script) v_law_script, F] : List (Asn G)))), R.wp_mono (R.wp_bind hm) (fun r7 hm H hS => ?_) (fun _ z => z)⟩
    have hS : Sep H ([stA p2 (r7.2 : T3 Int Script Int), imA (.ref ad_v_law_script) v_law_script, F] : List (Asn G)) := Sep.star (M := [stA p2 (r7.2 : T3 Int Script Int)]) hS
    refine c_cons ?_
    refine ev_to ev_c ?_
    refine c_cons ?_
    refine ev_to ev_c ?_
    refine c_cons ?_
    refine ev_to ev_c ?_
    refine c_cons ?_
    refine ev_to ev_c ?_
    refine c_cons ?_
    refine ev_to ev_c ?_
    refine c_cons ?_
    refine ev_to ev_c ?_
    refine c_nil ?_
    refine k_lst (α := Str) (vs := [(.str (r3.1)), (.str (r3.1 ++ ("a" : Str))), (.str (r3.1 ++ ("1" : Str))), (.str (cutS r3.1 none (some (-1)))), (.str (r7.1)), (.str (("mark" : Str))), (.str (("" : Str))), (.str (("a/b" : Str))), (.str (("a" : Str))), (.str (("b" : Str))), (.str (("a b" : Str)))]) (xs := [r3.1, r3.1 ++ ("a" : Str), r3.1 ++ ("1" : Str), cutS r3.1 none (some (-1)), r7.1, ("mark" : Str), ("" : Str), ("a/b" : Str), ("a" : Str), ("b" : Str), ("a b" : Str)]) hS ⟨rfl, ⟨rfl, ⟨rfl, ⟨rfl, ⟨rfl, ⟨rfl, ⟨rfl, ⟨rfl, ⟨rfl, ⟨rfl, ⟨rfl, True.intro⟩⟩⟩⟩⟩⟩⟩⟩⟩⟩⟩ (by show 11 ≤ sizeLine; decide) fun p8 H hS => ?_
    refine fz_no ?_
    obtain ⟨y9, hy9, hm⟩ := wp_let hm
    have hS : Sep H ([lstA p8 (y9 : (List Str)), stA p2 (r7.2 : T3 Int Script Int), imA (.ref ad_v_law_script) v_law_script, F] : List (Asn G)) := by rw [← hy9]; exact hS
    refine c_set (σ' := [some (.ref ad_v_law_script), some (.ref p2), some (.str (r3.1)), some (.ref p8), none, none, none, none, none, none, none, none, none, none, none]) rfl ?_
    refine sq_nx ?_
    refine f_seq ?_
    refine c_asg ?_
    refine c_fz ?_
    refine c_lst ?_
    refine c_cons ?_
    refine c_make ?_
    refine ea_to ea_nil ?_
    intro p10 d11 np nd ne
    have hS := hS.newI (C := G.cl 0) np nd ne (by rw [T.fz_Registers]; decide)
    refine ⟨p10, d11, star [lstA p8 (y9 : (List Str)), stA p2 (r7.2 : T3 Int Script Int), imA (.ref ad_v_law_script) v_law_script, F], rfl, Sep.unstar (M := [cell p10 (.ins (G.cl 0) d11 [])]) (hS.sel [0, 1, 2, 3, 4] (by decide) rfl : Sep _ (([cell p10 (.ins (G.cl 0) d11 [])] ++ [lstA p8 (y9 : (List Str)), stA p2 (r7.2 : T3 Int Script Int), imA (.ref ad_v_law_script) v_law_script, F] : List (Asn G)))), R.wp_mono (R.wp_bind hm) (fun r12 hm H hS => ⟨rfl, ?_⟩) (fun _ z => z)⟩
    have hS : Sep H ([RegistersA p10 r12, lstA p8 (y9 : (List Str)), stA p2 (r7.2 : T3 Int Script Int), imA (.ref ad_v_law_script) v_law_script, F] : List (Asn G)) := Sep.star (M := [RegistersA p10 r12]) hS
    refine c_cons ?_
    refine c_make ?_
    refine ea_to ea_nil ?_
    intro p13 d14 np nd ne
    have hS := hS.newI (C := G.cl 0) np nd ne (by rw [T.fz_Registers]; decide)
    refine ⟨p13, d14, star [RegistersA p10 r12, lstA p8 (y9 : (List Str)), stA p2 (r7.2 : T3 Int Script Int), imA (.ref ad_v_law_script) v_law_script, F], rfl, Sep.unstar (M := [cell p13 (.ins (G.cl 0) d14 [])]) (hS.sel [0, 1, 2, 3, 4, 5] (by decide) rfl : Sep _ (([cell p13 (.ins (G.cl 0) d14 [])] ++ [RegistersA p10 r12, lstA p8 (y9 : (List Str)), stA p2 (r7.2 : T3 Int Script Int), imA (.ref ad_v_law_script) v_law_script, F] : List (Asn G)))), R.wp_mono (R.wp_bind hm) (fun r15 hm H hS => ⟨rfl, ?_⟩) (fun _ z => z)⟩
    have hS : Sep H ([RegistersA p13 r15, RegistersA p10 r12, lstA p8 (y9 : (List Str)), stA p2 (r7.2 : T3 Int Script Int), imA (.ref ad_v_law_script) v_law_script, F] : List (Asn G)) := Sep.star (M := [RegistersA p13 r15]) hS
    refine c_nil ?_
    refine k_lstRaw hS (by show 2 ≤ sizeLine; decide) fun p16 H hS => ?_
    have hS : Sep H ([listE RegistersA p16 ([r12, r15] : (List Registers)), lstA p8 (y9 : (List Str)), stA p2 (r7.2 : T3 Int Script Int), imA (.ref ad_v_law_script) v_law_script, F] : List (Asn G)) := packE [p10, p13] rfl (hS.sel [0, 2, 1, 3, 4, 5, 6] (by decide) rfl)
    refine fz_no ?_
    obtain ⟨y17, hy17, hm⟩ := wp_let hm
    have hS : Sep H ([listE RegistersA p16 (y17 : (List Registers)), lstA p8 (y9 : (List Str)), stA p2 (r7.2 : T3 Int Script Int), imA (.ref ad_v_law_script) v_law_script, F] : List (Asn G)) := by rw [← hy17]; exact hS
    refine c_set (σ' := [some (.ref ad_v_law_script), some (.ref p2), some (.str (r3.1)), some (.ref p8), some (.ref p16), none, none, none, none, none, none, none, none, none, none]) rfl ?_
    refine sq_nx ?_
    refine f_seq ?_
    refine c_asg ?_
    refine c_fz ?_
    refine c_lst ?_
    refine c_cons ?_
    refine k_dnewT (β := ((Int × Str) × Any)) hS fun p18 H hS => ?_
    refine c_cons ?_
    refine k_dnewT (β := ((Int × Str) × Any)) hS fun p19 H hS => ?_
    refine c_nil ?_
    refine k_lstRaw hS (by show 2 ≤ sizeLine; decide) fun p20 H hS => ?_
    have hS : Sep H ([listE dictT p20 ([([] : (List (Kt × ((Int × Str) × Any)))), ([] : (List (Kt × ((Int × Str) × Any))))] : (List (List (Kt × ((Int × Str) × Any))))), listE RegistersA p16 (y17 : (List Registers)), lstA p8 (y9 : (List Str)), stA p2 (r7.2 : T3 Int Script Int), imA (.ref ad_v_law_script) v_law_script, F] : List (Asn G)) := packE [p18, p19] rfl (hS.sel [0, 2, 1, 3, 4, 5, 6, 7] (by decide) rfl)
    refine fz_no ?_
    obtain ⟨y21, hy21, hm⟩ := wp_let hm
    have hS : Sep H ([listE dictT p20 (y21 : (List (List (Kt × ((Int × Str) × Any))))), listE RegistersA p16 (y17 : (List Registers)), lstA p8 (y9 : (List Str)), stA p2 (r7.2 : T3 Int Script Int), imA (.ref ad_v_law_script) v_law_script, F] : List (Asn G)) := by rw [← hy21]; exact hS
    refine c_set (σ' := [some (.ref ad_v_law_script), some (.ref p2), some (.str (r3.1)), some (.ref p8), some (.ref p16), some (.ref p20), none, none, none, none, none, none, none, none, none]) rfl ?_
    refine sq_nx ?_
    refine f_seq ?_
    refine c_for ?_
    refine c_il ?_
    refine c_fz ?_
    refine c_sl ?_
    refine ev_to (ev_var rfl) ?_
    refine eo_to eo_no ?_
    refine eo_to (eo_some ev_c) ?_
    refine k_slG (xs := v_law_script.ns) hS (read_script ((hS.im (i := 4) rfl))) fun p22 H hS => ?_
    refine fz_no ?_
    refine k_il hS (i := 0) rfl ?_
    refine k_forF (τ := (T3 Int Script Int) × (List Registers) × (List (List (Kt × ((Int × Str) × Any))))) (fun (s23 : (T3 Int Script Int) × (List Registers) × (List (List (Kt × ((Int × Str) × Any))))) (σ : L2.St) (H : Hp) => ∃ (w26 w27 w28 w29 w30 w31 w32 w33 w34 : Option V), σ = [some (.ref ad_v_law_script), some (.ref p2), some (.str (r3.1)), some (.ref p8), some (.ref p16), some (.ref p20), w26, w27, w28, w29, w30, w31, w32, w33, w34] ∧ Sep H ([lstA p22 (cutL v_law_script.ns none (some (60)) : (List Int)), listE dictT p20 (s23.2.2 : (List (List (Kt × ((Int × Str) × Any))))), listE RegistersA p16 (s23.2.1 : (List Registers)), lstA p8 (y9 : (List Str)), stA p2 (s23.1 : T3 Int Script Int), imA (.ref ad_v_law_script) v_law_script, F] : List (Asn G))) (im := (Im.im G)) (s := (r7.2, y17, y21)) (fun _ => wk_list fun _ _ ⟨_, _, _, _, _, _, _, _, _, _, h⟩ => h.sq (i := 0) rfl) ⟨_, _, _, _, _, _, _, _, _, rfl, hS.sel [0, 1, 2, 3, 4, 5, 6] (by decide) rfl⟩ hm (fun s23 x24 v25 σ H q N B hI hx hm nx bk ho35 => ?_) (fun s23 σ H hm hI => ?_)
    ·
      obtain ⟨w26, w27, w28, w29, w30, w31, w32, w33, w34, rfl, hS⟩ := hI
      cases hx
      refine c_gN (σ' := [some (.ref ad_v_law_script), some (.ref p2), some (.str (r3.1)), some (.ref p8), some (.ref p16), some (.ref p20), some (.int (x24)), w27, w28, w29, w30, w31, w32, w33, w34]) rfl ?_
      refine f_seq ?_
      refine c_asg ?_
      refine c_op ?_
      refine c_call ?_
      refine ea_to (ea_cons (ev_var rfl) ea_nil) ?_
      refine ⟨p2, (s23.1 : (T3 Int Script Int)), star [lstA p22 (cutL v_law_script.ns none (some (60)) : (List Int)), listE dictT p20 (s23.2.2 : (List (List (Kt × ((Int × Str) × Any))))), listE RegistersA p16 (s23.2.1 : (List Registers)), lstA p8 (y9 : (List Str)), imA (.ref ad_v_law_script) v_law_script, F], rfl, Sep.unstar (M := [stA p2 (s23.1 : T3 Int Script Int)]) (hS.sel [4, 0, 1, 2, 3, 5, 6] (by decide) rfl : Sep H (([stA p2 (s23.1 : T3 Int Script Int)] ++ [lstA p22 (cutL v_law_script.ns none (some (60)) : (List Int)), listE dictT p20 (s23.2.2 : (List (List (Kt × ((Int × Str) × Any))))), listE RegistersA p16 (s23.2.1 : (List Registers)), lstA p8 (y9 : (List Str)), imA (.ref ad_v_law_script) v_law_script, F] : List (Asn G)))), R.wp_mono (R.wp_bind hm) (fun r36 hm H hS => ?_) (fun _ z => z)⟩
      have hS : Sep H ([stA p2 (r36.2 : T3 Int Script Int), lstA p22 (cutL v_law_script.ns none (some (60)) : (List Int)), listE dictT p20 (s23.2.2 : (List (List (Kt × ((Int × Str) × Any))))), listE RegistersA p16 (s23.2.1 : (List Registers)), lstA p8 (y9 : (List Str)), imA (.ref ad_v_law_script) v_law_script, F] : List (Asn G)) := Sep.star (M := [stA p2 (r36.2 : T3 Int Script Int)]) hS
      refine ev_to ev_c ?_
      refine r_mod (by decide) ?_
      obtain ⟨y37, hy37, hm⟩ := wp_let hm
      refine n_is (w := (.int (y37))) (by rw [hy37]) ?_
      refine c_set (σ' := [some (.ref ad_v_law_script), some (.ref p2), some (.str (r3.1)), some (.ref p8), some (.ref p16), some (.ref p20), some (.int (x24)), some (.int (y37)), w28, w29, w30, w31, w32, w33, w34]) rfl ?_
      refine sq_nx ?_
      refine f_seq ?_
      refine c_asg ?_
      refine c_call ?_
      refine ea_to (ea_cons (ev_var rfl) (ea_cons (ev_fz (ev_var rfl)) ea_nil)) ?_
      refine ⟨p2, (r36.2 : (T3 Int Script Int)), p8, (y9 : (List Str)), star [lstA p22 (cutL v_law_script.ns none (some (60)) : (List Int)), listE dictT p20 (s23.2.2 : (List (List (Kt × ((Int × Str) × Any))))), listE RegistersA p16 (s23.2.1 : (List Registers)), imA (.ref ad_v_law_script) v_law_script, F], rfl, Sep.unstar (M := [stA p2 (r36.2 : T3 Int Script Int), lstA p8 (y9 : (List Str))]) (hS.sel [0, 4, 1, 2, 3, 5, 6] (by decide) rfl : Sep H (([stA p2 (r36.2 : T3 Int Script Int), lstA p8 (y9 : (List Str))] ++ [lstA p22 (cutL v_law_script.ns none (some (60)) : (List Int)), listE dictT p20 (s23.2.2 : (List (List (Kt × ((Int × Str) × Any))))), listE RegistersA p16 (s23.2.1 : (List Registers)), imA (.ref ad_v_law_script) v_law_script, F] : List (Asn G)))), R.wp_mono (R.wp_bind hm) (fun r38 hm p39 H hS => ?_) (fun _ z => z)⟩
      have hS : Sep H ([imA (.ref p39) (r38.1 : Kt), stA p2 (r38.2 : T3 Int Script Int), lstA p8 (y9 : (List Str)), lstA p22 (cutL v_law_script.ns none (some (60)) : (List Int)), listE dictT p20 (s23.2.2 : (List (List (Kt × ((Int × Str) × Any))))), listE RegistersA p16 (s23.2.1 : (List Registers)), imA (.ref ad_v_law_script) v_law_script, F] : List (Asn G)) := Sep.star (M := [imA (.ref p39) (r38.1 : Kt), stA p2 (r38.2 : T3 Int Script Int), lstA p8 (y9 : (List Str))]) hS
      refine c_set (σ' := [some (.ref ad_v_law_script), some (.ref p2), some (.str (r3.1)), some (.ref p8), some (.ref p16), some (.ref p20), some (.int (x24)), some (.int (y37)), some (.ref p39), w29, w30, w31, w32, w33, w34]) rfl ?_
      refine sq_nx ?_
      refine f_seq ?_
      refine c_asg ?_
      refine c_op ?_
      refine ev_to ev_c ?_
      refine c_op ?_
      refine c_call ?_
      refine ea_to (ea_cons (ev_var rfl) ea_nil) ?_
      refine ⟨p2, (r38.2 : (T3 Int Script Int)), star [imA (.ref p39) (r38.1 : Kt), lstA p8 (y9 : (List Str)), lstA p22 (cutL v_law_script.ns none (some (60)) : (List Int)), listE dictT p20 (s23.2.2 : (List (List (Kt × ((Int × Str) × Any))))), listE RegistersA p16 (s23.2.1 : (List Registers)), imA (.ref ad_v_law_script) v_law_script, F], rfl, Sep.unstar (M := [stA p2 (r38.2 : T3 Int Script Int)]) (hS.sel [1, 0, 2, 3, 4, 5, 6, 7] (by decide) rfl : Sep H (([stA p2 (r38.2 : T3 Int Script Int)] ++ [imA (.ref p39) (r38.1 : Kt), lstA p8 (y9 : (List Str)), lstA p22 (cutL v_law_script.ns none (some (60)) : (List Int)), listE dictT p20 (s23.2.2 : (List (List (Kt × ((Int × Str) × Any))))), listE RegistersA p16 (s23.2.1 : (List Registers)), imA (.ref ad_v_law_script) v_law_script, F] : List (Asn G)))), R.wp_mono (R.wp_bind hm) (fun r41 hm H hS => ?_) (fun _ z => z)⟩
      have hS : Sep H ([stA p2 (r41.2 : T3 Int Script Int), imA (.ref p39) (r38.1 : Kt), lstA p8 (y9 : (List Str)), lstA p22 (cutL v_law_script.ns none (some (60)) : (List Int)), listE dictT p20 (s23.2.2 : (List (List (Kt × ((Int × Str) × Any))))), listE RegistersA p16 (s23.2.1 : (List Registers)), imA (.ref ad_v_law_script) v_law_script, F] : List (Asn G)) := Sep.star (M := [stA p2 (r41.2 : T3 Int Script Int)]) hS
      refine c_op ?_
      refine c_fz ?_
      refine c_lst ?_
      refine ea_to (ea_cons ev_c (ea_cons ev_c (ea_cons (ev_powC ev_c ev_c (by unfold CPow; decide)) ea_nil))) ?_
      refine k_lst (α := Int) (vs := [(.int (4)), (.int (4)), (.int (10 ^ (6 : Int).toNat))]) (xs := [4, 4, 10 ^ (6 : Int).toNat]) hS ⟨rfl, ⟨rfl, ⟨rfl, True.intro⟩⟩⟩ (by show 3 ≤ sizeLine; decide) fun p42 H hS => ?_
      refine fz_no ?_
      refine c_op ?_
      refine c_call ?_
      refine ea_to (ea_cons (ev_var rfl) ea_nil) ?_
      refine ⟨p2, (r41.2 : (T3 Int Script Int)), star [lstA p42 ([4, 4, 10 ^ (6 : Int).toNat] : (List Int)), imA (.ref p39) (r38.1 : Kt), lstA p8 (y9 : (List Str)), lstA p22 (cutL v_law_script.ns none (some (60)) : (List Int)), listE dictT p20 (s23.2.2 : (List (List (Kt × ((Int × Str) × Any))))), listE RegistersA p16 (s23.2.1 : (List Registers)), imA (.ref ad_v_law_script) v_law_script, F], rfl, Sep.unstar (M := [stA p2 (r41.2 : T3 Int Script Int)]) (hS.sel [1, 0, 2, 3, 4, 5, 6, 7, 8] (by decide) rfl : Sep H (([stA p2 (r41.2 : T3 Int Script Int)] ++ [lstA p42 ([4, 4, 10 ^ (6 : Int).toNat] : (List Int)), imA (.ref p39) (r38.1 : Kt), lstA p8 (y9 : (List Str)), lstA p22 (cutL v_law_script.ns none (some (60)) : (List Int)), listE dictT p20 (s23.2.2 : (List (List (Kt × ((Int × Str) × Any))))), listE RegistersA p16 (s23.2.1 : (List Registers)), imA (.ref ad_v_law_script) v_law_script, F] : List (Asn G)))), R.wp_mono (R.wp_bind hm) (fun r43 hm H hS => ?_) (fun _ z => z)⟩
      have hS : Sep H ([stA p2 (r43.2 : T3 Int Script Int), lstA p42 ([4, 4, 10 ^ (6 : Int).toNat] : (List Int)), imA (.ref p39) (r38.1 : Kt), lstA p8 (y9 : (List Str)), lstA p22 (cutL v_law_script.ns none (some (60)) : (List Int)), listE dictT p20 (s23.2.2 : (List (List (Kt × ((Int × Str) × Any))))), listE RegistersA p16 (s23.2.1 : (List Registers)), imA (.ref ad_v_law_script) v_law_script, F] : List (Asn G)) := Sep.star (M := [stA p2 (r43.2 : T3 Int Script Int)]) hS
      refine ev_to ev_c ?_
      refine r_mod (by decide) ?_
      obtain ⟨x44, hx44, hm⟩ := wp_idx hm
      refine r_ixSq (hS.sqF (i := 1) rfl) (atI_map hx44) _ ?_
      obtain ⟨h45, hm⟩ := R.wp_need hm
      refine r_mod h45 ?_
      refine r_I0 _ ?_
      obtain ⟨y46, hy46, hm⟩ := wp_let hm
      refine n_is (w := (.int (y46))) (by rw [hy46]) ?_
      refine c_set (σ' := [some (.ref ad_v_law_script), some (.ref p2), some (.str (r3.1)), some (.ref p8), some (.ref p16), some (.ref p20), some (.int (x24)), some (.int (y37)), some (.ref p39), some (.int (y46)), w30, w31, w32, w33, w34]) rfl ?_
      refine sq_nx ?_
      refine f_seq ?_
      refine c_asg ?_
      refine c_tup ?_
      refine c_cons ?_
      refine ev_to (ev_var rfl) ?_
      refine c_cons ?_
      refine c_op ?_
      refine c_fz ?_
      refine c_lst ?_
      refine ea_to (ea_cons ev_c (ea_cons ev_c (ea_cons ev_c (ea_cons ev_c ea_nil)))) ?_
      refine k_lst (α := Str) (vs := [(.str (("ann" : Str))), (.str (("an" : Str))), (.str (("b" : Str))), (.str (("annz" : Str)))]) (xs := [("ann" : Str), ("an" : Str), ("b" : Str), ("annz" : Str)]) hS ⟨rfl, ⟨rfl, ⟨rfl, ⟨rfl, True.intro⟩⟩⟩⟩ (by show 4 ≤ sizeLine; decide) fun p47 H hS => ?_
      refine fz_no ?_
      refine c_op ?_
      refine c_call ?_
      refine ea_to (ea_cons (ev_var rfl) ea_nil) ?_
      refine ⟨p2, (r43.2 : (T3 Int Script Int)), star [lstA p47 ([("ann" : Str), ("an" : Str), ("b" : Str), ("annz" : Str)] : (List Str)), lstA p42 ([4, 4, 10 ^ (6 : Int).toNat] : (List Int)), imA (.ref p39) (r38.1 : Kt), lstA p8 (y9 : (List Str)), lstA p22 (cutL v_law_script.ns none (some (60)) : (List Int)), listE dictT p20 (s23.2.2 : (List (List (Kt × ((Int × Str) × Any))))), listE RegistersA p16 (s23.2.1 : (List Registers)), imA (.ref ad_v_law_script) v_law_script, F], rfl, Sep.unstar (M := [stA p2 (r43.2 : T3 Int Script Int)]) (hS.sel [1, 0, 2, 3, 4, 5, 6, 7, 8, 9] (by decide) rfl : Sep H (([stA p2 (r43.2 : T3 Int Script Int)] ++ [lstA p47 ([("ann" : Str), ("an" : Str), ("b" : Str), ("annz" : Str)] : (List Str)), lstA p42 ([4, 4, 10 ^ (6 : Int).toNat] : (List Int)), imA (.ref p39) (r38.1 : Kt), lstA p8 (y9 : (List Str)), lstA p22 (cutL v_law_script.ns none (some (60)) : (List Int)), listE dictT p20 (s23.2.2 : (List (List (Kt × ((Int × Str) × Any))))), listE RegistersA p16 (s23.2.1 : (List Registers)), imA (.ref ad_v_law_script) v_law_script, F] : List (Asn G)))), R.wp_mono (R.wp_bind hm) (fun r48 hm H hS => ?_) (fun _ z => z)⟩
      have hS : Sep H ([stA p2 (r48.2 : T3 Int Script Int), lstA p47 ([("ann" : Str), ("an" : Str), ("b" : Str), ("annz" : Str)] : (List Str)), lstA p42 ([4, 4, 10 ^ (6 : Int).toNat] : (List Int)), imA (.ref p39) (r38.1 : Kt), lstA p8 (y9 : (List Str)), lstA p22 (cutL v_law_script.ns none (some (60)) : (List Int)), listE dictT p20 (s23.2.2 : (List (List (Kt × ((Int × Str) × Any))))), listE RegistersA p16 (s23.2.1 : (List Registers)), imA (.ref ad_v_law_script) v_law_script, F] : List (Asn G)) := Sep.star (M := [stA p2 (r48.2 : T3 Int Script Int)]) hS
      refine ev_to ev_c ?_
      refine r_mod (by decide) ?_
      obtain ⟨x49, hx49, hm⟩ := wp_idx hm
      refine r_ixSq (hS.sqF (i := 1) rfl) (atI_map hx49) _ ?_
      refine c_nil ?_
      refine k_tupP (x := ((y46, x49) : (Int × Str))) hS (fun H' p h s => mk2 rfl rfl h s) (by show 2 ≤ sizeLine; decide) fun p50 H hS => ?_
      refine c_set (σ' := [some (.ref ad_v_law_script), some (.ref p2), some (.str (r3.1)), some (.ref p8), some (.ref p16), some (.ref p20), some (.int (x24)), some (.int (y37)), some (.ref p39), some (.int (y46)), some (.ref p50), w31, w32, w33, w34]) rfl ?_
      refine sq_nx ?_
      refine f_seq ?_
      refine c_asg ?_
      refine c_op ?_
      refine c_fz ?_
      refine c_lst ?_
      refine c_cons ?_
      refine c_op ?_
      refine c_call ?_
      refine ea_to (ea_cons (ev_var rfl) ea_nil) ?_
      refine ⟨p2, (r48.2 : (T3 Int Script Int)), star [imA (.ref p50) ((y46, x49) : (Int × Str)), lstA p47 ([("ann" : Str), ("an" : Str), ("b" : Str), ("annz" : Str)] : (List Str)), lstA p42 ([4, 4, 10 ^ (6 : Int).toNat] : (List Int)), imA (.ref p39) (r38.1 : Kt), lstA p8 (y9 : (List Str)), lstA p22 (cutL v_law_script.ns none (some (60)) : (List Int)), listE dictT p20 (s23.2.2 : (List (List (Kt × ((Int × Str) × Any))))), listE RegistersA p16 (s23.2.1 : (List Registers)), imA (.ref ad_v_law_script) v_law_script, F], rfl, Sep.unstar (M := [stA p2 (r48.2 : T3 Int Script Int)]) (hS.sel [1, 0, 2, 3, 4, 5, 6, 7, 8, 9, 10] (by decide) rfl : Sep H (([stA p2 (r48.2 : T3 Int Script Int)] ++ [imA (.ref p50) ((y46, x49) : (Int × Str)), lstA p47 ([("ann" : Str), ("an" : Str), ("b" : Str), ("annz" : Str)] : (List Str)), lstA p42 ([4, 4, 10 ^ (6 : Int).toNat] : (List Int)), imA (.ref p39) (r38.1 : Kt), lstA p8 (y9 : (List Str)), lstA p22 (cutL v_law_script.ns none (some (60)) : (List Int)), listE dictT p20 (s23.2.2 : (List (List (Kt × ((Int × Str) × Any))))), listE RegistersA p16 (s23.2.1 : (List Registers)), imA (.ref ad_v_law_script) v_law_script, F] : List (Asn G)))), R.wp_mono (R.wp_bind hm) (fun r52 hm H hS => ?_) (fun _ z => z)⟩
      have hS : Sep H ([stA p2 (r52.2 : T3 Int Script Int), imA (.ref p50) ((y46, x49) : (Int × Str)), lstA p47 ([("ann" : Str), ("an" : Str), ("b" : Str), ("annz" : Str)] : (List Str)), lstA p42 ([4, 4, 10 ^ (6 : Int).toNat] : (List Int)), imA (.ref p39) (r38.1 : Kt), lstA p8 (y9 : (List Str)), lstA p22 (cutL v_law_script.ns none (some (60)) : (List Int)), listE dictT p20 (s23.2.2 : (List (List (Kt × ((Int × Str) × Any))))), listE RegistersA p16 (s23.2.1 : (List Registers)), imA (.ref ad_v_law_script) v_law_script, F] : List (Asn G)) := Sep.star (M := [stA p2 (r52.2 : T3 Int Script Int)]) hS
      refine ev_to ev_c ?_
      refine r_mod (by decide) ?_
      refine c_cons ?_
      refine ev_to ev_c ?_
      refine c_cons ?_
      refine ev_to ev_c ?_
      refine c_cons ?_
      refine ev_to ev_c ?_
      refine c_cons ?_
      refine ev_to ev_c ?_
      refine c_cons ?_
      refine c_tup ?_
      refine ea_to (ea_cons ev_c (ea_cons ev_c ea_nil)) ?_
      refine k_tupA (vs := [(.str (("a" : Str))), (.int (1))]) (xs := [(Any.str ("a" : Str)), (Any.int 1)]) hS ⟨(any_str.mpr rfl), ⟨(any_int.mpr rfl), True.intro⟩⟩ (by show 2 ≤ sizeLine; decide) fun p53 H hS => ?_
      refine c_nil ?_
      refine k_lst (α := Any) (vs := [(.int (r52.1 % 3)), (.str (("w" : Str))), .non, (.bl (true)), (.bl (false)), (.ref p53)]) (xs := [(Any.int (r52.1 % 3)), (Any.str ("w" : Str)), Any.non, (Any.bl true), (Any.bl false), (Any.tup [(Any.str ("a" : Str)), (Any.int 1)])]) hS ⟨(any_int.mpr rfl), ⟨(any_str.mpr rfl), ⟨(any_non.mpr rfl), ⟨(any_bl.mpr rfl), ⟨(any_bl.mpr rfl), ⟨(hS.im (i := 0) rfl), True.intro⟩⟩⟩⟩⟩⟩ (by show 6 ≤ sizeLine; decide) fun p55 H hS => ?_
      refine fz_no ?_
      refine c_op ?_
      refine c_call ?_
      refine ea_to (ea_cons (ev_var rfl) ea_nil) ?_
      refine ⟨p2, (r52.2 : (T3 Int Script Int)), star [lstA p55 ([(Any.int (r52.1 % 3)), (Any.str ("w" : Str)), Any.non, (Any.bl true), (Any.bl false), (Any.tup [(Any.str ("a" : Str)), (Any.int 1)])] : (List Any)), imA (.ref p53) ((Any.tup [(Any.str ("a" : Str)), (Any.int 1)]) : Any), imA (.ref p50) ((y46, x49) : (Int × Str)), lstA p47 ([("ann" : Str), ("an" : Str), ("b" : Str), ("annz" : Str)] : (List Str)), lstA p42 ([4, 4, 10 ^ (6 : Int).toNat] : (List Int)), imA (.ref p39) (r38.1 : Kt), lstA p8 (y9 : (List Str)), lstA p22 (cutL v_law_script.ns none (some (60)) : (List Int)), listE dictT p20 (s23.2.2 : (List (List (Kt × ((Int × Str) × Any))))), listE RegistersA p16 (s23.2.1 : (List Registers)), imA (.ref ad_v_law_script) v_law_script, F], rfl, Sep.unstar (M := [stA p2 (r52.2 : T3 Int Script Int)]) (hS.sel [2, 0, 1, 3, 4, 5, 6, 7, 8, 9, 10, 11, 12] (by decide) rfl : Sep H (([stA p2 (r52.2 : T3 Int Script Int)] ++ [lstA p55 ([(Any.int (r52.1 % 3)), (Any.str ("w" : Str)), Any.non, (Any.bl true), (Any.bl false), (Any.tup [(Any.str ("a" : Str)), (Any.int 1)])] : (List Any)), imA (.ref p53) ((Any.tup [(Any.str ("a" : Str)), (Any.int 1)]) : Any), imA (.ref p50) ((y46, x49) : (Int × Str)), lstA p47 ([("ann" : Str), ("an" : Str), ("b" : Str), ("annz" : Str)] : (List Str)), lstA p42 ([4, 4, 10 ^ (6 : Int).toNat] : (List Int)), imA (.ref p39) (r38.1 : Kt), lstA p8 (y9 : (List Str)), lstA p22 (cutL v_law_script.ns none (some (60)) : (List Int)), listE dictT p20 (s23.2.2 : (List (List (Kt × ((Int × Str) × Any))))), listE RegistersA p16 (s23.2.1 : (List Registers)), imA (.ref ad_v_law_script) v_law_script, F] : List (Asn G)))), R.wp_mono (R.wp_bind hm) (fun r56 hm H hS => ?_) (fun _ z => z)⟩
      have hS : Sep H ([stA p2 (r56.2 : T3 Int Script Int), lstA p55 ([(Any.int (r52.1 % 3)), (Any.str ("w" : Str)), Any.non, (Any.bl true), (Any.bl false), (Any.tup [(Any.str ("a" : Str)), (Any.int 1)])] : (List Any)), imA (.ref p53) ((Any.tup [(Any.str ("a" : Str)), (Any.int 1)]) : Any), imA (.ref p50) ((y46, x49) : (Int × Str)), lstA p47 ([("ann" : Str), ("an" : Str), ("b" : Str), ("annz" : Str)] : (List Str)), lstA p42 ([4, 4, 10 ^ (6 : Int).toNat] : (List Int)), imA (.ref p39) (r38.1 : Kt), lstA p8 (y9 : (List Str)), lstA p22 (cutL v_law_script.ns none (some (60)) : (List Int)), listE dictT p20 (s23.2.2 : (List (List (Kt × ((Int × Str) × Any))))), listE RegistersA p16 (s23.2.1 : (List Registers)), imA (.ref ad_v_law_script) v_law_script, F] : List (Asn G)) := Sep.star (M := [stA p2 (r56.2 : T3 Int Script Int)]) hS
      refine ev_to ev_c ?_
      refine r_mod (by decide) ?_
      obtain ⟨x57, hx57, hm⟩ := wp_idx hm
      obtain ⟨vs58, hq59, hM60⟩ := hS.sq (i := 1) rfl
      obtain ⟨u61, hu62, hi63⟩ := atI_im hM60 hx57
      refine r_ixSq hq59 hu62 _ ?_
      have hS := hS.addIm (v := u61) (x := (x57 : Any)) hi63
      refine c_set (σ' := [some (.ref ad_v_law_script), some (.ref p2), some (.str (r3.1)), some (.ref p8), some (.ref p16), some (.ref p20), some (.int (x24)), some (.int (y37)), some (.ref p39), some (.int (y46)), some (.ref p50), some u61, w32, w33, w34]) rfl ?_
      refine sq_nx ?_
      refine f_seq ?_
      refine c_asg ?_
      refine f_orV ?_
      refine c_dni ?_
      refine ev_to (ev_var rfl) ?_
      refine k_dni1 ?_
      refine c_op ?_
      refine ev_to (ev_fz (ev_var rfl)) ?_
      refine ev_to (ev_var rfl) ?_
      obtain ⟨j65, x66, hx66, hm⟩ := wp_ixJ hm
      refine ixK (x := (x66 : (List (Kt × ((Int × Str) × Any))))) (hS.sel [10, 0, 1, 2, 3, 4, 5, 6, 7, 8, 9, 11, 12, 13] (by decide) rfl : Sep H (listE dictT p20 (s23.2.2 : (List (List (Kt × ((Int × Str) × Any))))) :: [imA u61 (x57 : Any), stA p2 (r56.2 : T3 Int Script Int), lstA p55 ([(Any.int (r52.1 % 3)), (Any.str ("w" : Str)), Any.non, (Any.bl true), (Any.bl false), (Any.tup [(Any.str ("a" : Str)), (Any.int 1)])] : (List Any)), imA (.ref p53) ((Any.tup [(Any.str ("a" : Str)), (Any.int 1)]) : Any), imA (.ref p50) ((y46, x49) : (Int × Str)), lstA p47 ([("ann" : Str), ("an" : Str), ("b" : Str), ("annz" : Str)] : (List Str)), lstA p42 ([4, 4, 10 ^ (6 : Int).toNat] : (List Int)), imA (.ref p39) (r38.1 : Kt), lstA p8 (y9 : (List Str)), lstA p22 (cutL v_law_script.ns none (some (60)) : (List Int)), listE RegistersA p16 (s23.2.1 : (List Registers)), imA (.ref ad_v_law_script) v_law_script, F] : List (Asn G))) hx66 fun ps67 p68 hl69 hp70 hS => ?_
      have hS : Sep H ([dictT p68 (x66 : (List (Kt × ((Int × Str) × Any)))), listH dictT p20 ps67 (s23.2.2 : (List (List (Kt × ((Int × Str) × Any))))) j65, imA u61 (x57 : Any), stA p2 (r56.2 : T3 Int Script Int), lstA p55 ([(Any.int (r52.1 % 3)), (Any.str ("w" : Str)), Any.non, (Any.bl true), (Any.bl false), (Any.tup [(Any.str ("a" : Str)), (Any.int 1)])] : (List Any)), imA (.ref p53) ((Any.tup [(Any.str ("a" : Str)), (Any.int 1)]) : Any), imA (.ref p50) ((y46, x49) : (Int × Str)), lstA p47 ([("ann" : Str), ("an" : Str), ("b" : Str), ("annz" : Str)] : (List Str)), lstA p42 ([4, 4, 10 ^ (6 : Int).toNat] : (List Int)), imA (.ref p39) (r38.1 : Kt), lstA p8 (y9 : (List Str)), lstA p22 (cutL v_law_script.ns none (some (60)) : (List Int)), listE RegistersA p16 (s23.2.1 : (List Registers)), imA (.ref ad_v_law_script) v_law_script, F] : List (Asn G)) := hS
      refine k_dniT hS (i := 0) rfl (hS.im (i := 9) rfl) ?_
      have hS : Sep H ([listE dictT p20 (s23.2.2 : (List (List (Kt × ((Int × Str) × Any))))), imA u61 (x57 : Any), stA p2 (r56.2 : T3 Int Script Int), lstA p55 ([(Any.int (r52.1 % 3)), (Any.str ("w" : Str)), Any.non, (Any.bl true), (Any.bl false), (Any.tup [(Any.str ("a" : Str)), (Any.int 1)])] : (List Any)), imA (.ref p53) ((Any.tup [(Any.str ("a" : Str)), (Any.int 1)]) : Any), imA (.ref p50) ((y46, x49) : (Int × Str)), lstA p47 ([("ann" : Str), ("an" : Str), ("b" : Str), ("annz" : Str)] : (List Str)), lstA p42 ([4, 4, 10 ^ (6 : Int).toNat] : (List Int)), imA (.ref p39) (r38.1 : Kt), lstA p8 (y9 : (List Str)), lstA p22 (cutL v_law_script.ns none (some (60)) : (List Int)), listE RegistersA p16 (s23.2.1 : (List Registers)), imA (.ref ad_v_law_script) v_law_script, F] : List (Asn G)) := unfocus0 hl69 hp70 hx66.2 (hS.sel [0, 1, 2, 3, 4, 5, 6, 7, 8, 9, 10, 11, 12, 13, 14] (by decide) rfl)
      refine orVK_J hm hS (fun hb q hm nx => ?_) (fun b71 H hm hS => ?_)
      ·
        refine c_op ?_
        refine ev_to (ev_var rfl) ?_
        refine c_op ?_
        refine c_dget ?_
        refine c_op ?_
        refine ev_to (ev_fz (ev_var rfl)) ?_
        refine ev_to (ev_var rfl) ?_
        obtain ⟨j72, x73, hx73, hm⟩ := wp_ixJ hm
        refine ixK (x := (x73 : (List (Kt × ((Int × Str) × Any))))) (hS.sel [0, 1, 2, 3, 4, 5, 6, 7, 8, 9, 10, 11, 12, 13] (by decide) rfl : Sep H (listE dictT p20 (s23.2.2 : (List (List (Kt × ((Int × Str) × Any))))) :: [imA u61 (x57 : Any), stA p2 (r56.2 : T3 Int Script Int), lstA p55 ([(Any.int (r52.1 % 3)), (Any.str ("w" : Str)), Any.non, (Any.bl true), (Any.bl false), (Any.tup [(Any.str ("a" : Str)), (Any.int 1)])] : (List Any)), imA (.ref p53) ((Any.tup [(Any.str ("a" : Str)), (Any.int 1)]) : Any), imA (.ref p50) ((y46, x49) : (Int × Str)), lstA p47 ([("ann" : Str), ("an" : Str), ("b" : Str), ("annz" : Str)] : (List Str)), lstA p42 ([4, 4, 10 ^ (6 : Int).toNat] : (List Int)), imA (.ref p39) (r38.1 : Kt), lstA p8 (y9 : (List Str)), lstA p22 (cutL v_law_script.ns none (some (60)) : (List Int)), listE RegistersA p16 (s23.2.1 : (List Registers)), imA (.ref ad_v_law_script) v_law_script, F] : List (Asn G))) hx73 fun ps74 p75 hl76 hp77 hS => ?_
        have hS : Sep H ([dictT p75 (x73 : (List (Kt × ((Int × Str) × Any)))), listH dictT p20 ps74 (s23.2.2 : (List (List (Kt × ((Int × Str) × Any))))) j72, imA u61 (x57 : Any), stA p2 (r56.2 : T3 Int Script Int), lstA p55 ([(Any.int (r52.1 % 3)), (Any.str ("w" : Str)), Any.non, (Any.bl true), (Any.bl false), (Any.tup [(Any.str ("a" : Str)), (Any.int 1)])] : (List Any)), imA (.ref p53) ((Any.tup [(Any.str ("a" : Str)), (Any.int 1)]) : Any), imA (.ref p50) ((y46, x49) : (Int × Str)), lstA p47 ([("ann" : Str), ("an" : Str), ("b" : Str), ("annz" : Str)] : (List Str)), lstA p42 ([4, 4, 10 ^ (6 : Int).toNat] : (List Int)), imA (.ref p39) (r38.1 : Kt), lstA p8 (y9 : (List Str)), lstA p22 (cutL v_law_script.ns none (some (60)) : (List Int)), listE RegistersA p16 (s23.2.1 : (List Registers)), imA (.ref ad_v_law_script) v_law_script, F] : List (Asn G)) := hS
        refine k_dget1 ?_
        refine ev_to (ev_var rfl) ?_
        obtain ⟨y78, hy78, hm⟩ := wp_dgetG hm
        obtain ⟨v79, g80, hv81⟩ := dget_someT hS (i := 0) rfl (hS.im (i := 9) rfl) hy78
        obtain ⟨a82, rfl⟩ := isref hv81
        refine k_dgetT g80 ?_
        have hS := hS.addIm (v := (.ref a82)) (x := (y78 : ((Int × Str) × Any))) hv81
        refine ev_to ev_c ?_
        obtain ⟨u84, u85, hT88, h86, h87⟩ := im2 (hS.im (i := 0) rfl)
        obtain ⟨a89, rfl⟩ := isref h86
        refine r_ixT hT88 rfl ?_
        have hS := hS.addIm (v := (.ref a89)) (x := (y78.1 : (Int × Str))) h86
        refine ev_op2 (ev_gtS ev_c ev_c (hS.im (i := 8) rfl) (hS.im (i := 0) rfl)) ?_
        have hS : Sep H ([listE dictT p20 (s23.2.2 : (List (List (Kt × ((Int × Str) × Any))))), imA (.ref a89) (y78.1 : (Int × Str)), imA (.ref a82) (y78 : ((Int × Str) × Any)), imA u61 (x57 : Any), stA p2 (r56.2 : T3 Int Script Int), lstA p55 ([(Any.int (r52.1 % 3)), (Any.str ("w" : Str)), Any.non, (Any.bl true), (Any.bl false), (Any.tup [(Any.str ("a" : Str)), (Any.int 1)])] : (List Any)), imA (.ref p53) ((Any.tup [(Any.str ("a" : Str)), (Any.int 1)]) : Any), imA (.ref p50) ((y46, x49) : (Int × Str)), lstA p47 ([("ann" : Str), ("an" : Str), ("b" : Str), ("annz" : Str)] : (List Str)), lstA p42 ([4, 4, 10 ^ (6 : Int).toNat] : (List Int)), imA (.ref p39) (r38.1 : Kt), lstA p8 (y9 : (List Str)), lstA p22 (cutL v_law_script.ns none (some (60)) : (List Int)), listE RegistersA p16 (s23.2.1 : (List Registers)), imA (.ref ad_v_law_script) v_law_script, F] : List (Asn G)) := unfocus0 hl76 hp77 hx73.2 (hS.sel [2, 3, 0, 1, 4, 5, 6, 7, 8, 9, 10, 11, 12, 13, 14, 15, 16] (by decide) rfl)
        exact nx _ _ hm (hS.sel [0, 3, 4, 5, 6, 7, 8, 9, 10, 11, 12, 13, 14, 15] (by decide) rfl)
      ·
        refine c_set (σ' := [some (.ref ad_v_law_script), some (.ref p2), some (.str (r3.1)), some (.ref p8), some (.ref p16), some (.ref p20), some (.int (x24)), some (.int (y37)), some (.ref p39), some (.int (y46)), some (.ref p50), some u61, some (.bl (b71)), w33, w34]) rfl ?_
        refine sq_nx ?_
        refine f_seq ?_
        refine c_asg ?_
        refine c_meth ?_
        refine c_op ?_
        refine ev_to (ev_fz (ev_var rfl)) ?_
        refine ev_to (ev_var rfl) ?_
        obtain ⟨j91, x92, hx92, hm⟩ := wp_ixJ hm
        refine ixK (x := (x92 : Registers)) (hS.sel [11, 0, 1, 2, 3, 4, 5, 6, 7, 8, 9, 10, 12, 13] (by decide) rfl : Sep H (listE RegistersA p16 (s23.2.1 : (List Registers)) :: [listE dictT p20 (s23.2.2 : (List (List (Kt × ((Int × Str) × Any))))), imA u61 (x57 : Any), stA p2 (r56.2 : T3 Int Script Int), lstA p55 ([(Any.int (r52.1 % 3)), (Any.str ("w" : Str)), Any.non, (Any.bl true), (Any.bl false), (Any.tup [(Any.str ("a" : Str)), (Any.int 1)])] : (List Any)), imA (.ref p53) ((Any.tup [(Any.str ("a" : Str)), (Any.int 1)]) : Any), imA (.ref p50) ((y46, x49) : (Int × Str)), lstA p47 ([("ann" : Str), ("an" : Str), ("b" : Str), ("annz" : Str)] : (List Str)), lstA p42 ([4, 4, 10 ^ (6 : Int).toNat] : (List Int)), imA (.ref p39) (r38.1 : Kt), lstA p8 (y9 : (List Str)), lstA p22 (cutL v_law_script.ns none (some (60)) : (List Int)), imA (.ref ad_v_law_script) v_law_script, F] : List (Asn G))) hx92 fun ps93 p94 hl95 hp96 hS => ?_
        have hS : Sep H ([RegistersA p94 x92, listH RegistersA p16 ps93 (s23.2.1 : (List Registers)) j91, listE dictT p20 (s23.2.2 : (List (List (Kt × ((Int × Str) × Any))))), imA u61 (x57 : Any), stA p2 (r56.2 : T3 Int Script Int), lstA p55 ([(Any.int (r52.1 % 3)), (Any.str ("w" : Str)), Any.non, (Any.bl true), (Any.bl false), (Any.tup [(Any.str ("a" : Str)), (Any.int 1)])] : (List Any)), imA (.ref p53) ((Any.tup [(Any.str ("a" : Str)), (Any.int 1)]) : Any), imA (.ref p50) ((y46, x49) : (Int × Str)), lstA p47 ([("ann" : Str), ("an" : Str), ("b" : Str), ("annz" : Str)] : (List Str)), lstA p42 ([4, 4, 10 ^ (6 : Int).toNat] : (List Int)), imA (.ref p39) (r38.1 : Kt), lstA p8 (y9 : (List Str)), lstA p22 (cutL v_law_script.ns none (some (60)) : (List Int)), imA (.ref ad_v_law_script) v_law_script, F] : List (Asn G)) := hS
        obtain ⟨d97, _, hO98⟩ := ins_Registers hS (i := 0) rfl
        refine ⟨_, _, _, rfl, hO98, rfl, ?_⟩
        refine ea_to (ea_cons (ev_var rfl) (ea_cons (ev_var rfl) (ea_cons (ev_var rfl) ea_nil))) ?_
        refine ⟨p94, (x92 : Registers), p39, (r38.1 : Kt), p50, ((y46, x49) : (Int × Str)), u61, (x57 : Any), star [listH RegistersA p16 ps93 (s23.2.1 : (List Registers)) j91, listE dictT p20 (s23.2.2 : (List (List (Kt × ((Int × Str) × Any))))), imA u61 (x57 : Any), stA p2 (r56.2 : T3 Int Script Int), lstA p55 ([(Any.int (r52.1 % 3)), (Any.str ("w" : Str)), Any.non, (Any.bl true), (Any.bl false), (Any.tup [(Any.str ("a" : Str)), (Any.int 1)])] : (List Any)), imA (.ref p53) ((Any.tup [(Any.str ("a" : Str)), (Any.int 1)]) : Any), imA (.ref p50) ((y46, x49) : (Int × Str)), lstA p47 ([("ann" : Str), ("an" : Str), ("b" : Str), ("annz" : Str)] : (List Str)), lstA p42 ([4, 4, 10 ^ (6 : Int).toNat] : (List Int)), imA (.ref p39) (r38.1 : Kt), lstA p8 (y9 : (List Str)), lstA p22 (cutL v_law_script.ns none (some (60)) : (List Int)), imA (.ref ad_v_law_script) v_law_script, F], rfl, (hS.im (i := 10) rfl), (hS.im (i := 7) rfl), (hS.im (i := 3) rfl), Sep.unstar (M := [RegistersA p94 x92]) (hS.sel [0, 1, 2, 3, 4, 5, 6, 7, 8, 9, 10, 11, 12, 13, 14] (by decide) rfl : Sep H (([RegistersA p94 x92] ++ [listH RegistersA p16 ps93 (s23.2.1 : (List Registers)) j91, listE dictT p20 (s23.2.2 : (List (List (Kt × ((Int × Str) × Any))))), imA u61 (x57 : Any), stA p2 (r56.2 : T3 Int Script Int), lstA p55 ([(Any.int (r52.1 % 3)), (Any.str ("w" : Str)), Any.non, (Any.bl true), (Any.bl false), (Any.tup [(Any.str ("a" : Str)), (Any.int 1)])] : (List Any)), imA (.ref p53) ((Any.tup [(Any.str ("a" : Str)), (Any.int 1)]) : Any), imA (.ref p50) ((y46, x49) : (Int × Str)), lstA p47 ([("ann" : Str), ("an" : Str), ("b" : Str), ("annz" : Str)] : (List Str)), lstA p42 ([4, 4, 10 ^ (6 : Int).toNat] : (List Int)), imA (.ref p39) (r38.1 : Kt), lstA p8 (y9 : (List Str)), lstA p22 (cutL v_law_script.ns none (some (60)) : (List Int)), imA (.ref ad_v_law_script) v_law_script, F] : List (Asn G)))), R.wp_mono (R.wp_bind hm) (fun r99 hm H hS => ?_) (fun _ z => z)⟩
        have hS : Sep H ([RegistersA p94 r99.2, listH RegistersA p16 ps93 (s23.2.1 : (List Registers)) j91, listE dictT p20 (s23.2.2 : (List (List (Kt × ((Int × Str) × Any))))), imA u61 (x57 : Any), stA p2 (r56.2 : T3 Int Script Int), lstA p55 ([(Any.int (r52.1 % 3)), (Any.str ("w" : Str)), Any.non, (Any.bl true), (Any.bl false), (Any.tup [(Any.str ("a" : Str)), (Any.int 1)])] : (List Any)), imA (.ref p53) ((Any.tup [(Any.str ("a" : Str)), (Any.int 1)]) : Any), imA (.ref p50) ((y46, x49) : (Int × Str)), lstA p47 ([("ann" : Str), ("an" : Str), ("b" : Str), ("annz" : Str)] : (List Str)), lstA p42 ([4, 4, 10 ^ (6 : Int).toNat] : (List Int)), imA (.ref p39) (r38.1 : Kt), lstA p8 (y9 : (List Str)), lstA p22 (cutL v_law_script.ns none (some (60)) : (List Int)), imA (.ref ad_v_law_script) v_law_script, F] : List (Asn G)) := Sep.star (M := [RegistersA p94 r99.2]) hS
        refine c_set (σ' := [some (.ref ad_v_law_script), some (.ref p2), some (.str (r3.1)), some (.ref p8), some (.ref p16), some (.ref p20), some (.int (x24)), some (.int (y37)), some (.ref p39), some (.int (y46)), some (.ref p50), some u61, some (.bl (b71)), some (.bl (r99.1)), w34]) rfl ?_
        have hS : Sep H ([listE RegistersA p16 (s23.2.1.set j91 r99.2 : (List Registers)), listE dictT p20 (s23.2.2 : (List (List (Kt × ((Int × Str) × Any))))), imA u61 (x57 : Any), stA p2 (r56.2 : T3 Int Script Int), lstA p55 ([(Any.int (r52.1 % 3)), (Any.str ("w" : Str)), Any.non, (Any.bl true), (Any.bl false), (Any.tup [(Any.str ("a" : Str)), (Any.int 1)])] : (List Any)), imA (.ref p53) ((Any.tup [(Any.str ("a" : Str)), (Any.int 1)]) : Any), imA (.ref p50) ((y46, x49) : (Int × Str)), lstA p47 ([("ann" : Str), ("an" : Str), ("b" : Str), ("annz" : Str)] : (List Str)), lstA p42 ([4, 4, 10 ^ (6 : Int).toNat] : (List Int)), imA (.ref p39) (r38.1 : Kt), lstA p8 (y9 : (List Str)), lstA p22 (cutL v_law_script.ns none (some (60)) : (List Int)), imA (.ref ad_v_law_script) v_law_script, F] : List (Asn G)) := unfocusE (y := (r99.2 : Registers)) hl95 hp96 (hS.sel [0, 1, 2, 3, 4, 5, 6, 7, 8, 9, 10, 11, 12, 13, 14] (by decide) rfl)
        refine sq_nx ?_
        refine f_seq ?_
        refine f_if ?_
        refine et_to (et_or (et_not (et_B (ev_isi (G := G) (x := (.bl (r99.1))) (T := "bool") (U := "bool") (b := true) (ev_var rfl) ev_c (.base (.bl _)) (by decide +kernel)))) fun _ => (et_test (ev_neB (ev_var rfl) (ev_var rfl)))) ?_
        obtain ⟨hy, hn⟩ := R.wp_if hm
        refine ifK_2 (fun hb100 => ?_) (fun hb100 => ?_)
        · have hm := hy hb100
          refine c_ret ?_
          refine ev_to ev_c ?_
          exact (ho35 _ hm) _ (hS.sel [13] (by decide) rfl)
        · have hm := hn (by first | (rw [hb100]; decide) | simpa using hb100)
          refine st_nx ?_
          refine sq_nx ?_
          refine f_seq ?_
          refine f_if ?_
          refine et_to (et_B (ev_var rfl)) ?_
          refine ifK_J (τ := (List (List (Kt × ((Int × Str) × Any))))) (fun (s101 : (List (List (Kt × ((Int × Str) × Any))))) (σ : L2.St) (H : Hp) => σ = [some (.ref ad_v_law_script), some (.ref p2), some (.str (r3.1)), some (.ref p8), some (.ref p16), some (.ref p20), some (.int (x24)), some (.int (y37)), some (.ref p39), some (.int (y46)), some (.ref p50), some u61, some (.bl (b71)), some (.bl (r99.1)), w34] ∧ Sep H ([listE RegistersA p16 (s23.2.1.set j91 r99.2 : (List Registers)), listE dictT p20 (s101 : (List (List (Kt × ((Int × Str) × Any))))), imA u61 (x57 : Any), stA p2 (r56.2 : T3 Int Script Int), lstA p55 ([(Any.int (r52.1 % 3)), (Any.str ("w" : Str)), Any.non, (Any.bl true), (Any.bl false), (Any.tup [(Any.str ("a" : Str)), (Any.int 1)])] : (List Any)), imA (.ref p53) ((Any.tup [(Any.str ("a" : Str)), (Any.int 1)]) : Any), imA (.ref p50) ((y46, x49) : (Int × Str)), lstA p47 ([("ann" : Str), ("an" : Str), ("b" : Str), ("annz" : Str)] : (List Str)), lstA p42 ([4, 4, 10 ^ (6 : Int).toNat] : (List Int)), imA (.ref p39) (r38.1 : Kt), lstA p8 (y9 : (List Str)), lstA p22 (cutL v_law_script.ns none (some (60)) : (List Int)), imA (.ref ad_v_law_script) v_law_script, F] : List (Asn G))) hm (fun hb q hm nx => ?_) (fun hb q hm nx => ?_) (fun s101 σ H hm hI => ?_)
          ·
            refine c_asgS ?_
            refine c_tup ?_
            refine ea_to (ea_cons (ev_var rfl) (ea_cons (ev_var rfl) ea_nil)) ?_
            refine k_tupP (x := (((y46, x49), x57) : ((Int × Str) × Any))) hS (fun H' p h s => mk2 (hS.im (i := 6) rfl) (hS.im (i := 2) rfl) h s) (by show 2 ≤ sizeLine; decide) fun p102 H hS => ?_
            refine c_op ?_
            refine ev_to (ev_fz (ev_var rfl)) ?_
            refine ev_to (ev_var rfl) ?_
            obtain ⟨j104, x105, hx105, hm⟩ := wp_ixJ hm
            refine ixK (x := (x105 : (List (Kt × ((Int × Str) × Any))))) (hS.sel [2, 0, 1, 3, 4, 5, 6, 7, 8, 9, 10, 11, 12, 13, 14] (by decide) rfl : Sep H (listE dictT p20 (s23.2.2 : (List (List (Kt × ((Int × Str) × Any))))) :: [imA (.ref p102) (((y46, x49), x57) : ((Int × Str) × Any)), listE RegistersA p16 (s23.2.1.set j91 r99.2 : (List Registers)), imA u61 (x57 : Any), stA p2 (r56.2 : T3 Int Script Int), lstA p55 ([(Any.int (r52.1 % 3)), (Any.str ("w" : Str)), Any.non, (Any.bl true), (Any.bl false), (Any.tup [(Any.str ("a" : Str)), (Any.int 1)])] : (List Any)), imA (.ref p53) ((Any.tup [(Any.str ("a" : Str)), (Any.int 1)]) : Any), imA (.ref p50) ((y46, x49) : (Int × Str)), lstA p47 ([("ann" : Str), ("an" : Str), ("b" : Str), ("annz" : Str)] : (List Str)), lstA p42 ([4, 4, 10 ^ (6 : Int).toNat] : (List Int)), imA (.ref p39) (r38.1 : Kt), lstA p8 (y9 : (List Str)), lstA p22 (cutL v_law_script.ns none (some (60)) : (List Int)), imA (.ref ad_v_law_script) v_law_script, F] : List (Asn G))) hx105 fun ps106 p107 hl108 hp109 hS => ?_
            have hS : Sep H ([dictT p107 (x105 : (List (Kt × ((Int × Str) × Any)))), listH dictT p20 ps106 (s23.2.2 : (List (List (Kt × ((Int × Str) × Any))))) j104, imA (.ref p102) (((y46, x49), x57) : ((Int × Str) × Any)), listE RegistersA p16 (s23.2.1.set j91 r99.2 : (List Registers)), imA u61 (x57 : Any), stA p2 (r56.2 : T3 Int Script Int), lstA p55 ([(Any.int (r52.1 % 3)), (Any.str ("w" : Str)), Any.non, (Any.bl true), (Any.bl false), (Any.tup [(Any.str ("a" : Str)), (Any.int 1)])] : (List Any)), imA (.ref p53) ((Any.tup [(Any.str ("a" : Str)), (Any.int 1)]) : Any), imA (.ref p50) ((y46, x49) : (Int × Str)), lstA p47 ([("ann" : Str), ("an" : Str), ("b" : Str), ("annz" : Str)] : (List Str)), lstA p42 ([4, 4, 10 ^ (6 : Int).toNat] : (List Int)), imA (.ref p39) (r38.1 : Kt), lstA p8 (y9 : (List Str)), lstA p22 (cutL v_law_script.ns none (some (60)) : (List Int)), imA (.ref ad_v_law_script) v_law_script, F] : List (Asn G)) := hS
            refine ev_to (ev_var rfl) ?_
            obtain ⟨h110, hm⟩ := R.wp_need hm
            refine k_setDT (k := r38.1) (y := ((y46, x49), x57)) hS (i := 0) rfl (hS.im (i := 11) rfl) (hS.im (i := 2) rfl) h110 rfl fun H hS => ?_
            have hS : Sep H ([dictT p107 (dput x105 r38.1 ((y46, x49), x57) : (List (Kt × ((Int × Str) × Any)))), listH dictT p20 ps106 (s23.2.2 : (List (List (Kt × ((Int × Str) × Any))))) j104, imA (.ref p102) (((y46, x49), x57) : ((Int × Str) × Any)), listE RegistersA p16 (s23.2.1.set j91 r99.2 : (List Registers)), imA u61 (x57 : Any), stA p2 (r56.2 : T3 Int Script Int), lstA p55 ([(Any.int (r52.1 % 3)), (Any.str ("w" : Str)), Any.non, (Any.bl true), (Any.bl false), (Any.tup [(Any.str ("a" : Str)), (Any.int 1)])] : (List Any)), imA (.ref p53) ((Any.tup [(Any.str ("a" : Str)), (Any.int 1)]) : Any), imA (.ref p50) ((y46, x49) : (Int × Str)), lstA p47 ([("ann" : Str), ("an" : Str), ("b" : Str), ("annz" : Str)] : (List Str)), lstA p42 ([4, 4, 10 ^ (6 : Int).toNat] : (List Int)), imA (.ref p39) (r38.1 : Kt), lstA p8 (y9 : (List Str)), lstA p22 (cutL v_law_script.ns none (some (60)) : (List Int)), imA (.ref ad_v_law_script) v_law_script, F] : List (Asn G)) := hS
            have hS : Sep H ([listE dictT p20 (s23.2.2.set j104 (dput x105 r38.1 ((y46, x49), x57)) : (List (List (Kt × ((Int × Str) × Any))))), imA (.ref p102) (((y46, x49), x57) : ((Int × Str) × Any)), listE RegistersA p16 (s23.2.1.set j91 r99.2 : (List Registers)), imA u61 (x57 : Any), stA p2 (r56.2 : T3 Int Script Int), lstA p55 ([(Any.int (r52.1 % 3)), (Any.str ("w" : Str)), Any.non, (Any.bl true), (Any.bl false), (Any.tup [(Any.str ("a" : Str)), (Any.int 1)])] : (List Any)), imA (.ref p53) ((Any.tup [(Any.str ("a" : Str)), (Any.int 1)]) : Any), imA (.ref p50) ((y46, x49) : (Int × Str)), lstA p47 ([("ann" : Str), ("an" : Str), ("b" : Str), ("annz" : Str)] : (List Str)), lstA p42 ([4, 4, 10 ^ (6 : Int).toNat] : (List Int)), imA (.ref p39) (r38.1 : Kt), lstA p8 (y9 : (List Str)), lstA p22 (cutL v_law_script.ns none (some (60)) : (List Int)), imA (.ref ad_v_law_script) v_law_script, F] : List (Asn G)) := unfocusE (y := (dput x105 r38.1 ((y46, x49), x57) : (List (Kt × ((Int × Str) × Any))))) hl108 hp109 (hS.sel [0, 1, 2, 3, 4, 5, 6, 7, 8, 9, 10, 11, 12, 13, 14, 15] (by decide) rfl)
            exact nx _ _ _ hm ⟨rfl, hS.sel [2, 0, 3, 4, 5, 6, 7, 8, 9, 10, 11, 12, 13, 14] (by decide) rfl⟩
          ·
            refine st_nx ?_
            exact nx _ _ _ hm ⟨rfl, hS.sel [0, 1, 2, 3, 4, 5, 6, 7, 8, 9, 10, 11, 12, 13] (by decide) rfl⟩
          · obtain ⟨rfl, hS⟩ := hI
            refine sq_nx ?_
            refine c_for ?_
            refine c_il ?_
            refine c_fz ?_
            refine c_lst ?_
            refine ea_to (ea_cons (ev_var rfl) (ea_cons (ev_sub ev_c (ev_var rfl)) ea_nil)) ?_
            refine k_lst (α := Int) (vs := [(.int (y37)), (.int (1 - y37))]) (xs := [y37, 1 - y37]) hS ⟨rfl, ⟨rfl, True.intro⟩⟩ (by show 2 ≤ sizeLine; decide) fun p111 H hS => ?_
            refine fz_no ?_
            refine k_il hS (i := 0) rfl ?_
            refine k_forF (τ := (T3 Int Script Int)) (fun (s112 : (T3 Int Script Int)) (σ : L2.St) (H : Hp) => ∃ (w115 : Option V), σ = [some (.ref ad_v_law_script), some (.ref p2), some (.str (r3.1)), some (.ref p8), some (.ref p16), some (.ref p20), some (.int (x24)), some (.int (y37)), some (.ref p39), some (.int (y46)), some (.ref p50), some u61, some (.bl (b71)), some (.bl (r99.1)), w115] ∧ Sep H ([lstA p111 ([y37, 1 - y37] : (List Int)), listE RegistersA p16 (s23.2.1.set j91 r99.2 : (List Registers)), listE dictT p20 (s101 : (List (List (Kt × ((Int × Str) × Any))))), imA u61 (x57 : Any), stA p2 (s112 : T3 Int Script Int), lstA p55 ([(Any.int (r52.1 % 3)), (Any.str ("w" : Str)), Any.non, (Any.bl true), (Any.bl false), (Any.tup [(Any.str ("a" : Str)), (Any.int 1)])] : (List Any)), imA (.ref p53) ((Any.tup [(Any.str ("a" : Str)), (Any.int 1)]) : Any), imA (.ref p50) ((y46, x49) : (Int × Str)), lstA p47 ([("ann" : Str), ("an" : Str), ("b" : Str), ("annz" : Str)] : (List Str)), lstA p42 ([4, 4, 10 ^ (6 : Int).toNat] : (List Int)), imA (.ref p39) (r38.1 : Kt), lstA p8 (y9 : (List Str)), lstA p22 (cutL v_law_script.ns none (some (60)) : (List Int)), imA (.ref ad_v_law_script) v_law_script, F] : List (Asn G))) (im := (Im.im G)) (s := (r56.2)) (fun _ => wk_list fun _ _ ⟨_, _, h⟩ => h.sq (i := 0) rfl) ⟨_, rfl, hS.sel [0, 1, 2, 3, 4, 5, 6, 7, 8, 9, 10, 11, 12, 13, 14] (by decide) rfl⟩ hm (fun s112 x113 v114 σ H q N B hI hx hm nx bk ho116 => ?_) (fun s112 σ H hm hI => ?_)
            ·
              obtain ⟨w115, rfl, hS⟩ := hI
              cases hx
              refine c_gN (σ' := [some (.ref ad_v_law_script), some (.ref p2), some (.str (r3.1)), some (.ref p8), some (.ref p16), some (.ref p20), some (.int (x24)), some (.int (y37)), some (.ref p39), some (.int (y46)), some (.ref p50), some u61, some (.bl (b71)), some (.bl (r99.1)), some (.int (x113))]) rfl ?_
              refine f_if ?_
              refine f_or ?_
              refine f_not ?_
              refine f_B ?_
              refine c_call ?_
              refine c_cons ?_
              refine ev_to (ev_var rfl) ?_
              refine c_cons ?_
              refine c_op ?_
              refine ev_to (ev_fz (ev_var rfl)) ?_
              refine ev_to (ev_var rfl) ?_
              obtain ⟨j117, x118, hx118, hm⟩ := wp_ixJ hm
              refine ixK (x := (x118 : Registers)) (hS.sel [1, 0, 2, 3, 4, 5, 6, 7, 8, 9, 10, 11, 12, 13, 14] (by decide) rfl : Sep H (listE RegistersA p16 (s23.2.1.set j91 r99.2 : (List Registers)) :: [lstA p111 ([y37, 1 - y37] : (List Int)), listE dictT p20 (s101 : (List (List (Kt × ((Int × Str) × Any))))), imA u61 (x57 : Any), stA p2 (s112 : T3 Int Script Int), lstA p55 ([(Any.int (r52.1 % 3)), (Any.str ("w" : Str)), Any.non, (Any.bl true), (Any.bl false), (Any.tup [(Any.str ("a" : Str)), (Any.int 1)])] : (List Any)), imA (.ref p53) ((Any.tup [(Any.str ("a" : Str)), (Any.int 1)]) : Any), imA (.ref p50) ((y46, x49) : (Int × Str)), lstA p47 ([("ann" : Str), ("an" : Str), ("b" : Str), ("annz" : Str)] : (List Str)), lstA p42 ([4, 4, 10 ^ (6 : Int).toNat] : (List Int)), imA (.ref p39) (r38.1 : Kt), lstA p8 (y9 : (List Str)), lstA p22 (cutL v_law_script.ns none (some (60)) : (List Int)), imA (.ref ad_v_law_script) v_law_script, F] : List (Asn G))) hx118 fun ps119 p120 hl121 hp122 hS => ?_
              have hS : Sep H ([RegistersA p120 x118, listH RegistersA p16 ps119 (s23.2.1.set j91 r99.2 : (List Registers)) j117, lstA p111 ([y37, 1 - y37] : (List Int)), listE dictT p20 (s101 : (List (List (Kt × ((Int × Str) × Any))))), imA u61 (x57 : Any), stA p2 (s112 : T3 Int Script Int), lstA p55 ([(Any.int (r52.1 % 3)), (Any.str ("w" : Str)), Any.non, (Any.bl true), (Any.bl false), (Any.tup [(Any.str ("a" : Str)), (Any.int 1)])] : (List Any)), imA (.ref p53) ((Any.tup [(Any.str ("a" : Str)), (Any.int 1)]) : Any), imA (.ref p50) ((y46, x49) : (Int × Str)), lstA p47 ([("ann" : Str), ("an" : Str), ("b" : Str), ("annz" : Str)] : (List Str)), lstA p42 ([4, 4, 10 ^ (6 : Int).toNat] : (List Int)), imA (.ref p39) (r38.1 : Kt), lstA p8 (y9 : (List Str)), lstA p22 (cutL v_law_script.ns none (some (60)) : (List Int)), imA (.ref ad_v_law_script) v_law_script, F] : List (Asn G)) := hS
              refine c_cons ?_
              refine c_op ?_
              refine ev_to (ev_fz (ev_var rfl)) ?_
              refine ev_to (ev_var rfl) ?_
              obtain ⟨j123, x124, hx124, hm⟩ := wp_ixJ hm
              refine ixK (x := (x124 : (List (Kt × ((Int × Str) × Any))))) (hS.sel [3, 0, 1, 2, 4, 5, 6, 7, 8, 9, 10, 11, 12, 13, 14, 15] (by decide) rfl : Sep H (listE dictT p20 (s101 : (List (List (Kt × ((Int × Str) × Any))))) :: [RegistersA p120 x118, listH RegistersA p16 ps119 (s23.2.1.set j91 r99.2 : (List Registers)) j117, lstA p111 ([y37, 1 - y37] : (List Int)), imA u61 (x57 : Any), stA p2 (s112 : T3 Int Script Int), lstA p55 ([(Any.int (r52.1 % 3)), (Any.str ("w" : Str)), Any.non, (Any.bl true), (Any.bl false), (Any.tup [(Any.str ("a" : Str)), (Any.int 1)])] : (List Any)), imA (.ref p53) ((Any.tup [(Any.str ("a" : Str)), (Any.int 1)]) : Any), imA (.ref p50) ((y46, x49) : (Int × Str)), lstA p47 ([("ann" : Str), ("an" : Str), ("b" : Str), ("annz" : Str)] : (List Str)), lstA p42 ([4, 4, 10 ^ (6 : Int).toNat] : (List Int)), imA (.ref p39) (r38.1 : Kt), lstA p8 (y9 : (List Str)), lstA p22 (cutL v_law_script.ns none (some (60)) : (List Int)), imA (.ref ad_v_law_script) v_law_script, F] : List (Asn G))) hx124 fun ps125 p126 hl127 hp128 hS => ?_
              have hS : Sep H ([dictT p126 (x124 : (List (Kt × ((Int × Str) × Any)))), listH dictT p20 ps125 (s101 : (List (List (Kt × ((Int × Str) × Any))))) j123, RegistersA p120 x118, listH RegistersA p16 ps119 (s23.2.1.set j91 r99.2 : (List Registers)) j117, lstA p111 ([y37, 1 - y37] : (List Int)), imA u61 (x57 : Any), stA p2 (s112 : T3 Int Script Int), lstA p55 ([(Any.int (r52.1 % 3)), (Any.str ("w" : Str)), Any.non, (Any.bl true), (Any.bl false), (Any.tup [(Any.str ("a" : Str)), (Any.int 1)])] : (List Any)), imA (.ref p53) ((Any.tup [(Any.str ("a" : Str)), (Any.int 1)]) : Any), imA (.ref p50) ((y46, x49) : (Int × Str)), lstA p47 ([("ann" : Str), ("an" : Str), ("b" : Str), ("annz" : Str)] : (List Str)), lstA p42 ([4, 4, 10 ^ (6 : Int).toNat] : (List Int)), imA (.ref p39) (r38.1 : Kt), lstA p8 (y9 : (List Str)), lstA p22 (cutL v_law_script.ns none (some (60)) : (List Int)), imA (.ref ad_v_law_script) v_law_script, F] : List (Asn G)) := hS
              refine c_cons ?_
              refine ev_to (ev_var rfl) ?_
              refine c_nil ?_
              refine ⟨p2, (s112 : (T3 Int Script Int)), p120, (x118 : Registers), p126, (x124 : (List (Kt × ((Int × Str) × Any)))), p39, (r38.1 : Kt), star [listH dictT p20 ps125 (s101 : (List (List (Kt × ((Int × Str) × Any))))) j123, listH RegistersA p16 ps119 (s23.2.1.set j91 r99.2 : (List Registers)) j117, lstA p111 ([y37, 1 - y37] : (List Int)), imA u61 (x57 : Any), lstA p55 ([(Any.int (r52.1 % 3)), (Any.str ("w" : Str)), Any.non, (Any.bl true), (Any.bl false), (Any.tup [(Any.str ("a" : Str)), (Any.int 1)])] : (List Any)), imA (.ref p53) ((Any.tup [(Any.str ("a" : Str)), (Any.int 1)]) : Any), imA (.ref p50) ((y46, x49) : (Int × Str)), lstA p47 ([("ann" : Str), ("an" : Str), ("b" : Str), ("annz" : Str)] : (List Str)), lstA p42 ([4, 4, 10 ^ (6 : Int).toNat] : (List Int)), imA (.ref p39) (r38.1 : Kt), lstA p8 (y9 : (List Str)), lstA p22 (cutL v_law_script.ns none (some (60)) : (List Int)), imA (.ref ad_v_law_script) v_law_script, F], rfl, (hS.im (i := 12) rfl), Sep.unstar (M := [stA p2 (s112 : T3 Int Script Int), RegistersA p120 x118, dictT p126 (x124 : (List (Kt × ((Int × Str) × Any))))]) (hS.sel [6, 2, 0, 1, 3, 4, 5, 7, 8, 9, 10, 11, 12, 13, 14, 15, 16] (by decide) rfl : Sep H (([stA p2 (s112 : T3 Int Script Int), RegistersA p120 x118, dictT p126 (x124 : (List (Kt × ((Int × Str) × Any))))] ++ [listH dictT p20 ps125 (s101 : (List (List (Kt × ((Int × Str) × Any))))) j123, listH RegistersA p16 ps119 (s23.2.1.set j91 r99.2 : (List Registers)) j117, lstA p111 ([y37, 1 - y37] : (List Int)), imA u61 (x57 : Any), lstA p55 ([(Any.int (r52.1 % 3)), (Any.str ("w" : Str)), Any.non, (Any.bl true), (Any.bl false), (Any.tup [(Any.str ("a" : Str)), (Any.int 1)])] : (List Any)), imA (.ref p53) ((Any.tup [(Any.str ("a" : Str)), (Any.int 1)]) : Any), imA (.ref p50) ((y46, x49) : (Int × Str)), lstA p47 ([("ann" : Str), ("an" : Str), ("b" : Str), ("annz" : Str)] : (List Str)), lstA p42 ([4, 4, 10 ^ (6 : Int).toNat] : (List Int)), imA (.ref p39) (r38.1 : Kt), lstA p8 (y9 : (List Str)), lstA p22 (cutL v_law_script.ns none (some (60)) : (List Int)), imA (.ref ad_v_law_script) v_law_script, F] : List (Asn G)))), R.wp_mono (R.wp_bind hm) (fun r129 hm H hS => ?_) (fun _ z => z)⟩
              have hS : Sep H ([stA p2 (r129.2 : T3 Int Script Int), RegistersA p120 x118, dictT p126 (x124 : (List (Kt × ((Int × Str) × Any)))), listH dictT p20 ps125 (s101 : (List (List (Kt × ((Int × Str) × Any))))) j123, listH RegistersA p16 ps119 (s23.2.1.set j91 r99.2 : (List Registers)) j117, lstA p111 ([y37, 1 - y37] : (List Int)), imA u61 (x57 : Any), lstA p55 ([(Any.int (r52.1 % 3)), (Any.str ("w" : Str)), Any.non, (Any.bl true), (Any.bl false), (Any.tup [(Any.str ("a" : Str)), (Any.int 1)])] : (List Any)), imA (.ref p53) ((Any.tup [(Any.str ("a" : Str)), (Any.int 1)]) : Any), imA (.ref p50) ((y46, x49) : (Int × Str)), lstA p47 ([("ann" : Str), ("an" : Str), ("b" : Str), ("annz" : Str)] : (List Str)), lstA p42 ([4, 4, 10 ^ (6 : Int).toNat] : (List Int)), imA (.ref p39) (r38.1 : Kt), lstA p8 (y9 : (List Str)), lstA p22 (cutL v_law_script.ns none (some (60)) : (List Int)), imA (.ref ad_v_law_script) v_law_script, F] : List (Asn G)) := Sep.star (M := [stA p2 (r129.2 : T3 Int Script Int), RegistersA p120 x118, dictT p126 (x124 : (List (Kt × ((Int × Str) × Any))))]) hS
              refine f_bl ?_
              refine f_nK ?_
              have hS : Sep H ([listE dictT p20 (s101 : (List (List (Kt × ((Int × Str) × Any))))), stA p2 (r129.2 : T3 Int Script Int), RegistersA p120 x118, listH RegistersA p16 ps119 (s23.2.1.set j91 r99.2 : (List Registers)) j117, lstA p111 ([y37, 1 - y37] : (List Int)), imA u61 (x57 : Any), lstA p55 ([(Any.int (r52.1 % 3)), (Any.str ("w" : Str)), Any.non, (Any.bl true), (Any.bl false), (Any.tup [(Any.str ("a" : Str)), (Any.int 1)])] : (List Any)), imA (.ref p53) ((Any.tup [(Any.str ("a" : Str)), (Any.int 1)]) : Any), imA (.ref p50) ((y46, x49) : (Int × Str)), lstA p47 ([("ann" : Str), ("an" : Str), ("b" : Str), ("annz" : Str)] : (List Str)), lstA p42 ([4, 4, 10 ^ (6 : Int).toNat] : (List Int)), imA (.ref p39) (r38.1 : Kt), lstA p8 (y9 : (List Str)), lstA p22 (cutL v_law_script.ns none (some (60)) : (List Int)), imA (.ref ad_v_law_script) v_law_script, F] : List (Asn G)) := unfocus0 hl127 hp128 hx124.2 (hS.sel [2, 3, 0, 1, 4, 5, 6, 7, 8, 9, 10, 11, 12, 13, 14, 15, 16] (by decide) rfl)
              have hS : Sep H ([listE RegistersA p16 (s23.2.1.set j91 r99.2 : (List Registers)), listE dictT p20 (s101 : (List (List (Kt × ((Int × Str) × Any))))), stA p2 (r129.2 : T3 Int Script Int), lstA p111 ([y37, 1 - y37] : (List Int)), imA u61 (x57 : Any), lstA p55 ([(Any.int (r52.1 % 3)), (Any.str ("w" : Str)), Any.non, (Any.bl true), (Any.bl false), (Any.tup [(Any.str ("a" : Str)), (Any.int 1)])] : (List Any)), imA (.ref p53) ((Any.tup [(Any.str ("a" : Str)), (Any.int 1)]) : Any), imA (.ref p50) ((y46, x49) : (Int × Str)), lstA p47 ([("ann" : Str), ("an" : Str), ("b" : Str), ("annz" : Str)] : (List Str)), lstA p42 ([4, 4, 10 ^ (6 : Int).toNat] : (List Int)), imA (.ref p39) (r38.1 : Kt), lstA p8 (y9 : (List Str)), lstA p22 (cutL v_law_script.ns none (some (60)) : (List Int)), imA (.ref ad_v_law_script) v_law_script, F] : List (Asn G)) := unfocus0 hl121 hp122 hx118.2 (hS.sel [2, 3, 0, 1, 4, 5, 6, 7, 8, 9, 10, 11, 12, 13, 14, 15] (by decide) rfl)
              refine orK_T (τ := (T3 Int Script Int)) (s0 := r129.2) (fun (s130 : (T3 Int Script Int)) => ([listE RegistersA p16 (s23.2.1.set j91 r99.2 : (List Registers)), listE dictT p20 (s101 : (List (List (Kt × ((Int × Str) × Any))))), stA p2 (s130 : T3 Int Script Int), lstA p111 ([y37, 1 - y37] : (List Int)), imA u61 (x57 : Any), lstA p55 ([(Any.int (r52.1 % 3)), (Any.str ("w" : Str)), Any.non, (Any.bl true), (Any.bl false), (Any.tup [(Any.str ("a" : Str)), (Any.int 1)])] : (List Any)), imA (.ref p53) ((Any.tup [(Any.str ("a" : Str)), (Any.int 1)]) : Any), imA (.ref p50) ((y46, x49) : (Int × Str)), lstA p47 ([("ann" : Str), ("an" : Str), ("b" : Str), ("annz" : Str)] : (List Str)), lstA p42 ([4, 4, 10 ^ (6 : Int).toNat] : (List Int)), imA (.ref p39) (r38.1 : Kt), lstA p8 (y9 : (List Str)), lstA p22 (cutL v_law_script.ns none (some (60)) : (List Int)), imA (.ref ad_v_law_script) v_law_script, F] : List (Asn G))) hm hS (fun hb q hm nx => ?_) (fun s130 b131 H hm hS => ?_)
              ·
                refine f_not ?_
                refine f_B ?_
                refine c_call ?_
                refine c_cons ?_
                refine ev_to (ev_var rfl) ?_
                refine c_cons ?_
                refine c_op ?_
                refine ev_to (ev_fz (ev_var rfl)) ?_
                refine ev_to (ev_var rfl) ?_
                obtain ⟨j132, x133, hx133, hm⟩ := wp_ixJ hm
                refine ixK (x := (x133 : Registers)) (hS.sel [0, 1, 2, 3, 4, 5, 6, 7, 8, 9, 10, 11, 12, 13, 14] (by decide) rfl : Sep H (listE RegistersA p16 (s23.2.1.set j91 r99.2 : (List Registers)) :: [listE dictT p20 (s101 : (List (List (Kt × ((Int × Str) × Any))))), stA p2 (r129.2 : T3 Int Script Int), lstA p111 ([y37, 1 - y37] : (List Int)), imA u61 (x57 : Any), lstA p55 ([(Any.int (r52.1 % 3)), (Any.str ("w" : Str)), Any.non, (Any.bl true), (Any.bl false), (Any.tup [(Any.str ("a" : Str)), (Any.int 1)])] : (List Any)), imA (.ref p53) ((Any.tup [(Any.str ("a" : Str)), (Any.int 1)]) : Any), imA (.ref p50) ((y46, x49) : (Int × Str)), lstA p47 ([("ann" : Str), ("an" : Str), ("b" : Str), ("annz" : Str)] : (List Str)), lstA p42 ([4, 4, 10 ^ (6 : Int).toNat] : (List Int)), imA (.ref p39) (r38.1 : Kt), lstA p8 (y9 : (List Str)), lstA p22 (cutL v_law_script.ns none (some (60)) : (List Int)), imA (.ref ad_v_law_script) v_law_script, F] : List (Asn G))) hx133 fun ps134 p135 hl136 hp137 hS => ?_
                have hS : Sep H ([RegistersA p135 x133, listH RegistersA p16 ps134 (s23.2.1.set j91 r99.2 : (List Registers)) j132, listE dictT p20 (s101 : (List (List (Kt × ((Int × Str) × Any))))), stA p2 (r129.2 : T3 Int Script Int), lstA p111 ([y37, 1 - y37] : (List Int)), imA u61 (x57 : Any), lstA p55 ([(Any.int (r52.1 % 3)), (Any.str ("w" : Str)), Any.non, (Any.bl true), (Any.bl false), (Any.tup [(Any.str ("a" : Str)), (Any.int 1)])] : (List Any)), imA (.ref p53) ((Any.tup [(Any.str ("a" : Str)), (Any.int 1)]) : Any), imA (.ref p50) ((y46, x49) : (Int × Str)), lstA p47 ([("ann" : Str), ("an" : Str), ("b" : Str), ("annz" : Str)] : (List Str)), lstA p42 ([4, 4, 10 ^ (6 : Int).toNat] : (List Int)), imA (.ref p39) (r38.1 : Kt), lstA p8 (y9 : (List Str)), lstA p22 (cutL v_law_script.ns none (some (60)) : (List Int)), imA (.ref ad_v_law_script) v_law_script, F] : List (Asn G)) := hS
                refine c_cons ?_
                refine c_op ?_
                refine ev_to (ev_fz (ev_var rfl)) ?_
                refine ev_to (ev_var rfl) ?_
                obtain ⟨j138, x139, hx139, hm⟩ := wp_ixJ hm
                refine ixK (x := (x139 : (List (Kt × ((Int × Str) × Any))))) (hS.sel [2, 0, 1, 3, 4, 5, 6, 7, 8, 9, 10, 11, 12, 13, 14, 15] (by decide) rfl : Sep H (listE dictT p20 (s101 : (List (List (Kt × ((Int × Str) × Any))))) :: [RegistersA p135 x133, listH RegistersA p16 ps134 (s23.2.1.set j91 r99.2 : (List Registers)) j132, stA p2 (r129.2 : T3 Int Script Int), lstA p111 ([y37, 1 - y37] : (List Int)), imA u61 (x57 : Any), lstA p55 ([(Any.int (r52.1 % 3)), (Any.str ("w" : Str)), Any.non, (Any.bl true), (Any.bl false), (Any.tup [(Any.str ("a" : Str)), (Any.int 1)])] : (List Any)), imA (.ref p53) ((Any.tup [(Any.str ("a" : Str)), (Any.int 1)]) : Any), imA (.ref p50) ((y46, x49) : (Int × Str)), lstA p47 ([("ann" : Str), ("an" : Str), ("b" : Str), ("annz" : Str)] : (List Str)), lstA p42 ([4, 4, 10 ^ (6 : Int).toNat] : (List Int)), imA (.ref p39) (r38.1 : Kt), lstA p8 (y9 : (List Str)), lstA p22 (cutL v_law_script.ns none (some (60)) : (List Int)), imA (.ref ad_v_law_script) v_law_script, F] : List (Asn G))) hx139 fun ps140 p141 hl142 hp143 hS => ?_
                have hS : Sep H ([dictT p141 (x139 : (List (Kt × ((Int × Str) × Any)))), listH dictT p20 ps140 (s101 : (List (List (Kt × ((Int × Str) × Any))))) j138, RegistersA p135 x133, listH RegistersA p16 ps134 (s23.2.1.set j91 r99.2 : (List Registers)) j132, stA p2 (r129.2 : T3 Int Script Int), lstA p111 ([y37, 1 - y37] : (List Int)), imA u61 (x57 : Any), lstA p55 ([(Any.int (r52.1 % 3)), (Any.str ("w" : Str)), Any.non, (Any.bl true), (Any.bl false), (Any.tup [(Any.str ("a" : Str)), (Any.int 1)])] : (List Any)), imA (.ref p53) ((Any.tup [(Any.str ("a" : Str)), (Any.int 1)]) : Any), imA (.ref p50) ((y46, x49) : (Int × Str)), lstA p47 ([("ann" : Str), ("an" : Str), ("b" : Str), ("annz" : Str)] : (List Str)), lstA p42 ([4, 4, 10 ^ (6 : Int).toNat] : (List Int)), imA (.ref p39) (r38.1 : Kt), lstA p8 (y9 : (List Str)), lstA p22 (cutL v_law_script.ns none (some (60)) : (List Int)), imA (.ref ad_v_law_script) v_law_script, F] : List (Asn G)) := hS
                refine c_cons ?_
                refine ev_to (ev_fz (ev_var rfl)) ?_
                refine c_nil ?_
                refine ⟨p2, (r129.2 : (T3 Int Script Int)), p135, (x133 : Registers), p141, (x139 : (List (Kt × ((Int × Str) × Any)))), p8, (y9 : (List Str)), star [listH dictT p20 ps140 (s101 : (List (List (Kt × ((Int × Str) × Any))))) j138, listH RegistersA p16 ps134 (s23.2.1.set j91 r99.2 : (List Registers)) j132, lstA p111 ([y37, 1 - y37] : (List Int)), imA u61 (x57 : Any), lstA p55 ([(Any.int (r52.1 % 3)), (Any.str ("w" : Str)), Any.non, (Any.bl true), (Any.bl false), (Any.tup [(Any.str ("a" : Str)), (Any.int 1)])] : (List Any)), imA (.ref p53) ((Any.tup [(Any.str ("a" : Str)), (Any.int 1)]) : Any), imA (.ref p50) ((y46, x49) : (Int × Str)), lstA p47 ([("ann" : Str), ("an" : Str), ("b" : Str), ("annz" : Str)] : (List Str)), lstA p42 ([4, 4, 10 ^ (6 : Int).toNat] : (List Int)), imA (.ref p39) (r38.1 : Kt), lstA p22 (cutL v_law_script.ns none (some (60)) : (List Int)), imA (.ref ad_v_law_script) v_law_script, F], rfl, Sep.unstar (M := [stA p2 (r129.2 : T3 Int Script Int), RegistersA p135 x133, dictT p141 (x139 : (List (Kt × ((Int × Str) × Any)))), lstA p8 (y9 : (List Str))]) (hS.sel [4, 2, 0, 13, 1, 3, 5, 6, 7, 8, 9, 10, 11, 12, 14, 15, 16] (by decide) rfl : Sep H (([stA p2 (r129.2 : T3 Int Script Int), RegistersA p135 x133, dictT p141 (x139 : (List (Kt × ((Int × Str) × Any)))), lstA p8 (y9 : (List Str))] ++ [listH dictT p20 ps140 (s101 : (List (List (Kt × ((Int × Str) × Any))))) j138, listH RegistersA p16 ps134 (s23.2.1.set j91 r99.2 : (List Registers)) j132, lstA p111 ([y37, 1 - y37] : (List Int)), imA u61 (x57 : Any), lstA p55 ([(Any.int (r52.1 % 3)), (Any.str ("w" : Str)), Any.non, (Any.bl true), (Any.bl false), (Any.tup [(Any.str ("a" : Str)), (Any.int 1)])] : (List Any)), imA (.ref p53) ((Any.tup [(Any.str ("a" : Str)), (Any.int 1)]) : Any), imA (.ref p50) ((y46, x49) : (Int × Str)), lstA p47 ([("ann" : Str), ("an" : Str), ("b" : Str), ("annz" : Str)] : (List Str)), lstA p42 ([4, 4, 10 ^ (6 : Int).toNat] : (List Int)), imA (.ref p39) (r38.1 : Kt), lstA p22 (cutL v_law_script.ns none (some (60)) : (List Int)), imA (.ref ad_v_law_script) v_law_script, F] : List (Asn G)))), R.wp_mono (R.wp_bind hm) (fun r144 hm H hS => ?_) (fun _ z => z)⟩
                have hS : Sep H ([stA p2 (r144.2 : T3 Int Script Int), RegistersA p135 x133, dictT p141 (x139 : (List (Kt × ((Int × Str) × Any)))), lstA p8 (y9 : (List Str)), listH dictT p20 ps140 (s101 : (List (List (Kt × ((Int × Str) × Any))))) j138, listH RegistersA p16 ps134 (s23.2.1.set j91 r99.2 : (List Registers)) j132, lstA p111 ([y37, 1 - y37] : (List Int)), imA u61 (x57 : Any), lstA p55 ([(Any.int (r52.1 % 3)), (Any.str ("w" : Str)), Any.non, (Any.bl true), (Any.bl false), (Any.tup [(Any.str ("a" : Str)), (Any.int 1)])] : (List Any)), imA (.ref p53) ((Any.tup [(Any.str ("a" : Str)), (Any.int 1)]) : Any), imA (.ref p50) ((y46, x49) : (Int × Str)), lstA p47 ([("ann" : Str), ("an" : Str), ("b" : Str), ("annz" : Str)] : (List Str)), lstA p42 ([4, 4, 10 ^ (6 : Int).toNat] : (List Int)), imA (.ref p39) (r38.1 : Kt), lstA p22 (cutL v_law_script.ns none (some (60)) : (List Int)), imA (.ref ad_v_law_script) v_law_script, F] : List (Asn G)) := Sep.star (M := [stA p2 (r144.2 : T3 Int Script Int), RegistersA p135 x133, dictT p141 (x139 : (List (Kt × ((Int × Str) × Any)))), lstA p8 (y9 : (List Str))]) hS
                refine f_bl ?_
                refine f_nK ?_
                have hS : Sep H ([listE dictT p20 (s101 : (List (List (Kt × ((Int × Str) × Any))))), stA p2 (r144.2 : T3 Int Script Int), RegistersA p135 x133, lstA p8 (y9 : (List Str)), listH RegistersA p16 ps134 (s23.2.1.set j91 r99.2 : (List Registers)) j132, lstA p111 ([y37, 1 - y37] : (List Int)), imA u61 (x57 : Any), lstA p55 ([(Any.int (r52.1 % 3)), (Any.str ("w" : Str)), Any.non, (Any.bl true), (Any.bl false), (Any.tup [(Any.str ("a" : Str)), (Any.int 1)])] : (List Any)), imA (.ref p53) ((Any.tup [(Any.str ("a" : Str)), (Any.int 1)]) : Any), imA (.ref p50) ((y46, x49) : (Int × Str)), lstA p47 ([("ann" : Str), ("an" : Str), ("b" : Str), ("annz" : Str)] : (List Str)), lstA p42 ([4, 4, 10 ^ (6 : Int).toNat] : (List Int)), imA (.ref p39) (r38.1 : Kt), lstA p22 (cutL v_law_script.ns none (some (60)) : (List Int)), imA (.ref ad_v_law_script) v_law_script, F] : List (Asn G)) := unfocus0 hl142 hp143 hx139.2 (hS.sel [2, 4, 0, 1, 3, 5, 6, 7, 8, 9, 10, 11, 12, 13, 14, 15, 16] (by decide) rfl)
                have hS : Sep H ([listE RegistersA p16 (s23.2.1.set j91 r99.2 : (List Registers)), listE dictT p20 (s101 : (List (List (Kt × ((Int × Str) × Any))))), stA p2 (r144.2 : T3 Int Script Int), lstA p8 (y9 : (List Str)), lstA p111 ([y37, 1 - y37] : (List Int)), imA u61 (x57 : Any), lstA p55 ([(Any.int (r52.1 % 3)), (Any.str ("w" : Str)), Any.non, (Any.bl true), (Any.bl false), (Any.tup [(Any.str ("a" : Str)), (Any.int 1)])] : (List Any)), imA (.ref p53) ((Any.tup [(Any.str ("a" : Str)), (Any.int 1)]) : Any), imA (.ref p50) ((y46, x49) : (Int × Str)), lstA p47 ([("ann" : Str), ("an" : Str), ("b" : Str), ("annz" : Str)] : (List Str)), lstA p42 ([4, 4, 10 ^ (6 : Int).toNat] : (List Int)), imA (.ref p39) (r38.1 : Kt), lstA p22 (cutL v_law_script.ns none (some (60)) : (List Int)), imA (.ref ad_v_law_script) v_law_script, F] : List (Asn G)) := unfocus0 hl136 hp137 hx133.2 (hS.sel [2, 4, 0, 1, 3, 5, 6, 7, 8, 9, 10, 11, 12, 13, 14, 15] (by decide) rfl)
                exact nx r144.2 _ _ hm (hS.sel [0, 1, 2, 4, 5, 6, 7, 8, 9, 10, 11, 3, 12, 13, 14] (by decide) rfl)
              ·
                obtain ⟨hy, hn⟩ := R.wp_if hm
                refine ifK_2 (fun hb145 => ?_) (fun hb145 => ?_)
                · have hm := hy hb145
                  refine c_ret ?_
                  refine ev_to ev_c ?_
                  exact (ho35 _ (ho116 _ hm)) _ (hS.sel [14] (by decide) rfl)
                · have hm := hn (by first | (rw [hb145]; decide) | simpa using hb145)
                  refine st_nx ?_
                  exact nx _ _ _ hm ⟨_, rfl, hS.sel [3, 0, 1, 4, 2, 5, 6, 7, 8, 9, 10, 11, 12, 13, 14] (by decide) rfl⟩
            · obtain ⟨w115, rfl, hS⟩ := hI
              exact nx _ _ _ hm ⟨_, _, _, _, _, _, _, _, _, rfl, hS.sel [12, 2, 1, 11, 4, 13, 14] (by decide) rfl⟩
    · obtain ⟨w26, w27, w28, w29, w30, w31, w32, w33, w34, rfl, hS⟩ := hI
      refine sq_nx ?_
      refine c_ret ?_
      refine ev_to ev_c ?_
      exact hm _ (hS.sel [6] (by decide) rfl)
end
end Lw

namespace Lw
open PySem PySem.Spec PyProof.Rows L2 Ml
def sp_top (K : PySem.W.Frag) : Sp := fun vs H Q E => ∃ (a : Addr) (ns : List Int), vs = [.ref a] ∧ SqL K H a (ns.map V.int) ∧ Only H ∧ ns.length ≤ 63 ∧ ∀ H', Q (.bl true) H'
theorem all_mk {l : PySem.W.OpenLaw} {w : World} {K : PySem.W.Frag} {h : Heap} {mg : Str → Option Value} {fa : Addr} (X : K.In h) (H : h.Ns mainGlobals mg) (hfa : mg "law" = some (.ref fa))
    {c0 : Addr}
    {f0 : Addr} {od0 an0 : Option Addr} {sl0 : Array (Option Value)} {oc0 kV0 dc0 pm0 cd0 ct0 : Value}
    {f1 : Addr} {od1 an1 : Option Addr} {sl1 : Array (Option Value)} {oc1 kV1 dc1 pm1 cd1 ct1 : Value}
    {f2 : Addr} {od2 an2 : Option Addr} {sl2 : Array (Option Value)} {oc2 kV2 dc2 pm2 cd2 ct2 : Value}
    {T2 : Addr} {Tn2 : Nat}
    {To2c : Value} {To2d : Option Addr} {To2s : Array (Option Value)}
    {f3 : Addr} {od3 an3 : Option Addr} {sl3 : Array (Option Value)} {oc3 kV3 dc3 pm3 cd3 ct3 : Value}
    {f4 : Addr} {od4 an4 : Option Addr} {sl4 : Array (Option Value)} {oc4 kV4 dc4 pm4 cd4 ct4 : Value}
    {f5 : Addr} {od5 an5 : Option Addr} {sl5 : Array (Option Value)} {oc5 kV5 dc5 pm5 cd5 ct5 : Value}
    {f6 : Addr} {od6 an6 : Option Addr} {sl6 : Array (Option Value)} {oc6 kV6 dc6 pm6 cd6 ct6 : Value}
    {f7 : Addr} {od7 an7 : Option Addr} {sl7 : Array (Option Value)} {oc7 kV7 dc7 pm7 cd7 ct7 : Value}
    {f8 : Addr} {od8 an8 : Option Addr} {sl8 : Array (Option Value)} {oc8 kV8 dc8 pm8 cd8 ct8 : Value}
    {f9 : Addr} {od9 an9 : Option Addr} {sl9 : Array (Option Value)} {oc9 kV9 dc9 pm9 cd9 ct9 : Value}
    {f10 : Addr} {od10 an10 : Option Addr} {sl10 : Array (Option Value)} {oc10 kV10 dc10 pm10 cd10 ct10 : Value}
    {f11 : Addr} {od11 an11 : Option Addr} {sl11 : Array (Option Value)} {oc11 kV11 dc11 pm11 cd11 ct11 : Value}
    {f12 : Addr} {od12 an12 : Option Addr} {sl12 : Array (Option Value)} {oc12 kV12 dc12 pm12 cd12 ct12 : Value}
    (ac0 : PySem.W.nsIn K mainGlobals "Registers" = some (some (.ref c0)))
    (a0 : PySem.W.findIn K (.ref c0) "__init__" = some (some (.ref f0)))
    (i0 : PySem.W.isFn K (.ref f0) = true)
    (l0 : K.lookup f0 = some ⟨oc0, od0, .func (PySem.W.fnOf "__init__" "Registers.__init__" (defArgs s_Registers___init__) (defBody s_Registers___init__) (defScope s_Registers___init__) .none kV0 dc0 pm0 an0 cd0 ct0), sl0⟩)
    (cc0 : PySem.W.codeIn K cd0 "Registers.__init__" = true)
    (k0 : PySem.W.keepIn K (.ref f0) = true)
    (mk0 : PySem.W.makesIn K c0 = true)
    (kc0 : PySem.W.keepIn K (.ref c0) = true)
    (a1 : PySem.W.findIn K (.ref c0) "keep" = some (some (.ref f1)))
    (i1 : PySem.W.isFn K (.ref f1) = true)
    (l1 : K.lookup f1 = some ⟨oc1, od1, .func (PySem.W.fnOf "keep" "Registers.keep" (defArgs s_Registers_keep) (defBody s_Registers_keep) (defScope s_Registers_keep) .none kV1 dc1 pm1 an1 cd1 ct1), sl1⟩)
    (cc1 : PySem.W.codeIn K cd1 "Registers.keep" = true)
    (k1 : PySem.W.keepIn K (.ref f1) = true)
    (a2 : PySem.W.findIn K (.ref c0) "get" = some (some (.ref f2)))
    (i2 : PySem.W.isFn K (.ref f2) = true)
    (l2 : K.lookup f2 = some ⟨oc2, od2, .func (PySem.W.fnOf "get" "Registers.get" (defArgs s_Registers_get) (defBody s_Registers_get) (defScope s_Registers_get) (.ref T2) kV2 dc2 pm2 an2 cd2 ct2), sl2⟩)
    (cc2 : PySem.W.codeIn K cd2 "Registers.get" = true)
    (k2 : PySem.W.keepIn K (.ref f2) = true)
    (T2l : K.lookup T2 = some ⟨To2c, To2d, .seq #[.none] Tn2, To2s⟩)
    (a3 : PySem.W.findIn K (.ref c0) "keys_of" = some (some (.ref f3)))
    (i3 : PySem.W.isFn K (.ref f3) = true)
    (l3 : K.lookup f3 = some ⟨oc3, od3, .func (PySem.W.fnOf "keys_of" "Registers.keys_of" (defArgs s_Registers_keys_of) (defBody s_Registers_keys_of) (defScope s_Registers_keys_of) .none kV3 dc3 pm3 an3 cd3 ct3), sl3⟩)
    (cc3 : PySem.W.codeIn K cd3 "Registers.keys_of" = true)
    (k3 : PySem.W.keepIn K (.ref f3) = true)
    (a4 : PySem.W.nsIn K mainGlobals "_law_begin" = some (some (.ref f4)))
    (l4 : K.lookup f4 = some ⟨oc4, od4, .func (PySem.W.fnOf "_law_begin" "_law_begin" (defArgs s_law_begin) (defBody s_law_begin) (defScope s_law_begin) .none kV4 dc4 pm4 an4 cd4 ct4), sl4⟩)
    (cc4 : PySem.W.codeIn K cd4 "_law_begin" = true)
    (k4 : PySem.W.keepIn K (.ref f4) = true)
    (a5 : PySem.W.nsIn K mainGlobals "_law_next" = some (some (.ref f5)))
    (l5 : K.lookup f5 = some ⟨oc5, od5, .func (PySem.W.fnOf "_law_next" "_law_next" (defArgs s_law_next) (defBody s_law_next) (defScope s_law_next) .none kV5 dc5 pm5 an5 cd5 ct5), sl5⟩)
    (cc5 : PySem.W.codeIn K cd5 "_law_next" = true)
    (k5 : PySem.W.keepIn K (.ref f5) = true)
    (a6 : PySem.W.nsIn K mainGlobals "_law_word" = some (some (.ref f6)))
    (l6 : K.lookup f6 = some ⟨oc6, od6, .func (PySem.W.fnOf "_law_word" "_law_word" (defArgs s_law_word) (defBody s_law_word) (defScope s_law_word) .none kV6 dc6 pm6 an6 cd6 ct6), sl6⟩)
    (cc6 : PySem.W.codeIn K cd6 "_law_word" = true)
    (k6 : PySem.W.keepIn K (.ref f6) = true)
    (a7 : PySem.W.nsIn K mainGlobals "_law_any_word" = some (some (.ref f7)))
    (l7 : K.lookup f7 = some ⟨oc7, od7, .func (PySem.W.fnOf "_law_any_word" "_law_any_word" (defArgs s_law_any_word) (defBody s_law_any_word) (defScope s_law_any_word) .none kV7 dc7 pm7 an7 cd7 ct7), sl7⟩)
    (cc7 : PySem.W.codeIn K cd7 "_law_any_word" = true)
    (k7 : PySem.W.keepIn K (.ref f7) = true)
    (a8 : PySem.W.nsIn K mainGlobals "_law_shuffled" = some (some (.ref f8)))
    (l8 : K.lookup f8 = some ⟨oc8, od8, .func (PySem.W.fnOf "_law_shuffled" "_law_shuffled" (defArgs s_law_shuffled) (defBody s_law_shuffled) (defScope s_law_shuffled) .none kV8 dc8 pm8 an8 cd8 ct8), sl8⟩)
    (cc8 : PySem.W.codeIn K cd8 "_law_shuffled" = true)
    (k8 : PySem.W.keepIn K (.ref f8) = true)
    (a9 : PySem.W.nsIn K mainGlobals "_law_key" = some (some (.ref f9)))
    (l9 : K.lookup f9 = some ⟨oc9, od9, .func (PySem.W.fnOf "_law_key" "_law_key" (defArgs s_law_key) (defBody s_law_key) (defScope s_law_key) .none kV9 dc9 pm9 an9 cd9 ct9), sl9⟩)
    (cc9 : PySem.W.codeIn K cd9 "_law_key" = true)
    (k9 : PySem.W.keepIn K (.ref f9) = true)
    (a10 : PySem.W.nsIn K mainGlobals "_law_got" = some (some (.ref f10)))
    (l10 : K.lookup f10 = some ⟨oc10, od10, .func (PySem.W.fnOf "_law_got" "_law_got" (defArgs s_law_got) (defBody s_law_got) (defScope s_law_got) .none kV10 dc10 pm10 an10 cd10 ct10), sl10⟩)
    (cc10 : PySem.W.codeIn K cd10 "_law_got" = true)
    (k10 : PySem.W.keepIn K (.ref f10) = true)
    (a11 : PySem.W.nsIn K mainGlobals "_law_looked" = some (some (.ref f11)))
    (l11 : K.lookup f11 = some ⟨oc11, od11, .func (PySem.W.fnOf "_law_looked" "_law_looked" (defArgs s_law_looked) (defBody s_law_looked) (defScope s_law_looked) .none kV11 dc11 pm11 an11 cd11 ct11), sl11⟩)
    (cc11 : PySem.W.codeIn K cd11 "_law_looked" = true)
    (k11 : PySem.W.keepIn K (.ref f11) = true)
    (a12 : PySem.W.nsIn K mainGlobals "law" = some (some (.ref f12)))
    (l12 : K.lookup f12 = some ⟨oc12, od12, .func (PySem.W.fnOf "law" "law" (defArgs s_law) (defBody s_law) (defScope s_law) .none kV12 dc12 pm12 an12 cd12 ct12), sl12⟩)
    (cc12 : PySem.W.codeIn K cd12 "law" = true)
    (k12 : PySem.W.keepIn K (.ref f12) = true)
    (pg0 : PySem.W.plainGet K c0 Str.empty = true)
    (hd0 : PySem.W.hasDictIn K c0 = true)
    (po0 : PySem.W.plainOver K c0 = true)
    (sa0 : PySem.W.findIn K (.ref c0) "__setattr__" = some (some (.builtin "object.__setattr__")))
    (nf0_0 : PySem.W.findIn K (.ref c0) "cells" = some none)
    (z_bool : PySem.W.nsIn K mainGlobals "bool" = some none)
    (z_isinstance : PySem.W.nsIn K mainGlobals "isinstance" = some none)
    (z_len : PySem.W.nsIn K mainGlobals "len" = some none)
    (z_list : PySem.W.nsIn K mainGlobals "list" = some none)
    (z_range : PySem.W.nsIn K mainGlobals "range" = some none)
    (z_sorted : PySem.W.nsIn K mainGlobals "sorted" = some none)
    (z_tuple : PySem.W.nsIn K mainGlobals "tuple" = some none)
    : ∃ fd : FuncData, (∀ (s : Shared) (v : Value), BindsTo s fd ⟨[v], []⟩ [("_law_script", v)]) ∧ ∀ base : Heap, K.In base → base.Ns mainGlobals mg → FnOk l.prog w K mg base CX0 4 fa fd ["_law_script"] (sp_top K) := by
  have e := hfa.symm.trans (PySem.W.mg_of X H a12)
  cases e
  have F0 := fun_mk (st := s_Registers___init__) l0 cc0 k0
  have b0 := F0.binds (ps := ["self"]) fun _ _ _ _ _ _ us hl => match us, hl with | [_], _ => rfl
  have F1 := fun_mk (st := s_Registers_keep) l1 cc1 k1
  have b1 := F1.binds (ps := ["self", "key", "stamp", "value"]) fun _ _ _ _ _ _ us hl => match us, hl with | [_, _, _, _], _ => rfl
  have F2 : FunD K "get" "Registers.get" (defArgs s_Registers_get) (defBody s_Registers_get) (defScope s_Registers_get) [.non] [] f2 _ := ⟨⟨oc2, od2, .ref T2, kV2, dc2, pm2, an2, cd2, ct2, sl2, rfl, l2, cc2, .inr ⟨by simp, T2, _, [.none], Tn2, rfl, T2l, rfl, (Paired.cons rfl Paired.nil)⟩, .inl rfl⟩, k2⟩
  have b2 : Binds K (PySem.W.fnOf "get" "Registers.get" (defArgs s_Registers_get) (defBody s_Registers_get) (defScope s_Registers_get) (.ref T2) kV2 dc2 pm2 an2 cd2 ct2) ["self", "key", "default"] [] := by
    obtain ⟨ds, hv, hb⟩ := F2.binds1 (ps := ["self", "key", "default"]) 3 1 (by simp) rfl (fun _ _ _ _ _ _ _ us its hl hi => match us, its, hl, hi with | [_, _, _], [_], _, _ => ⟨_, rfl, rfl⟩)
    cases hv; exact hb
  obtain ⟨ds2_2, bd2_2⟩ := F2.binds1 (ps := ["self", "key", "default"]) 2 0 (by simp) rfl (fun _ _ _ _ _ _ _ us its hl hi => match us, its, hl, hi with | [_, _], [_], _, _ => ⟨_, rfl, rfl⟩)
  have F3 := fun_mk (st := s_Registers_keys_of) l3 cc3 k3
  have b3 := F3.binds (ps := ["self", "first"]) fun _ _ _ _ _ _ us hl => match us, hl with | [_, _], _ => rfl
  have F4 := fun_mk (st := s_law_begin) l4 cc4 k4
  have b4 := F4.binds (ps := ["_law_script"]) fun _ _ _ _ _ _ us hl => match us, hl with | [_], _ => rfl
  have F5 := fun_mk (st := s_law_next) l5 cc5 k5
  have b5 := F5.binds (ps := ["_law_state"]) fun _ _ _ _ _ _ us hl => match us, hl with | [_], _ => rfl
  have F6 := fun_mk (st := s_law_word) l6 cc6 k6
  have b6 := F6.binds (ps := ["_law_state", "_law_signs", "_law_most"]) fun _ _ _ _ _ _ us hl => match us, hl with | [_, _, _], _ => rfl
  have F7 := fun_mk (st := s_law_any_word) l7 cc7 k7
  have b7 := F7.binds (ps := ["_law_state"]) fun _ _ _ _ _ _ us hl => match us, hl with | [_], _ => rfl
  have F8 := fun_mk (st := s_law_shuffled) l8 cc8 k8
  have b8 := F8.binds (ps := ["_law_state", "_law_row"]) fun _ _ _ _ _ _ us hl => match us, hl with | [_, _], _ => rfl
  have F9 := fun_mk (st := s_law_key) l9 cc9 k9
  have b9 := F9.binds (ps := ["_law_state", "_law_words"]) fun _ _ _ _ _ _ us hl => match us, hl with | [_, _], _ => rfl
  have F10 := fun_mk (st := s_law_got) l10 cc10 k10
  have b10 := F10.binds (ps := ["_law_state", "_law_one", "_law_rows", "_law_key_here"]) fun _ _ _ _ _ _ us hl => match us, hl with | [_, _, _, _], _ => rfl
  have F11 := fun_mk (st := s_law_looked) l11 cc11 k11
  have b11 := F11.binds (ps := ["_law_state", "_law_one", "_law_rows", "_law_words"]) fun _ _ _ _ _ _ us hl => match us, hl with | [_, _, _, _], _ => rfl
  have F12 := fun_mk (st := s_law) l12 cc12 k12
  have b12 := F12.binds (ps := ["_law_script"]) fun _ _ _ _ _ _ us hl => match us, hl with | [_], _ => rfl
  let G : Gx := ⟨K, fun a => none, fun i => ([c0] : List Addr).getD i 0⟩
  have hfz0 : G.fz (G.cl 0) = none := by show (none) = none; rfl
  let T : Txt G mg := {
    a_Registers___init__ := f0,
    fd_Registers___init__ := _,
    F_Registers___init__ := F0,
    b_Registers___init__ := b0,
    kp_Registers___init__ := k0,
    k_Registers := ⟨mk0, a0, i0, kc0⟩,
    a_Registers_keep := f1,
    fd_Registers_keep := _,
    F_Registers_keep := F1,
    b_Registers_keep := b1,
    kp_Registers_keep := k1,
    m_Registers_keep := ⟨a1, i1, k1⟩,
    a_Registers_get := f2,
    fd_Registers_get := _,
    F_Registers_get := F2,
    b_Registers_get := b2,
    kp_Registers_get := k2,
    ds_Registers_get_2 := ds2_2,
    bd_Registers_get_2 := bd2_2,
    m_Registers_get := ⟨a2, i2, k2⟩,
    a_Registers_keys_of := f3,
    fd_Registers_keys_of := _,
    F_Registers_keys_of := F3,
    b_Registers_keys_of := b3,
    kp_Registers_keys_of := k3,
    m_Registers_keys_of := ⟨a3, i3, k3⟩,
    a_law_begin := f4,
    fd_law_begin := _,
    F_law_begin := F4,
    b_law_begin := b4,
    kp_law_begin := k4,
    g_law_begin := PySem.W.mg_of X H a4,
    a_law_next := f5,
    fd_law_next := _,
    F_law_next := F5,
    b_law_next := b5,
    kp_law_next := k5,
    g_law_next := PySem.W.mg_of X H a5,
    a_law_word := f6,
    fd_law_word := _,
    F_law_word := F6,
    b_law_word := b6,
    kp_law_word := k6,
    g_law_word := PySem.W.mg_of X H a6,
    a_law_any_word := f7,
    fd_law_any_word := _,
    F_law_any_word := F7,
    b_law_any_word := b7,
    kp_law_any_word := k7,
    g_law_any_word := PySem.W.mg_of X H a7,
    a_law_shuffled := f8,
    fd_law_shuffled := _,
    F_law_shuffled := F8,
    b_law_shuffled := b8,
    kp_law_shuffled := k8,
    g_law_shuffled := PySem.W.mg_of X H a8,
    a_law_key := f9,
    fd_law_key := _,
    F_law_key := F9,
    b_law_key := b9,
    kp_law_key := k9,
    g_law_key := PySem.W.mg_of X H a9,
    a_law_got := f10,
    fd_law_got := _,
    F_law_got := F10,
    b_law_got := b10,
    kp_law_got := k10,
    g_law_got := PySem.W.mg_of X H a10,
    a_law_looked := f11,
    fd_law_looked := _,
    F_law_looked := F11,
    b_law_looked := b11,
    kp_law_looked := k11,
    g_law_looked := PySem.W.mg_of X H a11,
    a_law := fa,
    fd_law := _,
    F_law := F12,
    b_law := b12,
    kp_law := k12,
    g_law := PySem.W.mg_of X H a12,
    g_Registers := PySem.W.mg_of X H ac0,
    cl_Registers := ⟨pg0, hd0, po0, sa0⟩,
    n_Registers_cells := nf0_0,
    fz_Registers := hfz0,
    z_bool := PySem.W.mg_none_of X H z_bool,
    z_isinstance := PySem.W.mg_none_of X H z_isinstance,
    z_len := PySem.W.mg_none_of X H z_len,
    z_list := PySem.W.mg_none_of X H z_list,
    z_range := PySem.W.mg_none_of X H z_range,
    z_sorted := PySem.W.mg_none_of X H z_sorted,
    z_tuple := PySem.W.mg_none_of X H z_tuple }
  refine ⟨T.fd_law, fun s v => .of_eq rfl, fun base _ _ => ((ok_law T : FnOk l.prog w K mg base CX0 4 fa T.fd_law ["_law_script"] (sp_law G)).imp fun vs H Q E hh => ?_)⟩
  obtain ⟨a, ns, rfl, hs, ho, hl, hq⟩ := hh
  exact ⟨.ref a, ⟨ns⟩, star [], rfl, im_of_only (G := G) ho hs, Sep.unstar (M := []) (Sep.nil H), R.wp_of (law_ok ⟨ns⟩ hl) fun H' _ => hq H'⟩
theorem walk {l : PySem.W.OpenLaw} {q : Program} {loose : List Str} {XP : (Str → Option Value) → Heap → Prop} {YP : World → Heap → Prop} {d : DefRec} {K : Params → PySem.W.Frag} (hn : l.most = some 63) (hdf : d.params.defaults = [])
    (hY : ∀ (w : World) (h : Heap), YP w h → (K w.params).In h)
    (F : ∀ (w : World) (mg : Str → Option Value) (fa : Addr) (h : Heap), (K w.params).In h → h.Ns mainGlobals mg → mg d.name = some (.ref fa) →
      ∃ fd : FuncData, (∀ (s : Shared) (u : Value), BindsTo s fd ⟨[u], []⟩ [("_law_script", u)]) ∧ ∀ base : Heap, (K w.params).In base → base.Ns mainGlobals mg → FnOk l.prog w (K w.params) mg base CX0 4 fa fd ["_law_script"] (sp_top (K w.params))) :
    PySem.W.WalkO q loose XP YP l.row.toRowW d [] (fun f vs => PySem.call f vs) :=
  L2.walk_of (n := 63) (k := 4) (x := "_law_script") (CX := fun _ => CX0) (sp := fun w => sp_top (K w.params)) hn (by decide) hdf ⟨rfl, by decide, by decide⟩ hY F
    (fun w H a ns hl hO hS => ⟨a, ns, rfl, hS, hO, hl, fun _ => rfl⟩) fun _ _ _ _ _ z => z
end Lw
open PySem PySem.W PyProof.Rows
set_option maxRecDepth 100000 in
set_option maxHeartbeats 0 in
theorem PySem.Challenge.cw_mailroom_k45_registers_kept_holds : PySem.Challenge.rw_mailroom_k45_registers_kept.Holds := by
  w_on; o_law; k_head; (case hw => w_witness2)
  k_fill
  refine Lw.walk (l := PySem.Challenge.rw_mailroom_k45_registers_kept) rfl rfl (fun w h Y => PySem.W.kIn_of Y) ?F
  case F =>
    intro w mg fa h KX G hmg
    refine' Lw.all_mk KX G hmg ?ac0 ?a0 ?i0 ?l0 ?cc0 ?k0 ?mk0 ?kc0 ?a1 ?i1 ?l1 ?cc1 ?k1 ?a2 ?i2 ?l2 ?cc2 ?k2 ?T2l ?a3 ?i3 ?l3 ?cc3 ?k3 ?a4 ?l4 ?cc4 ?k4 ?a5 ?l5 ?cc5 ?k5 ?a6 ?l6 ?cc6 ?k6 ?a7 ?l7 ?cc7 ?k7 ?a8 ?l8 ?cc8 ?k8 ?a9 ?l9 ?cc9 ?k9 ?a10 ?l10 ?cc10 ?k10 ?a11 ?l11 ?cc11 ?k11 ?a12 ?l12 ?cc12 ?k12 ?pg0 ?hd0 ?po0 ?sa0 ?nf0_0 ?z_bool ?z_isinstance ?z_len ?z_list ?z_range ?z_sorted ?z_tuple
    (case ac0 => k_is)
    (case a0 => k_is)
    (case i0 => k_is)
    (case l0 => k_is)
    (case cc0 => k_is)
    (case k0 => k_is)
    (case mk0 => k_is)
    (case kc0 => k_is)
    (case a1 => k_is)
    (case i1 => k_is)
    (case l1 => k_is)
    (case cc1 => k_is)
    (case k1 => k_is)
    (case a2 => k_is)
    (case i2 => k_is)
    (case l2 => k_is)
    (case cc2 => k_is)
    (case k2 => k_is)
    (case T2l => k_is)
    (case a3 => k_is)
    (case i3 => k_is)
    (case l3 => k_is)
    (case cc3 => k_is)
    (case k3 => k_is)
    (case a4 => k_is)
    (case l4 => k_is)
    (case cc4 => k_is)
    (case k4 => k_is)
    (case a5 => k_is)
    (case l5 => k_is)
    (case cc5 => k_is)
    (case k5 => k_is)
    (case a6 => k_is)
    (case l6 => k_is)
    (case cc6 => k_is)
    (case k6 => k_is)
    (case a7 => k_is)
    (case l7 => k_is)
    (case cc7 => k_is)
    (case k7 => k_is)
    (case a8 => k_is)
    (case l8 => k_is)
    (case cc8 => k_is)
    (case k8 => k_is)
    (case a9 => k_is)
    (case l9 => k_is)
    (case cc9 => k_is)
    (case k9 => k_is)
    (case a10 => k_is)
    (case l10 => k_is)
    (case cc10 => k_is)
    (case k10 => k_is)
    (case a11 => k_is)
    (case l11 => k_is)
    (case cc11 => k_is)
    (case k11 => k_is)
    (case a12 => k_is)
    (case l12 => k_is)
    (case cc12 => k_is)
    (case k12 => k_is)
    (case pg0 => k_is)
    (case hd0 => k_is)
    (case po0 => k_is)
    (case sa0 => k_is)
    (case nf0_0 => k_is)
    (case z_bool => k_is)
    (case z_isinstance => k_is)
    (case z_len => k_is)
    (case z_list => k_is)
    (case z_range => k_is)
    (case z_sorted => k_is)
    (case z_tuple => k_is)

